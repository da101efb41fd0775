import PyProof.Rows.All
import Wide.All
import OpenK.AllK
import Wide.FinOn
import HandS.ForMost
import HandS.Wide
import HandS.Text
import HandS.StrMore
import HandS.Rindex
import PyProof.StrBlock2
import HandS.Lambda
import HandS.Flow
import HandS.Conv
import HandS.TupAny
import HandS.IsInst
import HandS.Zip
import HandS.Style
import HandS.NoneIn
import HandS.ExcOwn
import HandS.ForExc
import KE.KRevSl
import HandS.SortRule
import HandS.DictComp
import KE.KSortTupAny
import HandS.Deep
import HandS.TupLe
import HandS.TupMul
import HandS.More
import HandS.Dict
import KE.GoesEnum
import HandS.Nested
import HandS.NestedK
import HandS.RaiseMore
import HandS.ExcInit
import KE.KExcIs
import HandS.WordsDict
import HandS.SortInts
import HandS.Codes
import HandS.CallSlots
import HandS.Small
import HandS.Iter
import HandS.Defaults
import HandS.Head0
import HandS.Head1
import HandS.Head2
import HandS.HeadEnd
import HandS.HeadHook1
import HandS.HeadHook2
import HandS.HeadHook3
import HandS.HeadHook4
import HandS.EndTab
import PySem.Challenge.RW_wendleaf_k38_writes_and_fuses
set_option Elab.async false
set_option linter.all false
set_option maxRecDepth 100000
namespace WL
open PySem
inductive D where
  | non | bl (b : Bool) | int (i : Int) | str (s : Str) | tup (l : List D) | ref (n : Nat) | frz (l : List Int) | gd (ks : List Str) (vs : List D)
  
  | fnv (g : Nat) (pl : List Nat)
  deriving Inhabited
mutual
def D.beq : D → D → Bool
  | .non, .non => true
  | .bl a, .bl b => decide (a = b)
  | .int a, .int b => decide (a = b)
  | .str a, .str b => decide (a = b)
  | .tup a, .tup b => D.beqs a b
  | .ref a, .ref b => decide (a = b)
  | .frz a, .frz b => decide (a = b)
  | .gd a x, .gd b y => decide (a = b) && D.beqs x y
  | .fnv a p, .fnv b q => decide (a = b) && decide (p = q)
  | _, _ => false
def D.beqs : List D → List D → Bool
  | [], [] => true
  | a :: as, b :: bs => D.beq a b && D.beqs as bs
  | _, _ => false
end
mutual
theorem D.eq_of_beq : ∀ {a b : D}, D.beq a b = true → a = b
  | .non, b, h => by cases b <;> simp [D.beq] at h ⊢
  | .bl _, b, h => by cases b <;> simp [D.beq] at h ⊢; exact h
  | .int _, b, h => by cases b <;> simp [D.beq] at h ⊢; exact h
  | .str _, b, h => by cases b <;> simp [D.beq] at h ⊢; exact h
  | .tup x, b, h => by
    cases b <;> simp [D.beq] at h ⊢
    exact D.eqs_of_beqs h
  | .ref _, b, h => by cases b <;> simp [D.beq] at h ⊢; exact h
  | .frz _, b, h => by cases b <;> simp [D.beq] at h ⊢; exact h
  | .gd _ x, b, h => by
    cases b <;> simp [D.beq] at h ⊢
    exact ⟨h.1, D.eqs_of_beqs h.2⟩
  | .fnv _ _, b, h => by cases b <;> simp [D.beq] at h ⊢; exact h
theorem D.eqs_of_beqs : ∀ {a b : List D}, D.beqs a b = true → a = b
  | [], b, h => by cases b <;> simp [D.beqs] at h ⊢
  | x :: xs, b, h => by
    cases b <;> simp [D.beqs] at h ⊢
    exact ⟨D.eq_of_beq h.1, D.eqs_of_beqs h.2⟩
end
mutual
theorem D.beq_self : ∀ a : D, D.beq a a = true
  | .non => rfl
  | .bl _ => by simp [D.beq]
  | .int _ => by simp [D.beq]
  | .str _ => by simp [D.beq]
  | .tup x => by simp only [D.beq]; exact D.beqs_self x
  | .ref _ => by simp [D.beq]
  | .frz _ => by simp [D.beq]
  | .gd _ x => by simp only [D.beq, decide_true, Bool.true_and]; exact D.beqs_self x
  | .fnv _ _ => by simp [D.beq]
theorem D.beqs_self : ∀ a : List D, D.beqs a a = true
  | [] => rfl
  | x :: xs => by simp only [D.beqs, D.beq_self x, D.beqs_self xs, Bool.and_self]
end
instance : DecidableEq D := fun a b => if h : D.beq a b = true then .isTrue (D.eq_of_beq h) else .isFalse fun e => h (e ▸ D.beq_self a)
inductive Cell where
  | lst (l : List D)
  | dct (l : List (L2.Key × D))
  
  | lck (l : List (L2.Key × D))
  
  | obj (c : Nat) (fs : List (Str × D))
  deriving DecidableEq, Inhabited
abbrev Store := List Cell
abbrev Env := List (Option D)
mutual
def D.und (n : Nat) : D → Bool
  | .tup l => D.unds n l
  | .ref m => decide (m < n)
  | _ => true
def D.unds (n : Nat) : List D → Bool
  | [] => true
  | d :: ds => D.und n d && D.unds n ds
end
def Cell.und (n : Nat) : Cell → Bool
  | .lst l => D.unds n l
  | .dct l => D.unds n (l.map (·.2))
  | .lck l => D.unds n (l.map (·.2))
  | .obj _ l => D.unds n (l.map (·.2))
def agree (n : Nat) : Store → Store → Bool
  | [], _ => true
  | _ :: _, [] => false
  | c :: s, c' :: s' => (decide (c = c') || c'.und n) && agree n s s'
def trunc (s : Store) (d : D) (s' : Store) : Store := if D.und s.length d && agree s.length s s' then s'.take s.length else s'
inductive Bi where
  | len | int | str | tuple | list | sum | min | max | abs | ord | sorted | dict
  deriving DecidableEq, Repr
inductive Ty where
  | int | bool | str | tuple | list
  deriving DecidableEq, Repr
inductive Me where
  | join | split | zfill | part | rpart | upper | find | count | get | dpop | update | lpop | index | insert
  deriving DecidableEq, Repr
mutual
inductive E where
  | var (i : Nat)
  | int (i : Int)
  | str (s : Str)
  | bl (b : Bool)
  | non
  | glob (g : Nat)
  | tup (es : List E)
  | lst (es : List E)
  | bin (op : Operator) (a b : E)
  | neg (a : E)
  | not (a : E)
  | and (a b : E)
  | or (a b : E)
  | cmp (a : E) (op : CmpOp) (b : E)
  | chain (a : E) (op : CmpOp) (b : E) (op' : CmpOp) (c : E)
  | ife (c a b : E)
  | ix (a b : E)
  | slice (a : E) (lo hi : List E)
  | rev (a : E)
  | call (f : Nat) (es : List E)
  | callL (f : Nat) (as : List Ar)
  | callG (i : Nat) (as : List Ar)
  | dlit (ks : List Str) (es : List E)
  | bi (b : Bi) (es : List E)
  | isi (a : E) (t : Ty)
  | lrg (es : List E)
  | trg (es : List E)
  | app (o a : E)
  | pop (o a : E)
  | ext (o a : E)
  | lc (elt : E) (tg : Tg) (it : It) (ifs : List E) (own : List Nat)
  | meth (m : Me) (o : E) (es : List E)
  | dnew
  
  | lock (i : Nat) (e : E)
  
  | fnc (g : Nat) (pl : List Nat)
  
  | callD (f : Nat) (es : List E) (ds : List D)
  
  | fld (o : E) (f : Str)
  
  | new (c f : Nat) (es : List E) (ds : List D)
  
  | iso (a : E) (c : Nat)
  
  | mcall (tb : List (Nat × Nat)) (o : E) (es : List E) (ds : List D)
inductive Ar where
  | val (e : E)
  | fn (g : Nat) (pl : List Nat)
  | fn2 (c : E) (g h : Nat) (pl : List Nat)
  | pass (i : Nat)
  | lam (id : Nat) (caps : List Nat)
  
  | slot (i : Nat)
inductive It where
  | val (e : E)
  | rng (es : List E)
  | enm (e : E)
  | zip (a b : E)
  
  | key (e : E)
inductive Tg where
  | nm (i : Nat)
  | tup (ts : List Tg)
  | sub (o i : E)
  
  | fld (cs : List Nat) (o : E) (f : Str)
end
inductive HS where
  | ret (e : E)
  | ifret (c e : E)
  | asg (j : Nat) (e : E)
  
  | nev
structure Hd where
  cs : List Nat
  nm : Option Nat
  b : List HS
inductive S where
  | asg (t : Tg) (e : E)
  | par (is : List Nat) (es : List E)
  | aug (i : Nat) (op : Operator) (e : E)
  | augS (o i : E) (op : Operator) (e : E)
  | expr (e : E)
  | ret (e : E)
  | retN
  | iff (c : E) (a b : List S)
  | for (t : Tg) (it : It) (b : List S)
  | whl (c : E) (b : List S)
  | brk
  | cnt
  | pass
  | nev
  | rais (c : Nat) (e : E)
  | tryx (b : List S) (hs : List Hd)
  | lock (i : Nat) (x : S)
inductive R (α : Type) where
  | ok (a : α) (s : Store)
  | exc (c : Nat) (w : D) (s : Store)
  | bad
@[simp] def R.bind {α β : Type} (r : R α) (f : α → Store → R β) : R β := match r with
  | .ok a s => f a s
  | .exc c w s => .exc c w s
  | .bad => .bad
inductive RS where
  | nx (ρ : Env) (s : Store)
  | ret (d : D) (s : Store)
  | brk (ρ : Env) (s : Store)
  | cnt (ρ : Env) (s : Store)
  | exc (c : Nat) (w : D) (ρ : Env) (s : Store)
  | bad
@[simp] def R.stm {α : Type} (r : R α) (ρ : Env) (f : α → Store → RS) : RS := match r with
  | .ok a s => f a s
  | .exc c w s => .exc c w ρ s
  | .bad => .bad
def isLst (s : Store) (n : Nat) : Option (List D) := match s[n]? with
  | some (.lst l) => some l
  | _ => none
def isDct (s : Store) (n : Nat) : Option (List (L2.Key × D)) := match s[n]? with
  | some (.dct l) => some l
  | _ => none
def lckOf (s : Store) (n : Nat) : Option (List (L2.Key × D)) := match s[n]? with
  | some (.lck l) => some l
  | _ => none
def rdD (s : Store) (n : Nat) : Option (List (L2.Key × D)) := match s[n]? with
  | some (.dct l) => some l
  | some (.lck l) => some l
  | _ => none
def kD : L2.Key → D
  | .inl i => .int i
  | .inr x => .str x
def valD {κ : Type} [DecidableEq κ] (l : List (κ × D)) (k : κ) : Option D := (l.find? fun p => decide (p.1 = k)).map (·.2)
def putD {κ : Type} [DecidableEq κ] (l : List (κ × D)) (k : κ) (v : D) : List (κ × D) :=
  if (l.any fun p => decide (p.1 = k)) = true then l.map (fun p => if p.1 = k then (p.1, v) else p) else l ++ [(k, v)]
def mergeD {κ : Type} [DecidableEq κ] (l m : List (κ × D)) : List (κ × D) := m.foldl (fun acc p => putD acc p.1 p.2) l
def dropD {κ : Type} [DecidableEq κ] (l : List (κ × D)) (k : κ) : List (κ × D) := l.filter fun p => decide (p.1 ≠ k)
def keyD : D → Option L2.Key
  | .int i => some (.inl i)
  | .str x => some (.inr x)
  | _ => none
def lookD (s : Store) (d k : D) : Option (Option D) := match d with
  | .gd ks vs => (match k with
    | .str x => some (valD (ks.zip vs) x)
    | _ => none)
  | .ref n => (match rdD s n, keyD k with
    | some l, some k => some (valD l k)
    | _, _ => none)
  | _ => none
def obC (s : Store) : D → Option Nat
  | .ref n => (match s[n]? with
    | some (.obj c _) => some c
    | _ => none)
  | _ => none
def fldD (s : Store) (d : D) (f : Str) : Option D := match d with
  | .ref n => (match s[n]? with
    | some (.obj _ fs) => valD fs f
    | _ => none)
  | _ => none
def setF (cs : List Nat) (x : D) (f : Str) (v : D) (s : Store) : R Unit := match x with
  | .ref n => (match s[n]? with
    | some (.obj c fs) => if cs.contains c && decide (fs.length < 1000) then .ok () (s.set n (.obj c (putD fs f v))) else .bad
    | _ => .bad)
  | _ => .bad
def isL (s : Store) : D → Bool
  | .ref n => (isLst s n).isSome
  | _ => false
def items (s : Store) : D → Option (List D)
  | .tup l => some l
  | .ref n => isLst s n
  | .frz l => some (l.map .int)
  | _ => none
def newLst (l : List D) (s : Store) : R D := if l.length ≤ sizeLine then .ok (.ref s.length) (s ++ [.lst l]) else .bad
def truth (s : Store) : D → Option Bool
  | .non => some false
  | .bl b => some b
  | .int i => some (i != 0)
  | .str x => if x.length ≤ sizeLine then some ((x.length : Int) != 0) else none
  | d => (items s d).map fun l => !l.isEmpty
def mulSOk (x : Str) (n : Int) : Bool := decide (-(2 ^ 62) < n) && decide (n < 2 ^ 62) && decide (x.length * n.toNat ≤ sizeLine) && decide (x.length ≤ 2 ^ 62)
def mulOk (i j : Int) : Bool := (decide (-(2 ^ 64) < i) && decide (i < 2 ^ 64)) || (decide (-(2 ^ 64) < j) && decide (j < 2 ^ 64))
def binop (op : Operator) (x y : D) (s : Store) : R D := match op, x, y with
  | .Add, .int i, .int j => .ok (.int (i + j)) s
  | .Sub, .int i, .int j => .ok (.int (i - j)) s
  | .Mult, .int i, .int j => if mulOk i j then .ok (.int (i * j)) s else .bad
  | .Mod, .int i, .int j => if 0 < j then .ok (.int (i % j)) s else .bad
  | .FloorDiv, .int i, .int j => if 0 < j ∧ j.natAbs.log2 < 9000 then .ok (.int (i / j)) s else .bad
  | .Pow, .int i, .int j => if 0 ≤ j ∧ j ≤ 1000000 ∧ i.natAbs < 2 ^ 64 then .ok (.int (i ^ j.toNat)) s else .bad
  | .Add, .str a, .str b => if a.length + b.length ≤ sizeLine then .ok (.str (a ++ b)) s else .bad
  | .Add, .tup a, .tup b => if a.length + b.length ≤ sizeLine then .ok (.tup (a ++ b)) s else .bad
  | .Add, .ref a, .ref b => match isLst s a, isLst s b with
    | some l, some m => if l.length + m.length ≤ sizeLine then newLst (l ++ m) s else .bad
    | _, _ => .bad
  | .Mult, .str x, .int k => if mulSOk x k then .ok (.str (Txt.mul x k)) s else .bad
  | .Mult, .tup l, .int k => if l ≠ [] ∧ 2 ≤ k ∧ k ≤ 1000 ∧ l.length ≤ 1000 then .ok (.tup (List.replicate k.toNat l).flatten) s else .bad
  | .Mult, .ref a, .int k => match isLst s a with
    | some l => if -(2 ^ 63) ≤ k ∧ k < 2 ^ 63 ∧ l.length * k.toNat ≤ sizeLine then newLst (List.replicate k.toNat l).flatten s else .bad
    | _ => .bad
  | _, _, _ => .bad
def toPy : Nat → Store → D → Option PyData
  | 0, _, _ => none
  | n + 1, s, d => match d with
    | .non => some .none
    | .bl b => some (.bool b)
    | .int i => some (.int i)
    | .str x => some (.str x)
    | .tup l => (l.mapM (toPy n s)).map .tuple
    | .ref a => match isLst s a with
      | some l => (l.mapM (toPy n s)).map .list
      | none => none
    | .frz l => some (.list (l.map .int))
    | .gd _ _ => none
    | .fnv _ _ => none
def eqD (s : Store) (x y : D) : Option Bool := match toPy 60 s x, toPy 60 s y with
  | some a, some b => if SeqAt.shaped a && SeqAt.shaped b then some (PyData.eqv a b) else none
  | _, _ => none
def eqDs (s : Store) (r : List (L2.Key × D)) : List (L2.Key × D) → Option Bool
  | [] => some true
  | p :: l => match valD r p.1 with
    | none => some false
    | some w => match eqD s p.2 w, eqDs s r l with
      | some e, some b => some (e && b)
      | _, _ => none
def eqK (s : Store) (x y : D) : Option Bool := match x, y with
  | .ref n, .ref m => (match rdD s n, rdD s m with
    | some l, some r => if l.length = r.length then eqDs s r l else some false
    | _, _ => none)
  | _, _ => none
def orX (a b : Option Bool) : Option Bool := match a with
  | some x => some x
  | none => b
def flatD : D → Bool
  | .non | .bl _ | .int _ | .str _ => true
  | _ => false
def eqF : D → D → Bool
  | .non, .non => true
  | .bl a, .bl b => a == b
  | .bl a, .int b => (if a then 1 else 0) == b
  | .int a, .bl b => a == (if b then 1 else 0)
  | .int a, .int b => a == b
  | .str a, .str b => a == b
  | _, _ => false
def inO (s : Store) (x y : D) : Option Bool := match y with
  | .str z => (match x with
    | .str c => (match c.cps.toList with
      | [u] => some (decide (u ∈ z.cps.toList))
      | _ => none)
    | _ => none)
  | d => (lookD s d x).map (·.isSome)
def inD (s : Store) (x y : D) : Option Bool := match items s y with
  | some l => if flatD x && l.all flatD then some (l.any fun z => eqF z x) else (match toPy 60 s x, toPy 60 s y with
    | some a, some (.list ds) => if SeqAt.shaped a && SeqAt.shaped (.list ds) then some (ds.any fun z => PyData.eqv z a) else none
    | some a, some (.tuple ds) => if SeqAt.shaped a && SeqAt.shaped (.tuple ds) then some (ds.any fun z => PyData.eqv z a) else none
    | _, _ => none)
  | none => inO s x y
def cmpD (op : CmpOp) (s : Store) (x y : D) : Option Bool := match op with
  | .Eq => orX (eqD s x y) (eqK s x y)
  | .NotEq => (orX (eqD s x y) (eqK s x y)).map (!·)
  | .Is => if y = .non then some (decide (x = .non)) else (match x, y with
    | .bl a, .bl b => some (decide (a = b))
    | _, _ => none)
  | .IsNot => if y = .non then some (!decide (x = .non)) else (match x, y with
    | .bl a, .bl b => some (!decide (a = b))
    | _, _ => none)
  | .In => inD s x y
  | .NotIn => (inD s x y).map (!·)
  | .Lt => match x, y with
    | .int i, .int j => some (decide (i < j))
    | .str a, .str b => some (decide (a.cps.toList < b.cps.toList))
    | _, _ => none
  | .LtE => match x, y with
    | .int i, .int j => some (decide (i ≤ j))
    | .str a, .str b => some (!decide (b.cps.toList < a.cps.toList))
    | _, _ => none
  | .Gt => match x, y with
    | .int i, .int j => some (decide (j < i))
    | .str a, .str b => some (decide (b.cps.toList < a.cps.toList))
    | _, _ => none
  | .GtE => match x, y with
    | .int i, .int j => some (decide (j ≤ i))
    | .str a, .str b => some (!decide (a.cps.toList < b.cps.toList))
    | _, _ => none
def R.ofBool (o : Option Bool) (s : Store) : R D := match o with
  | some b => .ok (.bl b) s
  | none => .bad
def R.ofD (o : Option D) (s : Store) : R D := match o with
  | some d => .ok d s
  | none => .bad
def ixOf (n : Nat) (i : Int) : Option Nat := if 0 ≤ i then (if i < n then some i.toNat else none) else if -(n : Int) ≤ i then some (i + n).toNat else none
def atD {α : Type} (l : List α) (i : Int) : Option α := (ixOf l.length i).bind fun j => l[j]?
def ixD (s : Store) (x y : D) : Option D := match x, y with
  | .str z, .int i => if z.length ≤ sizeLine then (atD z.cps.toList i).map fun c => .str ⟨#[c]⟩ else none
  | x, .int i => (match items s x with
    | some l => atD l i
    | none => (lookD s x (.int i)).bind id)
  | x, k => (lookD s x k).bind id
def endOf (n d : Nat) : Option Int → Nat
  | none => d
  | some v => if v < 0 then (v + n).toNat else min v.toNat n
def cutD (xs : List D) (lo hi : Option Int) : List D := (xs.drop (endOf xs.length 0 lo)).take (endOf xs.length xs.length hi - endOf xs.length 0 lo)
def sliceD (s : Store) (x : D) (lo hi : Option Int) : R D := match x with
  | .tup l => .ok (.tup (cutD l lo hi)) s
  | .ref n => match isLst s n with
    | some l => newLst (cutD l lo hi) s
    | none => .bad
  | .frz l => newLst (cutD (l.map .int) lo hi) s
  | .str z => if z.length ≤ sizeLine then .ok (.str (L2.cutS z lo hi)) s else .bad
  | _ => .bad
def revD (s : Store) (x : D) : R D := match x with
  | .tup l => .ok (.tup l.reverse) s
  | .ref n => match isLst s n with
    | some l => newLst l.reverse s
    | none => .bad
  | _ => .bad
def intsOf : List D → Option (List Int)
  | [] => some []
  | .int i :: r => (intsOf r).map (i :: ·)
  | _ :: _ => none
def strsOf : List D → Option (List Str)
  | [] => some []
  | .str x :: r => (strsOf r).map (x :: ·)
  | _ :: _ => none
def pairsOf : List D → Option (List (Str × D))
  | [] => some []
  | .tup [.str x, v] :: r => (pairsOf r).map ((x, v) :: ·)
  | _ :: _ => none
def insP (x : Str × D) : List (Str × D) → List (Str × D)
  | [] => [x]
  | y :: r => if y.1.cps.toList < x.1.cps.toList then y :: insP x r else x :: y :: r
def sortP : List (Str × D) → List (Str × D)
  | [] => []
  | x :: r => insP x (sortP r)
def insS (x : Str) : List Str → List Str
  | [] => [x]
  | y :: r => if y.cps.toList < x.cps.toList then y :: insS x r else x :: y :: r
def sortS : List Str → List Str
  | [] => []
  | x :: r => insS x (sortS r)
def keysS : List (L2.Key × D) → Option (List Str)
  | [] => some []
  | (.inr x, _) :: r => (keysS r).map (x :: ·)
  | _ :: _ => none
def insN (x : Int) : List Int → List Int
  | [] => [x]
  | y :: r => if y < x then y :: insN x r else x :: y :: r
def sortN : List Int → List Int
  | [] => []
  | x :: r => insN x (sortN r)
def keysN : List (L2.Key × D) → Option (List Int)
  | [] => some []
  | (.inl x, _) :: r => (keysN r).map (x :: ·)
  | _ :: _ => none
def newDct (l : List (L2.Key × D)) (s : Store) : R D := .ok (.ref s.length) (s ++ [.dct l])
def biD (b : Bi) (ds : List D) (s : Store) : R D := match b, ds with
  | .len, [.str x] => if x.length ≤ sizeLine then .ok (.int x.length) s else .bad
  | .len, [d] => match items s d with
    | some l => .ok (.int l.length) s
    | none => (match d with
      | .ref n => (match isDct s n with
        | some l => .ok (.int l.length) s
        | none => .bad)
      | _ => .bad)
  | .int, [.int i] => .ok (.int i) s
  | .int, [.bl b] => .ok (.int (if b then 1 else 0)) s
  | .int, [.str x] => (match PySem.intText? x with
    | some n => if x.length ≤ 640 then .ok (.int n) s else .bad
    | none => .bad)
  | .str, [.str x] => .ok (.str x) s
  | .str, [.int i] => if i.natAbs.log2 < 1920 then .ok (.str (toString i)) s else .bad
  | .tuple, [d] => match items s d with
    | some l => .ok (.tup l) s
    | none => .bad
  | .list, [d] => match items s d with
    | some l => newLst l s
    | none => .bad
  | .sum, [.ref n] => match isLst s n with
    | some l => match intsOf l with
      | some ns => .ok (.int ns.sum) s
      | none => .bad
    | none => .bad
  | .min, [.int i, .int j] => .ok (.int (if j < i then j else i)) s
  | .max, [.int i, .int j] => .ok (.int (if j > i then j else i)) s
  | .abs, [.int i] => .ok (.int (if i < 0 then -i else i)) s
  | .ord, [.str x] => if x.length = 1 then .ok (.int (x.cps.getD 0 0 : Nat)) s else .bad
  | .sorted, [.ref n] => (match isLst s n with
    | some l => (match strsOf l with
      | some xs => if xs.length < 64 then newLst ((sortS xs).map .str) s else .bad
      | none => (match intsOf l with
        | some ns => newLst ((sortN ns).map .int) s
        | none => .bad))
    | none => (match isDct s n with
      | some l => (match keysS l with
        | some xs => if xs.length < 64 then newLst ((sortS xs).map .str) s else .bad
        | none => (match keysN l with
          | some ns => if ns.length < 64 then newLst ((sortN ns).map .int) s else .bad
          | none => .bad))
      | none => .bad))
  | .sorted, [.tup l] => (match pairsOf l with
    | some ps => if l.length < 64 ∧ (ps.map (·.1)).Nodup then newLst ((sortP ps).map fun p => .tup [.str p.1, p.2]) s else .bad
    | none => .bad)
  | .dict, [.ref n] => (match isDct s n with
    | some l => newDct l s
    | none => .bad)
  | _, _ => .bad
def isiD (s : Store) (d : D) (t : Ty) : Option Bool := match d with
  | .non => some false
  | .bl _ => some (decide (t = .bool ∨ t = .int))
  | .int _ => some (decide (t = .int))
  | .str _ => some (decide (t = .str))
  | .tup _ => some (decide (t = .tuple))
  | .ref n => (isLst s n).map fun _ => decide (t = .list)
  | .frz _ => none
  | .gd _ _ => none
  | .fnv _ _ => none
def rngL (a b : Int) : List D := (List.range (b - a).toNat).map fun (i : Nat) => .int (a + i)
def small (a : Int) : Bool := decide (-(2 ^ 62) ≤ a) && decide (a < 2 ^ 62)
def rngD : List D → Option (List D)
  | [.int b] => if small b then some (rngL 0 b) else none
  | [.int a, .int b] => if small a && small b then some (rngL a b) else none
  | [.int a, .int b, .int c] => if small a && small b && decide (c = -1) then some ((List.range (a - b).toNat).map fun (i : Nat) => .int (a - i)) else none
  | _ => none
def rngNew (b : Option (List D)) (k : List D → Store → R D) (s : Store) : R D := match b with
  | some l => if l.length ≤ sizeLine then k l s else .bad
  | none => .bad
def appD (o a : D) (s : Store) : R D := match o with
  | .ref n => match isLst s n with
    | some l => if l.length < sizeLine then .ok .non (s.set n (.lst (l ++ [a]))) else .bad
    | none => .bad
  | _ => .bad
def popD (o a : D) (s : Store) : R D := match o, a with
  | .ref n, .int i => match isLst s n with
    | some l => if -(2 ^ 63) ≤ i ∧ i < 2 ^ 63 then (match ixOf l.length i with
      | some k => match l[k]? with
        | some d => .ok d (s.set n (.lst (l.eraseIdx k)))
        | none => .bad
      | none => .bad) else .bad
    | none => .bad
  | _, _ => .bad
def extD (o a : D) (s : Store) : R D := match o, a with
  | .ref n, .ref m => match isLst s n, isLst s m with
    | some l, some r => if l.length + r.length ≤ sizeLine then .ok .non (s.set n (.lst (l ++ r))) else .bad
    | _, _ => .bad
  | _, _ => .bad
def setK (n : Nat) (k v : D) (s : Store) : R Unit := match isDct s n, keyD k with
  | some l, some k => if l.length < sizeLine then .ok () (s.set n (.dct (putD l k v))) else .bad
  | _, _ => .bad
def setD (o i v : D) (s : Store) : R Unit := match o, i with
  | .ref n, .int k => match isLst s n with
    | some l => match ixOf l.length k with
      | some j => .ok () (s.set n (.lst (l.set j v)))
      | none => .bad
    | none => setK n (.int k) v s
  | .ref n, k => setK n k v s
  | _, _ => .bad
def Me.isT : Me → Bool
  | .join | .split | .zfill | .part | .rpart | .upper | .find | .count => true
  | _ => false
def Me.isD : Me → Bool
  | .get | .dpop | .update => true
  | _ => false
def Me.isS : Me → Bool
  | .lpop | .index | .insert => true
  | _ => false
def meT (m : Me) (s : Store) : D → Bool
  | .str _ => m.isT
  | .gd _ _ => m.isD
  | .ref n => m.isD && (isDct s n).isSome || m.isS && (isLst s n).isSome
  | _ => false
def meD (m : Me) (x : D) (ds : List D) (s : Store) : R D := match m, x, ds with
  | .join, .str a, [d] => (match items s d with
    | some l => (match strsOf l with
      | some ys => if (ys.map (·.length)).sum + ys.length * a.length ≤ 16777216 then .ok (.str (Txt.join a ys)) s else .bad
      | none => .bad)
    | none => .bad)
  | .split, .str a, [.str b] => if b.length ≠ 0 ∧ a.length + 2 ≤ sizeLine then newLst ((Txt.split a b).map .str) s else .bad
  | .zfill, .str a, [.int i] => if PySem.PadOk i then .ok (.str (Txt.zfill a i)) s else .bad
  | .part, .str a, [.str b] => if b.length ≠ 0 ∧ a.length ≤ sizeLine then .ok (.tup [.str (Txt.partition a b).1, .str (Txt.partition a b).2.1, .str (Txt.partition a b).2.2]) s else .bad
  | .rpart, .str a, [.str b] => if b.length ≠ 0 ∧ a.length ≤ sizeLine then .ok (.tup [.str (Txt.rpartition a b).1, .str (Txt.rpartition a b).2.1, .str (Txt.rpartition a b).2.2]) s else .bad
  | .lpop, .ref n, [] => (match isLst s n with
    | some l => (match l[l.length - 1]? with
      | some d => .ok d (s.set n (.lst l.dropLast))
      | none => .bad)
    | none => .bad)
  | .index, .ref n, [.int i] => (match isLst s n with
    | some l => (match intsOf l with
      | some ns => (match ns.findIdx? (· == i) with
        | some j => .ok (.int j) s
        | none => .bad)
      | none => .bad)
    | none => .bad)
  | .insert, .ref n, [.int i, d] => (match isLst s n with
    | some l => if l.length < sizeLine ∧ 0 ≤ i ∧ i < 2 ^ 63 then .ok .non (s.set n (.lst (l.take i.toNat ++ [d] ++ l.drop i.toNat))) else .bad
    | none => .bad)
  | .upper, .str a, [] => if a.length ≤ 5592405 then .ok (.str (Txt.upper a)) s else .bad
  | .find, .str a, [.str b] => .ok (.int (Txt.find a b)) s
  | .count, .str a, [.str b] => .ok (.int (Txt.count a b)) s
  | .get, d, [k] => (match lookD s d k with
    | some o => .ok (o.getD .non) s
    | none => .bad)
  | .get, d, [k, e] => (match lookD s d k with
    | some o => .ok (o.getD e) s
    | none => .bad)
  | .update, .ref n, [.ref m] => (match isDct s n, isDct s m with
    | some l, some l2 => if n ≠ m ∧ l.length + l2.length ≤ sizeLine then .ok .non (s.set n (.dct (mergeD l l2))) else .bad
    | _, _ => .bad)
  | .dpop, .ref n, [k] => (match isDct s n, keyD k with
    | some l, some k => (match valD l k with
      | some d => .ok d (s.set n (.dct (dropD l k)))
      | none => .bad)
    | _, _ => .bad)
  | _, _, _ => .bad
def wipeE (ρ : Env) : List Nat → Env
  | [] => ρ
  | v :: vs => (wipeE ρ vs).set v none
abbrev Calls := Nat → List D → Store → R D
abbrev Globs := Nat → Option D
structure Walk where
  chk : List (Nat × List D)
  its : List D
def Walk.stays (w : Walk) (s : Store) : Bool := w.chk.all fun p => decide (isLst s p.1 = some p.2)
def walkOf (s : Store) (d : D) : Option Walk := match d with
  | .tup l => some ⟨[], l⟩
  | .frz l => some ⟨[], l.map .int⟩
  | .ref n => (isLst s n).map fun l => ⟨[(n, l)], l⟩
  | _ => none
def walkS (s : Store) : D → Option Walk
  | .str x => some ⟨[], x.cps.toList.map fun c => .str ⟨#[c]⟩⟩
  | d => walkOf s d
def enmOf (w : Walk) : Walk := ⟨w.chk, w.its.zipIdx.map fun p => .tup [.int p.2, p.1]⟩
def zipOf (w u : Walk) : Walk := ⟨w.chk ++ u.chk, (w.its.zip u.its).map fun p => .tup [p.1, p.2]⟩
def zipKind : D → D → Bool
  | .ref _, .ref _ => true
  | .tup _, .tup _ => true
  | .ref _, .tup _ => true
  | .tup _, .ref _ => true
  | _, _ => false
def R.quiet {α : Type} : R α → R α
  | .exc _ _ _ => .bad
  | r => r
def hB : Nat := 1000000
def hB2 : Nat := 2000000
def cloD (id : Nat) (caps : List D) : D := .tup [.int id, .tup caps]
def hB3 : Nat := 3000000
def hB4 : Nat := 4000000
def plD (pl : List Nat) : D := .tup (pl.map fun i => .int (i : Nat))
def cloL (id : Nat) (pl : List Nat) : D := .tup [.int id, plD pl, .non]
def fnD (g : Nat) (pl : List Nat) : D := match pl with
  | [] => cloD g []
  | _ => cloL g pl
def Ar.isVal : Ar → Bool
  | .val _ => true
  | _ => false
def fnsOf : Nat → List Ar → List Nat
  | _, [] => []
  | i, a :: as => if a.isVal then fnsOf (i + 1) as else i :: fnsOf (i + 1) as
def askD (C : Calls) (d : D) (ds : List D) (s : Store) : R D := match d with
  | .tup [.int id, .tup caps] => C id.toNat (ds ++ caps) s
  | _ => .bad
def hasP (d : D) (ds : List D) (s : Store) : R D := match d with
  | .tup [.int _, q, .non] => (match ds with
    | [p] => if q = p then .ok .non s else .bad
    | _ => .bad)
  | _ => .bad
def askL (C : Calls) (d : D) (ds : List D) (s : Store) : R D := match d with
  | .tup [.int id, _, .non] => C id.toNat ds s
  | _ => .bad
def cloC (Γ : List (Nat × D)) (C : Calls) : Calls := match Γ with
  | [] => C
  | p :: Γ => fun f ds s => if hB4 ≤ f then (match ((p :: Γ).find? fun q => decide (q.1 = f - hB4)) with
      | some q => askL C q.2 ds s
      | none => .bad)
    else if hB3 ≤ f then (match ((p :: Γ).find? fun q => decide (q.1 = f - hB3)) with
      | some q => hasP q.2 ds s
      | none => .bad)
    else if hB2 ≤ f then (match ((p :: Γ).find? fun q => decide (q.1 = f - hB2)) with
      | some q => .ok q.2 s
      | none => .bad)
    else if hB ≤ f then (match ((p :: Γ).find? fun q => decide (q.1 = f - hB)) with
      | some q => askD C q.2 ds s
      | none => .bad)
    else C f ds s
def capsOf (ρ : Env) : List Nat → Option (List D)
  | [] => some []
  | j :: js => match ρ[j]?, capsOf ρ js with
    | some (some d), some ds => some (d :: ds)
    | _, _ => none
section
def lcGo (w : Walk) (n : Nat) (f : D → Store → R (Option D)) : List D → Store → R D
  | [], s => if w.stays s then .ok (.ref n) s else .bad
  | x :: xs, s => if w.stays s then (f x s).quiet.bind fun o s1 => match o with
      | none => lcGo w n f xs s1
      | some d => match isLst s1 n with
        | some l => if l.length < sizeLine then lcGo w n f xs (s1.set n (.lst (l ++ [d]))) else .bad
        | none => .bad
    else .bad
mutual
def evE (C : Calls) (G : Globs) : E → Env → Store → R D
  | .var i, ρ, s => match ρ[i]? with
    | some (some d) => .ok d s
    | _ => .bad
  | .int i, _, s => .ok (.int i) s
  | .str x, _, s => .ok (.str x) s
  | .bl b, _, s => .ok (.bl b) s
  | .non, _, s => .ok .non s
  | .glob g, _, s => R.ofD (G g) s
  | .tup es, ρ, s => (evEs C G es ρ s).bind fun l s => if l.length ≤ sizeLine then .ok (.tup l) s else .bad
  | .lst es, ρ, s => (evEs C G es ρ s).bind fun l s => newLst l s
  | .bin op a b, ρ, s => (evE C G a ρ s).bind fun x s => (evE C G b ρ s).bind fun y s => binop op x y s
  | .neg a, ρ, s => (evE C G a ρ s).bind fun x s => match x with
    | .int i => .ok (.int (-i)) s
    | _ => .bad
  | .not a, ρ, s => (evE C G a ρ s).bind fun x s => R.ofBool ((truth s x).map (!·)) s
  | .and a b, ρ, s => (evE C G a ρ s).bind fun x s => match truth s x with
    | some true => evE C G b ρ s
    | some false => .ok x s
    | none => .bad
  | .or a b, ρ, s => (evE C G a ρ s).bind fun x s => match truth s x with
    | some true => .ok x s
    | some false => evE C G b ρ s
    | none => .bad
  | .cmp a op b, ρ, s => (evE C G a ρ s).bind fun x s => (evE C G b ρ s).bind fun y s => R.ofBool (cmpD op s x y) s
  | .chain a op b op' c, ρ, s => (evE C G a ρ s).bind fun x s => (evE C G b ρ s).bind fun y s => match cmpD op s x y with
    | some true => (evE C G c ρ s).bind fun z s => R.ofBool (cmpD op' s y z) s
    | some false => .ok (.bl false) s
    | none => .bad
  | .ife c a b, ρ, s => (evE C G c ρ s).bind fun x s => match truth s x with
    | some true => evE C G a ρ s
    | some false => evE C G b ρ s
    | none => .bad
  | .ix a b, ρ, s => (evE C G a ρ s).bind fun x s => (evE C G b ρ s).bind fun y s => R.ofD (ixD s x y) s
  | .slice a lo hi, ρ, s => (evE C G a ρ s).bind fun x s => (evEnd C G lo ρ s).bind fun l s => (evEnd C G hi ρ s).bind fun h s => sliceD s x l h
  | .rev a, ρ, s => (evE C G a ρ s).bind fun x s => revD s x
  | .call f es, ρ, s => (evEs C G es ρ s).bind fun l s => C f l s
  | .callL f as, ρ, s => (evAs C G as ρ s).bind fun l s => C f l s
  | .callG i as, ρ, s => (C (hB3 + i) [plD (fnsOf 0 as)] s).bind fun _ s => (evAs C G as ρ s).bind fun l s => C (hB4 + i) l s
  | .bi b es, ρ, s => (evEs C G es ρ s).bind fun l s => biD b l s
  | .isi a t, ρ, s => (evE C G a ρ s).bind fun x s => R.ofBool (isiD s x t) s
  | .lrg es, ρ, s => (evEs C G es ρ s).bind fun l s => rngNew (rngD l) newLst s
  | .trg es, ρ, s => (evEs C G es ρ s).bind fun l s => rngNew (rngD l) (fun l s => .ok (.tup l) s) s
  | .app o a, ρ, s => (evE C G o ρ s).bind fun x s => if isL s x then (evE C G a ρ s).bind fun y s => appD x y s else .bad
  | .pop o a, ρ, s => (evE C G o ρ s).bind fun x s => if isL s x then (evE C G a ρ s).bind fun y s => popD x y s else .bad
  | .ext o a, ρ, s => (evE C G o ρ s).bind fun x s => if isL s x then (evE C G a ρ s).bind fun y s => extD x y s else .bad
  | .lc elt tg it ifs own, ρ, s => (evIt C G it ρ s).bind fun w s =>
      lcGo w s.length (fun x s => (asgT C G tg x (wipeE ρ own) s).bind fun ρ1 s => match ifs with
        | [] => (evE C G elt ρ1 s).bind fun d s1 => .ok (some d) (trunc s d s1)
        | c :: _ => (evE C G c ρ1 s).bind fun b s1 => match truth s1 b with
          | some true => (evE C G elt ρ1 (trunc s .non s1)).bind fun d s2 => .ok (some d) (trunc (trunc s .non s1) d s2)
          | some false => .ok none (trunc s .non s1)
          | none => .bad) w.its (s ++ [.lst []])
  | .meth m o es, ρ, s => (evE C G o ρ s).bind fun x s => if meT m s x then (evEs C G es ρ s).bind fun ds s => meD m x ds s else .bad
  | .dnew, _, s => .ok (.ref s.length) (s ++ [.dct []])
  | .fnc g pl, _, s => .ok (.fnv g pl) s
  | .callD f es ds, ρ, s => (evEs C G es ρ s).bind fun l s => C f (l ++ ds) s
  | .fld o f, ρ, s => (evE C G o ρ s).bind fun x s => R.ofD (fldD s x f) s
  | .new c f es ds, ρ, s => (evEs C G es ρ s).bind fun l s => (C f (.ref s.length :: (l ++ ds)) (s ++ [.obj c []])).bind fun d s1 => if d = .non then .ok (.ref s.length) s1 else .bad
  | .mcall tb o es ds, ρ, s => (evE C G o ρ s).bind fun x s => match (obC s x).bind fun c => tb.lookup c with
    | some f => (evEs C G es ρ s).bind fun l s => C f (x :: (l ++ ds)) s
    | none => .bad
  | .iso a c, ρ, s => (evE C G a ρ s).bind fun x s => if obC s x = some c then .ok (.bl true) s else .bad
  | .lock i e, ρ, s => match ρ[i]? with
    | some (some (.ref n)) => (match isDct s n with
      | some l => (match evE C G e ρ (s.set n (.lck l)) with
        | .ok d s1 => if s1[n]? = some (.lck l) then .ok d (s1.set n (.dct l)) else .bad
        | _ => .bad)
      | none => .bad)
    | _ => .bad
  | .dlit ks es, ρ, s => (evEs C G es ρ (s ++ [.dct []])).bind fun ds s1 => if ks.length = ds.length ∧ isDct s1 s.length = some [] then .ok (.ref s.length) (s1.set s.length (.dct (mergeD [] ((ks.map Sum.inr).zip ds)))) else .bad
def evEs (C : Calls) (G : Globs) : List E → Env → Store → R (List D)
  | [], _, s => .ok [] s
  | e :: es, ρ, s => (evE C G e ρ s).bind fun d s => (evEs C G es ρ s).bind fun ds s => .ok (d :: ds) s
def evA (C : Calls) (G : Globs) : Ar → Env → Store → R D
  | .val e, ρ, s => evE C G e ρ s
  | .fn g pl, _, s => .ok (fnD g pl) s
  | .fn2 c g h pl, ρ, s => (evE C G c ρ s).bind fun x s => match truth s x with
    | some true => .ok (fnD g pl) s
    | some false => .ok (fnD h pl) s
    | none => .bad
  | .pass i, _, s => C (hB2 + i) [] s
  | .lam id caps, ρ, s => match capsOf ρ caps with
    | some ds => .ok (cloD id ds) s
    | none => .bad
  | .slot i, ρ, s => match ρ[i]? with
    | some (some (.fnv g pl)) => .ok (fnD g pl) s
    | _ => .bad
def evAs (C : Calls) (G : Globs) : List Ar → Env → Store → R (List D)
  | [], _, s => .ok [] s
  | a :: as, ρ, s => (evA C G a ρ s).bind fun d s => (evAs C G as ρ s).bind fun ds s => .ok (d :: ds) s
def evEnd (C : Calls) (G : Globs) : List E → Env → Store → R (Option Int)
  | [], _, s => .ok none s
  | e :: _, ρ, s => (evE C G e ρ s).bind fun d s => match d with
    | .int i => .ok (some i) s
    | _ => .bad
def evIt (C : Calls) (G : Globs) : It → Env → Store → R Walk
  | .val e, ρ, s => (evE C G e ρ s).bind fun d s => match walkS s d with
    | some w => .ok w s
    | none => .bad
  | .rng es, ρ, s => (evEs C G es ρ s).bind fun l s => match rngD l with
    | some l => .ok ⟨[], l⟩ s
    | none => .bad
  | .enm e, ρ, s => (evE C G e ρ s).bind fun d s => match walkS s d with
    | some w => .ok (enmOf w) s
    | none => .bad
  | .zip a b, ρ, s => (evE C G a ρ s).bind fun x s => (evE C G b ρ s).bind fun y s => if zipKind x y then (match walkOf s x, walkOf s y with
    | some w, some u => .ok (zipOf w u) s
    | _, _ => .bad) else .bad
  | .key e, ρ, s => (evE C G e ρ s).bind fun d s => match d with
    | .ref n => (match lckOf s n with
      | some l => .ok ⟨[], l.map fun p => kD p.1⟩ s
      | none => .bad)
    | _ => .bad
def asgT (C : Calls) (G : Globs) : Tg → D → Env → Store → R Env
  | .nm i, d, ρ, s => .ok (ρ.set i (some d)) s
  | .tup ts, d, ρ, s => match d with
    | .tup l => if l.length = ts.length then asgTs C G ts l ρ s else .bad
    | .ref n => match isLst s n with
      | some l => if l.length = ts.length then asgTs C G ts l ρ s else .bad
      | none => .bad
    | _ => .bad
  | .sub o i, d, ρ, s => (evE C G o ρ s).quiet.bind fun x s => (evE C G i ρ s).quiet.bind fun y s => (setD x y d s).bind fun _ s => .ok ρ s
  | .fld cs o f, d, ρ, s => (evE C G o ρ s).quiet.bind fun x s => (setF cs x f d s).bind fun _ s => .ok ρ s
def asgTs (C : Calls) (G : Globs) : List Tg → List D → Env → Store → R Env
  | [], l, ρ, s => match l with
    | [] => .ok ρ s
    | _ :: _ => .bad
  | t :: ts, l, ρ, s => match l with
    | d :: ds => (asgT C G t d ρ s).bind fun ρ s => asgTs C G ts ds ρ s
    | [] => .bad
end
end
section
variable (C : Calls) (G : Globs) (F : Nat)
def parSet : List Nat → List D → Env → Env
  | i :: is, d :: ds, ρ => (parSet is ds ρ).set i (some d)
  | _, _, ρ => ρ
def aop (op : Operator) (i j : Int) : Int := match op with
  | .Sub => i - j
  | _ => i + j
def forGo (w : Walk) (f : D → Env → Store → RS) : List D → Env → Store → RS
  | [], ρ, s => if w.stays s then .nx ρ s else .bad
  | x :: xs, ρ, s => if w.stays s then (match f x ρ s with
      | .nx ρ s => forGo w f xs ρ s
      | .cnt ρ s => forGo w f xs ρ s
      | .brk ρ s => .nx ρ s
      | r => r) else .bad
def whlGo (c : Env → Store → R Bool) (f : Env → Store → RS) : Nat → Env → Store → RS
  | 0, _, _ => .bad
  | n + 1, ρ, s => (c ρ s).stm ρ fun b s => match b with
    | false => .nx ρ s
    | true => match f ρ s with
      | .nx ρ s => whlGo c f n ρ s
      | .cnt ρ s => whlGo c f n ρ s
      | .brk ρ s => .nx ρ s
      | r => r
def tst (c : E) (ρ : Env) (s : Store) : R Bool := (evE C G c ρ s).bind fun x s1 => match truth s1 x with
  | some b => .ok b (trunc s .non s1)
  | none => .bad
def exSu : List HS → Env → Store → RS
  | [], ρ, s => .nx ρ s
  | .ret e :: _, ρ, s => (evE C G e ρ s).stm ρ fun d s1 => .ret d (trunc s d s1)
  | .ifret c e :: r, ρ, s => (tst C G c ρ s).stm ρ fun t s => match t with
    | true => (evE C G e ρ s).stm ρ fun d s1 => .ret d (trunc s d s1)
    | false => exSu r ρ s
  | .asg j e :: r, ρ, s => (evE C G e ρ s).stm ρ fun d s1 => exSu r (ρ.set j (some d)) (trunc s d s1)
  | .nev :: _, _, _ => .bad
def putX (i : Option Nat) (c : Nat) (w : D) (ρ : Env) : Env := match i with
  | some i => ρ.set i (some (.tup [.int c, w]))
  | none => ρ
def offX (i : Option Nat) (ρ : Env) : Env := match i with
  | some i => ρ.set i none
  | none => ρ
def RS.unset (i : Option Nat) : RS → RS
  | .nx ρ s => .nx (offX i ρ) s
  | .ret d s => .ret d s
  | _ => .bad
def exHd : List Hd → Nat → D → Env → Store → RS
  | [], c, w, ρ, s => .exc c w ρ s
  | h :: hs, c, w, ρ, s => if h.cs.contains c then (exSu C G h.b (putX h.nm c w ρ) s).unset h.nm else exHd hs c w ρ s
mutual
def exS : S → Env → Store → RS
  | .asg t e, ρ, s => ((evE C G e ρ s).bind fun d s1 => asgT C G t d ρ (trunc s d s1)).stm ρ fun ρ s => .nx ρ s
  | .par is es, ρ, s => (evEs C G es ρ s).stm ρ fun l s1 => if l.length = is.length then .nx (parSet is l ρ) (trunc s (.tup l) s1) else .bad
  | .aug i op e, ρ, s => match ρ[i]? with
    | some (some (.int x)) => (evE C G e ρ s).stm ρ fun d s1 => match d with
      | .int y => .nx (ρ.set i (some (.int (aop op x y)))) (trunc s .non s1)
      | _ => .bad
    | _ => .bad
  | .augS o i op e, ρ, s => (evE C G o ρ s).stm ρ fun a s => (evE C G i ρ s).stm ρ fun k s => match (if isL s a then ixD s a k else none) with
    | some (.int x) => (evE C G e ρ s).stm ρ fun y s => match y with
      | .int z => (setD a k (.int (aop op x z)) s).stm ρ fun _ s => .nx ρ s
      | _ => .bad
    | _ => .bad
  | .expr e, ρ, s => (evE C G e ρ s).stm ρ fun _ s1 => .nx ρ (trunc s .non s1)
  | .ret e, ρ, s => (evE C G e ρ s).stm ρ fun d s1 => .ret d (trunc s d s1)
  | .retN, _, s => .ret .non s
  | .iff c a b, ρ, s => (tst C G c ρ s).stm ρ fun t s => match t with
    | true => exB a ρ s
    | false => exB b ρ s
  | .for t it b, ρ, s => (evIt C G it ρ s).stm ρ fun w s => forGo w (fun x ρ s => (asgT C G t x ρ s).stm ρ fun ρ s => exB b ρ s) w.its ρ s
  | .whl c b, ρ, s => whlGo (tst C G c) (exB b) F ρ s
  | .brk, ρ, s => .brk ρ s
  | .cnt, ρ, s => .cnt ρ s
  | .pass, ρ, s => .nx ρ s
  | .nev, _, _ => .bad
  | .rais c e, ρ, s => (evE C G e ρ s).stm ρ fun d s1 => .exc c d ρ (trunc s d s1)
  | .tryx b hs, ρ, s => match exB b ρ s with
    | .exc c w ρ s => exHd C G hs c w ρ s
    | r => r
  | .lock i x, ρ, s => match ρ[i]? with
    | some (some (.ref n)) => (match isDct s n with
      | some l => (match exS x ρ (s.set n (.lck l)) with
        | .nx ρ s1 => if s1[n]? = some (.lck l) then .nx ρ (s1.set n (.dct l)) else .bad
        | .ret d s1 => if s1[n]? = some (.lck l) then .ret d (s1.set n (.dct l)) else .bad
        | .brk ρ s1 => if s1[n]? = some (.lck l) then .brk ρ (s1.set n (.dct l)) else .bad
        | .cnt ρ s1 => if s1[n]? = some (.lck l) then .cnt ρ (s1.set n (.dct l)) else .bad
        | _ => .bad)
      | none => .bad)
    | _ => .bad
def exB : List S → Env → Store → RS
  | [], ρ, s => .nx ρ s
  | x :: xs, ρ, s => match exS x ρ s with
    | .nx ρ s => exB xs ρ s
    | r => r
end
end
structure FD where
  np : Nat
  nv : Nat
  body : List S
  
  cl : List Nat := []
abbrev Prog := Nat → Option FD
def done (s : Store) : RS → R D
  | .nx _ s1 => .ok .non (trunc s .non s1)
  | .ret d s1 => .ok d (trunc s d s1)
  | .exc c w _ s1 => .exc c w (trunc s w s1)
  | _ => .bad
def gamma (cl : List Nat) (ds : List D) : List (Nat × D) := cl.filterMap fun i => (ds[i]?).map fun d => (i, d)
def hideL (cl : List Nat) (ρ : Env) : Env := wipeE ρ cl
def callF (P : Prog) (G : Globs) (F : Nat) : Nat → Calls
  | 0 => fun _ _ _ => .bad
  | k + 1 => fun f ds s => match P f with
    | some fd => if ds.length = fd.np then done s (exB (cloC (gamma fd.cl ds) (callF P G F k)) G F fd.body (hideL fd.cl (ds.map some ++ List.replicate (fd.nv - fd.np) none)) s) else .bad
    | none => .bad
end WL
namespace WL
open PySem PySem.Spec PyProof.Rows L2
def stab : HO → Bool
  | .tup _ => true
  | .frz _ _ => true
  | .xd _ => true
  | .ext _ => true
  | _ => false
class TBS where
  T : List (Addr × Str)
  
  gd : Addr → List Str → List D → Prop
  
  fn : Nat → List Nat → Addr → Prop
  
  cl : Nat → Addr → Prop
  
  nf : Addr → Str → Prop
variable [TBS]
def Keeps (H H' : Hp) : Prop := (∀ a o, H a = some o → stab o = true → H' a = some o) ∧ (LamX.Tabs TBS.T H → LamX.Tabs TBS.T H')
theorem Keeps.refl (H : Hp) : Keeps H H := ⟨fun _ _ h _ => h, fun h => h⟩
theorem Keeps.trans {H H1 H2 : Hp} (a : Keeps H H1) (b : Keeps H1 H2) : Keeps H H2 := ⟨fun x o h s => b.1 x o (a.1 x o h s) s, fun h => b.2 (a.2 h)⟩
theorem Keeps.new {H : Hp} {p : Addr} {o : HO} (h : H p = none) : Keeps H (upd H p o) := ⟨fun a u e _ => by
  rw [upd_ne (ne_of_none e h)]
  exact e, fun t => t.ext fun b u e => by
  rw [upd_ne (ne_of_none e h)]
  exact e⟩
theorem Keeps.mutO {H : Hp} {p : Addr} {o u : HO} (h : H p = some o) (hs : stab o = false) (ht : ∀ ps, o ≠ .tbl ps) (hc : ∀ c q, o ≠ LamX.CodeO c q) : Keeps H (upd H p u) := by
  refine ⟨fun a w e s => ?_, fun t q hq => ?_⟩
  · by_cases hp : a = p
    · subst hp
      rw [h] at e
      cases e
      rw [hs] at s
      cases s
    · rw [upd_ne hp]
      exact e
  · obtain ⟨ps, h1, h2, h3⟩ := t q hq
    refine ⟨ps, by rw [upd_ne (fun z => by rw [z, h] at h1; exact ht _ (Option.some.inj h1))]; exact h1, h2, fun pos cv hcc => ?_⟩
    obtain ⟨c, e1, e2⟩ := h3 pos cv hcc
    exact ⟨c, e1, by rw [upd_ne (fun z => by rw [z, h] at e2; exact hc _ _ (Option.some.inj e2))]; exact e2⟩
theorem Keeps.mutD {H : Hp} {p : Addr} {ws : List (L2.Key × V)} {u : HO} (h : H p = some (.dK ws)) : Keeps H (upd H p u) := Keeps.mutO h rfl (fun _ z => by cases z) fun _ _ z => by cases z
theorem Keeps.mut {H : Hp} {p : Addr} {ws : List V} {u : HO} (h : H p = some (.lst ws)) : Keeps H (upd H p u) := by
  refine ⟨fun a w e s => ?_, fun t q hq => ?_⟩
  · by_cases hp : a = p
    · subst hp
      rw [h] at e
      cases e
      cases s
    · rw [upd_ne hp]
      exact e
  · obtain ⟨ps, h1, h2, h3⟩ := t q hq
    refine ⟨ps, by rw [upd_ne (fun z => by rw [z, h] at h1; cases h1)]; exact h1, h2, fun pos cv hc => ?_⟩
    obtain ⟨c, e1, e2⟩ := h3 pos cv hc
    exact ⟨c, e1, by rw [upd_ne (fun z => by rw [z, h] at e2; cases e2)]; exact e2⟩
def FrzL (K : PySem.W.Frag) (H : Hp) (a : Addr) (xs : List V) : Prop := (∃ o, H a = some (.frz o (.lst xs))) ∨ ∀ H', SqL K H' a xs
theorem FrzL.sq {K : PySem.W.Frag} {H : Hp} {a : Addr} {xs : List V} (h : FrzL K H a xs) : SqL K H a xs := by
  rcases h with ⟨o, h⟩ | h
  · exact .inl (.inr ⟨o, h⟩)
  · exact h H
theorem FrzL.keep {K : PySem.W.Frag} {H H' : Hp} {a : Addr} {xs : List V} (h : FrzL K H a xs) (k : Keeps H H') : FrzL K H' a xs := by
  rcases h with ⟨o, h⟩ | h
  · exact .inl ⟨o, k.1 _ _ h rfl⟩
  · exact .inr h
theorem sqT_keep {K : PySem.W.Frag} {H H' : Hp} {a : Addr} {xs : List V} (h : SqT K H a xs) (k : Keeps H H') : SqT K H' a xs := by
  rcases h with (h | ⟨o, h⟩) | h
  · exact .inl (.inl (k.1 _ _ h rfl))
  · exact .inl (.inr ⟨o, k.1 _ _ h rfl⟩)
  · exact .inr h
mutual
def RepV (K : PySem.W.Frag) (H : Hp) (ra : List Addr) : D → V → Prop
  | .non, v => v = .non
  | .bl b, v => v = .bl b
  | .int i, v => v = .int i
  | .str x, v => v = .str x
  | .tup l, v => ∃ a vs, v = .ref a ∧ SqT K H a vs ∧ RepL K H ra l vs
  | .ref n, v => ∃ a, ra[n]? = some a ∧ v = .ref a
  | .frz l, v => ∃ a, v = .ref a ∧ FrzL K H a (l.map V.int)
  | .gd ks vs, v => ∃ a, v = .ref a ∧ TBS.gd a ks vs
  | .fnv g pl, v => ∃ a, v = .ref a ∧ TBS.fn g pl a
def RepL (K : PySem.W.Frag) (H : Hp) (ra : List Addr) : List D → List V → Prop
  | [], vs => vs = []
  | d :: ds, vs => ∃ v r, vs = v :: r ∧ RepV K H ra d v ∧ RepL K H ra ds r
end
section
variable {K : PySem.W.Frag} {H H' : Hp} {ra rb : List Addr}
theorem pre_get {ra rb : List Addr} (h : ra <+: rb) {n : Nat} {a : Addr} (e : ra[n]? = some a) : rb[n]? = some a := by
  obtain ⟨t, rfl⟩ := h
  exact (List.getElem?_append_left (List.getElem?_eq_some_iff.mp e).1).trans e
mutual
theorem RepV.keep (k : Keeps H H') (p : ra <+: rb) : ∀ (d : D) (v : V), RepV K H ra d v → RepV K H' rb d v
  | .non, _, h => h
  | .bl _, _, h => h
  | .int _, _, h => h
  | .str _, _, h => h
  | .tup l, v, h => by
    obtain ⟨a, vs, e, s, r⟩ := h
    exact ⟨a, vs, e, sqT_keep s k, RepL.keep k p l vs r⟩
  | .ref n, v, h => by
    obtain ⟨a, e, q⟩ := h
    exact ⟨a, pre_get p e, q⟩
  | .frz l, v, h => by
    obtain ⟨a, e, s⟩ := h
    exact ⟨a, e, s.keep k⟩
  | .gd _ _, v, h => h
  | .fnv _ _, v, h => h
theorem RepL.keep (k : Keeps H H') (p : ra <+: rb) : ∀ (l : List D) (vs : List V), RepL K H ra l vs → RepL K H' rb l vs
  | [], _, h => h
  | d :: ds, vs, h => by
    obtain ⟨v, r, e, h1, h2⟩ := h
    exact ⟨v, r, e, RepV.keep k p d v h1, RepL.keep k p ds r h2⟩
end
mutual
theorem RepV.back (n : Nat) : ∀ (d : D) (v : V), D.und n d = true → RepV K H ra d v → RepV K H (ra.take n) d v
  | .non, _, _, h => h
  | .bl _, _, _, h => h
  | .int _, _, _, h => h
  | .str _, _, _, h => h
  | .tup l, v, u, h => by
    obtain ⟨a, vs, e, s, r⟩ := h
    exact ⟨a, vs, e, s, RepL.back n l vs (by simpa [D.und] using u) r⟩
  | .ref m, v, u, h => by
    obtain ⟨a, e, q⟩ := h
    have hm : m < n := by simpa [D.und] using u
    exact ⟨a, by rw [List.getElem?_take_of_lt hm]; exact e, q⟩
  | .frz l, v, _, h => h
  | .gd _ _, v, _, h => h
  | .fnv _ _, v, _, h => h
theorem RepL.back (n : Nat) : ∀ (l : List D) (vs : List V), D.unds n l = true → RepL K H ra l vs → RepL K H (ra.take n) l vs
  | [], _, _, h => h
  | d :: ds, vs, u, h => by
    obtain ⟨v, r, e, h1, h2⟩ := h
    have u' : D.und n d = true ∧ D.unds n ds = true := by simpa [D.unds] using u
    exact ⟨v, r, e, RepV.back n d v u'.1 h1, RepL.back n ds r u'.2 h2⟩
end
mutual
theorem RepV.lt : ∀ (d : D) (v : V), RepV K H ra d v → D.und ra.length d = true
  | .non, _, _ => rfl
  | .bl _, _, _ => rfl
  | .int _, _, _ => rfl
  | .str _, _, _ => rfl
  | .tup l, v, h => by
    obtain ⟨a, vs, e, s, r⟩ := h
    simp only [D.und]
    exact RepL.lt l vs r
  | .ref m, v, h => by
    obtain ⟨a, e, q⟩ := h
    simp only [D.und, decide_eq_true_eq]
    exact (List.getElem?_eq_some_iff.mp e).1
  | .frz l, v, _ => rfl
  | .gd _ _, v, _ => rfl
  | .fnv _ _, v, _ => rfl
theorem RepL.lt : ∀ (l : List D) (vs : List V), RepL K H ra l vs → D.unds ra.length l = true
  | [], _, _ => rfl
  | d :: ds, vs, h => by
    obtain ⟨v, r, e, h1, h2⟩ := h
    simp only [D.unds, RepV.lt d v h1, RepL.lt ds r h2, Bool.and_self]
end
theorem RepL.length : ∀ (l : List D) (vs : List V), RepL K H ra l vs → vs.length = l.length
  | [], _, h => by rw [show _ = _ from h]; rfl
  | d :: ds, vs, h => by
    obtain ⟨v, r, e, _, h2⟩ := h
    rw [e, List.length_cons, List.length_cons, RepL.length ds r h2]
theorem RepL.get : ∀ (l : List D) (vs : List V) (i : Nat) (d : D), RepL K H ra l vs → l[i]? = some d → ∃ v, vs[i]? = some v ∧ RepV K H ra d v
  | [], _, i, d, _, e => by simp at e
  | x :: xs, vs, 0, d, h, e => by
    obtain ⟨v, r, e', h1, _⟩ := h
    simp at e
    subst e e'
    exact ⟨v, rfl, h1⟩
  | x :: xs, vs, i + 1, d, h, e => by
    obtain ⟨v, r, e', _, h2⟩ := h
    subst e'
    have e2 : xs[i]? = some d := by simpa using e
    obtain ⟨w, q1, q2⟩ := RepL.get xs r i d h2 e2
    exact ⟨w, by simpa using q1, q2⟩
theorem RepL.append : ∀ {l m : List D} {vs ws : List V}, RepL K H ra l vs → RepL K H ra m ws → RepL K H ra (l ++ m) (vs ++ ws)
  | [], m, vs, ws, h, h' => by rw [show vs = [] from h]; exact h'
  | d :: ds, m, vs, ws, h, h' => by
    obtain ⟨v, r, e, h1, h2⟩ := h
    subst e
    exact ⟨v, r ++ ws, rfl, h1, RepL.append h2 h'⟩
theorem RepL.one {d : D} {v : V} (h : RepV K H ra d v) : RepL K H ra [d] [v] := ⟨v, [], rfl, h, rfl⟩
theorem RepL.take : ∀ (l : List D) (vs : List V) (n : Nat), RepL K H ra l vs → RepL K H ra (l.take n) (vs.take n)
  | l, vs, 0, _ => by simp [RepL]
  | [], vs, n + 1, h => by rw [show vs = [] from h]; simp [RepL]
  | d :: ds, vs, n + 1, h => by
    obtain ⟨v, r, e, h1, h2⟩ := h
    subst e
    exact ⟨v, r.take n, rfl, h1, RepL.take ds r n h2⟩
theorem RepL.drop : ∀ (l : List D) (vs : List V) (n : Nat), RepL K H ra l vs → RepL K H ra (l.drop n) (vs.drop n)
  | l, vs, 0, h => h
  | [], vs, n + 1, h => by rw [show vs = [] from h]; simp [RepL]
  | d :: ds, vs, n + 1, h => by
    obtain ⟨v, r, e, h1, h2⟩ := h
    subst e
    exact RepL.drop ds r n h2
theorem RepL.set : ∀ (l : List D) (vs : List V) (i : Nat) (d : D) (v : V), RepL K H ra l vs → RepV K H ra d v → RepL K H ra (l.set i d) (vs.set i v)
  | [], vs, i, d, v, h, _ => by rw [show vs = [] from h]; simp [RepL]
  | x :: xs, vs, 0, d, v, h, q => by
    obtain ⟨w, r, e, h1, h2⟩ := h
    subst e
    exact ⟨v, r, rfl, q, h2⟩
  | x :: xs, vs, i + 1, d, v, h, q => by
    obtain ⟨w, r, e, h1, h2⟩ := h
    subst e
    exact ⟨w, r.set i v, rfl, h1, RepL.set xs r i d v h2 q⟩
theorem RepL.erase : ∀ (l : List D) (vs : List V) (i : Nat), RepL K H ra l vs → RepL K H ra (l.eraseIdx i) (vs.eraseIdx i)
  | [], vs, i, h => by rw [show vs = [] from h]; simp [RepL]
  | x :: xs, vs, 0, h => by
    obtain ⟨w, r, e, h1, h2⟩ := h
    subst e
    exact h2
  | x :: xs, vs, i + 1, h => by
    obtain ⟨w, r, e, h1, h2⟩ := h
    subst e
    exact ⟨w, r.eraseIdx i, rfl, h1, RepL.erase xs r i h2⟩
theorem RepL.rep : ∀ (k : Nat) {l : List D} {vs : List V}, RepL K H ra l vs → RepL K H ra (List.replicate k l).flatten (List.replicate k vs).flatten
  | 0, _, _, _ => rfl
  | k + 1, l, vs, h => by
    rw [List.replicate_succ, List.replicate_succ, List.flatten_cons, List.flatten_cons]
    exact h.append (RepL.rep k h)
theorem RepL.intsF : ∀ (ns : List Int), RepL K H ra (ns.map .int) (ns.map V.int)
  | [] => rfl
  | n :: ns => ⟨.int n, _, rfl, rfl, RepL.intsF ns⟩
theorem RepL.intsOf : ∀ (l : List D) (vs : List V) (ns : List Int), RepL K H ra l vs → intsOf l = some ns → vs = ns.map V.int
  | [], vs, ns, h, e => by
    rw [show vs = [] from h]
    simp [WL.intsOf] at e
    subst e
    rfl
  | d :: ds, vs, ns, h, e => by
    obtain ⟨v, r, e', h1, h2⟩ := h
    subst e'
    cases d with
    | int i =>
      simp only [WL.intsOf, Option.map_eq_some_iff] at e
      obtain ⟨ms, em, rfl⟩ := e
      rw [RepL.intsOf ds r ms h2 em, show v = .int i from h1]
      rfl
    | _ => simp [WL.intsOf] at e
def RepM (K : PySem.W.Frag) (H : Hp) (ra : List Addr) (l : List (L2.Key × D)) (kvs : List (L2.Key × V)) : Prop := kvs.map (·.1) = l.map (·.1) ∧ RepL K H ra (l.map (·.2)) (kvs.map (·.2))
theorem RepM.keep (k : Keeps H H') (p : ra <+: rb) {l : List (L2.Key × D)} {kvs : List (L2.Key × V)} (h : RepM K H ra l kvs) : RepM K H' rb l kvs := ⟨h.1, RepL.keep k p _ _ h.2⟩
theorem RepM.back (n : Nat) {l : List (L2.Key × D)} {kvs : List (L2.Key × V)} (u : D.unds n (l.map (·.2)) = true) (h : RepM K H ra l kvs) : RepM K H (ra.take n) l kvs := ⟨h.1, RepL.back n _ _ u h.2⟩
theorem RepM.nil : RepM K H ra [] [] := ⟨rfl, rfl⟩
theorem RepM.length {l : List (L2.Key × D)} {kvs : List (L2.Key × V)} (h : RepM K H ra l kvs) : kvs.length = l.length := by
  have := congrArg List.length h.1
  rwa [List.length_map, List.length_map] at this
theorem RepM.cons_inv {p : L2.Key × D} {l : List (L2.Key × D)} {kvs : List (L2.Key × V)} (h : RepM K H ra (p :: l) kvs) : ∃ v r, kvs = (p.1, v) :: r ∧ RepV K H ra p.2 v ∧ RepM K H ra l r := by
  obtain ⟨h1, v, r, h2, h3, h4⟩ := h
  cases kvs with
  | nil => cases h2
  | cons q kvs =>
    simp only [List.map_cons, List.cons.injEq] at h1 h2
    obtain ⟨e1, e2⟩ := h1
    obtain ⟨e3, e4⟩ := h2
    refine ⟨v, kvs, ?_, h3, e2, by rw [e4]; exact h4⟩
    rw [← e1, ← e3]
theorem RepM.cons {k : L2.Key} {d : D} {v : V} {l : List (L2.Key × D)} {kvs : List (L2.Key × V)} (h : RepV K H ra d v) (h2 : RepM K H ra l kvs) : RepM K H ra ((k, d) :: l) ((k, v) :: kvs) := by
  refine ⟨?_, v, _, rfl, h, h2.2⟩
  rw [List.map_cons, List.map_cons, h2.1]
theorem RepM.val : ∀ {l : List (L2.Key × D)} {kvs : List (L2.Key × V)} (k : L2.Key), RepM K H ra l kvs → (∀ d, valD l k = some d → ∃ v, valV kvs k = some v ∧ RepV K H ra d v) ∧ (valD l k = none → valV kvs k = none)
  | [], kvs, k, h => by
    have e : kvs = [] := by
      have := h.length
      exact List.eq_nil_of_length_eq_zero this
    subst e
    exact ⟨fun d q => by simp [valD] at q, fun _ => rfl⟩
  | p :: l, kvs, k, h => by
    obtain ⟨v, r, rfl, h1, h2⟩ := h.cons_inv
    obtain ⟨i1, i2⟩ := RepM.val k h2
    by_cases c : p.1 = k
    · have e1 : valD (p :: l) k = some p.2 := by simp [valD, List.find?_cons, c]
      have e2 : valV ((p.1, v) :: r) k = some v := valV_pos (p := (p.1, v)) c
      rw [e1, e2]
      exact ⟨fun d q => by cases q; exact ⟨v, rfl, h1⟩, fun q => by cases q⟩
    · have e1 : valD (p :: l) k = valD l k := by simp [valD, List.find?_cons, c]
      have e2 : valV ((p.1, v) :: r) k = valV r k := valV_neg (p := (p.1, v)) c
      rw [e1, e2]
      exact ⟨i1, i2⟩
theorem RepM.any {l : List (L2.Key × D)} {kvs : List (L2.Key × V)} (k : L2.Key) (h : RepM K H ra l kvs) : (kvs.any fun p => decide (p.1 = k)) = l.any fun p => decide (p.1 = k) := by
  have e1 : (kvs.any fun p => decide (p.1 = k)) = (kvs.map (·.1)).any fun x => decide (x = k) := by rw [List.any_map]; rfl
  have e2 : (l.any fun p => decide (p.1 = k)) = (l.map (·.1)).any fun x => decide (x = k) := by rw [List.any_map]; rfl
  rw [e1, e2, h.1]
theorem RepM.repl (k : L2.Key) {d : D} {v : V} (hv : RepV K H ra d v) : ∀ {l : List (L2.Key × D)} {kvs : List (L2.Key × V)}, RepM K H ra l kvs → RepM K H ra (l.map fun p => if p.1 = k then (p.1, d) else p) (kvs.map fun p => if p.1 = k then (p.1, v) else p)
  | [], kvs, h => by
    have e : kvs = [] := List.eq_nil_of_length_eq_zero h.length
    subst e
    exact RepM.nil
  | p :: l, kvs, h => by
    obtain ⟨w, r, rfl, h1, h2⟩ := h.cons_inv
    have ih := RepM.repl k hv h2
    obtain ⟨p1, p2⟩ := p
    rw [List.map_cons, List.map_cons]
    by_cases c : p1 = k
    · simp only [c, if_true]
      exact RepM.cons hv ih
    · simp only [c, if_false]
      exact RepM.cons h1 ih
theorem RepM.append {l m : List (L2.Key × D)} {kvs kws : List (L2.Key × V)} (h : RepM K H ra l kvs) (h2 : RepM K H ra m kws) : RepM K H ra (l ++ m) (kvs ++ kws) := by
  refine ⟨by rw [List.map_append, List.map_append, h.1, h2.1], ?_⟩
  rw [List.map_append, List.map_append]
  exact h.2.append h2.2
theorem RepM.put {l : List (L2.Key × D)} {kvs : List (L2.Key × V)} (k : L2.Key) {d : D} {v : V} (hv : RepV K H ra d v) (h : RepM K H ra l kvs) : RepM K H ra (putD l k d) (putK kvs k v) := by
  unfold putD putK
  rw [h.any k]
  split
  · exact RepM.repl k hv h
  · exact h.append (RepM.cons hv RepM.nil)
theorem RepM.drop (k : L2.Key) : ∀ {l : List (L2.Key × D)} {kvs : List (L2.Key × V)}, RepM K H ra l kvs → RepM K H ra (dropD l k) (dropK kvs k)
  | [], kvs, h => by
    have e : kvs = [] := List.eq_nil_of_length_eq_zero h.length
    subst e
    exact RepM.nil
  | p :: l, kvs, h => by
    obtain ⟨w, r, rfl, h1, h2⟩ := h.cons_inv
    have ih := RepM.drop k h2
    obtain ⟨p1, p2⟩ := p
    unfold dropD dropK at ih ⊢
    rw [List.filter_cons, List.filter_cons]
    by_cases c : p1 = k
    · simp only [c, ne_eq, not_true_eq_false, decide_false, Bool.false_eq_true, if_false]
      exact ih
    · simp only [c, ne_eq, not_false_eq_true, decide_true, if_true]
      exact RepM.cons h1 ih
def RepF (K : PySem.W.Frag) (H : Hp) (ra : List Addr) (l : List (Str × D)) (ws : List (Str × V)) : Prop := ws.map (·.1) = l.map (·.1) ∧ RepL K H ra (l.map (·.2)) (ws.map (·.2))
theorem RepF.keep (k : Keeps H H') (p : ra <+: rb) {l : List (Str × D)} {ws : List (Str × V)} (h : RepF K H ra l ws) : RepF K H' rb l ws := ⟨h.1, RepL.keep k p _ _ h.2⟩
theorem RepF.back (n : Nat) {l : List (Str × D)} {ws : List (Str × V)} (u : D.unds n (l.map (·.2)) = true) (h : RepF K H ra l ws) : RepF K H (ra.take n) l ws := ⟨h.1, RepL.back n _ _ u h.2⟩
theorem RepF.length {l : List (Str × D)} {ws : List (Str × V)} (h : RepF K H ra l ws) : ws.length = l.length := by
  have := congrArg List.length h.1
  rwa [List.length_map, List.length_map] at this
theorem RepF.cons_inv {p : Str × D} {l : List (Str × D)} {ws : List (Str × V)} (h : RepF K H ra (p :: l) ws) : ∃ v r, ws = (p.1, v) :: r ∧ RepV K H ra p.2 v ∧ RepF K H ra l r := by
  obtain ⟨h1, v, r, h2, h3, h4⟩ := h
  cases ws with
  | nil => cases h2
  | cons q ws =>
    simp only [List.map_cons, List.cons.injEq] at h1 h2
    obtain ⟨e1, e2⟩ := h1
    obtain ⟨e3, e4⟩ := h2
    refine ⟨v, ws, ?_, h3, e2, by rw [e4]; exact h4⟩
    rw [← e1, ← e3]
theorem RepF.cons {k : Str} {d : D} {v : V} {l : List (Str × D)} {ws : List (Str × V)} (h : RepV K H ra d v) (h2 : RepF K H ra l ws) : RepF K H ra ((k, d) :: l) ((k, v) :: ws) := by
  refine ⟨?_, v, _, rfl, h, h2.2⟩
  rw [List.map_cons, List.map_cons, h2.1]
theorem RepF.val : ∀ {l : List (Str × D)} {ws : List (Str × V)} (f : Str) (d : D), RepF K H ra l ws → valD l f = some d → ∃ v, ws.lookup f = some v ∧ RepV K H ra d v
  | [], ws, f, d, h, e => by simp [valD] at e
  | p :: l, ws, f, d, h, e => by
    obtain ⟨v, r, rfl, h1, h2⟩ := h.cons_inv
    by_cases c : p.1 = f
    · have e1 : valD (p :: l) f = some p.2 := by simp [valD, List.find?_cons, c]
      rw [e1] at e
      cases e
      exact ⟨v, by simp [List.lookup, c], h1⟩
    · have e1 : valD (p :: l) f = valD l f := by simp [valD, List.find?_cons, c]
      rw [e1] at e
      obtain ⟨w, g1, g2⟩ := RepF.val f d h2 e
      refine ⟨w, ?_, g2⟩
      rw [List.lookup_cons, beq_false_of_ne (Ne.symm c)]
      exact g1
theorem RepF.put {f : Str} {d : D} {v : V} (hv : RepV K H ra d v) : ∀ {l : List (Str × D)} {ws : List (Str × V)}, (l.map (·.1)).Nodup → RepF K H ra l ws → RepF K H ra (putD l f d) (putF f v ws)
  | [], ws, _, h => by
    have e : ws = [] := List.eq_nil_of_length_eq_zero h.length
    subst e
    exact RepF.cons hv ⟨rfl, rfl⟩
  | p :: l, ws, nd, h => by
    obtain ⟨w, r, rfl, h1, h2⟩ := h.cons_inv
    obtain ⟨p1, p2⟩ := p
    rw [List.map_cons, List.nodup_cons] at nd
    by_cases c : p1 = f
    · subst c
      have e1 : putD ((p1, p2) :: l) p1 d = (p1, d) :: l := by
        unfold putD
        rw [if_pos (by simp), List.map_cons]
        simp only [if_true, List.cons.injEq, true_and]
        conv => rhs; rw [← List.map_id l]
        refine List.map_congr_left fun q hq => ?_
        have : q.1 ≠ p1 := fun z => nd.1 (List.mem_map.mpr ⟨q, hq, z⟩)
        simp [this]
      have e2 : putF p1 v ((p1, w) :: r) = (p1, v) :: r := by simp [putF]
      rw [e1, e2]
      exact RepF.cons hv h2
    · have e1 : putD ((p1, p2) :: l) f d = (p1, p2) :: putD l f d := by
        unfold putD
        by_cases q : (l.any fun p => decide (p.1 = f)) = true
        · rw [if_pos (by simp [q]), if_pos q, List.map_cons, if_neg c]
        · rw [if_neg (by simp only [List.any_cons, decide_eq_false c, Bool.false_or]; exact q), if_neg q, List.cons_append]
      have e2 : putF f v ((p1, w) :: r) = (p1, w) :: putF f v r := by simp [putF, c]
      rw [e1, e2]
      exact RepF.cons h1 (RepF.put hv nd.2 h2)
theorem putD_keys {l : List (Str × D)} {f : Str} {d : D} : (putD l f d).map (·.1) = if (l.any fun p => decide (p.1 = f)) = true then l.map (·.1) else l.map (·.1) ++ [f] := by
  unfold putD
  split
  · rw [List.map_map]
    refine List.map_congr_left fun q _ => ?_
    show (if q.1 = f then (q.1, d) else q).1 = q.1
    split <;> rfl
  · rw [List.map_append]
    rfl
theorem putD_nodup {l : List (Str × D)} {f : Str} {d : D} (h : (l.map (·.1)).Nodup) : ((putD l f d).map (·.1)).Nodup := by
  rw [putD_keys]
  split
  · exact h
  · rename_i c
    refine List.nodup_append.mpr ⟨h, by simp, fun a ha b hb => ?_⟩
    have : b = f := by simpa using hb
    subst this
    rintro rfl
    obtain ⟨q, hq, e⟩ := List.mem_map.mp ha
    exact c (List.any_eq_true.mpr ⟨q, hq, by simp [e]⟩)
theorem putD_fst {l : List (Str × D)} {f : Str} {d : D} {P : Str → Prop} (h : ∀ p ∈ l, P p.1) (hf : P f) : ∀ p ∈ putD l f d, P p.1 := fun p hp => by
  have hm : p.1 ∈ (putD l f d).map (·.1) := List.mem_map.mpr ⟨p, hp, rfl⟩
  rw [putD_keys] at hm
  split at hm
  · obtain ⟨q, hq, e⟩ := List.mem_map.mp hm
    rw [← e]
    exact h q hq
  · rcases List.mem_append.mp hm with hm | hm
    · obtain ⟨q, hq, e⟩ := List.mem_map.mp hm
      rw [← e]
      exact h q hq
    · have e : p.1 = f := by simpa using hm
      rw [e]
      exact hf
variable {s : Store}
def RepC (K : PySem.W.Frag) (H : Hp) (ra : List Addr) (c : Cell) (a : Addr) : Prop := match c with
  | .lst l => ∃ vs, H a = some (.lst vs) ∧ RepL K H ra l vs
  | .dct l => ∃ kvs, H a = some (.dK kvs) ∧ RepM K H ra l kvs
  | .lck l => ∃ kvs, (∃ o, H a = some (.frz o (.dK kvs))) ∧ RepM K H ra l kvs
  | .obj c l => ∃ ws, (∃ C dx, TBS.cl c C ∧ H a = some (.ins C dx ws) ∧ (∀ p ∈ l, TBS.nf C p.1)) ∧ (l.map (·.1)).Nodup ∧ RepF K H ra l ws
theorem RepC.some {c : Cell} {a : Addr} (h : RepC K H ra c a) : ∃ o, H a = some o := by
  cases c with
  | lst l => exact ⟨_, h.choose_spec.1⟩
  | dct l => exact ⟨_, h.choose_spec.1⟩
  | lck l =>
    obtain ⟨kvs, ⟨o, ho⟩, _⟩ := h
    exact ⟨_, ho⟩
  | obj c l =>
    obtain ⟨ws, ⟨C, dx, _, ho, _⟩, _⟩ := h
    exact ⟨_, ho⟩
theorem RepC.keep {c : Cell} {a : Addr} (k : Keeps H H') (p : ra <+: rb) (e : H' a = H a) (h : RepC K H ra c a) : RepC K H' rb c a := by
  cases c with
  | lst l =>
    obtain ⟨vs, hv, r⟩ := h
    exact ⟨vs, by rw [e]; exact hv, RepL.keep k p l vs r⟩
  | dct l =>
    obtain ⟨vs, hv, r⟩ := h
    exact ⟨vs, by rw [e]; exact hv, r.keep k p⟩
  | lck l =>
    obtain ⟨vs, hv, r⟩ := h
    exact ⟨vs, by rw [e]; exact hv, r.keep k p⟩
  | obj c l =>
    obtain ⟨vs, hv, nd, r⟩ := h
    exact ⟨vs, by rw [e]; exact hv, nd, r.keep k p⟩
structure SRel (K : PySem.W.Frag) (H : Hp) (ra : List Addr) (s : Store) : Prop where
  len : ra.length = s.length
  nd : ra.Nodup
  rep : ∀ (i : Nat) (c : Cell) (a : Addr), s[i]? = some c → ra[i]? = some a → RepC K H ra c a
  tab : LamX.Tabs TBS.T H
theorem SRel.at (R : SRel K H ra s) {i : Nat} {c : Cell} (e : s[i]? = some c) : ∃ a, ra[i]? = some a ∧ RepC K H ra c a := by
  have hi : i < ra.length := by
    rw [R.len]
    exact (List.getElem?_eq_some_iff.mp e).1
  exact ⟨ra[i], List.getElem?_eq_getElem hi, R.rep i c _ e (List.getElem?_eq_getElem hi)⟩
theorem SRel.lst (R : SRel K H ra s) {n : Nat} {l : List D} (e : isLst s n = some l) : ∃ a vs, ra[n]? = some a ∧ H a = some (.lst vs) ∧ RepL K H ra l vs := by
  unfold isLst at e
  split at e
  · rename_i l' h
    cases e
    obtain ⟨a, ea, vs, hv, r⟩ := R.at h
    exact ⟨a, vs, ea, hv, r⟩
  · cases e
theorem isDct_get {s : Store} {n : Nat} {l : List (L2.Key × D)} (e : isDct s n = some l) : s[n]? = some (.dct l) := by
  unfold isDct at e
  split at e
  · rename_i l' h
    cases e
    exact h
  · cases e
theorem SRel.dct (R : SRel K H ra s) {n : Nat} {l : List (L2.Key × D)} (e : isDct s n = some l) : ∃ a kvs, ra[n]? = some a ∧ H a = some (.dK kvs) ∧ RepM K H ra l kvs := by
  obtain ⟨a, ea, vs, hv, r⟩ := R.at (isDct_get e)
  exact ⟨a, vs, ea, hv, r⟩
theorem rdD_dct {s : Store} {n : Nat} {l : List (L2.Key × D)} (e : isDct s n = some l) : rdD s n = some l := by
  unfold rdD
  rw [isDct_get e]
theorem lckOf_get {s : Store} {n : Nat} {l : List (L2.Key × D)} (e : lckOf s n = some l) : s[n]? = some (.lck l) := by
  unfold lckOf at e
  split at e
  · rename_i l' h
    cases e
    exact h
  · cases e
theorem SRel.rd (R : SRel K H ra s) {n : Nat} {l : List (L2.Key × D)} (e : rdD s n = some l) : ∃ a kvs, ra[n]? = some a ∧ Rd H a (.dK kvs) ∧ RepM K H ra l kvs := by
  unfold rdD at e
  split at e
  · rename_i l' h
    cases e
    obtain ⟨a, ea, vs, hv, r⟩ := R.at h
    exact ⟨a, vs, ea, .inl hv, r⟩
  · rename_i l' h
    cases e
    obtain ⟨a, ea, vs, hv, r⟩ := R.at h
    exact ⟨a, vs, ea, .inr hv, r⟩
  · cases e
theorem isLst_get {s : Store} {n : Nat} {l : List D} (e : isLst s n = some l) : s[n]? = some (.lst l) := by
  unfold isLst at e
  split at e
  · rename_i l' h
    cases e
    exact h
  · cases e
theorem SRel.keep (R : SRel K H ra s) (k : Keeps H H') (m : ∀ a ∈ ra, H' a = H a) : SRel K H' ra s := by
  exact ⟨R.len, R.nd, fun i c a e ea => (R.rep i c a e ea).keep k (List.prefix_refl _) (m a (List.mem_of_getElem? ea)), k.2 R.tab⟩
theorem SRel.aside (R : SRel K H ra s) {p : Addr} {o : HO} (hp : H p = none) : SRel K (upd H p o) ra s := R.keep (Keeps.new hp) fun a ha => by
  obtain ⟨i, hi⟩ := List.getElem?_of_mem ha
  have hl : i < s.length := by
    rw [← R.len]
    exact (List.getElem?_eq_some_iff.mp hi).1
  have h := R.rep i _ a (List.getElem?_eq_getElem hl) hi
  have : a ≠ p := fun z => by
    subst z
    obtain ⟨o, ho⟩ := h.some
    rw [hp] at ho
    cases ho
  exact upd_ne this
theorem SRel.fresh (R : SRel K H ra s) {p : Addr} (hp : H p = none) : p ∉ ra := fun ha => by
  obtain ⟨i, hi⟩ := List.getElem?_of_mem ha
  have hl : i < s.length := by
    rw [← R.len]
    exact (List.getElem?_eq_some_iff.mp hi).1
  have h := R.rep i _ p (List.getElem?_eq_getElem hl) hi
  obtain ⟨o, ho⟩ := h.some
  rw [hp] at ho
  cases ho
theorem SRel.newC (R : SRel K H ra s) {p : Addr} {c0 : Cell} {o : HO} (hp : H p = none) (hc : RepC K (upd H p o) (ra ++ [p]) c0 p) : SRel K (upd H p o) (ra ++ [p]) (s ++ [c0]) := by
  have k : Keeps H (upd H p o) := Keeps.new hp
  have pf : ra <+: ra ++ [p] := List.prefix_append _ _
  have nf := R.fresh hp
  refine ⟨by simp [R.len], List.nodup_append.mpr ⟨R.nd, by simp, fun a ha b hb => ?_⟩, fun i c a e ea => ?_, k.2 R.tab⟩
  · have : b = p := by simpa using hb
    subst this
    exact fun z => nf (z ▸ ha)
  · by_cases hi : i < s.length
    · rw [List.getElem?_append_left hi] at e
      rw [List.getElem?_append_left (by rw [R.len]; exact hi)] at ea
      have hne : a ≠ p := fun z => nf (z ▸ List.mem_of_getElem? ea)
      exact (R.rep i c a e ea).keep k pf (upd_ne hne)
    · have hi' : i = s.length := by
        have := (List.getElem?_eq_some_iff.mp e).1
        simp at this
        omega
      subst hi'
      have e1 : c = c0 := by simpa using e.symm
      have e2 : a = p := by
        rw [← R.len] at ea
        simpa using ea.symm
      subst e1 e2
      exact hc
theorem SRel.newL (R : SRel K H ra s) {p : Addr} {l : List D} {vs : List V} (hp : H p = none) (r : RepL K H ra l vs) : SRel K (upd H p (.lst vs)) (ra ++ [p]) (s ++ [.lst l]) :=
  R.newC hp ⟨vs, upd_same, RepL.keep (Keeps.new hp) (List.prefix_append _ _) l vs r⟩
theorem SRel.newD (R : SRel K H ra s) {p : Addr} {l : List (L2.Key × D)} {vs : List (L2.Key × V)} (hp : H p = none) (r : RepM K H ra l vs) : SRel K (upd H p (.dK vs)) (ra ++ [p]) (s ++ [.dct l]) :=
  R.newC hp ⟨vs, upd_same, r.keep (Keeps.new hp) (List.prefix_append _ _)⟩
theorem SRel.setC (R : SRel K H ra s) {n : Nat} {p : Addr} {c0 : Cell} {o : HO} (hn : n < s.length) (ep : ra[n]? = some p) (k : Keeps H (upd H p o)) (hc : RepC K (upd H p o) ra c0 p) : SRel K (upd H p o) ra (s.set n c0) := by
  refine ⟨by simp [R.len], R.nd, fun i c a e ea => ?_, k.2 R.tab⟩
  by_cases hi : i = n
  · subst hi
    rw [ep] at ea
    cases ea
    rw [List.getElem?_set_self hn] at e
    cases e
    exact hc
  · rw [List.getElem?_set_ne (Ne.symm hi)] at e
    have hne : a ≠ p := fun z => by
      subst z
      have h1 := (List.getElem?_eq_some_iff.mp ea)
      have h2 := (List.getElem?_eq_some_iff.mp ep)
      exact hi ((List.getElem_inj R.nd).mp (h1.2.trans h2.2.symm))
    exact (R.rep i c a e ea).keep k (List.prefix_refl _) (upd_ne hne)
theorem SRel.setL (R : SRel K H ra s) {n : Nat} {p : Addr} {l l0 : List D} {vs : List V} (en : isLst s n = some l0) (ep : ra[n]? = some p) (r : RepL K H ra l vs) : SRel K (upd H p (.lst vs)) ra (s.set n (.lst l)) ∧ Keeps H (upd H p (.lst vs)) := by
  obtain ⟨p', ws, e1, e2, _⟩ := R.lst en
  rw [ep] at e1
  cases e1
  have k : Keeps H (upd H p (.lst vs)) := Keeps.mut e2
  have hl : n < s.length := by
    rw [← R.len]
    exact (List.getElem?_eq_some_iff.mp ep).1
  exact ⟨R.setC hl ep k ⟨vs, upd_same, RepL.keep k (List.prefix_refl _) l vs r⟩, k⟩
theorem SRel.setD (R : SRel K H ra s) {n : Nat} {p : Addr} {l l0 : List (L2.Key × D)} {vs : List (L2.Key × V)} (en : isDct s n = some l0) (ep : ra[n]? = some p) (r : RepM K H ra l vs) : SRel K (upd H p (.dK vs)) ra (s.set n (.dct l)) ∧ Keeps H (upd H p (.dK vs)) := by
  obtain ⟨p', ws, e1, e2, _⟩ := R.dct en
  rw [ep] at e1
  cases e1
  have k : Keeps H (upd H p (.dK vs)) := Keeps.mutD e2
  have hl : n < s.length := by
    rw [← R.len]
    exact (List.getElem?_eq_some_iff.mp ep).1
  exact ⟨R.setC hl ep k ⟨vs, upd_same, r.keep k (List.prefix_refl _)⟩, k⟩
theorem RepV.unlock {a0 : Addr} {o : Obj} {kvs : List (L2.Key × V)} (h0 : H a0 = some (.frz o (.dK kvs))) {u : HO} : ∀ (d : D) (v : V), RepV K H ra d v → RepV K (upd H a0 u) ra d v := by
  have sq : ∀ {a : Addr} {vs : List V}, SqT K H a vs → SqT K (upd H a0 u) a vs := by
    rintro a vs ((h | ⟨o', h⟩) | h)
    · exact .inl (.inl (by rw [upd_ne (fun z => by rw [z, h0] at h; cases h)]; exact h))
    · exact .inl (.inr ⟨o', by rw [upd_ne (fun z => by rw [z, h0] at h; cases h)]; exact h⟩)
    · exact .inr h
  have fz : ∀ {a : Addr} {vs : List V}, FrzL K H a vs → FrzL K (upd H a0 u) a vs := by
    rintro a vs (⟨o', h⟩ | h)
    · exact .inl ⟨o', by rw [upd_ne (fun z => by rw [z, h0] at h; cases h)]; exact h⟩
    · exact .inr h
  intro d
  exact D.rec (motive_1 := fun d => ∀ v, RepV K H ra d v → RepV K (upd H a0 u) ra d v) (motive_2 := fun l => ∀ vs, RepL K H ra l vs → RepL K (upd H a0 u) ra l vs)
    (fun v h => h) (fun _ v h => h) (fun _ v h => h) (fun _ v h => h) (fun l ih v h => by
      obtain ⟨a, vs, e, s, r⟩ := h
      exact ⟨a, vs, e, sq s, ih vs r⟩) (fun n v h => h) (fun l v h => by
      obtain ⟨a, e, f⟩ := h
      exact ⟨a, e, fz f⟩) (fun ks vs _ v h => h) (fun g pl v h => h)
    (fun vs h => h) (fun d ds ih1 ih2 vs h => by
      obtain ⟨v, r, e, h1, h2⟩ := h
      exact ⟨v, r, e, ih1 v h1, ih2 r h2⟩) d
theorem RepL.unlock {a0 : Addr} {o : Obj} {kvs : List (L2.Key × V)} (h0 : H a0 = some (.frz o (.dK kvs))) {u : HO} : ∀ (l : List D) (vs : List V), RepL K H ra l vs → RepL K (upd H a0 u) ra l vs
  | [], vs, h => h
  | d :: ds, vs, h => by
    obtain ⟨v, r, e, h1, h2⟩ := h
    exact ⟨v, r, e, RepV.unlock h0 d v h1, RepL.unlock h0 ds r h2⟩
theorem RepM.unlock {a0 : Addr} {o : Obj} {kvs : List (L2.Key × V)} (h0 : H a0 = some (.frz o (.dK kvs))) {u : HO} {l : List (L2.Key × D)} {ws : List (L2.Key × V)} (h : RepM K H ra l ws) : RepM K (upd H a0 u) ra l ws := ⟨h.1, RepL.unlock h0 _ _ h.2⟩
theorem tabs_unlock {T : List (Addr × Str)} {a0 : Addr} {o : Obj} {kvs : List (L2.Key × V)} (h : H a0 = some (.frz o (.dK kvs))) {u : HO} (t : LamX.Tabs T H) : LamX.Tabs T (upd H a0 u) := fun q hq => by
  obtain ⟨ps, h1, h2, h3⟩ := t q hq
  refine ⟨ps, by rw [upd_ne (fun z => by rw [z, h] at h1; cases h1)]; exact h1, h2, fun pos cv hcc => ?_⟩
  obtain ⟨c, e1, e2⟩ := h3 pos cv hcc
  exact ⟨c, e1, by rw [upd_ne (fun z => by rw [z, h] at e2; cases e2)]; exact e2⟩
theorem SRel.lock (R : SRel K H ra s) {n : Nat} {l : List (L2.Key × D)} (e : isDct s n = some l) : ∃ a kvs, ra[n]? = some a ∧ H a = some (.dK kvs) ∧ RepM K H ra l kvs ∧ ∀ o, SRel K (upd H a (.frz o (.dK kvs))) ra (s.set n (.lck l)) ∧ Keeps H (upd H a (.frz o (.dK kvs))) := by
  obtain ⟨a, kvs, ea, hv, rm⟩ := R.dct e
  refine ⟨a, kvs, ea, hv, rm, fun o => ?_⟩
  have k : Keeps H (upd H a (.frz o (.dK kvs))) := Keeps.mutD hv
  have hl : n < s.length := by
    rw [← R.len]
    exact (List.getElem?_eq_some_iff.mp ea).1
  exact ⟨R.setC hl ea k ⟨kvs, ⟨o, upd_same⟩, rm.keep k (List.prefix_refl _)⟩, k⟩
theorem SRel.unlock {n : Nat} {l : List (L2.Key × D)} {a : Addr} {o : Obj} {kvs : List (L2.Key × V)} (R : SRel K H ra s) (e : s[n]? = some (.lck l)) (ea : ra[n]? = some a) (hv : H a = some (.frz o (.dK kvs))) : SRel K (upd H a (.dK kvs)) ra (s.set n (.dct l)) := by
  have hl : n < s.length := (List.getElem?_eq_some_iff.mp e).1
  obtain ⟨ws, ⟨o', hw⟩, rm⟩ := R.rep n _ a e ea
  rw [hv] at hw
  have ew : kvs = ws := by
    injection hw with h1
    injection h1 with h2 h3
    injection h3
  subst ew
  refine ⟨by simp [R.len], R.nd, fun i c b e2 eb => ?_, tabs_unlock hv R.tab⟩
  by_cases hi : i = n
  · subst hi
    rw [ea] at eb
    cases eb
    rw [List.getElem?_set_self hl] at e2
    cases e2
    exact ⟨kvs, upd_same, rm.unlock hv⟩
  · rw [List.getElem?_set_ne (Ne.symm hi)] at e2
    have hne : b ≠ a := fun z => by
      subst z
      have h1 := (List.getElem?_eq_some_iff.mp ea)
      have h2 := (List.getElem?_eq_some_iff.mp eb)
      exact hi ((List.getElem_inj R.nd).mp (h2.2.trans h1.2.symm))
    have q := R.rep i c b e2 eb
    cases c with
    | lst l2 =>
      obtain ⟨vs, hv2, r⟩ := q
      exact ⟨vs, by rw [upd_ne hne]; exact hv2, RepL.unlock hv _ _ r⟩
    | dct l2 =>
      obtain ⟨vs, hv2, r⟩ := q
      exact ⟨vs, by rw [upd_ne hne]; exact hv2, r.unlock hv⟩
    | lck l2 =>
      obtain ⟨vs, hv2, r⟩ := q
      exact ⟨vs, by rw [upd_ne hne]; exact hv2, r.unlock hv⟩
    | obj c l2 =>
      obtain ⟨vs, hv2, nd, r⟩ := q
      exact ⟨vs, by rw [upd_ne hne]; exact hv2, nd, r.1, RepL.unlock hv _ _ r.2⟩
theorem SRel.obj (R : SRel K H ra s) {n c : Nat} {l : List (Str × D)} (e : s[n]? = some (.obj c l)) : ∃ a C dx ws, ra[n]? = some a ∧ TBS.cl c C ∧ H a = some (.ins C dx ws) ∧ (∀ p ∈ l, TBS.nf C p.1) ∧ (l.map (·.1)).Nodup ∧ RepF K H ra l ws := by
  obtain ⟨a, ea, ws, ⟨C, dx, h1, h2, h3⟩, nd, r⟩ := R.at e
  exact ⟨a, C, dx, ws, ea, h1, h2, h3, nd, r⟩
theorem SRel.setO (R : SRel K H ra s) {n c : Nat} {a C dx : Addr} {l : List (Str × D)} {ws : List (Str × V)} {f : Str} {d : D} {v : V} (e : s[n]? = some (.obj c l)) (ea : ra[n]? = some a) (hc : TBS.cl c C) (hv : H a = some (.ins C dx ws)) (hl : ∀ p ∈ l, TBS.nf C p.1) (hf : TBS.nf C f) (nd : (l.map (·.1)).Nodup)
    (r : RepF K H ra l ws) (rv : RepV K H ra d v) : SRel K (upd H a (.ins C dx (putF f v ws))) ra (s.set n (.obj c (putD l f d))) ∧ Keeps H (upd H a (.ins C dx (putF f v ws))) := by
  have k : Keeps H (upd H a (.ins C dx (putF f v ws))) := Keeps.mutO hv rfl (fun _ z => by cases z) fun _ _ z => by cases z
  have hn : n < s.length := (List.getElem?_eq_some_iff.mp e).1
  exact ⟨R.setC hn ea k ⟨_, ⟨C, dx, hc, upd_same, putD_fst hl hf⟩, putD_nodup nd, (RepF.put rv nd r).keep k (List.prefix_refl _)⟩, k⟩
theorem SRel.newO (R : SRel K H ra s) {c : Nat} {C x dx : Addr} (hc : TBS.cl c C) (hx : H x = none) (hd : H dx = none) (ne : dx ≠ x) : SRel K (upd (upd H dx (.own x)) x (.ins C dx [])) (ra ++ [x]) (s ++ [.obj c []]) ∧ Keeps H (upd (upd H dx (.own x)) x (.ins C dx [])) := by
  have hx2 : upd H dx (.own x) x = none := by
    rw [upd_ne (Ne.symm ne)]
    exact hx
  exact ⟨(R.aside (p := dx) (o := .own x) hd).newC hx2 ⟨[], ⟨C, dx, hc, upd_same, fun p hp => nomatch hp⟩, by simp, rfl, rfl⟩, (Keeps.new hd).trans (Keeps.new hx2)⟩
theorem agree_get {n : Nat} : ∀ {s s' : Store}, agree n s s' = true → ∀ (i : Nat) (c c' : Cell), s[i]? = some c → s'[i]? = some c' → c' = c ∨ c'.und n = true
  | [], s', _, i, c, c', e, _ => by simp at e
  | x :: s, [], h, _, _, _, _, _ => by simp [agree] at h
  | x :: s, y :: s', h, 0, c, c', e, e' => by
    simp only [agree, Bool.and_eq_true, Bool.or_eq_true, decide_eq_true_eq] at h
    simp at e e'
    subst e e'
    rcases h.1 with z | z
    · exact .inl z.symm
    · exact .inr z
  | x :: s, y :: s', h, i + 1, c, c', e, e' => by
    simp only [agree, Bool.and_eq_true] at h
    exact agree_get h.2 i c c' (by simpa using e) (by simpa using e')
theorem agree_len {n : Nat} : ∀ {s s' : Store}, agree n s s' = true → s.length ≤ s'.length
  | [], s', _ => Nat.zero_le _
  | x :: s, [], h => by simp [agree] at h
  | x :: s, y :: s', h => by
    simp only [agree, Bool.and_eq_true] at h
    simpa using agree_len h.2
theorem SRel.trunc {s s' : Store} (R : SRel K H ra s) (R' : SRel K H' rb s') (p : ra <+: rb) (d : D) (v : V) (hv : RepV K H' rb d v) : ∃ rc, ra <+: rc ∧ SRel K H' rc (trunc s d s') ∧ RepV K H' rc d v := by
  unfold WL.trunc
  split
  · rename_i h
    rw [Bool.and_eq_true] at h
    obtain ⟨hd, ha⟩ := h
    have hl := agree_len ha
    have ep : rb.take s.length = ra := by
      obtain ⟨t, rfl⟩ := p
      rw [← R.len]
      simp
    refine ⟨ra, List.prefix_refl _, ?_, ?_⟩
    · refine ⟨?_, R.nd, fun i c a e ea => ?_, R'.tab⟩
      · rw [List.length_take, Nat.min_eq_left hl]
        exact R.len
      · have hi : i < s.length := by
          rw [← R.len]
          exact (List.getElem?_eq_some_iff.mp ea).1
        rw [List.getElem?_take_of_lt hi] at e
        have h' := R'.rep i c a e (pre_get p ea)
        have hu : c.und s.length = true := by
          rcases agree_get ha i _ c (List.getElem?_eq_getElem hi) e with z | z
          · have q := R.rep i _ a (List.getElem?_eq_getElem hi) ea
            rw [← z] at q
            cases c with
            | lst l =>
              obtain ⟨ws, _, r⟩ := q
              rw [← R.len]
              exact RepL.lt l ws r
            | dct l =>
              obtain ⟨ws, _, r⟩ := q
              rw [← R.len]
              exact RepL.lt _ _ r.2
            | lck l =>
              obtain ⟨ws, _, r⟩ := q
              rw [← R.len]
              exact RepL.lt _ _ r.2
            | obj c l =>
              obtain ⟨ws, _, _, r⟩ := q
              rw [← R.len]
              exact RepL.lt _ _ r.2
          · exact z
        cases c with
        | lst l =>
          obtain ⟨ws, q, r⟩ := h'
          exact ⟨ws, q, by rw [← ep]; exact RepL.back s.length l ws hu r⟩
        | dct l =>
          obtain ⟨ws, q, r⟩ := h'
          exact ⟨ws, q, by rw [← ep]; exact r.back s.length hu⟩
        | lck l =>
          obtain ⟨ws, q, r⟩ := h'
          exact ⟨ws, q, by rw [← ep]; exact r.back s.length hu⟩
        | obj c l =>
          obtain ⟨ws, q, nd, r⟩ := h'
          exact ⟨ws, q, nd, by rw [← ep]; exact r.back s.length hu⟩
    · rw [← ep]
      exact RepV.back s.length d v hd hv
  · exact ⟨rb, p, R', hv⟩
end
end WL
namespace WL
open PySem PySem.Spec PyProof.Rows L2
variable [TBS]
structure Cfg where
  fname : Nat → Str
  gname : Nat → Str
  cls : List Str
  base : Str
  P : Prog
  G : Globs
  F : Nat
  
  mks : Scope → Bool := fun _ => false
  
  n : Nat := 0
  
  na : List Nat := []
  
  lc : Nat → List Nat → List Str → Scope → Arguments → Expr → Scope → Bool := fun _ _ _ _ _ _ _ => false
  
  own : Nat → Option (Nat × Str) := fun _ => none
  
  fld : Nat → Str → Bool := fun _ _ => false
  
  cln : Nat → Str := fun _ => default
  
  dv : Nat → List D := fun _ => []
  
  mkr : Str × (Str × Option Str) × Str → Bool := fun _ => false
  
  nob : Nat := 0
  
  prm : Nat → List Str := fun _ => []
  
  mok : Str → Str → Bool := fun _ _ => false
class CLO where
  Γ : List (Nat × D)
  V : PySem.W.Frag → Hp → List Addr → D → V → Prop
  keep : ∀ {K : PySem.W.Frag} {H H' : Hp} {ra rb : List Addr} {d : D} {v : L2.V}, Keeps H H' → ra <+: rb → V K H ra d v → V K H' rb d v
def Off [CLO] (i : Nat) : Prop := ∀ p ∈ CLO.Γ, p.1 ≠ i
def noArgs (a : Arguments) : Bool := a.posonlyargs.isEmpty && a.args.isEmpty && a.vararg.isNone && a.kwonlyargs.isEmpty && a.kw_defaults.isEmpty && a.kwarg.isNone && a.defaults.isEmpty
def RepX (M : Cfg) (mg : Str → Option Value) (K : PySem.W.Frag) (H : Hp) (ra : List Addr) (c : Nat) (w : D) (cls : Value) (dd : Option Addr) : Prop :=
  ∃ (x : Str) (d : Addr) (v : V), M.cls[c]? = some x ∧ mg x = some cls ∧ dd = some d ∧ H d = some (.xd [(("what" : Str), v)]) ∧ RepV K H ra w v
section
variable (M : Cfg) (mg : Str → Option Value) (K : PySem.W.Frag) (W : WX) (σ : L2.St)
def PostR {α β : Type} (rep : Hp → List Addr → α → β → Prop) (H : Hp) (ra : List Addr) (r : R α) (Q : β → Hp → Prop) : Prop := match r with
  | .ok a s => ∀ b rb H', Keeps H H' → ra <+: rb → SRel K H' rb s → rep H' rb a b → Q b H'
  | .exc c w s => ∀ cls dd rb H', Keeps H H' → ra <+: rb → SRel K H' rb s → RepX M mg K H' rb c w cls dd → W cls dd σ H'
  | .bad => False
end
section
variable {M : Cfg} {mg : Str → Option Value} {K : PySem.W.Frag} {W : WX} {σ : L2.St} {α β γ δ : Type} {H H' : Hp} {ra rb : List Addr}
theorem PostR.mono {rep : Hp → List Addr → α → β → Prop} {r : R α} {Q : β → Hp → Prop} (h : PostR M mg K W σ rep H ra r Q) (k : Keeps H H') (p : ra <+: rb) : PostR M mg K W σ rep H' rb r Q := by
  cases r with
  | ok a s => exact fun b rc H2 k2 p2 => h b rc H2 (k.trans k2) (p.trans p2)
  | exc c w s => exact fun cls dd rc H2 k2 p2 => h cls dd rc H2 (k.trans k2) (p.trans p2)
  | bad => exact h
theorem PostR.imp {rep : Hp → List Addr → α → β → Prop} {r : R α} {Q Q' : β → Hp → Prop} (h : PostR M mg K W σ rep H ra r Q) (i : ∀ b H', Q b H' → Q' b H') : PostR M mg K W σ rep H ra r Q' := by
  cases r with
  | ok a s => exact fun b rc H2 k2 p2 s2 r2 => i _ _ (h b rc H2 k2 p2 s2 r2)
  | exc c w s => exact h
  | bad => exact h
theorem PostR.bind0 {repA : Hp → List Addr → α → β → Prop} {repB : Hp → List Addr → γ → δ → Prop} {r : R α} {f : α → Store → R γ} {Q : δ → Hp → Prop} (h : PostR M mg K W σ repB H ra (r.bind f) Q) :
    PostR M mg K W σ repA H ra r fun b H1 => ∃ a s1 r1, Keeps H H1 ∧ ra <+: r1 ∧ SRel K H1 r1 s1 ∧ repA H1 r1 a b ∧ PostR M mg K W σ repB H ra (f a s1) Q := by
  cases r with
  | ok a s => exact fun b rb H1 k p s1 rp => ⟨a, s, rb, k, p, s1, rp, h⟩
  | exc c w s => exact h
  | bad => exact h
theorem PostR.bind {repA : Hp → List Addr → α → β → Prop} {repB : Hp → List Addr → γ → δ → Prop} {r : R α} {f : α → Store → R γ} {Q : δ → Hp → Prop} (h : PostR M mg K W σ repB H ra (r.bind f) Q) :
    PostR M mg K W σ repA H ra r fun b H1 => ∃ a s1 r1, Keeps H H1 ∧ ra <+: r1 ∧ SRel K H1 r1 s1 ∧ repA H1 r1 a b ∧ PostR M mg K W σ repB H1 r1 (f a s1) Q :=
  (PostR.bind0 h).imp fun b H1 ⟨a, s1, r1, k, p, sr, rp, q⟩ => ⟨a, s1, r1, k, p, sr, rp, q.mono k p⟩
theorem PostR.quiet0 {ε : Type} {repA : Hp → List Addr → α → β → Prop} {repC : Hp → List Addr → γ → δ → Prop} {W' : WX} {σ' : L2.St} {r : R α} {f : α → Store → R ε} {f2 : ε → Store → R γ} {Q : δ → Hp → Prop}
    (h : PostR M mg K W σ repC H ra (((r.bind f).quiet).bind f2) Q) :
    PostR M mg K W' σ' repA H ra r fun b H1 => ∃ a s1 r1, Keeps H H1 ∧ ra <+: r1 ∧ SRel K H1 r1 s1 ∧ repA H1 r1 a b ∧ PostR M mg K W σ repC H ra (((f a s1).quiet).bind f2) Q := by
  cases r with
  | ok a s => exact fun b rb H1 k p s1 rp => ⟨a, s, rb, k, p, s1, rp, h⟩
  | exc c w s => exact (show False from h).elim
  | bad => exact h
theorem PostR.quiet1 {repA : Hp → List Addr → α → β → Prop} {repC : Hp → List Addr → γ → δ → Prop} {W' : WX} {σ' : L2.St} {r : R α} {f2 : α → Store → R γ} {Q : δ → Hp → Prop}
    (h : PostR M mg K W σ repC H ra ((r.quiet).bind f2) Q) :
    PostR M mg K W' σ' repA H ra r fun b H1 => ∃ a s1 r1, Keeps H H1 ∧ ra <+: r1 ∧ SRel K H1 r1 s1 ∧ repA H1 r1 a b ∧ PostR M mg K W σ repC H ra (f2 a s1) Q := by
  cases r with
  | ok a s => exact fun b rb H1 k p s1 rp => ⟨a, s, rb, k, p, s1, rp, h⟩
  | exc c w s => exact (show False from h).elim
  | bad => exact h
theorem PostR.quiet0q {ε : Type} {repA : Hp → List Addr → α → β → Prop} {repC : Hp → List Addr → γ → δ → Prop} {W' : WX} {σ' : L2.St} {r : R α} {f : α → Store → R ε} {f2 : ε → Store → R γ} {Q : δ → Hp → Prop}
    (h : PostR M mg K W σ repC H ra (((r.bind f).quiet).bind f2) Q) :
    PostR M mg K W' σ' repA H ra r.quiet fun b H1 => ∃ a s1 r1, Keeps H H1 ∧ ra <+: r1 ∧ SRel K H1 r1 s1 ∧ repA H1 r1 a b ∧ PostR M mg K W σ repC H ra (((f a s1).quiet).bind f2) Q := by
  cases r with
  | ok a s => exact fun b rb H1 k p s1 rp => ⟨a, s, rb, k, p, s1, rp, h⟩
  | exc c w s => exact (show False from h).elim
  | bad => exact h
theorem PostR.quiet {rep : Hp → List Addr → α → β → Prop} {W' : WX} {σ' : L2.St} {r : R α} {Q : β → Hp → Prop} (h : PostR M mg K W σ rep H ra r.quiet Q) : PostR M mg K W' σ' rep H ra r.quiet Q := by
  cases r with
  | ok a s => exact h
  | exc c w s => exact h
  | bad => exact h
end
variable [CLO]
structure ERel (K : PySem.W.Frag) (H : Hp) (ra : List Addr) (ρ : Env) (σ : L2.St) : Prop where
  len : σ.length = ρ.length
  get : ∀ (i : Nat) (d : D), ρ[i]? = some (some d) → ∃ v, σ[i]? = some (some v) ∧ RepV K H ra d v
  clo : ∀ p ∈ CLO.Γ, ∃ v, σ[p.1]? = some (some v) ∧ CLO.V K H ra p.2 v
section
variable {K : PySem.W.Frag} {H H' : Hp} {ra rb : List Addr} {ρ : Env} {σ : L2.St}
theorem ERel.keep (h : ERel K H ra ρ σ) (k : Keeps H H') (p : ra <+: rb) : ERel K H' rb ρ σ :=
  ⟨h.len, fun i d e => let ⟨v, e1, r⟩ := h.get i d e; ⟨v, e1, RepV.keep k p d v r⟩, fun q hq => let ⟨v, e1, r⟩ := h.clo q hq; ⟨v, e1, CLO.keep k p r⟩⟩
theorem ERel.set (h : ERel K H ra ρ σ) (i : Nat) (hf : Off i) {d : D} {v : V} (r : RepV K H ra d v) : ERel K H ra (ρ.set i (some d)) (σ.set i (some v)) := by
  refine ⟨by simp [h.len], fun j e ej => ?_, fun q hq => by
    obtain ⟨w, e1, r1⟩ := h.clo q hq
    exact ⟨w, by rw [List.getElem?_set_ne (fun z => hf q hq z.symm)]; exact e1, r1⟩⟩
  by_cases hj : i = j
  · subst hj
    have hl : i < ρ.length := by
      have := (List.getElem?_eq_some_iff.mp ej).1
      simpa using this
    rw [List.getElem?_set_self hl] at ej
    cases ej
    exact ⟨v, by rw [List.getElem?_set_self (by rw [h.len]; exact hl)], r⟩
  · rw [List.getElem?_set_ne hj] at ej
    obtain ⟨w, e1, r1⟩ := h.get j e ej
    exact ⟨w, by rw [List.getElem?_set_ne hj]; exact e1, r1⟩
theorem wipeE_length (ρ : Env) : ∀ vs : List Nat, (wipeE ρ vs).length = ρ.length
  | [] => rfl
  | v :: vs => by unfold wipeE; rw [List.length_set, wipeE_length ρ vs]
theorem ERel.wipe (h : ERel K H ra ρ σ) : ∀ vs : List Nat, (∀ j ∈ vs, Off j) → ERel K H ra (wipeE ρ vs) (L2.wipe σ vs)
  | [], _ => h
  | v :: vs, hv => by
    have ih := ERel.wipe h vs fun j hj => hv j (List.mem_cons_of_mem _ hj)
    refine ⟨by rw [L2.wipe_length, wipeE_length, h.len], fun j e ej => ?_, fun q hq => by
      obtain ⟨w, e1, r1⟩ := ih.clo q hq
      unfold L2.wipe
      exact ⟨w, by rw [List.getElem?_set_ne (fun z => hv v List.mem_cons_self q hq z.symm)]; exact e1, r1⟩⟩
    unfold wipeE at ej
    unfold L2.wipe
    by_cases hj : v = j
    · subst hj
      have hl : v < (wipeE ρ vs).length := by
        have := (List.getElem?_eq_some_iff.mp ej).1
        simpa using this
      rw [List.getElem?_set_self hl] at ej
      cases ej
    · rw [List.getElem?_set_ne hj] at ej
      rw [List.getElem?_set_ne hj]
      exact ih.get j e ej
end
section
variable (M : Cfg) (X : Cx) (W : WX)
def repB : Hp → List Addr → Bool → Bool → Prop := fun _ _ a b => b = a
def tE (f : Env → Store → R D) : TE := fun σ H Q => ∃ ra ρ s, ERel X.K H ra ρ σ ∧ SRel X.K H ra s ∧ PostR M X.mg X.K W σ (RepV X.K) H ra (f ρ s) Q
def tT (f : Env → Store → R Bool) : TT := fun σ H Q => ∃ ra ρ s, ERel X.K H ra ρ σ ∧ SRel X.K H ra s ∧ PostR M X.mg X.K W σ repB H ra (f ρ s) Q
def tA (f : Env → Store → R (List D)) : TA := fun σ H Q => ∃ ra ρ s, ERel X.K H ra ρ σ ∧ SRel X.K H ra s ∧ PostR M X.mg X.K W σ (RepL X.K) H ra (f ρ s) Q
def Walks (K : PySem.W.Frag) (H0 : Hp) (r0 : List Addr) (w : Walk) (J : L2.It) : Prop := ∀ (i : Nat) (H : Hp) (ra : List Addr) (s : Store), Keeps H0 H → r0 <+: ra → SRel K H ra s → w.stays s = true →
  (∀ d, w.its[i]? = some d → J.go i H ∧ ∀ x H', J.yld i H x H' → Keeps H H' ∧ SRel K H' ra s ∧ RepV K H' ra d x) ∧ (w.its.length = i → J.stop i H)
def tI (f : Env → Store → R Walk) : TI := fun σ H Q => ∃ ra ρ s, ERel X.K H ra ρ σ ∧ SRel X.K H ra s ∧ PostR M X.mg X.K W σ (Walks X.K) H ra (f ρ s) Q
def SameOut (l : List Nat) (σ σ' : L2.St) : Prop := σ'.length = σ.length ∧ ∀ j, j ∉ l → σ'[j]? = σ[j]?
def tG (l : List Nat) (f : D → Env → Store → R Env) : TG := fun v σ H Q => ∃ ra ρ s d, ERel X.K H ra ρ σ ∧ SRel X.K H ra s ∧ RepV X.K H ra d v ∧
  PostR M X.mg X.K (fun _ _ _ _ => False) σ (fun H' rb ρ' σ' => ERel X.K H' rb ρ' σ' ∧ SameOut l σ σ') H ra (f d ρ s).quiet Q
def tGs (l : List Nat) (f : List D → Env → Store → R Env) : TGs := fun vs σ H Q => ∃ ra ρ s ds, ERel X.K H ra ρ σ ∧ SRel X.K H ra s ∧ RepL X.K H ra ds vs ∧
  PostR M X.mg X.K (fun _ _ _ _ => False) σ (fun H' rb ρ' σ' => ERel X.K H' rb ρ' σ' ∧ SameOut l σ σ') H ra (f ds ρ s).quiet Q
def PostS (D : L2.Ends) (H : Hp) (ra : List Addr) (r : RS) : Prop := match r with
  | .nx ρ s => ∀ σ' rb H', Keeps H H' → ra <+: rb → SRel X.K H' rb s → ERel X.K H' rb ρ σ' → D.nx σ' H'
  | .brk ρ s => ∀ σ' rb H', Keeps H H' → ra <+: rb → SRel X.K H' rb s → ERel X.K H' rb ρ σ' → D.bk σ' H'
  | .cnt ρ s => ∀ σ' rb H', Keeps H H' → ra <+: rb → SRel X.K H' rb s → ERel X.K H' rb ρ σ' → D.ct σ' H'
  | .ret d s => ∀ v rb H', Keeps H H' → ra <+: rb → SRel X.K H' rb s → RepV X.K H' rb d v → D.rt v H'
  | .exc c w ρ s => ∀ cls dd σ' rb H', Keeps H H' → ra <+: rb → SRel X.K H' rb s → ERel X.K H' rb ρ σ' → RepX M X.mg X.K H' rb c w cls dd → W cls dd σ' H'
  | .bad => False
def tS (f : Env → Store → RS) : TS := fun D σ H => ∃ ra ρ s, ERel X.K H ra ρ σ ∧ SRel X.K H ra s ∧ PostS M X W D H ra (f ρ s)
end
section
variable {M : Cfg} {X : Cx} {W : WX}
theorem PE.sub {e : Expr} {t t' : TE} (h : PE X e t) (i : ∀ σ H Q, t' σ H Q → t σ H Q) : PE X e t' := ⟨fun pins s σ H Q I q => h.run pins s σ H Q I (i σ H Q q)⟩
theorem PT.sub {e : Expr} {t t' : TT} (h : PT X e t) (i : ∀ σ H Q, t' σ H Q → t σ H Q) : PT X e t' := ⟨fun pins s σ H Q I q => h.run pins s σ H Q I (i σ H Q q)⟩
theorem PW.sub {e : Expr} {t t' : TT} (h : PW X e t) (i : ∀ σ H Q, t' σ H Q → t σ H Q) : PW X e t' := ⟨fun wh pins s σ H Q I q => h.run wh pins s σ H Q I (i σ H Q q)⟩
theorem PA.sub {e : List Expr} {t t' : TA} (h : PA X e t) (i : ∀ σ H Q, t' σ H Q → t σ H Q) : PA X e t' := ⟨fun pos pins s σ H Q I q => h.run pos pins s σ H Q I (i σ H Q q)⟩
theorem PS.sub {e : Stmt} {t t' : TS} (h : PS X e t) (i : ∀ D σ H, t' D σ H → t D σ H) : PS X e t' := ⟨fun pins s σ H D I q => h.run pins s σ H D I (i D σ H q)⟩
theorem PSs.sub {e : List Stmt} {t t' : TS} (h : PSs X e t) (i : ∀ D σ H, t' D σ H → t D σ H) : PSs X e t' := ⟨fun pins s σ H D I q => h.run pins s σ H D I (i D σ H q)⟩
theorem PG.sub {e : Expr} {t t' : TG} (h : PG X e t) (i : ∀ v σ H Q, t' v σ H Q → t v σ H Q) : PG X e t' := ⟨fun pins s σ H v u Q I r q => h.run pins s σ H v u Q I r (i v σ H Q q)⟩
theorem PGs.sub {e : List Expr} {t t' : TGs} (h : PGs X e t) (i : ∀ v σ H Q, t' v σ H Q → t v σ H Q) : PGs X e t' := ⟨fun pins s σ H v u Q I r q => h.run pins s σ H v u Q I r (i v σ H Q q)⟩
theorem PI.sub {tg e : Expr} {t t' : TI} (h : PI X tg e t) (i : ∀ σ H Q, t' σ H Q → t σ H Q) : PI X tg e t' := ⟨fun pins s σ H Q I q => h.run pins s σ H Q I (i σ H Q q)⟩
theorem tE_bind {γ δ : Type} {repB : Hp → List Addr → γ → δ → Prop} {f : Env → Store → R D} {g : D → Store → R γ} {σ : L2.St} {H : Hp} {ra : List Addr} {ρ : Env} {s : Store} {Q : δ → Hp → Prop} {Q' : V → Hp → Prop}
    (e : ERel X.K H ra ρ σ) (r : SRel X.K H ra s) (p : PostR M X.mg X.K W σ repB H ra ((f ρ s).bind g) Q)
    (h : ∀ x H1 a s1 r1, Keeps H H1 → ra <+: r1 → ERel X.K H1 r1 ρ σ → SRel X.K H1 r1 s1 → RepV X.K H1 r1 a x → PostR M X.mg X.K W σ repB H1 r1 (g a s1) Q → Q' x H1) : tE M X W f σ H Q' :=
  ⟨ra, ρ, s, e, r, (PostR.bind (repA := RepV X.K) p).imp fun x H1 ⟨a, s1, r1, k, pf, sr, rp, q⟩ => h x H1 a s1 r1 k pf (e.keep k pf) sr rp q⟩
theorem tA_bind {γ δ : Type} {repB : Hp → List Addr → γ → δ → Prop} {f : Env → Store → R (List D)} {g : List D → Store → R γ} {σ : L2.St} {H : Hp} {ra : List Addr} {ρ : Env} {s : Store} {Q : δ → Hp → Prop} {Q' : List V → Hp → Prop}
    (e : ERel X.K H ra ρ σ) (r : SRel X.K H ra s) (p : PostR M X.mg X.K W σ repB H ra ((f ρ s).bind g) Q)
    (h : ∀ x H1 a s1 r1, Keeps H H1 → ra <+: r1 → ERel X.K H1 r1 ρ σ → SRel X.K H1 r1 s1 → RepL X.K H1 r1 a x → PostR M X.mg X.K W σ repB H1 r1 (g a s1) Q → Q' x H1) : tA M X W f σ H Q' :=
  ⟨ra, ρ, s, e, r, (PostR.bind (repA := RepL X.K) p).imp fun x H1 ⟨a, s1, r1, k, pf, sr, rp, q⟩ => h x H1 a s1 r1 k pf (e.keep k pf) sr rp q⟩
end
end WL
set_option maxHeartbeats 2000000
namespace WL
open PySem PySem.Spec PyProof.Rows L2 HT
section
variable {prog : Program} {w : World} {A : Around} {E : Value → Shared → Prop} {s : Shared}
theorem sliceApplied_rev {sl : Addr} {vl vu vs : Value} {n : Nat} {Q : Int × Int × Nat → Shared → Prop} (hs : s.heap.IsSliceOf sl vl vu vs) (pl : IsPart vl none) (pu : IsPart vu none) (ps : IsPart vs (some (-1)))
    (h : Q ((n : Int) - 1, -1, n) s) : wpAny (model prog w) A (Builtin.Slice.sliceApplied (.ref sl) (pure (n : Int))) Q E s := by
  obtain ⟨os, hos, hcs, hds⟩ := id hs
  unfold Builtin.Slice.sliceApplied Builtin.Slice.sliceFields
  refine wpAny_bind (wpAny_bind (wpAny_field hos hds (x := vl) rfl (wpAny_bind (wpAny_field hos hds (x := vu) rfl (wpAny_bind (wpAny_field hos hds (x := vs) rfl (wpAny_pure ?_)))))))
  refine wpAny_bind (slicePart_ ps ?_)
  show wpAny _ _ (if ((-1 : Int) == 0) = true then _ else _) _ _ s
  rw [if_neg (by decide)]
  refine wpAny_bind (slicePart_ pl (wpAny_bind (slicePart_ pu (wpAny_bind (wpAny_pure ?_)))))
  have e : Builtin.Slice.sliceAdjust none none (-1) (n : Int) = ((n : Int) - 1, -1) := rfl
  show wpAny _ _ (match Builtin.Slice.sliceAdjust none none (-1) (n : Int) with | (lo, hi) => pure (lo, (-1 : Int), Builtin.Slice.slicePlaces lo hi (-1))) _ _ s
  rw [e]
  have e2 : Builtin.Slice.slicePlaces ((n : Int) - 1) (-1) (-1) = n := by
    unfold Builtin.Slice.slicePlaces
    have h1 : ¬ ((-1 : Int) > 0) := by omega
    simp only [h1, if_false, Int.neg_neg, Int.ediv_one]
    split <;> omega
  show wpAny _ _ (pure ((n : Int) - 1, (-1 : Int), Builtin.Slice.slicePlaces ((n : Int) - 1) (-1) (-1))) _ _ s
  rw [e2]
  exact wpAny_pure h
theorem fm_some {α β : Type} {f : α → Option β} {g : α → β} : ∀ {l : List α}, (∀ m ∈ l, f m = some (g m)) → l.filterMap f = l.map g
  | [], _ => rfl
  | a :: l, h => by
    rw [List.filterMap_cons, h a List.mem_cons_self, List.map_cons, fm_some fun m hm => h m (List.mem_cons_of_mem _ hm)]
theorem pick_rev (xs : Array Value) : ((List.range xs.size).filterMap fun (m : Nat) => xs[((xs.size : Int) - 1 + (m : Int) * (-1)).toNat]?).toArray = xs.toList.reverse.toArray := by
  congr 1
  rw [fm_some (g := fun m => xs.toList.reverse.getD m .none)]
  · refine List.ext_getElem? fun i => ?_
    rw [List.getElem?_map]
    by_cases hi : i < xs.size
    · rw [List.getElem?_range hi, Option.map_some, List.getD_eq_getElem?_getD, List.getElem?_eq_getElem (by rw [List.length_reverse, Array.length_toList]; exact hi)]
      rfl
    · rw [List.getElem?_eq_none (by rw [List.length_range]; omega), List.getElem?_eq_none (by rw [List.length_reverse, Array.length_toList]; omega)]
      rfl
  · intro m hm
    have hm := List.mem_range.mp hm
    have e : ((xs.size : Int) - 1 + (m : Int) * (-1)).toNat = xs.size - 1 - m := by omega
    rw [e, List.getD_eq_getElem?_getD, List.getElem?_reverse (by rw [Array.length_toList]; exact hm), Array.length_toList, ← Array.getElem?_toList, List.getElem?_eq_getElem (by rw [Array.length_toList]; omega)]
    rfl
theorem getItem_tuple_rev {t sl : Addr} {items : Array Value} {vl vu vs : Value} {Q : Value → Shared → Prop} (ht : IsTup s.heap t items) (hs : s.heap.IsSliceOf sl vl vu vs) (pl : IsPart vl none) (pu : IsPart vu none) (ps : IsPart vs (some (-1)))
    (h : Q (.ref s.heap.objs.size) { s with heap := s.heap.push { cls := .type "tuple", data := .seq items.toList.reverse.toArray } })
    (hsz : items.size ≤ sizeLine) : wpAny (model prog w) A (getItem (.ref t) (.ref sl)) Q E s := by
  have htake : sizeOk (.seq items.toList.reverse.toArray) := by
    show items.toList.reverse.toArray.size ≤ sizeLine
    rw [List.size_toArray, List.length_reverse, Array.length_toList]
    exact hsz
  obtain ⟨os, hos, hcs, hds⟩ := id hs
  have hTs : s.TypeIs (.ref sl) "slice" := ⟨os, hos, hcs⟩
  unfold getItem
  try with_reducible refine wpAny_holding ?_
  first | refine wpAny_bind (wpAny_pure ?_) | skip
  refine wpAny_bind (wpAny_sequenceKey ht.typeIs (by decide) ?_)
  refine wpAny_bind (wpAny_callSpecial?_slot (name := Str.ofString "__getitem__") ht.typeIs PyProof.Rows.slot_tuple_getitem
    (wpAny_call_entry PyProof.Rows.slot_tuple_getitem ht.typeIs entry_tuple_getitem ?_ (args_tuple_getitem _ _)))
  show wpAny _ _ (Builtin.Tuple.tupleItemsOf (.ref t) >>= _) _ _ s
  refine wpAny_bind (tupleItemsOf_ ht ?_)
  refine wpAny_bind (wpAny_typeOf hTs ?_)
  rw [if_pos (by decide)]
  refine wpAny_bind (sliceApplied_rev hs pl pu ps ?_)
  have hno : ¬ ((((items.size : Int) - 1) == 0 && (-1 : Int) == 1 && items.size == items.size) = true) := by
    intro q
    rw [Bool.and_eq_true, Bool.and_eq_true] at q
    exact absurd q.1.2 (by decide)
  show wpAny _ _ (if (((items.size : Int) - 1) == 0 && (-1 : Int) == 1 && items.size == items.size) = true then _ else _) _ _ s
  rw [if_neg hno, pick_rev]
  first
    | exact wpAny_bind (m := Builtin.Tuple.tupleExact _) (wpAny_newObj_type (wpAny_pure ⟨_, rfl, wpAny_pure h⟩) htake)
    | exact wpAny_bind (m := Builtin.Tuple.tupleExact _) (wpAny_newObj_type (wpAny_bind (wpAny_pure (wpAny_pure ⟨_, rfl, wpAny_pure h⟩))) htake)
    | exact wpAny_bind (wpAny_bind (m := Builtin.Tuple.tupleExact _) (wpAny_newObj_type (wpAny_pure (wpAny_pure ⟨_, rfl, wpAny_pure h⟩)) htake))
    | exact wpAny_bind (wpAny_bind (m := Builtin.Tuple.tupleExact _) (wpAny_newObj_type (wpAny_pure ⟨_, rfl, wpAny_pure h⟩) htake))
end
end WL
namespace WL
open PySem PySem.Spec PyProof.Rows L2 HT
variable [TBS]
def tRevA (K : PySem.W.Frag) (te : TE) : TE := fun σ H Q => te σ H fun x H1 => ∃ a xs, x = .ref a ∧ ((SqL K H1 a xs ∧ ∀ p, H1 p = none → Q (.ref p) (upd H1 p (.lst xs.reverse))) ∨ (SqT K H1 a xs ∧ ∀ p, H1 p = none → Q (.ref p) (upd H1 p (.tup xs.reverse))))
theorem pe_revA {X : Cx} {e : Expr} {te : TE} {k : Nat} {p1 p2 p3 pos : Pos} (he : PE X e te) : PE X (.Subscript e (.Slice none none (some (.UnaryOp .USub (.Constant (.int 1) k p1) p2)) p3) pos) (tRevA X.K te) := by
  refine ⟨fun pins s σ H Q I h => ?_⟩
  refine Subscript_ (thn (he.run pins s σ H _ I h) fun v s1 ⟨x, H1, I1, r1, q1⟩ => ?_)
  obtain ⟨a, xs, ex, hx⟩ := q1
  subst ex
  cases r1
  have hst : PO X (some (.UnaryOp .USub (.Constant (.int 1) k p1) p2)) (tPart (tUn (rU fun i => .int (-i)) (tC (.int 1)))) := po_some (pe_un un_neg pe_int)
  refine wpAny_Slice (thn (po_none.run pins s1 σ H1 (fun o H2 => o = none ∧ H2 = H1) I1 ⟨rfl, rfl⟩) fun vl s2 ⟨l, H2, I2, pl, el, e2⟩ => ?_)
  subst el e2
  refine thn (po_none.run pins s2 σ H2 (fun o H3 => o = none ∧ H3 = H2) I2 ⟨rfl, rfl⟩) fun vu s3 ⟨u, H3, I3, pu, eu, e3⟩ => ?_
  subst eu e3
  refine thn (hst.run pins s3 σ H3 (fun o H4 => o = some (-1) ∧ H4 = H3) I3 ⟨1, rfl, -1, rfl, rfl, rfl⟩) fun vs s4 ⟨o, H4, I4, ps, eo, e4⟩ => ?_
  subst eo e4
  have I5 : Inv X pins σ H4 { s4 with heap := s4.heap.push { cls := .type "slice", data := .fields #[vl, vu, vs] } } := I4.kept (t' := s4.toks) fun b ob q => Heap.get?_push_of_some _ q
  show wpAny (model X.prog X.w) X.A (subscriptTail e (.Slice none none (some (.UnaryOp .USub (.Constant (.int 1) k p1) p2)) p3) (.ref a) (.ref s4.heap.objs.size)) (EP X pins σ Q) X.xe { s4 with heap := s4.heap.push { cls := .type "slice", data := .fields #[vl, vu, vs] } }
  rcases hx with ⟨hx, q⟩ | ⟨hx, q⟩
  · obtain ⟨its, r, ht, hz⟩ := I5.list hx
    have hlen := r.length
    refine tail_any (ops := [.ref a, .ref s4.heap.objs.size]) ht.isList.typeIs (PySem.slot_list_getitem.lookup) ?_ (by with_unfolding_all rfl)
    refine wpAny_getItem_list_slice ht.isList (Heap.IsSliceOf.new _ vl vu vs) pl pu ps (by decide) ?_ (by rw [List.size_toArray]; omega)
    rw [PySem.W.krv_pick]
    refine ⟨.ref _, _, I5.laid (t' := s4.toks) (o := .lst xs.reverse) (fun b ob q => Heap.get?_push_of_some _ q) (Nat.le_refl _) ?_, rfl, q _ (I5.hok.fresh (Nat.le_refl _))⟩
    exact ⟨by rw [List.length_reverse]; exact hz, _, 0, r.reverse, Heap.get?_push_size _ rfl⟩
  · obtain ⟨its, r, ht, hz⟩ := I5.tuple hx
    have hlen := r.length
    refine tail_any (ops := [.ref a, .ref s4.heap.objs.size]) ht.typeIs (PyProof.Rows.slot_tuple_getitem.lookup) ?_ (by with_unfolding_all rfl)
    refine getItem_tuple_rev ht (Heap.IsSliceOf.new _ vl vu vs) pl pu ps ?_ (by rw [List.size_toArray]; omega)
    refine ⟨.ref _, _, I5.laid (t' := s4.toks) (o := .tup xs.reverse) (fun b ob q => Heap.get?_push_of_some _ q) (Nat.le_refl _) ?_, rfl, q _ (I5.hok.fresh (Nat.le_refl _))⟩
    exact ⟨by rw [List.length_reverse]; exact hz, _, r.reverse, ⟨_, Heap.get?_push_size _ rfl, rfl, _, rfl⟩⟩
end WL
set_option maxHeartbeats 4000000
namespace SrtT
open PySem PyProof.Rows Srt SrtO
section
variable {prog : Program} {w : World} {A : Around} {E : Value → Shared → Prop} {s : Shared}
def IsTP (h : Heap) (v : Value) (x : Str) (u : Value) : Prop := ∃ a o t n, v = .ref a ∧ h.get? a = some o ∧ o.cls = .type "tuple" ∧ o.data = .seq #[.str x t, u] n
theorem IsTP.keeps {h h' : Heap} {v u : Value} {x : Str} (p : IsTP h v x u) (k : ∀ b o, h.get? b = some o → o.cls = .type "tuple" → h'.get? b = some o) : IsTP h' v x u := by
  obtain ⟨a, o, t, n, e, ho, hc, hd⟩ := p
  exact ⟨a, o, t, n, e, k _ _ ho hc, hc, hd⟩
def ltT (k : Value → Str) (v u : Value) : Bool := decide ((k v).cps.toList < (k u).cps.toList)
theorem swo_tx (k : Value → Str) : Swo (ltT k) := by
  refine ⟨fun x y h => ?_, fun x y z h1 h2 => ?_⟩
  · exact decide_eq_false (List.lt_asymm (of_decide_eq_true h))
  · refine decide_eq_false fun h => ?_
    have a : ¬ (k y).cps.toList < (k x).cps.toList := of_decide_eq_false (show decide ((k y).cps.toList < (k x).cps.toList) = false from h1)
    have b : ¬ (k z).cps.toList < (k y).cps.toList := of_decide_eq_false (show decide ((k z).cps.toList < (k y).cps.toList) = false from h2)
    exact (List.le_trans (show (k x).cps.toList ≤ (k y).cps.toList from a) (show (k y).cps.toList ≤ (k z).cps.toList from b)) h
theorem tp_cmp {vs : List Value} {k : Value → Str} (hp : ∀ v ∈ vs, ∃ u, IsTP s.heap v (k v) u) (hd : ∀ v ∈ vs, ∀ u ∈ vs, k v = k u → v = u) : Cmp prog w A s (tuples' true) (fun p => p.1 ∈ vs) (lt2 (ltT k)) := by
  intro p q hm hm'
  show wpAny (model prog w) A (keyLt' (tuples' true) p.1 q.1) (fun r s' => s' = s ∧ r = decide ((k p.1).cps.toList < (k q.1).cps.toList)) (fun _ _ => False) s
  by_cases e0 : k p.1 = k q.1
  · have e1 := hd _ hm _ hm' e0
    obtain ⟨u, a, o, t, n, e, ho, hc, hdt⟩ := hp _ hm
    have irr : decide ((k p.1).cps.toList < (k q.1).cps.toList) = false := by
      rw [e0]
      exact decide_eq_false (List.lt_irrefl _)
    rw [irr, ← e1, e]
    refine PySem.W.kat_lt ho hdt ho hdt ?_
    show PySem.W.KatLex prog w A true (decide (2 < 2)) _ [(.str (k p.1) t, .str (k p.1) t), (u, u)] 0 s
    refine PySem.W.kat_cons (SeqAt.EqAt.same _ prog w _ _ ?_)
    refine PySem.W.kat_go (fun _ => ?_) (fun z => by cases z)
    refine PySem.W.kat_yes (PySem.W.kat_cons (SeqAt.EqAt.same _ prog w _ _ ?_))
    refine PySem.W.kat_go (fun _ => ?_) (fun z => by cases z)
    exact PySem.W.kat_yes (PySem.W.kat_nil ⟨rfl, rfl⟩)
  · obtain ⟨u, a, o, t, n, e, ho, hc, hdt⟩ := hp _ hm
    obtain ⟨u', a', o', t', n', e', ho', hc', hdt'⟩ := hp _ hm'
    rw [e] at e0 hdt
    rw [e'] at e0 hdt'
    rw [e, e']
    refine PySem.W.kat_lt ho hdt ho' hdt' ?_
    show PySem.W.KatLex prog w A true (decide (2 < 2)) _ [(.str (k (.ref a)) t, .str (k (.ref a')) t'), (u, u')] 0 s
    refine PySem.W.kat_cons (SeqAt.EqAt.str_str _ t _ t' prog w _ _ ?_)
    refine PySem.W.kat_go (fun e1 => absurd (by simpa using e1) e0) (fun _ => ?_)
    exact PySem.W.kat_no (oneLt_str ⟨rfl, rfl⟩)
theorem firsts_of {h : Heap} {k : Value → Str} : ∀ {vs : List Value}, (∀ v ∈ vs, ∃ u, IsTP h v (k v) u) → ∃ fs : List Value, PySem.W.KatTups h vs fs ∧ fs.length = vs.length ∧ ∀ f ∈ fs, ∃ x t, f = Value.str x t
  | [], _ => ⟨[], PySem.W.KatTups.nil, rfl, fun _ hm => by simp at hm⟩
  | v :: vs, hp => by
    obtain ⟨fs, h1, h2, h3⟩ := firsts_of (vs := vs) fun v' hm => hp v' (List.mem_cons_of_mem _ hm)
    obtain ⟨u, a, o, t, n, e, ho, hc, hd⟩ := hp v (List.mem_cons_self ..)
    generalize k v = x at hd
    subst e
    refine ⟨.str x t :: fs, PySem.W.KatTups.cons ho hc hd rfl h1, by rw [List.length_cons, List.length_cons, h2], fun f hm => ?_⟩
    rcases List.mem_cons.mp hm with rfl | hm
    · exact ⟨x, t, rfl⟩
    · exact h3 f hm
theorem tp_sortable {a : Addr} {vs : List Value} {k : Value → Str} (h0 : 0 < vs.length) (hp : ∀ v ∈ vs, ∃ u, IsTP s.heap v (k v) u) (hd : ∀ v ∈ vs, ∀ u ∈ vs, k v = k u → v = u) (ha : ∀ o, s.heap.get? a = some o → o.cls ≠ .type "tuple") : SortableO prog w A s a vs (ltT k) := by
  intro h' keep
  have hp' : ∀ v ∈ vs, ∃ u, IsTP h' v (k v) u := fun v hm => (hp v hm).imp fun u x => x.keeps fun b o e c => keep b o (fun z => by subst z; exact ha o e c) e
  obtain ⟨fs, h1, h2, h3⟩ := firsts_of hp'
  refine ⟨tuples' true, fun Q E hq => ?_, tp_cmp hp' hd⟩
  refine PySem.W.kat_kind (T := .type "str") h1 (by omega) (fun f hm => ?_) (by rfl) ?_
  · obtain ⟨x, t, rfl⟩ := h3 f hm
    exact PySem.W.Looks.now
  · have e : (Value.type "str" != Value.type "tuple") = true := by first | decide +kernel | rfl | decide
    rw [e]
    exact hq
theorem collect_tuple {l : Addr} {vs : List Value} {Q : List Value → Shared → Prop} (hl : s.heap.IsTuple l vs.toArray)
    (h : Q vs { s with heap := (s.heap.push (seqObj "list" #[] 0)).update s.heap.objs.size (Obj.mapSeq (· ++ vs.toArray)) }) (hsz : vs.length ≤ sizeLine) :
    wpAny (model prog w) A (collect (.ref l)) Q E s := by
  obtain ⟨o, ho, hc, n, hd⟩ := id hl
  unfold collect
  refine wpAny_bind (wpAny_runValue (codeAny_builtin entry_proto_collect' ?_))
  show wpAny _ _ (do again (.builtin "list.__iadd__" ⟨[← newList [], .ref l], []⟩)) _ _ s
  refine wpAny_bind (wpAny_newList (wpAny_pure ⟨Code.quiet_builtin _ (by decide +kernel), codeAny_builtin entry_list_iadd' ?_⟩))
  show wpAny _ _ (Builtin.List.listExtendWith (.ref s.heap.objs.size) (.ref l) (.ref s.heap.objs.size)) _ _ { s with heap := s.heap.push (seqObj "list" #[] 0) }
  unfold Builtin.List.listExtendWith
  have ho' : (s.heap.push (seqObj "list" #[] 0)).get? l = some o := Heap.get?_push_of_some _ ho
  refine wpAny_bind (wpAny_typeOf (T := "tuple") ⟨o, ho', hc⟩ ?_)
  have ht : (Value.type "tuple" == Value.type "tuple") = true := by rfl
  rw [if_pos (by rw [ht]; simp)]
  refine wpAny_bind (listItems_at ho' hd ?_)
  refine wpAny_bind (listItems_at (xs := #[]) (n := 0) (Heap.get?_push_size _ rfl) rfl ?_)
  rw [if_neg (by simp)]
  refine wpAny_bind (listUpdate_at (xs := #[]) (n := 0) (Heap.get?_push_size _ rfl) rfl ?_ (Nat.zero_le _) (by show (#[] ++ vs.toArray).size ≤ sizeLine + 1; simp only [Array.size_append, List.size_toArray, List.length_nil]; omega))
  refine wpAny_pure ?_
  show wpAny (model prog w) A (do
      let o ← load s.heap.objs.size
      match o.data with
      | .seq xs _ => pure xs.toList
      | _ => unsupported "internal:collect") Q E { s with heap := (s.heap.push (seqObj "list" #[] 0)).update s.heap.objs.size (Obj.mapSeq (· ++ vs.toArray)) }
  refine wpAny_bind (wpAny_load (get?_update_seq (Heap.get?_push_size _ rfl) _) ?_)
  show wpAny _ _ (pure ((#[] : Array Value) ++ vs.toArray).toList) Q E _
  rw [show ((#[] : Array Value) ++ vs.toArray).toList = vs by simp]
  exact wpAny_pure h
theorem sorted_ordT {l : Addr} {vs : List Value} {ltv : Value → Value → Bool} {Q : Value → Shared → Prop} (O : Swo ltv) (hl : s.heap.IsTuple l vs.toArray) (hz : vs.length ≤ sizeLine)
    (hS : 2 ≤ vs.length → ∀ (h₁ : Heap) (a : Addr), h₁.get? a = some (seqObj "list" vs.toArray 0) → (∀ b o, s.heap.get? b = some o → b ≠ a ∧ h₁.get? b = some o) → SortableO prog w A.in1.in1 { s with heap := h₁ } a vs ltv)
    (h : ∀ out : List Value, Srtd ltv out → Stb ltv out vs → Q (.ref (s.heap.objs.size + 1)) { s with heap := sortedAll s.heap vs out.toArray }) :
    wpAny (model prog w) A (call (.builtin "sorted") [.ref l]) Q E s := by
  refine Calls.call_function_entry kind_sorted plain_sorted entry_sorted (args_sorted1 _) ?_
  unfold Builtin.«sorted»
  refine wpAny_bind (m := checkCount "sorted" 1 1 _) (wpAny_pure ?_)
  refine wpAny_bind (collect_tuple hl ?_ hz)
  refine wpAny_bind (wpAny_newList ?_ hz)
  have hsz : ((s.heap.push (seqObj "list" #[] 0)).update s.heap.objs.size (Obj.mapSeq (· ++ vs.toArray))).objs.size = s.heap.objs.size + 1 := by
    rw [Heap.size_update, size_push']
  have hoL : (((s.heap.push (seqObj "list" #[] 0)).update s.heap.objs.size (Obj.mapSeq (· ++ vs.toArray))).push (seqObj "list" vs.toArray 0)).get? (s.heap.objs.size + 1) = some (seqObj "list" vs.toArray 0) := by
    rw [← hsz]; exact Heap.get?_push_size _ rfl
  have keep : ∀ b o, s.heap.get? b = some o → b ≠ s.heap.objs.size + 1 ∧ (((s.heap.push (seqObj "list" #[] 0)).update s.heap.objs.size (Obj.mapSeq (· ++ vs.toArray))).push (seqObj "list" vs.toArray 0)).get? b = some o := fun b o q => by
    have hlt : b < s.heap.objs.size := Heap.lt_size q
    refine ⟨Nat.ne_of_lt (Nat.lt_succ_of_lt hlt), Heap.get?_push_of_some _ ?_⟩
    rw [Heap.get?_update_ne _ _ _ _ (Nat.ne_of_lt hlt)]
    exact Heap.get?_push_of_some _ q
  show wpAny _ _ _ _ _ { s with heap := ((s.heap.push (seqObj "list" #[] 0)).update s.heap.objs.size (Obj.mapSeq (· ++ vs.toArray))).push (seqObj "list" vs.toArray 0) }
  rw [hsz]
  refine wpAny_bind (wpAny_holding (wpAny_call_entry slot_list_sort ⟨_, hoL, rfl⟩ entry_list_sort (list_sort_ord O hoL hz (fun h2 => hS h2 _ _ hoL keep) fun out hs hb => ⟨_, rfl, ?_⟩) (args_list_sort _)))
  exact wpAny_pure ⟨_, rfl, h out hs hb⟩
theorem sorted_tp {l : Addr} {vs : List Value} {k : Value → Str} {Q : Value → Shared → Prop} (hl : s.heap.IsTuple l vs.toArray) (hz : vs.length ≤ sizeLine) (hp : ∀ v ∈ vs, ∃ u, IsTP s.heap v (k v) u) (hd : ∀ v ∈ vs, ∀ u ∈ vs, k v = k u → v = u)
    (h : ∀ (h' : Heap) (d : Addr) (out : List Value), Srtd (ltT k) out → out.Perm vs → (∀ b o, s.heap.get? b = some o → h'.get? b = some o) → s.heap.objs.size ≤ d → (∃ n, h'.get? d = some (seqObj "list" out.toArray n)) → Q (.ref d) { s with heap := h' }) :
    wpAny (model prog w) A (call (.builtin "sorted") [.ref l]) Q E s := by
  refine sorted_ordT (swo_tx k) hl hz (fun h2 h₁ a ha kk => ?_) fun out hs hb => ?_
  · refine tp_sortable (s := { s with heap := h₁ }) (by omega) (fun v hm => (hp v hm).imp fun u x => x.keeps fun b o e _ => (kk b o e).2) hd fun o e => ?_
    have e' : some o = some (seqObj "list" vs.toArray 0) := e.symm.trans ha
    cases e'
    intro c
    exact absurd (Value.type.inj c) (by decide)
  · exact h _ _ out hs hb.perm (fun b o e => sortedAll_old e) (Nat.le_succ _) (sortedAll_at s.heap vs out.toArray)
end
end SrtT
namespace L2
open PySem PySem.Spec PyProof.Rows
def rSortTP (K : PySem.W.Frag) : List V → Hp → VK → Prop := fun vs H Q => ∃ (a : Addr) (zs : List (Str × V)), vs = [V.ref a] ∧ SqT K H a (zs.map (·.2)) ∧ (∀ z ∈ zs, ∃ t u, z.2 = V.ref t ∧ SqT K H t [.str z.1, u]) ∧ (zs.map (·.1)).Nodup ∧
  ∀ (ys : List (Str × V)) (p : Addr), ys.Perm zs → ys.Pairwise (fun x y => ¬ y.1.cps.toList < x.1.cps.toList) → H p = none → Q (.ref p) (upd H p (.lst (ys.map (·.2))))
theorem nodup_fst {α : Type} : ∀ {zs : List (Str × α)}, (zs.map (·.1)).Nodup → ∀ z ∈ zs, ∀ y ∈ zs, z.1 = y.1 → z = y
  | [], _, z, hz, _, _, _ => nomatch hz
  | x :: zs, nd, z, hz, y, hy, e => by
    rw [List.map_cons, List.nodup_cons] at nd
    rcases List.mem_cons.mp hz with e1 | h1
    · rcases List.mem_cons.mp hy with e2 | h2
      · rw [e1, e2]
      · rw [e1] at e
        exact (nd.1 (List.mem_map.mpr ⟨y, h2, e.symm⟩)).elim
    · rcases List.mem_cons.mp hy with e2 | h2
      · rw [e2] at e
        exact (nd.1 (List.mem_map.mpr ⟨z, h1, e⟩)).elim
      · exact nodup_fst nd.2 z h1 y h2 e
def keyIn (zs : List (Str × V)) (v : V) : Str := ((zs.find? fun z => decide (z.2 = v)).map (·.1)).getD ⟨#[]⟩
section
variable {X : Cx}
theorem cr_sortedTP : CallR X (.builtin "sorted") (rSortTP X.K) := by
  intro pins s σ H vs us Q I r h
  obtain ⟨a, zs, rfl, hs, hx, nd, q⟩ := h
  obtain ⟨k, hk⟩ : ∃ k, k = keyIn zs := ⟨_, rfl⟩
  have kz : ∀ z ∈ zs, k z.2 = z.1 := fun z hz => by
    rw [hk]
    unfold keyIn
    cases hf : zs.find? fun y => decide (y.2 = z.2) with
    | none => exact absurd (by simp) (List.find?_eq_none.mp hf z hz)
    | some y =>
      have hy := List.mem_of_find?_eq_some hf
      have ey : y.2 = z.2 := by simpa using List.find?_some hf
      obtain ⟨t, u, e, ht⟩ := hx z hz
      obtain ⟨t', u', e', ht'⟩ := hx y hy
      rw [ey, e] at e'
      cases e'
      have w := I.tuple_inj ht' ht
      show y.1 = z.1
      injection w with w1 _
      injection w1
  have hzs : (zs.map (·.2)).map (fun x => (k x, x)) = zs := by
    rw [List.map_map]
    conv => rhs; rw [← List.map_id zs]
    exact List.map_congr_left fun z hz => by
      show (k z.2, z.2) = z
      rw [kz z hz]
  obtain ⟨its, rv, hl, hz⟩ := I.tuple hs
  obtain ⟨u, rfl, ru⟩ := vals1 r
  obtain rfl : u = Value.ref a := ru
  obtain ⟨xs, hxs⟩ : ∃ xs, xs = zs.map (·.2) := ⟨_, rfl⟩
  rw [← hxs] at rv hs hzs
  obtain ⟨e1, e2⟩ := refs_back rv fun x m => by
    rw [hxs] at m
    obtain ⟨z, hz, rfl⟩ := List.mem_map.mp m
    obtain ⟨t, _, e, _⟩ := hx z hz
    exact ⟨t, e⟩
  have back : ∀ v ∈ its, ∃ z ∈ zs, v = Value.ref (match z.2 with | .ref t => t | _ => 0) ∧ backV v = z.2 := fun v hv => by
    obtain ⟨t, rfl⟩ := e2 v hv
    have hm : V.ref t ∈ xs := by rw [e1]; exact List.mem_map.mpr ⟨_, hv, rfl⟩
    rw [hxs] at hm
    obtain ⟨z, hz, ez⟩ := List.mem_map.mp hm
    exact ⟨z, hz, by rw [ez], ez.symm⟩
  refine SrtT.sorted_tp (k := fun u => k (backV u)) hl (by rw [← rv.length]; rw [hxs, List.length_map]; simpa using hz) (fun v hv => ?_) (fun v hv u hu e => ?_) fun h' d out h1 h2 kp hd hn => ?_
  · obtain ⟨z, hz, ev, eb⟩ := back v hv
    obtain ⟨t, u0, e, ht⟩ := hx z hz
    obtain ⟨its2, r2, ⟨o, ho, hc, n, hdt⟩, _⟩ := I.tuple ht
    obtain ⟨u1, u2, rfl, ri, rj⟩ := vals2 r2
    obtain ⟨t1, rfl⟩ := ri
    refine ⟨u2, t, o, t1, n, by rw [ev, e], ho, hc, ?_⟩
    show o.data = .seq #[.str (k (backV v)) t1, u2] n
    rw [eb, kz z hz]
    exact hdt
  · obtain ⟨z, hz, ev, eb⟩ := back v hv
    obtain ⟨y, hy, eu, eb2⟩ := back u hu
    have e : k (backV v) = k (backV u) := e
    rw [eb, eb2, kz z hz, kz y hy] at e
    have := nodup_fst nd z hz y hy e
    rw [ev, eu, this]
  · have h3 : ∀ u ∈ out, ∃ a, u = Value.ref a := fun u hu => e2 u (h2.mem_iff.mp hu)
    obtain ⟨n, hn⟩ := hn
    have hb : (out.map backV).Perm xs := by
      rw [e1]
      exact h2.map _
    have hq : (out.map fun v => (k (backV v), backV v)).Perm zs := by
      have w := hb.map (fun x => (k x, x))
      rw [hzs, List.map_map] at w
      exact w
    have hm2 : (out.map fun v => (k (backV v), backV v)).map (·.2) = out.map backV := by
      rw [List.map_map]
      exact List.map_congr_left fun v _ => rfl
    have Q1 := q (out.map fun v => (k (backV v), backV v)) d hq (by
      rw [List.pairwise_map]
      exact List.Pairwise.imp (fun {x y} h => of_decide_eq_false h) h1) (I.hok.fresh hd)
    rw [hm2] at Q1
    refine ⟨.ref d, upd H d (.lst (out.map backV)), I.laid (t' := s.toks) kp hd ⟨?_, out, n, vals_back h3, hn⟩, rfl, Q1⟩
    rw [hb.length_eq, hxs, List.length_map]
    simpa using hz
inductive HitsD (K : PySem.W.Frag) (H : Hp) (ls : List (Key × V)) : List (Key × V) → Bool → Prop
  | nil : HitsD K H ls [] true
  | miss {k : Key} {v : V} {r : List (Key × V)} : valV ls k = none → HitsD K H ls ((k, v) :: r) false
  | hit {k : Key} {v y : V} {p q : PyData} {r : List (Key × V)} {b : Bool} : valV ls k = some y → Dp K H v p → Dp K H y q → SeqAt.shaped p = true → SeqAt.shaped q = true → HitsD K H ls r b → HitsD K H ls ((k, v) :: r) (PyData.eqv p q && b)
def rEqDD (f : Bool → Bool) (K : PySem.W.Frag) : R2 := fun x y H Q => ∃ a b ks ls r, x = .ref a ∧ y = .ref b ∧ Rd H a (.dK ks) ∧ Rd H b (.dK ls) ∧ (ks.length = ls.length → HitsD K H ls ks r) ∧ Q (.bl (f (ks.length == ls.length && r))) H
theorem hits_dd {A : Around} {pins : List (Addr × Obj)} {σ : St} {H : Hp} {s : Shared} (I : Inv X pins σ H s) (hu : A.in1.units + 64 < cLine) {ls : List (Key × V)} {vb : List (Key × Value)} (rb : KV ls vb) {r : Bool} : ∀ {ks : List (Key × V)} {va : List (Key × Value)}, KV ks va →
    HitsD X.K H ls ks r → PySem.W.KeqHits A.in1 s vb va r := by
  intro ks va ra h
  unfold KV at ra
  induction ra generalizing r with
  | nil => cases h; exact .nil
  | @cons p q ps qs hh t ih =>
    obtain ⟨h1, h2⟩ := hh
    obtain ⟨k, v⟩ := q
    obtain ⟨k2, v2⟩ := p
    have h1 : k2 = k := h1
    subst h1
    have rr := rb.val k2
    cases h with
    | miss e =>
      rw [e] at rr
      refine .miss ?_
      cases e3 : valueAt vb k2 with
      | none => rfl
      | some y => rw [e3] at rr; exact rr.elim
    | hit e d1 d2 s1 s2 hr =>
      rw [e] at rr
      obtain ⟨y, hy, ry⟩ := rr.some_of
      obtain ⟨as, r1⟩ := Dp.reads I _ _ _ d1 h2
      obtain ⟨bs, r2⟩ := Dp.reads I _ _ _ d2 ry
      exact .hit hy (PySem.W.keq_at r1 r2 s1 s2 hu) (ih hr)
theorem op_eqDD (hu : X.A.units + 100 < cLine) : OpR X (compareOp .Eq) (rEqDD id X.K) := by
  intro pins s σ H x y v u Q I rx ry h
  obtain ⟨a, b, ks, ls, r, rfl, rfl, ea, eb, hits, q⟩ := h
  obtain rfl : v = Value.ref a := rx
  obtain rfl : u = Value.ref b := ry
  obtain ⟨_, ya, va, ra, da⟩ := dk_rd I.hok ea
  obtain ⟨_, yb, vb, rb, db⟩ := dk_rd I.hok eb
  have l1 := ra.length
  have l2 := rb.length
  exact PySem.W.keq_eq (knd := mixKind X.prog X.w) (r := r) ya yb da db (by omega) (fun e => hits_dd I (show X.A.units + 1 + 64 < cLine by omega) rb ra (hits (by omega))) (fin_bl I q (by rw [← l1, ← l2] <;> rfl))
theorem op_neDD (hu : X.A.units + 100 < cLine) : OpR X (compareOp .NotEq) (rEqDD (!·) X.K) := by
  intro pins s σ H x y v u Q I rx ry h
  obtain ⟨a, b, ks, ls, r, rfl, rfl, ea, eb, hits, q⟩ := h
  obtain rfl : v = Value.ref a := rx
  obtain rfl : u = Value.ref b := ry
  obtain ⟨_, ya, va, ra, da⟩ := dk_rd I.hok ea
  obtain ⟨_, yb, vb, rb, db⟩ := dk_rd I.hok eb
  have l1 := ra.length
  have l2 := rb.length
  exact PySem.W.keq_ne (knd := mixKind X.prog X.w) (r := r) ya yb da db (by omega) (fun e => hits_dd I (show X.A.units + 1 + 64 < cLine by omega) rb ra (hits (by omega))) (fin_bl I q (by rw [← l1, ← l2] <;> rfl))
end
end L2
set_option maxHeartbeats 1000000
namespace WL
open PySem PySem.Spec PyProof.Rows L2
variable [TBS]
section
variable {M : Cfg} {X : Cx} {W : WX} {σ : L2.St} {H : Hp} {ra : List Addr} {s : Store}
theorem PostR.fin {α β : Type} {rep : Hp → List Addr → α → β → Prop} {a : α} {b : β} {Q : β → Hp → Prop} (p : PostR M X.mg X.K W σ rep H ra (.ok a s) Q) (r : SRel X.K H ra s) (h : rep H ra a b) : Q b H :=
  p b ra H (Keeps.refl H) (List.prefix_refl _) r h
theorem PostR.finL {l : List D} {vs : List V} {Q : VK} (p : PostR M X.mg X.K W σ (RepV X.K) H ra (newLst l s) Q) (r : SRel X.K H ra s) (h : RepL X.K H ra l vs) :
    l.length ≤ sizeLine ∧ ∀ q, H q = none → Q (.ref q) (upd H q (.lst vs)) := by
  unfold newLst at p
  split at p
  · rename_i hl
    refine ⟨hl, fun q hq => p (.ref q) (ra ++ [q]) _ (Keeps.new hq) (List.prefix_append _ _) (r.newL hq h) ⟨q, ?_, rfl⟩⟩
    rw [← r.len, List.getElem?_append_right (Nat.le_refl _)]
    simp
  · exact p.elim
theorem PostR.finT {l : List D} {vs : List V} {Q : VK} (p : PostR M X.mg X.K W σ (RepV X.K) H ra (.ok (.tup l) s) Q) (r : SRel X.K H ra s) (h : RepL X.K H ra l vs) :
    ∀ q, H q = none → Q (.ref q) (upd H q (.tup vs)) := fun q hq =>
  p (.ref q) ra _ (Keeps.new hq) (List.prefix_refl _) (r.aside hq) ⟨q, vs, rfl, .inl (.inl upd_same), RepL.keep (Keeps.new hq) (List.prefix_refl _) l vs h⟩
theorem RepV.intE {i : Int} {v : V} (h : RepV X.K H ra (.int i) v) : v = .int i := h
theorem mulOk_ok {i j : Int} (h : mulOk i j = true) : CMul i j := by
  simp only [mulOk, Bool.or_eq_true, Bool.and_eq_true, decide_eq_true_eq] at h
  exact h
def BinR (M : Cfg) (X : Cx) (op : Operator) : Prop := ∃ r : R2, OpR X (binaryOp op) r ∧
  ∀ (W : WX) (σ : L2.St) (H : Hp) (ra : List Addr) (s : Store) (dx dy : D) (x y : V) (Q : VK), SRel X.K H ra s → RepV X.K H ra dx x → RepV X.K H ra dy y → PostR M X.mg X.K W σ (RepV X.K) H ra (binop op dx dy s) Q → r x y H Q
theorem bin_sub : BinR M X .Sub := by
  refine ⟨_, op_sub, fun W σ H ra s dx dy x y Q R rx ry p => ?_⟩
  cases dx with
  | int i =>
    cases dy with
    | int j => exact ⟨i, j, rx, ry, p.fin R rfl⟩
    | _ => exact p.elim
  | _ => exact p.elim
theorem bin_mod : BinR M X .Mod := by
  refine ⟨_, op_mod, fun W σ H ra s dx dy x y Q R rx ry p => ?_⟩
  cases dx with
  | int i =>
    cases dy with
    | int j =>
      simp only [binop] at p
      split at p
      · rename_i h
        exact ⟨i, j, rx, ry, h, p.fin R rfl⟩
      · exact p.elim
    | _ => exact p.elim
  | _ => exact p.elim
theorem bin_fdiv : BinR M X .FloorDiv := by
  refine ⟨_, op_fdivW, fun W σ H ra s dx dy x y Q R rx ry p => ?_⟩
  cases dx with
  | int i =>
    cases dy with
    | int j =>
      simp only [binop] at p
      split at p
      · rename_i h
        exact ⟨i, j, rx, ry, h, p.fin R rfl⟩
      · exact p.elim
    | _ => exact p.elim
  | _ => exact p.elim
theorem bin_pow : BinR M X .Pow := by
  refine ⟨_, op_pow, fun W σ H ra s dx dy x y Q R rx ry p => ?_⟩
  cases dx with
  | int i =>
    cases dy with
    | int j =>
      simp only [binop] at p
      split at p
      · rename_i h
        exact ⟨i, j, rx, ry, h, p.fin R rfl⟩
      · exact p.elim
    | _ => exact p.elim
  | _ => exact p.elim
theorem mulS_ok {x : Str} {n : Int} (h : mulSOk x n = true) : MulOk x n := by
  unfold mulSOk at h
  simp only [Bool.and_eq_true, decide_eq_true_eq] at h
  obtain ⟨⟨⟨h1, h2⟩, h3⟩, h4⟩ := h
  have h5 : sizeLine = 16777216 := sizeLine_eq
  refine ⟨?_, fun c1 c2 => ?_, fun c1 c2 => ?_⟩
  · rw [Bool.or_eq_false_iff]
    exact ⟨decide_eq_false (by omega), decide_eq_false (by omega)⟩
  · intro z
    have e : n.toNat = n := Int.toNat_of_nonneg (by omega)
    have h6 : (x.length : Int) * n ≤ 2 ^ 63 - 1 := by
      rw [← e]
      have : ((x.length * n.toNat : Nat) : Int) ≤ 16777216 := by omega
      rw [Int.natCast_mul] at this
      omega
    have h7 : (x.length : Int) ≤ (2 ^ 63 - 1) / n := by
      rw [Int.le_ediv_iff_mul_le (by omega)]
      exact h6
    omega
  · unfold Builtin.Str.tooLong
    rw [h5] at h3
    first | exact decide_eq_false (by omega) | simpa using h3
theorem op_mulS : OpR X (binaryOp .Mult) (fun x y H Q => ∃ (a : Str) (n : Int), x = .str a ∧ y = .int n ∧ MulOk a n ∧ Q (.str (Txt.mul a n)) H) := by
  intro pins s σ H x y v u Q I rx ry h
  obtain ⟨a, n, rfl, rfl, hm, q⟩ := h
  obtain ⟨t, rfl⟩ := rx
  obtain ⟨t2, rfl⟩ := ry
  exact SB.mul hm fun t' k => ⟨.str _, H, I.tok k, ⟨t', rfl⟩, q⟩
theorem bin_mul : BinR M X .Mult := by
  refine ⟨_, ((op_mul.or op_rep).or op_repT).or op_mulS, fun W σ H ra s dx dy x y Q R rx ry p => ?_⟩
  cases dx with
  | int i =>
    cases dy with
    | int j =>
      simp only [binop] at p
      split at p
      · rename_i h
        exact .inl (.inl (.inl ⟨i, j, rx, ry, mulOk_ok h, p.fin R rfl⟩))
      · exact p.elim
    | _ => exact p.elim
  | str z =>
    cases dy with
    | int k =>
      simp only [binop] at p
      split at p
      · rename_i h
        exact .inr ⟨z, k, rx, ry, mulS_ok h, p.fin R rfl⟩
      · exact p.elim
    | _ => exact p.elim
  | tup l =>
    cases dy with
    | int k =>
      simp only [binop] at p
      split at p
      · rename_i h
        obtain ⟨a, vs, ex, sx, rl⟩ := rx
        have e1 := RepL.length l vs rl
        refine .inl <| .inr ⟨a, k, vs, ex, ry, sx, ?_, h.2.1, h.2.2.1, by rw [e1]; exact h.2.2.2, PostR.finT p R (RepL.rep k.toNat rl)⟩
        intro z
        subst z
        exact h.1 (List.eq_nil_of_length_eq_zero (by rw [← e1]; rfl))
      · exact p.elim
    | _ => exact p.elim
  | ref n =>
    cases dy with
    | int k =>
      simp only [binop] at p
      split at p
      · rename_i l hl
        split at p
        · rename_i h
          obtain ⟨a, vs, ea, hv, rl⟩ := R.lst hl
          obtain ⟨a', ea', e⟩ := rx
          rw [ea] at ea'
          cases ea'
          have e2 := RepL.length l vs rl
          exact .inl <| .inl (.inr ⟨a, k, vs, e, ry, hv, h.1, h.2.1, by rw [e2]; exact h.2.2, (PostR.finL p R (RepL.rep k.toNat rl)).2⟩)
        · exact p.elim
      · exact p.elim
    | _ => exact p.elim
  | _ => exact p.elim
theorem bin_add : BinR M X .Add := by
  refine ⟨_, (op_add.or op_add_str).or (op_catA.or op_cat), fun W σ H ra s dx dy x y Q R rx ry p => ?_⟩
  cases dx with
  | int i =>
    cases dy with
    | int j => exact .inl (.inl ⟨i, j, rx, ry, p.fin R rfl⟩)
    | _ => exact p.elim
  | str i =>
    cases dy with
    | str j =>
      simp only [binop] at p
      split at p
      · rename_i h
        exact .inl (.inr ⟨i, j, rx, ry, h, p.fin R rfl⟩)
      · exact p.elim
    | _ => exact p.elim
  | tup l =>
    cases dy with
    | tup m =>
      simp only [binop] at p
      split at p
      · rename_i h
        obtain ⟨a, vs, ex, sx, rl⟩ := rx
        obtain ⟨b, ws, ey, sy, rm⟩ := ry
        have e1 := RepL.length l vs rl
        have e2 := RepL.length m ws rm
        refine .inr (.inl ⟨a, b, vs, ws, ex, ey, sx, sy, by rw [e1, e2]; exact h, fun z => ?_, fun z z2 => ?_, fun z z2 => PostR.finT p R (rl.append rm)⟩)
        · subst z
          have e0 : l = [] := List.eq_nil_of_length_eq_zero (by rw [← e1]; rfl)
          subst e0
          exact p.fin R ⟨b, ws, rfl, sy, rm⟩
        · subst z2
          have e0 : m = [] := List.eq_nil_of_length_eq_zero (by rw [← e2]; rfl)
          subst e0
          rw [List.append_nil] at p
          exact p.fin R ⟨a, vs, rfl, sx, rl⟩
      · exact p.elim
    | _ => exact p.elim
  | ref n =>
    cases dy with
    | ref m =>
      simp only [binop] at p
      split at p
      · rename_i l l' hl hm
        split at p
        · rename_i h
          obtain ⟨a, vs, ea, hv, rl⟩ := R.lst hl
          obtain ⟨a', ea', e⟩ := rx
          rw [ea] at ea'
          cases ea'
          obtain ⟨b, ws, eb, hw, rm⟩ := R.lst hm
          obtain ⟨b', eb', e'⟩ := ry
          rw [eb] at eb'
          cases eb'
          have e1 := RepL.length l vs rl
          have e2 := RepL.length l' ws rm
          exact .inr (.inr ⟨a, b, vs, ws, e, e', hv, hw, by rw [e1, e2]; exact h, (PostR.finL p R (rl.append rm)).2⟩)
        · exact p.elim
      · exact p.elim
    | _ => exact p.elim
  | _ => exact p.elim
theorem bin_all {op : Operator} (h : op = .Add ∨ op = .Sub ∨ op = .Mult ∨ op = .Mod ∨ op = .FloorDiv ∨ op = .Pow) : BinR M X op := by
  rcases h with rfl | rfl | rfl | rfl | rfl | rfl
  · exact bin_add
  · exact bin_sub
  · exact bin_mul
  · exact bin_mod
  · exact bin_fdiv
  · exact bin_pow
theorem dp_ints (K : PySem.W.Frag) (H : Hp) : ∀ l : List Int, DpAll K H (l.map V.int) (l.map PyData.int)
  | [] => .nil
  | i :: l => .cons (.int i) (dp_ints K H l)
theorem dp_all {K : PySem.W.Frag} {H : Hp} {ra : List Addr} {f : D → Option PyData} (ih : ∀ (d : D) (v : V) (p : PyData), f d = some p → RepV K H ra d v → Dp K H v p) :
    ∀ (l : List D) (vs : List V) (ps : List PyData), l.mapM f = some ps → RepL K H ra l vs → DpAll K H vs ps
  | [], vs, ps, e, h => by
    rw [show vs = [] from h]
    simp at e
    subst e
    exact .nil
  | d :: ds, vs, ps, e, h => by
    obtain ⟨v, r, e', h1, h2⟩ := h
    subst e'
    simp only [List.mapM_cons, Option.pure_def, Option.bind_eq_bind, Option.bind_eq_some_iff] at e
    obtain ⟨p, ep, ps', eps, e3⟩ := e
    cases e3
    exact .cons (ih d v p ep h1) (dp_all ih ds r ps' eps h2)
theorem dp_of {K : PySem.W.Frag} {H : Hp} {ra : List Addr} {s : Store} (R : SRel K H ra s) : ∀ (n : Nat) (d : D) (v : V) (p : PyData), toPy n s d = some p → RepV K H ra d v → Dp K H v p
  | 0, _, _, _, e, _ => by simp [toPy] at e
  | n + 1, d, v, p, e, h => by
    cases d with
    | non => simp only [toPy, Option.some.injEq] at e; subst e; rw [show v = .non from h]; exact .non
    | bl b => simp only [toPy, Option.some.injEq] at e; subst e; rw [show v = .bl b from h]; exact .bl b
    | int i => simp only [toPy, Option.some.injEq] at e; subst e; rw [show v = .int i from h]; exact .int i
    | str x => simp only [toPy, Option.some.injEq] at e; subst e; rw [show v = .str x from h]; exact .str x
    | tup l =>
      simp only [toPy, Option.map_eq_some_iff] at e
      obtain ⟨ps, ep, rfl⟩ := e
      obtain ⟨a, vs, rfl, sq, r⟩ := h
      exact .tup sq (dp_all (dp_of R n) l vs ps ep r)
    | ref m =>
      simp only [toPy] at e
      split at e
      · rename_i l hl
        simp only [Option.map_eq_some_iff] at e
        obtain ⟨ps, ep, rfl⟩ := e
        obtain ⟨a, vs, ea, hv, rl⟩ := R.lst hl
        obtain ⟨a', ea', e'⟩ := h
        rw [ea] at ea'
        cases ea'
        rw [e']
        exact .lst (SqL.of hv) (dp_all (dp_of R n) l vs ps ep rl)
      · cases e
    | frz l =>
      simp only [toPy, Option.some.injEq] at e
      subst e
      obtain ⟨a, rfl, f⟩ := h
      exact .lst f.sq (dp_ints K H l)
    | gd ks vs => simp [toPy] at e
    | fnv g pl => simp [toPy] at e
def CmpR (M : Cfg) (X : Cx) (op : CmpOp) : Prop := ∃ r : R2, OpR X (compareOp op) r ∧
  ∀ (H : Hp) (ra : List Addr) (s : Store) (dx dy : D) (x y : V) (b : Bool) (Q : VK), SRel X.K H ra s → RepV X.K H ra dx x → RepV X.K H ra dy y → cmpD op s dx dy = some b → Q (.bl b) H → r x y H Q
theorem eqD_of {K : PySem.W.Frag} {H : Hp} {ra : List Addr} {s : Store} {dx dy : D} {x y : V} {b : Bool} (R : SRel K H ra s) (rx : RepV K H ra dx x) (ry : RepV K H ra dy y) (e : eqD s dx dy = some b) :
    ∃ p q, Dp K H x p ∧ Dp K H y q ∧ SeqAt.shaped p = true ∧ SeqAt.shaped q = true ∧ b = PyData.eqv p q := by
  unfold eqD at e
  split at e
  · rename_i p q hp hq
    split at e
    · rename_i h
      rw [Bool.and_eq_true] at h
      cases e
      exact ⟨p, q, dp_of R 60 dx x p hp rx, dp_of R 60 dy y q hq ry, h.1, h.2, rfl⟩
    · cases e
  · cases e
theorem hits_of {K : PySem.W.Frag} {H : Hp} {ra : List Addr} {s : Store} (R : SRel K H ra s) {r : List (L2.Key × D)} {ls : List (L2.Key × V)} (h2 : RepM K H ra r ls) : ∀ {l : List (L2.Key × D)} {ks : List (L2.Key × V)} {b : Bool}, RepM K H ra l ks → eqDs s r l = some b → HitsD K H ls ks b
  | [], ks, b, h, e => by
    have : ks = [] := by
      have := h.length
      simpa using this
    subst this
    cases e
    exact .nil
  | p :: l, ks, b, h, e => by
    obtain ⟨v, r', rfl, rv, rm⟩ := h.cons_inv
    obtain ⟨g1, g2⟩ := h2.val p.1
    simp only [eqDs] at e
    cases hv : valD r p.1 with
    | none =>
      rw [hv] at e
      cases e
      exact .miss (g2 hv)
    | some w =>
      rw [hv] at e
      simp only at e
      obtain ⟨y, hy, ry⟩ := g1 w hv
      split at e
      · rename_i e1 b1 he1 hb1
        cases e
        obtain ⟨q1, q2, d1, d2, s1, s2, rfl⟩ := eqD_of R rv ry he1
        exact .hit hy d1 d2 s1 s2 (hits_of R h2 rm hb1)
      · cases e
theorem eqK_of {K : PySem.W.Frag} {H : Hp} {ra : List Addr} {s : Store} {dx dy : D} {x y : V} {b : Bool} (R : SRel K H ra s) (rx : RepV K H ra dx x) (ry : RepV K H ra dy y) (e : eqK s dx dy = some b) :
    ∃ a c ks ls r, x = .ref a ∧ y = .ref c ∧ Rd H a (.dK ks) ∧ Rd H c (.dK ls) ∧ (ks.length = ls.length → HitsD K H ls ks r) ∧ b = (ks.length == ls.length && r) := by
  unfold eqK at e
  split at e
  · rename_i n m
    split at e
    · rename_i l r hl hr
      obtain ⟨a, ks, ea, hv, rm⟩ := R.rd hl
      obtain ⟨c, ls, ec, hw, rm2⟩ := R.rd hr
      obtain ⟨a', ea', rfl⟩ := rx
      obtain ⟨c', ec', rfl⟩ := ry
      rw [ea] at ea'
      cases ea'
      rw [ec] at ec'
      cases ec'
      have l1 := rm.length
      have l2 := rm2.length
      split at e
      · rename_i hlen
        refine ⟨a, c, ks, ls, b, rfl, rfl, hv, hw, fun _ => hits_of R rm2 rm e, ?_⟩
        rw [show (ks.length == ls.length) = true from by rw [l1, l2, hlen]; exact beq_self_eq_true _, Bool.true_and]
      · rename_i hlen
        cases e
        refine ⟨a, c, ks, ls, false, rfl, rfl, hv, hw, fun z => absurd (by omega) hlen, ?_⟩
        rw [Bool.and_false]
    · cases e
  · cases e
theorem cmp_eq (hu : X.A.units + 100 < cLine) : CmpR M X .Eq := by
  refine ⟨_, (op_eqD (show X.A.units + 64 < cLine by omega)).or (op_eqDD hu), fun H ra s dx dy x y b Q R rx ry e q => ?_⟩
  simp only [cmpD] at e
  cases he : eqD s dx dy with
  | some c =>
    rw [he] at e
    cases e
    obtain ⟨p, p', h1, h2, h3, h4, rfl⟩ := eqD_of R rx ry he
    exact .inl ⟨p, p', h1, h2, h3, h4, q⟩
  | none =>
    rw [he] at e
    obtain ⟨a, c, ks, ls, r, e1, e2, h1, h2, h3, rfl⟩ := eqK_of R rx ry e
    exact .inr ⟨a, c, ks, ls, r, e1, e2, h1, h2, h3, q⟩
theorem cmp_ne (hu : X.A.units + 100 < cLine) : CmpR M X .NotEq := by
  refine ⟨_, (op_neD (show X.A.units + 64 < cLine by omega)).or (op_neDD hu), fun H ra s dx dy x y b Q R rx ry e q => ?_⟩
  simp only [cmpD, Option.map_eq_some_iff] at e
  obtain ⟨c, ec, rfl⟩ := e
  cases he : eqD s dx dy with
  | some c2 =>
    rw [he] at ec
    cases ec
    obtain ⟨p, p', h1, h2, h3, h4, rfl⟩ := eqD_of R rx ry he
    exact .inl ⟨p, p', h1, h2, h3, h4, q⟩
  | none =>
    rw [he] at ec
    obtain ⟨a, c2, ks, ls, r, e1, e2, h1, h2, h3, rfl⟩ := eqK_of R rx ry ec
    exact .inr ⟨a, c2, ks, ls, r, e1, e2, h1, h2, h3, q⟩
theorem rep_non {K : PySem.W.Frag} {H : Hp} {ra : List Addr} {d : D} {v : V} (h : RepV K H ra d v) : decide (v = .non) = decide (d = .non) := by
  cases d with
  | non => rw [show v = .non from h]; simp
  | bl b => rw [show v = .bl b from h]; simp
  | int b => rw [show v = .int b from h]; simp
  | str b => rw [show v = .str b from h]; simp
  | tup l => obtain ⟨a, vs, rfl, _⟩ := h; simp
  | ref n => obtain ⟨a, _, rfl⟩ := h; simp
  | frz l => obtain ⟨a, rfl, _⟩ := h; simp
  | gd ks vs => obtain ⟨a, rfl, _⟩ := h; simp
  | fnv g pl => obtain ⟨a, rfl, _⟩ := h; simp
theorem rep_bl {K : PySem.W.Frag} {H : Hp} {ra : List Addr} {b : Bool} {v : V} (h : RepV K H ra (.bl b) v) : v = .bl b := h
theorem cmp_is : CmpR M X .Is := by
  refine ⟨_, op_isN.or op_is_bl, fun H ra s dx dy x y b Q R rx ry e q => ?_⟩
  simp only [cmpD] at e
  split at e
  · rename_i h
    subst h
    cases e
    exact .inl ⟨ry, by rw [rep_non rx]; exact q⟩
  · split at e
    · cases e
      exact .inr ⟨_, _, rep_bl rx, rep_bl ry, q⟩
    · cases e
theorem cmp_isnot : CmpR M X .IsNot := by
  refine ⟨_, op_notN.or op_isnot_bl, fun H ra s dx dy x y b Q R rx ry e q => ?_⟩
  simp only [cmpD] at e
  split at e
  · rename_i h
    subst h
    cases e
    exact .inl ⟨ry, by rw [rep_non rx]; exact q⟩
  · split at e
    · cases e
      exact .inr ⟨_, _, rep_bl rx, rep_bl ry, q⟩
    · cases e
theorem flat_rep {K : PySem.W.Frag} {H : Hp} {ra : List Addr} {d e : D} {v u : V} (hd : flatD d = true) (he : flatD e = true) (h : RepV K H ra d v) (h' : RepV K H ra e u) : flatV v = true ∧ L2.eqV v u = eqF d e := by
  cases d with
  | non =>
    rw [show v = .non from h]
    cases e with
    | non => rw [show u = .non from h']; exact ⟨rfl, rfl⟩
    | bl b => rw [show u = .bl b from h']; exact ⟨rfl, rfl⟩
    | int b => rw [show u = .int b from h']; exact ⟨rfl, rfl⟩
    | str b => rw [show u = .str b from h']; exact ⟨rfl, rfl⟩
    | _ => simp [flatD] at he
  | bl a =>
    rw [show v = .bl a from h]
    cases e with
    | non => rw [show u = .non from h']; exact ⟨rfl, rfl⟩
    | bl b => rw [show u = .bl b from h']; exact ⟨rfl, rfl⟩
    | int b => rw [show u = .int b from h']; exact ⟨rfl, rfl⟩
    | str b => rw [show u = .str b from h']; exact ⟨rfl, rfl⟩
    | _ => simp [flatD] at he
  | int a =>
    rw [show v = .int a from h]
    cases e with
    | non => rw [show u = .non from h']; exact ⟨rfl, rfl⟩
    | bl b => rw [show u = .bl b from h']; exact ⟨rfl, rfl⟩
    | int b => rw [show u = .int b from h']; exact ⟨rfl, rfl⟩
    | str b => rw [show u = .str b from h']; exact ⟨rfl, rfl⟩
    | _ => simp [flatD] at he
  | str a =>
    rw [show v = .str a from h]
    cases e with
    | non => rw [show u = .non from h']; exact ⟨rfl, rfl⟩
    | bl b => rw [show u = .bl b from h']; exact ⟨rfl, rfl⟩
    | int b => rw [show u = .int b from h']; exact ⟨rfl, rfl⟩
    | str b => rw [show u = .str b from h']; exact ⟨rfl, rfl⟩
    | _ => simp [flatD] at he
  | _ => simp [flatD] at hd
theorem flat_reps {K : PySem.W.Frag} {H : Hp} {ra : List Addr} {e : D} {u : V} (he : flatD e = true) (h' : RepV K H ra e u) : ∀ (l : List D) (vs : List V), l.all flatD = true → RepL K H ra l vs → vs.all flatV = true ∧ (vs.any fun y => L2.eqV y u) = l.any fun z => eqF z e
  | [], vs, _, h => by rw [show vs = [] from h]; exact ⟨rfl, rfl⟩
  | d :: ds, vs, hl, h => by
    obtain ⟨v, r, rfl, h1, h2⟩ := h
    rw [List.all_cons, Bool.and_eq_true] at hl
    obtain ⟨a1, a2⟩ := flat_rep hl.1 he h1 h'
    obtain ⟨b1, b2⟩ := flat_reps he h' ds r hl.2 h2
    exact ⟨by rw [List.all_cons, a1, b1]; rfl, by rw [List.any_cons, List.any_cons, a2, b2]⟩
theorem items_rep {K : PySem.W.Frag} {H : Hp} {ra : List Addr} {s : Store} (R : SRel K H ra s) {d : D} {v : V} {l : List D} (h : RepV K H ra d v) (e : items s d = some l) : ∃ a vs, v = .ref a ∧ (SqL K H a vs ∨ SqT K H a vs) ∧ RepL K H ra l vs := by
  cases d with
  | tup m =>
    cases e
    obtain ⟨a, vs, e1, sq, r⟩ := h
    exact ⟨a, vs, e1, .inr sq, r⟩
  | ref n =>
    obtain ⟨a, vs, ea, hv, r⟩ := R.lst e
    obtain ⟨a', ea', e'⟩ := h
    rw [ea] at ea'
    cases ea'
    exact ⟨a, vs, e', .inl (SqL.of hv), r⟩
  | frz m =>
    cases e
    obtain ⟨a, e1, f⟩ := h
    exact ⟨a, _, e1, .inl f.sq, RepL.intsF m⟩
  | _ => cases e
def rInT (neg : Bool) (K : PySem.W.Frag) : R2 := fun x y H Q => ∃ d ds, Dp K H x d ∧ Dp K H y (.tuple ds) ∧ SeqAt.shaped d = true ∧ SeqAt.shaped (.tuple ds) = true ∧ Q (.bl (if neg then !ds.any fun z => PyData.eqv z d else ds.any fun z => PyData.eqv z d)) H
theorem op_inT {X : Cx} (hu : X.A.units + 65 < cLine) : OpR X (compareOp .In) (rInT false X.K) := by
  intro pins s σ H x y v u Q I rx ry h
  obtain ⟨d, ds, hd, he, sd, se, q⟩ := h
  obtain ⟨as, r1⟩ := Dp.reads I d x v hd rx
  obtain ⟨bs, r2⟩ := Dp.reads I (.tuple ds) y u he ry
  exact SeqAt.in_tuple_reads r2 r1 (SeqAt.canLay_of_shaped se) (SeqAt.canLay_of_shaped sd) (room_in_shaped sd hu) ⟨.bl _, H, I, rfl, q⟩
theorem op_notInT {X : Cx} (hu : X.A.units + 65 < cLine) : OpR X (compareOp .NotIn) (rInT true X.K) := by
  intro pins s σ H x y v u Q I rx ry h
  obtain ⟨d, ds, hd, he, sd, se, q⟩ := h
  obtain ⟨as, r1⟩ := Dp.reads I d x v hd rx
  obtain ⟨bs, r2⟩ := Dp.reads I (.tuple ds) y u he ry
  exact SeqAt.notIn_tuple_reads r2 r1 (SeqAt.canLay_of_shaped se) (SeqAt.canLay_of_shaped sd) (room_in_shaped sd hu) ⟨.bl _, H, I, rfl, q⟩
def GdOk (K : PySem.W.Frag) (w : World) : Prop := ∀ a ks vs, TBS.gd a ks vs → (∃ es n, KDict K w a es n) ∧ ∀ z : Str, (∀ d, valD (ks.zip vs) z = some d → ∃ v u, PySem.W.nsIn K a z = some (some u) ∧ RelV v u ∧ ∀ H ra, RepV K H ra d v) ∧
  (valD (ks.zip vs) z = none → PySem.W.nsIn K a z = some none)
def LkV (K : PySem.W.Frag) (w : World) (H : Hp) (x y : V) (o : Option V) : Prop := (∃ a, x = .ref a ∧ DGet H a y o) ∨ ∃ a es n z r, x = .ref a ∧ y = .str z ∧ KDict K w a es n ∧ PySem.W.nsIn K a z = some r ∧ RelO o r
theorem keyD_kV {K : PySem.W.Frag} {H : Hp} {ra : List Addr} {d : D} {v : V} {k : L2.Key} (e : keyD d = some k) (h : RepV K H ra d v) : v = kV k := by
  cases d with
  | int i => cases e; exact h
  | str x => cases e; exact h
  | _ => cases e
theorem look_of {K : PySem.W.Frag} {w : World} (G : GdOk K w) {H : Hp} {ra : List Addr} {s : Store} {dx dy : D} {x y : V} {o : Option D} (R : SRel K H ra s) (rx : RepV K H ra dx x) (ry : RepV K H ra dy y) (e : lookD s dx dy = some o) :
    ∃ ov, LkV K w H x y ov ∧ (∀ d, o = some d → ∃ v, ov = some v ∧ RepV K H ra d v) ∧ (o = none → ov = none) := by
  cases dx with
  | gd ks vs =>
    cases dy with
    | str z =>
      cases e
      obtain ⟨a, rfl, g⟩ := rx
      obtain ⟨⟨es, n, kd⟩, hz⟩ := G a ks vs g
      obtain ⟨h1, h2⟩ := hz z
      cases q : valD (ks.zip vs) z with
      | none => exact ⟨none, .inr ⟨a, es, n, z, none, rfl, ry, kd, h2 q, trivial⟩, ⟨(fun d z => by cases z), fun _ => rfl⟩⟩
      | some d =>
        obtain ⟨v, u, e1, rv, rr⟩ := h1 d q
        exact ⟨some v, .inr ⟨a, es, n, z, some u, rfl, ry, kd, e1, rv⟩, ⟨(fun d' z => by cases z; exact ⟨v, rfl, rr H ra⟩), fun z => by cases z⟩⟩
    | _ => cases e
  | ref n =>
    simp only [lookD] at e
    cases hl : rdD s n with
    | none => rw [hl] at e; cases e
    | some l =>
      cases hk : keyD dy with
      | none => rw [hl, hk] at e; cases e
      | some k =>
        rw [hl, hk] at e
        cases e
        obtain ⟨a, kvs, ea, hv, rm⟩ := R.rd hl
        obtain ⟨a', ea', rfl⟩ := rx
        rw [ea] at ea'
        cases ea'
        obtain ⟨h1, h2⟩ := rm.val k
        refine ⟨valV kvs k, .inl ⟨a, rfl, ?_⟩, h1, h2⟩
        rw [keyD_kV hk ry]
        exact .inl ⟨kvs, k, hv, rfl, rfl⟩
  | _ => cases e
theorem op_inLk (hu : X.A.units + 1 < cLine) : OpR X (compareOp .In) (fun x y H Q => ∃ ov, LkV X.K X.w H y x ov ∧ Q (.bl ov.isSome) H) := by
  intro pins s σ H x y v u Q I rx ry h
  obtain ⟨ov, l, q⟩ := h
  rcases l with ⟨a, rfl, g⟩ | ⟨a, es, n, z, r, rfl, rfl, kd, e, ro⟩
  · obtain rfl : u = Value.ref a := ry
    exact d_in hu I g rx fun s' I' => ⟨.bl _, H, I', rfl, q⟩
  · refine op_in_kd kd pins s σ H _ _ v u Q I rx ry ⟨z, r, rfl, rfl, e, ?_⟩
    rw [← ro.isSome_eq]
    exact q
theorem op_notInLk (hu : X.A.units + 1 < cLine) : OpR X (compareOp .NotIn) (fun x y H Q => ∃ ov, LkV X.K X.w H y x ov ∧ Q (.bl (!ov.isSome)) H) := by
  intro pins s σ H x y v u Q I rx ry h
  obtain ⟨ov, l, q⟩ := h
  rcases l with ⟨a, rfl, g⟩ | ⟨a, es, n, z, r, rfl, rfl, kd, e, ro⟩
  · obtain rfl : u = Value.ref a := ry
    exact d_notIn hu I g rx fun s' I' => ⟨.bl _, H, I', rfl, q⟩
  · refine op_notIn_kd kd pins s σ H _ _ v u Q I rx ry ⟨z, r, rfl, rfl, e, ?_⟩
    rw [← ro.isSome_eq]
    exact q
def rIxLk (K : PySem.W.Frag) (w : World) : R2 := fun x y H Q => ∃ v, LkV K w H x y (some v) ∧ Q v H
theorem ix_lk (hu : X.A.units + 1 < cLine) : IxR X (rIxLk X.K X.w) := by
  intro value slice pins s σ H x y v u Q I rx ry h hs
  obtain ⟨v0, l, q⟩ := h
  rcases l with ⟨a, rfl, g⟩ | ⟨a, es, n, z, r, rfl, rfl, kd, e, ro⟩
  · obtain rfl : v = Value.ref a := rx
    have hd : IsD H a := by
      rcases g with ⟨kvs, k, e, _⟩ | ⟨kvs, k, b, e, _⟩
      · exact .inl ⟨kvs, e⟩
      · exact .inr ⟨kvs, e⟩
    obtain ⟨t1, _, _⟩ := isD_at I hd
    exact tail_any t1 slot_dict_getitem.lookup (d_getItem hu I g ry fun w' s' I' rw' => ⟨v0, H, I', rw', q⟩) hs
  · cases r with
    | none => exact ro.elim
    | some u0 => exact ix_kdict value slice pins s σ H _ _ v u Q I rx ry ⟨a, z, v0, rfl, rfl, ⟨es, n, u0, kd.at_, kd.lit, e, ro⟩, q⟩ hs
theorem mt_getLk1 (hu : X.A.units + 1 < cLine) : MtR X "dict.get" (fun x xs H Q => ∃ y ov, xs = [y] ∧ LkV X.K X.w H x y ov ∧ Q (ov.getD .non) H) := by
  intro pins s σ H x xs v us Q I rx rs h
  obtain ⟨y, ov, rfl, l, q⟩ := h
  obtain ⟨u, rfl, ry⟩ := Vals.one rs
  rcases l with ⟨a, rfl, g⟩ | ⟨a, es, n, z, r, rfl, rfl, kd, e, ro⟩
  · obtain rfl : v = Value.ref a := rx
    exact d_get1 hu I g ry fun w' s' I' rw' => ⟨_, H, I', rw', q⟩
  · obtain rfl : v = Value.ref a := rx
    obtain ⟨t, rfl⟩ := ry
    have hm := PySem.W.mapOf_K (prog := X.prog) (w := X.w) I.kIn kd.at_ kd.lit
    refine call_meetsIn PySem.F.slot_dict_get hm.typeIs PySem.F.entry_dict_get (PySem.F.args_dict_get_2 _ _) (meets_dict_get (strKind X.prog X.w) a (strKind_is X.prog X.w z t) kd.low) ⟨_, hm, ?_⟩
    rw [PySem.W.find_K kd.at_ e]
    exact ⟨_, H, I.tok _, RelO.getD (d := V.non) (d' := Value.none) ro (show Value.none = Value.none from rfl), q⟩
theorem mt_getLk2 (hu : X.A.units + 1 < cLine) : MtR X "dict.get" (fun x xs H Q => ∃ y d ov, xs = [y, d] ∧ LkV X.K X.w H x y ov ∧ Q (ov.getD d) H) := by
  intro pins s σ H x xs v us Q I rx rs h
  obtain ⟨y, d, ov, rfl, l, q⟩ := h
  obtain ⟨u, u2, rfl, ry, rd⟩ := Vals.two rs
  rcases l with ⟨a, rfl, g⟩ | ⟨a, es, n, z, r, rfl, rfl, kd, e, ro⟩
  · obtain rfl : v = Value.ref a := rx
    exact d_get2 hu I g ry rd fun w' s' I' rw' => ⟨_, H, I', rw', q⟩
  · obtain rfl : v = Value.ref a := rx
    obtain ⟨t, rfl⟩ := ry
    have hm := PySem.W.mapOf_K (prog := X.prog) (w := X.w) I.kIn kd.at_ kd.lit
    refine call_meetsIn PySem.F.slot_dict_get hm.typeIs PySem.F.entry_dict_get (PySem.F.args_dict_get_3 _ _ _) (meets_dict_get_default (strKind X.prog X.w) a (strKind_is X.prog X.w z t) kd.low u2) ⟨_, hm, ?_⟩
    rw [PySem.W.find_K kd.at_ e]
    exact ⟨_, H, I.tok _, ro.getD rd, q⟩
def mergeV (l m : List (L2.Key × V)) : List (L2.Key × V) := m.foldl (fun acc p => putK acc p.1 p.2) l
theorem mergeV_len : ∀ (m l : List (L2.Key × V)), (mergeV l m).length ≤ l.length + m.length
  | [], l => Nat.le_refl _
  | p :: m, l => by
    have h := mergeV_len m (putK l p.1 p.2)
    have h2 := length_putK l p.1 p.2
    show (mergeV (putK l p.1 p.2) m).length ≤ _
    rw [List.length_cons]
    omega
theorem kv_merge : ∀ {m l : List (L2.Key × V)} {m' l' : List (L2.Key × Value)}, KV l l' → KV m m' → KV (mergeV l m) (merged l' m')
  | _, _, _, _, r, .nil => r
  | _, _, _, _, r, .cons h t => by
    obtain ⟨e, h⟩ := h
    show KV (mergeV (putK _ _ _) _) (merged (stored _ _ _) _)
    rw [← e]
    exact kv_merge (r.put _ h) t
theorem repM_merge {K : PySem.W.Frag} {H : Hp} {ra : List Addr} : ∀ {m l : List (L2.Key × D)} {m' l' : List (L2.Key × V)}, RepM K H ra l l' → RepM K H ra m m' → RepM K H ra (mergeD l m) (mergeV l' m')
  | [], l, m', l', r, h => by
    have : m' = [] := List.eq_nil_of_length_eq_zero h.length
    subst this
    exact r
  | p :: m, l, m', l', r, h => by
    obtain ⟨v, m2, rfl, hv, h2⟩ := RepM.cons_inv h
    show RepM K H ra (mergeD (putD l p.1 p.2) m) (mergeV (putK l' p.1 v) m2)
    exact repM_merge (r.put p.1 hv) h2
theorem mt_update : MtR X "dict.update" (fun x xs H Q => ∃ a b kvs more, x = .ref a ∧ xs = [.ref b] ∧ a ≠ b ∧ H a = some (.dK kvs) ∧ H b = some (.dK more) ∧ kvs.length + more.length ≤ sizeLine ∧ Q .non (upd H a (.dK (mergeV kvs more)))) := by
  intro pins s σ H x xs v us Q I rx rs h
  obtain ⟨a, b, kvs, more, rfl, rfl, hne, e, e2, hz, q⟩ := h
  obtain ⟨u, rfl, ry⟩ := Vals.one rs
  obtain rfl : v = Value.ref a := rx
  obtain rfl : u = Value.ref b := ry
  obtain ⟨z, hd, vs, rel, dd⟩ := dk_of I.hok e
  obtain ⟨z2, hd2, vs2, rel2, dd2⟩ := dk_of I.hok e2
  refine call_meetsIn PySem.F.slot_dict_update dd.typeIs PySem.F.entry_dict_update (PySem.F.args_dict_update_2 _ _) (meets_dict_update (mixKind X.prog X.w) a b hne hd2)
    ⟨vs, vs2, dd, dd2, by rw [← rel.length, ← rel2.length]; exact hz, fun h' dd' _ hs => ?_⟩
  have he : ∃ q, h'.get? a = some q := let ⟨q, _, _, hq, _⟩ := dd'; ⟨q, hq⟩
  exact ⟨.non, _, d_write I (by rw [e]; exact True.intro) hs he (dk_new (Nat.le_trans (mergeV_len more kvs) hz) hd (kv_merge rel rel2) dd'), rfl, q⟩
theorem mt_dpop1 : MtR X "dict.pop" (fun x xs H Q => ∃ a kvs k v, x = .ref a ∧ xs = [kV k] ∧ H a = some (.dK kvs) ∧ valV kvs k = some v ∧ Q v (upd H a (.dK (dropK kvs k)))) := by
  intro pins s σ H x xs v us Q I rx rs h
  obtain ⟨a, kvs, k, v0, rfl, rfl, e, l, q⟩ := h
  obtain ⟨u, rfl, ry⟩ := Vals.one rs
  obtain rfl : v = Value.ref a := rx
  exact d_pop I e ry l (.inl rfl) fun w' s' I' rw' => ⟨v0, _, I', rw', q⟩
theorem inD_of {K : PySem.W.Frag} {w : World} (G : GdOk K w) {H : Hp} {ra : List Addr} {s : Store} {dx dy : D} {x y : V} {b : Bool} (R : SRel K H ra s) (rx : RepV K H ra dx x) (ry : RepV K H ra dy y) (e : inD s dx dy = some b) :
    (∃ p xs, y = .ref p ∧ (SqL K H p xs ∨ SqT K H p xs) ∧ flatV x = true ∧ xs.all flatV = true ∧ b = inV x xs) ∨
    (∃ d ds, Dp K H x d ∧ Dp K H y (.list ds) ∧ SeqAt.shaped d = true ∧ SeqAt.shaped (.list ds) = true ∧ b = ds.any fun z => PyData.eqv z d) ∨
    (∃ d ds, Dp K H x d ∧ Dp K H y (.tuple ds) ∧ SeqAt.shaped d = true ∧ SeqAt.shaped (.tuple ds) = true ∧ b = ds.any fun z => PyData.eqv z d) ∨
    (∃ (c : Nat) (z : Str), x = .str ⟨#[c]⟩ ∧ y = .str z ∧ b = decide (c ∈ z.cps.toList)) ∨ ∃ ov, LkV K w H y x ov ∧ b = ov.isSome := by
  unfold inD at e
  split at e
  · rename_i l hl
    split at e
    · rename_i h
      rw [Bool.and_eq_true] at h
      cases e
      obtain ⟨a, vs, e1, sq, r⟩ := items_rep R ry hl
      obtain ⟨b1, b2⟩ := flat_reps h.1 rx l vs h.2 r
      exact .inl ⟨a, vs, e1, sq, (flat_rep h.1 h.1 rx rx).1, b1, b2.symm⟩
    · split at e
      · rename_i p q hp hq
        split at e
        · rename_i h
          rw [Bool.and_eq_true] at h
          cases e
          exact .inr (.inl ⟨p, _, dp_of R 60 dx x p hp rx, dp_of R 60 dy y _ hq ry, h.1, h.2, rfl⟩)
        · cases e
      · rename_i p q hp hq
        split at e
        · rename_i h
          rw [Bool.and_eq_true] at h
          cases e
          exact .inr (.inr (.inl ⟨p, _, dp_of R 60 dx x p hp rx, dp_of R 60 dy y _ hq ry, h.1, h.2, rfl⟩))
        · cases e
      · cases e
  · unfold inO at e
    split at e
    · rename_i z _
      split at e
      · rename_i c
        split at e
        · rename_i u hu
          cases e
          refine .inr (.inr (.inr (.inl ⟨u, z, ?_, ry, rfl⟩)))
          rw [show x = .str c from rx]
          obtain ⟨a⟩ := c
          obtain ⟨l⟩ := a
          have hu : l = [u] := hu
          rw [hu]
        · cases e
      · cases e
    · rw [Option.map_eq_some_iff] at e
      obtain ⟨o, eo, rfl⟩ := e
      obtain ⟨ov, l, h1, h2⟩ := look_of G R ry rx eo
      refine .inr (.inr (.inr (.inr ⟨ov, l, ?_⟩)))
      cases o with
      | none => rw [h2 rfl]; rfl
      | some d =>
        obtain ⟨v, ev, _⟩ := h1 d rfl
        rw [ev]
        rfl
theorem cmp_in (hu : X.A.units + 100 < cLine) (G : GdOk X.K X.w) : CmpR M X .In := by
  refine ⟨fun x y H Q => rIn X.K false x y H Q ∨ rInD X.K x y H Q ∨ rInT false X.K x y H Q ∨ (∃ (c : Nat) (z : Str), x = .str ⟨#[c]⟩ ∧ y = .str z ∧ Q (.bl (decide (c ∈ z.cps.toList))) H) ∨ (∃ ov, LkV X.K X.w H y x ov ∧ Q (.bl ov.isSome) H), ?_, fun H ra s dx dy x y b Q R rx ry e q => ?_⟩
  · intro pins s σ H x y v u Q I rx ry h
    rcases h with h | h | h | h | h
    · exact op_in_seq pins s σ H x y v u Q I rx ry h
    · exact op_inD (show X.A.units + 65 < cLine by omega) pins s σ H x y v u Q I rx ry h
    · exact op_inT (show X.A.units + 65 < cLine by omega) pins s σ H x y v u Q I rx ry h
    · exact op_in_sign pins s σ H x y v u Q I rx ry h
    · exact op_inLk (by omega) pins s σ H x y v u Q I rx ry h
  · rcases inD_of G R rx ry e with ⟨p, xs, e1, sq, f1, f2, rfl⟩ | ⟨d, ds, h1, h2, h3, h4, rfl⟩ | ⟨d, ds, h1, h2, h3, h4, rfl⟩ | ⟨c, z, h1, h2, rfl⟩ | ⟨ov, l, rfl⟩
    · exact .inl ⟨p, xs, e1, sq, f1, f2, q⟩
    · exact .inr (.inl ⟨d, ds, h1, h2, h3, h4, q⟩)
    · exact .inr (.inr (.inl ⟨d, ds, h1, h2, h3, h4, q⟩))
    · exact .inr (.inr (.inr (.inl ⟨c, z, h1, h2, q⟩)))
    · exact .inr (.inr (.inr (.inr ⟨ov, l, q⟩)))
theorem cmp_notin (hu : X.A.units + 100 < cLine) (G : GdOk X.K X.w) : CmpR M X .NotIn := by
  refine ⟨fun x y H Q => rIn X.K true x y H Q ∨ rNotInD X.K x y H Q ∨ rInT true X.K x y H Q ∨ (∃ (c : Nat) (z : Str), x = .str ⟨#[c]⟩ ∧ y = .str z ∧ Q (.bl (!decide (c ∈ z.cps.toList))) H) ∨ (∃ ov, LkV X.K X.w H y x ov ∧ Q (.bl (!ov.isSome)) H), ?_, fun H ra s dx dy x y b Q R rx ry e q => ?_⟩
  · intro pins s σ H x y v u Q I rx ry h
    rcases h with h | h | h | h | h
    · exact op_notIn_seq pins s σ H x y v u Q I rx ry h
    · exact op_notInD (show X.A.units + 65 < cLine by omega) pins s σ H x y v u Q I rx ry h
    · exact op_notInT (show X.A.units + 65 < cLine by omega) pins s σ H x y v u Q I rx ry h
    · exact op_notIn_sign pins s σ H x y v u Q I rx ry h
    · exact op_notInLk (by omega) pins s σ H x y v u Q I rx ry h
  · simp only [cmpD, Option.map_eq_some_iff] at e
    obtain ⟨c, ec, rfl⟩ := e
    rcases inD_of G R rx ry ec with ⟨p, xs, e1, sq, f1, f2, rfl⟩ | ⟨d, ds, h1, h2, h3, h4, rfl⟩ | ⟨d, ds, h1, h2, h3, h4, rfl⟩ | ⟨c, z, h1, h2, rfl⟩ | ⟨ov, l, rfl⟩
    · exact .inl ⟨p, xs, e1, sq, f1, f2, q⟩
    · exact .inr (.inl ⟨d, ds, h1, h2, h3, h4, q⟩)
    · exact .inr (.inr (.inl ⟨d, ds, h1, h2, h3, h4, q⟩))
    · exact .inr (.inr (.inr (.inl ⟨c, z, h1, h2, q⟩)))
    · exact .inr (.inr (.inr (.inr ⟨ov, l, q⟩)))
theorem cmp_lt : CmpR M X .Lt := by
  refine ⟨_, op_lt.or op_lt_str, fun H ra s dx dy x y b Q R rx ry e q => ?_⟩
  cases dx with
  | int i =>
    cases dy with
    | int j => cases e; exact .inl ⟨i, j, rx, ry, q⟩
    | _ => cases e
  | str i =>
    cases dy with
    | str j => cases e; exact .inr ⟨i, j, rx, ry, q⟩
    | _ => cases e
  | _ => cases e
theorem cmp_le : CmpR M X .LtE := by
  refine ⟨_, op_le.or op_le_str, fun H ra s dx dy x y b Q R rx ry e q => ?_⟩
  cases dx with
  | int i =>
    cases dy with
    | int j => cases e; exact .inl ⟨i, j, rx, ry, q⟩
    | _ => cases e
  | str i =>
    cases dy with
    | str j => cases e; exact .inr ⟨i, j, rx, ry, q⟩
    | _ => cases e
  | _ => cases e
theorem cmp_gt : CmpR M X .Gt := by
  refine ⟨_, op_gt.or op_gt_str, fun H ra s dx dy x y b Q R rx ry e q => ?_⟩
  cases dx with
  | int i =>
    cases dy with
    | int j => cases e; exact .inl ⟨i, j, rx, ry, q⟩
    | _ => cases e
  | str i =>
    cases dy with
    | str j => cases e; exact .inr ⟨i, j, rx, ry, q⟩
    | _ => cases e
  | _ => cases e
theorem cmp_ge : CmpR M X .GtE := by
  refine ⟨_, op_ge.or op_ge_str, fun H ra s dx dy x y b Q R rx ry e q => ?_⟩
  cases dx with
  | int i =>
    cases dy with
    | int j => cases e; exact .inl ⟨i, j, rx, ry, q⟩
    | _ => cases e
  | str i =>
    cases dy with
    | str j => cases e; exact .inr ⟨i, j, rx, ry, q⟩
    | _ => cases e
  | _ => cases e
theorem cmp_all (hu : X.A.units + 100 < cLine) (G : GdOk X.K X.w) (op : CmpOp) : CmpR M X op := by
  cases op with
  | Eq => exact cmp_eq hu
  | NotEq => exact cmp_ne hu
  | Lt => exact cmp_lt
  | LtE => exact cmp_le
  | Gt => exact cmp_gt
  | GtE => exact cmp_ge
  | Is => exact cmp_is
  | IsNot => exact cmp_isnot
  | In => exact cmp_in hu G
  | NotIn => exact cmp_notin hu G
theorem truth_of {K : PySem.W.Frag} {H : Hp} {ra : List Addr} {s : Store} {d : D} {v : V} {b : Bool} (R : SRel K H ra s) (h : RepV K H ra d v) (e : truth s d = some b) : TruV K v H b := by
  cases d with
  | non => cases e; rw [show v = .non from h]; exact rfl
  | bl c => cases e; rw [show v = .bl _ from h]; exact rfl
  | int i => cases e; rw [show v = .int i from h]; exact rfl
  | str x =>
    simp only [truth] at e
    split at e
    · cases e
      rw [show v = .str x from h]
      exact ⟨by assumption, rfl⟩
    · cases e
  | _ =>
    simp only [truth, Option.map_eq_some_iff] at e
    obtain ⟨l, el, rfl⟩ := e
    obtain ⟨a, vs, rfl, sq, r⟩ := items_rep R h el
    have e2 := RepL.length l vs r
    have e3 : (!l.isEmpty) = !vs.isEmpty := by
      cases l <;> cases vs <;> simp at e2 ⊢
    rcases sq with sq | sq
    · exact .inl ⟨vs, sq, e3⟩
    · exact .inr (.inl ⟨vs, sq, e3⟩)
theorem ixOf_eq (n : Nat) (i : Int) : ixOf n i = ixN n i := rfl
theorem atD_rep {K : PySem.W.Frag} {H : Hp} {ra : List Addr} {l : List D} {vs : List V} {i : Int} {d : D} (r : RepL K H ra l vs) (e : atD l i = some d) : ∃ v, atI vs i = some v ∧ RepV K H ra d v := by
  unfold atD at e
  rw [Option.bind_eq_some_iff] at e
  obtain ⟨j, ej, e⟩ := e
  obtain ⟨v, q1, q2⟩ := RepL.get l vs j d r e
  refine ⟨v, ?_, q2⟩
  unfold atI
  rw [RepL.length l vs r, ← ixOf_eq, ej]
  exact q1
theorem ixD_of {K : PySem.W.Frag} {w : World} (G : GdOk K w) {H : Hp} {ra : List Addr} {s : Store} {dx dy d : D} {x y : V} {Q : VK} (R : SRel K H ra s) (rx : RepV K H ra dx x) (ry : RepV K H ra dy y) (e : ixD s dx dy = some d) (q : ∀ v, RepV K H ra d v → Q v H) : rIx K x y H Q ∨ rIxLk K w x y H Q := by
  have lk : ∀ {dy : D}, RepV K H ra dy y → (lookD s dx dy).bind id = some d → rIxLk K w x y H Q := fun {dy} ry h => by
    rw [Option.bind_eq_some_iff] at h
    obtain ⟨o, h1, h2⟩ := h
    obtain ⟨ov, l, g1, g2⟩ := look_of G R rx ry h1
    obtain ⟨v, rfl, rv⟩ := g1 d h2
    exact ⟨v, l, q v rv⟩
  cases dy with
  | int i =>
    have hy : y = .int i := ry
    cases dx with
    | str z =>
      simp only [ixD] at e
      split at e
      · rename_i hz
        rw [Option.map_eq_some_iff] at e
        obtain ⟨c, ec, rfl⟩ := e
        refine .inl (.inr (.inr ⟨z, i, c, rx, hy, hz, ?_, q _ rfl⟩))
        exact ec
      · cases e
    | tup l =>
      simp only [ixD, items] at e
      obtain ⟨a, vs, e1, sq, r⟩ := rx
      obtain ⟨v, ev, rv⟩ := atD_rep r e
      exact .inl (.inr (.inl ⟨a, vs, i, v, e1, hy, sq, ev, q v rv⟩))
    | ref n =>
      simp only [ixD, items] at e
      cases hl : isLst s n with
      | some l =>
        rw [hl] at e
        obtain ⟨a, vs, ea, hv, r⟩ := R.lst hl
        obtain ⟨a', ea', e'⟩ := rx
        rw [ea] at ea'
        cases ea'
        obtain ⟨v, ev, rv⟩ := atD_rep r e
        exact .inl (.inl ⟨a, vs, i, v, e', hy, SqL.of hv, ev, q v rv⟩)
      | none =>
        rw [hl] at e
        exact .inr (lk ry e)
    | frz l =>
      simp only [ixD, items] at e
      obtain ⟨a, e1, f⟩ := rx
      obtain ⟨v, ev, rv⟩ := atD_rep (RepL.intsF (K := K) (H := H) (ra := ra) l) e
      exact .inl (.inl ⟨a, _, i, v, e1, hy, f.sq, ev, q v rv⟩)
    | gd ks vs => exact .inr (lk ry (by simpa [ixD, items] using e))
    | _ => simp [ixD, items, lookD] at e
  | _ => exact .inr (lk ry (by cases dx <;> simpa [ixD] using e))
theorem endOf_eq (n d : Nat) (o : Option Int) : endOf n d o = HT.sIx n d o := by
  unfold endOf HT.sIx
  cases o <;> rfl
theorem cut_rep {K : PySem.W.Frag} {H : Hp} {ra : List Addr} {l : List D} {vs : List V} (r : RepL K H ra l vs) (lo hi : Option Int) : RepL K H ra (cutD l lo hi) (cutV vs lo hi) := by
  unfold cutD cutV
  rw [RepL.length l vs r, endOf_eq, endOf_eq]
  exact RepL.take _ _ _ (RepL.drop _ _ _ r)
theorem slice_of {dx : D} {x : V} {lo hi : Option Int} {Q : VK} (R : SRel X.K H ra s) (rx : RepV X.K H ra dx x) (p : PostR M X.mg X.K W σ (RepV X.K) H ra (sliceD s dx lo hi) Q) :
    (rSlL X.K x lo hi H Q ∨ rSlA X.K x lo hi H Q) ∨ rSlS x lo hi H Q := by
  cases dx with
  | tup l =>
    obtain ⟨a, vs, e1, sq, r⟩ := rx
    refine .inl <| .inr ⟨a, vs, e1, sq, fun z => ?_, fun _ => PostR.finT p R (cut_rep r lo hi)⟩
    have e2 := RepL.length l vs r
    have e3 : cutD l lo hi = l := by
      unfold cutD
      rw [endOf_eq, endOf_eq, ← e2, z.1, z.2, List.drop_zero, Nat.sub_zero, e2]
      exact List.take_length
    have p' : PostR M X.mg X.K W σ (RepV X.K) H ra (.ok (.tup l) s) Q := by
      have := p
      simp only [sliceD, e3] at this
      exact this
    exact p'.fin R ⟨a, vs, rfl, sq, r⟩
  | ref n =>
    simp only [sliceD] at p
    split at p
    · rename_i l hl
      obtain ⟨a, vs, ea, hv, r⟩ := R.lst hl
      obtain ⟨a', ea', e'⟩ := rx
      rw [ea] at ea'
      cases ea'
      exact .inl <| .inl ⟨a, vs, e', SqL.of hv, (PostR.finL p R (cut_rep r lo hi)).2⟩
    · exact p.elim
  | frz l =>
    obtain ⟨a, e1, f⟩ := rx
    exact .inl <| .inl ⟨a, _, e1, f.sq, (PostR.finL p R (cut_rep (RepL.intsF l) lo hi)).2⟩
  | str z =>
    simp only [sliceD] at p
    split at p
    · rename_i hz
      exact .inr ⟨z, rx, hz, p.fin R rfl⟩
    · exact p.elim
  | _ => exact p.elim
theorem RepL.rev {K : PySem.W.Frag} {H : Hp} {ra : List Addr} : ∀ (l : List D) (vs : List V), RepL K H ra l vs → RepL K H ra l.reverse vs.reverse
  | [], vs, h => by rw [show vs = [] from h]; rfl
  | d :: ds, vs, h => by
    obtain ⟨v, r, e, h1, h2⟩ := h
    subst e
    rw [List.reverse_cons, List.reverse_cons]
    exact RepL.append (RepL.rev ds r h2) (RepL.one h1)
theorem rev_of {dx : D} {x : V} {Q : VK} (R : SRel X.K H ra s) (rx : RepV X.K H ra dx x) (p : PostR M X.mg X.K W σ (RepV X.K) H ra (revD s dx) Q) :
    ∃ a xs, x = .ref a ∧ ((SqL X.K H a xs ∧ ∀ p, H p = none → Q (.ref p) (upd H p (.lst xs.reverse))) ∨ (SqT X.K H a xs ∧ ∀ p, H p = none → Q (.ref p) (upd H p (.tup xs.reverse)))) := by
  cases dx with
  | tup l =>
    obtain ⟨a, vs, e1, sq, r⟩ := rx
    exact ⟨a, vs, e1, .inr ⟨sq, PostR.finT p R (RepL.rev _ _ r)⟩⟩
  | ref n =>
    simp only [revD] at p
    split at p
    · rename_i l hl
      obtain ⟨a, vs, ea, hv, r⟩ := R.lst hl
      obtain ⟨a', ea', e'⟩ := rx
      rw [ea] at ea'
      cases ea'
      exact ⟨a, vs, e', .inl ⟨SqL.of hv, (PostR.finL p R (RepL.rev _ _ r)).2⟩⟩
    · exact p.elim
  | _ => exact p.elim
end
end WL
set_option maxHeartbeats 2000000
namespace WL
open PySem PySem.Spec PyProof.Rows L2
variable [TBS]
open Sem (wp)
theorem begun_enum1 {v : Value} {ob : Obj} {HH : Heap → Prop} (B : Begins v ob HH) :
    Meets (Builtin.«enumerate.__new__» ⟨[.type "enumerate", v], []⟩) (fun _ RR sh => HH sh.heap ∧
      RR (.ok (.ret (.ref (sh.heap.push ob).objs.size))) { sh with heap := (sh.heap.push ob).push { cls := .type "enumerate", data := .fields #[.none, .bool false, .ref sh.heap.objs.size, rawInt 0, .none, .none] } }) :=
  .of_wp fun prog w A RR sh hh => by
    obtain ⟨hp, ge, dr, tk, os⟩ := sh
    obtain ⟨h1, hR⟩ := hh
    have hsub := sub_enumerate
    have goIt : ∀ {A' : Around} {E' : Value → Shared → Prop} {Q' : Value → Shared → Prop}, Q' (.ref hp.objs.size) ⟨hp.push ob, ge, dr, tk, os⟩ → wpAny (model prog w) A' (pyIter v) Q' E' ⟨hp, ge, dr, tk, os⟩ :=
      fun qq => B.iter prog w _ _ ⟨hp, ge, dr, tk, os⟩ _ h1 qq
    wp_walk using goIt
    refine wpAny_stack_any fun _ => wpAny_pure ?_
    split
    · rename_i cc _ _ _ _ _
      cases (cc == Value.type "enumerate")
      · wp_walk using goIt
        exact ⟨_, rfl, hR⟩
      · wp_walk using goIt
        exact ⟨_, rfl, hR⟩
    · wp_walk using goIt
      exact ⟨_, rfl, hR⟩
section
variable {prog : Program} {w : World} {A : Around} {E : Value → Shared → Prop} {s : Shared}
theorem enum_of1 {v : Value} {ob : Obj} {HH : Heap → Prop} {Q : Value → Shared → Prop} (B : Begins v ob HH) (h1 : HH s.heap)
    (hq : ∀ h2, IsEnum h2 (s.heap.objs.size + 1) s.heap.objs.size 0 .none → h2.get? s.heap.objs.size = some ob → (∀ b u, s.heap.get? b = some u → h2.get? b = some u) → Q (.ref (s.heap.objs.size + 1)) { s with heap := h2 }) :
    wpAny (model prog w) A (call (.type "enumerate") [v]) Q E s := by
  have sz : (s.heap.push ob).objs.size = s.heap.objs.size + 1 := Heap.size_push ..
  have he : IsEnum ((s.heap.push ob).push { cls := .type "enumerate", data := .fields #[.none, .bool false, .ref s.heap.objs.size, rawInt 0, .none, .none] }) (s.heap.objs.size + 1) s.heap.objs.size 0 .none := by
    rw [← sz]
    exact Heap.get?_push_size _ rfl
  refine callType_new F.called_enumerate (by decide) (F.typeCall_enumerate_1 _) (F.newCall_enumerate_1 _) (fun x => F.args_object_init_2 x _) F.entry_enumerate_new (begun_enum1 B) ⟨h1, ?_⟩
  rw [sz]
  exact ⟨⟨_, he, rfl⟩, hq _ he (Heap.get?_push_of_some _ (Heap.get?_push_size _ B.free)) fun b u e => Heap.get?_push_of_some _ (Heap.get?_push_of_some _ e)⟩
end
def IteT (K : PySem.W.Frag) (a : Addr) : L2.It :=
  ⟨fun i H => ∃ (xs : List V) (x : V), SqT K H a xs ∧ xs[i]? = some x,
   fun i H v H' => ∃ T x, v = .ref T ∧ H T = none ∧ H' = upd H T (.tup [.int (i : Nat), x]) ∧ ∀ xs, SqT K H a xs → xs[i]? = some x,
   fun i H => ∃ xs : List V, SqT K H a xs ∧ xs.length ≤ i⟩
theorem turn_enumT {P : Program} {w : World} {K : PySem.W.Frag} {elts : List Expr} {kk : Nat} {tpos : Pos} (a e it : Addr) :
    Turn P w K (.Tuple elts kk tpos) (IteT K a) [e, it] e (fun i h => (∃ old, IsEnum h e it ((i : Nat) : Int) old) ∧ h.IsTupleIter it a i ∧ e ≠ it) where
  mem := List.mem_cons_self
  obj := fun i h st b hb => by
    obtain ⟨⟨old, he⟩, ⟨o, ho, hc, hd⟩, _⟩ := st
    rcases List.mem_cons.mp hb with z | z
    · subst z
      exact ⟨_, he, fun v q => nomatch q⟩
    · rw [List.mem_singleton.mp z]
      exact ⟨o, ho, fun v q => by rw [hd] at q; cases q⟩
  keep := fun i h h' st k => by
    obtain ⟨⟨old, he⟩, hi, hne⟩ := st
    exact ⟨⟨old, k e (by simp) _ he⟩, hi.at fun o q => k it (by simp) o q, hne⟩
  item := by
    intro X hP hw hK hc i pins s σ H E I hf st hg
    subst hP hw hK
    obtain ⟨⟨old, he⟩, hit, hne⟩ := st
    obtain ⟨xs, x, hq, hx⟩ := hg
    obtain ⟨its, rv, p, hz⟩ := I.tuple hq
    obtain ⟨u, hu, ru⟩ := rv.get hx
    have hel : e < s.heap.objs.size := Heap.lt_size he
    have hil : it < s.heap.objs.size := by obtain ⟨_, q, _⟩ := hit; exact Heap.lt_size q
    have hat : a ≠ it := fun z => by
      obtain ⟨o1, e1, c1, _⟩ := hit
      obtain ⟨o2, e2, c2, _⟩ := p
      rw [z, e1] at e2
      cases e2
      rw [c1] at c2
      exact absurd (Value.type.inj c2) (by decide)
    have hae : a ≠ e := fun z => by
      obtain ⟨o2, e2, c2, _⟩ := p
      rw [z, he] at e2
      cases e2
      exact absurd (Value.type.inj c2) (by decide)
    have hlt : i < its.toArray.size := by
      have h1 := (List.getElem?_eq_some_iff.mp hu).1
      simpa using h1
    refine wpAny_pyNext_enum_itemC (Draws.tuple (A := X.A.in1) (I.ok.hd hc) it a hat its.toArray) he ⟨hit, p⟩ hlt hne (by simp [hne, Ne.symm hae]) fun y h' tk hy ho hst hT hsz hk => ?_
    obtain ⟨hit', hp'⟩ := hst
    have ey : y = u := by
      have hy' : its[i]? = some y := by simpa using hy
      rw [hu] at hy'
      exact (Option.some.inj hy').symm
    subst ey
    refine ⟨_, rfl, wpAny_letOwnedTupleGo_enum (s := { s with heap := h', toks := tk + 1 }) ho fun h2 he2 sb => ?_⟩
    have hT2 : h2.get? s.heap.objs.size = some { cls := .type "tuple", data := .seq #[.int i tk, y] } := (sb.2 _ (Nat.ne_of_gt hel)).trans hT
    have new : ObjOk X.prog X.w (upd H s.heap.objs.size (.tup [.int (i : Nat), x])) h2 s.heap.objs.size (.tup [.int (i : Nat), x]) :=
      ⟨by show 2 ≤ sizeLine; decide, [.int i tk, y], .cons ⟨_, rfl⟩ (.cons ru .nil), ⟨_, hT2, rfl, _, rfl⟩⟩
    have I1 : Inv X pins σ (upd H s.heap.objs.size (.tup [.int (i : Nat), x])) { s with heap := h2, toks := tk + 1 } :=
      I.turnedNew (ch := [e, it]) (fun b ob hb q => (sb.2 b (fun z => hb (by simp [z]))).trans (hk b ob (fun z => hb (by simp [z])) (fun z => hb (by simp [z])) q)) hf (Nat.le_refl _) new
    refine ⟨.ref s.heap.objs.size, _, I1, rfl, ⟨_, x, rfl, I.hok.fresh (Nat.le_refl _), rfl, fun ys hys => by rw [I.tuple_inj hys hq]; exact hx⟩, ⟨⟨y, ?_⟩, hit'.at fun o q => (sb.2 it (Ne.symm hne)).trans q, hne⟩, fun b hb => ?_⟩
    · rw [show ((i + 1 : Nat) : Int) = (i : Int) + 1 by omega]
      exact he2
    · have hb2 : b < s.heap.objs.size := by
        rcases List.mem_cons.mp hb with z | z
        · rw [z]; exact hel
        · rw [List.mem_singleton.mp z]; exact hil
      rw [upd_ne (Nat.ne_of_lt hb2)]
      exact (hf b hb).1
  done := by
    intro X hP hw hK hc i pins s σ H E I hf st hg
    subst hP hw hK
    obtain ⟨⟨old, he⟩, hit, hne⟩ := st
    obtain ⟨xs, hq, hx⟩ := hg
    obtain ⟨its, rv, p, hz⟩ := I.tuple hq
    obtain ⟨f0, f1, f2, f3, f4, f5⟩ := hf it (by simp)
    have hl := rv.length
    have hT : s.TypeIs (.ref e) "enumerate" := ⟨_, he, rfl⟩
    unfold pyNext
    refine wpAny_bind (wpAny_attempt (wpAny_callSpecial?_slot (name := Str.ofString "__next__") hT F.slot_enumerate_next (wpAny_call_entry F.slot_enumerate_next hT F.entry_enumerate_next ?_ (F.args_enumerate_next_1 _))))
    show wpAny _ _ (field (.ref e) 2 >>= _) _ _ _
    refine wpAny_bind (wpAny_field he rfl (x := .ref it) rfl ?_)
    refine wpAny_bind (RZ.nextOf_tuple_end (A := X.A.in1) (I.ok.hd hc) hit p (by simp; omega) fun h' y eb hy => ?_)
    obtain ⟨o, ho, hcl⟩ := hy
    exact wpAny_bind (wpAny_isInstance (T := "StopIteration") (b := true) ⟨o, ho, hcl⟩ isSubtype_stop (wpAny_pure ⟨rfl, I.turned (t' := s.toks) (fun b o hb q => eb b o hb q) f0 f1 f3 f4 f5⟩))
  self := fun A i s Q E st h => by
    obtain ⟨⟨_, he⟩, _⟩ := st
    exact wpAny_pyIter_enum he h
def IteS (x : Str) : L2.It :=
  ⟨fun i _ => i < x.cps.size,
   fun i H v H' => ∃ T c, v = .ref T ∧ H T = none ∧ H' = upd H T (.tup [.int (i : Nat), .str ⟨#[c]⟩]) ∧ x.cps[i]? = some c,
   fun i _ => x.cps.size ≤ i⟩
theorem nextOf_text_end {prog : Program} {w : World} {A : Around} {E : Value → Shared → Prop} {s : Shared} {it : Addr} {x : Str} {t : Tok} {i : Nat} {Q : Value → Shared → Prop} (hh : A.handled = none) (hit : s.heap.IsStrIter it (strIterType x) x t i) (hx : x.cps[i]? = none)
    (hE : ∀ h' e, Heap.ExtBut it s.heap h' → (∃ o, h'.get? e = some o ∧ o.cls = .type "StopIteration") → E (.ref e) { s with heap := h' }) : wpAny (model prog w) A (Builtin.SmallTypes.nextOf (.ref it)) Q E s := by
  cases ha : x.cps.all (· < 128)
  · simp only [strIterType, ha, Bool.false_eq_true, if_false] at hit
    exact wpAny_nextOf_wide_end hh hit hx hE
  · simp only [strIterType, ha, if_true] at hit
    exact wpAny_nextOf_ascii_end hh hit hx hE
theorem turn_enumS {P : Program} {w : World} {K : PySem.W.Frag} {elts : List Expr} {kk : Nat} {tpos : Pos} (e it : Addr) (x : Str) (t : Tok) :
    Turn P w K (.Tuple elts kk tpos) (IteS x) [e, it] e (fun i h => (∃ old, IsEnum h e it ((i : Nat) : Int) old) ∧ h.IsStrIter it (strIterType x) x t i ∧ e ≠ it) where
  mem := List.mem_cons_self
  obj := fun i h st b hb => by
    obtain ⟨⟨old, he⟩, ⟨o, ho, hc, hd⟩, _⟩ := st
    rcases List.mem_cons.mp hb with z | z
    · subst z
      exact ⟨_, he, fun v q => nomatch q⟩
    · rw [List.mem_singleton.mp z]
      exact ⟨o, ho, fun v q => by rw [hd] at q; cases q⟩
  keep := fun i h h' st k => by
    obtain ⟨⟨old, he⟩, ⟨o, ho, r⟩, hne⟩ := st
    exact ⟨⟨old, k e (by simp) _ he⟩, ⟨o, k it (by simp) o ho, r⟩, hne⟩
  item := by
    intro X hP hw hK hc i pins s σ H E I hf st hg
    subst hP hw hK
    obtain ⟨⟨old, he⟩, hit, hne⟩ := st
    have hel : e < s.heap.objs.size := Heap.lt_size he
    have hil : it < s.heap.objs.size := by obtain ⟨_, q, _⟩ := hit; exact Heap.lt_size q
    refine wpAny_pyNext_enum_itemC (Draws.text (A := X.A.in1) (I.ok.hd hc) it x t) he hit hg hne (by simp [hne]) fun y h' tk hy ho hst hT hsz hk => ?_
    obtain ⟨c, u, hcx, rfl⟩ := hy
    refine ⟨_, rfl, wpAny_letOwnedTupleGo_enum (s := { s with heap := h', toks := tk + 1 }) ho fun h2 he2 sb => ?_⟩
    have hT2 : h2.get? s.heap.objs.size = some { cls := .type "tuple", data := .seq #[.int i tk, .str ⟨#[c]⟩ u] } := (sb.2 _ (Nat.ne_of_gt hel)).trans hT
    have new : ObjOk X.prog X.w (upd H s.heap.objs.size (.tup [.int (i : Nat), .str ⟨#[c]⟩])) h2 s.heap.objs.size (.tup [.int (i : Nat), .str ⟨#[c]⟩]) :=
      ⟨by show 2 ≤ sizeLine; decide, [.int i tk, .str ⟨#[c]⟩ u], .cons ⟨_, rfl⟩ (.cons ⟨_, rfl⟩ .nil), ⟨_, hT2, rfl, _, rfl⟩⟩
    have I1 : Inv X pins σ (upd H s.heap.objs.size (.tup [.int (i : Nat), .str ⟨#[c]⟩])) { s with heap := h2, toks := tk + 1 } :=
      I.turnedNew (ch := [e, it]) (fun b ob hb q => (sb.2 b (fun z => hb (by simp [z]))).trans (hk b ob (fun z => hb (by simp [z])) (fun z => hb (by simp [z])) q)) hf (Nat.le_refl _) new
    refine ⟨.ref s.heap.objs.size, _, I1, rfl, ⟨_, c, rfl, I.hok.fresh (Nat.le_refl _), rfl, hcx⟩, ⟨⟨.str ⟨#[c]⟩ u, ?_⟩, ?_, hne⟩, fun b hb => ?_⟩
    · rw [show ((i + 1 : Nat) : Int) = (i : Int) + 1 by omega]
      exact he2
    · obtain ⟨o, ho2, r⟩ := hst
      exact ⟨o, (sb.2 it (Ne.symm hne)).trans ho2, r⟩
    · have hb2 : b < s.heap.objs.size := by
        rcases List.mem_cons.mp hb with z | z
        · rw [z]; exact hel
        · rw [List.mem_singleton.mp z]; exact hil
      rw [upd_ne (Nat.ne_of_lt hb2)]
      exact (hf b hb).1
  done := by
    intro X hP hw hK hc i pins s σ H E I hf st hg
    subst hP hw hK
    obtain ⟨⟨old, he⟩, hit, hne⟩ := st
    obtain ⟨f0, f1, f2, f3, f4, f5⟩ := hf it (by simp)
    have hx : x.cps[i]? = none := Array.getElem?_eq_none hg
    have hT : s.TypeIs (.ref e) "enumerate" := ⟨_, he, rfl⟩
    unfold pyNext
    refine wpAny_bind (wpAny_attempt (wpAny_callSpecial?_slot (name := Str.ofString "__next__") hT F.slot_enumerate_next (wpAny_call_entry F.slot_enumerate_next hT F.entry_enumerate_next ?_ (F.args_enumerate_next_1 _))))
    show wpAny _ _ (field (.ref e) 2 >>= _) _ _ _
    refine wpAny_bind (wpAny_field he rfl (x := .ref it) rfl ?_)
    refine wpAny_bind (nextOf_text_end (A := X.A.in1) (I.ok.hd hc) hit hx fun h' y eb hy => ?_)
    obtain ⟨o, ho, hcl⟩ := hy
    exact wpAny_bind (wpAny_isInstance (T := "StopIteration") (b := true) ⟨o, ho, hcl⟩ isSubtype_stop (wpAny_pure ⟨rfl, I.turned (t' := s.toks) (fun b o hb q => eb b o hb q) f0 f1 f3 f4 f5⟩))
  self := fun A i s Q E st h => by
    obtain ⟨⟨_, he⟩, _⟩ := st
    exact wpAny_pyIter_enum he h
def iEnumA (K : PySem.W.Frag) (ta : TA) : TI := fun σ H R => ta σ H fun vs H1 => (∃ a xs, vs = [.ref a] ∧ ((SqL K H1 a xs ∧ R (Ite K a) H1) ∨ (SqT K H1 a xs ∧ R (IteT K a) H1))) ∨ ∃ z, vs = [.str z] ∧ R (IteS z) H1
theorem pi_enumA {X : Cx} {e : Expr} {ta : TA} {p pos tpos : Pos} {elts : List Expr} {kk : Nat} (hg : Gl X "enumerate") (hm : X.mg "enumerate" = none) (ha : PA X [e] ta) (hs : starEach [e] X.env = [(false, eval e X.env)]) :
    PI X (.Tuple elts kk tpos) (.Call (.Name "enumerate" p) [e] [] pos) (iEnumA X.K ta) := by
  refine ⟨fun pins s σ H R I h => ?_⟩
  refine Call_ (ld_blt I hg hm boot_enumerate (PyProof.Rows.callWith_type1 (thn (ha.run pos pins s σ H _ I h) fun us s1 ⟨vs, H1, I1, r1, q1⟩ => ?_) hs rfl))
  have fr : ∀ b, b ∈ [s1.heap.objs.size + 1, s1.heap.objs.size] → FpOk X pins H1 b := fun b hb => by
    have hle : s1.heap.objs.size ≤ b := by
      rcases List.mem_cons.mp hb with z | z
      · rw [z]; exact Nat.le_add_right _ _
      · rw [List.mem_singleton.mp z]; exact Nat.le_refl _
    exact I1.fpOk hle (I1.hok.fresh hle)
  rcases q1 with ⟨a, xs, ex, q1⟩ | ⟨z, ex, q⟩
  · subst ex
    cases r1 with
    | cons r rr =>
      cases rr
      cases r
      rcases q1 with ⟨hq, q⟩ | ⟨hq, q⟩
      · obtain ⟨its, rv, p', hz⟩ := I1.list hq
        refine call_enumerate_list p'.isList fun h' he hit hsz hk => wpAny_pyIter_enum he ?_
        have I2 : Inv X pins σ H1 { s1 with heap := h' } := I1.kept (t' := s1.toks) hk
        exact ⟨s1.heap.objs.size + 1, _, _, _, H1, rfl, I2, turn_enum a (s1.heap.objs.size + 1) s1.heap.objs.size, ⟨⟨.none, he⟩, hit, Nat.succ_ne_self _⟩, fr, q⟩
      · obtain ⟨its, rv, p', hz⟩ := I1.tuple hq
        refine enum_of1 (begins_tuple a its.toArray) p' fun h' he hit hk => wpAny_pyIter_enum he ?_
        have I2 : Inv X pins σ H1 { s1 with heap := h' } := I1.kept (t' := s1.toks) hk
        exact ⟨s1.heap.objs.size + 1, _, _, _, H1, rfl, I2, turn_enumT a (s1.heap.objs.size + 1) s1.heap.objs.size, ⟨⟨.none, he⟩, ⟨_, hit, rfl, rfl⟩, Nat.succ_ne_self _⟩, fr, q⟩
  · subst ex
    cases r1 with
    | cons r rr =>
      cases rr
      obtain ⟨t, rfl⟩ := r
      refine enum_of1 (begins_text z t) trivial fun h' he hit hk => wpAny_pyIter_enum he ?_
      have I2 : Inv X pins σ H1 { s1 with heap := h' } := I1.kept (t' := s1.toks) hk
      exact ⟨s1.heap.objs.size + 1, _, _, _, H1, rfl, I2, turn_enumS (s1.heap.objs.size + 1) s1.heap.objs.size z t, ⟨⟨.none, he⟩, ⟨_, hit, rfl, rfl⟩, Nat.succ_ne_self _⟩, fr, q⟩
end WL
set_option maxHeartbeats 2000000
namespace WL
open PySem PySem.Spec PyProof.Rows L2
variable [TBS]
open Sem (wp)
def ItzM (K : PySem.W.Frag) (a b : Addr) : L2.It :=
  ⟨fun i H => ∃ (xs ys : List V) (x y : V), SqL K H a xs ∧ SqT K H b ys ∧ xs[i]? = some x ∧ ys[i]? = some y,
    fun i H v H' => ∃ T x y, v = .ref T ∧ H T = none ∧ H' = upd H T (.tup [x, y]) ∧ (∀ xs, SqL K H a xs → xs[i]? = some x) ∧ ∀ ys, SqT K H b ys → ys[i]? = some y,
    fun i H => ∃ xs ys : List V, SqL K H a xs ∧ SqT K H b ys ∧ ((xs.length ≤ i ∧ i ≤ xs.length ∧ i ≤ ys.length) ∨ (ys.length ≤ i ∧ i ≤ xs.length ∧ i ≤ ys.length))⟩
theorem sep_of {z TI TO i1 i2 a b : Addr} (D : ZipApart z TI TO i1 i2 a b) : ZipSep2 z TI TO i1 i2 [i1, a] [i2, b] where
  TIz := D.TIz
  TOz := D.TOz
  TITO := D.TITO
  TIi1 := D.TIi1
  mem1 := List.mem_cons_self
  zf1 := by simp [Ne.symm D.i1z, Ne.symm D.l1z]
  Tf1 := by simp [D.TOi1, Ne.symm D.l1TO]
  TIi2 := D.TIi2
  mem2 := List.mem_cons_self
  zf2 := by simp [Ne.symm D.i2z, Ne.symm D.l2z]
  Tf2 := by simp [D.TOi2, Ne.symm D.l2TO]
  sep1_2 := by simp [D.i12, Ne.symm D.l2i1]
  sep2_1 := by simp [Ne.symm D.i12, Ne.symm D.l1i2]
theorem turn_zipM {P : Program} {w : World} {K : PySem.W.Frag} {elts : List Expr} {kk : Nat} {tpos : Pos} {a b z TI TO i1 i2 : Addr} (D : ZipApart z TI TO i1 i2 a b) :
    Turn P w K (.Tuple elts kk tpos) (ItzM K a b) [z, TI, TO, i1, i2] z (fun i h => IsZip h z TI TO .none ∧ IsPair h TI (.ref i1) (.ref i2) ∧ (∃ x y, IsPair h TO x y) ∧ h.IsListIter i1 a i ∧ h.IsTupleIter i2 b i) where
  mem := by simp
  obj := fun i h st c hc => by
    obtain ⟨hz, hTI, ⟨x, y, hTO⟩, ⟨o1, e1, _, d1⟩, ⟨o2, e2, _, d2⟩⟩ := st
    have e' : c = z ∨ c = TI ∨ c = TO ∨ c = i1 ∨ c = i2 := by simpa using hc
    rcases e' with q | q | q | q | q
    · rw [q]; exact ⟨_, hz, fun v q => nomatch q⟩
    · rw [q]; exact ⟨_, hTI, fun v q => nomatch q⟩
    · rw [q]; exact ⟨_, hTO, fun v q => nomatch q⟩
    · rw [q]; exact ⟨o1, e1, fun v q => by rw [d1] at q; cases q⟩
    · rw [q]; exact ⟨o2, e2, fun v q => by rw [d2] at q; cases q⟩
  keep := fun i h h' st k => by
    obtain ⟨hz, hTI, ⟨x, y, hTO⟩, h1, h2⟩ := st
    exact ⟨k z (by simp) _ hz, k TI (by simp) _ hTI, ⟨x, y, k TO (by simp) _ hTO⟩, h1.at fun o q => k i1 (by simp) o q, h2.at fun o q => k i2 (by simp) o q⟩
  item := by
    intro X hP hw hK hc i pins s σ H E I hf st hg
    subst hP hw hK
    obtain ⟨hz, hTI, ⟨x0, y0, hTO⟩, h1, h2⟩ := st
    obtain ⟨xs, ys, x, y, hqx, hqy, hx, hy⟩ := hg
    obtain ⟨its, rv, p, _⟩ := I.list hqx
    obtain ⟨its2, rv2, p2, _⟩ := I.tuple hqy
    obtain ⟨u, hu, ru⟩ := rv.get hx
    obtain ⟨u2, hu2, ru2⟩ := rv2.get hy
    have hzl : z < s.heap.objs.size := Heap.lt_size hz
    have l1 : i < its.toArray.size := by simpa using (List.getElem?_eq_some_iff.mp hu).1
    have l2 : i < its2.toArray.size := by simpa using (List.getElem?_eq_some_iff.mp hu2).1
    refine wpAny_pyNext_zipD2_item (sep_of D) (Draws.list (A := X.A.in1) (I.ok.hd hc) i1 a D.l1i1 its.toArray) (Draws.tuple (A := X.A.in1) (I.ok.hd hc) i2 b D.l2i2 its2.toArray) hz hTI hTO ⟨h1, p.isList⟩ ⟨h2, p2⟩ l1 l2 fun w1 w2 h' tk hw1 hw2 z' TO' st1 st2 hT hsz hk => ?_
    obtain ⟨h1', _⟩ := st1
    obtain ⟨h2', _⟩ := st2
    have e1 : w1 = u := by
      have hy' : its[i]? = some w1 := by simpa using hw1
      rw [hu] at hy'
      exact (Option.some.inj hy').symm
    have e2 : w2 = u2 := by
      have hy' : its2[i]? = some w2 := by simpa using hw2
      rw [hu2] at hy'
      exact (Option.some.inj hy').symm
    subst e1 e2
    refine ⟨_, rfl, wpAny_letOwnedTupleGo_zip (s := { s with heap := h', toks := tk }) z' fun h'' z'' sb => ?_⟩
    have hT2 : h''.get? s.heap.objs.size = some { cls := .type "tuple", data := .seq #[w1, w2] } := (sb.2 _ (Nat.ne_of_gt hzl)).trans hT
    have new : ObjOk X.prog X.w (upd H s.heap.objs.size (.tup [x, y])) h'' s.heap.objs.size (.tup [x, y]) :=
      ⟨by show 2 ≤ sizeLine; decide, [w1, w2], .cons ru (.cons ru2 .nil), ⟨_, hT2, rfl, _, rfl⟩⟩
    have I1 : Inv X pins σ (upd H s.heap.objs.size (.tup [x, y])) { s with heap := h'', toks := tk } :=
      I.turnedNew (t' := tk) (ch := [z, TI, TO, i1, i2]) (fun c o hb q => (sb.2 c (fun q' => hb (by simp [q']))).trans (hk c o (fun q' => hb (by simp [q'])) (fun q' => hb (by simp [q'])) (fun q' => hb (by simp [q'])) (fun q' => hb (by simp [q'])) q)) hf (Nat.le_refl _) new
    refine ⟨.ref s.heap.objs.size, _, I1, rfl, ⟨_, x, y, rfl, I.hok.fresh (Nat.le_refl _), rfl, fun l hl => by rw [I.list_inj hl hqx]; exact hx, fun l hl => by rw [I.tuple_inj hl hqy]; exact hy⟩, ⟨z'', ?_, ⟨w1, w2, ?_⟩, ?_, ?_⟩, fun c hcm => ?_⟩
    · exact (sb.2 _ D.TIz).trans (hk _ _ D.TIz D.TITO D.TIi1 D.TIi2 hTI)
    · exact (sb.2 _ D.TOz).trans TO'
    · exact h1'.at fun o q => (sb.2 _ D.i1z).trans q
    · exact h2'.at fun o q => (sb.2 _ D.i2z).trans q
    · have hlt : c < s.heap.objs.size := by
        have e' : c = z ∨ c = TI ∨ c = TO ∨ c = i1 ∨ c = i2 := by simpa using hcm
        rcases e' with q | q | q | q | q
        · rw [q]; exact hzl
        · rw [q]; exact Heap.lt_size hTI
        · rw [q]; exact Heap.lt_size hTO
        · rw [q]; obtain ⟨_, e1, _⟩ := h1; exact Heap.lt_size e1
        · rw [q]; obtain ⟨_, e2, _⟩ := h2; exact Heap.lt_size e2
      rw [upd_ne (Nat.ne_of_lt hlt)]
      exact (hf c hcm).1
  done := by
    intro X hP hw hK hc i pins s σ H E I hf st hg
    subst hP hw hK
    obtain ⟨hz, hTI, ⟨x0, y0, hTO⟩, h1, h2⟩ := st
    obtain ⟨xs, ys, hqx, hqy, hend⟩ := hg
    obtain ⟨its, rv, p, _⟩ := I.list hqx
    obtain ⟨its2, rv2, p2, _⟩ := I.tuple hqy
    have l1 := rv.length
    have l2 := rv2.length
    have s1 : its.toArray.size = its.length := by simp
    have s2 : its2.toArray.size = its2.length := by simp
    refine wpAny_pyNext_zipD2_end (sep_of D) (Draws.list (A := X.A.in1) (I.ok.hd hc) i1 a D.l1i1 its.toArray) (Draws.tuple (A := X.A.in1) (I.ok.hd hc) i2 b D.l2i2 its2.toArray) hz hTI hTO ⟨h1, p.isList⟩ ⟨h2, p2⟩ (by omega) (by omega) (by omega) fun h' tk hk => ⟨rfl, I.turnedL (t' := tk) (ch := [z, TI, TO, i1, i2]) (fun c o hb q =>
      hk c o (fun q' => hb (by simp [q'])) (fun q' => hb (by simp [q'])) (fun q' => hb (by simp [q'])) (fun q' => hb (by simp [q'])) q) hf⟩
  self := fun A i s Q E st h => wpAny_pyIter_zip st.1 h
def ItzN (K : PySem.W.Frag) (a b : Addr) : L2.It :=
  ⟨fun i H => ∃ (xs ys : List V) (x y : V), SqT K H a xs ∧ SqL K H b ys ∧ xs[i]? = some x ∧ ys[i]? = some y,
    fun i H v H' => ∃ T x y, v = .ref T ∧ H T = none ∧ H' = upd H T (.tup [x, y]) ∧ (∀ xs, SqT K H a xs → xs[i]? = some x) ∧ ∀ ys, SqL K H b ys → ys[i]? = some y,
    fun i H => ∃ xs ys : List V, SqT K H a xs ∧ SqL K H b ys ∧ ((xs.length ≤ i ∧ i ≤ xs.length ∧ i ≤ ys.length) ∨ (ys.length ≤ i ∧ i ≤ xs.length ∧ i ≤ ys.length))⟩
theorem turn_zipN {P : Program} {w : World} {K : PySem.W.Frag} {elts : List Expr} {kk : Nat} {tpos : Pos} {a b z TI TO i1 i2 : Addr} (D : ZipApart z TI TO i1 i2 a b) :
    Turn P w K (.Tuple elts kk tpos) (ItzN K a b) [z, TI, TO, i1, i2] z (fun i h => IsZip h z TI TO .none ∧ IsPair h TI (.ref i1) (.ref i2) ∧ (∃ x y, IsPair h TO x y) ∧ h.IsTupleIter i1 a i ∧ h.IsListIter i2 b i) where
  mem := by simp
  obj := fun i h st c hc => by
    obtain ⟨hz, hTI, ⟨x, y, hTO⟩, ⟨o1, e1, _, d1⟩, ⟨o2, e2, _, d2⟩⟩ := st
    have e' : c = z ∨ c = TI ∨ c = TO ∨ c = i1 ∨ c = i2 := by simpa using hc
    rcases e' with q | q | q | q | q
    · rw [q]; exact ⟨_, hz, fun v q => nomatch q⟩
    · rw [q]; exact ⟨_, hTI, fun v q => nomatch q⟩
    · rw [q]; exact ⟨_, hTO, fun v q => nomatch q⟩
    · rw [q]; exact ⟨o1, e1, fun v q => by rw [d1] at q; cases q⟩
    · rw [q]; exact ⟨o2, e2, fun v q => by rw [d2] at q; cases q⟩
  keep := fun i h h' st k => by
    obtain ⟨hz, hTI, ⟨x, y, hTO⟩, h1, h2⟩ := st
    exact ⟨k z (by simp) _ hz, k TI (by simp) _ hTI, ⟨x, y, k TO (by simp) _ hTO⟩, h1.at fun o q => k i1 (by simp) o q, h2.at fun o q => k i2 (by simp) o q⟩
  item := by
    intro X hP hw hK hc i pins s σ H E I hf st hg
    subst hP hw hK
    obtain ⟨hz, hTI, ⟨x0, y0, hTO⟩, h1, h2⟩ := st
    obtain ⟨xs, ys, x, y, hqx, hqy, hx, hy⟩ := hg
    obtain ⟨its, rv, p, _⟩ := I.tuple hqx
    obtain ⟨its2, rv2, p2, _⟩ := I.list hqy
    obtain ⟨u, hu, ru⟩ := rv.get hx
    obtain ⟨u2, hu2, ru2⟩ := rv2.get hy
    have hzl : z < s.heap.objs.size := Heap.lt_size hz
    have l1 : i < its.toArray.size := by simpa using (List.getElem?_eq_some_iff.mp hu).1
    have l2 : i < its2.toArray.size := by simpa using (List.getElem?_eq_some_iff.mp hu2).1
    refine wpAny_pyNext_zipD2_item (sep_of D) (Draws.tuple (A := X.A.in1) (I.ok.hd hc) i1 a D.l1i1 its.toArray) (Draws.list (A := X.A.in1) (I.ok.hd hc) i2 b D.l2i2 its2.toArray) hz hTI hTO ⟨h1, p⟩ ⟨h2, p2.isList⟩ l1 l2 fun w1 w2 h' tk hw1 hw2 z' TO' st1 st2 hT hsz hk => ?_
    obtain ⟨h1', _⟩ := st1
    obtain ⟨h2', _⟩ := st2
    have e1 : w1 = u := by
      have hy' : its[i]? = some w1 := by simpa using hw1
      rw [hu] at hy'
      exact (Option.some.inj hy').symm
    have e2 : w2 = u2 := by
      have hy' : its2[i]? = some w2 := by simpa using hw2
      rw [hu2] at hy'
      exact (Option.some.inj hy').symm
    subst e1 e2
    refine ⟨_, rfl, wpAny_letOwnedTupleGo_zip (s := { s with heap := h', toks := tk }) z' fun h'' z'' sb => ?_⟩
    have hT2 : h''.get? s.heap.objs.size = some { cls := .type "tuple", data := .seq #[w1, w2] } := (sb.2 _ (Nat.ne_of_gt hzl)).trans hT
    have new : ObjOk X.prog X.w (upd H s.heap.objs.size (.tup [x, y])) h'' s.heap.objs.size (.tup [x, y]) :=
      ⟨by show 2 ≤ sizeLine; decide, [w1, w2], .cons ru (.cons ru2 .nil), ⟨_, hT2, rfl, _, rfl⟩⟩
    have I1 : Inv X pins σ (upd H s.heap.objs.size (.tup [x, y])) { s with heap := h'', toks := tk } :=
      I.turnedNew (t' := tk) (ch := [z, TI, TO, i1, i2]) (fun c o hb q => (sb.2 c (fun q' => hb (by simp [q']))).trans (hk c o (fun q' => hb (by simp [q'])) (fun q' => hb (by simp [q'])) (fun q' => hb (by simp [q'])) (fun q' => hb (by simp [q'])) q)) hf (Nat.le_refl _) new
    refine ⟨.ref s.heap.objs.size, _, I1, rfl, ⟨_, x, y, rfl, I.hok.fresh (Nat.le_refl _), rfl, fun l hl => by rw [I.tuple_inj hl hqx]; exact hx, fun l hl => by rw [I.list_inj hl hqy]; exact hy⟩, ⟨z'', ?_, ⟨w1, w2, ?_⟩, ?_, ?_⟩, fun c hcm => ?_⟩
    · exact (sb.2 _ D.TIz).trans (hk _ _ D.TIz D.TITO D.TIi1 D.TIi2 hTI)
    · exact (sb.2 _ D.TOz).trans TO'
    · exact h1'.at fun o q => (sb.2 _ D.i1z).trans q
    · exact h2'.at fun o q => (sb.2 _ D.i2z).trans q
    · have hlt : c < s.heap.objs.size := by
        have e' : c = z ∨ c = TI ∨ c = TO ∨ c = i1 ∨ c = i2 := by simpa using hcm
        rcases e' with q | q | q | q | q
        · rw [q]; exact hzl
        · rw [q]; exact Heap.lt_size hTI
        · rw [q]; exact Heap.lt_size hTO
        · rw [q]; obtain ⟨_, e1, _⟩ := h1; exact Heap.lt_size e1
        · rw [q]; obtain ⟨_, e2, _⟩ := h2; exact Heap.lt_size e2
      rw [upd_ne (Nat.ne_of_lt hlt)]
      exact (hf c hcm).1
  done := by
    intro X hP hw hK hc i pins s σ H E I hf st hg
    subst hP hw hK
    obtain ⟨hz, hTI, ⟨x0, y0, hTO⟩, h1, h2⟩ := st
    obtain ⟨xs, ys, hqx, hqy, hend⟩ := hg
    obtain ⟨its, rv, p, _⟩ := I.tuple hqx
    obtain ⟨its2, rv2, p2, _⟩ := I.list hqy
    have l1 := rv.length
    have l2 := rv2.length
    have s1 : its.toArray.size = its.length := by simp
    have s2 : its2.toArray.size = its2.length := by simp
    refine wpAny_pyNext_zipD2_end (sep_of D) (Draws.tuple (A := X.A.in1) (I.ok.hd hc) i1 a D.l1i1 its.toArray) (Draws.list (A := X.A.in1) (I.ok.hd hc) i2 b D.l2i2 its2.toArray) hz hTI hTO ⟨h1, p⟩ ⟨h2, p2.isList⟩ (by omega) (by omega) (by omega) fun h' tk hk => ⟨rfl, I.turnedL (t' := tk) (ch := [z, TI, TO, i1, i2]) (fun c o hb q =>
      hk c o (fun q' => hb (by simp [q'])) (fun q' => hb (by simp [q'])) (fun q' => hb (by simp [q'])) (fun q' => hb (by simp [q'])) q) hf⟩
  self := fun A i s Q E st h => wpAny_pyIter_zip st.1 h
def iZipM (K : PySem.W.Frag) (ta : TA) : TI := fun σ H R => ta σ H fun vs H1 => ∃ a b xs ys, vs = [.ref a, .ref b] ∧ ((SqL K H1 a xs ∧ SqL K H1 b ys ∧ R (Itz K a b) H1) ∨ (SqT K H1 a xs ∧ SqT K H1 b ys ∧ R (RZ.ItzT K a b) H1) ∨ (SqL K H1 a xs ∧ SqT K H1 b ys ∧ R (ItzM K a b) H1) ∨ (SqT K H1 a xs ∧ SqL K H1 b ys ∧ R (ItzN K a b) H1))
theorem pi_zipM {X : Cx} {e e2 : Expr} {ta : TA} {p pos tpos : Pos} {elts : List Expr} {kk : Nat} (hg : Gl X "zip") (hm : X.mg "zip" = none) (ha : PA X [e, e2] ta)
    (hs : starEach [e, e2] X.env = (false, eval e X.env) :: starEach [e2] X.env := by rfl) (hpl : (backTo pos (starEach [e2] X.env)).any (·.1) = false := by rfl) :
    PI X (.Tuple elts kk tpos) (.Call (.Name "zip" p) [e, e2] [] pos) (iZipM X.K ta) := by
  refine ⟨fun pins s σ H R I h => ?_⟩
  refine Call_ (ld_blt I hg hm PyProof.Rows.boot_zip (PyProof.Rows.callWith_type1 (thn (ha.run pos pins s σ H _ I h) fun us s1 ⟨vs, H1, I1, r1, q1⟩ => ?_) hs hpl))
  obtain ⟨a, b, xs, ys, ex, q1⟩ := q1
  subst ex
  cases r1 with
  | cons r rr =>
    cases rr with
    | cons r' rr =>
      cases rr
      cases r
      cases r'
      have fresh5 : ∀ c, c ∈ [s1.heap.objs.size + 4, s1.heap.objs.size + 2, s1.heap.objs.size + 3, s1.heap.objs.size, s1.heap.objs.size + 1] → FpOk X pins H1 c := fun c hcm => by
        have e' : c = s1.heap.objs.size + 4 ∨ c = s1.heap.objs.size + 2 ∨ c = s1.heap.objs.size + 3 ∨ c = s1.heap.objs.size ∨ c = s1.heap.objs.size + 1 := by simpa using hcm
        have hle : s1.heap.objs.size ≤ c := by
          rcases e' with z | z | z | z | z
          · rw [z]; exact Nat.le_add_right _ _
          · rw [z]; exact Nat.le_add_right _ _
          · rw [z]; exact Nat.le_add_right _ _
          · rw [z]; exact Nat.le_refl _
          · rw [z]; exact Nat.le_add_right _ _
        exact I1.fpOk hle (I1.hok.fresh hle)
      rcases q1 with ⟨hqx, hqy, q⟩ | ⟨hqx, hqy, q⟩ | ⟨hqx, hqy, q⟩ | ⟨hqx, hqy, q⟩
      · obtain ⟨its, rv, p1, _⟩ := I1.list hqx
        obtain ⟨its2, rv2, p2, _⟩ := I1.list hqy
        refine call_zip_2 p1.isList p2.isList fun h' hz hTI hTO h1 h2 hsz hk => wpAny_pyIter_zip hz ?_
        have I2 : Inv X pins σ H1 { s1 with heap := h' } := I1.kept (t' := s1.toks) hk
        exact ⟨s1.heap.objs.size + 4, [s1.heap.objs.size + 4, s1.heap.objs.size + 2, s1.heap.objs.size + 3, s1.heap.objs.size, s1.heap.objs.size + 1], _, _, H1, rfl, I2, turn_zip (PySem.W.ktu_apart s1.heap.objs.size a b p1.lt p2.lt), ⟨hz, hTI, ⟨_, _, hTO⟩, h1, h2⟩, fresh5, q⟩
      · obtain ⟨its, rv, p1, _⟩ := I1.tuple hqx
        obtain ⟨its2, rv2, p2, _⟩ := I1.tuple hqy
        obtain ⟨o1, ho1, _⟩ := id p1
        obtain ⟨o2, ho2, _⟩ := id p2
        refine RZ.call_zipT (show s1.heap.IsTuple a its.toArray from p1) (show s1.heap.IsTuple b its2.toArray from p2) fun h' hz hTI hTO h1 h2 hsz hk => wpAny_pyIter_zip hz ?_
        have I2 : Inv X pins σ H1 { s1 with heap := h' } := I1.kept (t' := s1.toks) hk
        exact ⟨s1.heap.objs.size + 4, [s1.heap.objs.size + 4, s1.heap.objs.size + 2, s1.heap.objs.size + 3, s1.heap.objs.size, s1.heap.objs.size + 1], _, _, H1, rfl, I2, RZ.turn_zipT (PySem.W.ktu_apart s1.heap.objs.size a b (Heap.lt_size ho1) (Heap.lt_size ho2)), ⟨hz, hTI, ⟨_, _, hTO⟩, h1, h2⟩, fresh5, q⟩
      · obtain ⟨its, rv, p1, _⟩ := I1.list hqx
        obtain ⟨its2, rv2, p2, _⟩ := I1.tuple hqy
        obtain ⟨o2, ho2, _⟩ := id p2
        refine zip_begins2 (begins_list a its.toArray) (begins_tuple b its2.toArray) p1.isList p2 fun h' hz hTI hTO h1 h2 hsz hk => wpAny_pyIter_zip hz ?_
        have I2 : Inv X pins σ H1 { s1 with heap := h' } := I1.kept (t' := s1.toks) hk
        exact ⟨s1.heap.objs.size + 4, [s1.heap.objs.size + 4, s1.heap.objs.size + 2, s1.heap.objs.size + 3, s1.heap.objs.size, s1.heap.objs.size + 1], _, _, H1, rfl, I2, turn_zipM (PySem.W.ktu_apart s1.heap.objs.size a b p1.lt (Heap.lt_size ho2)), ⟨hz, hTI, ⟨_, _, hTO⟩, ⟨_, h1, rfl, rfl⟩, ⟨_, h2, rfl, rfl⟩⟩, fresh5, q⟩
      · obtain ⟨its, rv, p1, _⟩ := I1.tuple hqx
        obtain ⟨its2, rv2, p2, _⟩ := I1.list hqy
        obtain ⟨o1, ho1, _⟩ := id p1
        refine zip_begins2 (begins_tuple a its.toArray) (begins_list b its2.toArray) p1 p2.isList fun h' hz hTI hTO h1 h2 hsz hk => wpAny_pyIter_zip hz ?_
        have I2 : Inv X pins σ H1 { s1 with heap := h' } := I1.kept (t' := s1.toks) hk
        exact ⟨s1.heap.objs.size + 4, [s1.heap.objs.size + 4, s1.heap.objs.size + 2, s1.heap.objs.size + 3, s1.heap.objs.size, s1.heap.objs.size + 1], _, _, H1, rfl, I2, turn_zipN (PySem.W.ktu_apart s1.heap.objs.size a b (Heap.lt_size ho1) p2.lt), ⟨hz, hTI, ⟨_, _, hTO⟩, ⟨_, h1, rfl, rfl⟩, ⟨_, h2, rfl, rfl⟩⟩, fresh5, q⟩
end WL
set_option maxHeartbeats 2000000
namespace WL
open PySem PySem.Spec PyProof.Rows L2
def visB (sc : Scope) (x : Str) : Bool := match sc.names.lookup x with
  | some .local => true
  | some .cell => true
  | some .free => true
  | _ => false
def glB (sc : Scope) (x : Str) : Bool := match sc.names.lookup x with
  | some .globalImplicit => true
  | _ => false
def locB (sc : Scope) (fn : Str → Bool) (x : Str) : Bool := match sc.names.lookup x with
  | some .local => true
  | some .cell => fn x
  | _ => false
def okName (x : Str) : Bool := !(x == ("__debug__" : Str)) && !(x == ("__classdict__" : Str))
def okOp (op : Operator) : Bool := match op with
  | .Add | .Sub | .Mult | .Mod | .FloorDiv | .Pow => true
  | _ => false
def biName : Bi → Str
  | .len => "len"
  | .int => "int"
  | .str => "str"
  | .tuple => "tuple"
  | .list => "list"
  | .sum => "sum"
  | .min => "min"
  | .max => "max"
  | .abs => "abs"
  | .ord => "ord"
  | .sorted => "sorted"
  | .dict => "dict"
def Me.name : Me → Str
  | .join => "join"
  | .split => "split"
  | .zfill => "zfill"
  | .part => "partition"
  | .rpart => "rpartition"
  | .upper => "upper"
  | .find => "find"
  | .count => "count"
  | .get => "get"
  | .dpop => "pop"
  | .update => "update"
  | .lpop => "pop"
  | .index => "index"
  | .insert => "insert"
def Me.ar : Me → Nat → Bool
  | .upper, n => n == 0
  | .get, n => n == 1 || n == 2
  | .lpop, n => n == 0
  | .insert, n => n == 2
  | _, n => n == 1
def tyName : Ty → Str
  | .int => "int"
  | .bool => "bool"
  | .str => "str"
  | .tuple => "tuple"
  | .list => "list"
def bltNames : List Str := ["len", "int", "str", "tuple", "list", "sum", "min", "max", "abs", "bool", "isinstance", "range", "enumerate", "zip", "ValueError", "ord", "sorted", "dict"]
def plainBase : Expr → Bool
  | .Call _ (_ :: _) _ _ => true
  | .Call (.Attribute ..) [] _ _ => true
  | .Call .. => false
  | _ => true
def notSlice : Expr → Bool
  | .Slice .. => false
  | _ => true
def isNone : Expr → Bool
  | .Constant .none _ _ => true
  | _ => false
def cmpOk (op : CmpOp) (y : Expr) : Bool := !behindInMarks op y
mutual
def Tg.names : Tg → List Nat
  | .nm i => [i]
  | .tup ts => Tg.namesL ts
  | .sub _ _ => []
  | .fld _ _ _ => []
def Tg.namesL : List Tg → List Nat
  | [] => []
  | t :: ts => t.names ++ Tg.namesL ts
end
def notLk : E → Bool
  | .lock _ _ => false
  | _ => true
def plainM (M : Cfg) (f : Nat) : Bool := decide (f < M.n) && (match M.P f with
  | some fd => fd.cl.isEmpty
  | none => false)
def plainF (M : Cfg) (f : Nat) : Bool := (M.own f).isNone && plainM M f
def dfOk (M : Cfg) (f : Nat) (ds : List D) : Bool := decide (ds = (M.dv f).drop ((M.dv f).length - ds.length))
def kwOk (M : Cfg) (f : Nat) (ds : List D) : List Keyword → Bool
  | [] => true
  | [⟨some k, _, _⟩] => ds.isEmpty && decide ((M.prm f).getLast? = some k)
  | _ => false
def kwS : List Keyword → Bool
  | [] => true
  | [⟨some _, _, _⟩] => true
  | _ => false
theorem kwOk_s {M : Cfg} {f : Nat} {ds : List D} {kws : List Keyword} (h : kwOk M f ds kws = true) : kwS kws = true := by
  unfold kwOk at h
  split at h
  · rfl
  · rfl
  · cases h
def kwE (kws : List Keyword) : List Expr := kws.map (·.value)
def ownOk (M : Cfg) (c : Nat) (m : Str) (f : Nat) : Bool := decide (M.own f = some (c, m)) && plainM M f
def takesP (M : Cfg) (f : Nat) (pl : List Nat) : Bool := (decide (f < M.n) && (M.own f).isNone) && (match M.P f with
  | some fd => decide (fd.cl = pl)
  | none => false)
def takesF (M : Cfg) (f : Nat) (as : List Ar) : Bool := (decide (f < M.n) && (M.own f).isNone) && (match M.P f with
  | some fd => decide (fd.cl = fnsOf 0 as)
  | none => false)
def mFn (M : Cfg) (sc : Scope) (g : Nat) (pl : List Nat) : Expr → Bool
  | .Name y _ => takesP M g pl && decide (M.fname g = y) && glB sc y && okName y
  | _ => false
def mKeys : List Str → List (Option Expr) → Bool
  | [], [] => true
  | x :: ks, some (.Constant (.str b) _ _) :: r => decide (x = b) && mKeys ks r
  | _, _ => false
section
variable (M : Cfg) (N : List Str)
mutual
def mE (sc : Scope) (fn : Str → Bool) : E → Expr → Bool
  | .var i => fun x => match x with
    | .Name y _ => decide (N[i]? = some y) && visB sc y && okName y
    | _ => false
  | .int i => fun x => match x with
    | .Constant (.int j) _ _ => decide (i = j)
    | _ => false
  | .str a => fun x => match x with
    | .Constant (.str b) _ _ => decide (a = b)
    | _ => false
  | .bl a => fun x => match x with
    | .Constant (.bool b) _ _ => decide (a = b)
    | _ => false
  | .non => fun x => match x with
    | .Constant .none _ _ => true
    | _ => false
  | .glob g => fun x => match x with
    | .Name y _ => decide (M.gname g = y) && glB sc y && okName y
    | _ => false
  | .tup es => fun x => match x with
    | .Tuple xs _ _ => mEs sc fn es xs
    | _ => false
  | .lst es => fun x => match x with
    | .List xs _ => mEs sc fn es xs
    | _ => false
  | .bin op a b => fun x => match x with
    | .BinOp y op' z _ => decide (op = op') && okOp op && mE sc fn a y && mE sc fn b z
    | _ => false
  | .neg a => fun x => match x with
    | .UnaryOp .USub y _ => mE sc fn a y
    | _ => false
  | .not a => fun x => match x with
    | .UnaryOp .Not y _ => mE sc fn a y
    | _ => false
  | .and a b => fun x => match x with
    | .BoolOp .And (y :: z :: r) pos => mE sc fn a y && (match r with
      | [] => mE sc fn b z
      | _ :: _ => mE sc fn b (.BoolOp .And (z :: r) pos))
    | _ => false
  | .or a b => fun x => match x with
    | .BoolOp .Or (y :: z :: r) pos => mE sc fn a y && (match r with
      | [] => mE sc fn b z
      | _ :: _ => mE sc fn b (.BoolOp .Or (z :: r) pos))
    | _ => false
  | .cmp a op b => fun x => match x with
    | .Compare y [op'] [z] _ => decide (op = op') && cmpOk op z && mE sc fn a y && mE sc fn b z
    | _ => false
  | .chain a op b op2 c => fun x => match x with
    | .Compare y [op', op2'] [z, u] _ => decide (op = op') && decide (op2 = op2') && cmpOk op2 u && mE sc fn a y && mE sc fn b z && mE sc fn c u
    | _ => false
  | .ife c a b => fun x => match x with
    | .IfExp y z u _ => mE sc fn c y && mE sc fn a z && mE sc fn b u
    | _ => false
  | .ix a b => fun x => match x with
    | .Subscript y z _ => notSlice z && mE sc fn a y && mE sc fn b z
    | _ => false
  | .slice a lo hi => fun x => match x with
    | .Subscript y (.Slice l h none _) _ => mE sc fn a y && mEs sc fn lo l.toList && mEs sc fn hi h.toList
    | _ => false
  | .rev a => fun x => match x with
    | .Subscript y (.Slice none none (some (.UnaryOp .USub (.Constant (.int 1) _ _) _)) _) _ => mE sc fn a y
    | _ => false
  | .call f es => fun x => match x with
    | .Call (.Name y _) xs [] _ => (if hB ≤ f then decide (f < hB2) && M.na.contains (f - hB) && decide (N[f - hB]? = some y) && visB sc y && okName y else plainF M f && decide (M.fname f = y) && glB sc y && okName y) && mEs sc fn es xs
    | _ => false
  | .callL f as => fun x => match x with
    | .Call (.Name y _) xs [] _ => takesF M f as && decide (M.fname f = y) && glB sc y && okName y && mAs sc fn as xs
    | _ => false
  | .callG i as => fun x => match x with
    | .Call (.Name y _) xs [] _ => decide (i < hB) && M.na.contains i && decide (N[i]? = some y) && visB sc y && okName y && mAs sc fn as xs
    | _ => false
  | .bi b es => fun x => match x with
    | .Call (.Name y _) (z :: xs) [] _ => decide (biName b = y) && glB sc y && mEs sc fn es (z :: xs)
    | _ => false
  | .isi a t => fun x => match x with
    | .Call (.Name y _) [z, .Name u _] [] _ => decide (y = ("isinstance" : Str)) && glB sc y && decide (tyName t = u) && glB sc u && mE sc fn a z
    | _ => false
  | .lrg es => fun x => match x with
    | .Call (.Name y _) [.Call (.Name u _) xs [] _] [] _ => decide (y = ("list" : Str)) && glB sc y && decide (u = ("range" : Str)) && glB sc u && decide (xs.length < 3) && mEs sc fn es xs
    | _ => false
  | .trg es => fun x => match x with
    | .Call (.Name y _) [.Call (.Name u _) xs [] _] [] _ => decide (y = ("tuple" : Str)) && glB sc y && decide (u = ("range" : Str)) && glB sc u && decide (xs.length < 3) && mEs sc fn es xs
    | _ => false
  | .app o a => fun x => match x with
    | .Call (.Attribute y n p) [z] [] q => decide (n = ("append" : Str)) && plainBase y && (p.endLine == q.line) && mE sc fn o y && mE sc fn a z
    | _ => false
  | .pop o a => fun x => match x with
    | .Call (.Attribute y n p) [z] [] q => decide (n = ("pop" : Str)) && plainBase y && (p.endLine == q.line) && mE sc fn o y && mE sc fn a z
    | _ => false
  | .ext o a => fun x => match x with
    | .Call (.Attribute y n p) [z] [] q => decide (n = ("extend" : Str)) && plainBase y && (p.endLine == q.line) && mE sc fn o y && mE sc fn a z
    | _ => false
  | .lc elt tg it ifs own => fun x => match x with
    | .ListComp y gs scope _ => (match gs with
      | [⟨t, i, cs, a⟩] => decide (a = 0) && (decide (ifs.length ≤ 1) && !M.mks (relS scope sc)) && own.all (fun j => !M.na.contains j) && blkC N sc scope (own.map fun j => (N.getD j (default : Str), j)) && (Tg.names tg).all (fun j => own.contains j) &&
          mIt sc fn it t i && mTg (relS scope sc) (fun y => scope.names.lookup y == some .cell) tg t &&
          mEs (relS scope sc) (fun y => scope.names.lookup y == some .cell) ifs cs && mE (relS scope sc) (fun y => scope.names.lookup y == some .cell) elt y
      | _ => false)
    | _ => false
  | .meth m o es => fun x => match x with
    | .Call (.Attribute y n p) xs [] q => decide (n = m.name) && plainBase y && (p.endLine == q.line) && m.ar xs.length && mE sc fn o y && mEs sc fn es xs
    | _ => false
  | .dlit ks es => fun x => match x with
    | .Dict keys xs _ => !keys.isEmpty && decide (keys.length ≤ 15) && decide (ks.length = xs.length) && mKeys ks keys && mEs sc fn es xs
    | _ => false
  | .dnew => fun x => match x with
    | .Dict [] [] _ => true
    | _ => false
  | .fnc g pl => fun x => mFn M sc g pl x
  | .callD f es ds => fun x => match x with
    | .Call (.Name y _) xs kws _ => plainF M f && decide (M.fname f = y) && glB sc y && okName y && (dfOk M f ds && kwOk M f ds kws) && mEs sc fn es (xs ++ kwE kws)
    | _ => false
  | .fld o f => fun x => match x with
    | .Attribute y n _ => decide (n = f) && plainBase y && mE sc fn o y
    | _ => false
  | .new c f es ds => fun x => match x with
    | .Call (.Name y _) xs kws _ => ownOk M c "__init__" f && decide (M.cln c = y) && glB sc y && okName y && (dfOk M f ds && kwOk M f ds kws) && mEs sc fn es (xs ++ kwE kws)
    | _ => false
  | .mcall tb o es ds => fun x => match x with
    | .Call (.Attribute y n p) xs kws q => tb.all (fun u => ownOk M u.1 n u.2 && (dfOk M u.2 ds && kwOk M u.2 ds kws)) && plainBase y && (p.endLine == q.line) && decide (xs.length < 20) && mE sc fn o y && (kwS kws && mEs sc fn es (xs ++ kwE kws))
    | _ => false
  | .iso a c => fun x => match x with
    | .Call (.Name y _) [z, .Name u _] [] _ => decide (y = ("isinstance" : Str)) && glB sc y && decide (M.cln c = u) && glB sc u && okName u && decide (c < M.nob) && mE sc fn a z
    | _ => false
  | .lock _ e => fun x => match x with
    | .ListComp y gs scope p => M.na.isEmpty && mE sc fn e (.ListComp y gs scope p)
    | _ => false
def mEs (sc : Scope) (fn : Str → Bool) : List E → List Expr → Bool
  | [] => fun xs => xs.isEmpty
  | e :: es => fun xs => match xs with
    | x :: r => mE sc fn e x && mEs sc fn es r
    | [] => false
def mA (sc : Scope) (fn : Str → Bool) : Ar → Expr → Bool
  | .val e => fun x => mE sc fn e x
  | .fn g pl => fun x => mFn M sc g pl x
  | .fn2 c g h pl => fun x => match x with
    | .IfExp y z u _ => mE sc fn c y && mFn M sc g pl z && mFn M sc h pl u
    | _ => false
  | .pass i => fun x => match x with
    | .Name y _ => decide (i < hB) && M.na.contains i && decide (N[i]? = some y) && visB sc y && okName y
    | _ => false
  | .lam id caps => fun x => match x with
    | .Lambda ps body scope _ => M.mks sc && !M.mks scope && caps.all (fun j => !M.na.contains j) && M.lc id caps N sc ps body scope
    | _ => false
  | .slot i => fun x => match x with
    | .Name y _ => decide (N[i]? = some y) && visB sc y && okName y
    | _ => false
def mAs (sc : Scope) (fn : Str → Bool) : List Ar → List Expr → Bool
  | [] => fun xs => xs.isEmpty
  | e :: es => fun xs => match xs with
    | x :: r => mA sc fn e x && mAs sc fn es r
    | [] => false
def mIt (sc : Scope) (fn : Str → Bool) : It → Expr → Expr → Bool
  | .val e => fun _ x => mE sc fn e x
  | .key e => fun _ x => mE sc fn e x
  | .rng es => fun _ x => match x with
    | .Call (.Name y _) xs [] _ => decide (y = ("range" : Str)) && glB sc y && decide (xs.length = 1 ∨ xs.length = 2 ∨ xs.length = 3) && mEs sc fn es xs
    | _ => false
  | .enm e => fun t x => match t, x with
    | .Tuple .., .Call (.Name y _) [z] [] _ => decide (y = ("enumerate" : Str)) && glB sc y && mE sc fn e z
    | _, _ => false
  | .zip a b => fun t x => match t, x with
    | .Tuple .., .Call (.Name y _) [z, u] [] _ => decide (y = ("zip" : Str)) && glB sc y && mE sc fn a z && mE sc fn b u
    | _, _ => false
def mTg (sc : Scope) (fn : Str → Bool) : Tg → Expr → Bool
  | .nm i => fun x => match x with
    | .Name y _ => decide (N[i]? = some y) && locB sc fn y && !M.na.contains i
    | _ => false
  | .tup ts => fun x => match x with
    | .Tuple xs _ _ => mTgs sc fn ts xs
    | _ => false
  | .sub o i => fun x => match x with
    | .Subscript y z _ => notSlice z && mE sc fn o y && mE sc fn i z
    | _ => false
  | .fld cs o f => fun x => match x with
    | .Attribute y n _ => decide (n = f) && cs.all (fun c => M.fld c f) && mE sc fn o y
    | _ => false
def mTgs (sc : Scope) (fn : Str → Bool) : List Tg → List Expr → Bool
  | [] => fun xs => xs.isEmpty
  | e :: es => fun xs => match xs with
    | x :: r => mTg sc fn e x && mTgs sc fn es r
    | [] => false
end
end
def notStar : Expr → Bool
  | .Starred .. => false
  | _ => true
theorem star_cons {e : Expr} (h : notStar e = true) (es : List Expr) (env : PySem.Env) : starEach (e :: es) env = (false, eval e env) :: starEach es env := by
  cases e <;> first | rfl | cases h
theorem asg_cons {e : Expr} (h : notStar e = true) (es : List Expr) (env : PySem.Env) : assignEach (e :: es) env = (false, assign e env) :: assignEach es env := by
  cases e <;> first | rfl | cases h
section
variable {M : Cfg} {N : List Str} {sc : Scope} {fn : Str → Bool}
theorem mE_star : ∀ {e : E} {x : Expr}, mE M N sc fn e x = true → notStar x = true := by
  intro e x h
  cases x with
  | Starred v p => cases e <;> simp [mE, mFn] at h
  | _ => rfl
theorem mTg_star : ∀ {t : Tg} {x : Expr}, mTg M N sc fn t x = true → notStar x = true := by
  intro e x h
  cases x with
  | Starred v p => cases e <;> simp [mTg] at h
  | _ => rfl
theorem mEs_back : ∀ {es : List E} {xs : List Expr} (pos : Pos) (env : PySem.Env), mEs M N sc fn es xs = true → (backTo pos (starEach xs env)).any (·.1) = false
  | [], xs, pos, env, h => by
    cases xs with
    | nil => rfl
    | cons x r => simp [mEs] at h
  | e :: es, xs, pos, env, h => by
    cases xs with
    | nil => simp [mEs] at h
    | cons x r =>
      simp only [mEs, Bool.and_eq_true] at h
      have ih := mEs_back pos env h.2
      rw [star_cons (mE_star h.1)]
      unfold backTo at ih ⊢
      rw [List.map_cons, List.any_cons, ih]
      rfl
theorem mTgs_each : ∀ {ts : List Tg} {xs : List Expr} (env : PySem.Env), mTgs M N sc fn ts xs = true → (assignEach xs env).length = ts.length ∧ (assignEach xs env).findIdx? (·.1) = none
  | [], xs, env, h => by
    cases xs with
    | nil => exact ⟨rfl, rfl⟩
    | cons x r => simp [mTgs] at h
  | e :: es, xs, env, h => by
    cases xs with
    | nil => simp [mTgs] at h
    | cons x r =>
      simp only [mTgs, Bool.and_eq_true] at h
      obtain ⟨h1, h2⟩ := mTgs_each env h.2
      rw [asg_cons (mTg_star h.1)]
      refine ⟨by rw [List.length_cons, List.length_cons, h1], ?_⟩
      rw [List.findIdx?_cons]
      simp [h2]
theorem base_ok {y : Expr} (h : plainBase y = true) (n : Str) (env : PySem.Env) : attributeBase y n env (eval y env) = eval y env := by
  cases y with
  | Call f as ks p => cases as with
    | nil => cases f <;> first | rfl | cases h
    | cons a as => cases f <;> rfl
  | _ => rfl
theorem mFn_star {g : Nat} {pl : List Nat} {x : Expr} (h : mFn M sc g pl x = true) : notStar x = true := by
  cases x with
  | Starred v p => simp [mFn] at h
  | _ => rfl
theorem mA_star : ∀ {a : Ar} {x : Expr}, mA M N sc fn a x = true → notStar x = true := by
  intro a x h
  cases a with
  | val e => exact mE_star (e := e) (by simpa [mA] using h)
  | fn g pl => exact mFn_star (g := g) (pl := pl) (by simpa [mA] using h)
  | _ =>
    cases x with
    | Starred v p => simp [mA] at h
    | _ => rfl
theorem mAs_back : ∀ {es : List Ar} {xs : List Expr} (pos : Pos) (env : PySem.Env), mAs M N sc fn es xs = true → (backTo pos (starEach xs env)).any (·.1) = false
  | [], xs, pos, env, h => by
    cases xs with
    | nil => rfl
    | cons x r => simp [mAs] at h
  | e :: es, xs, pos, env, h => by
    cases xs with
    | nil => simp [mAs] at h
    | cons x r =>
      simp only [mAs, Bool.and_eq_true] at h
      have ih := mAs_back pos env h.2
      rw [star_cons (mA_star h.1)]
      unfold backTo at ih ⊢
      rw [List.map_cons, List.any_cons, ih]
      rfl
theorem folded_ok {it : It} {t x : Expr} (h : mIt M N sc fn it t x = true) (env : PySem.Env) (v : Value) : foldedSetIterable x env v = pure v := by
  cases x with
  | Set es k p =>
    cases it with
    | val e => cases e <;> simp [mIt, mE, mFn] at h
    | key e => cases e <;> simp [mIt, mE, mFn] at h
    | rng es => simp [mIt] at h
    | enm e => cases t <;> simp [mIt] at h
    | zip a b => cases t <;> simp [mIt] at h
  | _ => rfl
theorem ix_ok {z : Expr} (h : notSlice z = true) : PlainIx z := by
  intro o i
  cases z <;> first | rfl | cases h
end
def plainPs (a : Arguments) (ps : List Str) : Bool := a.posonlyargs.isEmpty && decide (a.args.map (·.arg) = ps) && a.vararg.isNone && a.kwonlyargs.isEmpty && a.kw_defaults.isEmpty && a.kwarg.isNone && a.defaults.isEmpty
def psOf (a : Arguments) : List Str := a.args.map (·.arg)
def capN (N : List Str) (caps : List Nat) : List Str := caps.map fun j => N.getD j (default : Str)
def lamN (N : List Str) (caps : List Nat) (a : Arguments) : List Str := psOf a ++ capN N caps
def lamOk (M : Cfg) (id : Nat) (caps : List Nat) (N : List Str) (sc : Scope) (a : Arguments) (body : Expr) (scope : Scope) : Bool :=
  decide (M.n ≤ id) && decide (id < hB) && plainPs a (psOf a) && decide (psOf a).Nodup && (psOf a).all okName && caps.all (fun j => decide (j < N.length)) && NdefX.nscB (lamN N caps a) (psOf a) (capN N caps) scope &&
    (capN N caps).all (fun y => decide (sc.names.lookup y = some .cell)) && (match M.P id with
    | some ⟨np, nv, [.ret e], []⟩ => decide (np = (lamN N caps a).length) && decide (nv = np) && mE M (lamN N caps a) scope (fun _ => false) e body
    | _ => false)
end WL
set_option maxHeartbeats 4000000
namespace WL
open PySem PySem.Spec PyProof.Rows L2
variable [TBS]
abbrev pinO (o : Obj) : HO := .frz o (.ext fun _ => True)
def LamAt (M : Cfg) (K : PySem.W.Frag) (H : Hp) (ra : List Addr) (id : Nat) (cs : List D) (v : V) : Prop :=
  ∃ (f c' : Addr) (q : Str) (ps : Arguments) (body : Expr) (scope sc : Scope) (cl : List (Str × Addr)) (pm ctv : Value) (N : List Str) (caps : List Nat),
    v = .ref f ∧ H f = some (pinO (PySem.W.kla_obj "<lambda>" q ps body scope cl pm c' ctv)) ∧ H c' = some (LamX.CodeO c' q) ∧ M.lc id caps N sc ps body scope = true ∧
    (∀ x y c, cl.lookup x = some c → cl.lookup y = some c → x = y) ∧ (∀ y ∈ scope.names, y.2 = .free → ∃ c, cl.lookup y.1 = some c) ∧ (∀ y c, cl.lookup y = some c → ∃ o u, H c = some (pinO o) ∧ o.data = .cell u) ∧
    cs.length = caps.length ∧ ∀ (j : Nat) (d : D) (y : Str) (c : Addr), cs[j]? = some d → (capN N caps)[j]? = some y → cl.lookup y = some c → ∃ o u x, H c = some (pinO o) ∧ o.data = .cell (some u) ∧ RelV x u ∧ RepV K H ra d x
def CloV (M : Cfg) (mg : Str → Option Value) (K : PySem.W.Frag) (H : Hp) (ra : List Addr) (d : D) (v : V) : Prop :=
  (∃ id cs, d = cloD id cs ∧ ((cs = [] ∧ plainF M id = true ∧ ∃ a, v = .ref a ∧ mg (M.fname id) = some (.ref a)) ∨ LamAt M K H ra id cs v)) ∨
  ∃ id pl a, d = cloL id pl ∧ takesP M id pl = true ∧ v = .ref a ∧ mg (M.fname id) = some (.ref a)
theorem LamAt.keep {M : Cfg} {K : PySem.W.Frag} {H H' : Hp} {ra rb : List Addr} {id : Nat} {cs : List D} {v : V} (k : Keeps H H') (p : ra <+: rb) (h : LamAt M K H ra id cs v) : LamAt M K H' rb id cs v := by
  obtain ⟨f, c', q, ps, body, scope, sc, cl, pm, ctv, N, caps, h1, h2, h3, h4, h5, h6, h7, h8, h9⟩ := h
  refine ⟨f, c', q, ps, body, scope, sc, cl, pm, ctv, N, caps, h1, k.1 _ _ h2 rfl, k.1 _ _ h3 rfl, h4, h5, h6, fun y c e => ?_, h8, fun j d y c e1 e2 e3 => ?_⟩
  · obtain ⟨o, u, a, b⟩ := h7 y c e
    exact ⟨o, u, k.1 _ _ a rfl, b⟩
  · obtain ⟨o, u, x, a, b, r, z⟩ := h9 j d y c e1 e2 e3
    exact ⟨o, u, x, k.1 _ _ a rfl, b, r, RepV.keep k p d x z⟩
theorem CloV.keep {M : Cfg} {mg : Str → Option Value} {K : PySem.W.Frag} {H H' : Hp} {ra rb : List Addr} {d : D} {v : V} (k : Keeps H H') (p : ra <+: rb) (h : CloV M mg K H ra d v) : CloV M mg K H' rb d v := by
  rcases h with ⟨id, cs, e, h | h⟩ | h
  · exact .inl ⟨id, cs, e, .inl h⟩
  · exact .inl ⟨id, cs, e, .inr (h.keep k p)⟩
  · exact .inr h
def RepAs (M : Cfg) (mg : Str → Option Value) (cl : List Nat) (K : PySem.W.Frag) (H : Hp) (ra : List Addr) (ds : List D) (vs : List V) : Prop :=
  vs.length = ds.length ∧ ∀ (i : Nat) (d : D) (v : V), ds[i]? = some d → vs[i]? = some v → if i ∈ cl then CloV M mg K H ra d v else RepV K H ra d v
theorem RepL.of_get {K : PySem.W.Frag} {H : Hp} {ra : List Addr} : ∀ {ds : List D} {vs : List V}, vs.length = ds.length → (∀ (i : Nat) (d : D) (v : V), ds[i]? = some d → vs[i]? = some v → RepV K H ra d v) → RepL K H ra ds vs
  | [], vs, h, _ => List.eq_nil_of_length_eq_zero h
  | d :: ds, [], h, _ => by cases h
  | d :: ds, v :: vs, h, g => ⟨v, vs, rfl, g 0 d v rfl rfl, RepL.of_get (by simpa using h) fun i d' v' e1 e2 => g (i + 1) d' v' (by simpa using e1) (by simpa using e2)⟩
theorem RepAs.lst {M : Cfg} {mg : Str → Option Value} {K : PySem.W.Frag} {H : Hp} {ra : List Addr} {ds : List D} {vs : List V} (h : RepAs M mg [] K H ra ds vs) : RepL K H ra ds vs :=
  RepL.of_get h.1 fun i d v e1 e2 => by
    have := h.2 i d v e1 e2
    rwa [if_neg (by simp)] at this
theorem RepAs.of {M : Cfg} {mg : Str → Option Value} {K : PySem.W.Frag} {H : Hp} {ra : List Addr} {ds : List D} {vs : List V} (h : RepL K H ra ds vs) : RepAs M mg [] K H ra ds vs := by
  refine ⟨RepL.length ds vs h, fun i d v e1 e2 => ?_⟩
  rw [if_neg (by simp)]
  obtain ⟨v', g, r⟩ := RepL.get ds vs i d h e1
  rw [e2] at g
  cases g
  exact r
def clsF (M : Cfg) (f : Nat) : List Nat := match M.P f with
  | some fd => fd.cl
  | none => []
theorem plainM_cls {M : Cfg} {f : Nat} (h : plainM M f = true) : clsF M f = [] ∧ f < M.n ∧ ∃ fd, M.P f = some fd := by
  unfold plainM at h
  unfold clsF
  rw [Bool.and_eq_true, decide_eq_true_eq] at h
  cases q : M.P f with
  | none =>
    rw [q] at h
    cases h.2
  | some fd =>
    rw [q] at h
    exact ⟨List.isEmpty_iff.mp h.2, h.1, fd, rfl⟩
theorem plain_cls {M : Cfg} {f : Nat} (h : plainF M f = true) : clsF M f = [] ∧ f < M.n ∧ ∃ fd, M.P f = some fd := by
  unfold plainF at h
  rw [Bool.and_eq_true] at h
  exact plainM_cls h.2
theorem plain_own {M : Cfg} {f : Nat} (h : plainF M f = true) : M.own f = none := by
  unfold plainF at h
  rw [Bool.and_eq_true] at h
  exact Option.isNone_iff_eq_none.mp h.1
theorem takes_own {M : Cfg} {f : Nat} {pl : List Nat} (h : takesP M f pl = true) : M.own f = none := by
  unfold takesP at h
  rw [Bool.and_eq_true, Bool.and_eq_true] at h
  exact Option.isNone_iff_eq_none.mp h.1.2
theorem takesF_own {M : Cfg} {f : Nat} {as : List Ar} (h : takesF M f as = true) : M.own f = none := by
  unfold takesF at h
  rw [Bool.and_eq_true, Bool.and_eq_true] at h
  exact Option.isNone_iff_eq_none.mp h.1.2
def spF (M : Cfg) (mg : Str → Option Value) (K : PySem.W.Frag) (k f : Nat) : Sp := fun vs H Q E => ∃ ra ds s, SRel K H ra s ∧ RepAs M mg (clsF M f) K H ra ds vs ∧
  PostR M mg K (fun cls d _ H' => E cls d H') [] (RepV K) H ra (callF M.P M.G M.F k f ds s) Q
def LamsOk (M : Cfg) (prog : Program) (w : World) (K : PySem.W.Frag) (mg : Str → Option Value) (base : Heap) (k : Nat) : Prop :=
  ∀ (A : Around) (outer : List PySem.Env) (s : Shared) (H : Hp) (ra : List Addr) (id : Nat) (cs : List D) (f : Addr) (us : List Value) (vs : List V) (ds : List D) (s0 : Store) (Q : VK) (E : XK),
    Room (2 * k + 2) A → Env0 prog w K mg base A outer s H → LamAt M K H ra id cs (.ref f) → Vals vs us → SRel K H ra s0 → RepL K H ra ds vs →
      PostR M mg K (fun cls d _ H' => E cls d H') [] (RepV K) H ra (callF M.P M.G M.F k id (ds ++ cs) s0) Q → codeAny (model prog w) A (.call (.ref f) ⟨us, []⟩) (CR (L2.CX prog w) outer prog w H s Q E) s
def Cfg.bare (M : Cfg) : Cfg := { M with lc := fun _ _ _ _ _ _ _ => false, na := [], mks := fun _ => false }
def Cfg.wna (M : Cfg) (l : List Nat) : Cfg := { M with na := l }
def spInit (K : PySem.W.Frag) : Sp := fun vs H Q _ => ∃ (a C : Addr) (y : V), vs = [.ref a, y] ∧ OexC K C ∧ PySem.W.findIn K (.ref C) "what" = some none ∧ H a = some (exo a C none) ∧
  ∀ d, H d = none → d ≠ a → Q .non (upd (upd H d (exd d [("what", y)])) a (exo a C (some d)))
structure XF (prog : Program) (w : World) (K : PySem.W.Frag) (mg : Str → Option Value) (base : Heap) (C : Addr) : Prop where
  oex : OexC K C
  ini : ∃ (fI : Addr) (fd : FuncData), PySem.W.findIn K (.ref C) "__init__" = some (some (.ref fI)) ∧ PySem.W.typeIn K (.ref fI) = some (.type "function") ∧ Binds K fd ["self", "what"] [] ∧ FnOk prog w K mg base (L2.CX prog w) 1 fI fd ["self", "what"] (spInit K)
  no : PySem.W.findIn K (.ref C) "what" = some none
  ga : PySem.W.findIn K (.ref C) "__getattribute__" = some (some (.builtin "BaseException.__getattribute__"))
  gg : PySem.W.findIn K (.ref C) "__getattr__" = some none
  hd : PySem.W.hasDictIn K C = true
  cc : PySem.W.findIn K (.ref C) "__class__" = some (some (.builtin "object.__class__"))
  hn : PySem.W.specialIn K (.builtin "object.__class__") "__get__" = some (some (.builtin "getset_descriptor.__get__"))
  ht : PySem.W.takesIn K (.builtin "object.__class__") = some true
  hm : PySem.W.mroIn K C (.type "object") = some true
  ve : PySem.W.kitOne K (.ref C) (.type "ValueError") = some true
def Maker (X : Cx) : Prop := (∀ x c, X.env.cells.lookup x = some c → X.s_0.heap.objs.size ≤ c) ∧ ∃ c P, X.env.code = .ref c ∧ LamX.TabB X.base X.mg c P ∧ (P, X.env.qual ++ "<lambda>") ∈ TBS.T ∧ ∀ p ∈ TBS.T, p.1 = P → p.2 = X.env.qual ++ "<lambda>"
structure ClsAt (M : Cfg) (K : PySem.W.Frag) (mg : Str → Option Value) (c : Nat) (C : Addr) : Prop where
  cls : Cls K C
  mak : PySem.W.makesIn K C = true
  kp : PySem.W.keepIn K (.ref C) = true
  at_ : mg (M.cln c) = some (.ref C)
  fld : ∀ f, M.fld c f = true → TBS.nf C f
  ins : C8.InsC K C
structure Stat (M : Cfg) (prog : Program) (w : World) (K : PySem.W.Frag) (mg : Str → Option Value) (base : Heap) (k : Nat) : Prop where
  blt : ∀ x ∈ bltNames, mg x = none
  glob : ∀ g d, M.G g = some d → ∃ v u, mg (M.gname g) = some u ∧ RelV v u ∧ ∀ H ra, RepV K H ra d v
  fns : ∀ f fd, M.P f = some fd → f < M.n → ∃ (a : Addr) (fdat : FuncData) (ps : List Str), ((M.own f = none → mg (M.fname f) = some (.ref a)) ∧ ∀ c m, M.own f = some (c, m) → ∃ C, TBS.cl c C ∧ Meth K C m a) ∧ PySem.W.keepIn K (.ref a) = true ∧
    ((∀ ds, dfOk M f ds = true → ∃ vs us, Vals vs us ∧ (∀ H ra, RepL K H ra ds vs) ∧ Binds K fdat ps us) ∧ ∀ x, (M.prm f).getLast? = some x → ∀ (s : Shared) (us : List Value) (v : Value), K.In s.heap → us.length + 1 = ps.length → BindsTo s fdat ⟨us, [(x, v)]⟩ (ps.zip (us ++ [v]))) ∧ FnOk prog w K mg base (L2.CX prog w) (2 * k + 2) a fdat ps (spF M mg K k f)
  obs : ∀ c C, TBS.cl c C → ClsAt M K mg c C
  exi : ∀ c, c < M.nob → ∃ C, TBS.cl c C
  one : ∀ c C C', TBS.cl c C → TBS.cl c C' → C = C'
  nfs : ∀ C f, TBS.nf C f → NoAttr K C f
  exc : ∀ (c : Nat) (x : Str), M.cls[c]? = some x → ∃ C, mg x = some (.ref C) ∧ XF prog w K mg base C
  rel : ∀ (c : Nat) (x : Str) (c2 : Nat) (x2 : Str) (C C2 : Addr), M.cls[c]? = some x → M.cls[c2]? = some x2 → mg x = some (.ref C) → mg x2 = some (.ref C2) → PySem.W.exmOne K (.ref C) (.ref C2) = some (decide (c = c2)) ∧ PySem.W.kitOne K (.ref C) (.ref C2) = some (decide (c = c2))
  bas : ∃ B, mg M.base = some (.ref B) ∧ ∀ (c : Nat) (x : Str) (C : Addr), M.cls[c]? = some x → mg x = some (.ref C) → PySem.W.exmOne K (.ref C) (.ref B) = some true ∧ PySem.W.kitOne K (.ref C) (.ref B) = some true
  lam : LamsOk M prog w K mg base k
  lco : ∀ id caps N sc ps body scope, M.lc id caps N sc ps body scope = true → lamOk M.bare id caps N sc ps body scope = true
  far : ∀ f, M.P (f + hB) = none
  low : M.n ≤ hB
  gds : GdOk K w
  fnr : ∀ (g : Nat) (pl : List Nat) (a : Addr), TBS.fn g pl a ↔ takesP M g pl = true ∧ mg (M.fname g) = some (.ref a)
theorem dfOk_nil {M : Cfg} {f : Nat} : dfOk M f [] = true := by
  unfold dfOk
  simp
theorem Stat.fnp {M : Cfg} {prog : Program} {w : World} {K : PySem.W.Frag} {mg : Str → Option Value} {base : Heap} {k : Nat} (h : Stat M prog w K mg base k) (f : Nat) (fd : FD) (hf : M.P f = some fd) (hn : f < M.n) (ho : M.own f = none) :
    ∃ (a : Addr) (fdat : FuncData) (ps : List Str), mg (M.fname f) = some (.ref a) ∧ PySem.W.keepIn K (.ref a) = true ∧ Binds K fdat ps [] ∧ FnOk prog w K mg base (L2.CX prog w) (2 * k + 2) a fdat ps (spF M mg K k f) := by
  obtain ⟨a, fdat, ps, h1, h2, h3, h4⟩ := h.fns f fd hf hn
  obtain ⟨vs, us, hv, hr, hb⟩ := h3.1 [] dfOk_nil
  have e : vs = [] := hr (fun _ => none) []
  subst e
  cases hv
  exact ⟨a, fdat, ps, h1.1 ho, h2, hb, h4⟩
variable [CLO]
structure Good (M : Cfg) (N : List Str) (X : Cx) (W : WX) (k : Nat) (sc : Scope) (fn : Str → Bool) : Prop where
  esc : X.env.scope = sc
  eN : X.N = N
  nd : N.Nodup
  efn : X.fn = fn
  calm : X.calm = true
  knd : sc.kind = .function
  tk : Takes X W
  hr : Room (2 * k + 3) X.A
  st : Stat M X.prog X.w X.K X.mg X.base k
  mkr : M.mks sc = true → Maker X
  stl : ∀ j, j ≤ k → Stat M X.prog X.w X.K X.mg X.base j
  gna : ∀ p ∈ CLO.Γ, M.na.contains p.1 = true
  gnb : ∀ i, M.na.contains i = true → ∃ p ∈ CLO.Γ, p.1 = i
  gV : ∀ (H : Hp) (ra : List Addr) (d : D) (v : V), CLO.V X.K H ra d v → CloV M X.mg X.K H ra d v
def evT (C : Calls) (G : Globs) (e : E) (ρ : Env) (s : Store) : R Bool := (evE C G e ρ s).bind fun d s1 => match truth s1 d with
  | some b => .ok b s1
  | none => .bad
abbrev Cfg.C (M : Cfg) (k : Nat) : Calls := cloC CLO.Γ (callF M.P M.G M.F k)
theorem Good.off {M : Cfg} {N : List Str} {X : Cx} {W : WX} {k : Nat} {sc : Scope} {fn : Str → Bool} (g : Good M N X W k sc fn) {i : Nat} (h : M.na.contains i = false) : Off i := fun p hp e => by
  have := g.gna p hp
  rw [e, h] at this
  cases this
section
variable {M : Cfg} {N : List Str} {X : Cx} {W : WX} {k : Nat} {sc : Scope} {fn : Str → Bool}
theorem vis_ok {x : Str} (h : visB sc x = true) (g : Good M N X W k sc fn) : Vis X.env.scope x := by
  rw [g.esc]
  unfold visB at h
  split at h
  · exact .inl (by assumption)
  · exact .inr (.inl (by assumption))
  · exact .inr (.inr (by assumption))
  · cases h
theorem gl_ok {x : Str} (h : glB sc x = true) (g : Good M N X W k sc fn) : Gl X x := by
  show X.env.scope.names.lookup x = some .globalImplicit
  rw [g.esc]
  unfold glB at h
  split at h
  · assumption
  · cases h
theorem loc_ok {x : Str} (h : locB sc fn x = true) (g : Good M N X W k sc fn) : Loc X.env.scope x ∧ (X.fn x = true ∨ X.env.scope.names.lookup x = some .local) := by
  rw [g.esc, g.efn]
  unfold locB at h
  split at h
  · exact ⟨.inl (by assumption), .inr (by assumption)⟩
  · exact ⟨.inr (by assumption), .inl h⟩
  · cases h
theorem okName_ok {x : Str} (h : okName x = true) : (x == ("__debug__" : Str)) = false ∧ (x == ("__classdict__" : Str)) = false := by
  unfold okName at h
  simpa using h
theorem Good.blt (g : Good M N X W k sc fn) {x : Str} (h : x ∈ bltNames) : X.mg x = none := g.st.blt x h
theorem pt_gen {x : Expr} {f : Env → Store → R D} (h : PE X x (tE M X W f)) (he : ∀ whole, isTrue x X.env whole = (do let v ← whole; standAt x.pos; holding [v] (truthy v))) :
    PT X x (tT M X W fun ρ s => (f ρ s).bind fun d s1 => match truth s1 d with
      | some b => .ok b s1
      | none => .bad) := by
  refine PT.sub (pt_truth h he) fun σ H Q ⟨ra, ρ, s, e, r, p⟩ => tE_bind e r p fun x H1 a s1 r1 _ _ e1 R1 rp q => ?_
  split at q
  · rename_i b hb
    exact ⟨b, truth_of R1 rp hb, q.fin R1 rfl⟩
  · exact q.elim
theorem Gl.of_mem {x : Str} (g : Good M N X W k sc fn) (hg : glB sc x = true) : Gl X x := gl_ok hg g
theorem ref_lst {K : PySem.W.Frag} {H : Hp} {ra : List Addr} {s : Store} (R : SRel K H ra s) {n : Nat} {v : V} {l : List D} (h : RepV K H ra (.ref n) v) (e : isLst s n = some l) :
    ∃ a vs, v = .ref a ∧ ra[n]? = some a ∧ H a = some (.lst vs) ∧ RepL K H ra l vs := by
  obtain ⟨a, vs, ea, hv, r⟩ := R.lst e
  obtain ⟨a', ea', e'⟩ := h
  rw [ea] at ea'
  cases ea'
  exact ⟨a, vs, e', ea, hv, r⟩
theorem PostR.setFin {σ : L2.St} {H : Hp} {ra : List Addr} {s : Store} {n : Nat} {a : Addr} {l l0 : List D} {vs : List V} {d : D} {v : V} {Q : VK} (p : PostR M X.mg X.K W σ (RepV X.K) H ra (.ok d (s.set n (.lst l))) Q) (R : SRel X.K H ra s)
    (en : isLst s n = some l0) (ea : ra[n]? = some a) (r : RepL X.K H ra l vs) (rd : RepV X.K H ra d v) : Q v (upd H a (.lst vs)) := by
  obtain ⟨R2, k2⟩ := R.setL en ea r
  exact p v ra _ k2 (List.prefix_refl _) R2 (RepV.keep k2 (List.prefix_refl _) d v rd)
def biVal : Bi → Value
  | .len => .builtin "len"
  | .int => .type "int"
  | .str => .type "str"
  | .tuple => .type "tuple"
  | .list => .type "list"
  | .sum => .builtin "sum"
  | .min => .builtin "min"
  | .max => .builtin "max"
  | .abs => .builtin "abs"
  | .ord => .builtin "ord"
  | .sorted => .builtin "sorted"
  | .dict => .type "dict"
theorem pe_bi (b : Bi) {r : List V → Hp → VK → Prop} {p pos : Pos} {z : Expr} {xs : List Expr} {t : TA} (hc : CallR X (biVal b) r) (hg : Gl X (biName b)) (hm : X.mg (biName b) = none) (ha : PA X (z :: xs) t)
    (he : starEach (z :: xs) X.env = (false, eval z X.env) :: starEach xs X.env) (hpl : (backTo pos (starEach xs X.env)).any (·.1) = false) : PE X (.Call (.Name (biName b) p) (z :: xs) [] pos) (tCB r t) := by
  cases b with
  | len => exact pe_callB hc hg hm (by decide +kernel) ha (by decide) (by decide) he hpl
  | int => exact pe_callTy hc hg hm (by decide +kernel) ha (by decide) (by decide) he hpl
  | str => exact pe_callTy hc hg hm (by decide +kernel) ha (by decide) (by decide) he hpl
  | tuple => exact pe_callTy hc hg hm (by decide +kernel) ha (by decide) (by decide) he hpl
  | list => exact pe_callTy hc hg hm (by decide +kernel) ha (by decide) (by decide) he hpl
  | sum => exact pe_callB hc hg hm (by decide +kernel) ha (by decide) (by decide) he hpl
  | min => exact pe_callB hc hg hm (by decide +kernel) ha (by decide) (by decide) he hpl
  | max => exact pe_callB hc hg hm (by decide +kernel) ha (by decide) (by decide) he hpl
  | abs => exact pe_callB hc hg hm (by decide +kernel) ha (by decide) (by decide) he hpl
  | ord => exact pe_callB hc hg hm (by decide +kernel) ha (by decide) (by decide) he hpl
  | sorted => exact pe_callB hc hg hm (by decide +kernel) ha (by decide) (by decide) he hpl
  | dict => exact pe_callTy hc hg hm (by decide +kernel) ha (by decide) (by decide) he hpl
def BiR (M : Cfg) (X : Cx) (b : Bi) : Prop := ∃ r : List V → Hp → VK → Prop, CallR X (biVal b) r ∧
  ∀ (W : WX) (σ : L2.St) (H : Hp) (ra : List Addr) (s : Store) (ds : List D) (vs : List V) (Q : VK), SRel X.K H ra s → RepL X.K H ra ds vs → PostR M X.mg X.K W σ (RepV X.K) H ra (biD b ds s) Q → r vs H Q
theorem one_of {K : PySem.W.Frag} {H : Hp} {ra : List Addr} {d : D} {vs : List V} (h : RepL K H ra [d] vs) : ∃ v, vs = [v] ∧ RepV K H ra d v := by
  obtain ⟨v, r, rfl, h1, h2⟩ := h
  rw [show r = [] from h2]
  exact ⟨v, rfl, h1⟩
theorem two_of {K : PySem.W.Frag} {H : Hp} {ra : List Addr} {d e : D} {vs : List V} (h : RepL K H ra [d, e] vs) : ∃ v u, vs = [v, u] ∧ RepV K H ra d v ∧ RepV K H ra e u := by
  obtain ⟨v, r, rfl, h1, h2⟩ := h
  obtain ⟨u, rfl, h3⟩ := one_of h2
  exact ⟨v, u, rfl, h1, h3⟩
theorem ltCps_iff : ∀ (a b : List Nat), ltCps a b = decide (a < b)
  | [], [] => by simp [ltCps]
  | [], _ :: _ => by simp [ltCps]
  | _ :: _, [] => by simp [ltCps]
  | x :: a, y :: b => by
    rw [ltCps, ltCps_iff a b, Bool.eq_iff_iff]
    simp [List.cons_lt_cons_iff]
def leS (a b : Str) : Prop := ¬ b.cps.toList < a.cps.toList
theorem leS_trans {a b c : Str} (h : leS a b) (h2 : leS b c) : leS a c := fun z => by
  have h : a.cps.toList ≤ b.cps.toList := h
  have h2 : b.cps.toList ≤ c.cps.toList := h2
  exact (List.le_trans h h2) z
theorem leS_anti {a b : Str} (h : leS a b) (h2 : leS b a) : a = b := by
  have h : a.cps.toList ≤ b.cps.toList := h
  have h2 : b.cps.toList ≤ a.cps.toList := h2
  have e := List.le_antisymm h h2
  obtain ⟨⟨x⟩⟩ := a
  obtain ⟨⟨y⟩⟩ := b
  have e : x = y := e
  rw [e]
theorem ins_perm (x : Str) : ∀ l : List Str, (insS x l).Perm (x :: l)
  | [] => List.Perm.refl _
  | y :: r => by
    unfold insS
    split
    · exact ((ins_perm x r).cons y).trans (List.Perm.swap x y r)
    · exact List.Perm.refl _
theorem sort_perm : ∀ l : List Str, (sortS l).Perm l
  | [] => List.Perm.refl _
  | x :: r => (ins_perm x (sortS r)).trans ((sort_perm r).cons x)
theorem ins_pair (x : Str) : ∀ l : List Str, l.Pairwise leS → (insS x l).Pairwise leS
  | [], _ => List.pairwise_singleton _ _
  | y :: r, h => by
    obtain ⟨h1, h2⟩ := List.pairwise_cons.mp h
    unfold insS
    split
    · rename_i c
      refine List.pairwise_cons.mpr ⟨fun z hz => ?_, ins_pair x r h2⟩
      rcases List.mem_cons.mp ((ins_perm x r).mem_iff.mp hz) with rfl | q
      · exact fun w => by
          have h : y.cps.toList ≤ z.cps.toList := List.le_of_lt c
          exact h w
      · exact h1 z q
    · rename_i c
      refine List.pairwise_cons.mpr ⟨fun z hz => ?_, h⟩
      rcases List.mem_cons.mp hz with rfl | q
      · exact c
      · exact leS_trans c (h1 z q)
theorem sort_pair : ∀ l : List Str, (sortS l).Pairwise leS
  | [] => List.Pairwise.nil
  | x :: r => ins_pair x _ (sort_pair r)
theorem rising_pair : ∀ (p : Str) (l : List Str), risingS p l = true → (p :: l).Pairwise leS
  | p, [], _ => List.pairwise_singleton _ _
  | p, x :: r, h => by
    have h : (!ltCps x.cps.toList p.cps.toList && risingS x r) = true := h
    rw [Bool.and_eq_true, ltCps_iff] at h
    have ih := rising_pair x r h.2
    have hx : leS p x := by simpa [leS] using h.1
    refine List.pairwise_cons.mpr ⟨fun z hz => ?_, ih⟩
    rcases List.mem_cons.mp hz with rfl | q
    · exact hx
    · exact leS_trans hx ((List.pairwise_cons.mp ih).1 z q)
theorem sorted_eq {ys xs : List Str} (h : ys.Perm xs) (hs : sortedS ys = true) : ys = sortS xs := by
  refine List.Perm.eq_of_pairwise (le := leS) (fun a b _ _ => leS_anti) ?_ (sort_pair xs) (h.trans (sort_perm xs).symm)
  cases ys with
  | nil => exact List.Pairwise.nil
  | cons y r => exact rising_pair y r hs
theorem RepL.strsF {K : PySem.W.Frag} {H : Hp} {ra : List Addr} : ∀ xs : List Str, RepL K H ra (xs.map .str) (xs.map V.str)
  | [] => rfl
  | x :: xs => ⟨.str x, _, rfl, rfl, RepL.strsF xs⟩
theorem RepL.strsOf {K : PySem.W.Frag} {H : Hp} {ra : List Addr} : ∀ (l : List D) (vs : List V) (xs : List Str), RepL K H ra l vs → strsOf l = some xs → vs = xs.map V.str
  | [], vs, xs, h, e => by
    rw [show vs = [] from h]
    simp [WL.strsOf] at e
    subst e
    rfl
  | d :: ds, vs, xs, h, e => by
    obtain ⟨v, r, e', h1, h2⟩ := h
    subst e'
    cases d with
    | str i =>
      simp only [WL.strsOf, Option.map_eq_some_iff] at e
      obtain ⟨ms, em, rfl⟩ := e
      rw [RepL.strsOf ds r ms h2 em, show v = .str i from h1]
      rfl
    | _ => simp [WL.strsOf] at e
theorem keysS_map : ∀ {l : List (L2.Key × D)} {xs : List Str}, keysS l = some xs → l.map (·.1) = xs.map Sum.inr
  | [], xs, e => by
    simp [keysS] at e
    subst e
    rfl
  | (.inr x, d) :: r, xs, e => by
    simp only [keysS, Option.map_eq_some_iff] at e
    obtain ⟨ms, em, rfl⟩ := e
    rw [List.map_cons, List.map_cons, keysS_map em]
  | (.inl i, d) :: r, xs, e => by simp [keysS] at e
theorem ref_dct {K : PySem.W.Frag} {H : Hp} {ra : List Addr} {s : Store} (R : SRel K H ra s) {n : Nat} {v : V} {l : List (L2.Key × D)} (h : RepV K H ra (.ref n) v) (e : isDct s n = some l) :
    ∃ a vs, v = .ref a ∧ ra[n]? = some a ∧ H a = some (.dK vs) ∧ RepM K H ra l vs := by
  obtain ⟨a, vs, ea, hv, r⟩ := R.dct e
  obtain ⟨a', ea', e'⟩ := h
  rw [ea] at ea'
  cases ea'
  exact ⟨a, vs, e', ea, hv, r⟩
theorem PostR.finD {σ : L2.St} {H : Hp} {ra : List Addr} {s : Store} {l : List (L2.Key × D)} {vs : List (L2.Key × V)} {Q : VK} (p : PostR M X.mg X.K W σ (RepV X.K) H ra (newDct l s) Q) (r : SRel X.K H ra s) (h : RepM X.K H ra l vs) :
    ∀ q, H q = none → Q (.ref q) (upd H q (.dK vs)) := fun q hq =>
  p (.ref q) (ra ++ [q]) _ (Keeps.new hq) (List.prefix_append _ _) (r.newD hq h) ⟨q, by
    rw [← r.len, List.getElem?_append_right (Nat.le_refl _)]
    simp, rfl⟩
theorem PostR.setFinD {σ : L2.St} {H : Hp} {ra : List Addr} {s : Store} {n : Nat} {a : Addr} {l l0 : List (L2.Key × D)} {vs : List (L2.Key × V)} {d : D} {v : V} {Q : VK} (p : PostR M X.mg X.K W σ (RepV X.K) H ra (.ok d (s.set n (.dct l))) Q) (R : SRel X.K H ra s)
    (en : isDct s n = some l0) (ea : ra[n]? = some a) (r : RepM X.K H ra l vs) (rd : RepV X.K H ra d v) : Q v (upd H a (.dK vs)) := by
  obtain ⟨R2, k2⟩ := R.setD en ea r
  exact p v ra _ k2 (List.prefix_refl _) R2 (RepV.keep k2 (List.prefix_refl _) d v rd)
theorem bi_ord : BiR M X .ord := by
  refine ⟨_, call_ord, fun W σ H ra s ds vs Q R rs p => ?_⟩
  unfold biD at p
  split at p <;> first | (exact p.elim) | skip
  all_goals (first | (rename_i h; cases h; done) | skip)
  · obtain ⟨v, rfl, rv⟩ := one_of rs
    split at p
    · rename_i h
      exact ⟨_, by rw [show v = .str _ from rv], h, p.fin R rfl⟩
    · exact p.elim
abbrev lePD (a b : Str × D × V) : Prop := leS a.1 b.1
def insZ (x : Str × D × V) : List (Str × D × V) → List (Str × D × V)
  | [] => [x]
  | y :: r => if y.1.cps.toList < x.1.cps.toList then y :: insZ x r else x :: y :: r
def sortZ : List (Str × D × V) → List (Str × D × V)
  | [] => []
  | x :: r => insZ x (sortZ r)
theorem insZ_perm (x : Str × D × V) : ∀ l : List (Str × D × V), (insZ x l).Perm (x :: l)
  | [] => List.Perm.refl _
  | y :: r => by
    unfold insZ
    split
    · exact ((insZ_perm x r).cons y).trans (List.Perm.swap x y r)
    · exact List.Perm.refl _
theorem sortZ_perm : ∀ l : List (Str × D × V), (sortZ l).Perm l
  | [] => List.Perm.refl _
  | x :: r => (insZ_perm x (sortZ r)).trans ((sortZ_perm r).cons x)
theorem insZ_pair (x : Str × D × V) : ∀ l : List (Str × D × V), l.Pairwise lePD → (insZ x l).Pairwise lePD
  | [], _ => List.pairwise_singleton _ _
  | y :: r, h => by
    obtain ⟨h1, h2⟩ := List.pairwise_cons.mp h
    unfold insZ
    split
    · rename_i c
      refine List.pairwise_cons.mpr ⟨fun z hz => ?_, insZ_pair x r h2⟩
      rcases List.mem_cons.mp ((insZ_perm x r).mem_iff.mp hz) with rfl | q
      · exact fun w => by
          have h : y.1.cps.toList ≤ z.1.cps.toList := List.le_of_lt c
          exact h w
      · exact h1 z q
    · rename_i c
      refine List.pairwise_cons.mpr ⟨fun z hz => ?_, h⟩
      rcases List.mem_cons.mp hz with rfl | q
      · exact c
      · exact leS_trans c (h1 z q)
theorem sortZ_pair : ∀ l : List (Str × D × V), (sortZ l).Pairwise lePD
  | [] => List.Pairwise.nil
  | x :: r => insZ_pair x _ (sortZ_pair r)
def z2 (p : Str × D × V) : Str × D := (p.1, p.2.1)
theorem insZ_z2 (x : Str × D × V) : ∀ l : List (Str × D × V), (insZ x l).map z2 = insP (z2 x) (l.map z2)
  | [] => rfl
  | y :: r => by
    unfold insZ
    rw [List.map_cons]
    unfold insP
    show List.map z2 (if y.1.cps.toList < x.1.cps.toList then _ else _) = if y.1.cps.toList < x.1.cps.toList then _ else _
    split
    · rw [List.map_cons, insZ_z2 x r]
    · rfl
theorem sortZ_z2 : ∀ l : List (Str × D × V), (sortZ l).map z2 = sortP (l.map z2)
  | [] => rfl
  | x :: r => by
    show (insZ x (sortZ r)).map z2 = insP (z2 x) (sortP (r.map z2))
    rw [insZ_z2, sortZ_z2 r]
theorem pairs_rep {K : PySem.W.Frag} {H : Hp} {ra : List Addr} : ∀ {l : List D} {vs : List V} {ps : List (Str × D)}, RepL K H ra l vs → pairsOf l = some ps → ∃ zs : List (Str × D × V), zs.map z2 = ps ∧ zs.map (·.2.2) = vs ∧ ∀ z ∈ zs, RepV K H ra (.tup [.str z.1, z.2.1]) z.2.2
  | [], vs, ps, h, e => by
    rw [show vs = [] from h]
    cases e
    exact ⟨[], rfl, rfl, fun z hz => nomatch hz⟩
  | d :: ds, vs, ps, h, e => by
    obtain ⟨v, r, rfl, h1, h2⟩ := h
    cases d with
    | tup q =>
      match q, e, h1 with
      | [.str x, w], e, h1 =>
        simp only [pairsOf, Option.map_eq_some_iff] at e
        obtain ⟨ms, em, rfl⟩ := e
        obtain ⟨zs, g1, g2, g3⟩ := pairs_rep h2 em
        refine ⟨(x, w, v) :: zs, by rw [List.map_cons, g1]; rfl, by rw [List.map_cons, g2], fun z hz => ?_⟩
        rcases List.mem_cons.mp hz with rfl | hz
        · exact h1
        · exact g3 z hz
    | _ => cases e
theorem rep_of_all {K : PySem.W.Frag} {H : Hp} {ra : List Addr} : ∀ {zs : List (Str × D × V)}, (∀ z ∈ zs, RepV K H ra (.tup [.str z.1, z.2.1]) z.2.2) → RepL K H ra (zs.map fun z => .tup [.str z.1, z.2.1]) (zs.map (·.2.2))
  | [], _ => rfl
  | z :: zs, h => ⟨z.2.2, _, rfl, h z (by simp), rep_of_all fun y hy => h y (List.mem_cons_of_mem _ hy)⟩
theorem insN_perm (x : Int) : ∀ l : List Int, (insN x l).Perm (x :: l)
  | [] => List.Perm.refl _
  | y :: r => by
    unfold insN
    split
    · exact ((insN_perm x r).cons y).trans (List.Perm.swap x y r)
    · exact List.Perm.refl _
theorem sortN_perm : ∀ l : List Int, (sortN l).Perm l
  | [] => List.Perm.refl _
  | x :: r => (insN_perm x (sortN r)).trans ((sortN_perm r).cons x)
theorem insN_pair (x : Int) : ∀ l : List Int, l.Pairwise (· ≤ ·) → (insN x l).Pairwise (· ≤ ·)
  | [], _ => List.pairwise_singleton _ _
  | y :: r, h => by
    obtain ⟨h1, h2⟩ := List.pairwise_cons.mp h
    unfold insN
    split
    · rename_i c
      refine List.pairwise_cons.mpr ⟨fun z hz => ?_, insN_pair x r h2⟩
      rcases List.mem_cons.mp ((insN_perm x r).mem_iff.mp hz) with rfl | q
      · omega
      · exact h1 z q
    · rename_i c
      refine List.pairwise_cons.mpr ⟨fun z hz => ?_, h⟩
      rcases List.mem_cons.mp hz with rfl | q
      · omega
      · have := h1 z q
        omega
theorem sortN_pair : ∀ l : List Int, (sortN l).Pairwise (· ≤ ·)
  | [] => List.Pairwise.nil
  | x :: r => insN_pair x _ (sortN_pair r)
theorem sortN_eq {ys xs : List Int} (h : ys.Perm xs) (hs : ys.Pairwise (· ≤ ·)) : ys = sortN xs :=
  List.Perm.eq_of_pairwise (le := (· ≤ ·)) (fun a b _ _ h1 h2 => by omega) hs (sortN_pair xs) (h.trans (sortN_perm xs).symm)
theorem keysN_map : ∀ {l : List (L2.Key × D)} {xs : List Int}, keysN l = some xs → l.map (·.1) = xs.map Sum.inl
  | [], xs, e => by
    simp [keysN] at e
    subst e
    rfl
  | (.inl x, d) :: r, xs, e => by
    simp only [keysN, Option.map_eq_some_iff] at e
    obtain ⟨ms, em, rfl⟩ := e
    rw [List.map_cons, List.map_cons, keysN_map em]
  | (.inr i, d) :: r, xs, e => by simp [keysN] at e
theorem bi_sorted (hc : X.calm = true) : BiR M X .sorted := by
  refine ⟨_, CallR.or (CallR.or (CallR.or cr_sortedS (call_sortedD hc)) cr_sortedTP) (CallR.or cr_sortedI (call_sortedDI hc)), fun W σ H ra s ds vs Q R rs p => ?_⟩
  unfold biD at p
  split at p <;> first | (exact p.elim) | skip
  all_goals (first | (rename_i h; cases h; done) | skip)
  · obtain ⟨v, rfl, rv⟩ := one_of rs
    split at p
    · rename_i l hl
      split at p
      · rename_i xs hx
        split at p
        · rename_i h64
          obtain ⟨a, vs, rfl, ea, hv, r⟩ := ref_lst R rv hl
          have e := RepL.strsOf l vs xs r hx
          subst e
          refine .inl (.inl (.inl ⟨a, xs, rfl, SqL.of hv, h64, fun ys p' hp hs hn => ?_⟩))
          rw [sorted_eq hp hs]
          exact (PostR.finL p R (RepL.strsF (sortS xs))).2 p' hn
        · exact p.elim
      · split at p
        · rename_i ns hn2
          obtain ⟨a, vs, rfl, ea, hv, r⟩ := ref_lst R rv hl
          have e := RepL.intsOf l vs ns r hn2
          subst e
          refine .inr (.inl ⟨a, ns, rfl, SqL.of hv, fun ys p' hp hs hn => ?_⟩)
          rw [sortN_eq hp hs]
          exact (PostR.finL p R (RepL.intsF (sortN ns))).2 p' hn
        · exact p.elim
    · split at p
      · rename_i l hl
        split at p
        · rename_i xs hx
          split at p
          · rename_i h64
            obtain ⟨a, vs, rfl, ea, hv, r⟩ := ref_dct R rv hl
            refine .inl (.inl (.inr ⟨a, vs, xs, rfl, .inl hv, by rw [r.1, keysS_map hx], h64, fun ys p' hp hs hn => ?_⟩))
            rw [sorted_eq hp hs]
            exact (PostR.finL p R (RepL.strsF (sortS xs))).2 p' hn
          · exact p.elim
        · split at p
          · rename_i ns hx
            split at p
            · rename_i h64
              obtain ⟨a, vs, rfl, ea, hv, r⟩ := ref_dct R rv hl
              refine .inr (.inr ⟨a, vs, ns, rfl, .inl hv, by rw [r.1, keysN_map hx], h64, fun ys p' hp hs hn => ?_⟩)
              rw [sortN_eq hp hs]
              exact (PostR.finL p R (RepL.intsF (sortN ns))).2 p' hn
            · exact p.elim
          · exact p.elim
      · exact p.elim
  · rename_i l
    obtain ⟨v, rfl, rv⟩ := one_of rs
    split at p
    · rename_i ps hps
      split at p
      · rename_i hc2
        obtain ⟨a, xs, rfl, sq, rl⟩ := rv
        obtain ⟨zs, g1, g2, g3⟩ := pairs_rep rl hps
        have nd : (zs.map (·.1)).Nodup := by
          have := hc2.2
          rw [← g1, List.map_map] at this
          exact this
        refine .inl (.inr ⟨a, zs.map (fun z => (z.1, z.2.2)), rfl, by rw [List.map_map]; exact (show zs.map ((fun x : Str × V => x.2) ∘ fun z : Str × D × V => (z.1, z.2.2)) = xs from g2) ▸ sq, fun z hz => ?_, by rw [List.map_map]; exact nd, fun ys p' hp hs hn => ?_⟩)
        · obtain ⟨y, hy, rfl⟩ := List.mem_map.mp hz
          obtain ⟨t, ws, e, sq2, rw2⟩ := g3 y hy
          obtain ⟨w1, r1, rfl, e1, w2, r2, rfl, _, e3⟩ := rw2
          rw [show w1 = .str y.1 from e1, show r2 = [] from e3] at sq2
          exact ⟨t, w2, e, sq2⟩
        · have nd2 : ((zs.map fun z => (z.1, z.2.2)).map (·.1)).Nodup := by rw [List.map_map]; exact nd
          have e : ys = (sortZ zs).map fun z => (z.1, z.2.2) := by
            refine List.Perm.eq_of_pairwise (le := fun a b : Str × V => leS a.1 b.1) (fun x y hx hy h1 h2 => ?_) hs ?_ (hp.trans ((sortZ_perm zs).map _).symm)
            · have hy2 : y ∈ zs.map fun z => (z.1, z.2.2) := ((sortZ_perm zs).map _).mem_iff.mp hy
              exact nodup_fst nd2 x (hp.mem_iff.mp hx) y hy2 (leS_anti h1 h2)
            · rw [List.pairwise_map]
              exact sortZ_pair zs
          rw [e, List.map_map]
          have hr : RepL X.K H ra ((sortP ps).map fun p => .tup [.str p.1, p.2]) ((sortZ zs).map ((fun x : Str × V => x.2) ∘ fun z : Str × D × V => (z.1, z.2.2))) := by
            have w := rep_of_all (zs := sortZ zs) fun z hz => g3 z ((sortZ_perm zs).mem_iff.mp hz)
            have w2 : ((sortZ zs).map fun z => D.tup [.str z.1, z.2.1]) = (sortP ps).map fun p => .tup [.str p.1, p.2] := by
              rw [← g1, ← sortZ_z2, List.map_map]
              rfl
            rw [w2] at w
            exact w
          exact (PostR.finL p R hr).2 p' hn
      · exact p.elim
    · exact p.elim
theorem bi_dict : BiR M X .dict := by
  refine ⟨_, call_dictD, fun W σ H ra s ds vs Q R rs p => ?_⟩
  unfold biD at p
  split at p <;> first | (exact p.elim) | skip
  all_goals (first | (rename_i h; cases h; done) | skip)
  · obtain ⟨v, rfl, rv⟩ := one_of rs
    split at p
    · rename_i l hl
      obtain ⟨a, vs, rfl, ea, hv, r⟩ := ref_dct R rv hl
      exact ⟨a, vs, rfl, .inl hv, PostR.finD p R r⟩
    · exact p.elim
theorem bi_len : BiR M X .len := by
  refine ⟨_, CallR.or call_len call_lenD, fun W σ H ra s ds vs Q R rs p => ?_⟩
  unfold biD at p
  split at p <;> first | (exact p.elim) | skip
  all_goals (first | (rename_i h; cases h; done) | skip)
  · rename_i x _
    obtain ⟨v, rfl, rv⟩ := one_of rs
    split at p
    · rename_i hx
      exact .inl ⟨v, x.length, rfl, by rw [show v = .str x from rv]; exact ⟨hx, rfl⟩, p.fin R rfl⟩
    · exact p.elim
  · rename_i d hd
    obtain ⟨v, rfl, rv⟩ := one_of rs
    split at p
    · rename_i l hl
      obtain ⟨a, xs, rfl, sq, r⟩ := items_rep R rv hl
      have e := RepL.length l xs r
      refine .inl ⟨.ref a, xs.length, rfl, ?_, by rw [e]; exact p.fin R rfl⟩
      rcases sq with sq | sq
      · exact .inl ⟨xs, sq, rfl⟩
      · exact .inr ⟨xs, sq, rfl⟩
    · split at p
      · split at p
        · rename_i l hl
          obtain ⟨a, vs, rfl, ea, hv, r⟩ := ref_dct R rv hl
          exact .inr ⟨a, vs, rfl, hv, by rw [r.length]; exact p.fin R rfl⟩
        · exact p.elim
      · exact p.elim
theorem bi_int : BiR M X .int := by
  refine ⟨_, CallR.or call_int1 call_int_str, fun W σ H ra s ds vs Q R rs p => ?_⟩
  unfold biD at p
  split at p <;> first | (exact p.elim) | skip
  all_goals (first | (rename_i h; cases h; done) | skip)
  · obtain ⟨v, rfl, rv⟩ := one_of rs
    exact .inl (.inl ⟨_, by rw [show v = .int _ from rv], p.fin R rfl⟩)
  · obtain ⟨v, rfl, rv⟩ := one_of rs
    exact .inl (.inr ⟨_, by rw [show v = .bl _ from rv], p.fin R rfl⟩)
  · obtain ⟨v, rfl, rv⟩ := one_of rs
    split at p
    · rename_i n hn
      split at p
      · rename_i h
        exact .inr ⟨_, n, by rw [show v = .str _ from rv], hn, h, p.fin R rfl⟩
      · exact p.elim
    · exact p.elim
theorem bi_str : BiR M X .str := by
  refine ⟨_, CallR.or call_str_int SkE.call_str_str, fun W σ H ra s ds vs Q R rs p => ?_⟩
  unfold biD at p
  split at p <;> first | (exact p.elim) | skip
  all_goals (first | (rename_i h; cases h; done) | skip)
  · obtain ⟨v, rfl, rv⟩ := one_of rs
    exact .inr ⟨_, by rw [show v = .str _ from rv], p.fin R rfl⟩
  · obtain ⟨v, rfl, rv⟩ := one_of rs
    split at p
    · rename_i h
      exact .inl ⟨_, by rw [show v = .int _ from rv], h, p.fin R rfl⟩
    · exact p.elim
theorem bi_tuple : BiR M X .tuple := by
  refine ⟨_, call_tuple_of, fun W σ H ra s ds vs Q R rs p => ?_⟩
  unfold biD at p
  split at p <;> first | (exact p.elim) | skip
  all_goals (first | (rename_i h; cases h; done) | skip)
  · obtain ⟨v, rfl, rv⟩ := one_of rs
    split at p
    · rename_i l hl
      obtain ⟨a, xs, rfl, sq, r⟩ := items_rep R rv hl
      refine ⟨a, xs, rfl, ?_⟩
      rcases sq with sq | sq
      · exact .inl ⟨sq, PostR.finT p R r⟩
      · exact .inr ⟨sq, p.fin R ⟨a, xs, rfl, sq, r⟩⟩
    · exact p.elim
theorem bi_list : BiR M X .list := by
  refine ⟨_, call_list_of, fun W σ H ra s ds vs Q R rs p => ?_⟩
  unfold biD at p
  split at p <;> first | (exact p.elim) | skip
  all_goals (first | (rename_i h; cases h; done) | skip)
  · obtain ⟨v, rfl, rv⟩ := one_of rs
    split at p
    · rename_i l hl
      obtain ⟨a, xs, rfl, sq, r⟩ := items_rep R rv hl
      exact ⟨a, xs, rfl, sq, (PostR.finL p R r).2⟩
    · exact p.elim
theorem bi_sum (hc : X.calm = true) : BiR M X .sum := by
  refine ⟨_, cr_sum hc, fun W σ H ra s ds vs Q R rs p => ?_⟩
  unfold biD at p
  split at p <;> first | (exact p.elim) | skip
  all_goals (first | (rename_i h; cases h; done) | skip)
  · obtain ⟨v, rfl, rv⟩ := one_of rs
    split at p
    · rename_i l hl
      split at p
      · rename_i ns hn
        obtain ⟨a, xs, rfl, ea, hv, r⟩ := ref_lst R rv hl
        exact ⟨a, ns, rfl, by rw [← RepL.intsOf l xs ns r hn]; exact SqL.of hv, p.fin R rfl⟩
      · exact p.elim
    · exact p.elim
theorem bi_min (hc : X.calm = true) : BiR M X .min := by
  refine ⟨_, call_min2 hc, fun W σ H ra s ds vs Q R rs p => ?_⟩
  unfold biD at p
  split at p <;> first | (exact p.elim) | skip
  all_goals (first | (rename_i h; cases h; done) | skip)
  · obtain ⟨v, u, rfl, rv, ru⟩ := two_of rs
    exact ⟨_, _, by rw [show v = .int _ from rv, show u = .int _ from ru], p.fin R rfl⟩
theorem bi_max (hc : X.calm = true) : BiR M X .max := by
  refine ⟨_, call_max2 hc, fun W σ H ra s ds vs Q R rs p => ?_⟩
  unfold biD at p
  split at p <;> first | (exact p.elim) | skip
  all_goals (first | (rename_i h; cases h; done) | skip)
  · obtain ⟨v, u, rfl, rv, ru⟩ := two_of rs
    exact ⟨_, _, by rw [show v = .int _ from rv, show u = .int _ from ru], p.fin R rfl⟩
theorem bi_abs : BiR M X .abs := by
  refine ⟨_, call_abs, fun W σ H ra s ds vs Q R rs p => ?_⟩
  unfold biD at p
  split at p <;> first | (exact p.elim) | skip
  all_goals (first | (rename_i h; cases h; done) | skip)
  · obtain ⟨v, rfl, rv⟩ := one_of rs
    exact ⟨_, by rw [show v = .int _ from rv], p.fin R rfl⟩
theorem bi_all (hc : X.calm = true) (b : Bi) : BiR M X b := by
  cases b with
  | len => exact bi_len
  | ord => exact bi_ord
  | sorted => exact bi_sorted hc
  | dict => exact bi_dict
  | int => exact bi_int
  | str => exact bi_str
  | tuple => exact bi_tuple
  | list => exact bi_list
  | sum => exact bi_sum hc
  | min => exact bi_min hc
  | max => exact bi_max hc
  | abs => exact bi_abs
def tyOf : Ty → String
  | .int => "int"
  | .bool => "bool"
  | .str => "str"
  | .tuple => "tuple"
  | .list => "list"
theorem isi_of {H : Hp} {ra : List Addr} {s : Store} {d : D} {v : V} {t : Ty} {b : Bool} (R : SRel X.K H ra s) (rv : RepV X.K H ra d v) (e : isiD s d t = some b) : ∃ u, TyX X.K H v (.type u) ∧ PySem.W.kitOne X.K (.type u) (.type (tyOf t)) = some b := by
  cases d with
  | non =>
    cases e
    rw [show v = .non from rv]
    exact ⟨_, .base .non, by cases t <;> exact kit_ty (by decide +kernel)⟩
  | bl c =>
    cases e
    rw [show v = .bl c from rv]
    exact ⟨_, .base (.bl c), by cases t <;> exact kit_ty (by decide +kernel)⟩
  | int c =>
    cases e
    rw [show v = .int c from rv]
    exact ⟨_, .base (.int c), by cases t <;> exact kit_ty (by decide +kernel)⟩
  | str c =>
    cases e
    rw [show v = .str c from rv]
    exact ⟨_, .base (.str c), by cases t <;> exact kit_ty (by decide +kernel)⟩
  | tup l =>
    cases e
    obtain ⟨a, vs, rfl, sq, r⟩ := rv
    refine ⟨"tuple", ?_, by cases t <;> exact kit_ty (by decide +kernel)⟩
    rcases sq with (h | ⟨o, h⟩) | ⟨o, its, n, h, hc, _⟩
    · exact .base (.tup h)
    · exact .fTuple h
    · exact .kTuple h hc
  | ref n =>
    simp only [isiD, Option.map_eq_some_iff] at e
    obtain ⟨l, hl, rfl⟩ := e
    obtain ⟨a, vs, rfl, ea, hv, r⟩ := ref_lst R rv hl
    exact ⟨_, .base (.lst hv), by cases t <;> exact kit_ty (by decide +kernel)⟩
  | gd ks vs => cases e
  | fnv g pl => cases e
  | frz l => cases e
theorem small_ok {i : Int} (h : small i = true) : -(2 ^ 62) ≤ i ∧ i < 2 ^ 62 := by
  simpa [small] using h
theorem rng_rep {K : PySem.W.Frag} {H : Hp} {ra : List Addr} (a b : Int) : RepL K H ra (rngL a b) (rgV a b) := by
  unfold rngL rgV
  generalize List.range (b - a).toNat = l
  induction l with
  | nil => rfl
  | cons i r ih => exact ⟨.int (a + i), _, rfl, rfl, ih⟩
theorem rngL_length (a b : Int) : (rngL a b).length = (b - a).toNat := by
  unfold rngL
  rw [List.length_map, List.length_range]
end
end WL
set_option maxHeartbeats 4000000
namespace WL
open PySem PySem.Spec PyProof.Rows L2
variable [TBS]
noncomputable def trk (S : Addr → Prop) (h : Heap) (H : Hp) : Hp := open Classical in fun b => if S b then (match h.get? b with
  | some o => some (pinO o)
  | none => none) else H b
noncomputable def unt (S : Addr → Prop) (H : Hp) : Hp := open Classical in fun b => if S b then none else H b
noncomputable def ret (S : Addr → Prop) (H H' : Hp) : Hp := open Classical in fun b => if S b then H b else H' b
section
variable {S : Addr → Prop} {h : Heap} {H H' : Hp} {b : Addr}
theorem trk_in (hb : S b) {o : Obj} (e : h.get? b = some o) : trk S h H b = some (pinO o) := by
  unfold trk
  rw [if_pos hb, e]
theorem trk_out (hb : ¬ S b) : trk S h H b = H b := by
  unfold trk
  rw [if_neg hb]
theorem unt_in (hb : S b) : unt S H b = none := by
  unfold unt
  rw [if_pos hb]
theorem unt_out (hb : ¬ S b) : unt S H b = H b := by
  unfold unt
  rw [if_neg hb]
theorem ret_in (hb : S b) : ret S H H' b = H b := by
  unfold ret
  rw [if_pos hb]
theorem ret_out (hb : ¬ S b) : ret S H H' b = H' b := by
  unfold ret
  rw [if_neg hb]
end
section
variable {P : Program} {w : World} {K : PySem.W.Frag} {mg : Str → Option Value} {base : Heap} {A : Around} {outer : List PySem.Env} {s s' : Shared} {H H' H2 : Hp} {S : Addr → Prop}
theorem pin_ok {h : Heap} {b : Addr} {o : Obj} (e : h.get? b = some o) : ObjOk P w H h b (pinO o) := ⟨e, trivial, ⟨o, e⟩, fun _ _ _ _ => trivial⟩
theorem hok_same {h : Heap} {b : Addr} {u : HO} (x : ObjOk P w H h b u) (h1 : ∀ c a, H c = some (.own a) → H' c = some (.own a)) (h2 : ∀ c xs, H c = some (.tup xs) → H' c = some (.tup xs)) : ObjOk P w H' h b u :=
  x.stay (fun _ _ _ e => e) (fun c => h1 c b) h2
theorem trk_env (e0 : Env0 P w K mg base A outer s H) (hS : ∀ b, S b → (∃ o, s.heap.get? b = some o) ∧ H b = none ∧ b ∉ frs outer ∧ base.get? b = none) : Env0 P w K mg base A outer s (trk S s.heap H) := by
  refine ⟨e0.frames, e0.mod, fun b o e => ⟨(e0.bs b o e).1, ?_⟩, e0.bsz, e0.funs, fun b hb => ?_, fun b u e => ?_, e0.bare⟩
  · rw [trk_out (fun z => by rw [(hS b z).2.2.2] at e; cases e)]
    exact (e0.bs b o e).2
  · rw [trk_out (fun z => (hS b z).2.2.1 hb)]
    exact e0.frf b hb
  · by_cases hb : S b
    · obtain ⟨o, ho⟩ := (hS b hb).1
      rw [trk_in hb ho] at e
      cases e
      exact pin_ok ho
    · rw [trk_out hb] at e
      refine hok_same (e0.hok b u e) (fun c a q => ?_) (fun c xs q => ?_)
      · rw [trk_out (fun z => by rw [(hS c z).2.1] at q; cases q)]
        exact q
      · rw [trk_out (fun z => by rw [(hS c z).2.1] at q; cases q)]
        exact q
theorem unt_hok {B : Heap} (hok : HOk P w H' B) (hS : ∀ b, S b → ∃ o, H' b = some (pinO o)) : HOk P w (unt S H') B := fun b u e => by
  by_cases hb : S b
  · rw [unt_in hb] at e
    cases e
  · rw [unt_out hb] at e
    refine hok_same (hok b u e) (fun c a q => ?_) (fun c xs q => ?_)
    · rw [unt_out (fun z => by obtain ⟨o, ho⟩ := hS c z; rw [ho] at q; cases q)]
      exact q
    · rw [unt_out (fun z => by obtain ⟨o, ho⟩ := hS c z; rw [ho] at q; cases q)]
      exact q
theorem trk_un (hS : ∀ b, S b → (∃ o, s.heap.get? b = some o) ∧ H b = none ∧ b ∉ frs outer ∧ base.get? b = none) {fs : List Addr} {B h' : Heap} (un : Un fs [] (trk S s.heap H) H' s.heap h') (hok : HOk P w H' h') : Un fs [] H (unt S H') s.heap h' := by
  have pin : ∀ b, S b → ∃ o, s.heap.get? b = some o ∧ H' b = some (pinO o) := fun b hb => by
    obtain ⟨o, ho⟩ := (hS b hb).1
    exact ⟨o, ho, un.frzs b o _ (trk_in hb ho)⟩
  refine ⟨fun b o e n h1 h2 => ?_, fun b o e n h1 h2 => ?_, fun b o e n h2 => ?_, un.there, fun b xs e => ?_, fun b o u e => ?_, fun b ps e => ?_⟩
  · by_cases hb : S b
    · obtain ⟨o', e', q⟩ := pin b hb
      rw [e] at e'
      cases e'
      exact (hok b _ q).1
    · exact un.keep b o e (by rw [trk_out hb]; exact n) h1 h2
  · by_cases hb : S b
    · obtain ⟨o', e', q⟩ := pin b hb
      rw [e] at e'
      cases e'
      exact ⟨o.slots, (hok b _ q).1⟩
    · exact un.slot b o e (by rw [trk_out hb]; exact n) h1 h2
  · by_cases hb : S b
    · exact unt_in hb
    · rw [unt_out hb]
      exact un.free b o e (by rw [trk_out hb]; exact n) h2
  · have hb : ¬ S b := fun z => by rw [(hS b z).2.1] at e; cases e
    rw [unt_out hb]
    exact un.tups b xs (by rw [trk_out hb]; exact e)
  · have hb : ¬ S b := fun z => by rw [(hS b z).2.1] at e; cases e
    rw [unt_out hb]
    exact un.frzs b o u (by rw [trk_out hb]; exact e)
  · have hb : ¬ S b := fun z => by rw [(hS b z).2.1] at e; cases e
    rw [unt_out hb]
    exact un.tbls b ps (by rw [trk_out hb]; exact e)
theorem trk_ub (hS : ∀ b, S b → (∃ o, s.heap.get? b = some o) ∧ H b = none ∧ b ∉ frs outer ∧ base.get? b = none) {fs : List Addr} {B h' : Heap} (un : UB fs (trk S s.heap H) H' s.heap B h') (hok : HOk P w H' B) : UB fs H (unt S H') s.heap B h' := by
  have pin : ∀ b, S b → ∃ o, s.heap.get? b = some o ∧ H' b = some (pinO o) := fun b hb => by
    obtain ⟨o, ho⟩ := (hS b hb).1
    exact ⟨o, ho, un.frzs b o _ (trk_in hb ho)⟩
  refine ⟨fun b o e n h1 => ?_, un.slot, fun b o e n => ?_, un.there, fun b xs e => ?_, fun b o u e => ?_, fun b ps e => ?_⟩
  · by_cases hb : S b
    · obtain ⟨o', e', q⟩ := pin b hb
      rw [e] at e'
      cases e'
      exact (hok b _ q).1
    · exact un.keep b o e (by rw [trk_out hb]; exact n) h1
  · by_cases hb : S b
    · exact unt_in hb
    · rw [unt_out hb]
      exact un.free b o e (by rw [trk_out hb]; exact n)
  · have hb : ¬ S b := fun z => by rw [(hS b z).2.1] at e; cases e
    rw [unt_out hb]
    exact un.tups b xs (by rw [trk_out hb]; exact e)
  · have hb : ¬ S b := fun z => by rw [(hS b z).2.1] at e; cases e
    rw [unt_out hb]
    exact un.frzs b o u (by rw [trk_out hb]; exact e)
  · have hb : ¬ S b := fun z => by rw [(hS b z).2.1] at e; cases e
    rw [unt_out hb]
    exact un.tbls b ps (by rw [trk_out hb]; exact e)
theorem trk_cr {Q Q' : VK} {E E' : XK} {r : Result} (hS : ∀ b, S b → (∃ o, s.heap.get? b = some o) ∧ H b = none ∧ b ∉ frs outer ∧ base.get? b = none)
    (hQ : ∀ v H', Q' v H' → Q v (unt S H')) (hE : ∀ cls d H', E' cls d H' → E cls d (unt S H')) (c : CR (L2.CX P w) outer P w (trk S s.heap H) s Q' E' r s') : CR (L2.CX P w) outer P w H s Q E r s' := by
  have pins : ∀ {H' : Hp}, (∀ b o u, trk S s.heap H b = some (.frz o u) → H' b = some (.frz o u)) → ∀ b, S b → ∃ o, H' b = some (pinO o) := fun {H'} z b hb => by
    obtain ⟨o, ho⟩ := (hS b hb).1
    exact ⟨o, z b o _ (trk_in hb ho)⟩
  cases r with
  | error e =>
    obtain ⟨a, B, H', cls, d, rfl, fl, hok, ub, na, os, ag, q⟩ := c
    refine ⟨a, B, unt S H', cls, d, rfl, fl, unt_hok hok (pins ub.frzs), trk_ub hS ub hok, ?_, os, ag, hE _ _ _ q⟩
    by_cases hb : S a
    · exact unt_in hb
    · rw [unt_out hb]
      exact na
  | ok fl =>
    cases fl with
    | ret u =>
      obtain ⟨v, H', os, ag, un, hok, rv, q⟩ := c
      exact ⟨v, unt S H', os, ag, trk_un (B := s.heap) hS un hok, unt_hok hok (pins un.frzs), rv, hQ _ _ q⟩
    | next => exact False.elim c
    | brk => exact False.elim c
    | cont => exact False.elim c
theorem unt_env (e0 : Env0 P w K mg base A outer s H) (hS : ∀ b, S b → ∃ o, H b = some (pinO o)) : Env0 P w K mg base A outer s (unt S H) := by
  refine ⟨e0.frames, e0.mod, fun b o e => ⟨(e0.bs b o e).1, ?_⟩, e0.bsz, e0.funs, fun b hb => ?_, unt_hok e0.hok hS, e0.bare⟩
  · by_cases hb : S b
    · exact unt_in hb
    · rw [unt_out hb]
      exact (e0.bs b o e).2
  · by_cases hb2 : S b
    · exact unt_in hb2
    · rw [unt_out hb2]
      exact e0.frf b hb
theorem ret_hok {B : Heap} (hok : HOk P w H' B) (hS : ∀ b, S b → ∃ o, H b = some (pinO o) ∧ B.get? b = some o) (hn : ∀ b, S b → H' b = none) : HOk P w (ret S H H') B := fun b u e => by
  by_cases hb : S b
  · rw [ret_in hb] at e
    obtain ⟨o, h1, h2⟩ := hS b hb
    rw [h1] at e
    cases e
    exact pin_ok h2
  · rw [ret_out hb] at e
    refine hok_same (hok b u e) (fun c a q => ?_) (fun c xs q => ?_)
    · rw [ret_out (fun z => by rw [hn c z] at q; cases q)]
      exact q
    · rw [ret_out (fun z => by rw [hn c z] at q; cases q)]
      exact q
theorem ret_un {fs : List Addr} {h h' : Heap} (hS : ∀ b, S b → ∃ o, H b = some (pinO o) ∧ h.get? b = some o) (un : Un fs [] (unt S H) H' h h') : Un fs [] H (ret S H H') h h' := by
  have out : ∀ {b}, H b = none → ¬ S b := fun {b} n z => by
    obtain ⟨o, e, _⟩ := hS b z
    rw [n] at e
    cases e
  refine ⟨fun b o e n h1 h2 => un.keep b o e (by rw [unt_out (out n)]; exact n) h1 h2, fun b o e n h1 h2 => un.slot b o e (by rw [unt_out (out n)]; exact n) h1 h2, fun b o e n h2 => ?_, un.there, fun b xs e => ?_, fun b o u e => ?_, fun b ps e => ?_⟩
  · rw [ret_out (out n)]
    exact un.free b o e (by rw [unt_out (out n)]; exact n) h2
  · have hb : ¬ S b := fun z => by obtain ⟨o, q, _⟩ := hS b z; rw [e] at q; cases q
    rw [ret_out hb]
    exact un.tups b xs (by rw [unt_out hb]; exact e)
  · by_cases hb : S b
    · rw [ret_in hb]
      exact e
    · rw [ret_out hb]
      exact un.frzs b o u (by rw [unt_out hb]; exact e)
  · have hb : ¬ S b := fun z => by obtain ⟨o, q, _⟩ := hS b z; rw [e] at q; cases q
    rw [ret_out hb]
    exact un.tbls b ps (by rw [unt_out hb]; exact e)
theorem ret_ub {fs : List Addr} {h B h' : Heap} (hS : ∀ b, S b → ∃ o, H b = some (pinO o) ∧ h.get? b = some o) (un : UB fs (unt S H) H' h B h') : UB fs H (ret S H H') h B h' := by
  have out : ∀ {b}, H b = none → ¬ S b := fun {b} n z => by
    obtain ⟨o, e, _⟩ := hS b z
    rw [n] at e
    cases e
  refine ⟨fun b o e n h1 => un.keep b o e (by rw [unt_out (out n)]; exact n) h1, un.slot, fun b o e n => ?_, un.there, fun b xs e => ?_, fun b o u e => ?_, fun b ps e => ?_⟩
  · rw [ret_out (out n)]
    exact un.free b o e (by rw [unt_out (out n)]; exact n)
  · have hb : ¬ S b := fun z => by obtain ⟨o, q, _⟩ := hS b z; rw [e] at q; cases q
    rw [ret_out hb]
    exact un.tups b xs (by rw [unt_out hb]; exact e)
  · by_cases hb : S b
    · rw [ret_in hb]
      exact e
    · rw [ret_out hb]
      exact un.frzs b o u (by rw [unt_out hb]; exact e)
  · have hb : ¬ S b := fun z => by obtain ⟨o, q, _⟩ := hS b z; rw [e] at q; cases q
    rw [ret_out hb]
    exact un.tbls b ps (by rw [unt_out hb]; exact e)
theorem unt_cr {Q Q' : VK} {E E' : XK} {r : Result} (e0 : Env0 P w K mg base A outer s H) (hS : ∀ b, S b → ∃ o, H b = some (pinO o))
    (hQ : ∀ v H', (∀ b, S b → H' b = none) → Q' v H' → Q v (ret S H H')) (hE : ∀ cls d H', (∀ b, S b → H' b = none) → E' cls d H' → E cls d (ret S H H')) (c : CR (L2.CX P w) outer P w (unt S H) s Q' E' r s') : CR (L2.CX P w) outer P w H s Q E r s' := by
  have hS2 : ∀ b, S b → ∃ o, H b = some (pinO o) ∧ s.heap.get? b = some o := fun b hb => by
    obtain ⟨o, ho⟩ := hS b hb
    exact ⟨o, ho, (e0.hok b _ ho).1⟩
  have off : ∀ b, S b → b ∉ frs outer := fun b hb z => by
    obtain ⟨o, ho⟩ := hS b hb
    rw [e0.frf b z] at ho
    cases ho
  cases r with
  | error e =>
    obtain ⟨a, B, H', cls, d, rfl, fl, hok, ub, na, os, ag, q⟩ := c
    have hn : ∀ b, S b → H' b = none := fun b hb => by
      obtain ⟨o, _, e2⟩ := hS2 b hb
      exact ub.free b o e2 (unt_in hb)
    refine ⟨a, B, ret S H H', cls, d, rfl, fl, ret_hok hok (fun b hb => ?_) hn, ret_ub hS2 ub, ?_, os, ag, hE _ _ _ hn q⟩
    · obtain ⟨o, e1, e2⟩ := hS2 b hb
      exact ⟨o, e1, ub.keep b o e2 (unt_in hb) (off b hb)⟩
    · by_cases hb : S a
      · obtain ⟨o, e1, e2⟩ := hS2 a hb
        have h1 := ub.keep a o e2 (unt_in hb) (off a hb)
        have h2 : B.get? a = none := fl.2.1
        rw [h2] at h1
        cases h1
      · rw [ret_out hb]
        exact na
  | ok fl =>
    cases fl with
    | ret u =>
      obtain ⟨v, H', os, ag, un, hok, rv, q⟩ := c
      have hn : ∀ b, S b → H' b = none := fun b hb => by
        obtain ⟨o, _, e2⟩ := hS2 b hb
        exact un.free b o e2 (unt_in hb) (by simp)
      refine ⟨v, ret S H H', os, ag, ret_un hS2 un, ret_hok hok (fun b hb => ?_) hn, rv, hQ _ _ hn q⟩
      obtain ⟨o, e1, e2⟩ := hS2 b hb
      exact ⟨o, e1, un.keep b o e2 (unt_in hb) (off b hb) (by simp)⟩
    | next => exact False.elim c
    | brk => exact False.elim c
    | cont => exact False.elim c
end
omit [TBS] in
theorem look_zip : ∀ {ns : List Str} {us : List Value} {n : Str}, n ∈ ns → us.length = ns.length → ((ns.zip us).lookup n).isSome = true
  | [], _, n, h, _ => nomatch h
  | m :: ns, [], n, h, hl => by simp at hl
  | m :: ns, u :: us, n, h, hl => by
    rw [List.zip_cons_cons, List.lookup_cons]
    split
    · rfl
    · rename_i e
      have hne : n ≠ m := by simpa using e
      rcases List.mem_cons.mp h with z | z
      · exact absurd z hne
      · exact look_zip z (by simpa using hl)
omit [TBS] in
theorem fm_congr {α β : Type} {f g : α → Option β} : ∀ {l : List α}, (∀ n ∈ l, f n = g n) → l.filterMap f = l.filterMap g
  | [], _ => rfl
  | a :: l, h => by
    rw [List.filterMap_cons, List.filterMap_cons, h a List.mem_cons_self, fm_congr fun n hn => h n (List.mem_cons_of_mem _ hn)]
omit [TBS] in
theorem zip_back : ∀ {ns : List Str} {us : List Value}, ns.Nodup → us.length = ns.length → ns.filterMap (fun n => ((ns.zip us).lookup n).map (n, ·)) = ns.zip us
  | [], us, _, _ => by simp
  | m :: ns, [], _, hl => by simp at hl
  | m :: ns, u :: us, nd, hl => by
    obtain ⟨h1, h2⟩ := List.nodup_cons.mp nd
    rw [List.zip_cons_cons, List.filterMap_cons]
    have e : List.lookup m ((m, u) :: ns.zip us) = some u := by simp [List.lookup]
    rw [e]
    simp only [Option.map_some]
    have q : ns.filterMap (fun n => (List.lookup n ((m, u) :: ns.zip us)).map (n, ·)) = ns.filterMap (fun n => ((ns.zip us).lookup n).map (n, ·)) := fm_congr fun n hn => by
      have hne : (n == m) = false := by
        have : n ≠ m := fun z => h1 (z ▸ hn)
        simpa using this
      rw [List.lookup_cons, hne]
    rw [q, zip_back h2 (by simpa using hl)]
theorem bind_lam {qual : Str} {a : Arguments} {ps : List Str} {body : Expr} {scope : Scope} {cl : List (Str × Addr)} {pm cdv ct : Value} {us : List Value} (h : plainPs a ps = true) (nd : ps.Nodup) (hl : us.length = ps.length) :
    bindArgs (PySem.W.kla_fn "<lambda>" qual a body scope cl pm cdv ct) ⟨us, []⟩ = pure (ps.zip us) := by
  obtain ⟨po, as, va, ko, kd, kw, df⟩ := a
  unfold plainPs at h
  simp only [Bool.and_eq_true, List.isEmpty_iff, Option.isNone_iff_eq_none, decide_eq_true_eq] at h
  obtain ⟨⟨⟨⟨⟨⟨rfl, h2⟩, rfl⟩, rfl⟩, rfl⟩, rfl⟩, rfl⟩ := h
  unfold bindArgs PySem.W.kla_fn
  dsimp only
  rw [List.map_nil, List.nil_append, h2]
  have e1 : seqItems? Value.none = pure none := rfl
  have e2 : ¬ us.length > ps.length := by omega
  have e3 : (ps.filter fun n => ((ps.zip us).lookup n).isNone) = [] := by
    rw [List.filter_eq_nil_iff]
    intro n hn
    have := look_zip hn hl
    simp [Option.isNone_iff_eq_none, Option.isSome_iff_ne_none.mp this]
  have e4 := zip_back nd hl
  simp [e1, e2, e3, e4]
section
variable {prog : Program} {w : World} {K : PySem.W.Frag} {mg : Str → Option Value} {base : Heap} {A : Around} {outer : List PySem.Env} {s : Shared} {H : Hp}
abbrev lamF (q : Str) (ps : Arguments) (scope : Scope) (cl : List (Str × Addr)) (c' : Addr) : NdefX.NF := ⟨"<lambda>", q, ps, [], scope, cl, c'⟩
def inCl (cl : List (Str × Addr)) (b : Addr) : Prop := ∃ y, cl.lookup y = some b
theorem lam_run {k : Nat} {f c' : Addr} {q : Str} {a : Arguments} {ps fr N : List Str} {body : Expr} {scope : Scope} {cl : List (Str × Addr)} {pm ctv : Value} {us : List Value} {vs : List V} {ws : List (Option V)} {t : TE} {Q Q' : VK} {E E' : XK}
    (hr : Room (k + 1) A) (e0 : Env0 prog w K mg base A outer s H) (hf : H f = some (pinO (PySem.W.kla_obj "<lambda>" q a body scope cl pm c' ctv))) (hc : H c' = some (LamX.CodeO c' q)) (hp : plainPs a ps = true) (nd : ps.Nodup) (S : NdefX.NScope N ps fr scope)
    (hS : ∀ b, inCl cl b → ∃ o, H b = some (pinO o)) (C : NdefX.CellsAt cl fr ws s.heap (unt (inCl cl) H)) (r : Vals vs us) (hl : vs.length = ps.length)
    (hbody : Room k (A.deeper (NdefX.envF (lamF q a scope cl c') f s.heap.objs.size)) → PE (NdefX.ncx (L2.CX prog w) prog w K mg base N (lamF q a scope cl c') f A outer s (unt (inCl cl) H) E') body t) (ht : t (NdefX.startF N vs ws) (unt (inCl cl) H) Q')
    (hQ : ∀ v H', (∀ b, inCl cl b → H' b = none) → Q' v H' → Q v (ret (inCl cl) H H')) (hE : ∀ cls d H', (∀ b, inCl cl b → H' b = none) → E' cls d H' → E cls d (ret (inCl cl) H H')) :
    codeAny (model prog w) A (.call (.ref f) ⟨us, []⟩) (CR (L2.CX prog w) outer prog w H s Q E) s := by
  refine codeAny_mono ?_ fun r s' c => unt_cr e0 hS hQ hE c
  have of1 := (e0.hok f _ hf).1
  obtain ⟨⟨oc, fs, tk, hoc, hdc, hvc⟩, _, _⟩ := e0.hok c' _ hc
  have e1 := unt_env e0 hS
  have lim : s.heap.NoLimit := e0.mod.nolimit.keeps fun b o e => (e0.bs b o e).1
  refine PySem.W.kla_callFunE hr.depth of1 rfl S.co S.gen rfl ⟨c', oc, fs, tk, rfl, hoc, hdc, hvc⟩ ?_
  rw [bind_lam hp nd (by rw [← r.length]; exact hl)]
  refine wpAny_pure (wpAny_newFunctionEnv S.nocell (fun ⟨n, _⟩ hy => S.par n (List.of_mem_zip hy).1) (fun h₁ hns hsb => ⟨lim.fresh _ hsb, ?_⟩) S.kind)
  show codeAny _ _ (.expr body (NdefX.envF (lamF q a scope cl c') f s.heap.objs.size)) _ _
  have kp : ∀ b o, s.heap.get? b = some o → h₁.get? b = some o := fun b o e => hsb.extBut b o (Nat.ne_of_lt (Heap.lt_size e)) (Heap.get?_push_of_some _ e)
  have I : Inv (NdefX.ncx (L2.CX prog w) prog w K mg base N (lamF q a scope cl c') f A outer s (unt (inCl cl) H) E') [] (NdefX.startF N vs ws) (unt (inCl cl) H) { s with heap := h₁, toks := s.toks + (ps.zip us).length } := NdefX.inv_startN (F := lamF q a scope cl c') S hr.hd e1 hl r C hns kp
  refine PySem.W.kla_codeExpr (wpAny_mono ((hbody (hr.deeper _)).run [] _ _ _ Q' I ht) (fun v s' hq => ?_) fun e s' hq => hq)
  obtain ⟨x, H', J, rv, z⟩ := hq
  exact ⟨x, H', J.os, J.bare, J.base, J.hok, rv, z⟩
end
section
variable {M : Cfg} {mg : Str → Option Value} {K : PySem.W.Frag} {S : Addr → Prop} {h : Heap} {H H1 H2 H' : Hp} {ra rb : List Addr} {s : Store}
structure Trk (S : Addr → Prop) (H H2 : Hp) : Prop where
  pin : ∀ b, S b → ∃ o, H2 b = some (pinO o)
  off : ∀ b, S b → H b = none
  out : ∀ b, ¬ S b → H2 b = H b
theorem Trk.up (t : Trk S H H2) {b : Addr} {o : HO} (e : H b = some o) : H2 b = some o := by
  by_cases hb : S b
  · rw [t.off b hb] at e
    cases e
  · rw [t.out b hb]
    exact e
theorem Trk.keeps (t : Trk S H H2) : Keeps H H2 := ⟨fun a o e _ => t.up e, fun q => q.ext fun b o e => t.up e⟩
theorem Trk.back (t : Trk S H H2) (k : Keeps H2 H') : ∀ b, S b → ∃ o, H' b = some (pinO o) := fun b hb => by
  obtain ⟨o, e⟩ := t.pin b hb
  exact ⟨o, k.1 _ _ e rfl⟩
theorem unt_tabs (hp : ∀ b, S b → ∃ o, H' b = some (pinO o)) (t : LamX.Tabs TBS.T H') : LamX.Tabs TBS.T (unt S H') := fun p hq => by
  obtain ⟨ps, e1, e2, e3⟩ := t p hq
  refine ⟨ps, ?_, e2, fun pos cv hc => ?_⟩
  · rw [unt_out (fun z => by obtain ⟨o, e⟩ := hp _ z; rw [e] at e1; cases e1)]
    exact e1
  · obtain ⟨c, a1, a2⟩ := e3 pos cv hc
    refine ⟨c, a1, ?_⟩
    rw [unt_out (fun z => by obtain ⟨o, e⟩ := hp _ z; rw [e] at a2; cases a2)]
    exact a2
theorem Trk.keepsB (t : Trk S H H2) (k : Keeps H2 H') : Keeps H (unt S H') := by
  refine ⟨fun a o e z => ?_, fun q => unt_tabs (t.back k) (k.2 (t.keeps.2 q))⟩
  rw [unt_out (fun y => by rw [t.off a y] at e; cases e)]
  exact k.1 _ _ (t.up e) z
theorem sqT_unt (hp : ∀ b, S b → ∃ o, H' b = some (pinO o)) {a : Addr} {xs : List V} (q : SqT K H' a xs) : SqT K (unt S H') a xs := by
  rcases q with (q | ⟨o, q⟩) | q
  · refine .inl (.inl ?_)
    rw [unt_out (fun z => by obtain ⟨o, e⟩ := hp _ z; rw [e] at q; cases q)]
    exact q
  · refine .inl (.inr ⟨o, ?_⟩)
    rw [unt_out (fun z => by obtain ⟨o, e⟩ := hp _ z; rw [e] at q; cases q)]
    exact q
  · obtain ⟨o, its, n, h1, h2⟩ := q
    exact .inr ⟨o, its, n, h1, h2⟩
mutual
theorem repV_unt (hp : ∀ b, S b → ∃ o, H' b = some (pinO o)) : ∀ (d : D) (v : V), RepV K H' ra d v → RepV K (unt S H') ra d v
  | .non, _, q => q
  | .bl _, _, q => q
  | .int _, _, q => q
  | .str _, _, q => q
  | .tup l, v, q => by
    obtain ⟨a, vs, e, z, r⟩ := q
    exact ⟨a, vs, e, sqT_unt hp z, repL_unt hp l vs r⟩
  | .ref n, v, q => q
  | .frz l, v, q => by
    obtain ⟨a, e, z⟩ := q
    refine ⟨a, e, ?_⟩
    rcases z with ⟨o, z⟩ | z
    · refine .inl ⟨o, ?_⟩
      rw [unt_out (fun y => by obtain ⟨o, e⟩ := hp _ y; rw [e] at z; cases z)]
      exact z
    · exact .inr z
  | .gd _ _, v, q => q
  | .fnv _ _, v, q => q
theorem repL_unt (hp : ∀ b, S b → ∃ o, H' b = some (pinO o)) : ∀ (l : List D) (vs : List V), RepL K H' ra l vs → RepL K (unt S H') ra l vs
  | [], _, q => q
  | d :: ds, vs, q => by
    obtain ⟨v, r, e, h1, h2⟩ := q
    exact ⟨v, r, e, repV_unt hp d v h1, repL_unt hp ds r h2⟩
end
theorem srel_unt (hp : ∀ b, S b → ∃ o, H' b = some (pinO o)) (R : SRel K H' ra s) : SRel K (unt S H') ra s := by
  refine ⟨R.len, R.nd, fun i c a e ea => ?_, unt_tabs hp R.tab⟩
  have q := R.rep i c a e ea
  cases c with
  | lst l =>
    obtain ⟨vs, hv, r⟩ := q
    refine ⟨vs, ?_, repL_unt hp l vs r⟩
    rw [unt_out (fun z => by obtain ⟨o, e⟩ := hp _ z; rw [e] at hv; cases hv)]
    exact hv
  | dct l =>
    obtain ⟨vs, hv, r⟩ := q
    refine ⟨vs, ?_, r.1, repL_unt hp _ _ r.2⟩
    rw [unt_out (fun z => by obtain ⟨o, e⟩ := hp _ z; rw [e] at hv; cases hv)]
    exact hv
  | lck l =>
    obtain ⟨vs, ⟨o, hv⟩, r⟩ := q
    refine ⟨vs, ⟨o, ?_⟩, r.1, repL_unt hp _ _ r.2⟩
    rw [unt_out (fun z => by obtain ⟨o, e⟩ := hp _ z; rw [e] at hv; cases hv)]
    exact hv
  | obj c l =>
    obtain ⟨ws, ⟨C, dx, h1, hv, h2⟩, nd, r⟩ := q
    refine ⟨ws, ⟨C, dx, h1, ?_, h2⟩, nd, r.1, repL_unt hp _ _ r.2⟩
    rw [unt_out (fun z => by obtain ⟨o, e⟩ := hp _ z; rw [e] at hv; cases hv)]
    exact hv
theorem repX_unt (hp : ∀ b, S b → ∃ o, H' b = some (pinO o)) {c : Nat} {w : D} {cls : Value} {dd : Option Addr} (x : RepX M mg K H' ra c w cls dd) : RepX M mg K (unt S H') ra c w cls dd := by
  obtain ⟨y, d, v, h1, h2, h3, h4, h5⟩ := x
  refine ⟨y, d, v, h1, h2, h3, ?_, repV_unt hp w v h5⟩
  rw [unt_out (fun z => by obtain ⟨o, e⟩ := hp _ z; rw [e] at h4; cases h4)]
  exact h4
theorem postR_trk {W : WX} {σ : L2.St} {r : R D} {Q : VK} (t : Trk S H H2) (p : PostR M mg K W σ (RepV K) H ra r Q) : PostR M mg K (fun cls d _ H' => W cls d σ (unt S H')) [] (RepV K) H2 ra r (fun v H' => Q v (unt S H')) := by
  cases r with
  | ok d s1 => exact fun v rb H' k pf R rv => p v rb _ (t.keepsB k) pf (srel_unt (t.back k) R) (repV_unt (t.back k) d v rv)
  | exc c w s1 => exact fun cls dd rb H' k pf R rx => p cls dd rb _ (t.keepsB k) pf (srel_unt (t.back k) R) (repX_unt (t.back k) rx)
  | bad => exact p
theorem unt_some {b : Addr} {o : HO} (e : unt S H b = some o) : H b = some o := by
  by_cases hb : S b
  · rw [unt_in hb] at e
    cases e
  · rw [unt_out hb] at e
    exact e
theorem unt_keeps (hp : ∀ b, S b → ∃ o, H b = some (pinO o)) (hn : ∀ b, S b → H' b = none) (k : Keeps (unt S H) H') : Keeps H (ret S H H') := by
  have up : ∀ {b o}, H' b = some o → ret S H H' b = some o := fun {b o} e => by
    rw [ret_out (fun z => by rw [hn b z] at e; cases e)]
    exact e
  refine ⟨fun a o e z => ?_, fun q => (k.2 (unt_tabs hp q)).ext fun b o e => up e⟩
  by_cases ha : S a
  · rw [ret_in ha]
    exact e
  · exact up (k.1 _ _ (by rw [unt_out ha]; exact e) z)
theorem ret_keeps (hn : ∀ b, S b → H' b = none) : Keeps H' (ret S H H') := by
  have up : ∀ {b o}, H' b = some o → ret S H H' b = some o := fun {b o} e => by
    rw [ret_out (fun z => by rw [hn b z] at e; cases e)]
    exact e
  exact ⟨fun a o e _ => up e, fun q => q.ext fun b o e => up e⟩
theorem srel_ret (hn : ∀ b, S b → H' b = none) (R : SRel K H' ra s) : SRel K (ret S H H') ra s := R.keep (ret_keeps hn) fun a ha => by
  obtain ⟨i, hi⟩ := List.getElem?_of_mem ha
  have hl : i < s.length := by
    rw [← R.len]
    exact (List.getElem?_eq_some_iff.mp hi).1
  obtain ⟨o, ho⟩ := (R.rep i _ a (List.getElem?_eq_getElem hl) hi).some
  rw [ret_out (fun z => by rw [hn a z] at ho; cases ho)]
theorem postR_unt {E : XK} {r : R D} {Q : VK} (hp : ∀ b, S b → ∃ o, H b = some (pinO o)) (p : PostR M mg K (fun cls d _ H' => E cls d H') [] (RepV K) H ra r Q) :
    PostR M mg K (fun cls d _ H' => (∀ b, S b → H' b = none) → E cls d (ret S H H')) [] (RepV K) (unt S H) ra r (fun v H' => (∀ b, S b → H' b = none) → Q v (ret S H H')) := by
  cases r with
  | ok d s1 => exact fun v rb H' k pf R rv hn => p v rb _ (unt_keeps hp hn k) pf (srel_ret hn R) (RepV.keep (ret_keeps hn) (List.prefix_refl _) d v rv)
  | exc c w s1 =>
    intro cls dd rb H' k pf R rx hn
    obtain ⟨y, d, v, h1, h2, h3, h4, h5⟩ := rx
    exact p cls dd rb _ (unt_keeps hp hn k) pf (srel_ret hn R) ⟨y, d, v, h1, h2, h3, (ret_keeps hn).1 _ _ h4 rfl, RepV.keep (ret_keeps hn) (List.prefix_refl _) w v h5⟩
  | bad => exact p
end
section
variable {X : Cx} {pins : List (Addr × Obj)} {σ : L2.St} {H : Hp} {s : Shared}
theorem inv_pin {o : Obj} {h' : Heap} {t' : Nat} (I : Inv X pins σ H s) (k : ∀ b u, s.heap.get? b = some u → h'.get? b = some u) (hz : s.heap.objs.size ≤ h'.objs.size) (ho : (h'.push o).get? h'.objs.size = some o) :
    Inv X pins σ (upd H h'.objs.size (pinO o)) { s with heap := h'.push o, toks := t' } :=
  I.laid (a := h'.objs.size) (fun b u e => Heap.get?_push_of_some _ (k b u e)) hz ⟨ho, trivial, ⟨o, ho⟩, fun _ _ _ _ => trivial⟩
theorem pe_lam {T : List (Addr × Str)} {c P : Addr} {params : Arguments} {body : Expr} {scope : Scope} {pos : Pos} (TB : LamX.TabB X.base X.mg c P) (hcode : X.env.code = .ref c)
    (hm : (P, X.env.qual ++ "<lambda>") ∈ T) (hu : ∀ p ∈ T, p.1 = P → p.2 = X.env.qual ++ "<lambda>") (hdef : defaultsOf params X.env = ([], [])) (hfree : X.Ok → ∀ y ∈ scope.names, y.2 = .free → ∃ c, X.env.cells.lookup y.1 = some c) :
    PE X (.Lambda params body scope pos) (fun σ H Q => LamX.Tabs T H ∧ ∀ (f c' : Addr) (pm ctv : Value) (H1 : Hp), LamX.ExtN H H1 → LamX.Tabs T H1 →
      H1 f = some (pinO (PySem.W.kla_obj "<lambda>" (X.env.qual ++ "<lambda>") params body scope (cloFrom X.env.cells scope.names []) pm c' ctv)) → H1 c' = some (LamX.CodeO c' (X.env.qual ++ "<lambda>")) → Q (.ref f) H1) := by
  refine ⟨fun pins s σ H Q I ⟨hT, h⟩ => ?_⟩
  obtain ⟨ps, hP, ht, ha⟩ := hT _ hm
  refine PySem.W.kla_eval hdef ?_
  have bP : s.heap.BuiltinsAt X.mg P := TB.bm.keeps I.bk
  have hP' : s.heap.get? P = some { cls := .none, data := .fields ps } := I.hok P _ hP
  cases hc : codeAmong pos ps.toList with
  | none =>
    refine PySem.W.kla_makeFunction (mg := X.mg) (c := c) (P := P) (ps := ps) (closure_ok (hfree I.ok)) I.ok.glob (I.mod.glob.keeps I.bk) hcode (TB.code.keeps I.bk) hP' ht hc TB.gP bP fun c' ctv h' tk hx hge hlt hrec htb => ?_
    obtain ⟨c2, oc, vs, t, e2, hoc, hd, hv⟩ := hrec
    cases e2
    have nC : H c' = none := I.hok.fresh hge
    have I1 := LamX.inv_table (t' := tk) (more := #[rawInt pos.line, rawInt pos.col, .ref c']) (h' := h') I hP (fun b o hb e => hx b o hb e) htb hge ⟨oc, vs, t, hoc, hd, hv⟩
    have hE : LamX.ExtN H (upd (upd H P (.tbl (ps ++ #[rawInt pos.line, rawInt pos.col, .ref c']))) c' (LamX.CodeO c' (X.env.qual ++ "<lambda>"))) := fun b o e n => by
      rw [upd_ne (ne_of_none e nC), upd_ne (fun z => n ps (Option.some.inj (e.symm.trans (by rw [z]; exact hP))))]
      exact e
    have eL : (ps ++ #[rawInt pos.line, rawInt pos.col, .ref c']).toList = ps.toList ++ [rawInt pos.line, rawInt pos.col, .ref c'] := by simp
    have T1 : LamX.Tabs T (upd (upd H P (.tbl (ps ++ #[rawInt pos.line, rawInt pos.col, .ref c']))) c' (LamX.CodeO c' (X.env.qual ++ "<lambda>"))) := fun p hp => by
      by_cases hb : p.1 = P
      · rw [hu p hp hb, hb]
        refine ⟨_, by rw [upd_ne (ne_of_none hP nC), upd_same], by rw [eL]; exact PySem.TriplesOk_snoc _ _ _ _ ht, fun p' cv hcv => ?_⟩
        rw [eL] at hcv
        rcases LamX.among_app _ ht hcv with z | z
        · obtain ⟨c0, e1, e2⟩ := ha p' cv z
          exact ⟨c0, e1, hE _ _ e2 LamX.codeO_ne⟩
        · exact ⟨c', z, upd_same⟩
      · obtain ⟨ps', a1, a2, a3⟩ := hT p hp
        refine ⟨ps', by rw [upd_ne (ne_of_none a1 nC), upd_ne hb]; exact a1, a2, fun p' cv hcv => ?_⟩
        obtain ⟨c0, e1, e2⟩ := a3 p' cv hcv
        exact ⟨c0, e1, hE _ _ e2 LamX.codeO_ne⟩
    have nF := I1.hok.fresh (Nat.le_refl _)
    have I2 := inv_pin (t' := tk) I1 (h' := h') (o := PySem.W.kla_obj "<lambda>" (X.env.qual ++ "<lambda>") params body scope (cloFrom X.env.cells scope.names []) ((X.mg "__name__").getD .none) c' ctv) (fun _ _ e => e) (Nat.le_refl _) (Heap.get?_push_size _ rfl)
    refine ⟨.ref h'.objs.size, _, I2, rfl, h h'.objs.size c' ((X.mg "__name__").getD .none) ctv _ (fun b o e n => ?_) (T1.ext fun b o e => (upd_ne (ne_of_none e nF)).trans e) upd_same ((upd_ne (Nat.ne_of_lt hlt)).trans upd_same)⟩
    have e1 := hE b o e n
    exact (upd_ne (ne_of_none e1 nF)).trans e1
  | some cv =>
    obtain ⟨c', e, hco⟩ := ha pos cv hc
    subst e
    refine PySem.W.kla_makeFunctionHit (mg := X.mg) (c := c) (P := P) (ps := ps) (closure_ok (hfree I.ok)) I.ok.glob (I.mod.glob.keeps I.bk) hcode (TB.code.keeps I.bk) hP' ht hc bP fun ctv h' tk hx hsz => ?_
    have nF := I.hok.fresh hsz
    have I2 := inv_pin (t' := tk) I (h' := h') (o := PySem.W.kla_obj "<lambda>" (X.env.qual ++ "<lambda>") params body scope (cloFrom X.env.cells scope.names []) ((X.mg "__name__").getD .none) c' ctv) hx hsz (Heap.get?_push_size _ rfl)
    exact ⟨.ref h'.objs.size, _, I2, rfl, h h'.objs.size c' ((X.mg "__name__").getD .none) ctv _ (fun b o e n => (upd_ne (ne_of_none e nF)).trans e) (hT.ext fun b o e => (upd_ne (ne_of_none e nF)).trans e) upd_same ((upd_ne (ne_of_none hco nF)).trans hco)⟩
end
section
variable {X : Cx} {pins : List (Addr × Obj)} {σ : L2.St} {H : Hp} {s : Shared}
theorem cell_off (I : Inv X pins σ H s) (hc : ∀ x c, X.env.cells.lookup x = some c → X.s_0.heap.objs.size ≤ c) {b : Addr} (hb : inCl X.env.cells b) : (∃ o, s.heap.get? b = some o) ∧ H b = none ∧ b ∉ frs X.stack ∧ X.base.get? b = none := by
  obtain ⟨y, e⟩ := hb
  obtain ⟨v, o, ho, hd⟩ := I.cell y b e
  have hz := hc y b e
  refine ⟨⟨o, ho⟩, I.freeC y b e, fun z => ?_, ?_⟩
  · have out : b ∉ frs X.outer := fun z => by
      obtain ⟨_, o', h1, _⟩ := I.ok.funs.mem z
      exact Nat.lt_irrefl _ (Nat.lt_of_lt_of_le (Heap.lt_size h1) hz)
    rcases I.ok.stk with k | ⟨k1, k2⟩
    · rw [k] at z
      exact out z
    · rw [k1] at z
      unfold frs at z
      rw [List.filterMap_cons, k2] at z
      rcases List.mem_cons.mp z with z | z
      · obtain ⟨m, ⟨o2, es, ep, h1, h2, _⟩, _⟩ := I.loc
        rw [← z, ho] at h1
        cases h1
        rw [hd] at h2
        cases h2
      · exact out z
  · cases q : X.base.get? b with
    | none => rfl
    | some o' => exact absurd (Nat.lt_of_lt_of_le (Heap.lt_size q) (Nat.le_trans I.ok.bsz hz)) (Nat.lt_irrefl _)
structure CellsIn (X : Cx) (σ : L2.St) (H2 : Hp) : Prop where
  inj : ∀ x y c, X.env.cells.lookup x = some c → X.env.cells.lookup y = some c → x = y
  all : ∀ y c, X.env.cells.lookup y = some c → ∃ o u, H2 c = some (pinO o) ∧ o.data = .cell u
  at_ : ∀ (i : Nat) (y : Str) (v : V) (c : Addr), X.N[i]? = some y → σ[i]? = some (some v) → X.env.scope.names.lookup y = some .cell → X.env.cells.lookup y = some c → ∃ o u, H2 c = some (pinO o) ∧ o.data = .cell (some u) ∧ RelV v u
theorem trk_at (I : Inv X pins σ H s) (hc : ∀ x c, X.env.cells.lookup x = some c → X.s_0.heap.objs.size ≤ c) : Trk (inCl X.env.cells) H (trk (inCl X.env.cells) s.heap H) ∧ CellsIn X σ (trk (inCl X.env.cells) s.heap H) := by
  refine ⟨⟨fun b hb => ?_, fun b hb => (cell_off I hc hb).2.1, fun b hb => trk_out hb⟩, ⟨I.ok.inj, fun y c e => ?_, fun i y v c e1 e2 e3 e4 => ?_⟩⟩
  · obtain ⟨o, ho⟩ := (cell_off I hc hb).1
    exact ⟨o, trk_in hb ho⟩
  · obtain ⟨u, o, ho, hd⟩ := I.cell y c e
    exact ⟨o, u, trk_in ⟨y, e⟩ ho, hd⟩
  · obtain ⟨m, hn, hl⟩ := I.loc
    obtain ⟨u, r, q⟩ := hl i y v e1 e2 (.inr (.inl e3))
    rcases q with ⟨k', _⟩ | ⟨_, c3, e', o, ho, hd⟩
    · have k' : X.env.scope.names.lookup y = some .local := k'
      rw [e3] at k'
      cases k'
    · rw [e4] at e'
      cases e'
      exact ⟨o, u, trk_in ⟨y, e4⟩ ho, hd, r⟩
variable {k : Nat} {f : Addr} {fd : FuncData} {ps : List Str} {sp : Sp} {W : WX} {x : Str} {p pos : Pos} {es : List Expr} {t : TA}
def tCallT (X : Cx) (sp : Sp) (W : WX) (t : TA) : TE := fun σ H Q => t σ H fun vs H1 => ∀ H2, Trk (inCl X.env.cells) H1 H2 → CellsIn X σ H2 →
  sp vs H2 (fun v H' => Q v (unt (inCl X.env.cells) H')) (fun cls d H' => W cls d σ (unt (inCl X.env.cells) H'))
theorem pe_callT {e : Expr} (F : FnOk X.prog X.w X.K X.mg X.base (L2.CX X.prog X.w) k f fd ps sp) (hr : Room k X.A) (hg : Gl X x) (hm : X.mg x = some (.ref f)) (hk : PySem.W.keepIn X.K (.ref f) = true) (hb : Binds X.K fd ps []) (tk : Takes X W) (hc : ∀ x c, X.env.cells.lookup x = some c → X.s_0.heap.objs.size ≤ c)
    (ha : PA X (e :: es) t) (hdb : (x == ("__debug__" : Str)) = false) (he : starEach (e :: es) X.env = (false, eval e X.env) :: starEach es X.env) (hpl : (backTo pos (starEach es X.env)).any (·.1) = false) :
    PE X (.Call (.Name x p) (e :: es) [] pos) (tCallT X sp W t) := by
  refine ⟨fun pins s σ H Q I h => ?_⟩
  refine wpAny_Call_Name_kw (ld_glob I hg hm ?_ hdb)
  refine PySem.W.callWith_K (h₀ := X.base) I.ok.mod.kin hk (thn (ha.run pos pins s σ H _ I h) fun us s1 ⟨vs, H1, I1, r, q⟩ => ⟨I1.kIn, ?_⟩) he hpl
  obtain ⟨t1, t2⟩ := trk_at I1 hc
  have q := q _ t1 t2
  have hl : us.length = ps.length := by rw [← r.length]; exact F.len _ _ _ _ q
  have b := hb s1 us I1.kIn (by rw [List.append_nil]; exact hl)
  rw [List.append_nil] at b
  have hS := fun b hb => cell_off (b := b) I1 hc hb
  refine wpAny_call (codeAny_mono (F.run X.A X.stack s1 _ ⟨us, []⟩ us vs _ _ hr (trk_env I1.env0 hS) b r q) fun r s' hq => ?_)
  have hq := trk_cr (Q := Q) (E := WE W σ) hS (fun v H' z => z) (fun cls d H' z => z) hq
  cases r with
  | error e => exact passAt tk σ pins H1 s1 e s' I1 hq
  | ok fl =>
    cases fl with
    | ret u => exact I1.after hq
    | next => exact False.elim hq
    | brk => exact False.elim hq
    | cont => exact False.elim hq
end
end WL
set_option maxHeartbeats 4000000
namespace WL
open PySem PySem.Spec PyProof.Rows L2
variable [TBS] [CLO]
section
variable {M : Cfg} {N : List Str}
abbrev GE (M : Cfg) (X : Cx) (W : WX) (k : Nat) (e : E) (x : Expr) : Prop := PE X x (tE M X W (evE (M.C k) M.G e)) ∧ PT X x (tT M X W (evT (M.C k) M.G e))
theorem plainT {X : Cx} {W : WX} {k : Nat} {e : E} {x : Expr} (h : PE X x (tE M X W (evE (M.C k) M.G e))) (he : ∀ whole, isTrue x X.env whole = (do let v ← whole; standAt x.pos; holding [v] (truthy v))) : GE M X W k e x := ⟨h, pt_gen h he⟩
theorem pt_ifExp {X : Cx} {c a b : Expr} {pos : Pos} {tc ta tb : TT} (hc : PT X c tc) (ha : PT X a ta) (hb : PT X b tb) : PT X (.IfExp c a b pos) (fun σ H Q => tc σ H fun k H1 => if k = true then ta σ H1 Q else tb σ H1 Q) := by
  refine ⟨fun pins s σ H Q I h => ?_⟩
  show wpAny _ _ (do if ← isTrue c X.env (eval c X.env) then isTrue a X.env (eval a X.env) else isTrue b X.env (eval b X.env)) _ _ _
  refine wpAny_bind (thn (hc.run pins s σ H _ I h) fun d s1 hd => ?_)
  obtain ⟨H1, I1, q1⟩ := hd
  cases d with
  | true => exact ha.run pins s1 σ H1 Q I1 q1
  | false => exact hb.run pins s1 σ H1 Q I1 q1
theorem evT_bind (C : Calls) (G : Globs) (e : E) (ρ : Env) (s : Store) {α : Type} (f : Bool → Store → R α) :
    ((evE C G e ρ s).bind fun d s1 => match truth s1 d with
      | some b => f b s1
      | none => .bad) = (evT C G e ρ s).bind f := by
  unfold evT
  cases evE C G e ρ s with
  | ok d s1 => simp only [R.bind]; cases truth s1 d <;> rfl
  | exc c w s1 => rfl
  | bad => rfl
theorem evT_and (C : Calls) (G : Globs) (a b : E) (ρ : Env) (s : Store) : evT C G (.and a b) ρ s = (evT C G a ρ s).bind fun c s1 => match c with
    | true => evT C G b ρ s1
    | false => .ok false s1 := by
  rw [← evT_bind]
  unfold evT
  simp only [evE]
  cases evE C G a ρ s with
  | ok d s1 =>
    simp only [R.bind]
    cases ht : truth s1 d with
    | none => rfl
    | some c => cases c with
      | true => rfl
      | false => simp only [ht]
  | exc c w s1 => rfl
  | bad => rfl
theorem evT_or (C : Calls) (G : Globs) (a b : E) (ρ : Env) (s : Store) : evT C G (.or a b) ρ s = (evT C G a ρ s).bind fun c s1 => match c with
    | true => .ok true s1
    | false => evT C G b ρ s1 := by
  rw [← evT_bind]
  unfold evT
  simp only [evE]
  cases evE C G a ρ s with
  | ok d s1 =>
    simp only [R.bind]
    cases ht : truth s1 d with
    | none => rfl
    | some c => cases c with
      | true => simp only [ht]
      | false => rfl
  | exc c w s1 => rfl
  | bad => rfl
theorem evT_not (C : Calls) (G : Globs) (a : E) (ρ : Env) (s : Store) : evT C G (.not a) ρ s = (evT C G a ρ s).bind fun c s1 => .ok (!c) s1 := by
  rw [← evT_bind]
  unfold evT
  simp only [evE]
  cases evE C G a ρ s with
  | ok d s1 =>
    simp only [R.bind]
    cases ht : truth s1 d with
    | none => rfl
    | some c => rfl
  | exc c w s1 => rfl
  | bad => rfl
theorem evE_ife (C : Calls) (G : Globs) (c a b : E) (ρ : Env) (s : Store) : evE C G (.ife c a b) ρ s = (evT C G c ρ s).bind fun t s1 => match t with
    | true => evE C G a ρ s1
    | false => evE C G b ρ s1 := by
  rw [← evT_bind]
  simp only [evE]
  congr 1
  funext d s1
  cases truth s1 d with
  | none => rfl
  | some t => cases t <;> rfl
theorem evT_ife (C : Calls) (G : Globs) (c a b : E) (ρ : Env) (s : Store) : evT C G (.ife c a b) ρ s = (evT C G c ρ s).bind fun t s1 => match t with
    | true => evT C G a ρ s1
    | false => evT C G b ρ s1 := by
  rw [← evT_bind]
  unfold evT
  simp only [evE]
  cases evE C G c ρ s with
  | ok d s1 =>
    simp only [R.bind]
    cases ht : truth s1 d with
    | none => rfl
    | some c => cases c with
      | true => rfl
      | false => rfl
  | exc c w s1 => rfl
  | bad => rfl
theorem evT_cmp (C : Calls) (G : Globs) (a b : E) (op : CmpOp) (ρ : Env) (s : Store) : evT C G (.cmp a op b) ρ s = (evE C G a ρ s).bind fun x s1 => (evE C G b ρ s1).bind fun y s2 => match cmpD op s2 x y with
    | some c => .ok c s2
    | none => .bad := by
  unfold evT
  simp only [evE]
  cases evE C G a ρ s with
  | ok d s1 =>
    simp only [R.bind]
    cases evE C G b ρ s1 with
    | ok d2 s2 =>
      simp only [R.bind]
      cases cmpD op s2 d d2 <;> rfl
    | exc c w s1 => rfl
    | bad => rfl
  | exc c w s1 => rfl
  | bad => rfl
theorem evT_chain (C : Calls) (G : Globs) (a b c : E) (op op' : CmpOp) (ρ : Env) (s : Store) : evT C G (.chain a op b op' c) ρ s = (evE C G a ρ s).bind fun x s1 => (evE C G b ρ s1).bind fun y s2 => match cmpD op s2 x y with
    | some true => (evE C G c ρ s2).bind fun z s3 => match cmpD op' s3 y z with
      | some t => .ok t s3
      | none => .bad
    | some false => .ok false s2
    | none => .bad := by
  unfold evT
  simp only [evE]
  cases evE C G a ρ s with
  | ok d s1 =>
    simp only [R.bind]
    cases evE C G b ρ s1 with
    | ok d2 s2 =>
      simp only [R.bind]
      cases cmpD op s2 d d2 with
      | none => rfl
      | some t => cases t with
        | true =>
          simp only
          cases evE C G c ρ s2 with
          | ok d3 s3 =>
            simp only [R.bind]
            cases cmpD op' s3 d2 d3 <;> rfl
          | exc c w s1 => rfl
          | bad => rfl
        | false => rfl
    | exc c w s1 => rfl
    | bad => rfl
  | exc c w s1 => rfl
  | bad => rfl
section
variable {X : Cx} {W : WX}
theorem tT_bind {γ δ : Type} {repC : Hp → List Addr → γ → δ → Prop} {f : Env → Store → R Bool} {g : Bool → Store → R γ} {σ : L2.St} {H : Hp} {ra : List Addr} {ρ : Env} {s : Store} {Q : δ → Hp → Prop} {Q' : Bool → Hp → Prop}
    (e : ERel X.K H ra ρ σ) (r : SRel X.K H ra s) (p : PostR M X.mg X.K W σ repC H ra ((f ρ s).bind g) Q)
    (h : ∀ b H1 s1 r1, Keeps H H1 → ra <+: r1 → ERel X.K H1 r1 ρ σ → SRel X.K H1 r1 s1 → PostR M X.mg X.K W σ repC H1 r1 (g b s1) Q → Q' b H1) : tT M X W f σ H Q' :=
  ⟨ra, ρ, s, e, r, (PostR.bind (repA := repB) p).imp fun x H1 ⟨a, s1, r1, k, pf, sr, rp, q⟩ => by
    have e' : x = a := rp
    subst e'
    exact h x H1 s1 r1 k pf (e.keep k pf) sr q⟩
theorem tE_of {f : Env → Store → R D} {σ : L2.St} {H : Hp} {ra : List Addr} {ρ : Env} {s : Store} {Q : VK} (e : ERel X.K H ra ρ σ) (r : SRel X.K H ra s) (p : PostR M X.mg X.K W σ (RepV X.K) H ra (f ρ s) Q) : tE M X W f σ H Q := ⟨ra, ρ, s, e, r, p⟩
theorem tT_of {f : Env → Store → R Bool} {σ : L2.St} {H : Hp} {ra : List Addr} {ρ : Env} {s : Store} {Q : Bool → Hp → Prop} (e : ERel X.K H ra ρ σ) (r : SRel X.K H ra s) (p : PostR M X.mg X.K W σ repB H ra (f ρ s) Q) : tT M X W f σ H Q := ⟨ra, ρ, s, e, r, p⟩
end
section
variable {X : Cx} {W : WX} {k : Nat} {sc : Scope} {fn : Str → Bool}
theorem s_var (i : Nat) {x : Expr} (h : mE M N sc fn (.var i) x = true) (g : Good M N X W k sc fn) : GE M X W k (.var i) x := by
  unfold mE at h
  split at h
  · simp only [Bool.and_eq_true, decide_eq_true_eq] at h
    obtain ⟨⟨h1, h2⟩, h3⟩ := h
    obtain ⟨h4, h5⟩ := okName_ok h3
    refine plainT (PE.sub (pv i (by rw [g.eN]; exact h1) (vis_ok h2 g) h4 h5) fun σ H Q ⟨ra, ρ, s, e, r, p⟩ => ?_) (fun _ => rfl)
    simp only [evE] at p
    split at p
    · rename_i d hd
      obtain ⟨v, ev, rv⟩ := e.get i d hd
      exact ⟨v, ev, p.fin r rv⟩
    · exact p.elim
  · cases h
theorem s_int (i : Int) {x : Expr} (h : mE M N sc fn (.int i) x = true) (g : Good M N X W k sc fn) : GE M X W k (.int i) x := by
  unfold mE at h
  split at h
  · have e := of_decide_eq_true h
    subst e
    exact plainT (PE.sub pe_int fun σ H Q ⟨ra, ρ, s, e, r, p⟩ => p.fin r rfl) (fun _ => rfl)
  · cases h
theorem s_str (a : Str) {x : Expr} (h : mE M N sc fn (.str a) x = true) (g : Good M N X W k sc fn) : GE M X W k (.str a) x := by
  unfold mE at h
  split at h
  · have e := of_decide_eq_true h
    subst e
    exact plainT (PE.sub pe_str fun σ H Q ⟨ra, ρ, s, e, r, p⟩ => p.fin r rfl) (fun _ => rfl)
  · cases h
theorem s_bl (a : Bool) {x : Expr} (h : mE M N sc fn (.bl a) x = true) (g : Good M N X W k sc fn) : GE M X W k (.bl a) x := by
  unfold mE at h
  split at h
  · have e := of_decide_eq_true h
    subst e
    exact plainT (PE.sub pe_bl fun σ H Q ⟨ra, ρ, s, e, r, p⟩ => p.fin r rfl) (fun _ => rfl)
  · cases h
theorem s_non {x : Expr} (h : mE M N sc fn .non x = true) (g : Good M N X W k sc fn) : GE M X W k .non x := by
  unfold mE at h
  split at h
  · exact plainT (PE.sub pe_non fun σ H Q ⟨ra, ρ, s, e, r, p⟩ => p.fin r rfl) (fun _ => rfl)
  · cases h
theorem s_glob (i : Nat) {x : Expr} (h : mE M N sc fn (.glob i) x = true) (g : Good M N X W k sc fn) : GE M X W k (.glob i) x := by
  unfold mE at h
  split at h
  · simp only [Bool.and_eq_true, decide_eq_true_eq] at h
    obtain ⟨⟨h1, h2⟩, h3⟩ := h
    subst h1
    obtain ⟨h4, h5⟩ := okName_ok h3
    cases hd : M.G i with
    | none =>
      refine plainT ⟨fun pins s σ H Q I ⟨ra, ρ, s', e, r, p⟩ => ?_⟩ (fun _ => rfl)
      simp only [evE, hd, R.ofD] at p
      exact p.elim
    | some d =>
      obtain ⟨v, u, e1, e2, e3⟩ := g.st.glob i d hd
      refine plainT (PE.sub (pe_glob (gl_ok h2 g) e1 e2 h4) fun σ H Q ⟨ra, ρ, s, e, r, p⟩ => ?_) (fun _ => rfl)
      simp only [evE, hd, R.ofD] at p
      exact p.fin r (e3 H ra)
  · cases h
abbrev GA (M : Cfg) (X : Cx) (W : WX) (k : Nat) (es : List E) (xs : List Expr) : Prop := PA X xs (tA M X W (evEs (M.C k) M.G es))
def GEs (M : Cfg) (X : Cx) (W : WX) (k : Nat) : List E → List Expr → Prop
  | [], [] => True
  | e :: es, x :: xs => GE M X W k e x ∧ notStar x = true ∧ GEs M X W k es xs
  | _, _ => False
theorem s_nil : GA M X W k [] [] := PA.sub pa_nil fun σ H Q ⟨ra, ρ, s, e, r, p⟩ => p.fin r rfl
theorem s_cons {e : E} {x : Expr} {es : List E} {xs : List Expr} (hs : notStar x = true) (h1 : GE M X W k e x) (h2 : GA M X W k es xs) : GA M X W k (e :: es) (x :: xs) := by
  refine PA.sub (pa_cons h1.1 h2 (star_cons hs xs X.env)) fun σ H Q ⟨ra, ρ, s, e, r, p⟩ => ?_
  simp only [evEs] at p
  refine tE_bind e r p fun v H1 d s1 r1 k1 p1 e1 R1 rv q => ?_
  refine tA_bind e1 R1 q fun vs H2 ds s2 r2 k2 p2 e2 R2 rvs q2 => ?_
  exact q2.fin R2 ⟨v, vs, rfl, RepV.keep k2 p2 d v rv, rvs⟩
theorem GEs.ga : ∀ {es : List E} {xs : List Expr}, GEs M X W k es xs → GA M X W k es xs
  | [], [], _ => s_nil
  | e :: es, x :: xs, h => s_cons h.2.1 h.1 (GEs.ga h.2.2)
  | [], _ :: _, h => h.elim
  | _ :: _, [], h => h.elim
theorem s_tup {es : List E} {xs : List Expr} {x1 : Nat} {pos : Pos} (h : GA M X W k es xs) : GE M X W k (.tup es) (.Tuple xs x1 pos) := by
  refine plainT (PE.sub (pe_tup h) fun σ H Q ⟨ra, ρ, s, e, r, p⟩ => ?_) (fun _ => rfl)
  simp only [evE] at p
  refine tA_bind e r p fun vs H1 ds s1 r1 k1 p1 e1 R1 rv q => ?_
  split at q
  · rename_i hl
    exact ⟨by rw [RepL.length ds vs rv]; exact hl, PostR.finT q R1 rv⟩
  · exact q.elim
theorem s_lst {es : List E} {xs : List Expr} {pos : Pos} (h : GA M X W k es xs) : GE M X W k (.lst es) (.List xs pos) := by
  refine plainT (PE.sub (pe_lst h) fun σ H Q ⟨ra, ρ, s, e, r, p⟩ => ?_) (fun _ => rfl)
  simp only [evE] at p
  refine tA_bind e r p fun vs H1 ds s1 r1 k1 p1 e1 R1 rv q => ?_
  obtain ⟨a, b⟩ := PostR.finL q R1 rv
  exact ⟨by rw [RepL.length ds vs rv]; exact a, b⟩
theorem okOp_or {op : Operator} (h : okOp op = true) : op = .Add ∨ op = .Sub ∨ op = .Mult ∨ op = .Mod ∨ op = .FloorDiv ∨ op = .Pow := by
  cases op <;> simp [okOp] at h ⊢
theorem s_bin {op : Operator} {a b : E} {x y : Expr} {pos : Pos} (ho : okOp op = true) (ha : GE M X W k a x) (hb : GE M X W k b y) : GE M X W k (.bin op a b) (.BinOp x op y pos) := by
  obtain ⟨r, h1, h2⟩ := bin_all (M := M) (X := X) (okOp_or ho)
  refine plainT (PE.sub (pe_op h1 ha.1 hb.1) fun σ H Q ⟨ra, ρ, s, e, r, p⟩ => ?_) (fun _ => rfl)
  simp only [evE] at p
  refine tE_bind e r p fun v H1 d s1 r1 k1 p1 e1 R1 rv q => ?_
  refine tE_bind e1 R1 q fun u H2 d2 s2 r2 k2 p2 e2 R2 ru q2 => ?_
  exact h2 W σ H2 r2 s2 d d2 v u Q R2 (RepV.keep k2 p2 d v rv) ru q2
theorem s_neg {a : E} {x : Expr} {pos : Pos} (ha : GE M X W k a x) : GE M X W k (.neg a) (.UnaryOp .USub x pos) := by
  refine plainT (PE.sub (pe_un un_neg ha.1) fun σ H Q ⟨ra, ρ, s, e, r, p⟩ => ?_) (fun _ => rfl)
  simp only [evE] at p
  refine tE_bind e r p fun v H1 d s1 r1 k1 p1 e1 R1 rv q => ?_
  cases d with
  | int i => exact ⟨i, rv, q.fin R1 rfl⟩
  | _ => exact q.elim
theorem s_not {a : E} {x : Expr} {pos : Pos} (ha : GE M X W k a x) : GE M X W k (.not a) (.UnaryOp .Not x pos) := by
  refine ⟨PE.sub (pe_notT ha.1) fun σ H Q ⟨ra, ρ, s, e, r, p⟩ => ?_, PT.sub (pt_not ha.2) fun σ H Q ⟨ra, ρ, s, e, r, p⟩ => ?_⟩
  · simp only [evE] at p
    refine tE_bind e r p fun v H1 d s1 r1 k1 p1 e1 R1 rv q => ?_
    cases ht : truth s1 d with
    | none => rw [ht] at q; exact q.elim
    | some b => rw [ht] at q; exact ⟨b, truth_of R1 rv ht, q.fin R1 rfl⟩
  · rw [evT_not] at p
    exact tT_bind e r p fun b H1 s1 r1 k1 p1 e1 R1 q => q.fin R1 rfl
theorem s_and {a b : E} {x y : Expr} {rest : List Expr} {pos : Pos} (ha : GE M X W k a x) (hb : PE X (.BoolOp .And (y :: rest) pos) (tE M X W (evE (M.C k) M.G b))) (hb2 : PW X (.BoolOp .And (y :: rest) pos) (tT M X W (evT (M.C k) M.G b))) :
    PE X (.BoolOp .And (x :: y :: rest) pos) (tE M X W (evE (M.C k) M.G (.and a b))) ∧ PW X (.BoolOp .And (x :: y :: rest) pos) (tT M X W (evT (M.C k) M.G (.and a b))) := by
  refine ⟨PE.sub (pe_andT ha.1 hb) fun σ H Q ⟨ra, ρ, s, e, r, p⟩ => ?_, PW.sub (pw_and ha.2 hb2) fun σ H Q ⟨ra, ρ, s, e, r, p⟩ => ?_⟩
  · simp only [evE] at p
    refine tE_bind e r p fun v H1 d s1 r1 k1 p1 e1 R1 rv q => ?_
    cases ht : truth s1 d with
    | none => rw [ht] at q; exact q.elim
    | some c =>
      rw [ht] at q
      refine ⟨c, truth_of R1 rv ht, ?_⟩
      cases c with
      | true => exact tE_of e1 R1 q
      | false => exact q.fin R1 rv
  · rw [evT_and] at p
    refine tT_bind e r p fun c H1 s1 r1 k1 p1 e1 R1 q => ?_
    cases c with
    | true => exact tT_of e1 R1 q
    | false => exact q.fin R1 rfl
theorem s_or {a b : E} {x y : Expr} {rest : List Expr} {pos : Pos} (ha : GE M X W k a x) (hb : PE X (.BoolOp .Or (y :: rest) pos) (tE M X W (evE (M.C k) M.G b))) (hb2 : PW X (.BoolOp .Or (y :: rest) pos) (tT M X W (evT (M.C k) M.G b))) :
    PE X (.BoolOp .Or (x :: y :: rest) pos) (tE M X W (evE (M.C k) M.G (.or a b))) ∧ PW X (.BoolOp .Or (x :: y :: rest) pos) (tT M X W (evT (M.C k) M.G (.or a b))) := by
  refine ⟨PE.sub (pe_orT ha.1 hb) fun σ H Q ⟨ra, ρ, s, e, r, p⟩ => ?_, PW.sub (pw_or ha.2 hb2) fun σ H Q ⟨ra, ρ, s, e, r, p⟩ => ?_⟩
  · simp only [evE] at p
    refine tE_bind e r p fun v H1 d s1 r1 k1 p1 e1 R1 rv q => ?_
    cases ht : truth s1 d with
    | none => rw [ht] at q; exact q.elim
    | some c =>
      rw [ht] at q
      refine ⟨c, truth_of R1 rv ht, ?_⟩
      cases c with
      | false => exact tE_of e1 R1 q
      | true => exact q.fin R1 rv
  · rw [evT_or] at p
    refine tT_bind e r p fun c H1 s1 r1 k1 p1 e1 R1 q => ?_
    cases c with
    | false => exact tT_of e1 R1 q
    | true => exact q.fin R1 rfl
theorem s_cmp (g : Good M N X W k sc fn) {op : CmpOp} {a b : E} {x y : Expr} {pos : Pos} (ho : cmpOk op y = true) (ha : GE M X W k a x) (hb : GE M X W k b y) : GE M X W k (.cmp a op b) (.Compare x [op] [y] pos) := by
  obtain ⟨r, h1, h2⟩ := cmp_all (M := M) (show X.A.units + 100 < cLine by have := g.hr.un; omega) g.st.gds op
  have hm : behindInMarks op y = false := by simpa [cmpOk] using ho
  refine ⟨PE.sub (pe_cmpR h1 ha.1 hb.1 hm) fun σ H Q ⟨ra, ρ, s, e, r, p⟩ => ?_, PT.sub (pt_cmpR h1 ha.1 hb.1 hm) fun σ H Q ⟨ra, ρ, s, e, r, p⟩ => ?_⟩
  · simp only [evE] at p
    refine tE_bind e r p fun v H1 d s1 r1 k1 p1 e1 R1 rv q => ?_
    refine tE_bind e1 R1 q fun u H2 d2 s2 r2 k2 p2 e2 R2 ru q2 => ?_
    cases hc : cmpD op s2 d d2 with
    | none => rw [hc] at q2; exact q2.elim
    | some c => rw [hc] at q2; exact h2 H2 r2 s2 d d2 v u c Q R2 (RepV.keep k2 p2 d v rv) ru hc (q2.fin R2 rfl)
  · rw [evT_cmp] at p
    refine tE_bind e r p fun v H1 d s1 r1 k1 p1 e1 R1 rv q => ?_
    refine tE_bind e1 R1 q fun u H2 d2 s2 r2 k2 p2 e2 R2 ru q2 => ?_
    cases hc : cmpD op s2 d d2 with
    | none => rw [hc] at q2; exact q2.elim
    | some c => rw [hc] at q2; exact h2 H2 r2 s2 d d2 v u c _ R2 (RepV.keep k2 p2 d v rv) ru hc ⟨c, rfl, q2.fin R2 rfl⟩
theorem s_chain (g : Good M N X W k sc fn) {op op' : CmpOp} {a b c : E} {x y z : Expr} {pos : Pos} (ho : cmpOk op' z = true) (ha : GE M X W k a x) (hb : GE M X W k b y) (hc : GE M X W k c z) :
    GE M X W k (.chain a op b op' c) (.Compare x [op, op'] [y, z] pos) := by
  obtain ⟨r, h1, h2⟩ := cmp_all (M := M) (show X.A.units + 100 < cLine by have := g.hr.un; omega) g.st.gds op
  obtain ⟨r', h1', h2'⟩ := cmp_all (M := M) (show X.A.units + 100 < cLine by have := g.hr.un; omega) g.st.gds op'
  have hm : lastMarks [op, op'] [y, z] = false := by
    show behindInMarks op' z = false
    simpa [cmpOk] using ho
  refine ⟨PE.sub (pe_chain h1 h1' ha.1 hb.1 hc.1 hm) fun σ H Q ⟨ra, ρ, s, e, r, p⟩ => ?_, PT.sub (pt_chain h1 h1' ha.1 hb.1 hc.1 hm) fun σ H Q ⟨ra, ρ, s, e, r, p⟩ => ?_⟩
  · simp only [evE] at p
    refine tE_bind e r p fun v H1 d s1 r1 k1 p1 e1 R1 rv q => ?_
    refine tE_bind e1 R1 q fun u H2 d2 s2 r2 k2 p2 e2 R2 ru q2 => ?_
    cases ht : cmpD op s2 d d2 with
    | none => rw [ht] at q2; exact q2.elim
    | some t =>
      rw [ht] at q2
      refine h2 H2 r2 s2 d d2 v u t _ R2 (RepV.keep k2 p2 d v rv) ru ht ⟨t, rfl, ?_⟩
      cases t with
      | false => exact q2.fin R2 rfl
      | true =>
        refine tE_bind e2 R2 q2 fun w' H3 d3 s3 r3 k3 p3 e3 R3 rw' q3 => ?_
        cases hc' : cmpD op' s3 d2 d3 with
        | none => rw [hc'] at q3; exact q3.elim
        | some t' => rw [hc'] at q3; exact h2' H3 r3 s3 d2 d3 u w' t' Q R3 (RepV.keep k3 p3 d2 u ru) rw' hc' (q3.fin R3 rfl)
  · rw [evT_chain] at p
    refine tE_bind e r p fun v H1 d s1 r1 k1 p1 e1 R1 rv q => ?_
    refine tE_bind e1 R1 q fun u H2 d2 s2 r2 k2 p2 e2 R2 ru q2 => ?_
    cases ht : cmpD op s2 d d2 with
    | none => rw [ht] at q2; exact q2.elim
    | some t =>
      rw [ht] at q2
      refine h2 H2 r2 s2 d d2 v u t _ R2 (RepV.keep k2 p2 d v rv) ru ht ⟨t, rfl, ?_⟩
      cases t with
      | false => exact ⟨false, rfl, q2.fin R2 rfl⟩
      | true =>
        refine tE_bind e2 R2 q2 fun w' H3 d3 s3 r3 k3 p3 e3 R3 rw' q3 => ?_
        cases hc' : cmpD op' s3 d2 d3 with
        | none => rw [hc'] at q3; exact q3.elim
        | some t' => rw [hc'] at q3; exact h2' H3 r3 s3 d2 d3 u w' t' _ R3 (RepV.keep k3 p3 d2 u ru) rw' hc' ⟨t', rfl, q3.fin R3 rfl⟩
theorem s_ife {c a b : E} {x y z : Expr} {pos : Pos} (hc : GE M X W k c x) (ha : GE M X W k a y) (hb : GE M X W k b z) : GE M X W k (.ife c a b) (.IfExp x y z pos) := by
  refine ⟨PE.sub (pe_ifExp hc.2 ha.1 hb.1) fun σ H Q ⟨ra, ρ, s, e, r, p⟩ => ?_, PT.sub (pt_ifExp hc.2 ha.2 hb.2) fun σ H Q ⟨ra, ρ, s, e, r, p⟩ => ?_⟩
  · have p' : PostR M X.mg X.K W σ (RepV X.K) H ra ((evT (M.C k) M.G c ρ s).bind fun t s1 => match t with
        | true => evE (M.C k) M.G a ρ s1
        | false => evE (M.C k) M.G b ρ s1) Q := by
      rw [← evT_bind]
      simp only [evE] at p
      have eq : (fun (d : D) (s1 : Store) => match truth s1 d with
          | some t => (match t with
            | true => evE (M.C k) M.G a ρ s1
            | false => evE (M.C k) M.G b ρ s1)
          | none => .bad) = fun (d : D) (s1 : Store) => match truth s1 d with
          | some true => evE (M.C k) M.G a ρ s1
          | some false => evE (M.C k) M.G b ρ s1
          | none => .bad := by
        funext d s1
        cases truth s1 d with
        | none => rfl
        | some t => cases t <;> rfl
      rw [eq]
      exact p
    refine tT_bind e r p' fun t H1 s1 r1 k1 p1 e1 R1 q => ?_
    cases t with
    | true => exact tE_of e1 R1 q
    | false => exact tE_of e1 R1 q
  · rw [evT_ife] at p
    refine tT_bind e r p fun t H1 s1 r1 k1 p1 e1 R1 q => ?_
    cases t with
    | true => exact tT_of e1 R1 q
    | false => exact tT_of e1 R1 q
theorem s_ix (g : Good M N X W k sc fn) {a b : E} {x y : Expr} {pos : Pos} (hn : notSlice y = true) (ha : GE M X W k a x) (hb : GE M X W k b y) : GE M X W k (.ix a b) (.Subscript x y pos) := by
  refine plainT (PE.sub (pe_ix (IxR.or ix_seq (ix_lk (show X.A.units + 1 < cLine by have := g.hr.un; omega))) ha.1 hb.1 (ix_ok hn)) fun σ H Q ⟨ra, ρ, s, e, r, p⟩ => ?_) (fun _ => rfl)
  simp only [evE] at p
  refine tE_bind e r p fun v H1 d s1 r1 k1 p1 e1 R1 rv q => ?_
  refine tE_bind e1 R1 q fun u H2 d2 s2 r2 k2 p2 e2 R2 ru q2 => ?_
  cases hd : ixD s2 d d2 with
  | none => rw [hd] at q2; exact q2.elim
  | some d3 => rw [hd] at q2; exact ixD_of g.st.gds R2 (RepV.keep k2 p2 d v rv) ru hd fun w' rw' => q2.fin R2 rw'
def tOf (M : Cfg) (X : Cx) (W : WX) (k : Nat) : List E → TO
  | [] => tNoPart
  | e :: _ => tPart (tE M X W (evE (M.C k) M.G e))
theorem end_bind {γ δ : Type} {repC : Hp → List Addr → γ → δ → Prop} {lo : List E} {g : Option Int → Store → R γ} {σ : L2.St} {H : Hp} {ra : List Addr} {ρ : Env} {s : Store} {Q : δ → Hp → Prop} {Q' : Option Int → Hp → Prop}
    (e : ERel X.K H ra ρ σ) (r : SRel X.K H ra s) (p : PostR M X.mg X.K W σ repC H ra ((evEnd (M.C k) M.G lo ρ s).bind g) Q)
    (h : ∀ o H1 s1 r1, Keeps H H1 → ra <+: r1 → ERel X.K H1 r1 ρ σ → SRel X.K H1 r1 s1 → PostR M X.mg X.K W σ repC H1 r1 (g o s1) Q → Q' o H1) : tOf M X W k lo σ H Q' := by
  cases lo with
  | nil => exact h none H s ra (Keeps.refl H) (List.prefix_refl _) e r p
  | cons b bs =>
    simp only [evEnd] at p
    have p' : PostR M X.mg X.K W σ repC H ra ((evE (M.C k) M.G b ρ s).bind fun d s1 => (match d with
        | .int i => .ok (some i) s1
        | _ => .bad : R (Option Int)).bind g) Q := by
      revert p
      cases evE (M.C k) M.G b ρ s <;> exact fun p => p
    refine tE_bind e r p' fun v H1 d s1 r1 k1 p1 e1 R1 rv q => ?_
    cases d with
    | int i => exact ⟨i, rv, h (some i) H1 s1 r1 k1 p1 e1 R1 q⟩
    | _ => exact q.elim
theorem s_slice {a : E} {lo hi : List E} {x : Expr} {l h : Option Expr} {p2 pos : Pos} (ha : GE M X W k a x) (hl : PO X l (tOf M X W k lo)) (hh : PO X h (tOf M X W k hi)) :
    GE M X W k (.slice a lo hi) (.Subscript x (.Slice l h none p2) pos) := by
  refine plainT (PE.sub (pe_slice ((sl_list.or sl_tupA).or sl_str) ha.1 hl hh) fun σ H Q ⟨ra, ρ, s, e, r, p⟩ => ?_) (fun _ => rfl)
  simp only [evE] at p
  refine tE_bind e r p fun v H1 d s1 r1 k1 p1 e1 R1 rv q => ?_
  refine end_bind e1 R1 q fun lv H2 s2 r2 k2 p2 e2 R2 q2 => ?_
  refine end_bind e2 R2 q2 fun hv H3 s3 r3 k3 p3 e3 R3 q3 => ?_
  exact slice_of R3 (RepV.keep (k2.trans k3) (p2.trans p3) d v rv) q3
theorem s_rev {a : E} {x : Expr} {q : Nat} {p1 p2 p3 pos : Pos} (ha : GE M X W k a x) : GE M X W k (.rev a) (.Subscript x (.Slice none none (some (.UnaryOp .USub (.Constant (.int 1) q p1) p2)) p3) pos) := by
  refine plainT (PE.sub (pe_revA ha.1) fun σ H Q ⟨ra, ρ, s, e, r, p⟩ => ?_) (fun _ => rfl)
  simp only [evE] at p
  refine tE_bind e r p fun v H1 d s1 r1 k1 p1 e1 R1 rv q => ?_
  exact rev_of R1 rv q
theorem pe_call0S {f : Addr} {fd : FuncData} {ps : List Str} {sp : Sp} {E : L2.St → XK} {x : Str} {p pos : Pos} (F : FnOk X.prog X.w X.K X.mg X.base (L2.CX X.prog X.w) k f fd ps sp) (hr : Room k X.A) (hg : Gl X x) (hm : X.mg x = some (.ref f)) (hk : PySem.W.keepIn X.K (.ref f) = true)
    (hb : Binds X.K fd ps []) (hx : ∀ σ, PassesAt (L2.CX X.prog X.w) X σ (E σ)) (hdb : (x == ("__debug__" : Str)) = false) : PE X (.Call (.Name x p) [] [] pos) (tCallS sp E tNil) := by
  refine ⟨fun pins s σ H Q I h => ?_⟩
  refine wpAny_Call_Name_kw (ld_glob I hg hm ?_ hdb)
  exact PySem.W.callWith_K0 I.kIn hk (run_fnS (us := []) F hr hb (hx σ) I .nil h)
theorem cloC_low {Γ : List (Nat × D)} {C : Calls} {f : Nat} (h : f < hB) : cloC Γ C f = C f := by
  cases Γ with
  | nil => rfl
  | cons p Γ =>
    funext ds s
    unfold cloC
    dsimp only
    rw [if_neg (by unfold hB4; unfold hB at h; omega), if_neg (by unfold hB3; unfold hB at h; omega), if_neg (by unfold hB2; unfold hB at h; omega), if_neg (by omega)]
theorem cloC_ask {Γ : List (Nat × D)} {C : Calls} {i : Nat} {q : Nat × D} (hi : i < hB) (hq : Γ.find? (fun q => decide (q.1 = i)) = some q) : cloC Γ C (hB + i) = askD C q.2 := by
  cases Γ with
  | nil => cases hq
  | cons p Γ =>
    funext ds s
    unfold cloC
    dsimp only
    rw [if_neg (by unfold hB4 hB at *; omega), if_neg (by unfold hB3 hB at *; omega), if_neg (by unfold hB2 hB at *; omega), if_pos (by omega), show hB + i - hB = i by omega, hq]
theorem cloC_pass {Γ : List (Nat × D)} {C : Calls} {i : Nat} {q : Nat × D} {ds : List D} {s : Store} (hi : i < hB) (hq : Γ.find? (fun q => decide (q.1 = i)) = some q) : cloC Γ C (hB2 + i) ds s = .ok q.2 s := by
  cases Γ with
  | nil => cases hq
  | cons p Γ =>
    unfold cloC
    dsimp only
    rw [if_neg (by unfold hB4 hB2 hB at *; omega), if_neg (by unfold hB3 hB2 hB at *; omega), if_pos (by omega), show hB2 + i - hB2 = i by omega, hq]
theorem cloC_has {Γ : List (Nat × D)} {C : Calls} {i : Nat} {q : Nat × D} (hi : i < hB) (hq : Γ.find? (fun q => decide (q.1 = i)) = some q) : cloC Γ C (hB3 + i) = hasP q.2 := by
  cases Γ with
  | nil => cases hq
  | cons p Γ =>
    funext ds s
    unfold cloC
    dsimp only
    rw [if_neg (by unfold hB4 hB3 hB at *; omega), if_pos (by omega), show hB3 + i - hB3 = i by omega, hq]
theorem cloC_askL {Γ : List (Nat × D)} {C : Calls} {i : Nat} {q : Nat × D} (hq : Γ.find? (fun q => decide (q.1 = i)) = some q) : cloC Γ C (hB4 + i) = askL C q.2 := by
  cases Γ with
  | nil => cases hq
  | cons p Γ =>
    funext ds s
    unfold cloC
    dsimp only
    rw [if_pos (by omega), show hB4 + i - hB4 = i by omega, hq]
theorem ints_inj : ∀ {p q : List Nat}, (p.map fun i => D.int (i : Nat)) = (q.map fun i => D.int (i : Nat)) → p = q
  | [], [], _ => rfl
  | [], _ :: _, h => by simp at h
  | _ :: _, [], h => by simp at h
  | a :: p, b :: q, h => by
    simp only [List.map_cons, List.cons.injEq, D.int.injEq] at h
    rw [ints_inj h.2, show a = b by omega]
theorem plD_inj {p q : List Nat} (h : plD p = plD q) : p = q := ints_inj (D.tup.inj h)
theorem takes_of_P {M : Cfg} {f : Nat} {pl : List Nat} (h : takesP M f pl = true) : clsF M f = pl ∧ f < M.n ∧ ∃ fd, M.P f = some fd := by
  unfold takesP at h
  unfold clsF
  rw [Bool.and_eq_true, Bool.and_eq_true, decide_eq_true_eq] at h
  cases q : M.P f with
  | none =>
    rw [q] at h
    cases h.2
  | some fd =>
    rw [q] at h
    exact ⟨of_decide_eq_true h.2, h.1.1, fd, rfl⟩
theorem plain_of_P {M : Cfg} {f : Nat} (h : takesP M f [] = true) : plainF M f = true := by
  obtain ⟨h1, h2, fd, h3⟩ := takes_of_P h
  have h0 := takes_own h
  unfold clsF at h1
  unfold plainF plainM
  rw [h3] at h1 ⊢
  have h1 : fd.cl = [] := h1
  show ((M.own f).isNone && (decide (f < M.n) && fd.cl.isEmpty)) = true
  rw [decide_eq_true h2, h1, h0]
  rfl
theorem ask_clo {C : Calls} {id : Nat} {cs ds : List D} {s : Store} : askD C (cloD id cs) ds s = C id (ds ++ cs) s := by
  unfold askD cloD
  simp
theorem Good.at_ (g : Good M N X W k sc fn) {i : Nat} (h : M.na.contains i = true) : ∃ q, CLO.Γ.find? (fun q => decide (q.1 = i)) = some q ∧ q ∈ CLO.Γ ∧ q.1 = i := by
  obtain ⟨p, hp, e⟩ := g.gnb i h
  cases hq : CLO.Γ.find? (fun q => decide (q.1 = i)) with
  | none =>
    have := List.find?_eq_none.mp hq p hp
    simp [e] at this
  | some q => exact ⟨q, rfl, List.mem_of_find?_eq_some hq, by simpa using List.find?_some hq⟩
theorem s_call (g : Good M N X W k sc fn) {f : Nat} {es : List E} {xs : List Expr} {p pos : Pos} (hi : plainF M f = true) (hg : glB sc (M.fname f) = true) (ho : okName (M.fname f) = true) (hs : mEs M N sc fn es xs = true) (h : GA M X W k es xs) : GE M X W k (.call f es) (.Call (.Name (M.fname f) p) xs [] pos) := by
  obtain ⟨o1, o2⟩ := okName_ok ho
  obtain ⟨hcl, hn, fd, hf⟩ := plain_cls hi
  have hC : M.C k f = callF M.P M.G M.F k f := cloC_low (Nat.lt_of_lt_of_le hn g.st.low)
  obtain ⟨a, fdat, ps, hm, hk, hb, F⟩ := g.st.fnp f fd hf hn (plain_own hi)
  have key : ∀ σ H Q, tE M X W (evE (M.C k) M.G (.call f es)) σ H Q → tCallS (spF M X.mg X.K k f) (WE W) (tA M X W (evEs (M.C k) M.G es)) σ H Q := by
    intro σ H Q ⟨ra, ρ, s, e, r, p⟩
    simp only [evE, hC] at p
    exact tA_bind e r p fun vs H1 ds s1 r1 k1 p1 e1 R1 rv q => ⟨r1, ds, s1, R1, by rw [hcl]; exact RepAs.of rv, q⟩
  cases xs with
  | nil =>
    cases es with
    | cons e es => simp [mEs] at hs
    | nil =>
      refine plainT (PE.sub (pe_call0S F (g.hr.mono (Nat.le_succ _)) (gl_ok hg g) hm hk hb (passAt g.tk) o1) fun σ H Q t => ?_) (fun _ => rfl)
      obtain ⟨ra, ρ, s, e, r, p⟩ := t
      simp only [evE, evEs, R.bind, hC] at p
      exact ⟨ra, [], s, r, by rw [hcl]; exact RepAs.of rfl, p⟩
  | cons x xs =>
    cases es with
    | nil => simp [mEs] at hs
    | cons e es =>
      simp only [mEs, Bool.and_eq_true] at hs
      exact plainT (PE.sub (pe_callS F (g.hr.mono (Nat.le_succ _)) (gl_ok hg g) hm hk hb (passAt g.tk) h o1 (star_cons (mE_star hs.1) xs X.env) (mEs_back pos X.env hs.2)) key) (fun _ => rfl)
theorem s_ask (g : Good M N X W k sc fn) {i : Nat} {x : Str} {es : List E} {xs : List Expr} {p pos : Pos} (hi : i < hB) (hna : M.na.contains i = true) (hx : N[i]? = some x) (hv : visB sc x = true) (ho : okName x = true) (hs : mEs M N sc fn es xs = true) (h : GA M X W k es xs) : GE M X W k (.call (hB + i) es) (.Call (.Name x p) xs [] pos) := by
  obtain ⟨o1, o2⟩ := okName_ok ho
  obtain ⟨q, hq, hm, rfl⟩ := g.at_ hna
  have hC : M.C k (hB + q.1) = askD (callF M.P M.G M.F k) q.2 := cloC_ask hi hq
  refine plainT ⟨fun pins s σ H Q I ⟨ra, ρ, s0, e, r, t⟩ => ?_⟩ (fun _ => rfl)
  obtain ⟨v, ev, cv⟩ := e.clo q hm
  have cv := g.gV _ _ _ _ cv
  rcases cv with ⟨id, cs, ed, cv⟩ | ⟨id, pl, a, ed, hp, rfl, hma⟩
  rotate_left
  · -- a def that takes functions: no such call
    obtain ⟨hcl, hn, fd, hf⟩ := takes_of_P hp
    obtain ⟨a', fdat, ps, hm', hk, hb, F⟩ := g.st.fnp id fd hf hn (takes_own hp)
    rw [hma] at hm'
    cases hm'
    have no : ∀ ds s, askD (callF M.P M.G M.F k) (cloL id pl) ds s = .bad := fun ds s => by
      unfold cloL plD
      rfl
    simp only [evE, hC, ed] at t
    refine wpAny_Call_Name_kw (thn ((pv q.1 (by rw [g.eN]; exact hx) (vis_ok hv g) o1 o2).run pins s σ H (fun v H1 => v = .ref a ∧ H1 = H) I ⟨.ref a, ev, rfl, rfl⟩) fun u s1 ⟨v, H1, I1, r1, q1⟩ => ?_)
    obtain ⟨rfl, rfl⟩ := q1
    cases r1
    cases xs with
    | nil =>
      cases es with
      | cons e es => simp [mEs] at hs
      | nil =>
        simp only [evEs, R.bind, no] at t
        exact t.elim
    | cons x xs =>
      cases es with
      | nil => simp [mEs] at hs
      | cons e' es =>
        simp only [mEs, Bool.and_eq_true] at hs
        refine PySem.W.callWith_K (h₀ := X.base) I1.ok.mod.kin hk (thn (h.run pos pins s1 σ _ _ I1 (tA_bind (Q' := fun vs H1 => False) e r t fun vs H1 ds s2 r2 k1 p1 e1 R1 rv z => by
          rw [no] at z
          exact z)) fun us s2 ⟨vs, H2, I2, r2, z⟩ => z.elim) (star_cons (mE_star hs.1) xs X.env) (mEs_back pos X.env hs.2)
  simp only [evE, hC, ed] at t
  rcases cv with ⟨rfl, hp, a, rfl, hma⟩ | L
  · -- a def
    obtain ⟨hcl, hn, fd, hf⟩ := plain_cls hp
    obtain ⟨a', fdat, ps, hm', hk, hb, F⟩ := g.st.fnp id fd hf hn (plain_own hp)
    rw [hma] at hm'
    cases hm'
    refine wpAny_Call_Name_kw (thn ((pv q.1 (by rw [g.eN]; exact hx) (vis_ok hv g) o1 o2).run pins s σ H (fun v H1 => v = .ref a ∧ H1 = H) I ⟨.ref a, ev, rfl, rfl⟩) fun u s1 ⟨v, H1, I1, r1, q1⟩ => ?_)
    obtain ⟨rfl, rfl⟩ := q1
    cases r1
    cases xs with
    | nil =>
      cases es with
      | cons e es => simp [mEs] at hs
      | nil =>
        simp only [evEs, R.bind, ask_clo, List.append_nil] at t
        exact PySem.W.callWith_K0 I1.kIn hk (run_fnS (us := []) F (g.hr.mono (Nat.le_succ _)) hb (passAt g.tk σ) I1 .nil ⟨ra, [], s0, r, by rw [hcl]; exact RepAs.of rfl, t⟩)
    | cons x xs =>
      cases es with
      | nil => simp [mEs] at hs
      | cons e' es =>
        simp only [mEs, Bool.and_eq_true] at hs
        refine PySem.W.callWith_K (h₀ := X.base) I1.ok.mod.kin hk (thn (h.run pos pins s1 σ _ _ I1 (tA_bind (Q' := fun vs H1 => spF M X.mg X.K k id vs H1 Q (WE W σ)) e r t fun vs H1 ds s2 r2 k1 p1 e1 R1 rv z => ⟨r2, ds, s2, R1, by rw [hcl]; exact RepAs.of rv, by
          rw [ask_clo, List.append_nil] at z
          exact z⟩)) fun us s2 ⟨vs, H2, I2, r2, z⟩ => ⟨I2.kIn, ?_⟩) (star_cons (mE_star hs.1) xs X.env) (mEs_back pos X.env hs.2)
        exact run_fnS F (g.hr.mono (Nat.le_succ _)) hb (passAt g.tk σ) I2 r2 z
  · -- a lambda
    obtain ⟨f, hvf⟩ : ∃ f, v = .ref f := by
      obtain ⟨f, _, _, _, _, _, _, _, _, _, _, _, h1, _⟩ := L
      exact ⟨f, h1⟩
    subst hvf
    have fnAt : ∀ {pins : List (Addr × Obj)} {σ : L2.St} {H : Hp} {s : Shared} {rb : List Addr}, Inv X pins σ H s → LamAt M X.K H rb id cs (.ref f) → PySem.W.FnAt f s.heap := fun I L => by
      obtain ⟨f', _, _, _, _, _, _, _, _, _, _, _, h1, h2, _⟩ := L
      cases h1
      have := (I.hok _ _ h2).1
      exact ⟨_, none, _, _, this⟩
    have run : ∀ {s2 : Shared} {H2 : Hp} {us : List Value} {vs : List V} {rb : List Addr} {ds : List D} {s3 : Store}, Inv X pins σ H2 s2 → LamAt M X.K H2 rb id cs (.ref f) → Vals vs us → SRel X.K H2 rb s3 → RepL X.K H2 rb ds vs → PostR M X.mg X.K W σ (RepV X.K) H2 rb (callF M.P M.G M.F k id (ds ++ cs) s3) Q →
        wpAny (model X.prog X.w) X.A (call (.ref f) us) (EP X pins σ Q) X.xe s2 := fun {s2 H2 us vs rb ds s3} I2 L2 vv R2 rl z => by
      have z2 : PostR M X.mg X.K (fun cls d _ H' => WE W σ cls d H') [] (RepV X.K) H2 rb (callF M.P M.G M.F k id (ds ++ cs) s3) Q := z
      refine wpAny_call (codeAny_mono (g.st.lam X.A X.stack s2 H2 rb id cs f us vs ds s3 Q (WE W σ) (g.hr.mono (Nat.le_succ _)) I2.env0 L2 vv R2 rl z2) fun r s' hq => ?_)
      cases r with
      | error e => exact passAt g.tk σ pins H2 s2 e s' I2 hq
      | ok fl =>
        cases fl with
        | ret u => exact I2.after hq
        | next => exact False.elim hq
        | brk => exact False.elim hq
        | cont => exact False.elim hq
    refine wpAny_Call_Name_kw (thn ((pv q.1 (by rw [g.eN]; exact hx) (vis_ok hv g) o1 o2).run pins s σ H (fun v H1 => v = .ref f ∧ H1 = H) I ⟨.ref f, ev, rfl, rfl⟩) fun u s1 ⟨v, H1, I1, r1, q1⟩ => ?_)
    obtain ⟨rfl, rfl⟩ := q1
    cases r1
    cases xs with
    | nil =>
      cases es with
      | cons e es => simp [mEs] at hs
      | nil =>
        simp only [evEs, R.bind, ask_clo, List.nil_append] at t
        exact PySem.W.callWith_F0 (first := []) (fnAt I1 L) (run (ds := []) I1 L .nil r rfl t)
    | cons x xs =>
      cases es with
      | nil => simp [mEs] at hs
      | cons e' es =>
        simp only [mEs, Bool.and_eq_true] at hs
        refine PySem.W.callWith_F (first := []) (fnAt I1 L) (thn (h.run pos pins s1 σ _ _ I1 (tA_bind (Q' := fun vs H1 => ∃ rb ds s2, LamAt M X.K H1 rb id cs (.ref f) ∧ SRel X.K H1 rb s2 ∧ RepL X.K H1 rb ds vs ∧ PostR M X.mg X.K W σ (RepV X.K) H1 rb (callF M.P M.G M.F k id (ds ++ cs) s2) Q) e r t
          fun vs H1 ds s2 r2 k1 p1 e1 R1 rv z => ⟨r2, ds, s2, L.keep k1 p1, R1, rv, by rw [ask_clo] at z; exact z⟩)) fun us s2 ⟨vs, H2, I2, r2, rb, ds, s3, L2, R2, rl, z⟩ => ⟨fnAt I2 L2, ?_⟩) (star_cons (mE_star hs.1) xs X.env) (mEs_back pos X.env hs.2)
        exact run I2 L2 r2 R2 rl z
theorem PostR.quietX {W W' : WX} {σ σ' : L2.St} {α β : Type} {rep : Hp → List Addr → α → β → Prop} {H : Hp} {ra : List Addr} {r : R α} {Q : β → Hp → Prop} {mg : Str → Option Value} {K : PySem.W.Frag} (p : PostR M mg K W σ rep H ra r.quiet Q) : PostR M mg K W' σ' rep H ra r Q := by
  cases r with
  | ok a s => exact p
  | exc c w s => exact p.elim
  | bad => exact p.elim
theorem keeps_ext {H H' : Hp} (e : LamX.ExtN H H') (t : LamX.Tabs TBS.T H') : Keeps H H' := ⟨fun a o h s => e a o h (fun ps z => by rw [z] at s; cases s), fun _ => t⟩
def LamPre (M : Cfg) (X : Cx) (sc : Scope) (ρ : Env) (id : Nat) (caps : List Nat) (H : Hp) (d : D) (v : V) : Prop :=
  ∃ (cs : List D) (f c' : Addr) (ps : Arguments) (body : Expr) (scope : Scope) (pm ctv : Value), d = cloD id cs ∧ capsOf ρ caps = some cs ∧ v = .ref f ∧
    H f = some (pinO (PySem.W.kla_obj "<lambda>" (X.env.qual ++ "<lambda>") ps body scope (cloFrom X.env.cells scope.names []) pm c' ctv)) ∧ H c' = some (LamX.CodeO c' (X.env.qual ++ "<lambda>")) ∧ M.lc id caps X.N sc ps body scope = true ∧ M.mks sc = true
def RepAr (M : Cfg) (X : Cx) (sc : Scope) (ρ : Env) (a : Ar) (H : Hp) (ra : List Addr) (d : D) (v : V) : Prop := match a with
  | .val _ => RepV X.K H ra d v
  | .lam id caps => LamPre M X sc ρ id caps H d v
  | _ => CloV M X.mg X.K H ra d v
theorem RepAr.keep {ρ : Env} {a : Ar} {H H' : Hp} {ra rb : List Addr} {d : D} {v : V} (k : Keeps H H') (p : ra <+: rb) (h : RepAr M X sc ρ a H ra d v) : RepAr M X sc ρ a H' rb d v := by
  cases a with
  | val e => exact RepV.keep k p d v h
  | lam id caps =>
    obtain ⟨cs, f, c', ps, body, scope, pm, ctv, h1, h2, h3, h4, h5, h6⟩ := h
    exact ⟨cs, f, c', ps, body, scope, pm, ctv, h1, h2, h3, k.1 _ _ h4 rfl, k.1 _ _ h5 rfl, h6⟩
  | fn g pl => exact CloV.keep k p h
  | fn2 c g h' pl => exact CloV.keep k p h
  | pass i => exact CloV.keep k p h
  | slot i => exact CloV.keep k p h
inductive RepArs (M : Cfg) (X : Cx) (sc : Scope) (ρ : Env) : List Ar → Hp → List Addr → List D → List V → Prop
  | nil {H : Hp} {ra : List Addr} : RepArs M X sc ρ [] H ra [] []
  | cons {a : Ar} {as : List Ar} {H : Hp} {ra : List Addr} {d : D} {ds : List D} {v : V} {vs : List V} (h : RepAr M X sc ρ a H ra d v) (t : RepArs M X sc ρ as H ra ds vs) : RepArs M X sc ρ (a :: as) H ra (d :: ds) (v :: vs)
abbrev tAr (M : Cfg) (X : Cx) (W : WX) (sc : Scope) (k : Nat) (a : Ar) : TE := fun σ H Q => ∃ ra ρ s, ERel X.K H ra ρ σ ∧ SRel X.K H ra s ∧ PostR M X.mg X.K W σ (RepAr M X sc ρ a) H ra (evA (M.C k) M.G a ρ s) Q
abbrev tArs (M : Cfg) (X : Cx) (W : WX) (sc : Scope) (k : Nat) (as : List Ar) : TA := fun σ H Q => ∃ ra ρ s, ERel X.K H ra ρ σ ∧ SRel X.K H ra s ∧ PostR M X.mg X.K W σ (RepArs M X sc ρ as) H ra (evAs (M.C k) M.G as ρ s) Q
theorem clo_fn {H : Hp} {ra : List Addr} {f : Nat} {pl : List Nat} {a : Addr} (hp : takesP M f pl = true) (hm : X.mg (M.fname f) = some (.ref a)) : CloV M X.mg X.K H ra (fnD f pl) (.ref a) := by
  cases pl with
  | nil => exact .inl ⟨f, [], rfl, .inl ⟨rfl, plain_of_P hp, a, rfl, hm⟩⟩
  | cons b pl => exact .inr ⟨f, b :: pl, a, rfl, hp, rfl, hm⟩
theorem pe_fn (g : Good M N X W k sc fn) {f : Nat} {pl : List Nat} {x : Expr} (h : mFn M sc f pl x = true) : PE X x (fun σ H Q => ∀ a, X.mg (M.fname f) = some (.ref a) → takesP M f pl = true → Q (.ref a) H) := by
  unfold mFn at h
  split at h
  · rename_i y p
    simp only [Bool.and_eq_true, decide_eq_true_eq] at h
    obtain ⟨⟨⟨h1, h2⟩, h3⟩, h4⟩ := h
    subst h2
    obtain ⟨hcl, hn, fd, hf⟩ := takes_of_P h1
    obtain ⟨a, fdat, ps, hm, hk, hb, F⟩ := g.st.fnp f fd hf hn (takes_own h1)
    exact ⟨fun pins s σ H Q I q => ld_glob I (gl_ok h3 g) hm ⟨.ref a, H, I, rfl, q a hm h1⟩ (okName_ok h4).1⟩
  · cases h
theorem sa_val {e : E} {x : Expr} (h : GE M X W k e x) : PE X x (tAr M X W sc k (.val e)) := PE.sub h.1 fun σ H Q ⟨ra, ρ, s, e1, r, p⟩ => ⟨ra, ρ, s, e1, r, by
  simp only [evA] at p
  exact p⟩
theorem sa_fn (g : Good M N X W k sc fn) {f : Nat} {pl : List Nat} {x : Expr} (h : mFn M sc f pl x = true) : PE X x (tAr M X W sc k (.fn f pl)) := PE.sub (pe_fn g h) fun σ H Q ⟨ra, ρ, s, e1, r, p⟩ a hm hp => by
  simp only [evA] at p
  exact p _ ra H (Keeps.refl H) (List.prefix_refl _) r (clo_fn hp hm)
theorem sa_fn2 (g : Good M N X W k sc fn) {c : E} {f h : Nat} {pl : List Nat} {y z u : Expr} {pos : Pos} (hc : GE M X W k c y) (h1 : mFn M sc f pl z = true) (h2 : mFn M sc h pl u = true) : PE X (.IfExp y z u pos) (tAr M X W sc k (.fn2 c f h pl)) := by
  refine PE.sub (pe_ifExp hc.2 (pe_fn g h1) (pe_fn g h2)) fun σ H Q ⟨ra, ρ, s, e1, r, p⟩ => ?_
  simp only [evA] at p
  have e : ((evE (M.C k) M.G c ρ s).bind fun x s => match truth s x with
      | some true => R.ok (fnD f pl) s
      | some false => .ok (fnD h pl) s
      | none => .bad) = (evT (M.C k) M.G c ρ s).bind fun t s1 => match t with
      | true => R.ok (fnD f pl) s1
      | false => .ok (fnD h pl) s1 := by
    rw [← evT_bind]
    congr 1
    funext d s1
    cases truth s1 d with
    | none => rfl
    | some t => cases t <;> rfl
  have p' : PostR M X.mg X.K W σ (RepAr M X sc ρ (.fn2 c f h pl)) H ra ((evT (M.C k) M.G c ρ s).bind fun t s1 => match t with
      | true => R.ok (fnD f pl) s1
      | false => .ok (fnD h pl) s1) Q := by
    rw [← e]
    exact p
  refine tT_bind e1 r p' fun t H1 s1 r1 k1 p1 e2 R1 q => ?_
  cases t with
  | true =>
    rw [if_pos rfl]
    exact fun a hm hp => q _ r1 H1 (Keeps.refl H1) (List.prefix_refl _) R1 (clo_fn hp hm)
  | false =>
    rw [if_neg (by decide)]
    exact fun a hm hp => q _ r1 H1 (Keeps.refl H1) (List.prefix_refl _) R1 (clo_fn hp hm)
theorem sa_pass (g : Good M N X W k sc fn) {i : Nat} {y : Str} {p : Pos} (hi : i < hB) (hna : M.na.contains i = true) (hx : N[i]? = some y) (hv : visB sc y = true) (ho : okName y = true) : PE X (.Name y p) (tAr M X W sc k (.pass i)) := by
  obtain ⟨o1, o2⟩ := okName_ok ho
  obtain ⟨q, hq, hm, rfl⟩ := g.at_ hna
  refine PE.sub (pv q.1 (by rw [g.eN]; exact hx) (vis_ok hv g) o1 o2) fun σ H Q ⟨ra, ρ, s, e, r, t⟩ => ?_
  obtain ⟨v, ev, cv⟩ := e.clo q hm
  have hC : M.C k (hB2 + q.1) [] s = .ok q.2 s := cloC_pass hi hq
  simp only [evA, hC] at t
  exact ⟨v, ev, t v ra H (Keeps.refl H) (List.prefix_refl _) r (g.gV _ _ _ _ cv)⟩
theorem sa_slot (g : Good M N X W k sc fn) {i : Nat} {y : Str} {p : Pos} (hx : N[i]? = some y) (hv : visB sc y = true) (ho : okName y = true) : PE X (.Name y p) (tAr M X W sc k (.slot i)) := by
  obtain ⟨o1, o2⟩ := okName_ok ho
  refine PE.sub (pv i (by rw [g.eN]; exact hx) (vis_ok hv g) o1 o2) fun σ H Q ⟨ra, ρ, s, e, r, t⟩ => ?_
  simp only [evA] at t
  split at t
  · rename_i f pl hd
    obtain ⟨v, ev, rv⟩ := e.get i _ hd
    obtain ⟨a, rfl, ra'⟩ := rv
    obtain ⟨hp, hm⟩ := (g.st.fnr f pl a).mp ra'
    exact ⟨_, ev, t _ ra H (Keeps.refl H) (List.prefix_refl _) r (clo_fn hp hm)⟩
  · exact t.elim
theorem s_fnc (g : Good M N X W k sc fn) {f : Nat} {pl : List Nat} {x : Expr} (h : mFn M sc f pl x = true) : GE M X W k (.fnc f pl) x := by
  refine plainT (PE.sub (pe_fn g h) fun σ H Q ⟨ra, ρ, s, e1, r, p⟩ a hm hp => ?_) ?_
  · simp only [evE] at p
    exact p.fin r ⟨a, rfl, (g.st.fnr f pl a).mpr ⟨hp, hm⟩⟩
  · intro whole
    cases x with
    | Name y p => rfl
    | _ => simp [mFn] at h
theorem cells_lookup {sc : Scope} {y : Str} (ok : X.Ok) (he : X.env.scope = sc) (h : sc.names.lookup y = some .cell) : ∃ c, X.env.cells.lookup y = some c := ok.has y (.inl (by
  unfold PySem.Env.kindOf
  rw [he]
  exact h))
theorem plainPs_def {a : Arguments} {ps : List Str} (h : plainPs a ps = true) (env : PySem.Env) : defaultsOf a env = ([], []) := by
  obtain ⟨q1, q2, q3, q4, q5, q6, q7⟩ := a
  unfold plainPs at h
  simp only [Bool.and_eq_true, List.isEmpty_iff, Option.isNone_iff_eq_none, decide_eq_true_eq] at h
  obtain ⟨⟨⟨⟨⟨⟨rfl, h2⟩, rfl⟩, rfl⟩, rfl⟩, rfl⟩, rfl⟩ := h
  rfl
structure LamFact (M : Cfg) (id : Nat) (caps : List Nat) (N : List Str) (sc : Scope) (a : Arguments) (body : Expr) (scope : Scope) : Prop where
  low : M.n ≤ id ∧ id < hB
  ps : plainPs a (psOf a) = true
  nd : (psOf a).Nodup
  okn : ∀ p ∈ psOf a, okName p = true
  lt : ∀ j ∈ caps, j < N.length
  sco : NdefX.NScope (lamN N caps a) (psOf a) (capN N caps) scope
  kin : ∀ y ∈ capN N caps, sc.names.lookup y = some .cell
  fd : ∃ e : E, M.P id = some ⟨(lamN N caps a).length, (lamN N caps a).length, [.ret e], []⟩ ∧ mE M (lamN N caps a) scope (fun _ => false) e body = true
omit [CLO] in
theorem lam_fact {id : Nat} {caps : List Nat} {N : List Str} {sc : Scope} {a : Arguments} {body : Expr} {scope : Scope} (h : lamOk M id caps N sc a body scope = true) : LamFact M id caps N sc a body scope := by
  unfold lamOk at h
  simp only [Bool.and_eq_true, decide_eq_true_eq, List.all_eq_true] at h
  obtain ⟨⟨⟨⟨⟨⟨⟨⟨h1, h2⟩, h3⟩, h4⟩, h5⟩, h6⟩, h7⟩, h8⟩, h9⟩ := h
  refine ⟨⟨h1, h2⟩, h3, h4, h5, h6, NdefX.nscope_by h7, h8, ?_⟩
  split at h9
  · rename_i np nv e hP
    simp only [Bool.and_eq_true, decide_eq_true_eq] at h9
    obtain ⟨⟨rfl, rfl⟩, h9⟩ := h9
    exact ⟨e, hP, h9⟩
  · cases h9
theorem sa_lam (g : Good M N X W k sc fn) {id : Nat} {caps : List Nat} {ps : Arguments} {body : Expr} {scope : Scope} {pos : Pos} (hk : M.mks sc = true) (hl : M.lc id caps N sc ps body scope = true) : PE X (.Lambda ps body scope pos) (tAr M X W sc k (.lam id caps)) := by
  obtain ⟨hy, c, tp, c1, c2, c3, c4⟩ := g.mkr hk
  have F := lam_fact (g.st.lco _ _ _ _ _ _ _ hl)
  refine PE.sub (pe_lam (T := TBS.T) c2 c1 c3 c4 (plainPs_def F.ps _) fun ok y hy e => cells_lookup ok g.esc (F.kin _ (F.sco.free y hy e))) fun σ H Q ⟨ra, ρ, s, e, r, p⟩ => ?_
  refine ⟨r.tab, fun f c' pm ctv H1 eN T1 e1 e2 => ?_⟩
  have kp : Keeps H H1 := ⟨fun a o h s => eN a o h (fun ps z => by rw [z] at s; cases s), fun _ => T1⟩
  have R1 : SRel X.K H1 ra s := r.keep kp fun b hb' => by
    obtain ⟨i, hi⟩ := List.getElem?_of_mem hb'
    have hl : i < s.length := by
      rw [← r.len]
      exact (List.getElem?_eq_some_iff.mp hi).1
    have q := r.rep i _ b (List.getElem?_eq_getElem hl) hi
    cases hc : s[i] with
    | lst l =>
      rw [hc] at q
      obtain ⟨vs, hv, _⟩ := q
      rw [hv]
      exact eN _ _ hv fun ps z => by cases z
    | dct l =>
      rw [hc] at q
      obtain ⟨vs, hv, _⟩ := q
      rw [hv]
      exact eN _ _ hv fun ps z => by cases z
    | obj c l =>
      rw [hc] at q
      obtain ⟨ws, ⟨C, dx, _, hv, _⟩, _⟩ := q
      rw [hv]
      exact eN _ _ hv fun ps z => by cases z
    | lck l =>
      rw [hc] at q
      obtain ⟨vs, ⟨o, hv⟩, _⟩ := q
      rw [hv]
      exact eN _ _ hv fun ps z => by cases z
  simp only [evA] at p
  cases hcs : capsOf ρ caps with
  | none =>
    rw [hcs] at p
    exact p.elim
  | some cs =>
    rw [hcs] at p
    exact p _ ra H1 kp (List.prefix_refl _) R1 ⟨cs, f, c', ps, body, scope, pm, ctv, rfl, hcs, rfl, e1, e2, by rw [g.eN]; exact hl, hk⟩
theorem sas_nil : PA X [] (tArs M X W sc k []) := by
  refine ⟨fun pos pins s σ H Q I ⟨ra, ρ, s0, e, r, p⟩ => Calls.spliced_nil ⟨[], H, I, .nil, ?_⟩⟩
  simp only [evAs] at p
  exact p _ ra H (Keeps.refl H) (List.prefix_refl _) r .nil
theorem sas_cons {a : Ar} {as : List Ar} {x : Expr} {xs : List Expr} (ha : PE X x (tAr M X W sc k a)) (has : PA X xs (tArs M X W sc k as)) (hs : starEach (x :: xs) X.env = (false, eval x X.env) :: starEach xs X.env) : PA X (x :: xs) (tArs M X W sc k (a :: as)) := by
  have q := pa_cons ha has hs
  refine ⟨fun pos pins s σ H Q I ⟨ra, ρ, s0, e, r, p⟩ => q.run pos pins s σ H Q I ?_⟩
  simp only [evAs] at p
  refine ⟨ra, ρ, s0, e, r, (PostR.bind (repA := RepAr M X sc ρ a) p).imp fun v H1 ⟨d, s1, r1, k1, p1, R1, rv, q1⟩ => ?_⟩
  refine ⟨r1, ρ, s1, e.keep k1 p1, R1, (PostR.bind (repA := RepArs M X sc ρ as) q1).imp fun vs H2 ⟨ds, s2, r2, k2, p2, R2, rvs, q2⟩ => ?_⟩
  exact q2 _ r2 H2 (Keeps.refl H2) (List.prefix_refl _) R2 (.cons (rv.keep k2 p2) rvs)
theorem PE.ok {e : Expr} {t : TE} (h : X.Ok → PE X e t) : PE X e t := ⟨fun pins s σ H Q I q => (h I.ok).run pins s σ H Q I q⟩
theorem fnsOf_le : ∀ {as : List Ar} {n j : Nat}, j ∈ fnsOf n as → n ≤ j
  | [], n, j, h => by cases h
  | a :: as, n, j, h => by
    unfold fnsOf at h
    split at h
    · have := fnsOf_le h
      omega
    · rcases List.mem_cons.mp h with rfl | h
      · exact Nat.le_refl _
      · have := fnsOf_le h
        omega
theorem capsOf_get {ρ : Env} : ∀ {caps : List Nat} {cs : List D}, capsOf ρ caps = some cs → cs.length = caps.length ∧ ∀ (j : Nat) (d : D), cs[j]? = some d → ∃ i, caps[j]? = some i ∧ ρ[i]? = some (some d)
  | [], cs, h => by
    cases h
    exact ⟨rfl, fun j d e => by simp at e⟩
  | i :: js, cs, h => by
    unfold capsOf at h
    split at h
    · rename_i d ds h1 h2
      cases h
      obtain ⟨a, b⟩ := capsOf_get h2
      refine ⟨by simp [a], fun j d' e => ?_⟩
      cases j with
      | zero =>
        cases (Option.some.inj e)
        exact ⟨i, rfl, h1⟩
      | succ j => exact b j d' (by simpa using e)
    · cases h
theorem LamPre.at_ (g : Good M N X W k sc fn) (ok : X.Ok) {ρ : Env} {σ : L2.St} {H H1 H2 : Hp} {ra : List Addr} {id : Nat} {caps : List Nat} {d : D} {v : V} (e : ERel X.K H1 ra ρ σ) (kp : Keeps H1 H2) (C : CellsIn X σ H2) (h : LamPre M X sc ρ id caps H1 d v) : CloV M X.mg X.K H2 ra d v := by
  obtain ⟨cs, f, c', ps, body, scope, pm, ctv, h1, h2, h3, h4, h5, h6, h7⟩ := h
  have F := lam_fact (g.st.lco _ _ _ _ _ _ _ h6)
  have hfree : ∀ y ∈ scope.names, y.2 = .free → ∃ c, X.env.cells.lookup y.1 = some c := fun y hy e => cells_lookup ok g.esc (F.kin _ (F.sco.free y hy e))
  obtain ⟨l1, l2⟩ := capsOf_get h2
  refine .inl ⟨id, cs, h1, .inr ⟨f, c', _, ps, body, scope, sc, _, pm, ctv, X.N, caps, h3, kp.1 _ _ h4 rfl, kp.1 _ _ h5 rfl, h6, fun x y c a b => C.inj x y c (NdefX.clo_cm hfree a) (NdefX.clo_cm hfree b), fun y hy e => ?_, fun y c a => C.all y c (NdefX.clo_cm hfree a), l1, fun j dj y c a1 a2 a3 => ?_⟩⟩
  · obtain ⟨c, hc⟩ := hfree y hy e
    exact ⟨c, NdefX.clo_has hfree (by obtain ⟨y1, y2⟩ := y; cases e; exact hy) hc⟩
  · obtain ⟨i, b1, b2⟩ := l2 j dj a1
    obtain ⟨x, x1, x2⟩ := e.get i dj b2
    have hi := F.lt i (List.mem_of_getElem? b1)
    have hN : X.N[i]? = some y := by
      unfold capN at a2
      rw [List.getElem?_map, b1] at a2
      have a2 := Option.some.inj a2
      rw [List.getElem?_eq_getElem hi]
      have a3 : X.N[i]?.getD (default : Str) = y := by
        rw [← List.getD_eq_getElem?_getD]
        exact a2
      rw [List.getElem?_eq_getElem hi] at a3
      exact congrArg some a3
    have hk : X.env.scope.names.lookup y = some .cell := by
      rw [g.esc]
      exact F.kin y (List.mem_of_getElem? a2)
    obtain ⟨o, u, q1, q2, q3⟩ := C.at_ i y x c hN x1 hk (NdefX.clo_cm hfree a3)
    exact ⟨o, u, x, q1, q2, q3, RepV.keep kp (List.prefix_refl _) dj x x2⟩
theorem RepArs.all {ρ : Env} {H H2 : Hp} {ra : List Addr} (kp : Keeps H H2) (hl : ∀ id caps d v, LamPre M X sc ρ id caps H d v → CloV M X.mg X.K H2 ra d v) : ∀ {as : List Ar} {ds : List D} {vs : List V}, RepArs M X sc ρ as H ra ds vs → ∀ n : Nat, vs.length = ds.length ∧ ∀ (i : Nat) (d : D) (v : V), ds[i]? = some d → vs[i]? = some v →
    if n + i ∈ fnsOf n as then CloV M X.mg X.K H2 ra d v else RepV X.K H2 ra d v := by
  intro as ds vs h
  induction h with
  | nil => exact fun n => ⟨rfl, fun i d v e => by simp at e⟩
  | @cons a as H ra d ds v vs h t ih =>
    intro n
    obtain ⟨l, g⟩ := ih kp hl (n + 1)
    refine ⟨by simp [l], fun i d' v' e1 e2 => ?_⟩
    cases i with
    | zero =>
      cases (Option.some.inj e1)
      cases (Option.some.inj e2)
      cases a with
      | val e =>
        rw [if_neg (fun z => by
          have := fnsOf_le (show n + 0 ∈ fnsOf (n + 1) as from z)
          omega)]
        exact RepV.keep kp (List.prefix_refl _) _ _ h
      | fn g pl => rw [if_pos (by simp [fnsOf, Ar.isVal])]; exact CloV.keep kp (List.prefix_refl _) h
      | fn2 c g h' pl => rw [if_pos (by simp [fnsOf, Ar.isVal])]; exact CloV.keep kp (List.prefix_refl _) h
      | pass i => rw [if_pos (by simp [fnsOf, Ar.isVal])]; exact CloV.keep kp (List.prefix_refl _) h
      | slot i => rw [if_pos (by simp [fnsOf, Ar.isVal])]; exact CloV.keep kp (List.prefix_refl _) h
      | lam id caps => rw [if_pos (by simp [fnsOf, Ar.isVal])]; exact hl _ _ _ _ h
    | succ i =>
      have q := g i d' v' (by simpa using e1) (by simpa using e2)
      rw [show n + 1 + i = n + (i + 1) by omega] at q
      have iff : (n + (i + 1) ∈ fnsOf n (a :: as)) ↔ (n + (i + 1) ∈ fnsOf (n + 1) as) := by
        rw [fnsOf]
        split
        · exact Iff.rfl
        · rw [List.mem_cons]
          exact ⟨fun z => z.resolve_left (by omega), .inr⟩
      by_cases hm : n + (i + 1) ∈ fnsOf (n + 1) as
      · rw [if_pos hm] at q
        rw [if_pos (iff.mpr hm)]
        exact q
      · rw [if_neg hm] at q
        rw [if_neg (fun z => hm (iff.mp z))]
        exact q
theorem takes_cls {f : Nat} {as : List Ar} (h : takesF M f as = true) : clsF M f = fnsOf 0 as ∧ f < M.n ∧ ∃ fd, M.P f = some fd := by
  unfold takesF at h
  unfold clsF
  rw [Bool.and_eq_true, Bool.and_eq_true, decide_eq_true_eq] at h
  cases q : M.P f with
  | none =>
    rw [q] at h
    cases h.2
  | some fd =>
    rw [q] at h
    exact ⟨of_decide_eq_true h.2, h.1.1, fd, rfl⟩
theorem srel_trk {S : Addr → Prop} {H H2 : Hp} {ra : List Addr} {s : Store} (t : Trk S H H2) (R : SRel X.K H ra s) : SRel X.K H2 ra s := R.keep t.keeps fun a ha => by
  obtain ⟨i, hi⟩ := List.getElem?_of_mem ha
  have hl : i < s.length := by
    rw [← R.len]
    exact (List.getElem?_eq_some_iff.mp hi).1
  obtain ⟨o, ho⟩ := (R.rep i _ a (List.getElem?_eq_getElem hl) hi).some
  exact t.out a fun z => by rw [t.off a z] at ho; cases ho
theorem s_callL (g : Good M N X W k sc fn) {f : Nat} {as : List Ar} {xs : List Expr} {p pos : Pos} (hi : takesF M f as = true) (hg : glB sc (M.fname f) = true) (ho : okName (M.fname f) = true) (hs : mAs M N sc fn as xs = true) (h : PA X xs (tArs M X W sc k as)) : GE M X W k (.callL f as) (.Call (.Name (M.fname f) p) xs [] pos) := by
  obtain ⟨o1, o2⟩ := okName_ok ho
  obtain ⟨hcl, hn, fd, hf⟩ := takes_cls hi
  have hC : M.C k f = callF M.P M.G M.F k f := cloC_low (Nat.lt_of_lt_of_le hn g.st.low)
  obtain ⟨a, fdat, ps, hm, hk, hb, F⟩ := g.st.fnp f fd hf hn (takesF_own hi)
  refine plainT (PE.ok fun ok => ?_) (fun _ => rfl)
  cases xs with
  | nil =>
    cases as with
    | cons e es => simp [mAs] at hs
    | nil =>
      refine PE.sub (pe_call0S F (g.hr.mono (Nat.le_succ _)) (gl_ok hg g) hm hk hb (passAt g.tk) o1) fun σ H Q t => ?_
      obtain ⟨ra, ρ, s, e, r, p⟩ := t
      simp only [evE, evAs, R.bind, hC] at p
      exact ⟨ra, [], s, r, by rw [hcl]; exact RepAs.of rfl, p⟩
  | cons x xs =>
    cases as with
    | nil => simp [mAs] at hs
    | cons e es =>
      simp only [mAs, Bool.and_eq_true] at hs
      cases hmk : M.mks sc with
      | true =>
        refine PE.sub (pe_callT F (g.hr.mono (Nat.le_succ _)) (gl_ok hg g) hm hk hb g.tk (g.mkr hmk).1 h o1 (star_cons (mA_star hs.1) xs X.env) (mAs_back pos X.env hs.2)) fun σ H Q t => ?_
        obtain ⟨ra, ρ, s, e1, r, p⟩ := t
        simp only [evE, hC] at p
        refine ⟨ra, ρ, s, e1, r, (PostR.bind (repA := RepArs M X sc ρ (e :: es)) p).imp fun vs H1 ⟨ds, s1, r1, k1, p1, R1, rv, q⟩ => ?_⟩
        intro H2 T C
        have ra1 := RepArs.all T.keeps (fun id caps d v z => LamPre.at_ (H := H) g ok (e1.keep k1 p1) T.keeps C z) rv 0
        refine ⟨r1, ds, s1, srel_trk T R1, ⟨ra1.1, fun i d v e1 e2 => ?_⟩, postR_trk T q⟩
        have z := ra1.2 i d v e1 e2
        rw [Nat.zero_add, ← hcl] at z
        exact z
      | false =>
        refine PE.sub (pe_callS F (g.hr.mono (Nat.le_succ _)) (gl_ok hg g) hm hk hb (passAt g.tk) h o1 (star_cons (mA_star hs.1) xs X.env) (mAs_back pos X.env hs.2)) fun σ H Q t => ?_
        obtain ⟨ra, ρ, s, e1, r, p⟩ := t
        simp only [evE, hC] at p
        refine ⟨ra, ρ, s, e1, r, (PostR.bind (repA := RepArs M X sc ρ (e :: es)) p).imp fun vs H1 ⟨ds, s1, r1, k1, p1, R1, rv, q⟩ => ?_⟩
        have ra1 := RepArs.all (H := H1) (H2 := H1) (Keeps.refl H1) (fun id caps d v z => by
          obtain ⟨_, _, _, _, _, _, _, _, _, _, _, _, _, _, z⟩ := z
          rw [hmk] at z
          cases z) rv 0
        refine ⟨r1, ds, s1, R1, ⟨ra1.1, fun i d v e1 e2 => ?_⟩, q⟩
        have z := ra1.2 i d v e1 e2
        rw [Nat.zero_add, ← hcl] at z
        exact z
theorem s_callG (g : Good M N X W k sc fn) {i : Nat} {x : Str} {as : List Ar} {xs : List Expr} {p pos : Pos} (hi : i < hB) (hna : M.na.contains i = true) (hx : N[i]? = some x) (hv : visB sc x = true) (ho : okName x = true) (hs : mAs M N sc fn as xs = true) (h : PA X xs (tArs M X W sc k as)) : GE M X W k (.callG i as) (.Call (.Name x p) xs [] pos) := by
  obtain ⟨o1, o2⟩ := okName_ok ho
  obtain ⟨q, hq, hm, rfl⟩ := g.at_ hna
  have hH : M.C k (hB3 + q.1) = hasP q.2 := cloC_has hi hq
  have hC : M.C k (hB4 + q.1) = askL (callF M.P M.G M.F k) q.2 := cloC_askL hq
  refine plainT ⟨fun pins s σ H Q I ⟨ra, ρ, s0, e, r, t⟩ => ?_⟩ (fun _ => rfl)
  obtain ⟨v, ev, cv⟩ := e.clo q hm
  have cv := g.gV _ _ _ _ cv
  simp only [evE, hH, hC] at t
  rcases cv with ⟨id, cs, ed, cv⟩ | ⟨id, pl, a, ed, hp, rfl, hma⟩
  · rw [ed] at t
    exact (show False from t).elim
  have ha : ∀ ds s, askL (callF M.P M.G M.F k) (cloL id pl) ds s = callF M.P M.G M.F k id ds s := fun ds s => by
    unfold askL cloL
    simp
  have hb3 : hasP (cloL id pl) [plD (fnsOf 0 as)] s0 = if plD pl = plD (fnsOf 0 as) then .ok .non s0 else .bad := rfl
  rw [ed, hb3] at t
  by_cases hpl : plD pl = plD (fnsOf 0 as)
  · rw [if_pos hpl] at t
    have epl := plD_inj hpl
    have t : PostR M X.mg X.K W σ (RepV X.K) H ra ((evAs (M.C k) M.G as ρ s0).bind fun l s => askL (callF M.P M.G M.F k) (cloL id pl) l s) Q := t
    simp only [ha] at t
    obtain ⟨hcl, hn, fd, hf⟩ := takes_of_P hp
    obtain ⟨a', fdat, ps, hm', hk, hb, F⟩ := g.st.fnp id fd hf hn (takes_own hp)
    rw [hma] at hm'
    cases hm'
    have ok : X.Ok := I.ok
    refine wpAny_Call_Name_kw (thn ((pv q.1 (by rw [g.eN]; exact hx) (vis_ok hv g) o1 o2).run pins s σ H (fun v H1 => v = .ref a ∧ H1 = H) I ⟨.ref a, ev, rfl, rfl⟩) fun u s1 ⟨v, H1, I1, r1, q1⟩ => ?_)
    obtain ⟨rfl, rfl⟩ := q1
    cases r1
    cases xs with
    | nil =>
      cases as with
      | cons e es => simp [mAs] at hs
      | nil =>
        simp only [evAs, R.bind] at t
        exact PySem.W.callWith_K0 I1.kIn hk (run_fnS (us := []) F (g.hr.mono (Nat.le_succ _)) hb (passAt g.tk σ) I1 .nil ⟨ra, [], s0, r, by rw [hcl, epl]; exact RepAs.of rfl, t⟩)
    | cons x xs =>
      cases as with
      | nil => simp [mAs] at hs
      | cons e' es =>
        simp only [mAs, Bool.and_eq_true] at hs
        have hst := star_cons (mA_star hs.1) xs X.env
        have hbk := mAs_back pos X.env hs.2
        cases hmk : M.mks sc with
        | false =>
          refine PySem.W.callWith_K (h₀ := X.base) I1.ok.mod.kin hk (thn (h.run pos pins s1 σ _ (fun vs H1 => spF M X.mg X.K k id vs H1 Q (WE W σ)) I1 ⟨ra, ρ, s0, e, r, (PostR.bind (repA := RepArs M X sc ρ (e' :: es)) t).imp fun vs H1 ⟨ds, s2, r2, k1, p1, R1, rv, z⟩ => ?_⟩) fun us s2 ⟨vs, H2, I2, r2, z⟩ => ⟨I2.kIn, ?_⟩) hst hbk
          · have ra1 := RepArs.all (H := H1) (H2 := H1) (Keeps.refl H1) (fun id caps d v z => by
              obtain ⟨_, _, _, _, _, _, _, _, _, _, _, _, _, _, z⟩ := z
              rw [hmk] at z
              cases z) rv 0
            refine ⟨r2, ds, s2, R1, ⟨ra1.1, fun i d v e1 e2 => ?_⟩, z⟩
            have z := ra1.2 i d v e1 e2
            rw [Nat.zero_add, ← epl, ← hcl] at z
            exact z
          · exact run_fnS F (g.hr.mono (Nat.le_succ _)) hb (passAt g.tk σ) I2 r2 z
        | true =>
          have hc := (g.mkr hmk).1
          refine PySem.W.callWith_K (h₀ := X.base) I1.ok.mod.kin hk (thn (h.run pos pins s1 σ _ (fun vs H1 => ∀ H2, Trk (inCl X.env.cells) H1 H2 → CellsIn X σ H2 → spF M X.mg X.K k id vs H2 (fun v H' => Q v (unt (inCl X.env.cells) H')) (fun cls d H' => W cls d σ (unt (inCl X.env.cells) H'))) I1 ⟨ra, ρ, s0, e, r, (PostR.bind (repA := RepArs M X sc ρ (e' :: es)) t).imp fun vs H1 ⟨ds, s2, r2, k1, p1, R1, rv, z⟩ H2 T C => ?_⟩) fun us s2 ⟨vs, H2, I2, r2, z⟩ => ⟨I2.kIn, ?_⟩) hst hbk
          · have ra1 := RepArs.all T.keeps (fun id caps d v z => LamPre.at_ (H := H2) g ok (e.keep k1 p1) T.keeps C z) rv 0
            refine ⟨r2, ds, s2, srel_trk T R1, ⟨ra1.1, fun i d v e1 e2 => ?_⟩, postR_trk T z⟩
            have z := ra1.2 i d v e1 e2
            rw [Nat.zero_add, ← epl, ← hcl] at z
            exact z
          · obtain ⟨t1, t2⟩ := trk_at I2 hc
            have z := z _ t1 t2
            have hl : us.length = ps.length := by rw [← r2.length]; exact F.len _ _ _ _ z
            have b := hb s2 us I2.kIn (by rw [List.append_nil]; exact hl)
            rw [List.append_nil] at b
            have hS := fun b hb => cell_off (b := b) I2 hc hb
            refine wpAny_call (codeAny_mono (F.run X.A X.stack s2 _ ⟨us, []⟩ us vs _ _ (g.hr.mono (Nat.le_succ _)) (trk_env I2.env0 hS) b r2 z) fun r s' hq => ?_)
            have hq := trk_cr (Q := Q) (E := WE W σ) hS (fun v H' z => z) (fun cls d H' z => z) hq
            cases r with
            | error e => exact passAt g.tk σ pins H2 s2 e s' I2 hq
            | ok fl =>
              cases fl with
              | ret u => exact I2.after hq
              | next => exact False.elim hq
              | brk => exact False.elim hq
              | cont => exact False.elim hq
  · rw [if_neg hpl] at t
    exact (show False from t).elim
theorem s_bi (g : Good M N X W k sc fn) {b : Bi} {es : List E} {z : Expr} {xs : List Expr} {p pos : Pos} (hg : glB sc (biName b) = true) (hs : mEs M N sc fn es (z :: xs) = true) (h : GA M X W k es (z :: xs)) :
    GE M X W k (.bi b es) (.Call (.Name (biName b) p) (z :: xs) [] pos) := by
  obtain ⟨r, h1, h2⟩ := bi_all (M := M) g.calm b
  cases es with
  | nil => simp [mEs] at hs
  | cons e es =>
    simp only [mEs, Bool.and_eq_true] at hs
    have hm : X.mg (biName b) = none := g.blt (by cases b <;> simp [bltNames, biName])
    refine plainT (PE.sub (pe_bi b h1 (gl_ok hg g) hm h (star_cons (mE_star hs.1) xs X.env) (mEs_back pos X.env hs.2)) fun σ H Q ⟨ra, ρ, s, e, r, p⟩ => ?_) (fun _ => rfl)
    simp only [evE] at p
    exact tA_bind e r p fun vs H1 ds s1 r1 k1 p1 e1 R1 rv q => h2 W σ H1 r1 s1 ds vs Q R1 rv q
theorem ty_boot (t : Ty) : bootBuiltins (tyName t) = some (.type (tyOf t)) := by cases t <;> decide +kernel
theorem s_isi (g : Good M N X W k sc fn) {a : E} {t : Ty} {z : Expr} {p p2 pos : Pos} (hg : glB sc "isinstance" = true) (hg2 : glB sc (tyName t) = true) (hs : notStar z = true) (ha : GE M X W k a z) :
    GE M X W k (.isi a t) (.Call (.Name "isinstance" p) [z, .Name (tyName t) p2] [] pos) := by
  have hm : X.mg "isinstance" = none := g.blt (by simp [bltNames])
  have hm2 : X.mg (tyName t) = none := g.blt (by cases t <;> simp [bltNames, tyName])
  have hT : PE X (.Name (tyName t) p2) (tC (.ty (tyOf t))) := pe_bltn (gl_ok hg2 g) hm2 (ty_boot t) rfl (by cases t <;> decide) (by cases t <;> decide)
  have hA : PA X [z, .Name (tyName t) p2] (tCons (tE M X W (evE (M.C k) M.G a)) (tCons (tC (.ty (tyOf t))) tNil)) := pa_cons ha.1 (pa_cons hT pa_nil) (star_cons hs _ _)
  refine plainT (PE.sub (pe_callB call_isi (gl_ok hg g) hm PyProof.Rows.boot_isinstance hA (by decide) (by decide) (star_cons hs _ _) rfl) fun σ H Q ⟨ra, ρ, s, e, r, p⟩ => ?_) (fun _ => rfl)
  simp only [evE] at p
  refine tE_bind e r p fun v H1 d s1 r1 k1 p1 e1 R1 rv q => ?_
  cases hb : isiD s1 d t with
  | none => rw [hb] at q; exact q.elim
  | some b =>
    rw [hb] at q
    obtain ⟨u, ty, ki⟩ := isi_of R1 rv hb
    exact ⟨v, .ty (tyOf t), _, _, b, rfl, .ty _, ty, ki, q.fin R1 rfl⟩
theorem s_lrg (g : Good M N X W k sc fn) {es : List E} {xs : List Expr} {p p2 pos pos2 : Pos} (hg : glB sc "list" = true) (hg2 : glB sc "range" = true) (hl : xs.length < 3) (h : GEs M X W k es xs) :
    GE M X W k (.lrg es) (.Call (.Name "list" p) [.Call (.Name "range" p2) xs [] pos2] [] pos) := by
  have hm : X.mg "list" = none := g.blt (by simp [bltNames])
  have hm2 : X.mg "range" = none := g.blt (by simp [bltNames])
  match es, xs, h, hl with
  | [], [], _, _ =>
    refine plainT ⟨fun pins s σ H Q I ⟨ra, ρ, s', e, r, p⟩ => ?_⟩ (fun _ => rfl)
    simp only [evE, evEs, R.bind, rngD, rngNew] at p
    exact p.elim
  | [a], [x], h, _ =>
    refine plainT (PE.sub (pe_listRg g.calm (gl_ok hg g) hm (prg_1 (gl_ok hg2 g) hm2 h.1.1 (star_cons h.2.1 [] X.env))) fun σ H Q ⟨ra, ρ, s, e, r, p⟩ => ?_) (fun _ => rfl)
    simp only [evE, evEs] at p
    have p' : PostR M X.mg X.K W σ (RepV X.K) H ra ((evE (M.C k) M.G a ρ s).bind fun d s1 => rngNew (rngD [d]) newLst s1) Q := by
      revert p
      cases evE (M.C k) M.G a ρ s <;> exact fun p => p
    refine tE_bind e r p' fun v H1 d s1 r1 k1 p1 e1 R1 rv q => ?_
    cases d with
    | int n =>
      simp only [rngD] at q
      split at q
      · rename_i hs
        simp only [rngNew] at q
        split at q
        · rename_i hz
          rw [rngL_length] at hz
          obtain ⟨b1, b2⟩ := small_ok hs
          exact ⟨n, rv, ⟨by decide, by decide, b1, b2, by rw [sizeLine_eq] at hz; exact hz⟩, (PostR.finL q R1 (rng_rep 0 n)).2⟩
        · exact q.elim
      · exact q.elim
    | _ => exact q.elim
  | [a, b], [x, y], h, _ =>
    refine plainT (PE.sub (pe_listRg g.calm (gl_ok hg g) hm (prg_2 (gl_ok hg2 g) hm2 h.1.1 h.2.2.1.1 (star_cons h.2.1 [y] X.env) (star_cons h.2.2.2.1 [] X.env) (by rw [star_cons h.2.2.2.1]; rfl))) fun σ H Q ⟨ra, ρ, s, e, r, p⟩ => ?_) (fun _ => rfl)
    simp only [evE, evEs] at p
    have p' : PostR M X.mg X.K W σ (RepV X.K) H ra ((evE (M.C k) M.G a ρ s).bind fun d s1 => (evE (M.C k) M.G b ρ s1).bind fun d2 s2 => rngNew (rngD [d, d2]) newLst s2) Q := by
      revert p
      cases evE (M.C k) M.G a ρ s with
      | ok d s1 =>
        simp only [R.bind]
        cases evE (M.C k) M.G b ρ s1 <;> exact fun p => p
      | exc c w s1 => exact fun p => p
      | bad => exact fun p => p
    refine tE_bind e r p' fun v H1 d s1 r1 k1 p1 e1 R1 rv q => ?_
    refine tE_bind e1 R1 q fun u H2 d2 s2 r2 k2 p2 e2 R2 ru q2 => ?_
    cases d with
    | int n =>
      cases d2 with
      | int m =>
        simp only [rngD] at q2
        split at q2
        · rename_i hs
          rw [Bool.and_eq_true] at hs
          simp only [rngNew] at q2
          split at q2
          · rename_i hz
            rw [rngL_length] at hz
            obtain ⟨b1, b2⟩ := small_ok hs.1
            obtain ⟨b3, b4⟩ := small_ok hs.2
            exact ⟨n, m, rv, ru, ⟨b1, b2, b3, b4, by rw [sizeLine_eq] at hz; exact hz⟩, (PostR.finL q2 R2 (rng_rep n m)).2⟩
          · exact q2.elim
        · exact q2.elim
      | _ => exact q2.elim
    | _ => cases d2 <;> exact q2.elim
  | _ :: _ :: _ :: _, _ :: _ :: _ :: _, _, hl => exact absurd hl (by simp only [List.length_cons]; omega)
theorem s_trg (g : Good M N X W k sc fn) {es : List E} {xs : List Expr} {p p2 pos pos2 : Pos} (hg : glB sc "tuple" = true) (hg2 : glB sc "range" = true) (hl : xs.length < 3) (h : GEs M X W k es xs) :
    GE M X W k (.trg es) (.Call (.Name "tuple" p) [.Call (.Name "range" p2) xs [] pos2] [] pos) := by
  have hm : X.mg "tuple" = none := g.blt (by simp [bltNames])
  have hm2 : X.mg "range" = none := g.blt (by simp [bltNames])
  match es, xs, h, hl with
  | [], [], _, _ =>
    refine plainT ⟨fun pins s σ H Q I ⟨ra, ρ, s', e, r, p⟩ => ?_⟩ (fun _ => rfl)
    simp only [evE, evEs, R.bind, rngD, rngNew] at p
    exact p.elim
  | [a], [x], h, _ =>
    refine plainT (PE.sub (pe_tupRg g.calm (gl_ok hg g) hm (prg_1 (gl_ok hg2 g) hm2 h.1.1 (star_cons h.2.1 [] X.env))) fun σ H Q ⟨ra, ρ, s, e, r, p⟩ => ?_) (fun _ => rfl)
    simp only [evE, evEs] at p
    have p' : PostR M X.mg X.K W σ (RepV X.K) H ra ((evE (M.C k) M.G a ρ s).bind fun d s1 => rngNew (rngD [d]) (fun l s => .ok (.tup l) s) s1) Q := by
      revert p
      cases evE (M.C k) M.G a ρ s <;> exact fun p => p
    refine tE_bind e r p' fun v H1 d s1 r1 k1 p1 e1 R1 rv q => ?_
    cases d with
    | int n =>
      simp only [rngD] at q
      split at q
      · rename_i hs
        simp only [rngNew] at q
        split at q
        · rename_i hz
          rw [rngL_length] at hz
          obtain ⟨b1, b2⟩ := small_ok hs
          exact ⟨n, rv, ⟨by decide, by decide, b1, b2, by rw [sizeLine_eq] at hz; exact hz⟩, PostR.finT q R1 (rng_rep 0 n)⟩
        · exact q.elim
      · exact q.elim
    | _ => exact q.elim
  | [a, b], [x, y], h, _ =>
    refine plainT (PE.sub (pe_tupRg g.calm (gl_ok hg g) hm (prg_2 (gl_ok hg2 g) hm2 h.1.1 h.2.2.1.1 (star_cons h.2.1 [y] X.env) (star_cons h.2.2.2.1 [] X.env) (by rw [star_cons h.2.2.2.1]; rfl))) fun σ H Q ⟨ra, ρ, s, e, r, p⟩ => ?_) (fun _ => rfl)
    simp only [evE, evEs] at p
    have p' : PostR M X.mg X.K W σ (RepV X.K) H ra ((evE (M.C k) M.G a ρ s).bind fun d s1 => (evE (M.C k) M.G b ρ s1).bind fun d2 s2 => rngNew (rngD [d, d2]) (fun l s => .ok (.tup l) s) s2) Q := by
      revert p
      cases evE (M.C k) M.G a ρ s with
      | ok d s1 =>
        simp only [R.bind]
        cases evE (M.C k) M.G b ρ s1 <;> exact fun p => p
      | exc c w s1 => exact fun p => p
      | bad => exact fun p => p
    refine tE_bind e r p' fun v H1 d s1 r1 k1 p1 e1 R1 rv q => ?_
    refine tE_bind e1 R1 q fun u H2 d2 s2 r2 k2 p2 e2 R2 ru q2 => ?_
    cases d with
    | int n =>
      cases d2 with
      | int m =>
        simp only [rngD] at q2
        split at q2
        · rename_i hs
          rw [Bool.and_eq_true] at hs
          simp only [rngNew] at q2
          split at q2
          · rename_i hz
            rw [rngL_length] at hz
            obtain ⟨b1, b2⟩ := small_ok hs.1
            obtain ⟨b3, b4⟩ := small_ok hs.2
            exact ⟨n, m, rv, ru, ⟨b1, b2, b3, b4, by rw [sizeLine_eq] at hz; exact hz⟩, PostR.finT q2 R2 (rng_rep n m)⟩
          · exact q2.elim
        · exact q2.elim
      | _ => exact q2.elim
    | _ => cases d2 <;> exact q2.elim
  | _ :: _ :: _ :: _, _ :: _ :: _ :: _, _, hl => exact absurd hl (by simp only [List.length_cons]; omega)
theorem pe_meth1 {x y : Expr} {name : Str} {id : String} {r : V → List V → Hp → VK → Prop} {p pos : Pos} {to : TE} {t : TE} (slot : Slot "list" name id) (hty : typeOf (.builtin id) = pure (.type "method_descriptor")) (hm : MtR X id r)
    (hb : plainBase x = true) (hl : (p.endLine == pos.line) = true) (hs : notStar y = true) (ho : PE X x to) (ha : PE X y t) : PE X (.Call (.Attribute x name p) [y] [] pos) (tBM X.K "list" r to (tCons t tNil)) := by
  refine pe_bm PySem.F.plainAttrs_list slot hty hm ho (pa_cons ha pa_nil (star_cons hs [] X.env)) (base_ok hb name X.env) ?_ hl (star_cons hs [] X.env) rfl
  rw [star_cons hs]
  rfl
theorem isL_ok {H : Hp} {ra : List Addr} {s : Store} {d : D} {v : V} (R : SRel X.K H ra s) (rv : RepV X.K H ra d v) (h : isL s d = true) : tyV X.K "list" v H := by
  cases d with
  | ref n =>
    simp only [isL, Option.isSome_iff_exists] at h
    obtain ⟨l, hl⟩ := h
    obtain ⟨a, vs, rfl, ea, hv, r⟩ := ref_lst R rv hl
    exact .inl ⟨rfl, vs, SqL.of hv⟩
  | _ => cases h
theorem s_app {o a : E} {x y : Expr} {p pos : Pos} (hb : plainBase x = true) (hl : (p.endLine == pos.line) = true) (hs : notStar y = true) (ho : GE M X W k o x) (ha : GE M X W k a y) :
    GE M X W k (.app o a) (.Call (.Attribute x "append" p) [y] [] pos) := by
  refine plainT (PE.sub (pe_meth1 PySem.F.slot_list_append PySem.F.type_list_append mt_append hb hl hs ho.1 ha.1) fun σ H Q ⟨ra, ρ, s, e, r, p⟩ => ?_) (fun _ => rfl)
  simp only [evE] at p
  refine tE_bind e r p fun v H1 d s1 r1 k1 p1 e1 R1 rv q => ?_
  split at q
  · rename_i hL
    refine ⟨isL_ok R1 rv hL, ?_⟩
    refine tE_bind e1 R1 q fun u H2 d2 s2 r2 k2 p2 e2 R2 ru q2 => ?_
    have rv2 := RepV.keep k2 p2 d v rv
    cases d with
    | ref n =>
      simp only [appD] at q2
      split at q2
      · rename_i l hl
        split at q2
        · rename_i hz
          obtain ⟨b, vs, eb, ea, hv, rl⟩ := ref_lst R2 rv2 hl
          exact ⟨b, vs, u, eb, rfl, hv, by rw [RepL.length l vs rl]; exact hz, PostR.setFin q2 R2 hl ea (rl.append (RepL.one ru)) rfl⟩
        · exact q2.elim
      · exact q2.elim
    | _ => exact q2.elim
  · exact q.elim
theorem s_ext {o a : E} {x y : Expr} {p pos : Pos} (hb : plainBase x = true) (hl : (p.endLine == pos.line) = true) (hs : notStar y = true) (ho : GE M X W k o x) (ha : GE M X W k a y) :
    GE M X W k (.ext o a) (.Call (.Attribute x "extend" p) [y] [] pos) := by
  refine plainT (PE.sub (pe_meth1 PySem.F.slot_list_extend PySem.F.type_list_extend mt_extend hb hl hs ho.1 ha.1) fun σ H Q ⟨ra, ρ, s, e, r, p⟩ => ?_) (fun _ => rfl)
  simp only [evE] at p
  refine tE_bind e r p fun v H1 d s1 r1 k1 p1 e1 R1 rv q => ?_
  split at q
  · rename_i hL
    refine ⟨isL_ok R1 rv hL, ?_⟩
    refine tE_bind e1 R1 q fun u H2 d2 s2 r2 k2 p2 e2 R2 ru q2 => ?_
    have rv2 := RepV.keep k2 p2 d v rv
    cases d with
    | ref n =>
      cases d2 with
      | ref m =>
        simp only [extD] at q2
        split at q2
        · rename_i l l' hl hm
          split at q2
          · rename_i hz
            obtain ⟨b, vs, eb, ea, hv, rl⟩ := ref_lst R2 rv2 hl
            obtain ⟨b', vs', eb', ea', hv', rl'⟩ := ref_lst R2 ru hm
            exact ⟨b, b', vs, vs', eb, by rw [eb'], hv, hv', by rw [RepL.length l vs rl, RepL.length l' vs' rl']; exact hz, PostR.setFin q2 R2 hl ea (rl.append rl') rfl⟩
          · exact q2.elim
        · exact q2.elim
      | _ => exact q2.elim
    | _ => cases d2 <;> exact q2.elim
  · exact q.elim
theorem s_pop {o a : E} {x y : Expr} {p pos : Pos} (hb : plainBase x = true) (hl : (p.endLine == pos.line) = true) (hs : notStar y = true) (ho : GE M X W k o x) (ha : GE M X W k a y) :
    GE M X W k (.pop o a) (.Call (.Attribute x "pop" p) [y] [] pos) := by
  refine plainT (PE.sub (pe_meth1 PySem.F.slot_list_pop PySem.F.type_list_pop mt_popAt hb hl hs ho.1 ha.1) fun σ H Q ⟨ra, ρ, s, e, r, p⟩ => ?_) (fun _ => rfl)
  simp only [evE] at p
  refine tE_bind e r p fun v H1 d s1 r1 k1 p1 e1 R1 rv q => ?_
  split at q
  · rename_i hL
    refine ⟨isL_ok R1 rv hL, ?_⟩
    refine tE_bind e1 R1 q fun u H2 d2 s2 r2 k2 p2 e2 R2 ru q2 => ?_
    have rv2 := RepV.keep k2 p2 d v rv
    cases d with
    | ref n =>
      cases d2 with
      | int i =>
        simp only [popD] at q2
        split at q2
        · rename_i l hl
          split at q2
          · rename_i hz
            split at q2
            · rename_i j hj
              split at q2
              · rename_i d3 hd3
                obtain ⟨b, vs, eb, ea, hv, rl⟩ := ref_lst R2 rv2 hl
                obtain ⟨v3, e3, rv3⟩ := RepL.get l vs j d3 rl hd3
                have hj' := ixN_seq (show ixN vs.length i = some j by rw [RepL.length l vs rl]; exact hj)
                exact ⟨b, vs, i, j, v3, eb, by rw [show u = .int i from ru], hv, hz.1, hz.2, hj'.1, e3, PostR.setFin q2 R2 hl ea (RepL.erase l vs j rl) rv3⟩
              · exact q2.elim
            · exact q2.elim
          · exact q2.elim
        · exact q2.elim
      | _ => exact q2.elim
    | _ => cases d2 <;> exact q2.elim
  · exact q.elim
def TyD (X : Cx) (T : String) (x : V) (H : Hp) : Prop := ∀ (pins : List (Addr × Obj)) (σ : L2.St) (s : Shared) (v : Value), Inv X pins σ H s → RelV x v → s.TypeIs v T ∧ ∀ a, v = .ref a → ∃ ob, s.heap.get? a = some ob ∧ ob.dict = none
theorem pe_bmD {T : String} {name : Str} {id : String} {o e : Expr} {es : List Expr} {apos cpos : Pos} {to : TE} {t : TA} {r : V → List V → Hp → VK → Prop} (pa : PlainAttrs T) (slot : Slot T name id) (hty : typeOf (.builtin id) = pure (.type "method_descriptor")) (hm : MtR X id r) (ho : PE X o to) (ha : PA X (e :: es) t)
    (hbase : attributeBase o name X.env (eval o X.env) = eval o X.env)
    (hfew : ((backTo cpos (starEach (e :: es) X.env)).all (fun x => !x.1) && (backToKw cpos (keywordEach [] X.env)).all (fun x => x.1.isSome)
      && decide ((e :: es).length + ([] : List Keyword).length + (if ([] : List Keyword).isEmpty then 0 else 1) < 30)) = true)
    (hline : (apos.endLine == cpos.line) = true) (hs : starEach (e :: es) X.env = (false, eval e X.env) :: starEach es X.env) (hplain : (backTo cpos (starEach es X.env)).any (·.1) = false) :
    PE X (.Call (.Attribute o name apos) (e :: es) [] cpos) (fun σ H Q => to σ H fun x H1 => TyD X T x H1 ∧ t σ H1 fun vs H2 => r x vs H2 Q) := by
  refine ⟨fun pins s σ H Q I h => ?_⟩
  refine wpAny_Call_method_late hbase hfew hline rfl (thn (ho.run pins s σ H _ I h) fun v s1 ⟨x, H1, I1, r1, ty, q1⟩ => ?_)
  obtain ⟨h1, h2⟩ := ty pins σ s1 v I1 r1
  refine ⟨T, id, pa, slot, hty, h1, h2, ?_⟩
  have hA := ha.run cpos pins s1 σ H1 _ I1 q1
  rw [hs] at hA ⊢
  refine Calls.callWith_builtin (by show (false || (backTo cpos (starEach es X.env)).any (·.1)) = false; rw [hplain] <;> rfl) (Calls.evalArgs_plain ?_)
  exact thn hA fun us s2 ⟨vs, H2, I2, r2, q2⟩ => hm pins s2 σ H2 x vs v us Q I2 r1 r2 q2
theorem pe_bm0D {T : String} {name : Str} {id : String} {o : Expr} {apos cpos : Pos} {to : TE} {r : V → List V → Hp → VK → Prop} (pa : PlainAttrs T) (slot : Slot T name id) (hty : typeOf (.builtin id) = pure (.type "method_descriptor")) (hm : MtR X id r) (ho : PE X o to)
    (hbase : attributeBase o name X.env (eval o X.env) = eval o X.env) (hline : (apos.endLine == cpos.line) = true) : PE X (.Call (.Attribute o name apos) [] [] cpos) (fun σ H Q => to σ H fun x H1 => TyD X T x H1 ∧ r x [] H1 Q) := by
  refine ⟨fun pins s σ H Q I h => ?_⟩
  refine wpAny_Call_method0_late hbase hline (thn (ho.run pins s σ H _ I h) fun v s1 ⟨x, H1, I1, r1, ty, q1⟩ => ?_)
  obtain ⟨h1, h2⟩ := ty pins σ s1 v I1 r1
  exact ⟨T, id, pa, slot, hty, h1, h2, Calls.callWith_builtin rfl (PySem.evalArgs_none (hm pins s1 σ H1 x [] v [] Q I1 r1 .nil q1))⟩
theorem tyD_str {x : Str} {H : Hp} : TyD X "str" (.str x) H := fun pins σ s v I r => by
  obtain ⟨t, rfl⟩ := r
  exact ⟨typeIs_str _ _ _, fun a h => by cases h⟩
theorem tyD_dct {a : Addr} {kvs : List (L2.Key × V)} {H : Hp} (h : H a = some (.dK kvs)) : TyD X "dict" (.ref a) H := fun pins σ s v I r => by
  obtain rfl : v = Value.ref a := r
  obtain ⟨t1, t2, _⟩ := isD_at I (.inl ⟨kvs, .inl h⟩)
  exact ⟨t1, t2⟩
theorem tyD_gd {a : Addr} {es : Array DictEntry} {n : Nat} {H : Hp} (kd : KDict X.K X.w a es n) : TyD X "dict" (.ref a) H := fun pins σ s v I r => by
  obtain rfl : v = Value.ref a := r
  refine ⟨kd_type kd I, fun b h => ?_⟩
  cases h
  exact ⟨_, I.kIn _ _ kd.at_, rfl⟩
def Me.ty (m : Me) : String := if m.isT then "str" else if m.isD then "dict" else "list"
theorem tyD_at (G : GdOk X.K X.w) {H : Hp} {ra : List Addr} {s : Store} {d : D} {v : V} {m : Me} (R : SRel X.K H ra s) (rv : RepV X.K H ra d v) (h : meT m s d = true) : TyD X m.ty v H := by
  have hD : m.isD = true → m.ty = "dict" := fun z => by cases m <;> first | rfl | cases z
  have hS : m.isS = true → m.ty = "list" := fun z => by cases m <;> first | rfl | cases z
  have hT : m.isT = true → m.ty = "str" := fun z => by cases m <;> first | rfl | cases z
  cases d with
  | str x =>
    rw [show v = .str x from rv, hT h]
    exact tyD_str
  | gd ks vs =>
    obtain ⟨a, rfl, g⟩ := rv
    obtain ⟨⟨es, n, kd⟩, _⟩ := G a ks vs g
    rw [hD h]
    exact tyD_gd kd
  | ref n =>
    simp only [meT, Bool.or_eq_true, Bool.and_eq_true] at h
    rcases h with ⟨h1, h2⟩ | ⟨h1, h2⟩
    · obtain ⟨l, hl⟩ := Option.isSome_iff_exists.mp h2
      obtain ⟨a, vs, rfl, ea, hv, r⟩ := ref_dct R rv hl
      rw [hD h1]
      exact tyD_dct hv
    · have rv' := rv
      rw [hS h1]
      exact fun pins σ s' u I r => tyV_is I r (isL_ok R rv' (show isL s (.ref n) = true from h2))
  | _ => cases h
def MeR (M : Cfg) (X : Cx) (m : Me) (n : Nat) : Prop := ∃ (id : String) (r : V → List V → Hp → VK → Prop), Slot m.ty m.name id ∧ typeOf (.builtin id) = pure (.type "method_descriptor") ∧ MtR X id r ∧
  ∀ (W : WX) (σ : L2.St) (H H1 : Hp) (ra rb : List Addr) (s s1 : Store) (d : D) (v : V) (ds : List D) (vs : List V) (Q : VK), SRel X.K H1 rb s1 → RepV X.K H1 rb d v → RepL X.K H1 rb ds vs → ds.length = n → PostR M X.mg X.K W σ (RepV X.K) H1 rb (meD m d ds s1) Q → r v vs H1 Q
theorem str_of {K : PySem.W.Frag} {H : Hp} {ra : List Addr} {x : Str} {v : V} (h : RepV K H ra (.str x) v) : v = .str x := h
theorem me_join : MeR M X .join 1 := by
  refine ⟨_, _, PySem.F.slot_str_join, PySem.F.type_str_join, mt_join, fun W σ H H1 ra rb s s1 d v ds vs Q R rv rs hl p => ?_⟩
  match ds, hl with
  | [d2], _ =>
    obtain ⟨u, rfl, ru⟩ := one_of rs
    cases d with
    | str a =>
      simp only [meD] at p
      split at p
      · rename_i l hl
        split at p
        · rename_i ys hy
          split at p
          · rename_i hz
            obtain ⟨q, xs, rfl, sq, r⟩ := items_rep R ru hl
            have e := RepL.strsOf l xs ys r hy
            subst e
            exact ⟨a, q, ys, str_of rv, rfl, sq, hz, p.fin R rfl⟩
          · exact p.elim
        · exact p.elim
      · exact p.elim
    | _ => exact p.elim
theorem me_split : MeR M X .split 1 := by
  refine ⟨_, _, PySem.F.slot_str_split, PySem.F.type_str_split, mt_split, fun W σ H H1 ra rb s s1 d v ds vs Q R rv rs hl p => ?_⟩
  match ds, hl with
  | [d2], _ =>
    obtain ⟨u, rfl, ru⟩ := one_of rs
    cases d with
    | str a =>
      cases d2 with
      | str b =>
        simp only [meD] at p
        split at p
        · rename_i hz
          exact ⟨a, b, str_of rv, by rw [str_of ru], by simpa using hz.1, hz.2, (PostR.finL p R (RepL.strsF _)).2⟩
        · exact p.elim
      | _ => exact p.elim
    | _ => exact p.elim
theorem me_zfill : MeR M X .zfill 1 := by
  refine ⟨_, _, PySem.F.slot_str_zfill, PySem.F.type_str_zfill, mt_zfill, fun W σ H H1 ra rb s s1 d v ds vs Q R rv rs hl p => ?_⟩
  match ds, hl with
  | [d2], _ =>
    obtain ⟨u, rfl, ru⟩ := one_of rs
    cases d with
    | str a =>
      cases d2 with
      | int i =>
        simp only [meD] at p
        split at p
        · rename_i hz
          exact ⟨a, i, str_of rv, by rw [show u = .int i from ru], hz, p.fin R rfl⟩
        · exact p.elim
      | _ => exact p.elim
    | _ => exact p.elim
theorem me_part : MeR M X .part 1 := by
  refine ⟨_, _, PySem.F.slot_str_partition, PySem.F.type_str_partition, mt_partition, fun W σ H H1 ra rb s s1 d v ds vs Q R rv rs hl p => ?_⟩
  match ds, hl with
  | [d2], _ =>
    obtain ⟨u, rfl, ru⟩ := one_of rs
    cases d with
    | str a =>
      cases d2 with
      | str b =>
        simp only [meD] at p
        split at p
        · rename_i hz
          exact ⟨a, b, str_of rv, by rw [str_of ru], by simpa using hz.1, hz.2, PostR.finT p R ⟨.str _, _, rfl, rfl, .str _, _, rfl, rfl, .str _, _, rfl, rfl, rfl⟩⟩
        · exact p.elim
      | _ => exact p.elim
    | _ => exact p.elim
theorem mt_rpartition : MtR X "str.rpartition" (fun x xs H Q => ∃ a b, x = .str a ∧ xs = [.str b] ∧ (b.length == 0) = false ∧ a.length ≤ sizeLine ∧
    ∀ p, H p = none → Q (.ref p) (upd H p (.tup [.str (Txt.rpartition a b).1, .str (Txt.rpartition a b).2.1, .str (Txt.rpartition a b).2.2]))) := by
  intro pins s σ H x xs v us Q I rx rs h
  obtain ⟨a, b, rfl, rfl, hb, hz, h⟩ := h
  obtain ⟨t, rfl⟩ := rx
  cases rs with
  | cons r1 rs =>
    cases rs
    obtain ⟨u, rfl⟩ := r1
    refine call_meets F.slot_str_rpartition (typeIs_str _ _ _) F.entry_str_rpartition (F.args_str_rpartition_2 _ _) (meets_str_rpartition a b t u hb hz) ?_
    unfold Txt.rpartition at h
    revert h
    cases Builtin.Str.lastOccurrence a b 0 a.length with
    | none => intro h; exact laid_parts I h
    | some i => intro h; exact laid_parts I h
theorem me_rpart : MeR M X .rpart 1 := by
  refine ⟨_, _, PySem.F.slot_str_rpartition, PySem.F.type_str_rpartition, mt_rpartition, fun W σ H H1 ra rb s s1 d v ds vs Q R rv rs hl p => ?_⟩
  match ds, hl with
  | [d2], _ =>
    obtain ⟨u, rfl, ru⟩ := one_of rs
    cases d with
    | str a =>
      cases d2 with
      | str b =>
        simp only [meD] at p
        split at p
        · rename_i hz
          exact ⟨a, b, str_of rv, by rw [str_of ru], by simpa using hz.1, hz.2, PostR.finT p R ⟨.str _, _, rfl, rfl, .str _, _, rfl, rfl, .str _, _, rfl, rfl, rfl⟩⟩
        · exact p.elim
      | _ => exact p.elim
    | _ => exact p.elim
theorem me_lpop : MeR M X .lpop 0 := by
  refine ⟨_, _, PySem.F.slot_list_pop, PySem.F.type_list_pop, mt_pop, fun W σ H H1 ra rb s s1 d v ds vs Q R rv rs hl p => ?_⟩
  match ds, hl with
  | [], _ =>
    cases d with
    | ref n =>
      simp only [meD] at p
      cases hl : isLst s1 n with
      | none => rw [hl] at p; exact p.elim
      | some l =>
        rw [hl] at p
        simp only at p
        cases hd : l[l.length - 1]? with
        | none => rw [hd] at p; exact p.elim
        | some d3 =>
          rw [hd] at p
          obtain ⟨b, ws, eb, ea, hv, rl⟩ := ref_lst R rv hl
          obtain ⟨v3, e3, rv3⟩ := RepL.get l ws _ d3 rl hd
          have hn := RepL.length l ws rl
          have rd : RepL X.K H1 rb l.dropLast ws.dropLast := by
            rw [List.dropLast_eq_take, List.dropLast_eq_take, hn]
            exact RepL.take l ws _ rl
          exact ⟨b, ws, v3, eb, rs, hv, by rw [hn]; exact e3, PostR.setFin p R hl ea rd rv3⟩
    | _ => exact p.elim
theorem me_upper : MeR M X .upper 0 := by
  refine ⟨_, _, PySem.F.slot_str_upper, PySem.F.type_str_upper, mt_upper, fun W σ H H1 ra rb s s1 d v ds vs Q R rv rs hl p => ?_⟩
  match ds, hl with
  | [], _ =>
    cases d with
    | str a =>
      simp only [meD] at p
      split at p
      · rename_i hz
        exact ⟨a, str_of rv, rs, hz, p.fin R rfl⟩
      · exact p.elim
    | _ => exact p.elim
theorem me_find : MeR M X .find 1 := by
  refine ⟨_, _, PySem.F.slot_str_find, PySem.F.type_str_find, mt_find, fun W σ H H1 ra rb s s1 d v ds vs Q R rv rs hl p => ?_⟩
  match ds, hl with
  | [d2], _ =>
    obtain ⟨u, rfl, ru⟩ := one_of rs
    cases d with
    | str a =>
      cases d2 with
      | str b => exact ⟨a, b, str_of rv, by rw [str_of ru], p.fin R rfl⟩
      | _ => exact p.elim
    | _ => exact p.elim
theorem me_count : MeR M X .count 1 := by
  refine ⟨_, _, PySem.F.slot_str_count, PySem.F.type_str_count, mt_count, fun W σ H H1 ra rb s s1 d v ds vs Q R rv rs hl p => ?_⟩
  match ds, hl with
  | [d2], _ =>
    obtain ⟨u, rfl, ru⟩ := one_of rs
    cases d with
    | str a =>
      cases d2 with
      | str b => exact ⟨a, b, str_of rv, by rw [str_of ru], p.fin R rfl⟩
      | _ => exact p.elim
    | _ => exact p.elim
theorem me_get1 (hu : X.A.units + 1 < cLine) (G : GdOk X.K X.w) : MeR M X .get 1 := by
  refine ⟨_, _, PySem.F.slot_dict_get, PySem.F.type_dict_get, mt_getLk1 hu, fun W σ H H1 ra rb s s1 d v ds vs Q R rv rs hl p => ?_⟩
  match ds, hl with
  | [d2], _ =>
    obtain ⟨u, rfl, ru⟩ := one_of rs
    simp only [meD] at p
    split at p
    · rename_i o ho
      obtain ⟨ov, l, g1, g2⟩ := look_of G R rv ru ho
      refine ⟨u, ov, rfl, l, ?_⟩
      cases o with
      | none => rw [g2 rfl]; exact p.fin R rfl
      | some d3 =>
        obtain ⟨v3, rfl, r3⟩ := g1 d3 rfl
        exact p.fin R r3
    · exact p.elim
theorem me_get2 (hu : X.A.units + 1 < cLine) (G : GdOk X.K X.w) : MeR M X .get 2 := by
  refine ⟨_, _, PySem.F.slot_dict_get, PySem.F.type_dict_get, mt_getLk2 hu, fun W σ H H1 ra rb s s1 d v ds vs Q R rv rs hl p => ?_⟩
  match ds, hl with
  | [d2, e2], _ =>
    obtain ⟨u, u2, rfl, ru, ru2⟩ := two_of rs
    simp only [meD] at p
    split at p
    · rename_i o ho
      obtain ⟨ov, l, g1, g2⟩ := look_of G R rv ru ho
      refine ⟨u, u2, ov, rfl, l, ?_⟩
      cases o with
      | none => rw [g2 rfl]; exact p.fin R ru2
      | some d3 =>
        obtain ⟨v3, rfl, r3⟩ := g1 d3 rfl
        exact p.fin R r3
    · exact p.elim
theorem me_dpop : MeR M X .dpop 1 := by
  refine ⟨_, _, PySem.F.slot_dict_pop, PySem.F.type_dict_pop, mt_dpop1, fun W σ H H1 ra rb s s1 d v ds vs Q R rv rs hl p => ?_⟩
  match ds, hl with
  | [d2], _ =>
    obtain ⟨u, rfl, ru⟩ := one_of rs
    cases d with
    | ref n =>
      simp only [meD] at p
      cases hl : isDct s1 n with
      | none => rw [hl] at p; exact p.elim
      | some l =>
        cases hk : keyD d2 with
        | none => rw [hl, hk] at p; exact p.elim
        | some kk =>
          rw [hl, hk] at p
          simp only at p
          cases hv : valD l kk with
          | none => rw [hv] at p; exact p.elim
          | some d3 =>
            rw [hv] at p
            obtain ⟨a, kvs, rfl, ea, hh, rm⟩ := ref_dct R rv hl
            obtain ⟨v3, e3, r3⟩ := (rm.val kk).1 d3 hv
            exact ⟨a, kvs, kk, v3, rfl, by rw [keyD_kV hk ru], hh, e3, PostR.setFinD p R hl ea (rm.drop kk) r3⟩
    | _ => exact p.elim
theorem me_update : MeR M X .update 1 := by
  refine ⟨_, _, PySem.F.slot_dict_update, PySem.F.type_dict_update, mt_update, fun W σ H H1 ra rb s s1 d v ds vs Q R rv rs hl p => ?_⟩
  match ds, hl with
  | [d2], _ =>
    obtain ⟨u, rfl, ru⟩ := one_of rs
    cases d with
    | ref n =>
      cases d2 with
      | ref m =>
        simp only [meD] at p
        cases hl : isDct s1 n with
        | none => rw [hl] at p; exact p.elim
        | some l =>
          cases hl2 : isDct s1 m with
          | none => rw [hl, hl2] at p; exact p.elim
          | some l2 =>
            rw [hl, hl2] at p
            simp only at p
            split at p
            · rename_i hc
              obtain ⟨a, kvs, rfl, ea, hh, rm⟩ := ref_dct R rv hl
              obtain ⟨b, kvs2, rfl, eb, hh2, rm2⟩ := ref_dct R ru hl2
              refine ⟨a, b, kvs, kvs2, rfl, rfl, fun z => hc.1 ?_, hh, hh2, by rw [rm.length, rm2.length]; exact hc.2, PostR.setFinD p R hl ea (repM_merge rm rm2) rfl⟩
              subst z
              obtain ⟨g1, g2⟩ := List.getElem?_eq_some_iff.mp ea
              obtain ⟨g3, g4⟩ := List.getElem?_eq_some_iff.mp eb
              exact (List.getElem_inj R.nd).mp (g2.trans g4.symm)
            · exact p.elim
      | _ => exact p.elim
    | _ => exact p.elim
theorem intsOf_rep {K : PySem.W.Frag} {H : Hp} {ra : List Addr} : ∀ {l : List D} {ns : List Int} {vs : List V}, intsOf l = some ns → RepL K H ra l vs → vs = ns.map V.int
  | [], ns, vs, h, r => by
    cases h
    exact r
  | d :: l, ns, vs, h, r => by
    cases d with
    | int i =>
      simp only [intsOf, Option.map_eq_some_iff] at h
      obtain ⟨ms, hm, rfl⟩ := h
      obtain ⟨v, ws, rfl, rv, rw'⟩ := r
      rw [show v = .int i from rv, intsOf_rep hm rw']
      rfl
    | _ => cases h
theorem me_index : MeR M X .index 1 := by
  refine ⟨_, _, PySem.F.slot_list_index, PySem.F.type_list_index, mt_index, fun W σ H H1 ra rb s s1 d v ds vs Q R rv rs hl p => ?_⟩
  match ds, hl with
  | [d2], _ =>
    obtain ⟨u, rfl, ru⟩ := one_of rs
    cases d with
    | ref n =>
      cases d2 with
      | int i =>
        simp only [meD] at p
        cases hl : isLst s1 n with
        | none => rw [hl] at p; exact p.elim
        | some l =>
          rw [hl] at p
          simp only at p
          cases hi : intsOf l with
          | none => rw [hi] at p; exact p.elim
          | some ns =>
            rw [hi] at p
            simp only at p
            cases hj : ns.findIdx? (· == i) with
            | none => rw [hj] at p; exact p.elim
            | some j =>
              rw [hj] at p
              obtain ⟨b, ws, eb, ea, hv, rl⟩ := ref_lst R rv hl
              have ew := intsOf_rep hi rl
              subst ew
              obtain ⟨hjl, hj1, hj2⟩ := List.findIdx?_eq_some_iff_getElem.mp hj
              refine ⟨b, ns.map V.int, .int i, j, .int ns[j], eb, by rw [show u = .int i from ru], (.inl (.inl hv)), rfl, ?_, ?_, ?_, ?_, p.fin R rfl⟩
              · rw [List.all_eq_true]
                intro x hx
                obtain ⟨m, _, rfl⟩ := List.mem_map.mp hx
                rfl
              · rw [List.getElem?_map, List.getElem?_eq_getElem hjl]
                rfl
              · have : ns[j] = i := by simpa using hj1
                rw [this]
                exact beq_self_eq_true i
              · intro m z hm hz
                rw [List.getElem?_map] at hz
                have hml : m < ns.length := by omega
                rw [List.getElem?_eq_getElem hml] at hz
                cases hz
                have : ns[m] ≠ i := by simpa using hj2 m hm
                exact beq_false_of_ne this
      | _ => exact p.elim
    | _ => exact p.elim
theorem me_insert : MeR M X .insert 2 := by
  refine ⟨_, _, PySem.F.slot_list_insert, PySem.F.type_list_insert, mt_insert, fun W σ H H1 ra rb s s1 d v ds vs Q R rv rs hl p => ?_⟩
  match ds, hl with
  | [d2, e2], _ =>
    obtain ⟨u, u2, rfl, ru, ru2⟩ := two_of rs
    cases d with
    | ref n =>
      cases d2 with
      | int i =>
        simp only [meD] at p
        cases hl : isLst s1 n with
        | none => rw [hl] at p; exact p.elim
        | some l =>
          rw [hl] at p
          simp only at p
          split at p
          · rename_i hz
            obtain ⟨b, ws, eb, ea, hv, rl⟩ := ref_lst R rv hl
            have hn := RepL.length l ws rl
            exact ⟨b, ws, i, u2, eb, by rw [show u = .int i from ru], hv, by rw [hn]; exact hz.1, hz.2.1, hz.2.2, PostR.setFin p R hl ea (RepL.append (RepL.append (RepL.take l ws _ rl) ⟨_, _, rfl, ru2, rfl⟩) (RepL.drop l ws _ rl)) rfl⟩
          · exact p.elim
      | _ => exact p.elim
    | _ => exact p.elim
theorem me_all (hu : X.A.units + 1 < cLine) (G : GdOk X.K X.w) (m : Me) (n : Nat) (h : m.ar n = true) : MeR M X m n := by
  unfold Me.ar at h
  cases m with
  | join => rw [beq_iff_eq] at h; subst h; exact me_join
  | split => rw [beq_iff_eq] at h; subst h; exact me_split
  | zfill => rw [beq_iff_eq] at h; subst h; exact me_zfill
  | part => rw [beq_iff_eq] at h; subst h; exact me_part
  | rpart => rw [beq_iff_eq] at h; subst h; exact me_rpart
  | lpop => rw [beq_iff_eq] at h; subst h; exact me_lpop
  | index => rw [beq_iff_eq] at h; subst h; exact me_index
  | insert => rw [beq_iff_eq] at h; subst h; exact me_insert
  | upper => rw [beq_iff_eq] at h; subst h; exact me_upper
  | find => rw [beq_iff_eq] at h; subst h; exact me_find
  | count => rw [beq_iff_eq] at h; subst h; exact me_count
  | get =>
    rw [Bool.or_eq_true, beq_iff_eq, beq_iff_eq] at h
    rcases h with rfl | rfl
    · exact me_get1 hu G
    · exact me_get2 hu G
  | dpop => rw [beq_iff_eq] at h; subst h; exact me_dpop
  | update => rw [beq_iff_eq] at h; subst h; exact me_update
theorem ar_le {m : Me} {n : Nat} (h : m.ar n = true) : n ≤ 2 := by
  unfold Me.ar at h
  cases m <;> simp at h <;> omega
theorem plain_at (m : Me) : PlainAttrs m.ty := by
  cases m <;> first | exact PySem.F.plainAttrs_str | exact PySem.F.plainAttrs_dict | exact PySem.F.plainAttrs_list
theorem mEs_len : ∀ {es : List E} {xs : List Expr}, mEs M N sc fn es xs = true → es.length = xs.length
  | [], xs, h => by
    cases xs with
    | nil => rfl
    | cons x r => simp [mEs] at h
  | e :: es, xs, h => by
    cases xs with
    | nil => simp [mEs] at h
    | cons x r =>
      simp only [mEs, Bool.and_eq_true] at h
      rw [List.length_cons, List.length_cons, mEs_len h.2]
theorem evs_len (C : Calls) (G : Globs) : ∀ (es : List E) (ρ : Env) (s s1 : Store) (ds : List D), evEs C G es ρ s = .ok ds s1 → ds.length = es.length
  | [], ρ, s, s1, ds, h => by simp only [evEs] at h; cases h; rfl
  | e :: es, ρ, s, s1, ds, h => by
    simp only [evEs] at h
    cases h1 : evE C G e ρ s with
    | ok d s2 =>
      rw [h1] at h
      simp only [R.bind] at h
      cases h2 : evEs C G es ρ s2 with
      | ok ds' s3 =>
        rw [h2] at h
        cases h
        rw [List.length_cons, List.length_cons, evs_len C G es ρ s2 _ ds' h2]
      | exc c w s3 => rw [h2] at h; cases h
      | bad => rw [h2] at h; cases h
    | exc c w s2 => rw [h1] at h; cases h
    | bad => rw [h1] at h; cases h
theorem s_meth (g : Good M N X W k sc fn) {m : Me} {o : E} {es : List E} {y : Expr} {xs : List Expr} {p pos : Pos} (hb : plainBase y = true) (hl : (p.endLine == pos.line) = true) (ha : m.ar xs.length = true) (hs : mEs M N sc fn es xs = true) (ho : GE M X W k o y) (h : GA M X W k es xs) :
    GE M X W k (.meth m o es) (.Call (.Attribute y m.name p) xs [] pos) := by
  obtain ⟨id, r, slot, ty, mt, rule⟩ := me_all (M := M) (show X.A.units + 1 < cLine by have := g.hr.un; omega) g.st.gds m xs.length ha
  have hn := mEs_len hs
  cases xs with
  | nil =>
    cases es with
    | cons e es => simp [mEs] at hs
    | nil =>
      refine plainT (PE.sub (pe_bm0D (plain_at m) slot ty mt ho.1 (base_ok hb _ X.env) hl) fun σ H Q ⟨ra, ρ, s, e, r1, p⟩ => ?_) (fun _ => rfl)
      simp only [evE] at p
      refine tE_bind e r1 p fun v H1 d s1 rb k1 p1 e1 R1 rv q => ?_
      split at q
      · rename_i hT
        refine ⟨tyD_at g.st.gds R1 rv hT, ?_⟩
        simp only [evEs, R.bind] at q
        exact rule W σ H H1 ra rb s s1 d v [] [] Q R1 rv rfl rfl q
      · exact q.elim
  | cons x xs =>
    cases es with
    | nil => simp [mEs] at hs
    | cons e es =>
      have hs' := hs
      simp only [mEs, Bool.and_eq_true] at hs
      have hst := star_cons (mE_star hs.1) xs X.env
      have hbk := mEs_back pos X.env hs.2
      have hfew : ((backTo pos (starEach (x :: xs) X.env)).all (fun x => !x.1) && (backToKw pos (keywordEach [] X.env)).all (fun x => x.1.isSome)
          && decide ((x :: xs).length + ([] : List Keyword).length + (if ([] : List Keyword).isEmpty then 0 else 1) < 30)) = true := by
        have h2 := ar_le ha
        have h1 := mEs_back pos X.env hs'
        rw [Bool.and_eq_true, Bool.and_eq_true]
        refine ⟨⟨?_, rfl⟩, decide_eq_true (by simp only [List.length_nil, List.isEmpty_nil, if_true]; omega)⟩
        rw [List.all_eq_true]
        rw [List.any_eq_false] at h1
        intro z hz
        have := h1 z hz
        simpa using this
      refine plainT (PE.sub (pe_bmD (plain_at m) slot ty mt ho.1 h (base_ok hb _ X.env) hfew hl hst hbk) fun σ H Q ⟨ra, ρ, s, e0, r1, p⟩ => ?_) (fun _ => rfl)
      simp only [evE] at p
      refine tE_bind e0 r1 p fun v H1 d s1 rb k1 p1 e1 R1 rv q => ?_
      split at q
      · rename_i hT
        refine ⟨tyD_at g.st.gds R1 rv hT, ?_⟩
        refine ⟨rb, ρ, s1, e1, R1, ?_⟩
        cases hx : evEs (M.C k) M.G (e :: es) ρ s1 with
        | ok ds s2 =>
          rw [hx] at q
          simp only [R.bind] at q
          intro vs rc H2 k2 p2 R2 rs
          exact rule W σ H H2 ra rc s s2 d v ds vs Q R2 (RepV.keep k2 p2 d v rv) rs (by rw [evs_len _ _ _ _ _ _ _ hx, hn]) (PostR.mono q k2 p2)
        | exc c w s2 => rw [hx] at q; exact q
        | bad => rw [hx] at q; exact q
      · exact q.elim
def dTrs (M : Cfg) (X : Cx) (W : WX) (k : Nat) : List Str → List E → List (TE × TE)
  | x :: ks, e :: es => ((fun σ H Q => Q (.str x) H), tE M X W (evE (M.C k) M.G e)) :: dTrs M X W k ks es
  | _, _ => []
theorem dl_pps {pos : Pos} : ∀ {ks : List Str} {es : List E} {keys : List (Option Expr)} {xs : List Expr}, mKeys ks keys = true → GEs M X W k es xs → ks.length = xs.length → PPs X pos keys xs (dTrs M X W k ks es)
  | [], es, keys, xs, h, g, l => by
    cases xs with
    | cons x xs => cases l
    | nil =>
      cases es with
      | cons e es => exact g.elim
      | nil =>
        cases keys with
        | nil => exact pps_nil
        | cons a b => simp [mKeys] at h
  | y :: ks, es, keys, xs, h, g, l => by
    cases xs with
    | nil => cases l
    | cons x xs =>
      cases es with
      | nil => exact g.elim
      | cons e es =>
        unfold mKeys at h
        split at h
        · rename_i q
          cases q
        · rename_i q
          cases q
          rw [Bool.and_eq_true, decide_eq_true_eq] at h
          obtain ⟨rfl, h⟩ := h
          exact pps_cons (PE.sub pe_str fun σ H Q q => q) g.1.1 (dl_pps h g.2.2 (by simpa using l))
        · cases h
theorem dl_pairs {σ : L2.St} : ∀ {ks : List Str} {es : List E} {ρ : Env} {s : Store} {H : Hp} {ra : List Addr} {Q0 : List V → Hp → Prop} {Q : List (V × V) → Hp → Prop}, ks.length = es.length → ERel X.K H ra ρ σ → SRel X.K H ra s → PostR M X.mg X.K W σ (RepL X.K) H ra (evEs (M.C k) M.G es ρ s) Q0 →
    (∀ vs H', Q0 vs H' → Q ((ks.zip vs).map fun p => (.str p.1, p.2)) H') → tPairs (dTrs M X W k ks es) σ H Q
  | [], [], ρ, s, H, ra, Q0, Q, _, e, r, p, h => by
    simp only [evEs] at p
    exact h [] H (p.fin r rfl)
  | x :: ks, e0 :: es, ρ, s, H, ra, Q0, Q, l, e, r, p, h => by
    simp only [evEs] at p
    show tE M X W (evE (M.C k) M.G e0) σ H fun y H2 => tPairs (dTrs M X W k ks es) σ H2 fun ps H3 => Q ((.str x, y) :: ps) H3
    refine tE_bind e r p fun v H1 d s1 r1 k1 p1 e1 R1 rv q => ?_
    exact dl_pairs (Q0 := fun vs H3 => Q0 (v :: vs) H3) (by simpa using l) e1 R1 ((PostR.bind (repA := RepL X.K) q).imp fun vs H2 ⟨ds, s2, r2, k2, p2, R2, rvs, q2⟩ => q2.fin R2 ⟨v, vs, rfl, RepV.keep k2 p2 d v rv, rvs⟩) fun vs H' z => h (v :: vs) H' z
  | [], _ :: _, _, _, _, _, _, _, l, _, _, _, _ => by cases l
  | _ :: _, [], _, _, _, _, _, _, l, _, _, _, _ => by cases l
theorem dkeys_len : ∀ {ks : List Str} {keys : List (Option Expr)}, mKeys ks keys = true → keys.length = ks.length ∧ keys.all (·.isSome) = true
  | [], [], _ => ⟨rfl, rfl⟩
  | [], _ :: _, h => by simp [mKeys] at h
  | y :: ks, keys, h => by
    unfold mKeys at h
    split at h
    · rename_i q
      cases q
    · rename_i q
      cases q
      rw [Bool.and_eq_true] at h
      obtain ⟨a, b⟩ := dkeys_len h.2
      exact ⟨by simp [a], by simpa using b⟩
    · cases h
theorem s_dlit {ks : List Str} {es : List E} {keys : List (Option Expr)} {xs : List Expr} {pos : Pos} (h0 : keys.isEmpty = false) (h15 : keys.length ≤ 15) (hl : ks.length = xs.length) (hk : mKeys ks keys = true) (g : GEs M X W k es xs) (hes : es.length = xs.length) : GE M X W k (.dlit ks es) (.Dict keys xs pos) := by
  obtain ⟨l1, l2⟩ := dkeys_len hk
  refine plainT (PE.sub (pe_disp (dl_pps hk g hl) l2 (by rw [l1, hl]) (by intro z; rw [z] at h0; cases h0) h15) fun σ H Q ⟨ra, ρ, s, e, r, p⟩ p0 hp0 => ?_) (fun _ => rfl)
  simp only [evE] at p
  have k0 : Keeps H (upd H p0 (.dK [])) := Keeps.new hp0
  have pf : ra <+: ra ++ [p0] := List.prefix_append _ _
  have R0 := r.newD hp0 (l := []) (vs := []) RepM.nil
  have p' := p.mono k0 pf
  refine dl_pairs (by rw [hl, hes]) (e.keep k0 pf) R0 (PostR.bind (repA := RepL X.K) p') fun vs H1 ⟨ds, s1, r1, k1, p1, R1, rvs, q⟩ => ?_
  split at q
  · rename_i hc
    have ea : r1[s.length]? = some p0 := by
      obtain ⟨t, rfl⟩ := p1
      rw [List.append_assoc, List.getElem?_append_right (by rw [r.len]; exact Nat.le_refl _), r.len, Nat.sub_self]
      rfl
    obtain ⟨a, vs0, ea', hv, rm⟩ := R1.dct hc.2
    rw [ea] at ea'
    cases ea'
    have : vs0 = [] := List.eq_nil_of_length_eq_zero rm.length
    subst this
    have lv := RepL.length ds vs rvs
    refine ⟨hv, (ks.map Sum.inr).zip vs, ?_, ?_, PostR.setFinD q R1 hc.2 ea (repM_merge RepM.nil ⟨?_, ?_⟩) ⟨p0, ea, rfl⟩⟩
    · rw [List.zip_map_left, List.map_map]
      rfl
    · rw [List.length_zip, List.length_map]
      omega
    · rw [List.map_fst_zip (by rw [List.length_map]; omega), List.map_fst_zip (by rw [List.length_map]; omega)]
    · rw [List.map_snd_zip (by rw [List.length_map]; omega), List.map_snd_zip (by rw [List.length_map]; omega)]
      exact rvs
  · exact q.elim
theorem s_dnew {pos : Pos} : GE M X W k .dnew (.Dict [] [] pos) := by
  refine plainT (PE.sub pe_dnewK fun σ H Q ⟨ra, ρ, s, e, r, p⟩ => ?_) (fun _ => rfl)
  simp only [evE] at p
  exact PostR.finD (l := []) p r RepM.nil
theorem mEs_split : ∀ {es : List E} {xs : List Expr} {v : Expr}, mEs M N sc fn es (xs ++ [v]) = true → ∃ es1 e1, es = es1 ++ [e1] ∧ mEs M N sc fn es1 xs = true ∧ mE M N sc fn e1 v = true
  | [], xs, v, h => by cases xs <;> simp [mEs] at h
  | e :: es, [], v, h => by
    rw [List.nil_append] at h
    simp only [mEs, Bool.and_eq_true] at h
    have e0 : es = [] := by
      cases es with
      | nil => rfl
      | cons a b => simp [mEs] at h
    subst e0
    exact ⟨[], e, rfl, rfl, h.1⟩
  | e :: es, x :: xs, v, h => by
    simp only [List.cons_append, mEs, Bool.and_eq_true] at h
    obtain ⟨es1, e1, rfl, h2, h3⟩ := mEs_split h.2
    exact ⟨e :: es1, e1, rfl, by simp [mEs, h.1, h2], h3⟩
theorem GEs_split : ∀ {es : List E} {xs : List Expr} {e1 : E} {v : Expr}, GEs M X W k (es ++ [e1]) (xs ++ [v]) → es.length = xs.length → GEs M X W k es xs ∧ GE M X W k e1 v
  | [], [], e1, v, h, _ => ⟨trivial, h.1⟩
  | e :: es, x :: xs, e1, v, h, hl => by
    obtain ⟨a, b⟩ := GEs_split (es := es) (xs := xs) h.2.2 (by simpa using hl)
    exact ⟨⟨h.1, h.2.1, a⟩, b⟩
  | [], _ :: _, _, _, _, hl => by simp at hl
  | _ :: _, [], _, _, _, hl => by simp at hl
theorem evEs_snoc (C : Calls) (G : Globs) (e1 : E) : ∀ (es : List E) (ρ : Env) (s : Store), evEs C G (es ++ [e1]) ρ s = (evEs C G es ρ s).bind fun l s => (evE C G e1 ρ s).bind fun d s => .ok (l ++ [d]) s
  | [], ρ, s => by
    simp only [List.nil_append, evEs, R.bind]
    try (cases evE C G e1 ρ s <;> rfl)
  | e :: es, ρ, s => by
    simp only [List.cons_append, evEs]
    cases evE C G e ρ s with
    | ok d s1 =>
      simp only [R.bind]
      rw [evEs_snoc C G e1 es ρ s1]
      cases evEs C G es ρ s1 with
      | ok l s2 =>
        simp only [R.bind]
        cases evE C G e1 ρ s2 <;> rfl
      | exc c w s2 => rfl
      | bad => rfl
    | exc c w s1 => rfl
    | bad => rfl
theorem cw_any {es : List E} {xs : List Expr} {kws : List Keyword} {pos : Pos} {pins : List (Addr × Obj)} {s : Shared} {σ : L2.St} {H : Hp} {Q : VK} {f : Value} {first : List Value} {ra : List Addr} {ρ : Env} {s0 : Store} {gk : List D → Store → R D} (hk : PySem.W.keepIn X.K f = true) (hs : mEs M N sc fn es (xs ++ kwE kws) = true) (hg : GEs M X W k es (xs ++ kwE kws)) (sh : kwS kws = true)
    (I : Inv X pins σ H s) (e : ERel X.K H ra ρ σ) (r : SRel X.K H ra s0) (t : PostR M X.mg X.K W σ (RepV X.K) H ra ((evEs (M.C k) M.G es ρ s0).bind gk) Q)
    (go : ∀ (us args : List Value) (kw : List (Str × Value)) (s3 : Shared) (vs : List V) (H2 : Hp), Inv X pins σ H2 s3 → Vals vs us → ((kw = [] ∧ args = us ∧ kws = []) ∨ ∃ x z v p, kws = [⟨some x, v, p⟩] ∧ us = args ++ [z] ∧ kw = [(x, z)]) →
      (∃ ds1 s4 r2, Keeps H H2 ∧ ra <+: r2 ∧ SRel X.K H2 r2 s4 ∧ RepL X.K H2 r2 ds1 vs ∧ PostR M X.mg X.K W σ (RepV X.K) H2 r2 (gk ds1 s4) Q) → wpAny (model X.prog X.w) X.A (call f (first ++ args) kw) (EP X pins σ Q) X.xe s3) :
    wpAny (model X.prog X.w) X.A (callWith pos f first (backTo pos (starEach xs X.env)) (backToKw pos (keywordEach kws X.env))) (EP X pins σ Q) X.xe s := by
  match kws, sh with
  | [], _ =>
    rw [show xs ++ kwE [] = xs by simp [kwE]] at hs hg
    cases xs with
    | nil =>
      cases es with
      | cons e es => simp [mEs] at hs
      | nil =>
        simp only [evEs, R.bind] at t
        exact PySem.W.callWith_K0 (first := first) I.kIn hk (go [] [] [] s [] H I .nil (.inl ⟨rfl, rfl, rfl⟩) ⟨[], s0, ra, Keeps.refl _, List.prefix_refl _, r, rfl, t⟩)
    | cons x xs =>
      cases es with
      | nil => simp [mEs] at hs
      | cons e0 es =>
        have h := GEs.ga hg
        simp only [mEs, Bool.and_eq_true] at hs
        refine PySem.W.callWith_K (first := first) (h₀ := X.base) I.ok.mod.kin hk (thn (h.run pos pins s σ H (fun vs H2 => ∃ ds1 s4 r2, Keeps H H2 ∧ ra <+: r2 ∧ SRel X.K H2 r2 s4 ∧ RepL X.K H2 r2 ds1 vs ∧ PostR M X.mg X.K W σ (RepV X.K) H2 r2 (gk ds1 s4) Q) I (tA_bind e r t fun vs H2 ds1 s4 r2 k2 p2 e2 R2 rl q2 => ⟨ds1, s4, r2, k2, p2, R2, rl, q2⟩)) fun us s3 ⟨vs, H2, I2, r2, q2⟩ => ⟨I2.kIn, go us us [] s3 vs H2 I2 r2 (.inl ⟨rfl, rfl, rfl⟩) q2⟩) (star_cons (mE_star hs.1) xs X.env) (mEs_back pos X.env hs.2)
  | [⟨some x, v, p⟩], _ =>
    have ek : xs ++ kwE [⟨some x, v, p⟩] = xs ++ [v] := rfl
    rw [ek] at hs hg
    obtain ⟨es1, e1, rfl, h1, h2⟩ := mEs_split hs
    obtain ⟨g1, g2⟩ := GEs_split hg (mEs_len h1)
    rw [evEs_snoc] at t
    have kwv : ∀ {us : List Value} {s3 : Shared} {vs : List V} {H2 : Hp} {ds1 : List D} {s4 : Store} {r2 : List Addr}, Inv X pins σ H2 s3 → Vals vs us → Keeps H H2 → ra <+: r2 → SRel X.K H2 r2 s4 → RepL X.K H2 r2 ds1 vs → ERel X.K H2 r2 ρ σ → PostR M X.mg X.K W σ (RepV X.K) H2 r2 (((evE (M.C k) M.G e1 ρ s4).bind fun d s => R.ok (ds1 ++ [d]) s).bind gk) Q →
        wpAny (model X.prog X.w) X.A (evalAll ((backToKw pos (keywordEach [⟨some x, v, p⟩] X.env)).map (·.2))) (fun ks s2 => X.K.In s2.heap ∧ wpAny (model X.prog X.w) X.A (call f (first ++ us) (((backToKw pos (keywordEach [⟨some x, v, p⟩] X.env)).filterMap (·.1)).zip ks)) (EP X pins σ Q) X.xe s2) X.xe s3 := by
      intro us s3 vs H2 ds1 s4 r2 I2 rv k2 p2 R2 rl e2 q
      have q : PostR M X.mg X.K W σ (RepV X.K) H2 r2 ((evE (M.C k) M.G e1 ρ s4).bind fun d s => gk (ds1 ++ [d]) s) Q := by
        cases hq : evE (M.C k) M.G e1 ρ s4 with
        | ok d s5 => rw [hq] at q; exact q
        | exc c w s5 => rw [hq] at q; exact q
        | bad => rw [hq] at q; exact q
      refine thn ((pk_cons (nm := some x) (kpos := p) g2.1 pk_nil).run pos pins s3 σ H2 (fun zs H3 => ∃ z d s5 r3, zs = [z] ∧ Keeps H2 H3 ∧ r2 <+: r3 ∧ SRel X.K H3 r3 s5 ∧ RepV X.K H3 r3 d z ∧ PostR M X.mg X.K W σ (RepV X.K) H3 r3 (gk (ds1 ++ [d]) s5) Q) I2 (show tCons _ tNil σ H2 _ from tE_bind e2 R2 q fun z H3 d s5 r3 k3 p3 e3 R3 rz q3 => ⟨z, d, s5, r3, rfl, k3, p3, R3, rz, q3⟩)) fun ws s5 ⟨zs, H3, I3, rw3, z, d, s6, r3, ez, k3, p3, R3, rz, q3⟩ => ⟨I3.kIn, ?_⟩
      subst ez
      obtain ⟨w, rfl, rzw⟩ := vals1 rw3
      exact go (us ++ [w]) us [(x, w)] s5 (vs ++ [z]) H3 I3 (rv.append (.cons rzw .nil)) (.inr ⟨x, w, v, p, rfl, rfl, rfl⟩) ⟨ds1 ++ [d], s6, r3, k2.trans k3, p2.trans p3, R3, (RepL.keep k3 p3 _ _ rl).append (RepL.one rz), q3⟩
    have t : PostR M X.mg X.K W σ (RepV X.K) H ra ((evEs (M.C k) M.G es1 ρ s0).bind fun l s => (((evE (M.C k) M.G e1 ρ s).bind fun d s => R.ok (l ++ [d]) s).bind gk)) Q := by
      cases hq : evEs (M.C k) M.G es1 ρ s0 with
      | ok d s5 => rw [hq] at t; exact t
      | exc c w s5 => rw [hq] at t; exact t
      | bad => rw [hq] at t; exact t
    cases xs with
    | nil =>
      cases es1 with
      | cons e es => simp [mEs] at h1
      | nil =>
        simp only [evEs, R.bind] at t
        exact PySem.W.callWith_KW0 (first := first) (h₀ := X.base) I.ok.mod.kin hk rfl (kwv (us := []) (vs := []) (ds1 := []) I .nil (Keeps.refl _) (List.prefix_refl _) r rfl e t) rfl
    | cons y xs =>
      cases es1 with
      | nil => simp [mEs] at h1
      | cons e0 es =>
        have h := GEs.ga g1
        have h1' := h1
        simp only [mEs, Bool.and_eq_true] at h1
        refine PySem.W.callWith_KW (first := first) (h₀ := X.base) I.ok.mod.kin hk rfl (thn (h.run pos pins s σ H (fun vs H2 => ∃ ds1 s4 r2, Keeps H H2 ∧ ra <+: r2 ∧ SRel X.K H2 r2 s4 ∧ RepL X.K H2 r2 ds1 vs ∧ ERel X.K H2 r2 ρ σ ∧ PostR M X.mg X.K W σ (RepV X.K) H2 r2 (((evE (M.C k) M.G e1 ρ s4).bind fun d s => R.ok (ds1 ++ [d]) s).bind gk) Q) I (tA_bind e r t fun vs H2 ds1 s4 r2 k2 p2 e2 R2 rl q2 => ⟨ds1, s4, r2, k2, p2, R2, rl, e2, q2⟩)) fun us s3 ⟨vs, H2, I2, rv, ds1, s4, r2, k2, p2, R2, rl, e2, q2⟩ => kwv I2 rv k2 p2 R2 rl e2 q2) (by rw [mEs_back pos X.env h1']; rfl) (star_cons (mE_star h1.1) xs X.env)
theorem RepAs.app {H : Hp} {ra : List Addr} {ds : List D} {vs : List V} {ds2 : List D} {vs2 : List V} (h : RepL X.K H ra ds vs) (h2 : RepL X.K H ra ds2 vs2) : RepAs M X.mg [] X.K H ra (ds ++ ds2) (vs ++ vs2) := RepAs.of (h.append h2)
theorem run_kw {f : Nat} {a : Addr} {fdat : FuncData} {ps : List Str} {dvs : List V} {dus : List Value} {ds : List D} {kws : List Keyword} {pins : List (Addr × Obj)} {s : Shared} {σ : L2.St} {H : Hp} {Q : VK} {us args : List Value} {vs : List V} {kw : List (Str × Value)} {sp : Sp} (g : Good M N X W k sc fn) (F : FnOk X.prog X.w X.K X.mg X.base (L2.CX X.prog X.w) (2 * k + 2) a fdat ps sp) (hb : Binds X.K fdat ps dus) (hd : Vals dvs dus)
    (hkb : ∀ x, (M.prm f).getLast? = some x → ∀ (s : Shared) (us : List Value) (v : Value), X.K.In s.heap → us.length + 1 = ps.length → BindsTo s fdat ⟨us, [(x, v)]⟩ (ps.zip (us ++ [v]))) (hkw : kwOk M f ds kws = true) (hds : ds = [] → dvs = [])
    (I : Inv X pins σ H s) (r : Vals vs us) (sh : (kw = [] ∧ args = us ∧ kws = []) ∨ ∃ x z v p, kws = [⟨some x, v, p⟩] ∧ us = args ++ [z] ∧ kw = [(x, z)]) (h : sp (vs ++ dvs) H Q (WE W σ)) : wpAny (model X.prog X.w) X.A (call (.ref a) args kw) (EP X pins σ Q) X.xe s := by
  rcases sh with ⟨rfl, rfl, _⟩ | ⟨x, z, v, p, rfl, rfl, rfl⟩
  · exact run_fnSD F (g.hr.mono (Nat.le_succ _)) hb hd (passAt g.tk σ) I r h
  · unfold kwOk at hkw
    rw [Bool.and_eq_true, List.isEmpty_iff, decide_eq_true_eq] at hkw
    have e0 := hds hkw.1
    rw [e0, List.append_nil] at h
    have hl : (args ++ [z]).length = ps.length := by rw [← r.length]; exact F.len _ _ _ _ h
    refine wpAny_call (codeAny_mono (F.run X.A X.stack s H ⟨args, [(x, z)]⟩ (args ++ [z]) vs Q (WE W σ) (g.hr.mono (Nat.le_succ _)) I.env0 (hkb x hkw.2 s args z I.kIn (by simpa using hl)) r h) fun r s' hq => ?_)
    cases r with
    | error e => exact passAt g.tk σ pins H s e s' I hq
    | ok fl =>
      cases fl with
      | ret u => exact I.after hq
      | next => exact False.elim hq
      | brk => exact False.elim hq
      | cont => exact False.elim hq
theorem nil_vals {ds : List D} {dvs : List V} (rd : ∀ H ra, RepL X.K H ra ds dvs) : ds = [] → dvs = [] := fun e => by
  subst e
  exact rd (fun _ => none) []
theorem s_callD (g : Good M N X W k sc fn) {f : Nat} {es : List E} {ds : List D} {xs : List Expr} {kws : List Keyword} {p pos : Pos} (hi : plainF M f = true) (hg : glB sc (M.fname f) = true) (ho : okName (M.fname f) = true) (hdf : dfOk M f ds = true) (hkw : kwOk M f ds kws = true) (hs : mEs M N sc fn es (xs ++ kwE kws) = true) (h : GEs M X W k es (xs ++ kwE kws)) : GE M X W k (.callD f es ds) (.Call (.Name (M.fname f) p) xs kws pos) := by
  obtain ⟨o1, o2⟩ := okName_ok ho
  obtain ⟨hcl, hn, fd, hf⟩ := plain_cls hi
  have hC : M.C k f = callF M.P M.G M.F k f := cloC_low (Nat.lt_of_lt_of_le hn g.st.low)
  obtain ⟨a, fdat, ps, hm, hk, hb, F⟩ := g.st.fns f fd hf hn
  have hm := hm.1 (plain_own hi)
  obtain ⟨dvs, dus, hd, rd, hb1⟩ := hb.1 ds hdf
  refine plainT ⟨fun pins s σ H Q I ⟨ra, ρ, s0, e, r, t⟩ => ?_⟩ (fun _ => rfl)
  simp only [evE, hC] at t
  refine wpAny_Call_Name_kw (ld_glob I (gl_ok hg g) hm ?_ o1)
  refine cw_any (first := []) hk hs h (kwOk_s hkw) I e r t fun us args kw s3 vs H2 I2 rv sh ⟨ds1, s4, r2, k2, p2, R2, rl, q2⟩ => ?_
  exact run_kw g F hb1 hd hb.2 hkw (nil_vals rd) I2 rv sh ⟨r2, ds1 ++ ds, s4, R2, by rw [hcl]; exact RepAs.app rl (rd H2 r2), q2⟩
theorem ref_obj {H : Hp} {ra : List Addr} {s : Store} (R : SRel X.K H ra s) {n c : Nat} {v : V} {l : List (Str × D)} (h : RepV X.K H ra (.ref n) v) (e : s[n]? = some (.obj c l)) :
    ∃ a C dx ws, v = .ref a ∧ ra[n]? = some a ∧ TBS.cl c C ∧ H a = some (.ins C dx ws) ∧ (∀ p ∈ l, TBS.nf C p.1) ∧ (l.map (·.1)).Nodup ∧ RepF X.K H ra l ws := by
  obtain ⟨a, C, dx, ws, ea, h1, h2, h3, h4, h5⟩ := R.obj e
  obtain ⟨a', ea', e'⟩ := h
  rw [ea] at ea'
  cases ea'
  exact ⟨a, C, dx, ws, e', ea, h1, h2, h3, h4, h5⟩
theorem valD_memF {l : List (Str × D)} {f : Str} {d : D} (h : valD l f = some d) : ∃ p ∈ l, p.1 = f := by
  unfold valD at h
  cases q : l.find? (fun p => decide (p.1 = f)) with
  | none => rw [q] at h; cases h
  | some p => exact ⟨p, List.mem_of_find?_eq_some q, by simpa using List.find?_some q⟩
theorem s_fld (g : Good M N X W k sc fn) {o : E} {f : Str} {y : Expr} {pos : Pos} (hb : plainBase y = true) (ho : GE M X W k o y) : GE M X W k (.fld o f) (.Attribute y f pos) := by
  refine plainT (PE.sub (pe_fld ho.1 (base_ok hb f X.env)) fun σ H Q ⟨ra, ρ, s, e, r, p⟩ => ?_) (fun _ => rfl)
  simp only [evE] at p
  refine tE_bind e r p fun v H1 d s1 r1 k1 p1 e1 R1 rv q => ?_
  unfold fldD at q
  split at q
  · rename_i n
    split at q
    · rename_i c fs hc
      cases hv : valD fs f with
      | none => rw [hv] at q; exact q.elim
      | some w =>
        rw [hv] at q
        obtain ⟨a, C, dx, ws, rfl, ea, h1, h2, h3, h4, h5⟩ := ref_obj R1 rv hc
        obtain ⟨u, g1, g2⟩ := h5.val f w hv
        obtain ⟨pr, hp, rfl⟩ := valD_memF hv
        exact ⟨a, C, dx, ws, u, rfl, h2, (g.st.obs c C h1).cls, g.st.nfs _ _ (h3 pr hp), g1, q.fin R1 g2⟩
    · exact q.elim
  · exact q.elim
theorem wpAny_meth {prog : Program} {w : World} {A : Around} {E : Value → Shared → Prop} {s : Shared} {env : PySem.Env} {o : Expr} {name : Str} {apos pos : Pos} {args : List Expr} {kws : List Keyword} {Q : Value → Shared → Prop}
    (hbase : attributeBase o name env (eval o env) = eval o env)
    (hfew : methodCallForm (args.length + kws.length) (backTo pos (starEach args env)) (backToKw pos (keywordEach kws env)) = true)
    (hline : (apos.endLine == pos.line) = true)
    (h : wpAny (model prog w) A (eval o env) (fun ov s₁ => ∀ pl, wpAny (model prog w) A (getMethod ov name pl) (fun fx s₂ => wpAny (model prog w) A (callWith pos fx.1 fx.2 (backTo pos (starEach args env)) (backToKw pos (keywordEach kws env))) Q E s₂) E s₁) E s) :
    wpAny (model prog w) A (eval (.Call (.Attribute o name apos) args kws pos) env) Q E s := by
  rw [arm_eval_Call, hbase]
  refine wpAny_bind (wpAny_mono h (fun ov s₁ h₁ => ?_) fun _ _ e => e)
  refine wpAny_bind (wpAny_standAt ?_)
  have hform : methodCallForm (args.length + kws.length) (backTo pos (starEach args env)) (backToKw pos (keywordEach kws env)) = true := hfew
  have hpos : methodCallPos true o env apos pos = pure pos := by unfold methodCallPos; simp [hline]
  unfold methodCall
  rw [hform]
  refine wpAny_bind (wpAny_holding (wpAny_mono (h₁ _) (fun fx s₂ h₂ => ?_) fun _ _ e => e))
  exact wpAny_bind (wpAny_of_eq hpos h₂)
theorem own_ok {c f : Nat} {m : Str} (h : ownOk M c m f = true) : M.own f = some (c, m) ∧ clsF M f = [] ∧ f < M.n ∧ ∃ fd, M.P f = some fd := by
  unfold ownOk at h
  rw [Bool.and_eq_true, decide_eq_true_eq] at h
  exact ⟨h.1, plainM_cls h.2⟩
theorem lookN {α : Type} : ∀ {l : List (Nat × α)} {c : Nat} {f : α}, l.lookup c = some f → (c, f) ∈ l
  | [], c, f, h => by simp at h
  | (a, b) :: l, c, f, h => by
    rw [List.lookup_cons] at h
    split at h
    · rename_i e
      have e : c = a := by simpa using e
      cases h
      rw [e]
      exact List.mem_cons_self
    · exact List.mem_cons_of_mem _ (lookN h)
theorem tb_at {tb : List (Nat × Nat)} {P : Nat → Nat → Prop} {c f : Nat} (h : ∀ u ∈ tb, P u.1 u.2) (e : tb.lookup c = some f) : P c f := h (c, f) (lookN e)
theorem s_mcall (g : Good M N X W k sc fn) {tb : List (Nat × Nat)} {o : E} {es : List E} {ds : List D} {m : Str} {y : Expr} {xs : List Expr} {kws : List Keyword} {p pos : Pos} (ht : tb.all (fun u => ownOk M u.1 m u.2 && (dfOk M u.2 ds && kwOk M u.2 ds kws)) = true) (hb : plainBase y = true) (hl : (p.endLine == pos.line) = true) (hn : xs.length < 20) (hkS : kwS kws = true) (hs : mEs M N sc fn es (xs ++ kwE kws) = true) (ho : GE M X W k o y) (h : GEs M X W k es (xs ++ kwE kws)) :
    GE M X W k (.mcall tb o es ds) (.Call (.Attribute y m p) xs kws pos) := by
  have hfew : methodCallForm (xs.length + kws.length) (backTo pos (starEach xs X.env)) (backToKw pos (keywordEach kws X.env)) = true := by
    have h1 : (backTo pos (starEach xs X.env)).any (·.1) = false := by
      match kws, hkS with
      | [], _ =>
        rw [show xs ++ kwE [] = xs by simp [kwE]] at hs
        exact mEs_back pos X.env hs
      | [⟨some x, v, p⟩], _ =>
        obtain ⟨es1, e1, rfl, h1, h2⟩ := mEs_split (show mEs M N sc fn es (xs ++ [v]) = true from hs)
        exact mEs_back pos X.env h1
    have h3 : (backTo pos (starEach xs X.env)).all (fun x => !x.1) = true := by
      rw [List.all_eq_true]
      rw [List.any_eq_false] at h1
      intro z hz
      have := h1 z hz
      simpa using this
    match kws, hkS with
    | [], _ =>
      show ((backTo pos (starEach xs X.env)).all (fun x => !x.1) && true && decide (xs.length + 0 + 0 < 30)) = true
      rw [h3, decide_eq_true (by omega)]
      rfl
    | [⟨some x, v, p⟩], _ =>
      show ((backTo pos (starEach xs X.env)).all (fun x => !x.1) && true && decide (xs.length + 1 + 1 < 30)) = true
      rw [h3, decide_eq_true (by omega)]
      rfl
  refine plainT ⟨fun pins s σ H Q I ⟨ra, ρ, s0, e, r, t⟩ => ?_⟩ (fun _ => rfl)
  simp only [evE] at t
  refine wpAny_meth (base_ok hb m X.env) hfew hl (thn (ho.1.run pins s σ H (fun v H1 => ∃ d s1 r1, ERel X.K H1 r1 ρ σ ∧ SRel X.K H1 r1 s1 ∧ RepV X.K H1 r1 d v ∧ PostR M X.mg X.K W σ (RepV X.K) H1 r1 (match (obC s1 d).bind fun c => tb.lookup c with
    | some f => (evEs (M.C k) M.G es ρ s1).bind fun l s => M.C k f (d :: (l ++ ds)) s
    | none => .bad) Q) I (tE_bind e r t fun v H1 d s1 r1 k1 p1 e1 R1 rv q => ⟨d, s1, r1, e1, R1, rv, q⟩)) fun u s2 ⟨v, H1, I1, ru, d, s1, r1, e1, R1, rv, q⟩ pl => ?_)
  cases hc : (obC s1 d).bind fun c => tb.lookup c with
  | none => rw [hc] at q; exact q.elim
  | some f =>
    rw [hc] at q
    obtain ⟨c, hc1, hc2⟩ := Option.bind_eq_some_iff.mp hc
    have hp := tb_at (P := fun c f => (ownOk M c m f && (dfOk M f ds && kwOk M f ds kws)) = true) (fun u hu => List.all_eq_true.mp ht u hu) hc2
    rw [Bool.and_eq_true, Bool.and_eq_true] at hp
    obtain ⟨how, hcl, hlt, fd, hf⟩ := own_ok hp.1
    have hC : M.C k f = callF M.P M.G M.F k f := cloC_low (Nat.lt_of_lt_of_le hlt g.st.low)
    obtain ⟨fa, fdat, ps, hm, hk, hb2, F⟩ := g.st.fns f fd hf hlt
    obtain ⟨C, hC1, hM⟩ := hm.2 c m how
    obtain ⟨dvs, dus, hd, rd, hb3⟩ := hb2.1 ds hp.2.1
    unfold obC at hc1
    split at hc1
    · rename_i n
      split at hc1
      · rename_i c' fs hcell
        cases hc1
        obtain ⟨a, C', dx, ws, rfl, ea, h1, h2, h3, h4, h5⟩ := ref_obj R1 rv hcell
        obtain rfl := g.st.one c C C' hC1 h1
        obtain rfl : u = Value.ref a := ru
        have hno : ws.lookup m = none := by
          cases hq : ws.lookup m with
          | none => rfl
          | some z =>
            have hmem : m ∈ ws.map (·.1) := List.mem_map.mpr ⟨_, PySem.mem_of_lookup hq, rfl⟩
            rw [h5.1] at hmem
            obtain ⟨pr, hpr, e⟩ := List.mem_map.mp hmem
            have h6 := g.st.nfs _ _ (h3 pr hpr)
            rw [e] at h6
            have h7 := hM.at_
            have h6 : PySem.W.findIn X.K (.ref C) m = some none := h6
            rw [h6] at h7
            cases h7
        refine getmeth_ok I1 h2 (g.st.obs c C hC1).cls hM hno ?_
        refine cw_any (first := [.ref a]) hM.kp hs h hkS I1 e1 R1 q fun us args kw s3 vs H2 I2 r2 sh ⟨ds1, s4, rr, k2, p2, R2, rl, q2⟩ => ?_
        rw [hC] at q2
        refine run_kw (us := .ref a :: us) (args := .ref a :: args) (vs := .ref a :: vs) g F hb3 hd hb2.2 hp.2.2 (nil_vals rd) I2 (.cons rfl r2) ?_ ⟨rr, .ref n :: (ds1 ++ ds), s4, R2, ?_, q2⟩
        · rcases sh with ⟨z1, z2, z3⟩ | ⟨x, z, v, p, z1, z2, z3⟩
          · exact .inl ⟨z1, by rw [z2], z3⟩
          · exact .inr ⟨x, z, v, p, z1, by rw [z2]; rfl, z3⟩
        · rw [hcl]
          exact RepAs.of (show RepL X.K H2 rr (.ref n :: (ds1 ++ ds)) (.ref a :: (vs ++ dvs)) from ⟨.ref a, _, rfl, ⟨a, pre_get p2 ea, rfl⟩, rl.append (rd H2 rr)⟩)
      · cases hc1
    · cases hc1
theorem run_makeSK {C f : Addr} {fd : FuncData} {ps : List Str} {sp : Sp} {E : L2.St → XK} {j : Nat} {pins : List (Addr × Obj)} {σ : L2.St} {H : Hp} {s : Shared} {Q : VK} {args all : List Value} {kw : List (Str × Value)} {vs : List V} (Mk : Mk X.K C f) (F : FnOk X.prog X.w X.K X.mg X.base (L2.CX X.prog X.w) j f fd ps sp) (hr : Room (j + 1) X.A)
    (hb : ∀ (x : Addr) (s : Shared), X.K.In s.heap → (Value.ref x :: all).length = ps.length → BindsTo s fd ⟨.ref x :: args, kw⟩ (ps.zip (.ref x :: all)))
    (hx : ∀ (s : Shared) (H : Hp) (e : Value) (s' : Shared), Inv X pins σ H s → L2.CX X.prog X.w X.stack H s (E σ) e s' → X.xe e s') (I : Inv X pins σ H s) (r : Vals vs all)
    (h : ∀ x dx, H x = none → H dx = none → dx ≠ x → sp (.ref x :: vs) (upd (upd H dx (.own x)) x (.ins C dx [])) (fun v H2 => v = .non ∧ Q (.ref x) H2) (E σ)) :
    wpAny (model X.prog X.w) X.A (call (.ref C) args kw) (EP X pins σ Q) X.xe s := by
  have hq := h (s.heap.objs.size + 1) s.heap.objs.size (I.hok.fresh (Nat.le_succ _)) (I.hok.fresh (Nat.le_refl _)) (Nat.ne_of_lt (Nat.lt_succ_self _))
  have I2 := Inv.made (C := C) I
  have r2 : Vals (V.ref (s.heap.objs.size + 1) :: vs) (Value.ref (s.heap.objs.size + 1) :: all) := .cons rfl r
  have hl : (Value.ref (s.heap.objs.size + 1) :: all).length = ps.length := by
    have e := r2.length
    rw [F.len _ _ _ _ hq] at e
    exact e.symm
  refine wpAny_call (make_map (f := f) I.kIn Mk.makes Mk.init (beq_iff_eq.mp Mk.fn) (codeAny_mono (F.run _ X.stack _ _ ⟨Value.ref (s.heap.objs.size + 1) :: args, kw⟩ (Value.ref (s.heap.objs.size + 1) :: all) _ _ (E σ) (hr.make C args kw)
    (I2.env0.make C args kw) (hb _ _ I2.kIn hl) r2 hq) fun r s' hq' => ?_))
  cases r with
  | error e => exact hx _ _ e s' I2 hq'
  | ok fl =>
    cases fl with
    | ret u =>
      obtain ⟨v, H', I3, rv, ev, q3⟩ := I2.after hq'
      subst ev
      exact ⟨rv, ⟨V.ref (s.heap.objs.size + 1), H', I3, rfl, q3⟩⟩
    | next => exact False.elim hq'
    | brk => exact False.elim hq'
    | cont => exact False.elim hq'
theorem s_new (g : Good M N X W k sc fn) {c f : Nat} {es : List E} {ds : List D} {xs : List Expr} {kws : List Keyword} {p pos : Pos} (hi : ownOk M c "__init__" f = true) (hg : glB sc (M.cln c) = true) (ho : okName (M.cln c) = true) (hdf : dfOk M f ds = true) (hkw : kwOk M f ds kws = true) (hs : mEs M N sc fn es (xs ++ kwE kws) = true) (h : GEs M X W k es (xs ++ kwE kws)) : GE M X W k (.new c f es ds) (.Call (.Name (M.cln c) p) xs kws pos) := by
  obtain ⟨o1, o2⟩ := okName_ok ho
  obtain ⟨how, hcl, hlt, fd, hf⟩ := own_ok hi
  have hC : M.C k f = callF M.P M.G M.F k f := cloC_low (Nat.lt_of_lt_of_le hlt g.st.low)
  obtain ⟨fa, fdat, ps, hm, hk, hb, F⟩ := g.st.fns f fd hf hlt
  obtain ⟨C, hC1, hM⟩ := hm.2 c _ how
  obtain ⟨dvs, dus, hd, rd, hb1⟩ := hb.1 ds hdf
  have CA := g.st.obs c C hC1
  have mk : Mk X.K C fa := ⟨CA.mak, hM.at_, hM.fn, CA.kp⟩
  refine plainT ⟨fun pins s σ H Q I ⟨ra, ρ, s0, e, r, t⟩ => ?_⟩ (fun _ => rfl)
  simp only [evE, hC] at t
  refine wpAny_Call_Name_kw (ld_glob I (gl_ok hg g) CA.at_ ?_ o1)
  refine cw_any (first := []) mk.kp hs h (kwOk_s hkw) I e r t fun us args kw s3 vs H2 I2 rv sh ⟨ds1, s4, r2, k2, p2, R2, rl, q⟩ => ?_
  refine run_makeSK (all := us ++ dus) (vs := vs ++ dvs) (E := WE W) (sp := spF M X.mg X.K k f) mk F g.hr (fun x s5 hK hl => ?_) (fun s H e s' I c => passAt g.tk σ pins H s e s' I c) I2 (rv.append hd) fun x dx hx hdx ne => ?_
  · rcases sh with ⟨rfl, rfl, _⟩ | ⟨x2, z, v, p, rfl, rfl, rfl⟩
    · exact hb1 s5 (.ref x :: args) hK hl
    · unfold kwOk at hkw
      rw [Bool.and_eq_true, List.isEmpty_iff, decide_eq_true_eq] at hkw
      have e0 := nil_vals rd hkw.1
      subst e0
      cases hd
      rw [List.append_nil] at hl ⊢
      exact hb.2 x2 hkw.2 s5 (.ref x :: args) z hK (by simpa using hl)
  · obtain ⟨R3, k3⟩ := R2.newO hC1 hx hdx ne
    have pf : r2 <+: r2 ++ [x] := List.prefix_append _ _
    refine ⟨r2 ++ [x], .ref s4.length :: (ds1 ++ ds), s4 ++ [.obj c []], R3, ?_, ?_⟩
    · rw [hcl]
      exact RepAs.of ⟨.ref x, _, rfl, ⟨x, by rw [← R2.len]; simp, rfl⟩, (RepL.keep k3 pf _ _ rl).append (rd _ _)⟩
    · have q := q.mono k3 pf
      have z := PostR.bind (repA := RepV X.K) q
      cases hr : callF M.P M.G M.F k f (.ref s4.length :: (ds1 ++ ds)) (s4 ++ [.obj c []]) with
      | bad => rw [hr] at z; exact z
      | exc c' w s2 => rw [hr] at z; exact z
      | ok d s2 =>
        rw [hr] at z
        intro v rb H' k4 p4 R4 rv
        obtain ⟨d', s5, r5, k5, p5, R5, rv5, q5⟩ := z v rb H' k4 p4 R4 rv
        by_cases hdn : d' = .non
        · subst hdn
          rw [if_pos rfl] at q5
          exact ⟨rv5, q5 _ r5 H' (Keeps.refl _) (List.prefix_refl _) R5 ⟨x, pre_get p5 (by rw [← R2.len]; simp), rfl⟩⟩
        · rw [if_neg hdn] at q5
          exact q5.elim
theorem s_iso (g : Good M N X W k sc fn) {a : E} {c : Nat} {z : Expr} {p p2 pos : Pos} (hg : glB sc "isinstance" = true) (hg2 : glB sc (M.cln c) = true) (ho : okName (M.cln c) = true) (hcn : c < M.nob) (hz : notStar z = true) (h : GE M X W k a z) : GE M X W k (.iso a c) (.Call (.Name "isinstance" p) [z, .Name (M.cln c) p2] [] pos) := by
  obtain ⟨o1, o2⟩ := okName_ok ho
  obtain ⟨C, hC⟩ := g.st.exi c hcn
  have CA := g.st.obs c C hC
  have hm : X.mg "isinstance" = none := g.blt (by simp [bltNames])
  have hT : PE X (.Name (M.cln c) p2) (tC (.ref C)) := pe_glob (gl_ok hg2 g) CA.at_ rfl o1
  have hA : PA X [z, .Name (M.cln c) p2] (tCons (tE M X W (evE (M.C k) M.G a)) (tCons (tC (.ref C)) tNil)) := pa_cons h.1 (pa_cons hT pa_nil) (star_cons hz _ _)
  refine plainT (PE.sub (pe_callB (C8.call_isC CA.ins) (gl_ok hg g) hm PyProof.Rows.boot_isinstance hA (by decide) (by decide) (star_cons hz _ _) rfl) fun σ H Q ⟨ra, ρ, s, e, r, p⟩ => ?_) (fun _ => rfl)
  simp only [evE] at p
  refine tE_bind e r p fun v H1 d s1 r1 k1 p1 e1 R1 rv q => ?_
  by_cases hb : obC s1 d = some c
  · rw [if_pos hb] at q
    unfold obC at hb
    split at hb
    · split at hb
      · rename_i c' fs hcell
        cases hb
        obtain ⟨a, C', dx, ws, rfl, ea, h1, h2, h3, h4, h5⟩ := ref_obj R1 rv hcell
        obtain rfl := g.st.one c C C' hC h1
        exact ⟨a, dx, ws, rfl, h2, q.fin R1 rfl⟩
      · cases hb
    · cases hb
  · rw [if_neg hb] at q
    exact q.elim
end
end
end WL
set_option maxHeartbeats 4000000
namespace WL
open PySem PySem.Spec PyProof.Rows L2
variable [TBS] [CLO]
section
variable {M : Cfg} {N : List Str} {X : Cx} {W : WX} {k : Nat} {sc : Scope} {fn : Str → Bool}
abbrev GG (M : Cfg) (X : Cx) (k : Nat) (t : Tg) (x : Expr) : Prop := PG X x (tG M X (Tg.names t) (asgT (M.C k) M.G t))
abbrev GGs (M : Cfg) (X : Cx) (k : Nat) (ts : List Tg) (xs : List Expr) : Prop := PGs X xs (tGs M X (Tg.namesL ts) (asgTs (M.C k) M.G ts))
theorem PG.or {e : Expr} {t t' : TG} (h : PG X e t) (h' : PG X e t') : PG X e (fun v σ H Q => t v σ H Q ∨ t' v σ H Q) := ⟨fun pins s σ H v u Q I r q => by
  rcases q with q | q
  · exact h.run pins s σ H v u Q I r q
  · exact h'.run pins s σ H v u Q I r q⟩
theorem SameOut.refl {l : List Nat} {σ : L2.St} : SameOut l σ σ := ⟨rfl, fun _ _ => rfl⟩
theorem SameOut.trans {l m : List Nat} {σ σ1 σ2 : L2.St} (h : SameOut l σ σ1) (h' : SameOut m σ1 σ2) : SameOut (l ++ m) σ σ2 :=
  ⟨h'.1.trans h.1, fun j hj => (h'.2 j fun z => hj (List.mem_append_right _ z)).trans (h.2 j fun z => hj (List.mem_append_left _ z))⟩
theorem SameOut.set {σ : L2.St} (i : Nat) (v : Option V) : SameOut [i] σ (σ.set i v) := by
  refine ⟨by simp, fun j hj => ?_⟩
  have : i ≠ j := fun z => hj (by simp [z])
  rw [List.getElem?_set_ne this]
theorem g_nm (g : Good M N X W k sc fn) {i : Nat} {y : Str} {p : Pos} (h1 : N[i]? = some y) (h2 : locB sc fn y = true) (h3 : M.na.contains i = false) : GG M X k (.nm i) (.Name y p) := by
  obtain ⟨l1, l2⟩ := loc_ok h2 g
  refine PG.sub (pg_name (i := i) (by rw [g.eN]; exact g.nd) (by rw [g.eN]; exact h1) l1 l2) fun v σ H Q ⟨ra, ρ, s, d, e, r, rv, p⟩ => ?_
  simp only [asgT, R.quiet] at p
  exact p _ ra H (Keeps.refl H) (List.prefix_refl _) r ⟨e.set i (g.off h3) rv, SameOut.set i _⟩
theorem g_nil : GGs M X k [] [] := by
  refine PGs.sub pgs_nil fun vs σ H Q ⟨ra, ρ, s, ds, e, r, rv, p⟩ => ?_
  cases ds with
  | nil =>
    simp only [asgTs, R.quiet] at p
    exact ⟨rv, p _ ra H (Keeps.refl H) (List.prefix_refl _) r ⟨e, SameOut.refl⟩⟩
  | cons d ds =>
    simp only [asgTs, R.quiet] at p
    exact p.elim
theorem quiet_ok {α β : Type} (r : R α) (f : α → Store → R β) : (r.bind f).quiet = (r.quiet.bind fun a s => (f a s).quiet) := by
  cases r <;> rfl
theorem g_cons {t : Tg} {x : Expr} {ts : List Tg} {xs : List Expr} (hs : notStar x = true) (h1 : GG M X k t x) (h2 : GGs M X k ts xs) : GGs M X k (t :: ts) (x :: xs) := by
  refine PGs.sub (pgs_cons h1 h2 (by rw [asg_cons hs]; rfl)) fun vs σ H Q ⟨ra, ρ, s, ds, e, r, rv, p⟩ => ?_
  cases ds with
  | nil => simp only [asgTs, R.quiet] at p; exact p.elim
  | cons d ds =>
    obtain ⟨v, vr, rfl, rd, rds⟩ := rv
    simp only [asgTs] at p
    rw [quiet_ok] at p
    refine ⟨v, vr, rfl, ra, ρ, s, d, e, r, rd, ?_⟩
    refine (PostR.bind (repA := fun H' rb ρ' σ' => ERel X.K H' rb ρ' σ' ∧ SameOut (Tg.names t) σ σ') p).imp fun σ1 H1 ⟨ρ1, s1, r1, k1, p1, R1, ⟨e1, so⟩, q⟩ => ?_
    refine ⟨r1, ρ1, s1, ds, e1, R1, RepL.keep k1 p1 ds vr rds, ?_⟩
    cases hq : (asgTs (M.C k) M.G ts ds ρ1 s1).quiet with
    | ok ρ2 s2 =>
      rw [hq] at q
      exact fun σ2 rb H2 k2 p2 R2 ⟨e2, so2⟩ => q σ2 rb H2 k2 p2 R2 ⟨e2, so.trans so2⟩
    | exc c w s2 => rw [hq] at q; exact fun cls dd rb H2 k2 p2 R2 rx => q cls dd rb H2 k2 p2 R2 rx
    | bad => rw [hq] at q; exact q
theorem g_tup (g : Good M N X W k sc fn) {ts : List Tg} {xs : List Expr} {k1 : Nat} {pos : Pos} (hm : mTgs M N sc fn ts xs = true) (h : GGs M X k ts xs) : GG M X k (.tup ts) (.Tuple xs k1 pos) := by
  obtain ⟨l1, l2⟩ := mTgs_each X.env hm
  refine PG.sub (PG.or (pg_tup g.calm h l1 l2) (pg_unl g.calm h l1 l2)) fun v σ H Q ⟨ra, ρ, s, d, e, r, rv, p⟩ => ?_
  cases d with
  | tup l =>
    simp only [asgT] at p
    split at p
    · rename_i hl
      obtain ⟨a, vs, rfl, sq, rl⟩ := rv
      exact .inl ⟨a, vs, rfl, sq, by rw [RepL.length l vs rl, hl], ra, ρ, s, l, e, r, rl, p⟩
    · exact (show False from p).elim
  | ref n =>
    simp only [asgT] at p
    split at p
    · rename_i l hL
      split at p
      · rename_i hl
        obtain ⟨a, vs, rfl, ea, hv, rl⟩ := ref_lst r rv hL
        exact .inr ⟨a, vs, rfl, SqL.of hv, by rw [RepL.length l vs rl, hl], ra, ρ, s, l, e, r, rl, p⟩
      · exact (show False from p).elim
    · exact (show False from p).elim
  | _ => exact (show False from p).elim
theorem PSet.or {t t' : TSet} (h : PSet X t) (h' : PSet X t') : PSet X (fun o i v H Q => t o i v H Q ∨ t' o i v H Q) := by
  intro pins s σ H o i v ov iv u Q I ro ri rv q
  rcases q with q | q
  · exact h pins s σ H o i v ov iv u Q I ro ri rv q
  · exact h' pins s σ H o i v ov iv u Q I ro ri rv q
theorem pg_fld {X : Cx} {o : Expr} {f : Str} {pos : Pos} {to : TE} (ho : PE X o to) : PG X (.Attribute o f pos) (fun v σ H Q => to σ H fun x H1 => ∃ a C dx fs, x = .ref a ∧ H1 a = some (.ins C dx fs) ∧ Cls X.K C ∧ NoAttr X.K C f ∧ fs.length < 1000 ∧ Q σ (upd H1 a (.ins C dx (putF f v fs)))) := by
  refine ⟨fun pins s σ H v u Q I r h => ?_⟩
  rw [arm_assign_Attribute]
  refine wpAny_bind (wpAny_holding (thn (ho.run pins s σ H _ I h) fun ov s1 ⟨x, H1, I1, r1, a, C, dx, fs, ex, ea, c, n, l, q⟩ => ?_))
  subst ex
  obtain rfl : ov = Value.ref a := r1
  refine wpAny_bind (wpAny_standAt (wpAny_bind (wpAny_holding (setattr_ok I1 ea c n l r fun s3 I3 => ?_))))
  exact wpAny_release ⟨σ, _, I3, q⟩
omit [TBS] [CLO] in
theorem setF_inv (cs : List Nat) (x : D) (f : Str) (v : D) (s : Store) : setF cs x f v s = .bad ∨ ∃ n c fs, x = .ref n ∧ s[n]? = some (.obj c fs) ∧ cs.contains c = true ∧ fs.length < 1000 ∧ setF cs x f v s = .ok () (s.set n (.obj c (putD fs f v))) := by
  unfold setF
  cases x with
  | ref n =>
    cases h : s[n]? with
    | none => exact .inl (by simp only [h])
    | some c => cases c with
      | obj c fs =>
        by_cases q : (cs.contains c && decide (fs.length < 1000)) = true
        · refine .inr ⟨n, c, fs, rfl, h, ?_⟩
          rw [Bool.and_eq_true, decide_eq_true_eq] at q
          refine ⟨q.1, q.2, ?_⟩
          simp only [h]
          rw [if_pos (by rw [q.1, decide_eq_true q.2]; rfl)]
        · refine .inl ?_
          simp only [h]
          rw [if_neg q]
      | _ => exact .inl (by simp only [h])
  | _ => exact .inl rfl
theorem g_fld (g : Good M N X W k sc fn) {cs : List Nat} {o : E} {f : Str} {y : Expr} {pos : Pos} (hc : cs.all (fun c => M.fld c f) = true) (ho : GE M X W k o y) : GG M X k (.fld cs o f) (.Attribute y f pos) := by
  refine PG.sub (pg_fld ho.1) fun v σ H Q ⟨ra, ρ, s, d, e, r, rv, p⟩ => ?_
  simp only [asgT] at p
  cases h1 : evE (M.C k) M.G o ρ s with
  | exc c w s1 => rw [h1] at p; exact (show False from p).elim
  | bad => rw [h1] at p; exact (show False from p).elim
  | ok x1 s1 =>
    rw [h1] at p
    refine ⟨ra, ρ, s, e, r, ?_⟩
    rw [h1]
    intro v1 r1 H1 k1 p1 R1 rv1
    simp only [R.quiet, R.bind] at p
    rcases setF_inv cs x1 f d s1 with hb | ⟨n, c, fs, rfl, hcell, hcc, hlt, he⟩
    · rw [hb] at p
      exact (show False from p).elim
    · rw [he] at p
      obtain ⟨a, C, dx, ws, rfl, ea, h1, h2, h3, h4, h5⟩ := ref_obj R1 rv1 hcell
      have CA := g.st.obs c C h1
      have hf : TBS.nf C f := CA.fld f (List.all_eq_true.mp hc c (by simpa using hcc))
      obtain ⟨R2, k2⟩ := R1.setO hcell ea h1 h2 h3 hf h4 h5 (RepV.keep k1 p1 d v rv)
      refine ⟨a, C, dx, ws, rfl, h2, CA.cls, g.st.nfs _ _ hf, by rw [h5.length]; exact hlt, ?_⟩
      exact p σ r1 _ (k1.trans k2) p1 R2 ⟨e.keep (k1.trans k2) p1, rfl, fun j hj => rfl⟩
theorem g_sub (hu : X.A.units + 1 < cLine) {o i : E} {x y : Expr} {pos : Pos} (hn : notSlice y = true) (ho : GE M X W k o x) (hi : GE M X W k i y) : GG M X k (.sub o i) (.Subscript x y pos) := by
  refine PG.sub (pg_sub ho.1 hi.1 (PSet.or set_list (set_dict hu)) (by intro v; cases y <;> first | rfl | cases hn)) fun v σ H Q ⟨ra, ρ, s, d, e, r, rv, p⟩ => ?_
  simp only [asgT] at p
  cases h1 : evE (M.C k) M.G o ρ s with
  | exc c w s1 => rw [h1] at p; exact (show False from p).elim
  | bad => rw [h1] at p; exact (show False from p).elim
  | ok x1 s1 =>
    rw [h1] at p
    refine ⟨ra, ρ, s, e, r, ?_⟩
    rw [h1]
    intro v1 r1 H1 k1 p1 R1 rv1
    have e1 := e.keep k1 p1
    cases h2 : evE (M.C k) M.G i ρ s1 with
    | exc c w s2 => simp only [R.quiet, R.bind, h2] at p; exact (show False from p).elim
    | bad => simp only [R.quiet, R.bind, h2] at p; exact (show False from p).elim
    | ok x2 s2 =>
      simp only [R.quiet, R.bind, h2] at p
      refine ⟨r1, ρ, s1, e1, R1, ?_⟩
      rw [h2]
      intro v2 r2 H2 k2 p2 R2 rv2
      have kk := k1.trans k2
      have kk2 := kk
      have pp := p1.trans p2
      have rvv := RepV.keep kk pp d v rv
      have rv1' := RepV.keep k2 p2 x1 v1 rv1
      have dct : ∀ (n : Nat) (kd : D), RepV X.K H2 r2 (.ref n) v1 → RepV X.K H2 r2 kd v2 → PostR M X.mg X.K (fun _ _ _ _ => False) σ (fun H' rb ρ' σ' => ERel X.K H' rb ρ' σ' ∧ SameOut (Tg.names (.sub o i)) σ σ') H ra ((setK n kd d s2).bind fun _ s => .ok ρ s).quiet Q → rSetD v1 v2 v H2 (fun H' => Q σ H') := by
        intro n kd rv1 rk p
        unfold setK at p
        cases hl : isDct s2 n with
        | none => rw [hl] at p; exact (show False from p).elim
        | some l =>
          cases hk : keyD kd with
          | none => rw [hl, hk] at p; exact (show False from p).elim
          | some kk =>
            rw [hl, hk] at p
            simp only at p
            by_cases hz : l.length < sizeLine
            · rw [if_pos hz] at p
              obtain ⟨b, kvs, eb, ea, hv, rm⟩ := ref_dct R2 rv1 hl
              obtain ⟨R3, k3⟩ := R2.setD hl ea (rm.put kk rvv)
              refine ⟨b, _, eb, by rw [keyD_kV hk rk]; exact DPut.k hv (by rw [rm.length]; exact hz), ?_⟩
              exact p σ r2 _ (kk2.trans k3) pp R3 ⟨e.keep (kk2.trans k3) pp, SameOut.refl⟩
            · rw [if_neg hz] at p
              exact (show False from p).elim
      cases x1 with
      | ref n =>
        cases x2 with
        | int j =>
          simp only [setD] at p
          cases hl : isLst s2 n with
          | none =>
            rw [hl] at p
            exact .inr (dct n (.int j) rv1' rv2 p)
          | some l =>
            rw [hl] at p
            simp only at p
            cases hm : ixOf l.length j with
            | none => rw [hm] at p; exact (show False from p).elim
            | some m =>
              rw [hm] at p
              obtain ⟨b, vs, eb, ea, hv, rl⟩ := ref_lst R2 rv1' hl
              obtain ⟨R3, k3⟩ := R2.setL hl ea (RepL.set l vs m d v rl rvv)
              refine .inl ⟨b, vs, j, m, eb, rv2, hv, by rw [RepL.length l vs rl]; exact hm, ?_⟩
              exact p σ r2 _ (kk.trans k3) pp R3 ⟨e.keep (kk.trans k3) pp, SameOut.refl⟩
        | _ => exact .inr (dct n _ rv1' rv2 p)
      | _ => cases x2 <;> exact (show False from p).elim
theorem PI.or {tg e : Expr} {t t' : TI} (h : PI X tg e t) (h' : PI X tg e t') : PI X tg e (fun σ H R => t σ H R ∨ t' σ H R) := ⟨fun pins s σ H R I q => by
  rcases q with q | q
  · exact h.run pins s σ H R I q
  · exact h'.run pins s σ H R I q⟩
abbrev GI (M : Cfg) (X : Cx) (W : WX) (k : Nat) (it : It) (t x : Expr) : Prop := PI X t x (tI M X W (evIt (M.C k) M.G it))
theorem pi_any {tg l : Expr} {tl : TE} (hl : PE X l tl) : PI X tg l (fun σ H RR => tl σ H fun x H1 => (∃ a xs, x = .ref a ∧ SqL X.K H1 a xs ∧ RR (Itl X.K a) H1) ∨ ∃ a xs, x = .ref a ∧ SqT X.K H1 a xs ∧ RR (Itt X.K a) H1) := by
  refine ⟨fun pins sh σ H RR I h => thn (hl.run pins sh σ H _ I h) fun v s1 hv => ?_⟩
  obtain ⟨x, H1, I1, rx, q⟩ := hv
  rcases q with ⟨a, xs, ex, sq, q⟩ | ⟨a, xs, ex, sq, q⟩
  · subst ex
    obtain ⟨its, _, pl, _⟩ := I1.list sq
    obtain rfl : v = Value.ref a := rx
    refine wpAny_pyIter_list pl.isList ⟨s1.heap.objs.size, [s1.heap.objs.size], _, _, H1, rfl, I1.kept (t' := s1.toks) fun b o e => Heap.get?_push_of_some _ e, turn_list a _, ⟨_, Heap.get?_push_size _ rfl, rfl, rfl⟩, fun b hb => ?_, q⟩
    rw [List.mem_singleton.mp hb]
    exact I1.fpOk (Nat.le_refl _) (I1.hok.fresh (Nat.le_refl _))
  · subst ex
    obtain ⟨its, _, pl, _⟩ := I1.tuple sq
    obtain rfl : v = Value.ref a := rx
    refine wpAny_pyIter_tuple (items := its.toArray) pl ⟨s1.heap.objs.size, [s1.heap.objs.size], _, _, H1, rfl, I1.kept (t' := s1.toks) fun b o e => Heap.get?_push_of_some _ e, turn_tuple a _, ⟨_, Heap.get?_push_size _ rfl, rfl, rfl⟩, fun b hb => ?_, q⟩
    rw [List.mem_singleton.mp hb]
    exact I1.fpOk (Nat.le_refl _) (I1.hok.fresh (Nat.le_refl _))
theorem stays1 {s : Store} {n : Nat} {l its : List D} (h : (Walk.mk [(n, l)] its).stays s = true) : isLst s n = some l := by
  simpa [Walk.stays] using h
def SrcL (K : PySem.W.Frag) (H : Hp) (ra : List Addr) (a : Addr) (w : Walk) : Prop := ∀ H' rb s', Keeps H H' → ra <+: rb → SRel K H' rb s' → w.stays s' = true → ∃ vs, SqL K H' a vs ∧ RepL K H' rb w.its vs
def SrcT (K : PySem.W.Frag) (H : Hp) (ra : List Addr) (a : Addr) (w : Walk) : Prop := ∀ H' rb s', Keeps H H' → ra <+: rb → SRel K H' rb s' → w.stays s' = true → ∃ vs, SqT K H' a vs ∧ RepL K H' rb w.its vs
theorem walk_src {K : PySem.W.Frag} {H : Hp} {ra : List Addr} {s : Store} {d : D} {v : V} {w : Walk} (R : SRel K H ra s) (rv : RepV K H ra d v) (e : walkOf s d = some w) :
    ∃ a, v = .ref a ∧ (((∃ xs, SqL K H a xs) ∧ SrcL K H ra a w) ∨ ((∃ xs, SqT K H a xs) ∧ SrcT K H ra a w)) := by
  cases d with
  | tup l =>
    cases e
    obtain ⟨a, vs, rfl, sq, r⟩ := rv
    exact ⟨a, rfl, .inr ⟨⟨vs, sq⟩, fun H' rb s' k p _ _ => ⟨vs, sqT_keep sq k, RepL.keep k p l vs r⟩⟩⟩
  | frz l =>
    cases e
    obtain ⟨a, rfl, f⟩ := rv
    exact ⟨a, rfl, .inl ⟨⟨_, f.sq⟩, fun H' rb s' k p _ _ => ⟨_, (f.keep k).sq, RepL.intsF l⟩⟩⟩
  | ref n =>
    simp only [walkOf, Option.map_eq_some_iff] at e
    obtain ⟨l, hl, rfl⟩ := e
    obtain ⟨a, vs, rfl, ea, hv, r⟩ := ref_lst R rv hl
    refine ⟨a, rfl, .inl ⟨⟨vs, SqL.of hv⟩, fun H' rb s' k p R' st => ?_⟩⟩
    obtain ⟨a', vs', ea', hv', r'⟩ := R'.lst (stays1 st)
    rw [pre_get p ea] at ea'
    cases ea'
    exact ⟨vs', SqL.of hv', r'⟩
  | _ => cases e
theorem walk_srcL {K : PySem.W.Frag} {H : Hp} {ra : List Addr} {s : Store} {n : Nat} {v : V} {w : Walk} (R : SRel K H ra s) (rv : RepV K H ra (.ref n) v) (e : walkOf s (.ref n) = some w) : ∃ a xs, v = .ref a ∧ SqL K H a xs ∧ SrcL K H ra a w := by
  obtain ⟨a, rfl, h⟩ := walk_src R rv e
  rcases h with ⟨⟨xs, sq⟩, h⟩ | ⟨⟨xs, sq⟩, _⟩
  · exact ⟨a, xs, rfl, sq, h⟩
  · simp only [walkOf, Option.map_eq_some_iff] at e
    obtain ⟨l, hl, rfl⟩ := e
    obtain ⟨a', vs, ea', ea, hv, r⟩ := ref_lst R rv hl
    cases ea'
    refine ⟨a, vs, rfl, SqL.of hv, fun H' rb s' k p R' st => ?_⟩
    obtain ⟨a2, vs', ea2, hv', r'⟩ := R'.lst (stays1 st)
    rw [pre_get p ea] at ea2
    cases ea2
    exact ⟨vs', SqL.of hv', r'⟩
theorem walk_srcT {K : PySem.W.Frag} {H : Hp} {ra : List Addr} {s : Store} {l : List D} {v : V} {w : Walk} (R : SRel K H ra s) (rv : RepV K H ra (.tup l) v) (e : walkOf s (.tup l) = some w) : ∃ a xs, v = .ref a ∧ SqT K H a xs ∧ SrcT K H ra a w := by
  cases e
  obtain ⟨a, vs, rfl, sq, r⟩ := rv
  exact ⟨a, vs, rfl, sq, fun H' rb s' k p _ _ => ⟨vs, sqT_keep sq k, RepL.keep k p l vs r⟩⟩
theorem walks_l {K : PySem.W.Frag} {H : Hp} {ra : List Addr} {a : Addr} {w : Walk} (h : SrcL K H ra a w) : Walks K H ra w (Itl K a) := by
  intro i H1 rb s1 k p R st
  obtain ⟨vs, sq, r⟩ := h H1 rb s1 k p R st
  refine ⟨fun d hd => ?_, fun hn => ⟨vs, sq, by rw [RepL.length _ _ r]; exact Nat.le_of_eq hn⟩⟩
  obtain ⟨x, hx, rx⟩ := RepL.get _ _ i d r hd
  refine ⟨⟨vs, x, sq, hx⟩, fun y H2 hy => ?_⟩
  obtain ⟨rfl, hy⟩ := hy
  have : x = y := Option.some.inj (hx.symm.trans (hy vs sq))
  subst this
  exact ⟨Keeps.refl _, R, rx⟩
theorem walks_t {K : PySem.W.Frag} {H : Hp} {ra : List Addr} {a : Addr} {w : Walk} (h : SrcT K H ra a w) : Walks K H ra w (Itt K a) := by
  intro i H1 rb s1 k p R st
  obtain ⟨vs, sq, r⟩ := h H1 rb s1 k p R st
  refine ⟨fun d hd => ?_, fun hn => ⟨vs, sq, by rw [RepL.length _ _ r]; exact Nat.le_of_eq hn⟩⟩
  obtain ⟨x, hx, rx⟩ := RepL.get _ _ i d r hd
  refine ⟨⟨vs, x, sq, hx⟩, fun y H2 hy => ?_⟩
  obtain ⟨rfl, hy⟩ := hy
  have : x = y := Option.some.inj (hx.symm.trans (hy vs sq))
  subst this
  exact ⟨Keeps.refl _, R, rx⟩
theorem enm_get {w : Walk} {i : Nat} {d : D} (h : (enmOf w).its[i]? = some d) : ∃ e, w.its[i]? = some e ∧ d = .tup [.int i, e] := by
  simp only [enmOf, List.getElem?_map, Option.map_eq_some_iff, List.getElem?_zipIdx] at h
  obtain ⟨⟨e, j⟩, ⟨e', he, h1⟩, h2⟩ := h
  cases h1
  exact ⟨e, he, by rw [← h2]; simp⟩
theorem enm_len {w : Walk} : (enmOf w).its.length = w.its.length := by simp [enmOf]
theorem rep_pair {K : PySem.W.Frag} {H : Hp} {rb : List Addr} {T : Addr} {d e : D} {x y : V} (hT : H T = none) (r1 : RepV K H rb d x) (r2 : RepV K H rb e y) : RepV K (upd H T (.tup [x, y])) rb (.tup [d, e]) (.ref T) := by
  have k : Keeps H (upd H T (.tup [x, y])) := Keeps.new hT
  exact ⟨T, [x, y], rfl, .inl (.inl upd_same), x, [y], rfl, RepV.keep k (List.prefix_refl _) d x r1, y, [], rfl, RepV.keep k (List.prefix_refl _) e y r2, rfl⟩
theorem walks_el {K : PySem.W.Frag} {H : Hp} {ra : List Addr} {a : Addr} {w : Walk} (h : SrcL K H ra a w) : Walks K H ra (enmOf w) (Ite K a) := by
  intro i H1 rb s1 k p R st
  obtain ⟨vs, sq, r⟩ := h H1 rb s1 k p R st
  refine ⟨fun d hd => ?_, fun hn => ⟨vs, sq, by rw [RepL.length _ _ r, ← enm_len]; exact Nat.le_of_eq hn⟩⟩
  obtain ⟨e, he, rfl⟩ := enm_get hd
  obtain ⟨x, hx, rx⟩ := RepL.get _ _ i e r he
  refine ⟨⟨vs, x, sq, hx⟩, fun y H2 hy => ?_⟩
  obtain ⟨T, x', rfl, hT, rfl, hy⟩ := hy
  have : x = x' := Option.some.inj (hx.symm.trans (hy vs sq))
  subst this
  exact ⟨Keeps.new hT, R.aside hT, rep_pair hT rfl rx⟩
theorem walks_et {K : PySem.W.Frag} {H : Hp} {ra : List Addr} {a : Addr} {w : Walk} (h : SrcT K H ra a w) : Walks K H ra (enmOf w) (IteT K a) := by
  intro i H1 rb s1 k p R st
  obtain ⟨vs, sq, r⟩ := h H1 rb s1 k p R st
  refine ⟨fun d hd => ?_, fun hn => ⟨vs, sq, by rw [RepL.length _ _ r, ← enm_len]; exact Nat.le_of_eq hn⟩⟩
  obtain ⟨e, he, rfl⟩ := enm_get hd
  obtain ⟨x, hx, rx⟩ := RepL.get _ _ i e r he
  refine ⟨⟨vs, x, sq, hx⟩, fun y H2 hy => ?_⟩
  obtain ⟨T, x', rfl, hT, rfl, hy⟩ := hy
  have : x = x' := Option.some.inj (hx.symm.trans (hy vs sq))
  subst this
  exact ⟨Keeps.new hT, R.aside hT, rep_pair hT rfl rx⟩
theorem zip_get {w u : Walk} {i : Nat} {d : D} (h : (zipOf w u).its[i]? = some d) : ∃ e f, w.its[i]? = some e ∧ u.its[i]? = some f ∧ d = .tup [e, f] := by
  simp only [zipOf, List.getElem?_map, Option.map_eq_some_iff] at h
  obtain ⟨⟨e, f⟩, h1, h2⟩ := h
  rw [List.getElem?_zip_eq_some] at h1
  exact ⟨e, f, h1.1, h1.2, h2.symm⟩
theorem zip_len {w u : Walk} : (zipOf w u).its.length = min w.its.length u.its.length := by simp [zipOf]
theorem zip_stays {w u : Walk} {s : Store} (h : (zipOf w u).stays s = true) : w.stays s = true ∧ u.stays s = true := by
  simpa [zipOf, Walk.stays, List.all_append] using h
theorem walks_zl {K : PySem.W.Frag} {H : Hp} {ra : List Addr} {a b : Addr} {w u : Walk} (h : SrcL K H ra a w) (h' : SrcL K H ra b u) : Walks K H ra (zipOf w u) (Itz K a b) := by
  intro i H1 rb s1 k p R st
  obtain ⟨st1, st2⟩ := zip_stays st
  obtain ⟨vs, sq, r⟩ := h H1 rb s1 k p R st1
  obtain ⟨us, sq', r'⟩ := h' H1 rb s1 k p R st2
  refine ⟨fun d hd => ?_, fun hn => ⟨vs, us, sq, sq', ?_⟩⟩
  · obtain ⟨e, f, he, hf, rfl⟩ := zip_get hd
    obtain ⟨x, hx, rx⟩ := RepL.get _ _ i e r he
    obtain ⟨y, hy, ry⟩ := RepL.get _ _ i f r' hf
    refine ⟨⟨vs, us, x, y, sq, sq', hx, hy⟩, fun z H2 hz => ?_⟩
    obtain ⟨T, x', y', rfl, hT, rfl, hz1, hz2⟩ := hz
    have e1 : x = x' := Option.some.inj (hx.symm.trans (hz1 vs sq))
    have e2 : y = y' := Option.some.inj (hy.symm.trans (hz2 us sq'))
    subst e1 e2
    exact ⟨Keeps.new hT, R.aside hT, rep_pair hT rx ry⟩
  · rw [zip_len] at hn
    rw [RepL.length _ _ r, RepL.length _ _ r']
    omega
theorem walks_zt {K : PySem.W.Frag} {H : Hp} {ra : List Addr} {a b : Addr} {w u : Walk} (h : SrcT K H ra a w) (h' : SrcT K H ra b u) : Walks K H ra (zipOf w u) (RZ.ItzT K a b) := by
  intro i H1 rb s1 k p R st
  obtain ⟨st1, st2⟩ := zip_stays st
  obtain ⟨vs, sq, r⟩ := h H1 rb s1 k p R st1
  obtain ⟨us, sq', r'⟩ := h' H1 rb s1 k p R st2
  refine ⟨fun d hd => ?_, fun hn => ⟨vs, us, sq, sq', ?_⟩⟩
  · obtain ⟨e, f, he, hf, rfl⟩ := zip_get hd
    obtain ⟨x, hx, rx⟩ := RepL.get _ _ i e r he
    obtain ⟨y, hy, ry⟩ := RepL.get _ _ i f r' hf
    refine ⟨⟨vs, us, x, y, sq, sq', hx, hy⟩, fun z H2 hz => ?_⟩
    obtain ⟨T, x', y', rfl, hT, rfl, hz1, hz2⟩ := hz
    have e1 : x = x' := Option.some.inj (hx.symm.trans (hz1 vs sq))
    have e2 : y = y' := Option.some.inj (hy.symm.trans (hz2 us sq'))
    subst e1 e2
    exact ⟨Keeps.new hT, R.aside hT, rep_pair hT rx ry⟩
  · rw [zip_len] at hn
    rw [RepL.length _ _ r, RepL.length _ _ r']
    omega
theorem walks_zm {K : PySem.W.Frag} {H : Hp} {ra : List Addr} {a b : Addr} {w u : Walk} (h : SrcL K H ra a w) (h' : SrcT K H ra b u) : Walks K H ra (zipOf w u) (ItzM K a b) := by
  intro i H1 rb s1 k p R st
  obtain ⟨st1, st2⟩ := zip_stays st
  obtain ⟨vs, sq, r⟩ := h H1 rb s1 k p R st1
  obtain ⟨us, sq', r'⟩ := h' H1 rb s1 k p R st2
  refine ⟨fun d hd => ?_, fun hn => ⟨vs, us, sq, sq', ?_⟩⟩
  · obtain ⟨e, f, he, hf, rfl⟩ := zip_get hd
    obtain ⟨x, hx, rx⟩ := RepL.get _ _ i e r he
    obtain ⟨y, hy, ry⟩ := RepL.get _ _ i f r' hf
    refine ⟨⟨vs, us, x, y, sq, sq', hx, hy⟩, fun z H2 hz => ?_⟩
    obtain ⟨T, x', y', rfl, hT, rfl, hz1, hz2⟩ := hz
    have e1 : x = x' := Option.some.inj (hx.symm.trans (hz1 vs sq))
    have e2 : y = y' := Option.some.inj (hy.symm.trans (hz2 us sq'))
    subst e1 e2
    exact ⟨Keeps.new hT, R.aside hT, rep_pair hT rx ry⟩
  · rw [zip_len] at hn
    rw [RepL.length _ _ r, RepL.length _ _ r']
    omega
theorem walks_zn {K : PySem.W.Frag} {H : Hp} {ra : List Addr} {a b : Addr} {w u : Walk} (h : SrcT K H ra a w) (h' : SrcL K H ra b u) : Walks K H ra (zipOf w u) (ItzN K a b) := by
  intro i H1 rb s1 k p R st
  obtain ⟨st1, st2⟩ := zip_stays st
  obtain ⟨vs, sq, r⟩ := h H1 rb s1 k p R st1
  obtain ⟨us, sq', r'⟩ := h' H1 rb s1 k p R st2
  refine ⟨fun d hd => ?_, fun hn => ⟨vs, us, sq, sq', ?_⟩⟩
  · obtain ⟨e, f, he, hf, rfl⟩ := zip_get hd
    obtain ⟨x, hx, rx⟩ := RepL.get _ _ i e r he
    obtain ⟨y, hy, ry⟩ := RepL.get _ _ i f r' hf
    refine ⟨⟨vs, us, x, y, sq, sq', hx, hy⟩, fun z H2 hz => ?_⟩
    obtain ⟨T, x', y', rfl, hT, rfl, hz1, hz2⟩ := hz
    have e1 : x = x' := Option.some.inj (hx.symm.trans (hz1 vs sq))
    have e2 : y = y' := Option.some.inj (hy.symm.trans (hz2 us sq'))
    subst e1 e2
    exact ⟨Keeps.new hT, R.aside hT, rep_pair hT rx ry⟩
  · rw [zip_len] at hn
    rw [RepL.length _ _ r, RepL.length _ _ r']
    omega
theorem walks_r {K : PySem.W.Frag} {H : Hp} {ra : List Addr} (a b : Int) : Walks K H ra ⟨[], rngL a b⟩ (Itr a (b - a).toNat) := by
  intro i H1 rb s1 k p R st
  refine ⟨fun d hd => ?_, fun hn => by rw [← rngL_length a b]; exact Nat.le_of_eq hn⟩
  have hi : i < (b - a).toNat := by
    rw [← rngL_length a b]
    exact (List.getElem?_eq_some_iff.mp hd).1
  have e : d = .int (a + i) := by
    simp only [rngL, List.getElem?_map, Option.map_eq_some_iff, List.getElem?_range hi] at hd
    obtain ⟨j, hj, rfl⟩ := hd
    cases hj
    rfl
  subst e
  refine ⟨hi, fun x H2 hx => ?_⟩
  obtain ⟨rfl, rfl⟩ := hx
  exact ⟨Keeps.refl _, R, rfl⟩
theorem walks_r3 {K : PySem.W.Frag} {H : Hp} {ra : List Addr} (a b : Int) : Walks K H ra ⟨[], (List.range (a - b).toNat).map fun (i : Nat) => .int (a - i)⟩ (Itc a (-1) (a - b).toNat) := by
  intro i H1 rb s1 k p R st
  have hl : ((List.range (a - b).toNat).map fun (i : Nat) => D.int (a - i)).length = (a - b).toNat := by rw [List.length_map, List.length_range]
  refine ⟨fun d hd => ?_, fun hn => by rw [← hl]; exact Nat.le_of_eq hn⟩
  have hi : i < (a - b).toNat := by
    rw [← hl]
    exact (List.getElem?_eq_some_iff.mp hd).1
  have e : d = .int (a - i) := by
    simp only [List.getElem?_map, Option.map_eq_some_iff, List.getElem?_range hi] at hd
    obtain ⟨j, hj, rfl⟩ := hd
    cases hj
    rfl
  subst e
  refine ⟨hi, fun x H2 hx => ?_⟩
  obtain ⟨rfl, rfl⟩ := hx
  exact ⟨Keeps.refl _, R, show V.int _ = V.int _ by congr 1; omega⟩
theorem pi_anyS {tg l : Expr} {tl : TE} (hl : PE X l tl) : PI X tg l (fun σ H RR => tl σ H fun x H1 => ((∃ a xs, x = .ref a ∧ SqL X.K H1 a xs ∧ RR (Itl X.K a) H1) ∨ ∃ a xs, x = .ref a ∧ SqT X.K H1 a xs ∧ RR (Itt X.K a) H1) ∨ ∃ z, x = .str z ∧ RR (Its z) H1) := by
  refine ⟨fun pins sh σ H RR I h => thn (hl.run pins sh σ H _ I h) fun v s1 hv => ?_⟩
  obtain ⟨x, H1, I1, rx, q⟩ := hv
  rcases q with (⟨a, xs, ex, sq, q⟩ | ⟨a, xs, ex, sq, q⟩) | ⟨z, ex, q⟩
  · subst ex
    obtain ⟨its, _, pl, _⟩ := I1.list sq
    obtain rfl : v = Value.ref a := rx
    refine wpAny_pyIter_list pl.isList ⟨s1.heap.objs.size, [s1.heap.objs.size], _, _, H1, rfl, I1.kept (t' := s1.toks) fun b o e => Heap.get?_push_of_some _ e, turn_list a _, ⟨_, Heap.get?_push_size _ rfl, rfl, rfl⟩, fun b hb => ?_, q⟩
    rw [List.mem_singleton.mp hb]
    exact I1.fpOk (Nat.le_refl _) (I1.hok.fresh (Nat.le_refl _))
  · subst ex
    obtain ⟨its, _, pl, _⟩ := I1.tuple sq
    obtain rfl : v = Value.ref a := rx
    refine wpAny_pyIter_tuple (items := its.toArray) pl ⟨s1.heap.objs.size, [s1.heap.objs.size], _, _, H1, rfl, I1.kept (t' := s1.toks) fun b o e => Heap.get?_push_of_some _ e, turn_tuple a _, ⟨_, Heap.get?_push_size _ rfl, rfl, rfl⟩, fun b hb => ?_, q⟩
    rw [List.mem_singleton.mp hb]
    exact I1.fpOk (Nat.le_refl _) (I1.hok.fresh (Nat.le_refl _))
  · subst ex
    obtain ⟨t, rfl⟩ := rx
    cases ha : z.cps.all (· < 128)
    · exact wpAny_pyIter_wide ha (pi_one (tk := s1.toks) I1 _ (turn_str _ z t "str_iterator" (.inr rfl)) ⟨_, Heap.get?_push_size _ rfl, rfl, rfl⟩ q)
    · exact wpAny_pyIter_ascii ha (pi_one (tk := s1.toks) I1 _ (turn_str _ z t "str_ascii_iterator" (.inl rfl)) ⟨_, Heap.get?_push_size _ rfl, rfl, rfl⟩ q)
theorem walks_s {K : PySem.W.Frag} {H : Hp} {ra : List Addr} (x : Str) : Walks K H ra ⟨[], x.cps.toList.map fun c => .str ⟨#[c]⟩⟩ (Its x) := by
  intro i H1 rb s1 k p R st
  refine ⟨fun d hd => ?_, fun hn => ?_⟩
  · simp only [List.getElem?_map, Option.map_eq_some_iff] at hd
    obtain ⟨c, hc, rfl⟩ := hd
    have hc : x.cps[i]? = some c := by rw [← Array.getElem?_toList]; exact hc
    refine ⟨(Array.getElem?_eq_some_iff.mp hc).1, fun y H2 hy => ?_⟩
    obtain ⟨rfl, c', hc', rfl⟩ := hy
    rw [hc] at hc'
    cases hc'
    exact ⟨Keeps.refl _, R, rfl⟩
  · simp only [List.length_map, Array.length_toList] at hn
    exact Nat.le_of_eq hn
theorem walks_k {K : PySem.W.Frag} {H : Hp} {ra : List Addr} {a : Addr} {o : Obj} {kvs : List (L2.Key × V)} {l : List (L2.Key × D)} (ho : H a = some (.frz o (.dK kvs))) (rm : RepM K H ra l kvs) : Walks K H ra ⟨[], l.map fun p => kD p.1⟩ (Itk a o kvs) := by
  intro i H1 rb s1 k p R st
  have h1 : H1 a = some (.frz o (.dK kvs)) := k.1 _ _ ho rfl
  have hl := rm.length
  refine ⟨fun d hd => ?_, fun hn => ⟨h1, ?_⟩⟩
  · simp only [List.getElem?_map, Option.map_eq_some_iff] at hd
    obtain ⟨q, hq, rfl⟩ := hd
    have hi := (List.getElem?_eq_some_iff.mp hq).1
    refine ⟨⟨h1, by omega⟩, fun x H2 hy => ?_⟩
    obtain ⟨rfl, k2, v, hk, rfl⟩ := hy
    have e : k2 = q.1 := by
      have q1 : (kvs.map (·.1))[i]? = some k2 := by rw [List.getElem?_map, hk]; rfl
      rw [rm.1, List.getElem?_map, hq] at q1
      exact (Option.some.inj q1).symm
    refine ⟨Keeps.refl _, R, ?_⟩
    rw [e]
    cases q.1 <;> rfl
  · simp only [List.length_map] at hn
    omega
theorem i_key {e : E} {t x : Expr} (h : GE M X W k e x) : GI M X W k (.key e) t x := by
  refine PI.sub (pi_keys h.1) fun σ H Q ⟨ra, ρ, s, e1, r, p⟩ => ?_
  simp only [evIt] at p
  refine tE_bind e1 r p fun v H1 d s1 r1 k1 p1 e1 R1 rv q => ?_
  cases d with
  | ref n =>
    simp only at q
    cases hl : lckOf s1 n with
    | none => rw [hl] at q; exact q.elim
    | some l =>
      rw [hl] at q
      obtain ⟨a, ea, kvs, ⟨o, ho⟩, rm⟩ := R1.at (lckOf_get hl)
      obtain ⟨a', ea', rfl⟩ := rv
      rw [ea] at ea'
      cases ea'
      exact ⟨a, o, rfl, .inl ⟨kvs, ho, q.fin R1 (walks_k ho rm)⟩⟩
  | _ => exact q.elim
theorem keeps_unlock {H H2 : Hp} {a : Addr} {o : Obj} {kvs : List (L2.Key × V)} (h : H a = some (.dK kvs)) (k : Keeps (upd H a (.frz o (.dK kvs))) H2) : H2 a = some (.frz o (.dK kvs)) ∧ Keeps H (upd H2 a (.dK kvs)) := by
  have h2 : H2 a = some (.frz o (.dK kvs)) := k.1 _ _ upd_same rfl
  refine ⟨h2, fun b u e s => ?_, fun t => tabs_unlock h2 (k.2 ((Keeps.mutD h).2 t))⟩
  have hb : b ≠ a := fun z => by
    subst z
    rw [h] at e
    cases e
    cases s
  rw [upd_ne hb]
  exact k.1 _ _ (by rw [upd_ne hb]; exact e) s
theorem ERel.unlock {K : PySem.W.Frag} {H : Hp} {ra : List Addr} {ρ : Env} {σ : L2.St} (e : ERel K H ra ρ σ) (hΓ : ∀ p ∈ CLO.Γ, False) {a : Addr} {o : Obj} {kvs : List (L2.Key × V)} (h0 : H a = some (.frz o (.dK kvs))) {u : HO} : ERel K (upd H a u) ra ρ σ :=
  ⟨e.len, fun i d q => let ⟨v, e1, r⟩ := e.get i d q; ⟨v, e1, RepV.unlock h0 d v r⟩, fun p hp => (hΓ p hp).elim⟩
theorem no_clo (g : Good M N X W k sc fn) (h : M.na.isEmpty = true) : ∀ p ∈ CLO.Γ, False := fun p hp => by
  have q := g.gna p hp
  rw [List.isEmpty_iff.mp h] at q
  cases q
theorem s_lockE {i : Nat} {e : E} {x : Expr} (h : PE X x (tE M X W (evE (M.C k) M.G e))) : PE X x (tE M X W (evE (M.C k) M.G (.lock i e))) := by
  refine PE.sub (pe_lock h) fun σ H Q ⟨ra, ρ, s, e1, R, p⟩ => ?_
  simp only [evE] at p
  split at p
  · rename_i n hn
    cases hl : isDct s n with
    | none => rw [hl] at p; exact p.elim
    | some l =>
      rw [hl] at p
      simp only at p
      obtain ⟨a, kvs, ea, hv, rm, lk⟩ := R.lock hl
      refine ⟨a, .dK kvs, hv, trivial, fun od => ?_⟩
      obtain ⟨R1, k1⟩ := lk od
      refine ⟨ra, ρ, s.set n (.lck l), e1.keep k1 (List.prefix_refl _), R1, ?_⟩
      cases hx : evE (M.C k) M.G e ρ (s.set n (.lck l)) with
      | ok d s1 =>
        rw [hx] at p
        simp only at p
        intro v rb H2 k2 p2 R2 rv
        obtain ⟨h2, k3⟩ := keeps_unlock hv k2
        refine ⟨h2, ?_⟩
        split at p
        · rename_i hs
          exact p v rb _ k3 p2 (R2.unlock hs (pre_get p2 ea) h2) (RepV.unlock h2 d v rv)
        · exact p.elim
      | exc c w s1 => rw [hx] at p; exact p.elim
      | bad => rw [hx] at p; exact p.elim
  · exact p.elim
theorem i_val {e : E} {t x : Expr} (h : GE M X W k e x) : GI M X W k (.val e) t x := by
  refine PI.sub (pi_anyS h.1) fun σ H Q ⟨ra, ρ, s, e1, r, p⟩ => ?_
  simp only [evIt] at p
  refine tE_bind e1 r p fun v H1 d s1 r1 k1 p1 e1 R1 rv q => ?_
  have txt : ∀ z, d = .str z → ((∃ a xs, v = .ref a ∧ SqL X.K H1 a xs ∧ Q (Itl X.K a) H1) ∨ ∃ a xs, v = .ref a ∧ SqT X.K H1 a xs ∧ Q (Itt X.K a) H1) ∨ ∃ z, v = .str z ∧ Q (Its z) H1 := fun z ez => by
    subst ez
    exact .inr ⟨z, rv, q.fin R1 (walks_s z)⟩
  by_cases hz : ∃ z, d = .str z
  · obtain ⟨z, ez⟩ := hz
    exact txt z ez
  have ew : walkS s1 d = walkOf s1 d := by
    cases d with
    | str z => exact (hz ⟨z, rfl⟩).elim
    | _ => rfl
  rw [ew] at q
  refine .inl ?_
  cases hw : walkOf s1 d with
  | none => rw [hw] at q; exact q.elim
  | some w =>
    rw [hw] at q
    obtain ⟨a, rfl, h⟩ := walk_src R1 rv hw
    rcases h with ⟨⟨xs, sq⟩, h⟩ | ⟨⟨xs, sq⟩, h⟩
    · exact .inl ⟨a, xs, rfl, sq, q.fin R1 (walks_l h)⟩
    · exact .inr ⟨a, xs, rfl, sq, q.fin R1 (walks_t h)⟩
theorem walks_es {K : PySem.W.Frag} {H : Hp} {ra : List Addr} (x : Str) : Walks K H ra (enmOf ⟨[], x.cps.toList.map fun c => .str ⟨#[c]⟩⟩) (IteS x) := by
  intro i H1 rb s1 k p R st
  refine ⟨fun d hd => ?_, fun hn => ?_⟩
  · obtain ⟨e, he, rfl⟩ := enm_get hd
    simp only [List.getElem?_map, Option.map_eq_some_iff] at he
    obtain ⟨c, hc, rfl⟩ := he
    have hc : x.cps[i]? = some c := by rw [← Array.getElem?_toList]; exact hc
    refine ⟨(Array.getElem?_eq_some_iff.mp hc).1, fun y H2 hy => ?_⟩
    obtain ⟨T, c', rfl, hT, rfl, hc'⟩ := hy
    rw [hc] at hc'
    cases hc'
    exact ⟨Keeps.new hT, R.aside hT, rep_pair hT rfl rfl⟩
  · have hl := enm_len (w := ⟨[], x.cps.toList.map fun c => D.str ⟨#[c]⟩⟩)
    rw [hl] at hn
    simp only [List.length_map, Array.length_toList] at hn
    exact Nat.le_of_eq hn
theorem i_enm (g : Good M N X W k sc fn) {e : E} {x : Expr} {ts : List Expr} {k1 : Nat} {tp p pos : Pos} (hg : glB sc "enumerate" = true) (hs : notStar x = true) (h : GE M X W k e x) :
    GI M X W k (.enm e) (.Tuple ts k1 tp) (.Call (.Name "enumerate" p) [x] [] pos) := by
  have hm : X.mg "enumerate" = none := g.blt (by simp [bltNames])
  refine PI.sub (pi_enumA (gl_ok hg g) hm (pa_cons h.1 pa_nil (star_cons hs [] X.env)) (star_cons hs [] X.env)) fun σ H Q ⟨ra, ρ, s, e1, r, p⟩ => ?_
  simp only [evIt] at p
  refine tE_bind e1 r p fun v H1 d s1 r1 k1 p1 e1 R1 rv q => ?_
  by_cases hz : ∃ z, d = .str z
  · obtain ⟨z, ez⟩ := hz
    subst ez
    exact .inr ⟨z, by rw [show v = .str z from rv], q.fin R1 (walks_es z)⟩
  have ew : walkS s1 d = walkOf s1 d := by
    cases d with
    | str z => exact (hz ⟨z, rfl⟩).elim
    | _ => rfl
  rw [ew] at q
  refine .inl ?_
  cases hw : walkOf s1 d with
  | none => rw [hw] at q; exact q.elim
  | some w =>
    rw [hw] at q
    obtain ⟨a, rfl, h⟩ := walk_src R1 rv hw
    rcases h with ⟨⟨xs, sq⟩, h⟩ | ⟨⟨xs, sq⟩, h⟩
    · exact ⟨a, xs, rfl, .inl ⟨sq, q.fin R1 (walks_el h)⟩⟩
    · exact ⟨a, xs, rfl, .inr ⟨sq, q.fin R1 (walks_et h)⟩⟩
theorem evEs_len (C : Calls) (G : Globs) : ∀ (es : List E) (ρ : Env) (s s1 : Store) (ds : List D), evEs C G es ρ s = .ok ds s1 → ds.length = es.length
  | [], ρ, s, s1, ds, h => by simp only [evEs] at h; cases h; rfl
  | e :: es, ρ, s, s1, ds, h => by
    simp only [evEs] at h
    cases h1 : evE C G e ρ s with
    | ok d s2 =>
      rw [h1] at h
      simp only [R.bind] at h
      cases h2 : evEs C G es ρ s2 with
      | ok ds' s3 =>
        rw [h2] at h
        cases h
        rw [List.length_cons, List.length_cons, evEs_len C G es ρ s2 _ ds' h2]
      | exc c w s3 => rw [h2] at h; cases h
      | bad => rw [h2] at h; cases h
    | exc c w s2 => rw [h1] at h; cases h
    | bad => rw [h1] at h; cases h
theorem rng_key {es : List E} {σ : L2.St} {H : Hp} {Q : L2.It → Hp → Prop} (h : tI M X W (evIt (M.C k) M.G (.rng es)) σ H Q) :
    tA M X W (evEs (M.C k) M.G es) σ H fun vs H1 => ∃ ra s ds l, ds.length = es.length ∧ SRel X.K H1 ra s ∧ RepL X.K H1 ra ds vs ∧ rngD ds = some l ∧ PostR M X.mg X.K W σ (Walks X.K) H1 ra (.ok ⟨[], l⟩ s) Q := by
  obtain ⟨ra, ρ, s, e1, r, p⟩ := h
  simp only [evIt] at p
  refine ⟨ra, ρ, s, e1, r, ?_⟩
  cases hx : evEs (M.C k) M.G es ρ s with
  | ok ds s1 =>
    rw [hx] at p
    simp only [R.bind] at p
    intro vs rb H1 k1 p1 R1 rv
    cases hw : rngD ds with
    | none => rw [hw] at p; exact p.elim
    | some l =>
      rw [hw] at p
      show ∃ (ra : List Addr) (s : Store) (ds : List D) (l : List D), _
      exact ⟨rb, s1, ds, l, evEs_len _ _ _ _ _ _ _ hx, R1, rv, hw, PostR.mono (r := WL.R.ok (WL.Walk.mk [] l) s1) p k1 p1⟩
  | exc c w s1 => rw [hx] at p; exact p
  | bad => rw [hx] at p; exact p
theorem i_rng (g : Good M N X W k sc fn) {es : List E} {xs : List Expr} {t : Expr} {p pos : Pos} (hg : glB sc "range" = true) (h : GEs M X W k es xs) (hl : xs.length = 1 ∨ xs.length = 2 ∨ xs.length = 3) : GI M X W k (.rng es) t (.Call (.Name "range" p) xs [] pos) := by
  have hm : X.mg "range" = none := g.blt (by simp [bltNames])
  match es, xs, h, hl with
  | [a], [x], h, _ =>
    refine PI.sub (pi_range1 (gl_ok hg g) hm h.ga (star_cons h.2.1 [] X.env)) fun σ H Q tt => ?_
    obtain ⟨ra, ρ, s, e1, r1, pp⟩ := rng_key tt
    refine ⟨ra, ρ, s, e1, r1, pp.imp fun vs H1 ⟨rb, s1, ds, l, hlen, R1, rv, hl, q⟩ => ?_⟩
    match ds, hlen, hl, rv with
    | [d], _, hl, rv =>
      obtain ⟨v, rfl, rv1⟩ := one_of rv
      cases d with
      | int b =>
        simp only [rngD] at hl
        split at hl
        · rename_i hs
          cases hl
          obtain ⟨b1, b2⟩ := small_ok hs
          have q2 := q.fin R1 (walks_r 0 b)
          rw [Int.sub_zero] at q2
          exact ⟨b, by rw [show v = .int b from rv1], b1, b2, q2⟩
        · cases hl
      | _ => cases hl
  | [a, b], [x, y], h, _ =>
    refine PI.sub (pi_range2 (gl_ok hg g) hm h.ga (by rw [star_cons h.2.1, star_cons h.2.2.2.1]; rfl) (star_cons h.2.2.2.1 [] X.env)) fun σ H Q tt => ?_
    obtain ⟨ra, ρ, s, e1, r1, pp⟩ := rng_key tt
    refine ⟨ra, ρ, s, e1, r1, pp.imp fun vs H1 ⟨rb, s1, ds, l, hlen, R1, rv, hl, q⟩ => ?_⟩
    match ds, hlen, hl, rv with
    | [d, d2], _, hl, rv =>
      obtain ⟨v, u, rfl, rv1, rv2⟩ := two_of rv
      cases d with
      | int i =>
        cases d2 with
        | int j =>
          simp only [rngD] at hl
          split at hl
          · rename_i hs
            cases hl
            rw [Bool.and_eq_true] at hs
            obtain ⟨b1, b2⟩ := small_ok hs.1
            obtain ⟨b3, b4⟩ := small_ok hs.2
            exact ⟨i, j, by rw [show v = .int i from rv1, show u = .int j from rv2], ⟨b1, b2, b3, b4⟩, q.fin R1 (walks_r i j)⟩
          · cases hl
        | _ => cases hl
      | _ => cases d2 <;> cases hl
  | [a, b, c], [x, y, z], h, _ =>
    refine PI.sub (pi_range3 (gl_ok hg g) hm h.ga (star_cons h.2.1 _ X.env) (by rw [star_cons h.2.2.2.1, star_cons h.2.2.2.2.2.1]; rfl)) fun σ H Q tt => ?_
    obtain ⟨ra, ρ, s, e1, r1, pp⟩ := rng_key tt
    refine ⟨ra, ρ, s, e1, r1, pp.imp fun vs H1 ⟨rb, s1, ds, l, hlen, R1, rv, hl, q⟩ => ?_⟩
    match ds, hlen, hl, rv with
    | [d, d2, d3], _, hl, rv =>
      obtain ⟨v, r, rfl, rv1, rr⟩ := rv
      obtain ⟨u, w, rfl, rv2, rv3⟩ := two_of rr
      cases d with
      | int i =>
        cases d2 with
        | int j =>
          cases d3 with
          | int c =>
            simp only [rngD] at hl
            split at hl
            · rename_i hs
              cases hl
              rw [Bool.and_eq_true, Bool.and_eq_true] at hs
              obtain ⟨b1, b2⟩ := small_ok hs.1.1
              obtain ⟨b3, b4⟩ := small_ok hs.1.2
              have hc : c = -1 := of_decide_eq_true hs.2
              subst hc
              exact ⟨i, j, -1, (i - j).toNat, by rw [show v = .int i from rv1, show u = .int j from rv2, show w = .int (-1) from rv3], RgC.neg b1 b2 b3 b4, q.fin R1 (walks_r3 i j)⟩
            · cases hl
          | _ => cases hl
        | _ => cases d3 <;> cases hl
      | _ => cases d2 <;> cases d3 <;> cases hl
  | [], [], _, hl => simp at hl
  | _ :: _ :: _ :: _ :: _, _ :: _ :: _ :: _ :: _, _, hl => simp at hl
  | [], _ :: _, h, _ => exact h.elim
  | _ :: _, [], h, _ => exact h.elim
  | [_], _ :: _ :: _, h, _ => exact h.2.2.elim
  | _ :: _ :: _, [_], h, _ => exact h.2.2.elim
  | [_, _], _ :: _ :: _ :: _, h, _ => exact h.2.2.2.2.elim
  | _ :: _ :: _ :: _, [_, _], h, _ => exact h.2.2.2.2.elim
  | [_, _, _], _ :: _ :: _ :: _ :: _, h, _ => exact h.2.2.2.2.2.2.elim
  | _ :: _ :: _ :: _ :: _, [_, _, _], h, _ => exact h.2.2.2.2.2.2.elim
theorem i_zip (g : Good M N X W k sc fn) {a b : E} {x y : Expr} {ts : List Expr} {k1 : Nat} {tp p pos : Pos} (hg : glB sc "zip" = true) (hs : notStar x = true) (hs2 : notStar y = true) (ha : GE M X W k a x) (hb : GE M X W k b y) :
    GI M X W k (.zip a b) (.Tuple ts k1 tp) (.Call (.Name "zip" p) [x, y] [] pos) := by
  have hm : X.mg "zip" = none := g.blt (by simp [bltNames])
  refine PI.sub (pi_zipM (gl_ok hg g) hm (pa_cons ha.1 (pa_cons hb.1 pa_nil (star_cons hs2 [] X.env)) (star_cons hs _ X.env)) (star_cons hs _ X.env) (by rw [star_cons hs2]; rfl)) fun σ H Q ⟨ra, ρ, s, e1, r, p⟩ => ?_
  simp only [evIt] at p
  refine tE_bind e1 r p fun v H1 d s1 r1 k1 p1 e1 R1 rv q => ?_
  refine tE_bind e1 R1 q fun u H2 d2 s2 r2 k2 p2 e2 R2 ru q2 => ?_
  have rv2 := RepV.keep k2 p2 d v rv
  split at q2
  · rename_i hk
    cases hw : walkOf s2 d with
    | none => rw [hw] at q2; exact q2.elim
    | some w =>
      rw [hw] at q2
      cases hw2 : walkOf s2 d2 with
      | none => rw [hw2] at q2; exact q2.elim
      | some w2 =>
        rw [hw2] at q2
        cases d with
        | ref n =>
          cases d2 with
          | ref m =>
            obtain ⟨b1, xs, rfl, sq, h1⟩ := walk_srcL R2 rv2 hw
            obtain ⟨b2, ys, rfl, sq2, h2⟩ := walk_srcL R2 ru hw2
            exact ⟨b1, b2, xs, ys, rfl, .inl ⟨sq, sq2, q2.fin R2 (walks_zl h1 h2)⟩⟩
          | tup m =>
            obtain ⟨b1, xs, rfl, sq, h1⟩ := walk_srcL R2 rv2 hw
            obtain ⟨b2, ys, rfl, sq2, h2⟩ := walk_srcT R2 ru hw2
            exact ⟨b1, b2, xs, ys, rfl, .inr (.inr (.inl ⟨sq, sq2, q2.fin R2 (walks_zm h1 h2)⟩))⟩
          | _ => cases hk
        | tup l =>
          cases d2 with
          | tup m =>
            obtain ⟨b1, xs, rfl, sq, h1⟩ := walk_srcT R2 rv2 hw
            obtain ⟨b2, ys, rfl, sq2, h2⟩ := walk_srcT R2 ru hw2
            exact ⟨b1, b2, xs, ys, rfl, .inr (.inl ⟨sq, sq2, q2.fin R2 (walks_zt h1 h2)⟩)⟩
          | ref m =>
            obtain ⟨b1, xs, rfl, sq, h1⟩ := walk_srcT R2 rv2 hw
            obtain ⟨b2, ys, rfl, sq2, h2⟩ := walk_srcL R2 ru hw2
            exact ⟨b1, b2, xs, ys, rfl, .inr (.inr (.inr ⟨sq, sq2, q2.fin R2 (walks_zn h1 h2)⟩))⟩
          | _ => cases hk
        | _ => cases d2 <;> cases hk
  · exact q2.elim
theorem wipe_get {σ : L2.St} {j : Nat} : ∀ {vs : List Nat}, j ∈ vs → j < σ.length → (L2.wipe σ vs)[j]? = some none
  | [], h, _ => nomatch h
  | v :: vs, h, hl => by
    unfold L2.wipe
    by_cases e : v = j
    · subst e
      rw [List.getElem?_set_self (by rw [L2.wipe_length]; exact hl)]
    · rw [List.getElem?_set_ne e]
      rcases List.mem_cons.mp h with z | z
      · exact absurd z.symm e
      · exact wipe_get z hl
theorem wipe_other {σ : L2.St} {j : Nat} : ∀ {vs : List Nat}, j ∉ vs → (L2.wipe σ vs)[j]? = σ[j]?
  | [], _ => rfl
  | v :: vs, h => by
    unfold L2.wipe
    have h1 : v ≠ j := fun z => h (by simp [z])
    have h2 : j ∉ vs := fun z => h (List.mem_cons_of_mem _ z)
    rw [List.getElem?_set_ne h1]
    exact wipe_other h2
theorem wipe_same {σ σ2 : L2.St} {l vs : List Nat} (h : SameOut l (L2.wipe σ vs) σ2) (hl : ∀ j ∈ l, j ∈ vs) : L2.wipe σ2 vs = L2.wipe σ vs := by
  apply List.ext_getElem?
  intro j
  have e1 : σ2.length = σ.length := by rw [h.1, L2.wipe_length]
  by_cases hj : j ∈ vs
  · by_cases hlt : j < σ.length
    · rw [wipe_get hj (by rw [e1]; exact hlt), wipe_get hj hlt]
    · rw [List.getElem?_eq_none (by rw [L2.wipe_length, e1]; omega), List.getElem?_eq_none (by rw [L2.wipe_length]; omega)]
  · rw [wipe_other hj, wipe_other hj, h.2 j fun z => hj (hl j z), wipe_other hj]
abbrev Wf : WX := fun _ _ _ _ => False
theorem own_snd (N : List Str) (own : List Nat) : (own.map fun j => (N.getD j (default : Str), j)).map (·.2) = own := by
  rw [List.map_map]
  exact List.map_id own
def lcF (C : Calls) (G : Globs) (elt : E) (tg : Tg) (ifs : List E) (own : List Nat) (ρ : Env) (x : D) (s : Store) : R (Option D) :=
  (asgT C G tg x (wipeE ρ own) s).bind fun ρ1 s => match ifs with
    | [] => (evE C G elt ρ1 s).bind fun d s1 => .ok (some d) (trunc s d s1)
    | c :: _ => (evT C G c ρ1 s).bind fun b s1 => match b with
      | true => (evE C G elt ρ1 (trunc s .non s1)).bind fun d s2 => .ok (some d) (trunc (trunc s .non s1) d s2)
      | false => .ok none (trunc s .non s1)
theorem evE_lc (C : Calls) (G : Globs) (elt : E) (tg : Tg) (it : It) (ifs : List E) (own : List Nat) (ρ : Env) (s : Store) :
    evE C G (.lc elt tg it ifs own) ρ s = (evIt C G it ρ s).bind fun w s => lcGo w s.length (lcF C G elt tg ifs own ρ) w.its (s ++ [.lst []]) := by
  simp only [evE]
  congr 1
  funext w s1
  congr 1
  funext x s2
  unfold lcF
  congr 1
  funext ρ1 s3
  cases ifs with
  | nil => rfl
  | cons c cs =>
    simp only
    rw [← evT_bind]
    congr 1
    funext d s4
    cases truth s4 d with
    | none => rfl
    | some b => cases b <;> rfl
def tIfs (M : Cfg) (X : Cx) (k : Nat) : List E → TT
  | [] => tYes
  | c :: _ => tT M X Wf (evT (M.C k) M.G c)
theorem s_lc (g : Good M N X W k sc fn) {elt : E} {tg : Tg} {it : It} {ifs : List E} {own : List Nat} {x t i : Expr} {cs : List Expr} {scope : Scope}
    (ht : ∀ j ∈ Tg.names tg, j ∈ own) (ho : ∀ j ∈ own, Off j) {σ : L2.St} {H : Hp} {Q : VK} (h : tE M X W (evE (M.C k) M.G (.lc elt tg it ifs own)) σ H Q) :
    tLc (tI M X W (evIt (M.C k) M.G it)) (tG M X (Tg.names tg) (asgT (M.C k) M.G tg)) (tIfs M X k ifs) (tE M X Wf (evE (M.C k) M.G elt)) own σ H Q := by
  obtain ⟨ra, ρ, s, e, r, p⟩ := h
  rw [evE_lc] at p
  refine ⟨ra, ρ, s, e, r, (PostR.bind (repA := Walks X.K) p).imp fun J H1 ⟨w, s1, r1, k1, p1, R1, hw, q⟩ D hD => ?_⟩
  have kD : Keeps H1 (upd H1 D (.lst [])) := Keeps.new hD
  have pD : r1 <+: r1 ++ [D] := List.prefix_append _ _
  have RD : SRel X.K (upd H1 D (.lst [])) (r1 ++ [D]) (s1 ++ [.lst []]) := R1.newL (vs := []) hD rfl
  have hDn : (r1 ++ [D])[s1.length]? = some D := by
    rw [← R1.len, List.getElem?_append_right (Nat.le_refl _)]
    simp
  refine ⟨fun i m Hc => m = w.its.length - i ∧ i ≤ w.its.length ∧ ∃ rc sc_, Keeps (upd H1 D (.lst [])) Hc ∧ r1 ++ [D] <+: rc ∧ SRel X.K Hc rc sc_ ∧
      PostR M X.mg X.K W σ (RepV X.K) Hc rc (lcGo w s1.length (lcF (M.C k) M.G elt tg ifs own ρ) (w.its.drop i) sc_) Q, ⟨w.its.length, rfl, Nat.zero_le _, r1 ++ [D], _, Keeps.refl _, List.prefix_refl _, RD, q.mono kD pD⟩, ?_⟩
  rintro i m Hc ⟨rfl, hi, rc, sc_, kc, pc, Rc, q⟩
  have W1 := hw i Hc rc sc_ (kD.trans kc) (pD.trans pc) Rc
  have hDc : rc[s1.length]? = some D := pre_get pc hDn
  by_cases hlt : i < w.its.length
  · have hd : w.its[i]? = some w.its[i] := List.getElem?_eq_getElem hlt
    rw [List.drop_eq_getElem_cons hlt] at q
    unfold lcGo at q
    split at q
    · rename_i st
      obtain ⟨go, yld⟩ := (W1 st).1 _ hd
      refine .inr ⟨go, fun H' => w.its.length - (i + 1) = w.its.length - (i + 1) ∧ i + 1 ≤ w.its.length ∧ ∃ rc sc_, Keeps (upd H1 D (.lst [])) H' ∧ r1 ++ [D] <+: rc ∧ SRel X.K H' rc sc_ ∧
        PostR M X.mg X.K W σ (RepV X.K) H' rc (lcGo w s1.length (lcF (M.C k) M.G elt tg ifs own ρ) (w.its.drop (i + 1)) sc_) Q, fun H' hN => ⟨_, by omega, hN⟩, fun x H2 hy => ?_⟩
      obtain ⟨k2, R2, rx⟩ := yld x H2 hy
      have e2 := (e.keep ((k1.trans (kD.trans kc)).trans k2) (p1.trans (pD.trans pc))).wipe own ho
      have q2 := q.mono k2 (List.prefix_refl rc)
      unfold lcF at q2
      have fin : ∀ (H4 : Hp) (r5 : List Addr) (s5 : Store) (d : WL.D) (y : V), Keeps (upd H1 D (.lst [])) H4 → r1 ++ [D] <+: r5 → SRel X.K H4 r5 s5 → RepV X.K H4 r5 d y →
          PostR M X.mg X.K W σ (RepV X.K) H4 r5 (match isLst s5 s1.length with
            | some l => if l.length < sizeLine then lcGo w s1.length (lcF (M.C k) M.G elt tg ifs own ρ) (w.its.drop (i + 1)) (s5.set s1.length (.lst (l ++ [d]))) else .bad
            | none => .bad) Q →
          ∃ acc, H4 D = some (.lst acc) ∧ acc.length < sizeLine ∧ (w.its.length - (i + 1) = w.its.length - (i + 1) ∧ i + 1 ≤ w.its.length ∧ ∃ rc sc_, Keeps (upd H1 D (.lst [])) (upd H4 D (.lst (acc ++ [y]))) ∧ r1 ++ [D] <+: rc ∧ SRel X.K (upd H4 D (.lst (acc ++ [y]))) rc sc_ ∧
            PostR M X.mg X.K W σ (RepV X.K) (upd H4 D (.lst (acc ++ [y]))) rc (lcGo w s1.length (lcF (M.C k) M.G elt tg ifs own ρ) (w.its.drop (i + 1)) sc_) Q) := by
        intro H4 r5 s5 d y k4 p4 R5 ry q6
        split at q6
        · rename_i l hl
          split at q6
          · rename_i hz
            obtain ⟨b, vs, eb, hv, rl⟩ := R5.lst hl
            have eD := pre_get p4 hDn
            rw [eD] at eb
            cases eb
            obtain ⟨R6, k6⟩ := R5.setL hl eD (rl.append (RepL.one ry))
            exact ⟨vs, hv, by rw [RepL.length l vs rl]; exact hz, rfl, hlt, r5, _, k4.trans k6, p4, R6, q6.mono k6 (List.prefix_refl _)⟩
          · exact q6.elim
        · exact q6.elim
      refine ⟨rc, wipeE ρ own, sc_, w.its[i], e2, R2, rx, ?_⟩
      refine (PostR.quiet0q (W' := fun _ _ _ _ => False) (σ' := L2.wipe σ own) (repA := fun H' rb ρ' σ' => ERel X.K H' rb ρ' σ' ∧ SameOut (Tg.names tg) (L2.wipe σ own) σ') q2).imp fun σ3 H3 ⟨ρ1, s3, r3, k3, p3, R3, ⟨e3, so⟩, q5⟩ => ?_
      refine ⟨wipe_same so ht, ?_⟩
      have q5 := q5.mono k3 p3
      have kk := kc.trans (k2.trans k3)
      have pp := pc.trans p3
      cases ifs with
      | nil =>
        refine ⟨r3, ρ1, s3, e3, R3, ?_⟩
        refine (PostR.quiet0 (W' := Wf) (σ' := σ3) (repA := RepV X.K) q5).imp fun y H4 ⟨d, s4, r4, k4, p4, R4, ry, q6⟩ => ?_
        obtain ⟨r5, p5, R5, ry5⟩ := R3.trunc R4 p4 d y ry
        exact fin H4 r5 _ d y (kk.trans k4) (pp.trans p5) R5 ry5 (PostR.mono (r := _) q6 k4 p5)
      | cons c cs =>
        refine ⟨r3, ρ1, s3, e3, R3, ?_⟩
        refine (PostR.quiet0 (W' := Wf) (σ' := σ3) (repA := repB) q5).imp fun b H4 ⟨b', s4, r4, k4, p4, R4, eb, q6⟩ => ?_
        have eb' : b = b' := eb
        subst eb'
        obtain ⟨r5, p5, R5, _⟩ := R3.trunc R4 p4 .non .non rfl
        have q6 := q6.mono k4 p5
        cases b with
        | false => exact ⟨rfl, hlt, r5, _, kk.trans k4, pp.trans p5, R5, q6⟩
        | true =>
          refine ⟨r5, ρ1, _, e3.keep k4 p5, R5, ?_⟩
          refine (PostR.quiet0 (W' := Wf) (σ' := σ3) (repA := RepV X.K) q6).imp fun y H5 ⟨d, s6, r6, k6, p6, R6, ry, q7⟩ => ?_
          obtain ⟨r7, p7, R7, ry7⟩ := R5.trunc R6 p6 d y ry
          exact fin H5 r7 _ d y ((kk.trans k4).trans k6) ((pp.trans p5).trans p7) R7 ry7 (PostR.mono (r := _) q7 k6 p7)
    · exact q.elim
  · have hi' : i = w.its.length := by omega
    subst hi'
    rw [List.drop_length] at q
    unfold lcGo at q
    split at q
    · rename_i st
      exact .inl ⟨(W1 st).2 (rfl), q.fin Rc ⟨D, hDc, rfl⟩⟩
    · exact q.elim
end
end WL
set_option maxHeartbeats 4000000
namespace WL
open PySem PySem.Spec PyProof.Rows L2
variable [TBS] [CLO]
section
variable {M : Cfg} {N : List Str}
theorem pw_bool {X : Cx} {op : BoolOp} {l : List Expr} {pos : Pos} {t : TT} (h : PT X (.BoolOp op l pos) t) : PW X (.BoolOp op l pos) t := ⟨fun wh pins s σ H Q I q => h.run pins s σ H Q I q⟩
theorem Good.blk {X : Cx} {W : WX} {k : Nat} {sc scope : Scope} {fn : Str → Bool} (g : Good M N X W k sc fn) (hmk : (!M.mks (relS scope sc)) = true) (hk : scope.kind = .function) (s : Shared) (H : Hp) (C : Addr) (cl : List (Str × Addr)) (fp : List Addr) :
    Good M N (X.blk s H scope (compEnvC scope cl C X.env) fp) Wf k (relS scope sc) (fun y => scope.names.lookup y == some .cell) where
  esc := by
    rw [← g.esc]
    rfl
  eN := g.eN
  nd := g.nd
  efn := rfl
  calm := g.calm
  knd := hk
  tk := takes0
  hr := g.hr
  st := g.st
  mkr := fun z => by rw [z] at hmk; cases hmk
  stl := g.stl
  gna := g.gna
  gnb := g.gnb
  gV := g.gV
theorem GEs.pts {X : Cx} {k : Nat} {W : WX} : ∀ {ifs : List E} {cs : List Expr}, GEs M X Wf k ifs cs → ifs.length ≤ 1 → PTs X cs (tIfs M X k ifs)
  | [], [], _, _ => pts_nil
  | [c], [x], h, _ => pts_one h.1.2
  | _ :: _ :: _, _, _, hl => absurd hl (by simp)
  | [], _ :: _, h, _ => h.elim
  | [_], [], h, _ => h.elim
  | [_], _ :: _ :: _, h, _ => h.2.2.elim
mutual
theorem sndE : ∀ (e : E) {X : Cx} {W : WX} {k : Nat} {sc : Scope} {fn : Str → Bool} {x : Expr}, mE M N sc fn e x = true → Good M N X W k sc fn → GE M X W k e x
  | .var i, _, _, _, _, _, _, h, g => s_var i h g
  | .int i, _, _, _, _, _, _, h, g => s_int i h g
  | .str a, _, _, _, _, _, _, h, g => s_str a h g
  | .bl a, _, _, _, _, _, _, h, g => s_bl a h g
  | .non, _, _, _, _, _, _, h, g => s_non h g
  | .glob i, _, _, _, _, _, _, h, g => s_glob i h g
  | .tup es, _, _, _, _, _, x, h, g => by
    unfold mE at h
    split at h
    · exact s_tup (GEs.ga (sndEs es h g))
    · cases h
  | .lst es, _, _, _, _, _, x, h, g => by
    unfold mE at h
    split at h
    · exact s_lst (GEs.ga (sndEs es h g))
    · cases h
  | .bin op a b, _, _, _, _, _, x, h, g => by
    unfold mE at h
    split at h
    · simp only [Bool.and_eq_true, decide_eq_true_eq] at h
      obtain ⟨⟨⟨rfl, h1⟩, h2⟩, h3⟩ := h
      exact s_bin h1 (sndE a h2 g) (sndE b h3 g)
    · cases h
  | .neg a, _, _, _, _, _, x, h, g => by
    unfold mE at h
    split at h
    · exact s_neg (sndE a h g)
    · cases h
  | .not a, _, _, _, _, _, x, h, g => by
    unfold mE at h
    split at h
    · exact s_not (sndE a h g)
    · cases h
  | .and a b, X, W, k, _, _, x, h, g => by
    unfold mE at h
    split at h
    · rename_i y z r pos
      rw [Bool.and_eq_true] at h
      obtain ⟨h1, h2⟩ := h
      have hb : PE X (.BoolOp .And (z :: r) pos) (tE M X W (evE (M.C k) M.G b)) ∧ PW X (.BoolOp .And (z :: r) pos) (tT M X W (evT (M.C k) M.G b)) := by
        cases r with
        | nil =>
          have q := sndE b h2 g
          exact ⟨pe_one q.1, pw_and1 q.2⟩
        | cons u r =>
          have q := sndE b h2 g
          exact ⟨q.1, pw_bool q.2⟩
      have q := s_and (sndE a h1 g) hb.1 hb.2
      exact ⟨q.1, q.2.pt⟩
    · cases h
  | .or a b, X, W, k, _, _, x, h, g => by
    unfold mE at h
    split at h
    · rename_i y z r pos
      rw [Bool.and_eq_true] at h
      obtain ⟨h1, h2⟩ := h
      have hb : PE X (.BoolOp .Or (z :: r) pos) (tE M X W (evE (M.C k) M.G b)) ∧ PW X (.BoolOp .Or (z :: r) pos) (tT M X W (evT (M.C k) M.G b)) := by
        cases r with
        | nil =>
          have q := sndE b h2 g
          exact ⟨pe_one q.1, pw_or1 q.2⟩
        | cons u r =>
          have q := sndE b h2 g
          exact ⟨q.1, pw_bool q.2⟩
      have q := s_or (sndE a h1 g) hb.1 hb.2
      exact ⟨q.1, q.2.pt⟩
    · cases h
  | .cmp a op b, _, _, _, _, _, x, h, g => by
    unfold mE at h
    split at h
    · simp only [Bool.and_eq_true, decide_eq_true_eq] at h
      obtain ⟨⟨⟨rfl, h1⟩, h2⟩, h3⟩ := h
      exact s_cmp g h1 (sndE a h2 g) (sndE b h3 g)
    · cases h
  | .chain a op b op2 c, _, _, _, _, _, x, h, g => by
    unfold mE at h
    split at h
    · simp only [Bool.and_eq_true, decide_eq_true_eq] at h
      obtain ⟨⟨⟨⟨⟨rfl, rfl⟩, h1⟩, h2⟩, h3⟩, h4⟩ := h
      exact s_chain g h1 (sndE a h2 g) (sndE b h3 g) (sndE c h4 g)
    · cases h
  | .ife c a b, _, _, _, _, _, x, h, g => by
    unfold mE at h
    split at h
    · simp only [Bool.and_eq_true] at h
      obtain ⟨⟨h1, h2⟩, h3⟩ := h
      exact s_ife (sndE c h1 g) (sndE a h2 g) (sndE b h3 g)
    · cases h
  | .ix a b, _, _, _, _, _, x, h, g => by
    unfold mE at h
    split at h
    · simp only [Bool.and_eq_true] at h
      obtain ⟨⟨h1, h2⟩, h3⟩ := h
      exact s_ix g h1 (sndE a h2 g) (sndE b h3 g)
    · cases h
  | .slice a lo hi, X, W, k, _, _, x, h, g => by
    unfold mE at h
    split at h
    · rename_i y l hh p2 pos
      simp only [Bool.and_eq_true] at h
      obtain ⟨⟨h1, h2⟩, h3⟩ := h
      have q1 := sndEs lo h2 g
      have q2 := sndEs hi h3 g
      have part : ∀ {es : List E} {o : Option Expr}, GEs M X W k es o.toList → PO X o (tOf M X W k es) := by
        intro es o q
        cases o with
        | none =>
          cases es with
          | nil => exact po_none
          | cons e es => exact q.elim
        | some v =>
          cases es with
          | nil => exact q.elim
          | cons e es => exact po_some q.1.1
      exact s_slice (sndE a h1 g) (part q1) (part q2)
    · cases h
  | .rev a, X, W, k, _, _, x, h, g => by
    unfold mE at h
    split at h
    · exact s_rev (sndE a h g)
    · cases h
  | .call f es, _, _, _, _, _, x, h, g => by
    unfold mE at h
    split at h
    · simp only [Bool.and_eq_true, decide_eq_true_eq] at h
      obtain ⟨h1, h4⟩ := h
      split at h1
      · rename_i hb
        simp only [Bool.and_eq_true, decide_eq_true_eq] at h1
        obtain ⟨⟨⟨⟨h0, h1⟩, h2⟩, h3⟩, h5⟩ := h1
        have e : hB + (f - hB) = f := by omega
        rw [← e]
        exact s_ask g (by unfold hB2 hB at *; omega) h1 h2 h3 h5 h4 (GEs.ga (sndEs es h4 g))
      · simp only [Bool.and_eq_true, decide_eq_true_eq] at h1
        obtain ⟨⟨⟨h1, rfl⟩, h2⟩, h3⟩ := h1
        exact s_call g h1 h2 h3 h4 (GEs.ga (sndEs es h4 g))
    · cases h
  | .callL f as, _, _, _, _, _, x, h, g => by
    unfold mE at h
    split at h
    · simp only [Bool.and_eq_true, decide_eq_true_eq] at h
      obtain ⟨⟨⟨⟨h1, rfl⟩, h2⟩, h3⟩, h4⟩ := h
      exact s_callL g h1 h2 h3 h4 (sndAs as h4 g)
    · cases h
  | .callG i as, _, _, _, _, _, x, h, g => by
    unfold mE at h
    split at h
    · simp only [Bool.and_eq_true, decide_eq_true_eq] at h
      obtain ⟨⟨⟨⟨⟨h0, h1⟩, h2⟩, h3⟩, h4⟩, h5⟩ := h
      exact s_callG g h0 h1 h2 h3 h4 h5 (sndAs as h5 g)
    · cases h
  | .bi b es, _, _, _, _, _, x, h, g => by
    unfold mE at h
    split at h
    · simp only [Bool.and_eq_true, decide_eq_true_eq] at h
      obtain ⟨⟨rfl, h1⟩, h2⟩ := h
      exact s_bi g h1 h2 (GEs.ga (sndEs es h2 g))
    · cases h
  | .isi a t, _, _, _, _, _, x, h, g => by
    unfold mE at h
    split at h
    · simp only [Bool.and_eq_true, decide_eq_true_eq] at h
      obtain ⟨⟨⟨⟨rfl, h1⟩, rfl⟩, h2⟩, h3⟩ := h
      exact s_isi g h1 h2 (mE_star h3) (sndE a h3 g)
    · cases h
  | .lrg es, _, _, _, _, _, x, h, g => by
    unfold mE at h
    split at h
    · simp only [Bool.and_eq_true, decide_eq_true_eq] at h
      obtain ⟨⟨⟨⟨⟨rfl, h1⟩, rfl⟩, h2⟩, h3⟩, h4⟩ := h
      exact s_lrg g h1 h2 h3 (sndEs es h4 g)
    · cases h
  | .trg es, _, _, _, _, _, x, h, g => by
    unfold mE at h
    split at h
    · simp only [Bool.and_eq_true, decide_eq_true_eq] at h
      obtain ⟨⟨⟨⟨⟨rfl, h1⟩, rfl⟩, h2⟩, h3⟩, h4⟩ := h
      exact s_trg g h1 h2 h3 (sndEs es h4 g)
    · cases h
  | .app o a, _, _, _, _, _, x, h, g => by
    unfold mE at h
    split at h
    · simp only [Bool.and_eq_true, decide_eq_true_eq] at h
      obtain ⟨⟨⟨⟨rfl, h1⟩, h2⟩, h3⟩, h4⟩ := h
      exact s_app h1 h2 (mE_star h4) (sndE o h3 g) (sndE a h4 g)
    · cases h
  | .pop o a, _, _, _, _, _, x, h, g => by
    unfold mE at h
    split at h
    · simp only [Bool.and_eq_true, decide_eq_true_eq] at h
      obtain ⟨⟨⟨⟨rfl, h1⟩, h2⟩, h3⟩, h4⟩ := h
      exact s_pop h1 h2 (mE_star h4) (sndE o h3 g) (sndE a h4 g)
    · cases h
  | .ext o a, _, _, _, _, _, x, h, g => by
    unfold mE at h
    split at h
    · simp only [Bool.and_eq_true, decide_eq_true_eq] at h
      obtain ⟨⟨⟨⟨rfl, h1⟩, h2⟩, h3⟩, h4⟩ := h
      exact s_ext h1 h2 (mE_star h4) (sndE o h3 g) (sndE a h4 g)
    · cases h
  | .lc elt tg it ifs own, X, W, k, sc, fn, x, h, g => by
    unfold mE at h
    split at h
    · rename_i y gs scope pos
      split at h
      · rename_i t i cs a
        simp only [Bool.and_eq_true, decide_eq_true_eq] at h
        obtain ⟨⟨⟨⟨⟨⟨⟨⟨rfl, h1⟩, h0⟩, h2⟩, h3⟩, h4⟩, h5⟩, h6⟩, h7⟩ := h
        have hoff : ∀ j ∈ own, Off j := fun j hj => g.off (by
          have q := List.all_eq_true.mp h0 j hj
          simpa using q)
        have ok : BlkOk X.N X.env.scope scope (own.map fun j => (N.getD j (default : Str), j)) := by
          rw [g.eN, g.esc]
          exact blkOk_by h2
        have sub : ∀ j ∈ Tg.names tg, j ∈ own := by
          intro j hj
          have q := List.all_eq_true.mp h3 j hj
          simpa using q
        refine plainT (PE.sub (pe_lc (g := tG M X (Tg.names tg) (asgT (M.C k) M.G tg)) (tt := tIfs M X k ifs) (te := tE M X Wf (evE (M.C k) M.G elt)) g.calm (by rw [g.eN]; exact g.nd) (sndIt it h4 g) ok (fun s H C cl fp => sndTg tg h5 (g.blk h1.2 ok.kind s H C cl fp)) (fun s H C cl fp => GEs.pts (W := Wf) (sndEs ifs h6 (g.blk h1.2 ok.kind s H C cl fp)) h1.1)
          (fun s H C cl fp => (sndE elt h7 (g.blk h1.2 ok.kind s H C cl fp)).1) (fun v => folded_ok h4 X.env v)) fun σ H Q q => ?_) (fun _ => rfl)
        rw [own_snd]
        exact s_lc (x := y) (t := t) (i := i) (cs := cs) (scope := scope) g sub hoff q
      · cases h
    · cases h
  | .meth m o es, _, _, _, _, _, x, h, g => by
    unfold mE at h
    split at h
    · simp only [Bool.and_eq_true, decide_eq_true_eq] at h
      obtain ⟨⟨⟨⟨⟨rfl, h1⟩, h2⟩, h3⟩, h4⟩, h5⟩ := h
      exact s_meth g h1 h2 h3 h5 (sndE o h4 g) (GEs.ga (sndEs es h5 g))
    · cases h
  | .dlit ks es, _, _, _, _, _, x, h, g => by
    unfold mE at h
    split at h
    · simp only [Bool.and_eq_true, decide_eq_true_eq, Bool.not_eq_true'] at h
      obtain ⟨⟨⟨⟨h1, h2⟩, h3⟩, h4⟩, h5⟩ := h
      exact s_dlit h1 h2 h3 h4 (sndEs es h5 g) (mEs_len h5)
    · cases h
  | .dnew, _, _, _, _, _, x, h, g => by
    unfold mE at h
    split at h
    · exact s_dnew
    · cases h
  | .fnc f pl, _, _, _, _, _, x, h, g => by
    simp only [mE] at h
    exact s_fnc g h
  | .callD f es ds, _, _, _, _, _, x, h, g => by
    unfold mE at h
    split at h
    · simp only [Bool.and_eq_true, decide_eq_true_eq] at h
      obtain ⟨⟨⟨⟨⟨h1, rfl⟩, h2⟩, h3⟩, h4, h6⟩, h5⟩ := h
      exact s_callD g h1 h2 h3 h4 h6 h5 (sndEs es h5 g)
    · cases h
  | .fld o f, _, _, _, _, _, x, h, g => by
    unfold mE at h
    split at h
    · simp only [Bool.and_eq_true, decide_eq_true_eq] at h
      obtain ⟨⟨rfl, h1⟩, h2⟩ := h
      exact s_fld g h1 (sndE o h2 g)
    · cases h
  | .new c f es ds, _, _, _, _, _, x, h, g => by
    unfold mE at h
    split at h
    · simp only [Bool.and_eq_true, decide_eq_true_eq] at h
      obtain ⟨⟨⟨⟨⟨h1, rfl⟩, h2⟩, h3⟩, h4, h6⟩, h5⟩ := h
      exact s_new g h1 h2 h3 h4 h6 h5 (sndEs es h5 g)
    · cases h
  | .mcall tb o es ds, _, _, _, _, _, x, h, g => by
    unfold mE at h
    split at h
    · rw [Bool.and_eq_true, Bool.and_eq_true, Bool.and_eq_true, Bool.and_eq_true, Bool.and_eq_true, decide_eq_true_eq] at h
      obtain ⟨⟨⟨⟨⟨h1, h2⟩, h3⟩, h4⟩, h5⟩, h6⟩ := h
      obtain ⟨h7, h6⟩ := Bool.and_eq_true_iff.mp h6
      exact s_mcall g h1 h2 h3 h4 h7 h6 (sndE o h5 g) (sndEs es h6 g)
    · cases h
  | .iso a c, _, _, _, _, _, x, h, g => by
    unfold mE at h
    split at h
    · simp only [Bool.and_eq_true, decide_eq_true_eq] at h
      obtain ⟨⟨⟨⟨⟨⟨rfl, h1⟩, rfl⟩, h2⟩, h3⟩, h5⟩, h4⟩ := h
      exact s_iso g h1 h2 h3 h5 (mE_star h4) (sndE a h4 g)
    · cases h
  | .lock i e, _, _, _, _, _, x, h, g => by
    unfold mE at h
    split at h
    · rw [Bool.and_eq_true] at h
      exact plainT (s_lockE (sndE e h.2 g).1) (fun _ => rfl)
    · cases h
theorem sndEs : ∀ (es : List E) {X : Cx} {W : WX} {k : Nat} {sc : Scope} {fn : Str → Bool} {xs : List Expr}, mEs M N sc fn es xs = true → Good M N X W k sc fn → GEs M X W k es xs
  | [], _, _, _, _, _, xs, h, g => by
    cases xs with
    | nil => trivial
    | cons x r => simp [mEs] at h
  | e :: es, _, _, _, _, _, xs, h, g => by
    cases xs with
    | nil => simp [mEs] at h
    | cons x r =>
      simp only [mEs, Bool.and_eq_true] at h
      exact ⟨sndE e h.1 g, mE_star h.1, sndEs es h.2 g⟩
theorem sndA : ∀ (a : Ar) {X : Cx} {W : WX} {k : Nat} {sc : Scope} {fn : Str → Bool} {x : Expr}, mA M N sc fn a x = true → Good M N X W k sc fn → PE X x (tAr M X W sc k a)
  | .val e, _, _, _, _, _, x, h, g => by
    unfold mA at h
    exact sa_val (sndE e h g)
  | .fn f pl, _, _, _, _, _, x, h, g => by
    unfold mA at h
    exact sa_fn g h
  | .fn2 c f f2 pl, _, _, _, _, _, x, h, g => by
    unfold mA at h
    split at h
    · simp only [Bool.and_eq_true] at h
      exact sa_fn2 g (sndE c h.1.1 g) h.1.2 h.2
    · cases h
  | .pass i, _, _, _, _, _, x, h, g => by
    unfold mA at h
    split at h
    · simp only [Bool.and_eq_true, decide_eq_true_eq] at h
      obtain ⟨⟨⟨⟨h0, h1⟩, h2⟩, h3⟩, h4⟩ := h
      exact sa_pass g h0 h1 h2 h3 h4
    · cases h
  | .slot i, _, _, _, _, _, x, h, g => by
    unfold mA at h
    split at h
    · simp only [Bool.and_eq_true, decide_eq_true_eq] at h
      obtain ⟨⟨h1, h2⟩, h3⟩ := h
      exact sa_slot g h1 h2 h3
    · cases h
  | .lam id caps, _, _, _, _, _, x, h, g => by
    unfold mA at h
    split at h
    · simp only [Bool.and_eq_true] at h
      exact sa_lam g h.1.1.1 h.2
    · cases h
theorem sndAs : ∀ (as : List Ar) {X : Cx} {W : WX} {k : Nat} {sc : Scope} {fn : Str → Bool} {xs : List Expr}, mAs M N sc fn as xs = true → Good M N X W k sc fn → PA X xs (tArs M X W sc k as)
  | [], _, _, _, _, _, xs, h, g => by
    cases xs with
    | nil => exact sas_nil
    | cons x r => simp [mAs] at h
  | a :: as, X, _, _, _, _, xs, h, g => by
    cases xs with
    | nil => simp [mAs] at h
    | cons x r =>
      simp only [mAs, Bool.and_eq_true] at h
      exact sas_cons (sndA a h.1 g) (sndAs as h.2 g) (star_cons (mA_star h.1) r X.env)
theorem sndIt : ∀ (it : It) {X : Cx} {W : WX} {k : Nat} {sc : Scope} {fn : Str → Bool} {t x : Expr}, mIt M N sc fn it t x = true → Good M N X W k sc fn → GI M X W k it t x
  | .val e, _, _, _, _, _, t, x, h, g => by
    simp only [mIt] at h
    exact i_val (sndE e h g)
  | .key e, _, _, _, _, _, t, x, h, g => by
    simp only [mIt] at h
    exact i_key (sndE e h g)
  | .rng es, _, _, _, _, _, t, x, h, g => by
    unfold mIt at h
    split at h
    · simp only [Bool.and_eq_true, decide_eq_true_eq] at h
      obtain ⟨⟨⟨rfl, h1⟩, hl⟩, h2⟩ := h
      exact i_rng g h1 (sndEs es h2 g) hl
    · cases h
  | .enm e, _, _, _, _, _, t, x, h, g => by
    unfold mIt at h
    split at h
    · simp only [Bool.and_eq_true, decide_eq_true_eq] at h
      obtain ⟨⟨rfl, h1⟩, h2⟩ := h
      exact i_enm g h1 (mE_star h2) (sndE e h2 g)
    · cases h
  | .zip a b, _, _, _, _, _, t, x, h, g => by
    unfold mIt at h
    split at h
    · simp only [Bool.and_eq_true, decide_eq_true_eq] at h
      obtain ⟨⟨⟨rfl, h1⟩, h2⟩, h3⟩ := h
      exact i_zip g h1 (mE_star h2) (mE_star h3) (sndE a h2 g) (sndE b h3 g)
    · cases h
theorem sndTg : ∀ (t : Tg) {X : Cx} {W : WX} {k : Nat} {sc : Scope} {fn : Str → Bool} {x : Expr}, mTg M N sc fn t x = true → Good M N X W k sc fn → GG M X k t x
  | .nm i, _, _, _, _, _, x, h, g => by
    unfold mTg at h
    split at h
    · simp only [Bool.and_eq_true, decide_eq_true_eq] at h
      exact g_nm g h.1.1 h.1.2 (by simpa using h.2)
    · cases h
  | .tup ts, _, _, _, _, _, x, h, g => by
    unfold mTg at h
    split at h
    · exact g_tup g h (sndTgs ts h g)
    · cases h
  | .sub o i, _, _, _, _, _, x, h, g => by
    unfold mTg at h
    split at h
    · simp only [Bool.and_eq_true] at h
      obtain ⟨⟨h1, h2⟩, h3⟩ := h
      exact g_sub (by have := g.hr.un; omega) h1 (sndE o h2 g) (sndE i h3 g)
    · cases h
  | .fld cs o f, _, _, _, _, _, x, h, g => by
    unfold mTg at h
    split at h
    · rw [Bool.and_eq_true, Bool.and_eq_true, decide_eq_true_eq] at h
      obtain ⟨⟨rfl, h1⟩, h2⟩ := h
      exact g_fld g h1 (sndE o h2 g)
    · cases h
theorem sndTgs : ∀ (ts : List Tg) {X : Cx} {W : WX} {k : Nat} {sc : Scope} {fn : Str → Bool} {xs : List Expr}, mTgs M N sc fn ts xs = true → Good M N X W k sc fn → GGs M X k ts xs
  | [], _, _, _, _, _, xs, h, g => by
    cases xs with
    | nil => exact g_nil
    | cons x r => simp [mTgs] at h
  | e :: es, _, _, _, _, _, xs, h, g => by
    cases xs with
    | nil => simp [mTgs] at h
    | cons x r =>
      simp only [mTgs, Bool.and_eq_true] at h
      exact g_cons (mTg_star h.1) (sndTg e h.1 g) (sndTgs es h.2 g)
end
end
end WL
set_option maxHeartbeats 4000000
namespace WL
open PySem PySem.Spec PyProof.Rows L2
variable [TBS] [CLO]
structure Sx where
  i : Option Nat
  c : Nat
  w : D
  cls : Value
  dd : Option Addr
  a : Addr
structure ERelH (M : Cfg) (mg : Str → Option Value) (K : PySem.W.Frag) (Y : Sx) (H : Hp) (ra : List Addr) (ρ : Env) (σ : L2.St) : Prop where
  len : σ.length = ρ.length
  get : ∀ (j : Nat) (d : D), Y.i ≠ some j → ρ[j]? = some (some d) → ∃ v, σ[j]? = some (some v) ∧ RepV K H ra d v
  x : RepX M mg K H ra Y.c Y.w Y.cls Y.dd
  slot : ∀ (j : Nat) (d : D), Y.i = some j → ρ[j]? = some (some d) → d = .tup [.int Y.c, Y.w] ∧ σ[j]? = some (some (.ref Y.a))
  clo : ∀ p ∈ CLO.Γ, ∃ v, σ[p.1]? = some (some v) ∧ CLO.V K H ra p.2 v
  noff : ∀ j, Y.i = some j → Off j
theorem RepX.keep {M : Cfg} {mg : Str → Option Value} {K : PySem.W.Frag} {H H' : Hp} {ra rb : List Addr} {c : Nat} {w : D} {cls : Value} {dd : Option Addr} (h : RepX M mg K H ra c w cls dd) (k : Keeps H H') (p : ra <+: rb) : RepX M mg K H' rb c w cls dd := by
  obtain ⟨x, d, v, h1, h2, h3, h4, h5⟩ := h
  exact ⟨x, d, v, h1, h2, h3, k.1 _ _ h4 rfl, RepV.keep k p w v h5⟩
theorem ERelH.keep {M : Cfg} {mg : Str → Option Value} {K : PySem.W.Frag} {Y : Sx} {H H' : Hp} {ra rb : List Addr} {ρ : Env} {σ : L2.St} (h : ERelH M mg K Y H ra ρ σ) (k : Keeps H H') (p : ra <+: rb) : ERelH M mg K Y H' rb ρ σ :=
  ⟨h.len, fun j d hj e => let ⟨v, e1, r⟩ := h.get j d hj e; ⟨v, e1, RepV.keep k p d v r⟩, h.x.keep k p, h.slot, fun q hq => let ⟨v, e1, r⟩ := h.clo q hq; ⟨v, e1, CLO.keep k p r⟩, h.noff⟩
section
variable (M : Cfg) (X : Cx) (Y : Sx)
def hE (f : Env → Store → R D) : TE := fun σ H Q => ∃ ra ρ s, ERelH M X.mg X.K Y H ra ρ σ ∧ SRel X.K H ra s ∧ PostR M X.mg X.K Wf σ (RepV X.K) H ra (f ρ s) Q
def hT (f : Env → Store → R Bool) : TT := fun σ H Q => ∃ ra ρ s, ERelH M X.mg X.K Y H ra ρ σ ∧ SRel X.K H ra s ∧ PostR M X.mg X.K Wf σ repB H ra (f ρ s) Q
def hA (f : Env → Store → R (List D)) : TA := fun σ H Q => ∃ ra ρ s, ERelH M X.mg X.K Y H ra ρ σ ∧ SRel X.K H ra s ∧ PostR M X.mg X.K Wf σ (RepL X.K) H ra (f ρ s) Q
abbrev GH (k : Nat) (e : E) (x : Expr) : Prop := PE X x (hE M X Y (evE (M.C k) M.G e)) ∧ PT X x (hT M X Y (evT (M.C k) M.G e))
abbrev GAH (k : Nat) (es : List E) (xs : List Expr) : Prop := PA X xs (hA M X Y (evEs (M.C k) M.G es))
def GHs (k : Nat) : List E → List Expr → Prop
  | [], [] => True
  | e :: es, x :: xs => GH M X Y k e x ∧ notStar x = true ∧ GHs k es xs
  | _, _ => False
end
section
variable {M : Cfg} {X : Cx} {Y : Sx} {k : Nat}
theorem hE_bind {γ δ : Type} {repB : Hp → List Addr → γ → δ → Prop} {f : Env → Store → R D} {g : D → Store → R γ} {σ : L2.St} {H : Hp} {ra : List Addr} {ρ : Env} {s : Store} {Q : δ → Hp → Prop} {Q' : V → Hp → Prop}
    (e : ERelH M X.mg X.K Y H ra ρ σ) (r : SRel X.K H ra s) (p : PostR M X.mg X.K Wf σ repB H ra ((f ρ s).bind g) Q)
    (h : ∀ x H1 a s1 r1, Keeps H H1 → ra <+: r1 → ERelH M X.mg X.K Y H1 r1 ρ σ → SRel X.K H1 r1 s1 → RepV X.K H1 r1 a x → PostR M X.mg X.K Wf σ repB H1 r1 (g a s1) Q → Q' x H1) : hE M X Y f σ H Q' :=
  ⟨ra, ρ, s, e, r, (PostR.bind (repA := RepV X.K) p).imp fun x H1 ⟨a, s1, r1, k, pf, sr, rp, q⟩ => h x H1 a s1 r1 k pf (e.keep k pf) sr rp q⟩
theorem hA_bind {γ δ : Type} {repB : Hp → List Addr → γ → δ → Prop} {f : Env → Store → R (List D)} {g : List D → Store → R γ} {σ : L2.St} {H : Hp} {ra : List Addr} {ρ : Env} {s : Store} {Q : δ → Hp → Prop} {Q' : List V → Hp → Prop}
    (e : ERelH M X.mg X.K Y H ra ρ σ) (r : SRel X.K H ra s) (p : PostR M X.mg X.K Wf σ repB H ra ((f ρ s).bind g) Q)
    (h : ∀ x H1 a s1 r1, Keeps H H1 → ra <+: r1 → ERelH M X.mg X.K Y H1 r1 ρ σ → SRel X.K H1 r1 s1 → RepL X.K H1 r1 a x → PostR M X.mg X.K Wf σ repB H1 r1 (g a s1) Q → Q' x H1) : hA M X Y f σ H Q' :=
  ⟨ra, ρ, s, e, r, (PostR.bind (repA := RepL X.K) p).imp fun x H1 ⟨a, s1, r1, k, pf, sr, rp, q⟩ => h x H1 a s1 r1 k pf (e.keep k pf) sr rp q⟩
theorem hT_bind {γ δ : Type} {repC : Hp → List Addr → γ → δ → Prop} {f : Env → Store → R Bool} {g : Bool → Store → R γ} {σ : L2.St} {H : Hp} {ra : List Addr} {ρ : Env} {s : Store} {Q : δ → Hp → Prop} {Q' : Bool → Hp → Prop}
    (e : ERelH M X.mg X.K Y H ra ρ σ) (r : SRel X.K H ra s) (p : PostR M X.mg X.K Wf σ repC H ra ((f ρ s).bind g) Q)
    (h : ∀ b H1 s1 r1, Keeps H H1 → ra <+: r1 → ERelH M X.mg X.K Y H1 r1 ρ σ → SRel X.K H1 r1 s1 → PostR M X.mg X.K Wf σ repC H1 r1 (g b s1) Q → Q' b H1) : hT M X Y f σ H Q' :=
  ⟨ra, ρ, s, e, r, (PostR.bind (repA := repB) p).imp fun x H1 ⟨a, s1, r1, k, pf, sr, rp, q⟩ => by
    have e' : x = a := rp
    subst e'
    exact h x H1 s1 r1 k pf (e.keep k pf) sr q⟩
theorem hE_of {f : Env → Store → R D} {σ : L2.St} {H : Hp} {ra : List Addr} {ρ : Env} {s : Store} {Q : VK} (e : ERelH M X.mg X.K Y H ra ρ σ) (r : SRel X.K H ra s) (p : PostR M X.mg X.K Wf σ (RepV X.K) H ra (f ρ s) Q) : hE M X Y f σ H Q := ⟨ra, ρ, s, e, r, p⟩
theorem hT_of {f : Env → Store → R Bool} {σ : L2.St} {H : Hp} {ra : List Addr} {ρ : Env} {s : Store} {Q : Bool → Hp → Prop} (e : ERelH M X.mg X.K Y H ra ρ σ) (r : SRel X.K H ra s) (p : PostR M X.mg X.K Wf σ repB H ra (f ρ s) Q) : hT M X Y f σ H Q := ⟨ra, ρ, s, e, r, p⟩
theorem pt_genH {x : Expr} {f : Env → Store → R D} (h : PE X x (hE M X Y f)) (he : ∀ whole, isTrue x X.env whole = (do let v ← whole; standAt x.pos; holding [v] (truthy v))) :
    PT X x (hT M X Y fun ρ s => (f ρ s).bind fun d s1 => match truth s1 d with
      | some b => .ok b s1
      | none => .bad) := by
  refine PT.sub (pt_truth h he) fun σ H Q ⟨ra, ρ, s, e, r, p⟩ => hE_bind e r p fun x H1 a s1 r1 _ _ e1 R1 rp q => ?_
  split at q
  · rename_i b hb
    exact ⟨b, truth_of R1 rp hb, q.fin R1 rfl⟩
  · exact q.elim
theorem plainH {e : E} {x : Expr} (h : PE X x (hE M X Y (evE (M.C k) M.G e))) (he : ∀ whole, isTrue x X.env whole = (do let v ← whole; standAt x.pos; holding [v] (truthy v))) : GH M X Y k e x := ⟨h, pt_genH h he⟩
theorem h_nil : GAH M X Y k [] [] := PA.sub pa_nil fun σ H Q ⟨ra, ρ, s, e, r, p⟩ => p.fin r rfl
theorem h_cons {e : E} {x : Expr} {es : List E} {xs : List Expr} (hs : notStar x = true) (h1 : GH M X Y k e x) (h2 : GAH M X Y k es xs) : GAH M X Y k (e :: es) (x :: xs) := by
  refine PA.sub (pa_cons h1.1 h2 (star_cons hs xs X.env)) fun σ H Q ⟨ra, ρ, s, e, r, p⟩ => ?_
  simp only [evEs] at p
  refine hE_bind e r p fun v H1 d s1 r1 k1 p1 e1 R1 rv q => ?_
  refine hA_bind e1 R1 q fun vs H2 ds s2 r2 k2 p2 e2 R2 rvs q2 => ?_
  exact q2.fin R2 ⟨v, vs, rfl, RepV.keep k2 p2 d v rv, rvs⟩
theorem GHs.ga : ∀ {es : List E} {xs : List Expr}, GHs M X Y k es xs → GAH M X Y k es xs
  | [], [], _ => h_nil
  | e :: es, x :: xs, h => h_cons h.2.1 h.1 (GHs.ga h.2.2)
  | [], _ :: _, h => h.elim
  | _ :: _, [], h => h.elim
theorem h_tup {es : List E} {xs : List Expr} {x1 : Nat} {pos : Pos} (h : GAH M X Y k es xs) : GH M X Y k (.tup es) (.Tuple xs x1 pos) := by
  refine plainH (PE.sub (pe_tup h) fun σ H Q ⟨ra, ρ, s, e, r, p⟩ => ?_) (fun _ => rfl)
  simp only [evE] at p
  refine hA_bind e r p fun vs H1 ds s1 r1 k1 p1 e1 R1 rv q => ?_
  split at q
  · rename_i hl
    exact ⟨by rw [RepL.length ds vs rv]; exact hl, PostR.finT q R1 rv⟩
  · exact q.elim
theorem h_lst {es : List E} {xs : List Expr} {pos : Pos} (h : GAH M X Y k es xs) : GH M X Y k (.lst es) (.List xs pos) := by
  refine plainH (PE.sub (pe_lst h) fun σ H Q ⟨ra, ρ, s, e, r, p⟩ => ?_) (fun _ => rfl)
  simp only [evE] at p
  refine hA_bind e r p fun vs H1 ds s1 r1 k1 p1 e1 R1 rv q => ?_
  obtain ⟨a, b⟩ := PostR.finL q R1 rv
  exact ⟨by rw [RepL.length ds vs rv]; exact a, b⟩
theorem h_not {a : E} {x : Expr} {pos : Pos} (ha : GH M X Y k a x) : GH M X Y k (.not a) (.UnaryOp .Not x pos) := by
  refine ⟨PE.sub (pe_notT ha.1) fun σ H Q ⟨ra, ρ, s, e, r, p⟩ => ?_, PT.sub (pt_not ha.2) fun σ H Q ⟨ra, ρ, s, e, r, p⟩ => ?_⟩
  · simp only [evE] at p
    refine hE_bind e r p fun v H1 d s1 r1 k1 p1 e1 R1 rv q => ?_
    cases ht : truth s1 d with
    | none => rw [ht] at q; exact q.elim
    | some b => rw [ht] at q; exact ⟨b, truth_of R1 rv ht, q.fin R1 rfl⟩
  · rw [evT_not] at p
    exact hT_bind e r p fun b H1 s1 r1 k1 p1 e1 R1 q => q.fin R1 rfl
theorem h_and {a b : E} {x y : Expr} {rest : List Expr} {pos : Pos} (ha : GH M X Y k a x) (hb : PE X (.BoolOp .And (y :: rest) pos) (hE M X Y (evE (M.C k) M.G b))) (hb2 : PW X (.BoolOp .And (y :: rest) pos) (hT M X Y (evT (M.C k) M.G b))) :
    PE X (.BoolOp .And (x :: y :: rest) pos) (hE M X Y (evE (M.C k) M.G (.and a b))) ∧ PW X (.BoolOp .And (x :: y :: rest) pos) (hT M X Y (evT (M.C k) M.G (.and a b))) := by
  refine ⟨PE.sub (pe_andT ha.1 hb) fun σ H Q ⟨ra, ρ, s, e, r, p⟩ => ?_, PW.sub (pw_and ha.2 hb2) fun σ H Q ⟨ra, ρ, s, e, r, p⟩ => ?_⟩
  · simp only [evE] at p
    refine hE_bind e r p fun v H1 d s1 r1 k1 p1 e1 R1 rv q => ?_
    cases ht : truth s1 d with
    | none => rw [ht] at q; exact q.elim
    | some c =>
      rw [ht] at q
      refine ⟨c, truth_of R1 rv ht, ?_⟩
      cases c with
      | true => exact hE_of e1 R1 q
      | false => exact q.fin R1 rv
  · rw [evT_and] at p
    refine hT_bind e r p fun c H1 s1 r1 k1 p1 e1 R1 q => ?_
    cases c with
    | true => exact hT_of e1 R1 q
    | false => exact q.fin R1 rfl
theorem h_or {a b : E} {x y : Expr} {rest : List Expr} {pos : Pos} (ha : GH M X Y k a x) (hb : PE X (.BoolOp .Or (y :: rest) pos) (hE M X Y (evE (M.C k) M.G b))) (hb2 : PW X (.BoolOp .Or (y :: rest) pos) (hT M X Y (evT (M.C k) M.G b))) :
    PE X (.BoolOp .Or (x :: y :: rest) pos) (hE M X Y (evE (M.C k) M.G (.or a b))) ∧ PW X (.BoolOp .Or (x :: y :: rest) pos) (hT M X Y (evT (M.C k) M.G (.or a b))) := by
  refine ⟨PE.sub (pe_orT ha.1 hb) fun σ H Q ⟨ra, ρ, s, e, r, p⟩ => ?_, PW.sub (pw_or ha.2 hb2) fun σ H Q ⟨ra, ρ, s, e, r, p⟩ => ?_⟩
  · simp only [evE] at p
    refine hE_bind e r p fun v H1 d s1 r1 k1 p1 e1 R1 rv q => ?_
    cases ht : truth s1 d with
    | none => rw [ht] at q; exact q.elim
    | some c =>
      rw [ht] at q
      refine ⟨c, truth_of R1 rv ht, ?_⟩
      cases c with
      | false => exact hE_of e1 R1 q
      | true => exact q.fin R1 rv
  · rw [evT_or] at p
    refine hT_bind e r p fun c H1 s1 r1 k1 p1 e1 R1 q => ?_
    cases c with
    | false => exact hT_of e1 R1 q
    | true => exact q.fin R1 rfl
theorem h_ife {c a b : E} {x y z : Expr} {pos : Pos} (hc : GH M X Y k c x) (ha : GH M X Y k a y) (hb : GH M X Y k b z) : GH M X Y k (.ife c a b) (.IfExp x y z pos) := by
  refine ⟨PE.sub (pe_ifExp hc.2 ha.1 hb.1) fun σ H Q ⟨ra, ρ, s, e, r, p⟩ => ?_, PT.sub (pt_ifExp hc.2 ha.2 hb.2) fun σ H Q ⟨ra, ρ, s, e, r, p⟩ => ?_⟩
  · rw [evE_ife] at p
    refine hT_bind e r p fun t H1 s1 r1 k1 p1 e1 R1 q => ?_
    cases t with
    | true => exact hE_of e1 R1 q
    | false => exact hE_of e1 R1 q
  · rw [evT_ife] at p
    refine hT_bind e r p fun t H1 s1 r1 k1 p1 e1 R1 q => ?_
    cases t with
    | true => exact hT_of e1 R1 q
    | false => exact hT_of e1 R1 q
theorem h_cmp (hu : X.A.units + 100 < cLine) (hgd : GdOk X.K X.w) {op : CmpOp} {a b : E} {x y : Expr} {pos : Pos} (ho : cmpOk op y = true) (ha : GH M X Y k a x) (hb : GH M X Y k b y) : GH M X Y k (.cmp a op b) (.Compare x [op] [y] pos) := by
  obtain ⟨r, h1, h2⟩ := cmp_all (M := M) hu hgd op
  have hm : behindInMarks op y = false := by simpa [cmpOk] using ho
  refine ⟨PE.sub (pe_cmpR h1 ha.1 hb.1 hm) fun σ H Q ⟨ra, ρ, s, e, r, p⟩ => ?_, PT.sub (pt_cmpR h1 ha.1 hb.1 hm) fun σ H Q ⟨ra, ρ, s, e, r, p⟩ => ?_⟩
  · simp only [evE] at p
    refine hE_bind e r p fun v H1 d s1 r1 k1 p1 e1 R1 rv q => ?_
    refine hE_bind e1 R1 q fun u H2 d2 s2 r2 k2 p2 e2 R2 ru q2 => ?_
    cases hc : cmpD op s2 d d2 with
    | none => rw [hc] at q2; exact q2.elim
    | some c => rw [hc] at q2; exact h2 H2 r2 s2 d d2 v u c Q R2 (RepV.keep k2 p2 d v rv) ru hc (q2.fin R2 rfl)
  · rw [evT_cmp] at p
    refine hE_bind e r p fun v H1 d s1 r1 k1 p1 e1 R1 rv q => ?_
    refine hE_bind e1 R1 q fun u H2 d2 s2 r2 k2 p2 e2 R2 ru q2 => ?_
    cases hc : cmpD op s2 d d2 with
    | none => rw [hc] at q2; exact q2.elim
    | some c => rw [hc] at q2; exact h2 H2 r2 s2 d d2 v u c _ R2 (RepV.keep k2 p2 d v rv) ru hc ⟨c, rfl, q2.fin R2 rfl⟩
end
def nmOk (N : List Str) (sc : Scope) (nm : Option Nat) (j : Nat) (y : Str) : Bool := decide (nm = some j) && decide (N[j]? = some y) && visB sc y && okName y
section
variable (M : Cfg) (N : List Str) (sc : Scope) (nm : Option Nat)
def isC (a : E) (op : CmpOp) (b : E) (x : Expr) : Bool := match a, b, x with
  | .ix (.var j) (.int 0), .int (.ofNat c), .Call (.Name q _) [.Name y _, .Name z _] [] _ => decide (op = .Eq) && decide (q = ("isinstance" : Str)) && glB sc q && nmOk N sc nm j y && decide (M.cls[c]? = some z) && glB sc z && okName z
  | _, _, _ => false
def isB (a : E) (op : CmpOp) (b : E) (x : Expr) : Bool := match a, b, x with
  | .ix (.var j) (.int 0), .int 0, .Call (.Name q _) [.Name y _, .Name z _] [] _ => decide (op = .GtE) && decide (q = ("isinstance" : Str)) && glB sc q && nmOk N sc nm j y && (decide (z = M.base) || decide (z = ("ValueError" : Str))) && glB sc z && okName z
  | _, _, _ => false
def isW (a b : E) (x : Expr) : Bool := match a, b, x with
  | .var j, .int 1, .Attribute (.Name y _) n _ => decide (n = ("what" : Str)) && nmOk N sc nm j y
  | _, _, _ => false
mutual
def mH : E → Expr → Bool
  | .var i => fun x => !(nm == some i) && mE M N sc (fun _ => true) (.var i) x
  | .int i => fun x => mE M N sc (fun _ => true) (.int i) x
  | .str i => fun x => mE M N sc (fun _ => true) (.str i) x
  | .non => fun x => mE M N sc (fun _ => true) .non x
  | .bl b => fun x => mE M N sc (fun _ => true) (.bl b) x
  | .tup es => fun x => match x with
    | .Tuple xs _ _ => mHs es xs
    | _ => false
  | .lst es => fun x => match x with
    | .List xs _ => mHs es xs
    | _ => false
  | .not a => fun x => match x with
    | .UnaryOp .Not y _ => mH a y
    | _ => false
  | .and a b => fun x => match x with
    | .BoolOp .And (y :: z :: r) pos => mH a y && (match r with
      | [] => mH b z
      | _ :: _ => mH b (.BoolOp .And (z :: r) pos))
    | _ => false
  | .or a b => fun x => match x with
    | .BoolOp .Or (y :: z :: r) pos => mH a y && (match r with
      | [] => mH b z
      | _ :: _ => mH b (.BoolOp .Or (z :: r) pos))
    | _ => false
  | .ife c a b => fun x => match x with
    | .IfExp y z u _ => mH c y && mH a z && mH b u
    | _ => false
  | .isi a t => fun x => match x with
    | .Call (.Name y _) [z, .Name u _] [] _ => decide (y = ("isinstance" : Str)) && glB sc y && decide (tyName t = u) && glB sc u && notStar z && mH a z
    | _ => false
  | .cmp a op b => fun x => isC M N sc nm a op b x || isB M N sc nm a op b x || (match x with
    | .Compare y [op'] [z] _ => decide (op = op') && cmpOk op z && mH a y && mH b z
    | _ => false)
  | .ix a b => fun x => isW N sc nm a b x
  | .neg a => fun x => match x with
    | .UnaryOp .USub y _ => mH a y
    | _ => false
  | .bi b es => fun x => match x with
    | .Call (.Name y _) [z] [] _ => decide (b = .tuple) && decide (y = ("tuple" : Str)) && glB sc y && mHs es [z]
    | _ => false
  | _ => fun _ => false
def mHs : List E → List Expr → Bool
  | [] => fun xs => xs.isEmpty
  | e :: es => fun xs => match xs with
    | x :: r => notStar x && mH e x && mHs es r
    | [] => false
end
def notTup : Expr → Bool
  | .ListComp .. | .SetComp .. | .DictComp .. | .Tuple .. => false
  | _ => true
def mSu : List HS → List Stmt → Bool
  | [], [] => true
  | .nev :: _, _ => true
  | .ret e :: _, .Return (some v) _ :: _ => mH M N sc nm e v
  | .ifret c e :: hs, .If x [.Return (some v) _] [] _ :: ss => mH M N sc nm c x && mH M N sc nm e v && mSu hs ss
  | .asg j e :: hs, .Assign [.Name y _] v _ :: ss => !(nm == some j) && !M.na.contains j && decide (N[j]? = some y) && decide (sc.names.lookup y = some .local) && notTup v && mH M N sc nm e v && mSu hs ss
  | _, _ => false
end
section
variable {M : Cfg} {N : List Str} {X : Cx} {W : WX} {k : Nat} {sc : Scope} {a : Addr} {oe : Obj} {pn : List (Addr × Obj)} {Y : Sx}
abbrev SU (X : Cx) (a : Addr) (oe : Obj) (pn : List (Addr × Obj)) : Cx := X.suite a ((a, oe) :: pn)
structure InSu (M : Cfg) (N : List Str) (X : Cx) (W : WX) (k : Nat) (sc : Scope) (a : Addr) (oe : Obj) (Y : Sx) : Prop where
  g : Good M N X W k sc (fun _ => true)
  hz : Zc Y.cls Y.dd oe
  hf : ∃ vs, oe.data = .fields vs
  ha : Y.a = a
theorem nm_ok {j : Nat} {y : Str} (h : nmOk N sc Y.i j y = true) (u : InSu M N X W k sc a oe Y) :
    Y.i = some j ∧ X.N[j]? = some y ∧ Vis X.env.scope y ∧ (y == ("__debug__" : Str)) = false ∧ (y == ("__classdict__" : Str)) = false := by
  unfold nmOk at h
  simp only [Bool.and_eq_true, decide_eq_true_eq] at h
  obtain ⟨⟨⟨h1, h2⟩, h3⟩, h4⟩ := h
  obtain ⟨h5, h6⟩ := okName_ok h4
  exact ⟨h1, by rw [u.g.eN]; exact h2, vis_ok h3 u.g, h5, h6⟩
theorem ERelH.cls {H : Hp} {ra : List Addr} {ρ : Env} {σ : L2.St} (e : ERelH M X.mg X.K Y H ra ρ σ) (u : InSu M N X W k sc a oe Y) :
    ∃ (x : Str) (C d : Addr) (v : V), M.cls[Y.c]? = some x ∧ X.mg x = some (.ref C) ∧ Y.cls = .ref C ∧ XF X.prog X.w X.K X.mg X.base C ∧ Y.dd = some d ∧ H d = some (.xd [(("what" : Str), v)]) ∧ RepV X.K H ra Y.w v := by
  obtain ⟨x, d, v, h1, h2, h3, h4, h5⟩ := e.x
  obtain ⟨C, h6, h7⟩ := u.g.st.exc _ _ h1
  rw [h6] at h2
  exact ⟨x, C, d, v, h1, h6, (Option.some.inj h2).symm, h7, h3, h4, h5⟩
theorem eq_ints {s : Store} {i j : Int} : eqD s (.int i) (.int j) = some (decide (i = j)) := by
  have e1 : SeqAt.shaped (.int i) = true := rfl
  have e2 : SeqAt.shaped (.int j) = true := rfl
  unfold eqD toPy
  simp only [e1, e2, Bool.and_self, if_true, PyData.eqv]
  by_cases h : i = j <;> simp [h]
theorem inst_of {pins : List (Addr × Obj)} {σ : L2.St} {H : Hp} {s : Shared} {C d : Addr} {v : V} (u : InSu M N X W k sc a oe Y) (I : Inv (SU X a oe pn) pins σ H s) (hc : Y.cls = .ref C) (hd : Y.dd = some d) (hH : H d = some (.xd [(("what" : Str), v)])) :
    ∃ od, PySem.W.InstAt s.heap a oe C (some od) ∧ ∃ w, PySem.W.lookIn "what" od = some (some w) ∧ RelV v w := by
  obtain ⟨ha, _⟩ := I.pin (a, oe) (List.mem_append_left _ List.mem_cons_self)
  obtain ⟨vs, hv⟩ := u.hf
  have hx : ObjOk X.prog X.w H s.heap d (.xd [(("what" : Str), v)]) := I.hok d _ hH
  obtain ⟨mA, hns, hr⟩ := hx
  obtain ⟨od, ho, hl⟩ := lookIn_ns hns
  have l : List.lookup ("what" : Str) [(("what" : Str), v)] = some v := by simp [List.lookup]
  obtain ⟨w, hw, rw'⟩ := RelO.some_of (v := v) (o := mA "what") (by rw [← l]; exact hr "what")
  obtain ⟨z1, z2⟩ := u.hz
  exact ⟨od, ⟨ha, by rw [z1, hc], by unfold PySem.W.notCls; rw [hv] <;> rfl, by rw [z2, hd]; exact ho⟩, w, by rw [hl, hw], rw'⟩
theorem h_what (u : InSu M N X W k sc a oe Y) {j : Nat} {y : Str} {p pos : Pos} (h : nmOk N sc Y.i j y = true) : GH M (SU X a oe pn) Y k (.ix (.var j) (.int 1)) (.Attribute (.Name y p) "what" pos) := by
  refine plainH ⟨fun pins s σ H Q I ⟨ra, ρ, s', e, r, q⟩ => ?_⟩ (fun _ => rfl)
  obtain ⟨h1, h2, h3, h4, h5⟩ := nm_ok h u
  cases hd : ρ[j]? with
  | none =>
    simp only [evE, hd, R.bind] at q
    exact (show False from q).elim
  | some o =>
    cases o with
    | none =>
      simp only [evE, hd, R.bind] at q
      exact (show False from q).elim
    | some d =>
      obtain ⟨rfl, hs⟩ := e.slot j d h1 hd
      obtain ⟨x, C, dd, v, c1, c2, c3, F, c5, c6, c7⟩ := ERelH.cls (X := X) e u
      simp only [evE, hd, R.bind] at q
      have q : PostR M X.mg X.K Wf σ (RepV X.K) H ra (.ok Y.w s') Q := q
      refine attr_of rfl (thn ((pv (X := SU X a oe pn) j h2 h3 h4 h5).run pins s σ H (fun x H1 => x = .ref Y.a ∧ H1 = H) I ⟨_, hs, rfl, rfl⟩) fun u1 s1 ⟨x1, H1, I1, rx, ex, eh⟩ => ?_)
      subst ex eh
      obtain rfl : u1 = Value.ref Y.a := rx
      obtain ⟨od, J, w, hl, rw'⟩ := inst_of u I1 c3 c5 c6
      rw [u.ha]
      exact HandSPX.exc_get I1.kIn J F.ga F.gg F.oex.exC (PySem.W.findObj_own F.hd F.no rfl hl) (handed_of rw') ⟨v, _, I1.tok _, rw', q.fin r c7⟩
def rIsX (K : PySem.W.Frag) (Y : Sx) (P : Addr → Prop) : List V → Hp → VK → Prop := fun xs H Q => ∃ (C d : Addr) (v c : V) (cv : Value) (b : Bool), xs = [.ref Y.a, c] ∧ P C ∧ Y.cls = .ref C ∧ Y.dd = some d ∧ H d = some (.xd [(("what" : Str), v)]) ∧ (∀ u, RelV c u → u = cv) ∧
  PySem.W.kitOne K (.ref C) cv = some b ∧ Q (.bl b) H
theorem call_isX (u : InSu M N X W k sc a oe Y) : CallR (SU X a oe pn) (.builtin "isinstance") (rIsX X.K Y (XF X.prog X.w X.K X.mg X.base)) := by
  intro pins s σ H xs us Q I r h
  obtain ⟨C, d, v, c, cv, b, rfl, F, hc, hd, hH, hcv, e, q⟩ := h
  cases r with
  | cons rx rr =>
    cases rr with
    | cons rt rr =>
      cases rr
      cases rx
      cases hcv _ rt
      obtain ⟨od, J, _⟩ := inst_of u I hc hd hH
      rw [u.ha]
      have hcl : (PySem.W.clsIn X.K C).isSome = true := by
        obtain ⟨cd, z, _⟩ := PySem.W.any_some F.hd
        rw [z]
        rfl
      exact PySem.W.kia_one (PySem.W.kitx_exc hcl F.ga F.gg F.oex.exC F.cc F.hn F.ht F.hm) I.kIn J e (fun z => nomatch z) fun tk => ⟨.bl b, H, I.kept (t' := tk) fun _ _ z => z, rfl, q⟩
theorem h_isAny (u : InSu M N X W k sc a oe Y) {j : Nat} {y z : Str} {p p2 p3 pos : Pos} {f : E} {c : V} {cv : Value} (b : Nat → Bool) (h : nmOk N sc Y.i j y = true) (hg : glB sc "isinstance" = true) (hz : PE (SU X a oe pn) (.Name z p3) (tC c)) (hcv : ∀ u, RelV c u → u = cv)
    (hk : ∀ C x, M.cls[Y.c]? = some x → X.mg x = some (.ref C) → PySem.W.kitOne X.K (.ref C) cv = some (b Y.c))
    (hf : ∀ (ρ : Env) (s : Store), (∃ d, ρ[j]? = some (some d) ∧ d = .tup [.int Y.c, Y.w]) ∨ evE (M.C k) M.G f ρ s = .bad → evE (M.C k) M.G f ρ s = .ok (.bl (b Y.c)) s ∨ evE (M.C k) M.G f ρ s = .bad)
    (hb : ∀ (ρ : Env) (s : Store), (∀ d, ρ[j]? = some (some d) → False) → evE (M.C k) M.G f ρ s = .bad) :
    GH M (SU X a oe pn) Y k f (.Call (.Name "isinstance" p) [.Name y p2, .Name z p3] [] pos) := by
  obtain ⟨h1, h2, h3, h4, h5⟩ := nm_ok h u
  have hm : X.mg "isinstance" = none := u.g.blt (by simp [bltNames])
  refine plainH (PE.sub (pe_callB (X := SU X a oe pn) (call_isX (pn := pn) u) (show Gl X "isinstance" from gl_ok hg u.g) hm PyProof.Rows.boot_isinstance (pa_cons (pv (X := SU X a oe pn) j h2 h3 h4 h5) (pa_cons hz pa_nil)) (by decide) (by decide)) fun σ H Q ⟨ra, ρ, s, e, r, q⟩ => ?_) (fun _ => rfl)
  cases hd : ρ[j]? with
  | none =>
    rw [hb ρ s fun d z => by rw [hd] at z; cases z] at q
    exact (show False from q).elim
  | some o =>
    cases o with
    | none =>
      rw [hb ρ s fun d z => by rw [hd] at z; cases z] at q
      exact (show False from q).elim
    | some d =>
      obtain ⟨e1, hs⟩ := e.slot j d h1 hd
      obtain ⟨x, C, dd, v, c1, c2, c3, F, c5, c6, c7⟩ := ERelH.cls (X := X) e u
      rcases hf ρ s (.inl ⟨d, hd, e1⟩) with z | z
      · rw [z] at q
        exact ⟨_, hs, C, dd, v, c, cv, b Y.c, rfl, F, c3, c5, c6, hcv, hk C x c1 c2, q.fin r rfl⟩
      · rw [z] at q
        exact (show False from q).elim
theorem h_isC (u : InSu M N X W k sc a oe Y) {j c : Nat} {y z : Str} {p p2 p3 pos : Pos} (h : nmOk N sc Y.i j y = true) (hg : glB sc "isinstance" = true) (hc : M.cls[c]? = some z) (hz : glB sc z = true) (ho : okName z = true) :
    GH M (SU X a oe pn) Y k (.cmp (.ix (.var j) (.int 0)) .Eq (.int (.ofNat c))) (.Call (.Name "isinstance" p) [.Name y p2, .Name z p3] [] pos) := by
  obtain ⟨C2, m2, F2⟩ := u.g.st.exc _ _ hc
  refine h_isAny (c := .ref C2) (cv := .ref C2) u (fun n => decide (n = c)) h hg (pe_glob (X := SU X a oe pn) (show Gl X z from gl_ok hz u.g) m2 rfl (okName_ok ho).1) (fun _ z => z) (fun C x c1 c2 => (u.g.st.rel _ _ _ _ C C2 c1 hc c2 m2).2) (fun ρ s q => ?_) fun ρ s q => ?_
  · rcases q with ⟨d, hd, rfl⟩ | q
    · refine .inl ?_
      simp only [evE, hd, R.bind]
      show R.ofBool (cmpD .Eq s (.int Y.c) (.int (.ofNat c))) s = _
      unfold cmpD
      rw [eq_ints]
      show R.ok _ s = _
      congr 2
      simp only [Int.ofNat_eq_natCast, Int.ofNat_inj]
    · exact .inr q
  · simp only [evE]
    cases hd : ρ[j]? with
    | none => rfl
    | some o => cases o with
      | none => rfl
      | some d => exact (q d hd).elim
theorem h_isB (u : InSu M N X W k sc a oe Y) {j : Nat} {y z : Str} {p p2 p3 pos : Pos} (h : nmOk N sc Y.i j y = true) (hg : glB sc "isinstance" = true) (hb : z = M.base ∨ z = "ValueError") (hz : glB sc z = true) (ho : okName z = true) :
    GH M (SU X a oe pn) Y k (.cmp (.ix (.var j) (.int 0)) .GtE (.int 0)) (.Call (.Name "isinstance" p) [.Name y p2, .Name z p3] [] pos) := by
  have ok : ∀ (ρ : Env) (s : Store), (∃ d, ρ[j]? = some (some d) ∧ d = .tup [.int Y.c, Y.w]) ∨ evE (M.C k) M.G (.cmp (.ix (.var j) (.int 0)) .GtE (.int 0)) ρ s = .bad →
      evE (M.C k) M.G (.cmp (.ix (.var j) (.int 0)) .GtE (.int 0)) ρ s = .ok (.bl true) s ∨ evE (M.C k) M.G (.cmp (.ix (.var j) (.int 0)) .GtE (.int 0)) ρ s = .bad := fun ρ s q => by
    rcases q with ⟨d, hd, rfl⟩ | q
    · refine .inl ?_
      simp only [evE, hd, R.bind]
      show R.ok (D.bl (decide ((0 : Int) ≤ (Y.c : Int)))) s = _
      rw [decide_eq_true (Int.natCast_nonneg Y.c)]
    · exact .inr q
  have bd : ∀ (ρ : Env) (s : Store), (∀ d, ρ[j]? = some (some d) → False) → evE (M.C k) M.G (.cmp (.ix (.var j) (.int 0)) .GtE (.int 0)) ρ s = .bad := fun ρ s q => by
    simp only [evE]
    cases hd : ρ[j]? with
    | none => rfl
    | some o => cases o with
      | none => rfl
      | some d => exact (q d hd).elim
  rcases hb with rfl | rfl
  · obtain ⟨B, m2, F2⟩ := u.g.st.bas
    exact h_isAny (c := .ref B) (cv := .ref B) u (fun _ => true) h hg (pe_glob (X := SU X a oe pn) (show Gl X _ from gl_ok hz u.g) m2 rfl (okName_ok ho).1) (fun _ z => z) (fun C x c1 c2 => (F2 _ _ C c1 c2).2) ok bd
  · have hm2 : X.mg "ValueError" = none := u.g.blt (by simp [bltNames])
    exact h_isAny (c := .ty "ValueError") (cv := .type "ValueError") u (fun _ => true) h hg (pe_bltn (X := SU X a oe pn) (show Gl X _ from gl_ok hz u.g) hm2 PyProof.Rows.Boot.«ValueError» rfl (by decide) (by decide)) (fun _ z => z)
      (fun C x c1 c2 => by
        obtain ⟨C2, m2, F2⟩ := u.g.st.exc _ _ c1
        rw [c2] at m2
        cases m2
        exact F2.ve) ok bd
theorem h_var (u : InSu M N X W k sc a oe Y) {i : Nat} {x : Expr} (hi : (Y.i == some i) = false) (h : mE M N sc (fun _ => true) (.var i) x = true) : GH M (SU X a oe pn) Y k (.var i) x := by
  unfold mE at h
  split at h
  · simp only [Bool.and_eq_true, decide_eq_true_eq] at h
    obtain ⟨⟨h1, h2⟩, h3⟩ := h
    obtain ⟨h4, h5⟩ := okName_ok h3
    refine plainH (PE.sub (pv (X := SU X a oe pn) i (by show X.N[i]? = _; rw [u.g.eN]; exact h1) (show Vis X.env.scope _ from vis_ok h2 u.g) h4 h5) fun σ H Q ⟨ra, ρ, s, e, r, p⟩ => ?_) (fun _ => rfl)
    simp only [evE] at p
    split at p
    · rename_i d hd
      obtain ⟨v, ev, rv⟩ := e.get i d (by simpa using hi) hd
      exact ⟨v, ev, p.fin r rv⟩
    · exact p.elim
  · cases h
theorem h_int {Z : Cx} {i : Int} {x : Expr} (h : mE M N sc (fun _ => true) (.int i) x = true) : GH M Z Y k (.int i) x := by
  unfold mE at h
  split at h
  · have e := of_decide_eq_true h
    subst e
    exact plainH (PE.sub pe_int fun σ H Q ⟨ra, ρ, s, e, r, p⟩ => p.fin r rfl) (fun _ => rfl)
  · cases h
theorem h_str {Z : Cx} {i : Str} {x : Expr} (h : mE M N sc (fun _ => true) (.str i) x = true) : GH M Z Y k (.str i) x := by
  unfold mE at h
  split at h
  · have e := of_decide_eq_true h
    subst e
    exact plainH (PE.sub pe_str fun σ H Q ⟨ra, ρ, s, e, r, p⟩ => p.fin r rfl) (fun _ => rfl)
  · cases h
theorem h_bl {Z : Cx} {i : Bool} {x : Expr} (h : mE M N sc (fun _ => true) (.bl i) x = true) : GH M Z Y k (.bl i) x := by
  unfold mE at h
  split at h
  · have e := of_decide_eq_true h
    subst e
    exact plainH (PE.sub pe_bl fun σ H Q ⟨ra, ρ, s, e, r, p⟩ => p.fin r rfl) (fun _ => rfl)
  · cases h
theorem h_non {Z : Cx} {x : Expr} (h : mE M N sc (fun _ => true) .non x = true) : GH M Z Y k .non x := by
  unfold mE at h
  split at h
  · exact plainH (PE.sub pe_non fun σ H Q ⟨ra, ρ, s, e, r, p⟩ => p.fin r rfl) (fun _ => rfl)
  · cases h
theorem h_isi (u : InSu M N X W k sc a oe Y) {b : E} {t : Ty} {z : Expr} {p p2 pos : Pos} (hg : glB sc "isinstance" = true) (hg2 : glB sc (tyName t) = true) (hs : notStar z = true) (ha : GH M (SU X a oe pn) Y k b z) :
    GH M (SU X a oe pn) Y k (.isi b t) (.Call (.Name "isinstance" p) [z, .Name (tyName t) p2] [] pos) := by
  have hm : X.mg "isinstance" = none := u.g.blt (by simp [bltNames])
  have hm2 : X.mg (tyName t) = none := u.g.blt (by cases t <;> simp [bltNames, tyName])
  have hT : PE (SU X a oe pn) (.Name (tyName t) p2) (tC (.ty (tyOf t))) := pe_bltn (show Gl X _ from gl_ok hg2 u.g) hm2 (ty_boot t) rfl (by cases t <;> decide) (by cases t <;> decide)
  have hA : PA (SU X a oe pn) [z, .Name (tyName t) p2] (tCons (hE M (SU X a oe pn) Y (evE (M.C k) M.G b)) (tCons (tC (.ty (tyOf t))) tNil)) := pa_cons ha.1 (pa_cons hT pa_nil) (star_cons hs _ _)
  refine plainH (PE.sub (pe_callB (X := SU X a oe pn) call_isi (show Gl X "isinstance" from gl_ok hg u.g) hm PyProof.Rows.boot_isinstance hA (by decide) (by decide) (star_cons hs _ _) rfl) fun σ H Q ⟨ra, ρ, s, e, r, p⟩ => ?_) (fun _ => rfl)
  simp only [evE] at p
  refine hE_bind e r p fun v H1 d s1 r1 k1 p1 e1 R1 rv q => ?_
  cases hb : isiD s1 d t with
  | none => rw [hb] at q; exact q.elim
  | some b =>
    rw [hb] at q
    obtain ⟨u2, ty, ki⟩ := isi_of (X := SU X a oe pn) R1 rv hb
    exact ⟨v, .ty (tyOf t), _, _, b, rfl, .ty _, ty, ki, q.fin R1 rfl⟩
theorem h_neg {b : E} {x : Expr} {pos : Pos} (ha : GH M (SU X a oe pn) Y k b x) : GH M (SU X a oe pn) Y k (.neg b) (.UnaryOp .USub x pos) := by
  refine plainH (PE.sub (pe_un un_neg ha.1) fun σ H Q ⟨ra, ρ, s, e, r, p⟩ => ?_) (fun _ => rfl)
  simp only [evE] at p
  refine hE_bind e r p fun v H1 d s1 r1 k1 p1 e1 R1 rv q => ?_
  cases d with
  | int i => exact ⟨i, rv, q.fin R1 rfl⟩
  | _ => exact q.elim
theorem h_tuple (u : InSu M N X W k sc a oe Y) {es : List E} {z : Expr} {p pos : Pos} (hg : glB sc "tuple" = true) (h : GHs M (SU X a oe pn) Y k es [z]) :
    GH M (SU X a oe pn) Y k (.bi .tuple es) (.Call (.Name "tuple" p) [z] [] pos) := by
  obtain ⟨r, h1, h2⟩ := bi_tuple (M := M) (X := SU X a oe pn)
  have hm : X.mg "tuple" = none := u.g.blt (by simp [bltNames])
  cases es with
  | nil => exact h.elim
  | cons e es =>
    refine plainH (PE.sub (pe_bi (X := SU X a oe pn) .tuple h1 (show Gl X _ from gl_ok hg u.g) hm (GHs.ga h) (star_cons h.2.1 [] _) rfl) fun σ H Q ⟨ra, ρ, s, e, r, p⟩ => ?_) (fun _ => rfl)
    simp only [evE] at p
    exact hA_bind e r p fun vs H1 ds s1 r1 k1 p1 e1 R1 rv q => h2 Wf σ H1 r1 s1 ds vs Q R1 rv q
mutual
theorem sndH (u : InSu M N X W k sc a oe Y) (pn : List (Addr × Obj)) : ∀ (e : E) {x : Expr}, mH M N sc Y.i e x = true → GH M (SU X a oe pn) Y k e x
  | .var i, x, h => by
    simp only [mH, Bool.and_eq_true, Bool.not_eq_true'] at h
    exact h_var u h.1 h.2
  | .int i, x, h => by
    unfold mH at h
    exact h_int h
  | .str i, x, h => by
    unfold mH at h
    exact h_str h
  | .non, x, h => by
    unfold mH at h
    exact h_non h
  | .bl b, x, h => by
    unfold mH at h
    exact h_bl h
  | .tup es, x, h => by
    unfold mH at h
    split at h
    · exact h_tup (GHs.ga (sndHs u pn es h))
    · cases h
  | .lst es, x, h => by
    unfold mH at h
    split at h
    · exact h_lst (GHs.ga (sndHs u pn es h))
    · cases h
  | .not b, x, h => by
    unfold mH at h
    split at h
    · exact h_not (sndH u pn b h)
    · cases h
  | .and b c, x, h => by
    unfold mH at h
    split at h
    · rename_i y z r pos
      rw [Bool.and_eq_true] at h
      obtain ⟨h1, h2⟩ := h
      have hb : PE (SU X a oe pn) (.BoolOp .And (z :: r) pos) (hE M (SU X a oe pn) Y (evE (M.C k) M.G c)) ∧ PW (SU X a oe pn) (.BoolOp .And (z :: r) pos) (hT M (SU X a oe pn) Y (evT (M.C k) M.G c)) := by
        cases r with
        | nil =>
          have q := sndH u pn c h2
          exact ⟨pe_one q.1, pw_and1 q.2⟩
        | cons v r =>
          have q := sndH u pn c h2
          exact ⟨q.1, pw_bool q.2⟩
      have q := h_and (sndH u pn b h1) hb.1 hb.2
      exact ⟨q.1, q.2.pt⟩
    · cases h
  | .cmp b op c, x, h => by
    simp only [mH, Bool.or_eq_true] at h
    rcases h with (h | h) | h
    · unfold isC at h
      split at h
      · simp only [Bool.and_eq_true, decide_eq_true_eq] at h
        obtain ⟨⟨⟨⟨⟨⟨rfl, rfl⟩, h1⟩, h2⟩, h3⟩, h4⟩, h5⟩ := h
        exact h_isC u h2 h1 h3 h4 h5
      · cases h
    · unfold isB at h
      split at h
      · simp only [Bool.and_eq_true, Bool.or_eq_true, decide_eq_true_eq] at h
        obtain ⟨⟨⟨⟨⟨⟨rfl, rfl⟩, h1⟩, h2⟩, h3⟩, h4⟩, h5⟩ := h
        exact h_isB u h2 h1 h3 h4 h5
      · cases h
    · split at h
      · simp only [Bool.and_eq_true, decide_eq_true_eq] at h
        obtain ⟨⟨⟨rfl, h1⟩, h2⟩, h3⟩ := h
        exact h_cmp (X := SU X a oe pn) (show X.A.units + 100 < cLine by have := u.g.hr.un; omega) (show GdOk X.K X.w from u.g.st.gds) h1 (sndH u pn b h2) (sndH u pn c h3)
      · cases h
  | .ix b c, x, h => by
    simp only [mH] at h
    unfold isW at h
    split at h
    · simp only [Bool.and_eq_true, decide_eq_true_eq] at h
      obtain ⟨rfl, h1⟩ := h
      exact h_what u h1
    · cases h
  | .glob _, x, h => by simp [mH] at h
  | .bin _ _ _, x, h => by simp [mH] at h
  | .neg b, x, h => by
    unfold mH at h
    split at h
    · exact h_neg (sndH u pn b h)
    · cases h
  | .or b c, x, h => by
    unfold mH at h
    split at h
    · rename_i y z r pos
      rw [Bool.and_eq_true] at h
      obtain ⟨h1, h2⟩ := h
      have hb : PE (SU X a oe pn) (.BoolOp .Or (z :: r) pos) (hE M (SU X a oe pn) Y (evE (M.C k) M.G c)) ∧ PW (SU X a oe pn) (.BoolOp .Or (z :: r) pos) (hT M (SU X a oe pn) Y (evT (M.C k) M.G c)) := by
        cases r with
        | nil =>
          have q := sndH u pn c h2
          exact ⟨pe_one q.1, pw_or1 q.2⟩
        | cons v r =>
          have q := sndH u pn c h2
          exact ⟨q.1, pw_bool q.2⟩
      have q := h_or (sndH u pn b h1) hb.1 hb.2
      exact ⟨q.1, q.2.pt⟩
    · cases h
  | .chain _ _ _ _ _, x, h => by simp [mH] at h
  | .ife c b d, x, h => by
    unfold mH at h
    split at h
    · simp only [Bool.and_eq_true] at h
      obtain ⟨⟨h1, h2⟩, h3⟩ := h
      exact h_ife (sndH u pn c h1) (sndH u pn b h2) (sndH u pn d h3)
    · cases h
  | .slice _ _ _, x, h => by simp [mH] at h
  | .rev _, x, h => by simp [mH] at h
  | .call _ _, x, h => by simp [mH] at h
  | .bi b es, x, h => by
    unfold mH at h
    split at h
    · simp only [Bool.and_eq_true, decide_eq_true_eq] at h
      obtain ⟨⟨⟨rfl, rfl⟩, h1⟩, h2⟩ := h
      exact h_tuple u h1 (sndHs u pn es h2)
    · cases h
  | .isi b t, x, h => by
    unfold mH at h
    split at h
    · simp only [Bool.and_eq_true, decide_eq_true_eq] at h
      obtain ⟨⟨⟨⟨⟨rfl, h1⟩, rfl⟩, h2⟩, h3⟩, h4⟩ := h
      exact h_isi u h1 h2 h3 (sndH u pn b h4)
    · cases h
  | .lrg _, x, h => by simp [mH] at h
  | .trg _, x, h => by simp [mH] at h
  | .app _ _, x, h => by simp [mH] at h
  | .pop _ _, x, h => by simp [mH] at h
  | .ext _ _, x, h => by simp [mH] at h
  | .lc _ _ _ _ _, x, h => by simp [mH] at h
theorem sndHs (u : InSu M N X W k sc a oe Y) (pn : List (Addr × Obj)) : ∀ (es : List E) {xs : List Expr}, mHs M N sc Y.i es xs = true → GHs M (SU X a oe pn) Y k es xs
  | [], xs, h => by
    cases xs with
    | nil => trivial
    | cons x r => simp [mHs] at h
  | e :: es, xs, h => by
    cases xs with
    | nil => simp [mHs] at h
    | cons x r =>
      simp only [mHs, Bool.and_eq_true] at h
      exact ⟨sndH u pn e h.1.2, h.1.1, sndHs u pn es h.2⟩
end
end
end WL
set_option maxHeartbeats 4000000
namespace WL
open PySem PySem.Spec PyProof.Rows L2
variable [TBS] [CLO]
def notComp : Expr → Bool
  | .ListComp .. => false
  | .SetComp .. => false
  | .DictComp .. => false
  | _ => true
theorem sw_none {e : Expr} (h : notComp e = true) (t : Option Expr) (l : Nat) (env : PySem.Env) : swapsWith e t l env = pure false := by
  cases e <;> first | rfl | cases h
def swapRes (sc : Scope) (ts vs : List Expr) : Option (Option (List Str)) :=
  if !(ts.length == 2 || ts.length == 3) || vs.length != ts.length then some none
  else if vs.any (fun | .Starred .. => true | _ => false) then some none
  else
    let line := (ts.head?.map (·.pos.line)).getD 0
    let names := ts.filterMap fun
      | .Name id pos => if sc.names.lookup id == some .local && pos.line == line then some id else none
      | _ => none
    if names.length != ts.length || names.eraseDups.length != names.length then some none
    else if vs.all (foldedForSure 8) then some none
    else if vs.all (constantsAlone 8) then none
    else some (some names)
theorem swap_of {env : PySem.Env} {sc : Scope} {ts vs : List Expr} {k k2 : Nat} {p p2 : Pos} {r : Option (List Str)} (he : env.scope = sc) (hb : env.blockKind = .function) (h : swapRes sc ts vs = some r) :
    swappedStores [.Tuple ts k p] (.Tuple vs k2 p2) env = pure r := by
  subst he
  unfold swapRes at h
  unfold swappedStores
  have e2 : (env.blockKind != ScopeKind.function) = false := by rw [hb]; decide
  simp only [e2, Bool.or_false]
  split at h
  · rename_i c
    cases h
    simp only [c, if_true]
  · rename_i c
    simp only [if_neg c]
    split at h
    · rename_i c2
      cases h
      exact if_pos c2
    · rename_i c2
      refine (if_neg c2).trans ?_
      dsimp only at h
      split at h
      · rename_i c3
        cases h
        exact if_pos c3
      · rename_i c3
        refine (if_neg c3).trans ?_
        split at h
        · rename_i c4
          cases h
          exact if_pos c4
        · rename_i c4
          refine (if_neg c4).trans ?_
          split at h
          · cases h
          · rename_i c5
            cases h
            exact if_neg c5
def asgOk (sc : Scope) : Expr → Expr → Bool
  | .Tuple ts _ _, .Tuple vs _ _ => decide (swapRes sc ts vs = some none)
  | _, _ => true
section
variable (M : Cfg) (N : List Str)
def isLoc (sc : Scope) (i : Nat) (x : Str) : Bool := decide (N[i]? = some x) && decide (sc.names.lookup x = some .local) && !M.na.contains i
def mPar (sc : Scope) : List Nat → List Expr → List E → List Expr → Bool
  | [i, j], [.Name x px, .Name y py], [e1, e2], [a, b] => isLoc M N sc i x && isLoc M N sc j y && decide (i ≠ j) && decide (swapRes sc [.Name x px, .Name y py] [a, b] = some (some [x, y])) &&
      mE M N sc (fun _ => true) e1 a && mE M N sc (fun _ => true) e2 b
  | [i, j, l], [.Name x px, .Name y py, .Name z pz], [e1, e2, e3], [a, b, c] => isLoc M N sc i x && isLoc M N sc j y && isLoc M N sc l z && decide (swapRes sc [.Name x px, .Name y py, .Name z pz] [a, b, c] = some (some [x, y, z])) &&
      mE M N sc (fun _ => true) e1 a && mE M N sc (fun _ => true) e2 b && mE M N sc (fun _ => true) e3 c
  | _, _, _, _ => false
def mHd1 (sc : Scope) (h : Hd) (d : ExceptHandler) : Bool := match d with
  | .ExceptHandler (some (.Name y _)) n (b0 :: sts) _ => glB sc y && okName y &&
      (decide (y = M.base) && decide (h.cs = List.range M.cls.length) || (match h.cs with
        | [c] => decide (M.cls[c]? = some y)
        | _ => false)) &&
      (match n, h.nm with
        | none, none => true
        | some x, some j => decide (N[j]? = some x) && decide (sc.names.lookup x = some .local) && !M.na.contains j
        | _, _ => false) && mSu M N sc h.nm h.b (b0 :: sts)
  | _ => false
def mHd (sc : Scope) : List Hd → List ExceptHandler → Bool
  | [], [] => true
  | h :: hs, d :: ds => mHd1 M N sc h d && mHd sc hs ds
  | _, _ => false
mutual
def mS (sc : Scope) : S → Stmt → Bool
  | .asg t e => fun st => match st with
    | .Assign [tg] v _ => mTg M N sc (fun _ => true) t tg && (notLk e && mE M N sc (fun _ => true) e v) && asgOk sc tg v
    | _ => false
  | .par is es => fun st => match st with
    | .Assign [.Tuple ts _ _] (.Tuple vs _ _) _ => mPar M N sc is ts es vs
    | _ => false
  | .aug i op e => fun st => match st with
    | .AugAssign (.Name y _) op' v _ => decide (op = op') && decide (op = .Add ∨ op = .Sub) && decide (N[i]? = some y) && locB sc (fun _ => true) y && !M.na.contains i && mE M N sc (fun _ => true) e v
    | _ => false
  | .augS o i op e => fun st => match st with
    | .AugAssign (.Subscript x y _) op' v _ => decide (op = op') && decide (op = .Add ∨ op = .Sub) && notSlice y && mE M N sc (fun _ => true) o x && mE M N sc (fun _ => true) i y && mE M N sc (fun _ => true) e v
    | _ => false
  | .expr e => fun st => match st with
    | .Expr v _ => notComp v && mE M N sc (fun _ => true) e v
    | _ => false
  | .ret e => fun st => match st with
    | .Return (some v) _ => mE M N sc (fun _ => true) e v
    | _ => false
  | .retN => fun st => match st with
    | .Return none _ => true
    | _ => false
  | .iff c a b => fun st => match st with
    | .If x p q _ => mE M N sc (fun _ => true) c x && mB sc a p && mB sc b q
    | _ => false
  | .for t it b => fun st => match st with
    | .For tg x p [] _ => mTg M N sc (fun _ => true) t tg && mIt M N sc (fun _ => true) it tg x && mB sc b p
    | _ => false
  | .whl c b => fun st => match st with
    | .While x p [] _ => mE M N sc (fun _ => true) c x && mB sc b p
    | _ => false
  | .brk => fun st => match st with
    | .Break _ => true
    | _ => false
  | .cnt => fun st => match st with
    | .Continue _ => true
    | _ => false
  | .pass => fun st => match st with
    | .Pass _ => true
    | _ => false
  | .nev => fun _ => true
  | .rais c e => fun st => match st with
    | .Raise (some (.Call (.Name y _) [v] [] _)) none _ => decide (M.cls[c]? = some y) && glB sc y && okName y && mE M N sc (fun _ => true) e v
    | _ => false
  | .tryx b hs => fun st => match st with
    | .Try body (h0 :: ds) [] [] _ => mB sc b body && mHd M N sc hs (h0 :: ds)
    | _ => false
  | .lock _ x => fun st => M.na.isEmpty && mS sc x st
def mB (sc : Scope) : List S → List Stmt → Bool
  | [] => fun l => l.isEmpty
  | x :: xs => fun l => match l with
    | y :: ys => mS sc x y && mB sc xs ys
    | [] => false
end
end
section
variable (C : Calls) (G : Globs)
theorem setK_exc {n : Nat} {k v : D} {s s3 : Store} {c : Nat} {w : D} (h : setK n k v s = .exc c w s3) : False := by
  unfold setK at h
  split at h
  · split at h <;> cases h
  · cases h
theorem setD_exc {o i v : D} {s s3 : Store} {c : Nat} {w : D} (h : setD o i v s = .exc c w s3) : False := by
  cases o with
  | ref n =>
    cases i with
    | int k =>
      simp only [setD] at h
      cases hl : isLst s n with
      | none => rw [hl] at h; exact setK_exc h
      | some l =>
        rw [hl] at h
        simp only at h
        cases hm : ixOf l.length k with
        | none => rw [hm] at h; cases h
        | some m => rw [hm] at h; cases h
    | _ => exact setK_exc h
  | _ => cases i <;> cases h
mutual
theorem asgT_quiet : ∀ (t : Tg) (d : D) (ρ : Env) (s : Store), (asgT C G t d ρ s).quiet = asgT C G t d ρ s
  | .nm i, d, ρ, s => rfl
  | .tup ts, d, ρ, s => by
    unfold asgT
    split
    · split
      · exact asgTs_quiet ts _ ρ s
      · rfl
    · split
      · split
        · exact asgTs_quiet ts _ ρ s
        · rfl
      · rfl
    · rfl
  | .sub o i, d, ρ, s => by
    unfold asgT
    cases evE C G o ρ s with
    | exc c w s1 => rfl
    | bad => rfl
    | ok x s1 =>
      simp only [R.quiet, R.bind]
      cases evE C G i ρ s1 with
      | exc c w s2 => rfl
      | bad => rfl
      | ok y s2 =>
        simp only
        cases hs : setD x y d s2 with
        | ok u s3 => rfl
        | bad => rfl
        | exc c w s3 => exact (setD_exc hs).elim
  | .fld cs o f, d, ρ, s => by
    unfold asgT
    cases evE C G o ρ s with
    | exc c w s1 => rfl
    | bad => rfl
    | ok x s1 =>
      simp only [R.quiet, R.bind]
      rcases setF_inv cs x f d s1 with hb | ⟨n, c, fs, _, _, _, _, he⟩
      · rw [hb]
      · rw [he]
theorem asgTs_quiet : ∀ (ts : List Tg) (ds : List D) (ρ : Env) (s : Store), (asgTs C G ts ds ρ s).quiet = asgTs C G ts ds ρ s
  | [], ds, ρ, s => by
    unfold asgTs
    cases ds <;> rfl
  | t :: ts, ds, ρ, s => by
    unfold asgTs
    cases ds with
    | nil => rfl
    | cons d ds =>
      simp only
      have h := asgT_quiet t d ρ s
      cases e : asgT C G t d ρ s with
      | exc c w s1 => rw [e] at h; cases h
      | bad => rfl
      | ok ρ1 s1 => exact asgTs_quiet ts ds ρ1 s1
end
end
section
variable {M : Cfg} {X : Cx} {W : WX} {En : L2.Ends} {H H' : Hp} {ra rb : List Addr} {α β : Type} {ρ : Env} {σ : L2.St}
theorem PostS.mono {r : RS} (h : PostS M X W En H ra r) (k : Keeps H H') (p : ra <+: rb) : PostS M X W En H' rb r := by
  cases r with
  | nx ρ s => exact fun σ' rc H2 k2 p2 => h σ' rc H2 (k.trans k2) (p.trans p2)
  | brk ρ s => exact fun σ' rc H2 k2 p2 => h σ' rc H2 (k.trans k2) (p.trans p2)
  | cnt ρ s => exact fun σ' rc H2 k2 p2 => h σ' rc H2 (k.trans k2) (p.trans p2)
  | ret d s => exact fun v rc H2 k2 p2 => h v rc H2 (k.trans k2) (p.trans p2)
  | exc c w ρ s => exact fun cls dd σ' rc H2 k2 p2 => h cls dd σ' rc H2 (k.trans k2) (p.trans p2)
  | bad => exact h
theorem PostS.bind {repA : Hp → List Addr → α → β → Prop} {r : R α} {f : α → Store → RS} (e : ERel X.K H ra ρ σ) (h : PostS M X W En H ra (r.stm ρ f)) :
    PostR M X.mg X.K W σ repA H ra r fun b H1 => ∃ a s1 r1, Keeps H H1 ∧ ra <+: r1 ∧ SRel X.K H1 r1 s1 ∧ ERel X.K H1 r1 ρ σ ∧ repA H1 r1 a b ∧ PostS M X W En H ra (f a s1) := by
  cases r with
  | ok a s => exact fun b rb H1 k p R rp => ⟨a, s, rb, k, p, R, e.keep k p, rp, h⟩
  | exc c w s => exact fun cls dd rb H1 k p R rx => h cls dd σ rb H1 k p R (e.keep k p) rx
  | bad => exact h
theorem stm_bind {γ : Type} (r : R α) (g : α → Store → R γ) (ρ : Env) (f : γ → Store → RS) : (r.bind g).stm ρ f = r.stm ρ fun a s => (g a s).stm ρ f := by
  cases r <;> rfl
theorem tst_eq (C : Calls) (G : Globs) (c : E) (ρ : Env) (s : Store) : tst C G c ρ s = (evT C G c ρ s).bind fun b s1 => .ok b (trunc s .non s1) := by
  unfold tst evT
  cases evE C G c ρ s with
  | ok x s1 =>
    simp only [R.bind]
    cases truth s1 x <;> rfl
  | exc c w s1 => rfl
  | bad => rfl
theorem let_go {s s1 : Store} {K : PySem.W.Frag} {H H1 : Hp} {ra r1 : List Addr} (R : SRel K H ra s) (k : Keeps H H1) (p : ra <+: r1) (R1 : SRel K H1 r1 s1) {d : D} {v : V} (rv : RepV K H1 r1 d v) :
    ∃ rc, ra <+: rc ∧ SRel K H1 rc (trunc s d s1) ∧ RepV K H1 rc d v := SRel.trunc R R1 p d v rv
end
structure GoodS (M : Cfg) (N : List Str) (X : Cx) (W : WX) (k : Nat) (sc : Scope) : Prop where
  g : Good M N X W k sc (fun _ => true)
  po : PassesOwn (model X.prog X.w) X.A X.env X.xe
  stk : X.stack = X.env :: X.outer
  frm : X.env.frame = some X.env.locals
section
variable {M : Cfg} {N : List Str} {X : Cx} {W : WX} {k : Nat} {sc : Scope}
abbrev GS (M : Cfg) (X : Cx) (W : WX) (k : Nat) (x : S) (st : Stmt) : Prop := PS X st (tS M X W (exS (M.C k) M.G M.F x))
abbrev GB (M : Cfg) (X : Cx) (W : WX) (k : Nat) (xs : List S) (sts : List Stmt) : Prop := PSs X sts (tS M X W (exB (M.C k) M.G M.F xs))
theorem GoodS.bk (g : GoodS M N X W k sc) : X.env.blockKind = .function := by
  unfold PySem.Env.blockKind
  rw [g.g.esc, g.g.knd]
  rfl
theorem b_nil : GB M X W k [] [] := PSs.sub pss_nil fun D σ H ⟨ra, ρ, s, e, r, p⟩ => by
  simp only [exB] at p
  exact p σ ra H (Keeps.refl H) (List.prefix_refl _) r e
theorem b_cons {x : S} {st : Stmt} {xs : List S} {sts : List Stmt} (h1 : GS M X W k x st) (h2 : GB M X W k xs sts) : GB M X W k (x :: xs) (st :: sts) := by
  refine PSs.sub (pss_cons h1 h2) fun D σ H ⟨ra, ρ, s, e, r, p⟩ => ?_
  refine ⟨ra, ρ, s, e, r, ?_⟩
  simp only [exB] at p
  cases hx : exS (M.C k) M.G M.F x ρ s with
  | nx ρ1 s1 =>
    rw [hx] at p
    exact fun σ' rb H1 k1 p1 R1 e1 => ⟨rb, ρ1, s1, e1, R1, p.mono k1 p1⟩
  | ret d s1 => rw [hx] at p; exact p
  | brk ρ1 s1 => rw [hx] at p; exact p
  | cnt ρ1 s1 => rw [hx] at p; exact p
  | exc c w ρ1 s1 => rw [hx] at p; exact p
  | bad => rw [hx] at p; exact p
theorem asg_wish {t : Tg} {e : E} {D : L2.Ends} {σ : L2.St} {H : Hp} (h : tS M X W (exS (M.C k) M.G M.F (.asg t e)) D σ H) :
    tE M X W (evE (M.C k) M.G e) σ H fun x H1 => tG M X (Tg.names t) (asgT (M.C k) M.G t) x σ H1 D.nx := by
  obtain ⟨ra, ρ, s, e1, r, p⟩ := h
  simp only [exS] at p
  rw [stm_bind] at p
  refine ⟨ra, ρ, s, e1, r, (PostS.bind (repA := RepV X.K) e1 p).imp fun v H1 ⟨d, s1, r1, k1, p1, R1, e2, rv, q⟩ => ?_⟩
  obtain ⟨rc, pc, Rc, rvc⟩ := let_go r k1 p1 R1 rv
  refine ⟨rc, ρ, _, d, e1.keep k1 pc, Rc, rvc, ?_⟩
  rw [asgT_quiet]
  have q' := q.mono k1 pc
  have hq := asgT_quiet (M.C k) M.G t d ρ (trunc s d s1)
  cases ha : asgT (M.C k) M.G t d ρ (trunc s d s1) with
  | ok ρ2 s2 =>
    rw [ha] at q'
    exact fun σ' rb H2 k2 p2 R2 ⟨e3, _⟩ => q' σ' rb H2 k2 p2 R2 e3
  | exc c w s2 => rw [ha] at hq; cases hq
  | bad => rw [ha] at q'; exact q'
theorem s_asg {t : Tg} {e : E} {tg v : Expr} {pos : Pos} (g : GoodS M N X W k sc) (hv : GE M X W k e v) (ht : GG M X k t tg) (hs : notStar tg = true) (hc : swapsWith v (some tg) pos.line X.env = pure false) (hw : swappedStores [tg] v X.env = pure none) :
    GS M X W k (.asg t e) (.Assign [tg] v pos) := by
  refine PS.sub (ps_asg hv.1 ht hc hw (by rw [asg_cons hs]; rfl)) fun D σ H h => ?_
  exact asg_wish h
theorem s_asgLc {i : Nat} {e : E} {y : Str} {py p2 pos : Pos} {elt : Expr} {gs : List Comprehension} {scope : Scope} (g : GoodS M N X W k sc) (hm : mE M N sc (fun _ => true) e (.ListComp elt gs scope p2) = true) (hlk : notLk e = true) (hn : N[i]? = some y) (hna : M.na.contains i = false)
    (hsw : swapsWith (.ListComp elt gs scope p2) (some (.Name y py)) pos.line X.env = pure true) (hy : sc.names.lookup y = some .local) : GS M X W k (.asg (.nm i) e) (.Assign [.Name y py] (.ListComp elt gs scope p2) pos) := by
  have gg := g.g
  cases e with
  | lc el tg it ifs own =>
    simp only [mE] at hm
    split at hm
    · rename_i t i2 cs a
      simp only [Bool.and_eq_true, decide_eq_true_eq] at hm
      obtain ⟨⟨⟨⟨⟨⟨⟨⟨rfl, h1⟩, h0⟩, h2⟩, h3⟩, h4⟩, h5⟩, h6⟩, h7⟩ := hm
      have hoff : ∀ j ∈ own, Off j := fun j hj => gg.off (by
        have q := List.all_eq_true.mp h0 j hj
        simpa using q)
      have ok : BlkOk X.N X.env.scope scope (own.map fun j => (N.getD j (default : Str), j)) := by
        rw [gg.eN, gg.esc]
        exact blkOk_by h2
      have sub : ∀ j ∈ Tg.names tg, j ∈ own := by
        intro j hj
        have q := List.all_eq_true.mp h3 j hj
        simpa using q
      refine PS.sub (ps_setLc (i := i) (g := tG M X (Tg.names tg) (asgT (M.C k) M.G tg)) (tt := tIfs M X k ifs) (te := tE M X Wf (evE (M.C k) M.G el)) gg.calm (by rw [gg.eN]; exact gg.nd) (by rw [gg.eN]; exact hn) (by rw [gg.esc]; exact hy) hsw (sndIt it h4 gg) ok
        (fun s H C cl fp => sndTg tg h5 (gg.blk h1.2 ok.kind s H C cl fp)) (fun s H C cl fp => GEs.pts (W := Wf) (sndEs ifs h6 (gg.blk h1.2 ok.kind s H C cl fp)) h1.1)
        (fun s H C cl fp => (sndE el h7 (gg.blk h1.2 ok.kind s H C cl fp)).1) (fun v => folded_ok h4 X.env v)) fun D σ H h => ?_
      rw [own_snd]
      refine s_lc (x := elt) (t := t) (i := i2) (cs := cs) (scope := scope) gg sub hoff ?_
      have q := asg_wish h
      obtain ⟨ra, ρ, s, e1, r, p⟩ := q
      refine ⟨ra, ρ, s, e1, r, p.imp fun x H1 ⟨rc, ρ1, s1, d, e2, R2, rv, q⟩ => ?_⟩
      simp only [asgT, R.quiet] at q
      exact q _ rc H1 (Keeps.refl H1) (List.prefix_refl _) R2 ⟨e2.set i (gg.off hna) rv, SameOut.set i _⟩
    · cases hm
  | lock _ _ => cases hlk
  | _ => simp [mE, mFn] at hm
theorem sw_lc {elt : Expr} {gs : List Comprehension} {scope : Scope} {pos py : Pos} {y : Str} {l : Nat} {env : PySem.Env} : swapsWith (.ListComp elt gs scope pos) (some (.Name y py)) l env =
    pure (env.blockKind == .function && env.kindOf y == some .local && py.line == pos.line && !(scope.names.any fun (n, k) => n == y && (k == .local || k == .cell))) := rfl
theorem sw_tup {v : Expr} {ts : List Expr} {k : Nat} {p : Pos} {l : Nat} {env : PySem.Env} : swapsWith v (some (.Tuple ts k p)) l env = pure false := by
  cases v <;> rfl
theorem sw_sub {v x y : Expr} {p : Pos} {l : Nat} {env : PySem.Env} : swapsWith v (some (.Subscript x y p)) l env = pure false := by
  cases v <;> rfl
theorem sw_fld {v x : Expr} {y : Str} {p : Pos} {l : Nat} {env : PySem.Env} : swapsWith v (some (.Attribute x y p)) l env = pure false := by
  cases v <;> rfl
theorem st_not_tup {t : Expr} {v : Expr} {env : PySem.Env} (h : ∀ ts k p ws k2 p2, t = .Tuple ts k p → v = .Tuple ws k2 p2 → False) (h2 : ∀ ts p, t ≠ .List ts p) : swappedStores [t] v env = pure none := by
  cases t with
  | Tuple ts k p =>
    cases v with
    | Tuple ws k2 p2 => exact (h _ _ _ _ _ _ rfl rfl).elim
    | _ => rfl
  | List ts p => exact (h2 _ _ rfl).elim
  | _ => rfl
theorem s_asgAny {t : Tg} {e : E} {tg v : Expr} {pos : Pos} (g : GoodS M N X W k sc) (h1 : mTg M N sc (fun _ => true) t tg = true) (hlk : notLk e = true) (h2 : mE M N sc (fun _ => true) e v = true) (h3 : asgOk sc tg v = true) : GS M X W k (.asg t e) (.Assign [tg] v pos) := by
  have gt := sndTg t h1 g.g
  have gv := sndE e h2 g.g
  have ns := mTg_star h1
  have nl : ∀ ts p, tg ≠ .List ts p := fun ts p z => by
    subst z
    cases t <;> simp [mTg] at h1
  have hw : swappedStores [tg] v X.env = pure none := by
    by_cases q : ∃ ts k p ws k2 p2, tg = .Tuple ts k p ∧ v = .Tuple ws k2 p2
    · obtain ⟨ts, k1, p, ws, k2, p2, rfl, rfl⟩ := q
      exact swap_of g.g.esc g.bk (of_decide_eq_true h3)
    · exact st_not_tup (fun ts k1 p ws k2 p2 e1 e2 => q ⟨ts, k1, p, ws, k2, p2, e1, e2⟩) nl
  cases t with
  | nm i =>
    cases tg with
    | Name y py =>
      simp only [mTg, Bool.and_eq_true, decide_eq_true_eq] at h1
      by_cases hc : notComp v = true
      · exact s_asg g gv gt ns (sw_none hc _ _ _) hw
      · cases v with
        | ListComp elt gs scope p2 =>
          have sw := sw_lc (elt := elt) (gs := gs) (scope := scope) (pos := p2) (py := py) (y := y) (l := pos.line) (env := X.env)
          cases hb : (X.env.blockKind == .function && X.env.kindOf y == some .local && py.line == p2.line && !(scope.names.any fun (n, k) => n == y && (k == .local || k == .cell))) with
          | false =>
            rw [hb] at sw
            exact s_asg g gv gt ns sw hw
          | true =>
            rw [hb] at sw
            simp only [Bool.and_eq_true, beq_iff_eq] at hb
            have hy : sc.names.lookup y = some .local := by
              have z := hb.1.1.2
              unfold PySem.Env.kindOf at z
              rw [g.g.esc] at z
              exact z
            exact s_asgLc g h2 hlk h1.1.1 (by simpa using h1.2) sw hy
        | SetComp _ _ _ _ => cases e <;> simp [mE, mFn] at h2
        | DictComp _ _ _ _ _ => cases e <;> simp [mE, mFn] at h2
        | _ => exact absurd rfl hc
    | _ => simp [mTg] at h1
  | tup ts =>
    cases tg with
    | Tuple xs k1 p => exact s_asg g gv gt ns sw_tup hw
    | _ => simp [mTg] at h1
  | sub o i =>
    cases tg with
    | Subscript x y p => exact s_asg g gv gt ns sw_sub hw
    | _ => simp [mTg] at h1
  | fld cs o f =>
    cases tg with
    | Attribute x y p => exact s_asg g gv gt ns sw_fld hw
    | _ => simp [mTg] at h1
theorem ps_par3 {i j l : Nat} {x y z : Str} {a b c : Expr} {ta : TA} {px py pz pt : Pos} {kt k2 : Nat} {pt2 pos : Pos} (hc : X.calm = true) (hN : X.N.Nodup) (hi : X.N[i]? = some x) (hj : X.N[j]? = some y) (hl : X.N[l]? = some z)
    (hx : X.env.scope.names.lookup x = some .local) (hy : X.env.scope.names.lookup y = some .local) (hz : X.env.scope.names.lookup z = some .local) (ha : PA X [a, b, c] ta)
    (hw : swappedStores [.Tuple [.Name x px, .Name y py, .Name z pz] kt pt] (.Tuple [a, b, c] k2 pt2) X.env = pure (some [x, y, z]))
    (hs : swapsWithSole [.Tuple [.Name x px, .Name y py, .Name z pz] kt pt] (.Tuple [a, b, c] k2 pt2) pos.line X.env = pure false := by rfl) :
    PS X (.Assign [.Tuple [.Name x px, .Name y py, .Name z pz] kt pt] (.Tuple [a, b, c] k2 pt2) pos) (fun D σ H => ta σ H fun vs H1 => ∃ v w u, vs = [v, w, u] ∧ D.nx (((σ.set l (some u)).set j (some w)).set i (some v)) H1) := by
  refine ⟨fun pins s σ H D I h => ?_⟩
  rw [exec_Assign_arm]
  refine wpAny_bind (wpAny_standAt ?_)
  rw [hs]
  refine wpAny_bind (wpAny_pure ?_)
  rw [if_neg (by decide)]
  refine wpAny_bind (Tuple_ (thn (ha.run _ pins s σ H _ I h) fun us s1 ⟨vs, H1, I1, r1, q1⟩ => ?_))
  obtain ⟨v, w, u, e1, q1⟩ := q1
  subst e1
  obtain ⟨u1, u2, u3, rfl, rv, rw', ru⟩ : ∃ u1 u2 u3, us = [u1, u2, u3] ∧ RelV v u1 ∧ RelV w u2 ∧ RelV u u3 := by
    cases r1 with
    | cons p q =>
      cases q with
      | cons p' q' =>
        cases q' with
        | cons p'' q'' =>
          cases q''
          exact ⟨_, _, _, rfl, p, p', p''⟩
  refine wpAny_newObj_type ?_ (by show 3 ≤ sizeLine; decide)
  have I2 : Inv X pins σ H1 { s1 with heap := s1.heap.push { cls := .type "tuple", data := .seq [u1, u2, u3].toArray } } := I1.kept (t' := s1.toks) fun b o e => Heap.get?_push_of_some _ e
  rw [hw]
  refine wpAny_bind (wpAny_pure ?_)
  show wpAny (model X.prog X.w) X.A (do rule "assign.swapped-stores"; let items ← unpackItems (.ref s1.heap.objs.size) 3 none; assignInOrder [fun v => bindName X.env z v, fun v => bindName X.env y v, fun v => bindName X.env x v] items.reverse; pure Flow.next) _ _ _
  refine wpAny_bind (wpAny_rule (wpAny_bind (unpackItems_tuple (items := #[u1, u2, u3]) (I.ok.hd hc) (IsTup.new s1.heap _) fun h' hx' => ?_)))
  have I3 := I2.kept (h' := h') (t' := s1.toks) fun b o e => hx' b o (Nat.ne_of_lt (Heap.lt_size e)) e
  show wpAny _ _ (assignInOrder [fun v => bindName X.env z v, fun v => bindName X.env y v, fun v => bindName X.env x v] [u3, u2, u1] >>= fun _ => pure Flow.next) _ _ _
  refine wpAny_bind (assignInOrder_cons (wpAny_bindName (store_ok I3 hN hl (.inl hz) ru (fun s2 I4 => ?_) (.inr hz))))
  refine assignInOrder_cons (wpAny_bindName (store_ok I4 hN hj (.inl hy) rw' (fun s3 I5 => ?_) (.inr hy)))
  refine assignInOrder_cons (wpAny_bindName (store_ok I5 hN hi (.inl hx) rv (fun s4 I6 => assignInOrder_nil (wpAny_pure ?_)) (.inr hx)))
  exact ⟨_, H1, I6, q1⟩
theorem isLoc_ok {i : Nat} {x : Str} (g : GoodS M N X W k sc) (h : isLoc M N sc i x = true) : X.N[i]? = some x ∧ X.env.scope.names.lookup x = some .local ∧ Off i := by
  unfold isLoc at h
  simp only [Bool.and_eq_true, decide_eq_true_eq] at h
  rw [g.g.eN, g.g.esc]
  exact ⟨h.1.1, h.1.2, g.g.off (by simpa using h.2)⟩
theorem par_wish {is : List Nat} {es : List E} {D : L2.Ends} {σ : L2.St} {H : Hp} (h : tS M X W (exS (M.C k) M.G M.F (.par is es)) D σ H) :
    tA M X W (evEs (M.C k) M.G es) σ H fun vs H1 => ∃ ra ρ s l, ERel X.K H1 ra ρ σ ∧ SRel X.K H1 ra s ∧ RepL X.K H1 ra l vs ∧ l.length = is.length ∧
      ∀ σ', ERel X.K H1 ra (parSet is l ρ) σ' → D.nx σ' H1 := by
  obtain ⟨ra, ρ, s, e1, r, p⟩ := h
  simp only [exS] at p
  refine ⟨ra, ρ, s, e1, r, (PostS.bind (repA := RepL X.K) e1 p).imp fun vs H1 ⟨l, s1, r1, k1, p1, R1, e2, rv, q⟩ => ?_⟩
  split at q
  · rename_i hl
    have tt : RepV X.K (upd H1 0 (.lst [])) r1 .non .non := rfl
    obtain ⟨rc, pc, Rc, rvc⟩ : ∃ rc, ra <+: rc ∧ SRel X.K H1 rc (trunc s (.tup l) s1) ∧ RepL X.K H1 rc l vs := by
      unfold WL.trunc
      split
      · rename_i ht
        have e : WL.D.und s.length (.tup l) = true := (Bool.and_eq_true_iff.mp ht).1
        have e' : WL.D.unds s.length l = true := by simpa [WL.D.und] using e
        obtain ⟨rc, pc, Rc, _⟩ := SRel.trunc (d := .non) (v := .non) r R1 p1 (rfl : RepV X.K H1 r1 .non .non)
        have ep : ra = r1.take s.length := by
          obtain ⟨t, rfl⟩ := p1
          rw [← r.len]
          simp
        have rl : RepL X.K H1 ra l vs := by
          rw [ep]
          exact RepL.back s.length l vs e' rv
        refine ⟨rc, pc, ?_, RepL.keep (Keeps.refl H1) pc l vs rl⟩
        have hz : trunc s .non s1 = s1.take s.length := by
          unfold WL.trunc
          have hz' : (WL.D.und s.length WL.D.non && agree s.length s s1) = true := by
            rw [Bool.and_eq_true]
            exact ⟨rfl, (Bool.and_eq_true_iff.mp ht).2⟩
          rw [if_pos hz']
        rw [hz] at Rc
        exact Rc
      · exact ⟨r1, p1, R1, rv⟩
    refine ⟨rc, ρ, _, l, e1.keep k1 pc, Rc, rvc, hl, fun σ' es' => ?_⟩
    exact q σ' rc H1 k1 pc Rc es'
  · exact q.elim
theorem sole_tup {v : Expr} {ts : List Expr} {k : Nat} {p : Pos} {l : Nat} {env : PySem.Env} : swapsWithSole [.Tuple ts k p] v l env = pure false := by
  cases v <;> rfl
theorem s_par {is : List Nat} {es : List E} {ts vs : List Expr} {kt k2 : Nat} {pt pt2 pos : Pos} (g : GoodS M N X W k sc) (h : mPar M N sc is ts es vs = true) : GS M X W k (.par is es) (.Assign [.Tuple ts kt pt] (.Tuple vs k2 pt2) pos) := by
  unfold mPar at h
  split at h
  · rename_i i j x px y py e1 e2 a b
    simp only [Bool.and_eq_true, decide_eq_true_eq] at h
    obtain ⟨⟨⟨⟨⟨h1, h2⟩, h3⟩, h4⟩, h5⟩, h6⟩ := h
    obtain ⟨i1, l1, f1⟩ := isLoc_ok g h1
    obtain ⟨i2, l2, f2⟩ := isLoc_ok g h2
    have ga : GA M X W k [e1, e2] [a, b] := s_cons (mE_star h5) (sndE e1 h5 g.g) (s_cons (mE_star h6) (sndE e2 h6 g.g) s_nil)
    refine PS.sub (ps_par g.g.calm (by rw [g.g.eN]; exact g.g.nd) i1 i2 h3 l1 l2 ga (swap_of g.g.esc g.bk h4) sole_tup) fun D σ H h => ?_
    refine (par_wish h).imp fun ra z => ?_
    obtain ⟨ρ, s, q1, q2, p⟩ := z
    refine ⟨ρ, s, q1, q2, p.imp fun vs H1 ⟨rc, ρ1, s1, l, e1, R1, rv, hl, q⟩ => ?_⟩
    match l, hl with
    | [d1, d2], _ =>
      obtain ⟨v, u, rfl, rv1, rv2⟩ := two_of rv
      refine ⟨v, u, rfl, q _ ?_⟩
      rw [List.set_comm _ _ h3]
      exact (e1.set j f2 rv2).set i f1 rv1
  · rename_i i j l x px y py z pz e1 e2 e3 a b c
    simp only [Bool.and_eq_true, decide_eq_true_eq] at h
    obtain ⟨⟨⟨⟨⟨⟨h1, h2⟩, h3⟩, h4⟩, h5⟩, h6⟩, h7⟩ := h
    obtain ⟨i1, l1, f1⟩ := isLoc_ok g h1
    obtain ⟨i2, l2, f2⟩ := isLoc_ok g h2
    obtain ⟨i3, l3, f3⟩ := isLoc_ok g h3
    have ga : GA M X W k [e1, e2, e3] [a, b, c] := s_cons (mE_star h5) (sndE e1 h5 g.g) (s_cons (mE_star h6) (sndE e2 h6 g.g) (s_cons (mE_star h7) (sndE e3 h7 g.g) s_nil))
    refine PS.sub (ps_par3 g.g.calm (by rw [g.g.eN]; exact g.g.nd) i1 i2 i3 l1 l2 l3 ga (swap_of g.g.esc g.bk h4) sole_tup) fun D σ H h => ?_
    refine (par_wish h).imp fun ra z => ?_
    obtain ⟨ρ, s, q1, q2, p⟩ := z
    refine ⟨ρ, s, q1, q2, p.imp fun vs H1 ⟨rc, ρ1, s1, l', e1, R1, rv, hl, q⟩ => ?_⟩
    match l', hl with
    | [d1, d2, d3], _ =>
      obtain ⟨v, r, rfl, rv1, rv'⟩ := rv
      obtain ⟨u, w, rfl, rv2, rv3⟩ := two_of rv'
      exact ⟨v, u, w, rfl, q _ (((e1.set l f3 rv3).set j f2 rv2).set i f1 rv1)⟩
  · cases h
theorem ip_of {op : Operator} (h : op = .Add ∨ op = .Sub) : PIp X op (ipI (aop op)) := by
  rcases h with rfl | rfl
  · exact ip_add
  · exact ip_sub
theorem s_aug {i : Nat} {op : Operator} {e : E} {y : Str} {v : Expr} {p pos : Pos} (g : GoodS M N X W k sc) (ho : op = .Add ∨ op = .Sub) (hn : N[i]? = some y) (hl : locB sc (fun _ => true) y = true) (hna : M.na.contains i = false) (hv : GE M X W k e v) :
    GS M X W k (.aug i op e) (.AugAssign (.Name y p) op v pos) := by
  obtain ⟨l1, l2⟩ := loc_ok hl g.g
  refine PS.sub (ps_aug (by rw [g.g.eN]; exact g.g.nd) (by rw [g.g.eN]; exact hn) l1 hv.1 (ip_of ho) l2) fun D σ H ⟨ra, ρ, s, e1, r, p⟩ => ?_
  simp only [exS] at p
  split at p
  · rename_i x hx
    obtain ⟨v0, ev, rv0⟩ := e1.get i _ hx
    refine ⟨v0, ev, ra, ρ, s, e1, r, (PostS.bind (repA := RepV X.K) e1 p).imp fun v H1 ⟨d, s1, r1, k1, p1, R1, e2, rv, q⟩ => ?_⟩
    cases d with
    | int y =>
      obtain ⟨rc, pc, Rc, _⟩ := let_go r k1 p1 R1 (d := .non) (v := .non) rfl
      exact ⟨x, y, rv0, rv, q _ rc H1 k1 pc Rc ((e1.keep k1 pc).set i (g.g.off hna) rfl)⟩
    | _ => exact q.elim
  · exact p.elim
theorem get_any : PGet X (rIxL X.K) := by
  intro pins s σ H x y v u Q I rx ry h
  obtain ⟨p, xs, i, z, rfl, rfl, hq, he, q⟩ := h
  cases rx
  obtain ⟨t, rfl⟩ := ry
  obtain ⟨its, r, pl, hz⟩ := I.list hq
  obtain ⟨j, h1, h2, h3, h4, h5⟩ := atI_get he
  obtain ⟨w, ew, rw'⟩ := r.get h2
  have hl := r.length
  have hn := line63
  have fin : EP X pins σ Q w s := ⟨z, H, I, rw', q⟩
  by_cases h0 : 0 ≤ i
  · have hj : i.toNat = j := by
      rw [seqIndex_of h0 h5] at h1
      exact Option.some.inj h1
    exact wpAny_getItem_list pl.isList h0 (by omega) (by rw [hj]; simpa using ew) fin
  · have hj : (i + (its.toArray.size : Int)).toNat = j := by
      rw [seqIndex_neg (by omega) h4] at h1
      rw [List.size_toArray, ← hl]
      exact Option.some.inj h1
    exact wpAny_getItem_list_neg pl.isList (by omega) (by rw [List.size_toArray] <;> omega) (by omega) (by rw [hj]; simpa using ew) fin
theorem augStore_ok {y : Expr} (h : notSlice y = true) (ov iv new : Value) : augStore y ov iv new = (do holding [new, ov, iv] (setItem ov iv new); release [new, ov, iv] []; pure .next) := by
  cases y <;> first | rfl | cases h
theorem s_augS {fn : Str → Bool} (g : Good M N X W k sc fn) {o i e : E} {op : Operator} {x y v : Expr} {p pos : Pos} (ho : op = .Add ∨ op = .Sub) (hn : notSlice y = true) (h1 : GE M X W k o x) (h2 : GE M X W k i y) (h3 : GE M X W k e v) :
    GS M X W k (.augS o i op e) (.AugAssign (.Subscript x y p) op v pos) := by
  refine PS.sub (ps_augS h1.1 h2.1 get_any h3.1 (ip_of ho) (PSet.or set_list (set_dict (show X.A.units + 1 < cLine by have := g.hr.un; omega))) (augStore_ok hn)) fun D σ H ⟨ra, ρ, s, e1, r, p⟩ => ?_
  simp only [exS] at p
  refine ⟨ra, ρ, s, e1, r, (PostS.bind (repA := RepV X.K) e1 p).imp fun ov H1 ⟨a, s1, r1, k1, p1, R1, e2, rv, q⟩ => ?_⟩
  have q := q.mono k1 p1
  refine ⟨r1, ρ, s1, e2, R1, (PostS.bind (repA := RepV X.K) e2 q).imp fun iv H2 ⟨b, s2, r2, k2, p2, R2, e3, rb, q2⟩ => ?_⟩
  have q2 := q2.mono k2 p2
  have rv2 := RepV.keep k2 p2 a ov rv
  split at q2
  · rename_i x0 hx
    cases a with
    | ref n =>
      cases b with
      | int j =>
        have hx' : ∃ l, isLst s2 n = some l ∧ atD l j = some (.int x0) := by
          split at hx
          · rename_i hL
            simp only [isL, Option.isSome_iff_exists] at hL
            obtain ⟨l, hl⟩ := hL
            simp only [ixD, items, hl] at hx
            exact ⟨l, hl, hx⟩
          · cases hx
        obtain ⟨l, hl, ej⟩ := hx'
        obtain ⟨a0, vs, rfl, ea, hv, rl⟩ := ref_lst R2 rv2 hl
        obtain ⟨v0, ev0, rv0⟩ := atD_rep rl ej
        refine ⟨a0, vs, j, v0, rfl, rb, SqL.of hv, ev0, ?_⟩
        refine ⟨r2, ρ, s2, e3, R2, (PostS.bind (repA := RepV X.K) e3 q2).imp fun yv H3 ⟨c, s3, r3, k3, p3, R3, e4, rc, q3⟩ => ?_⟩
        have q3 := q3.mono k3 p3
        cases c with
        | int z =>
          refine ⟨x0, z, rv0, rc, ?_⟩
          have rv3 := RepV.keep k3 p3 _ _ rv2
          simp only [setD] at q3
          cases hl3 : isLst s3 n with
          | none =>
            rw [hl3] at q3
            simp only [setK] at q3
            cases hd3 : isDct s3 n with
            | none => rw [hd3] at q3; exact q3.elim
            | some l3 =>
              rw [hd3] at q3
              simp only [keyD] at q3
              split at q3
              · rename_i hz
                obtain ⟨b3, kvs, eb3, ea3, hv3, rm⟩ := ref_dct R3 rv3 hd3
                obtain ⟨R4, k4⟩ := R3.setD hd3 ea3 (rm.put (.inl j) (d := .int (aop op x0 z)) (v := .int (aop op x0 z)) rfl)
                refine .inr ⟨b3, _, eb3, by rw [show iv = .int j from rb]; exact DPut.k (k := .inl j) hv3 (by rw [rm.length]; exact hz), ?_⟩
                exact q3 σ r3 _ k4 (List.prefix_refl _) R4 (e4.keep k4 (List.prefix_refl _))
              · exact q3.elim
          | some l3 =>
            rw [hl3] at q3
            simp only at q3
            cases hm : ixOf l3.length j with
            | none => rw [hm] at q3; exact q3.elim
            | some m =>
              rw [hm] at q3
              obtain ⟨b3, vs3, eb3, ea3, hv3, rl3⟩ := ref_lst R3 rv3 hl3
              obtain ⟨R4, k4⟩ := R3.setL hl3 ea3 (RepL.set l3 vs3 m (.int (aop op x0 z)) (.int (aop op x0 z)) rl3 rfl)
              refine .inl ⟨b3, vs3, j, m, eb3, rb, hv3, by rw [RepL.length l3 vs3 rl3]; exact hm, ?_⟩
              exact q3 σ r3 _ k4 (List.prefix_refl _) R4 (e4.keep k4 (List.prefix_refl _))
        | _ => exact q3.elim
      | _ =>
        split at hx
        · rename_i hL
          exfalso
          simp only [isL, Option.isSome_iff_exists] at hL
          obtain ⟨l, hl⟩ := hL
          have hn : rdD s2 n = none := by
            have := isLst_get hl
            unfold rdD
            rw [this]
          simp [ixD, lookD, hn] at hx
        · cases hx
    | _ => simp [isL] at hx
  · exact q2.elim
theorem s_expr {e : E} {v : Expr} {pos : Pos} (hn : notComp v = true) (h : GE M X W k e v) : GS M X W k (.expr e) (.Expr v pos) := by
  refine PS.sub (ps_expr h.1 (sw_none hn _ _ _)) fun D σ H ⟨ra, ρ, s, e1, r, p⟩ => ?_
  simp only [exS] at p
  refine ⟨ra, ρ, s, e1, r, (PostS.bind (repA := RepV X.K) e1 p).imp fun v H1 ⟨d, s1, r1, k1, p1, R1, e2, rv, q⟩ => ?_⟩
  obtain ⟨rc, pc, Rc, _⟩ := let_go r k1 p1 R1 (d := .non) (v := .non) rfl
  exact q σ rc H1 k1 pc Rc (e1.keep k1 pc)
theorem s_ret {e : E} {v : Expr} {pos : Pos} (h : GE M X W k e v) : GS M X W k (.ret e) (.Return (some v) pos) := by
  refine PS.sub (ps_ret h.1) fun D σ H ⟨ra, ρ, s, e1, r, p⟩ => ?_
  simp only [exS] at p
  refine ⟨ra, ρ, s, e1, r, (PostS.bind (repA := RepV X.K) e1 p).imp fun v H1 ⟨d, s1, r1, k1, p1, R1, e2, rv, q⟩ => ?_⟩
  obtain ⟨rc, pc, Rc, rvc⟩ := let_go r k1 p1 R1 rv
  exact q v rc H1 k1 pc Rc rvc
theorem s_retN {pos : Pos} : GS M X W k .retN (.Return none pos) := PS.sub ps_retN fun D σ H ⟨ra, ρ, s, e1, r, p⟩ => by
  simp only [exS] at p
  exact p .non ra H (Keeps.refl H) (List.prefix_refl _) r rfl
theorem s_brk {pos : Pos} : GS M X W k .brk (.Break pos) := PS.sub ps_break fun D σ H ⟨ra, ρ, s, e1, r, p⟩ => by
  simp only [exS] at p
  exact p σ ra H (Keeps.refl H) (List.prefix_refl _) r e1
theorem s_cnt {pos : Pos} : GS M X W k .cnt (.Continue pos) := PS.sub ps_continue fun D σ H ⟨ra, ρ, s, e1, r, p⟩ => by
  simp only [exS] at p
  exact p σ ra H (Keeps.refl H) (List.prefix_refl _) r e1
theorem s_pass {pos : Pos} : GS M X W k .pass (.Pass pos) := PS.sub ps_pass fun D σ H ⟨ra, ρ, s, e1, r, p⟩ => by
  simp only [exS] at p
  exact p σ ra H (Keeps.refl H) (List.prefix_refl _) r e1
theorem s_nev {st : Stmt} : GS M X W k .nev st := PS.sub ps_never fun D σ H ⟨ra, ρ, s, e1, r, p⟩ => by
  simp only [exS] at p
  exact p.elim
theorem tst_wish {c : E} {D : L2.Ends} {σ : L2.St} {H : Hp} {ra : List Addr} {ρ : Env} {s : Store} {f : Bool → Store → RS} {Q : Bool → Hp → Prop} (e : ERel X.K H ra ρ σ) (r : SRel X.K H ra s) (p : PostS M X W D H ra ((tst (M.C k) M.G c ρ s).stm ρ f))
    (h : ∀ b H1 r1 s1, Keeps H H1 → ra <+: r1 → ERel X.K H1 r1 ρ σ → SRel X.K H1 r1 s1 → PostS M X W D H1 r1 (f b s1) → Q b H1) : tT M X W (evT (M.C k) M.G c) σ H Q := by
  rw [tst_eq, stm_bind] at p
  refine ⟨ra, ρ, s, e, r, (PostS.bind (repA := repB) e p).imp fun b H1 ⟨b', s1, r1, k1, p1, R1, e2, rb, q⟩ => ?_⟩
  have : b = b' := rb
  subst this
  obtain ⟨rc, pc, Rc, _⟩ := let_go r k1 p1 R1 (d := .non) (v := .non) rfl
  exact h b H1 rc _ k1 pc (e.keep k1 pc) Rc (q.mono k1 pc)
theorem s_iff {c : E} {a b : List S} {x : Expr} {p q : List Stmt} {pos : Pos} (hc : GE M X W k c x) (ha : GB M X W k a p) (hb : GB M X W k b q) : GS M X W k (.iff c a b) (.If x p q pos) := by
  refine PS.sub (ps_if hc.2 ha hb) fun D σ H ⟨ra, ρ, s, e1, r, p⟩ => ?_
  simp only [exS] at p
  refine tst_wish e1 r p fun t H1 r1 s1 k1 p1 e2 R1 q => ?_
  cases t with
  | true => exact ⟨r1, ρ, s1, e2, R1, q⟩
  | false => exact ⟨r1, ρ, s1, e2, R1, q⟩
theorem s_whl {c : E} {b : List S} {x : Expr} {p : List Stmt} {pos : Pos} (g : GoodS M N X W k sc) (hc : GE M X W k c x) (hb : GB M X W k b p) : GS M X W k (.whl c b) (.While x p [] pos) := by
  refine PS.sub (ps_while g.po hc.2 hb) fun D σ H ⟨ra, ρ, s, e1, r, p⟩ => ?_
  simp only [exS] at p
  refine ⟨fun m σ H => ∃ ra ρ s, ERel X.K H ra ρ σ ∧ SRel X.K H ra s ∧ PostS M X W D H ra (whlGo (tst (M.C k) M.G c) (exB (M.C k) M.G M.F b) m ρ s), ⟨M.F, ra, ρ, s, e1, r, p⟩, ?_⟩
  rintro m σ H ⟨ra, ρ, s, e1, r, p⟩
  cases m with
  | zero => exact (show False from p).elim
  | succ n =>
    simp only [whlGo] at p
    refine tst_wish e1 r p fun t H1 r1 s1 k1 p1 e2 R1 q => ?_
    cases t with
    | false =>
      rw [if_neg Bool.false_ne_true]
      exact q σ r1 H1 (Keeps.refl H1) (List.prefix_refl _) R1 e2
    | true =>
      rw [if_pos rfl]
      refine ⟨fun σ' H' => ∃ ra ρ s, ERel X.K H' ra ρ σ' ∧ SRel X.K H' ra s ∧ PostS M X W D H' ra (whlGo (tst (M.C k) M.G c) (exB (M.C k) M.G M.F b) n ρ s), fun σ' H' h => ⟨n, Nat.lt_succ_self n, h⟩, r1, ρ, s1, e2, R1, ?_⟩
      simp only at q
      cases hx : exB (M.C k) M.G M.F b ρ s1 with
      | nx ρ2 s2 => rw [hx] at q; exact fun σ' rb H2 k2 p2 R2 e3 => ⟨rb, ρ2, s2, e3, R2, q.mono k2 p2⟩
      | cnt ρ2 s2 => rw [hx] at q; exact fun σ' rb H2 k2 p2 R2 e3 => ⟨rb, ρ2, s2, e3, R2, q.mono k2 p2⟩
      | brk ρ2 s2 => rw [hx] at q; exact q
      | ret d s2 => rw [hx] at q; exact q
      | exc c w ρ2 s2 => rw [hx] at q; exact q
      | bad => rw [hx] at q; exact q
theorem s_for {t : Tg} {it : It} {b : List S} {tg x : Expr} {p : List Stmt} {pos : Pos} (g : GoodS M N X W k sc) (hm : mIt M N sc (fun _ => true) it tg x = true) (ht : GG M X k t tg) (hi : GI M X W k it tg x) (hb : GB M X W k b p) :
    GS M X W k (.for t it b) (.For tg x p [] pos) := by
  refine PS.sub (ps_for g.po g.g.calm hi ht hb (fun v => folded_ok hm X.env v)) fun D σ H ⟨ra, ρ, s, e1, r, p⟩ => ?_
  simp only [exS] at p
  refine ⟨ra, ρ, s, e1, r, (PostS.bind (repA := Walks X.K) e1 p).imp fun J H1 ⟨w, s1, r1, k1, p1, R1, e2, hw, q⟩ => ?_⟩
  have q := q.mono k1 p1
  obtain ⟨F, hF⟩ : ∃ F, F = fun (x : WL.D) (ρ : Env) (s : Store) => (asgT (M.C k) M.G t x ρ s).stm ρ fun ρ s => exB (M.C k) M.G M.F b ρ s := ⟨_, rfl⟩
  rw [← hF] at q
  refine ⟨fun i m σ Hc => m = w.its.length - i ∧ i ≤ w.its.length ∧ ∃ rc ρ sc_, Keeps H1 Hc ∧ r1 <+: rc ∧ ERel X.K Hc rc ρ σ ∧ SRel X.K Hc rc sc_ ∧ PostS M X W D Hc rc (forGo w F (w.its.drop i) ρ sc_),
    ⟨_, rfl, Nat.zero_le _, r1, ρ, s1, Keeps.refl H1, List.prefix_refl _, e2, R1, q⟩, ?_⟩
  rintro i m σ Hc ⟨rfl, hi, rc, ρ, sc_, kc, pc, ec, Rc, q⟩
  have W1 := hw i Hc rc sc_ kc pc Rc
  by_cases hlt : i < w.its.length
  · have hd : w.its[i]? = some w.its[i] := List.getElem?_eq_getElem hlt
    rw [List.drop_eq_getElem_cons hlt] at q
    unfold forGo at q
    split at q
    · rename_i st
      obtain ⟨go, yld⟩ := (W1 st).1 _ hd
      refine .inr ⟨go, fun σ' H' => w.its.length - (i + 1) = w.its.length - (i + 1) ∧ i + 1 ≤ w.its.length ∧ ∃ rc ρ sc_, Keeps H1 H' ∧ r1 <+: rc ∧ ERel X.K H' rc ρ σ' ∧ SRel X.K H' rc sc_ ∧ PostS M X W D H' rc (forGo w F (w.its.drop (i + 1)) ρ sc_),
        fun σ' H' hN => ⟨_, by omega, hN⟩, fun x H2 hy => ?_⟩
      obtain ⟨k2, R2, rx⟩ := yld x H2 hy
      have e3 := ec.keep k2 (List.prefix_refl rc)
      have q2 := q.mono k2 (List.prefix_refl rc)
      refine ⟨rc, ρ, sc_, w.its[i], e3, R2, rx, ?_⟩
      rw [asgT_quiet]
      have hq := asgT_quiet (M.C k) M.G t w.its[i] ρ sc_
      have eF : F w.its[i] ρ sc_ = (asgT (M.C k) M.G t w.its[i] ρ sc_).stm ρ fun ρ s => exB (M.C k) M.G M.F b ρ s := by rw [hF]
      rw [eF] at q2
      cases ha : asgT (M.C k) M.G t w.its[i] ρ sc_ with
      | exc c w' s2 => rw [ha] at hq; cases hq
      | bad => rw [ha] at q2; exact q2
      | ok ρ2 s2 =>
        rw [ha] at q2
        rintro σ3 rb H3 k3 p3 R3 ⟨e4, _⟩
        refine ⟨rb, ρ2, s2, e4, R3, ?_⟩
        have q3 := q2.mono k3 p3
        simp only [R.stm] at q3
        cases hx : exB (M.C k) M.G M.F b ρ2 s2 with
        | nx ρ4 s4 => rw [hx] at q3; exact fun σ' rd H4 k4 p4 R4 e5 => ⟨rfl, hlt, rd, ρ4, s4, kc.trans (k2.trans (k3.trans k4)), pc.trans (p3.trans p4), e5, R4, q3.mono k4 p4⟩
        | cnt ρ4 s4 => rw [hx] at q3; exact fun σ' rd H4 k4 p4 R4 e5 => ⟨rfl, hlt, rd, ρ4, s4, kc.trans (k2.trans (k3.trans k4)), pc.trans (p3.trans p4), e5, R4, q3.mono k4 p4⟩
        | brk ρ4 s4 => rw [hx] at q3; exact q3
        | ret d s4 => rw [hx] at q3; exact q3
        | exc c w' ρ4 s4 => rw [hx] at q3; exact q3
        | bad => rw [hx] at q3; exact q3
    · exact q.elim
  · have hi' : i = w.its.length := by omega
    subst hi'
    rw [List.drop_length] at q
    unfold forGo at q
    split at q
    · rename_i st
      exact .inl ⟨(W1 st).2 (rfl), q σ rc Hc (Keeps.refl _) (List.prefix_refl _) Rc ec⟩
    · exact q.elim
theorem s_lockS {i : Nat} {x : S} {st : Stmt} (hΓ : ∀ p ∈ CLO.Γ, False) (h : GS M X W k x st) : GS M X W k (.lock i x) st := by
  refine PS.sub (ps_lock h) fun D σ H ⟨ra, ρ, s, e1, R, p⟩ => ?_
  simp only [exS] at p
  split at p
  · rename_i n hn
    cases hl : isDct s n with
    | none => rw [hl] at p; exact p.elim
    | some l =>
      rw [hl] at p
      simp only at p
      obtain ⟨a, kvs, ea, hv, rm, lk⟩ := R.lock hl
      refine ⟨a, .dK kvs, hv, trivial, fun od => ?_⟩
      obtain ⟨R1, k1⟩ := lk od
      refine ⟨ra, ρ, s.set n (.lck l), e1.keep k1 (List.prefix_refl _), R1, ?_⟩
      cases hx : exS (M.C k) M.G M.F x ρ (s.set n (.lck l)) with
      | nx ρ2 s1 =>
        rw [hx] at p
        simp only at p
        intro σ' rb H2 k2 p2 R2 e2
        obtain ⟨h2, k3⟩ := keeps_unlock hv k2
        refine ⟨h2, ?_⟩
        split at p
        · rename_i hs
          exact p σ' rb _ k3 p2 (R2.unlock hs (pre_get p2 ea) h2) (e2.unlock hΓ h2)
        · exact p.elim
      | brk ρ2 s1 =>
        rw [hx] at p
        simp only at p
        intro σ' rb H2 k2 p2 R2 e2
        obtain ⟨h2, k3⟩ := keeps_unlock hv k2
        refine ⟨h2, ?_⟩
        split at p
        · rename_i hs
          exact p σ' rb _ k3 p2 (R2.unlock hs (pre_get p2 ea) h2) (e2.unlock hΓ h2)
        · exact p.elim
      | cnt ρ2 s1 =>
        rw [hx] at p
        simp only at p
        intro σ' rb H2 k2 p2 R2 e2
        obtain ⟨h2, k3⟩ := keeps_unlock hv k2
        refine ⟨h2, ?_⟩
        split at p
        · rename_i hs
          exact p σ' rb _ k3 p2 (R2.unlock hs (pre_get p2 ea) h2) (e2.unlock hΓ h2)
        · exact p.elim
      | ret d s1 =>
        rw [hx] at p
        simp only at p
        intro v rb H2 k2 p2 R2 rv
        obtain ⟨h2, k3⟩ := keeps_unlock hv k2
        refine ⟨h2, ?_⟩
        split at p
        · rename_i hs
          exact p v rb _ k3 p2 (R2.unlock hs (pre_get p2 ea) h2) (RepV.unlock h2 d v rv)
        · exact p.elim
      | exc c w ρ2 s1 => rw [hx] at p; exact p.elim
      | bad => rw [hx] at p; exact p.elim
  · exact p.elim
end
end WL
set_option maxHeartbeats 4000000
namespace WL
open PySem PySem.Spec PyProof.Rows L2
variable [TBS] [CLO]
section
variable {M : Cfg} {N : List Str} {X : Cx} {W : WX} {k : Nat} {sc : Scope} {a : Addr} {oe : Obj} {pn : List (Addr × Obj)} {Y : Sx}
section
variable (M : Cfg) (X : Cx) (Y : Sx)
def PostH (D : L2.Ends) (H : Hp) (ra : List Addr) (r : RS) : Prop := match r with
  | .nx ρ s => ∀ σ' rb H', Keeps H H' → ra <+: rb → SRel X.K H' rb s → ERelH M X.mg X.K Y H' rb ρ σ' → D.nx σ' H'
  | .ret d s => ∀ v rb H', Keeps H H' → ra <+: rb → SRel X.K H' rb s → RepV X.K H' rb d v → D.rt v H'
  | _ => False
def hS (f : Env → Store → RS) : TS := fun D σ H => ∃ ra ρ s, ERelH M X.mg X.K Y H ra ρ σ ∧ SRel X.K H ra s ∧ PostH M X Y D H ra (f ρ s)
end
variable {D : L2.Ends} {H H' : Hp} {ra rb : List Addr} {ρ : Env} {σ : L2.St} {s : Store} {α β : Type}
theorem PostH.mono {Z : Cx} {r : RS} (h : PostH M Z Y D H ra r) (c : Keeps H H') (p : ra <+: rb) : PostH M Z Y D H' rb r := by
  cases r with
  | nx ρ s => exact fun σ' rc H2 k2 p2 => h σ' rc H2 (c.trans k2) (p.trans p2)
  | ret d s => exact fun v rc H2 k2 p2 => h v rc H2 (c.trans k2) (p.trans p2)
  | _ => exact h
theorem PostH.bind {Z : Cx} {repA : Hp → List Addr → α → β → Prop} {r : R α} {f : α → Store → RS} (e : ERelH M Z.mg Z.K Y H ra ρ σ) (h : PostH M Z Y D H ra (r.stm ρ f)) :
    PostR M Z.mg Z.K Wf σ repA H ra r fun b H1 => ∃ a s1 r1, Keeps H H1 ∧ ra <+: r1 ∧ SRel Z.K H1 r1 s1 ∧ ERelH M Z.mg Z.K Y H1 r1 ρ σ ∧ repA H1 r1 a b ∧ PostH M Z Y D H ra (f a s1) := by
  cases r with
  | ok a s => exact fun b rb H1 k p R rp => ⟨a, s, rb, k, p, R, e.keep k p, rp, h⟩
  | exc c w s => exact (show False from h).elim
  | bad => exact (show False from h).elim
theorem h_ret {Z : Cx} {e : E} {v : Expr} {pos : Pos} (h : GH M Z Y k e v) : PS Z (.Return (some v) pos) (hS M Z Y fun ρ s => (evE (M.C k) M.G e ρ s).stm ρ fun d s1 => .ret d (trunc s d s1)) := by
  refine PS.sub (ps_ret h.1) fun D σ H ⟨ra, ρ, s, e1, r, p⟩ => ?_
  refine ⟨ra, ρ, s, e1, r, (PostH.bind (repA := RepV Z.K) e1 p).imp fun v H1 ⟨d, s1, r1, k1, p1, R1, e2, rv, q⟩ => ?_⟩
  obtain ⟨rc, pc, Rc, rvc⟩ := let_go r k1 p1 R1 rv
  exact q v rc H1 k1 pc Rc rvc
theorem tst_wishH {Z : Cx} {c : E} {f : Bool → Store → RS} {Q : Bool → Hp → Prop} (e : ERelH M Z.mg Z.K Y H ra ρ σ) (r : SRel Z.K H ra s) (p : PostH M Z Y D H ra ((tst (M.C k) M.G c ρ s).stm ρ f))
    (h : ∀ b H1 r1 s1, Keeps H H1 → ra <+: r1 → ERelH M Z.mg Z.K Y H1 r1 ρ σ → SRel Z.K H1 r1 s1 → PostH M Z Y D H1 r1 (f b s1) → Q b H1) : hT M Z Y (evT (M.C k) M.G c) σ H Q := by
  rw [tst_eq, stm_bind] at p
  refine ⟨ra, ρ, s, e, r, (PostH.bind (repA := repB) e p).imp fun b H1 ⟨b', s1, r1, k1, p1, R1, e2, rb, q⟩ => ?_⟩
  have : b = b' := rb
  subst this
  obtain ⟨rc, pc, Rc, _⟩ := let_go r k1 p1 R1 (d := .non) (v := .non) rfl
  exact h b H1 rc _ k1 pc (e.keep k1 pc) Rc (q.mono k1 pc)
theorem ERelH.set {mg : Str → Option Value} {K : PySem.W.Frag} {d : WL.D} {v : V} {j : Nat} (e : ERelH M mg K Y H ra ρ σ) (hj : (Y.i == some j) = false) (ho : Off j) (rv : RepV K H ra d v) : ERelH M mg K Y H ra (ρ.set j (some d)) (σ.set j (some v)) := by
  have hj : Y.i ≠ some j := by simpa using hj
  refine ⟨by simp [e.len], fun i d' hi h => ?_, e.x, fun i d' hi h => ?_, fun q hq => by
    obtain ⟨w, e1, r1⟩ := e.clo q hq
    exact ⟨w, by rw [List.getElem?_set_ne (fun z => ho q hq z.symm)]; exact e1, r1⟩, e.noff⟩
  · by_cases q : j = i
    · subst q
      by_cases hl : j < ρ.length
      · rw [List.getElem?_set_self hl] at h
        cases h
        exact ⟨v, by rw [List.getElem?_set_self (by rw [e.len]; exact hl)], rv⟩
      · rw [List.getElem?_eq_none (by simpa using hl)] at h
        cases h
    · rw [List.getElem?_set_ne q] at h ⊢
      exact e.get i d' hi h
  · have q : j ≠ i := fun z => hj (z ▸ hi)
    rw [List.getElem?_set_ne q] at h ⊢
    exact e.slot i d' hi h
theorem notTup_sw {v : Expr} (h : notTup v = true) (t : Option Expr) (l : Nat) (env : PySem.Env) : swapsWith v t l env = pure false := by
  cases v <;> first | rfl | cases h
theorem h_asg {Z : Cx} {e : E} {v : Expr} {j : Nat} {y : Str} {p pos : Pos} (nd : Z.N.Nodup) (hi : Z.N[j]? = some y) (hl : Z.env.scope.names.lookup y = some .local) (hn : notTup v = true) (hj : (Y.i == some j) = false) (ho : Off j) (h : GH M Z Y k e v) :
    PS Z (.Assign [.Name y p] v pos) (hS M Z Y fun ρ s => (evE (M.C k) M.G e ρ s).stm ρ fun d s1 => .nx (ρ.set j (some d)) (trunc s d s1)) := by
  refine PS.sub (ps_set (i := j) nd hi (.inl hl) h.1 (notTup_sw hn _ _ _) (.inr hl)) fun D σ H ⟨ra, ρ, s, e1, r, p⟩ => ?_
  refine ⟨ra, ρ, s, e1, r, (PostH.bind (repA := RepV Z.K) e1 p).imp fun v H1 ⟨d, s1, r1, k1, p1, R1, e2, rv, q⟩ => ?_⟩
  obtain ⟨rc, pc, Rc, rvc⟩ := let_go r k1 p1 R1 rv
  exact q _ rc H1 k1 pc Rc ((e1.keep k1 pc).set hj ho rvc)
theorem mSu_asg {nm : Option Nat} {j : Nat} {e : E} {hs : List HS} {sts : List Stmt} (h : mSu M N sc nm (.asg j e :: hs) sts = true) :
    ∃ y v p1 p2 ss, sts = .Assign [.Name y p1] v p2 :: ss ∧ (nm == some j) = false ∧ M.na.contains j = false ∧ N[j]? = some y ∧ sc.names.lookup y = some .local ∧ notTup v = true ∧ mH M N sc nm e v = true ∧ mSu M N sc nm hs ss = true := by
  unfold mSu at h
  split at h
  any_goals (first | (cases h; done) | (rename_i q _; cases q; done) | (rename_i q; cases q; done))
  all_goals
    rename_i q
    cases q
    simp only [Bool.and_eq_true, Bool.not_eq_true', decide_eq_true_eq] at h
    exact ⟨_, _, _, _, _, rfl, h.1.1.1.1.1.1, h.1.1.1.1.1.2, h.1.1.1.1.2, h.1.1.1.2, h.1.1.2, h.1.2, h.2⟩
theorem mSu_if {nm : Option Nat} {c e : E} {hs : List HS} {sts : List Stmt} (h : mSu M N sc nm (.ifret c e :: hs) sts = true) :
    ∃ x v p1 p2 ss, sts = .If x [.Return (some v) p1] [] p2 :: ss ∧ mH M N sc nm c x = true ∧ mH M N sc nm e v = true ∧ mSu M N sc nm hs ss = true := by
  unfold mSu at h
  split at h
  any_goals (first | (cases h; done) | (rename_i q _; cases q; done) | (rename_i q; cases q; done))
  all_goals
    rename_i q
    cases q
    simp only [Bool.and_eq_true] at h
    exact ⟨_, _, _, _, _, rfl, h.1.1, h.1.2, h.2⟩
theorem sndSu (u : InSu M N X W k sc a oe Y) (pn : List (Addr × Obj)) : ∀ (hs : List HS) {sts : List Stmt}, mSu M N sc Y.i hs sts = true → PSs (SU X a oe pn) sts (hS M (SU X a oe pn) Y (exSu (M.C k) M.G hs))
  | [], sts, h => by
    cases sts with
    | cons y ys => simp [mSu] at h
    | nil =>
      refine PSs.sub pss_nil fun D σ H ⟨ra, ρ, s, e, r, p⟩ => ?_
      simp only [exSu] at p
      exact p σ ra H (Keeps.refl H) (List.prefix_refl _) r e
  | .nev :: hs, sts, h => PSs.sub pss_never fun D σ H ⟨ra, ρ, s, e, r, p⟩ => by
    simp only [exSu] at p
    exact p
  | .ret e :: hs, sts, h => by
    cases sts with
    | nil => simp [mSu] at h
    | cons y ys =>
      cases y with
      | Return o pos =>
        cases o with
        | none => simp [mSu] at h
        | some v =>
          simp only [mSu] at h
          refine PSs.sub (pss_cons (h_ret (sndH u pn e h)) pss_never) fun D σ H ⟨ra, ρ, s, e1, r, p⟩ => ?_
          simp only [exSu] at p
          refine ⟨ra, ρ, s, e1, r, ?_⟩
          revert p
          show PostH M (SU X a oe pn) Y D H ra ((evE (M.C k) M.G e ρ s).stm ρ fun d s1 => .ret d (trunc s d s1)) → PostH M (SU X a oe pn) Y _ H ra ((evE (M.C k) M.G e ρ s).stm ρ fun d s1 => .ret d (trunc s d s1))
          cases evE (M.C k) M.G e ρ s <;> exact fun p => p
      | _ => simp [mSu] at h
  | .ifret c e :: hs, sts, h => by
    obtain ⟨x, v, p1, p2, ss, rfl, h1, h2, h3⟩ := mSu_if h
    have ih := sndSu u pn hs h3
    refine PSs.sub (pss_cons (ps_if (sndH u pn c h1).2 (pss_one (h_ret (sndH u pn e h2))) pss_nil) ih) fun D σ H ⟨ra, ρ, s, e1, r, p⟩ => ?_
    simp only [exSu] at p
    refine tst_wishH (Z := SU X a oe pn) e1 r p fun t H1 r1 s1 k1 p1 e2 R1 q => ?_
    cases t with
    | true =>
      refine ⟨r1, ρ, s1, e2, R1, ?_⟩
      revert q
      show PostH M (SU X a oe pn) Y D H1 r1 ((evE (M.C k) M.G e ρ s1).stm ρ fun d s2 => .ret d (trunc s1 d s2)) → PostH M (SU X a oe pn) Y _ H1 r1 ((evE (M.C k) M.G e ρ s1).stm ρ fun d s2 => .ret d (trunc s1 d s2))
      cases evE (M.C k) M.G e ρ s1 <;> exact fun p => p
    | false => exact ⟨r1, ρ, s1, e2, R1, q⟩
  | .asg j e :: hs, sts, h => by
    obtain ⟨y, v, p1, p2, ss, rfl, h0, h0n, h1, h2, h3, h4, h5⟩ := mSu_asg h
    have ih := sndSu u pn hs h5
    refine PSs.sub (pss_cons (h_asg (Z := SU X a oe pn) (by show X.N.Nodup; rw [u.g.eN]; exact u.g.nd) (by show X.N[j]? = _; rw [u.g.eN]; exact h1) (by show X.env.scope.names.lookup y = _; rw [u.g.esc]; exact h2) h3 h0 (u.g.off h0n) (sndH u pn e h4)) ih) fun D σ H ⟨ra, ρ, s, e1, r, p⟩ => ?_
    simp only [exSu] at p
    refine ⟨ra, ρ, s, e1, r, ?_⟩
    show PostH M (SU X a oe pn) Y _ H ra ((evE (M.C k) M.G e ρ s).stm ρ fun d s1 => RS.nx (ρ.set j (some d)) (trunc s d s1))
    cases hx : evE (M.C k) M.G e ρ s with
    | ok d s1 =>
      rw [hx] at p
      intro σ' rb H1 k1 p1 R1 e2
      exact ⟨rb, _, _, e2, R1, PostH.mono (show PostH M (SU X a oe pn) Y D H ra (exSu (M.C k) M.G hs (ρ.set j (some d)) (trunc s d s1)) from p) k1 p1⟩
    | exc c w s1 => rw [hx] at p; exact (show False from p).elim
    | bad => rw [hx] at p; exact (show False from p).elim
end
section
variable {X : Cx} {Wout : WX} {D : L2.Ends}
abbrev Cl : Type := Value × Option Nat × (Addr → Value → Option Addr → TS)
def offS (i : Option Nat) (σ : L2.St) : L2.St := match i with
  | some i => σ.set i none
  | none => σ
def putS (i : Option Nat) (a : Addr) (σ : L2.St) : L2.St := match i with
  | some i => σ.set i (some (.ref a))
  | none => σ
def offD (i : Option Nat) (D : L2.Ends) : L2.Ends := { nx := fun σ H => D.nx (offS i σ) H, rt := D.rt, bk := fun σ H => D.bk (offS i σ) H, ct := fun σ H => D.ct (offS i σ) H }
def wTry (K : PySem.W.Frag) (Wout : WX) (D : L2.Ends) : List Cl → WX
  | [] => Wout
  | q :: r => fun cls d σ H => ∃ b, PySem.W.exmOne K cls q.1 = some b ∧ (b = true → ∀ a, H a = none → q.2.2 a cls d (offD q.2.1 D) (putS q.2.1 a σ) H) ∧ (b = false → wTry K Wout D r cls d σ H)
def NameAt (X : Cx) : Option Str → Option Nat → Prop
  | none, none => True
  | some n, some i => X.N[i]? = some n ∧ X.env.kindOf n = some .local
  | _, _ => False
inductive ClsOk (X : Cx) : List ExceptHandler → List Cl → Prop
  | nil : ClsOk X [] []
  | cons {x : Str} {n : Option Str} {c : Cl} {b0 : Stmt} {sts : List Stmt} {np p : Pos} {hds : List ExceptHandler} {l : List Cl} (hc : Names X x c.1) (hn : NameAt X n c.2.1)
      (hsu : ∀ (a : Addr) (oe : Obj) (cls : Value) (d : Option Addr) (pn : List (Addr × Obj)), Zc cls d oe → (∃ vs, oe.data = .fields vs) → PSs (SU X a oe pn) (b0 :: sts) (c.2.2 a cls d)) (r : ClsOk X hds l) :
      ClsOk X (.ExceptHandler (some (.Name x np)) n (b0 :: sts) p :: hds) (c :: l)
structure Down (X : Cx) (pins : List (Addr × Obj)) (σ : L2.St) (H : Hp) (sI s' : Shared) (B : Heap) (a : Addr) (cls : Value) (d : Option Addr) : Prop where
  J : Inv X pins σ H sI
  nb : ∀ b o, sI.heap.get? b = some o → b ∉ frs X.stack → B.get? b = some o
  na : H a = none
  os : s'.os = sI.os
  ag : AllBare s'.gens
  nL : a ≠ X.env.locals
  nF : a ∉ X.fs
variable {pins : List (Addr × Obj)} {σ : L2.St} {H : Hp} {sI s' : Shared} {B h : Heap} {a : Addr} {cls : Value} {d : Option Addr}
theorem Down.su (Z : Down X pins σ H sI s' B a cls d) (up : sI.heap.UpToSlots h) (fl : HandSPX.FlyingZ B (X.env :: X.outer) a (Zc cls d) h) :
    ∃ oe, Zc cls d oe ∧ (∃ vs, oe.data = .fields vs) ∧ h.get? a = some oe ∧ Inv (SU X a oe (X.pn ++ pins)) [] σ H { s' with heap := h } := by
  obtain ⟨oe, vs, e1, e2, e3⟩ := fl.there
  exact ⟨oe, e2, ⟨vs, e3⟩, e1, (Z.J.landed (s' := { s' with heap := h }) Z.nb fl.1 up Z.os Z.ag).suite e1 e3 Z.na Z.nL Z.nF⟩
theorem su_end0 {oe : Obj} {f : Flow} {s6 : Shared} (ok : X.Ok) (q : SP (SU X a oe (X.pn ++ pins)) [] (offD none D) f s6) : SP X pins D f s6 := by
  cases f with
  | ret u =>
    obtain ⟨v6, σ6, H6, I6, r6, q6⟩ := q
    exact ⟨_, _, _, I6.unsuite ok, r6, q6⟩
  | next =>
    obtain ⟨σ6, H6, I6, q6⟩ := q
    exact ⟨_, _, I6.unsuite ok, q6⟩
  | brk =>
    obtain ⟨σ6, H6, I6, q6⟩ := q
    exact ⟨_, _, I6.unsuite ok, q6⟩
  | cont =>
    obtain ⟨σ6, H6, I6, q6⟩ := q
    exact ⟨_, _, I6.unsuite ok, q6⟩
theorem su_end1 {oe : Obj} {i : Nat} {n : Str} {f : Flow} {s6 : Shared} {pos : Pos} (ok : X.Ok) (nd : X.N.Nodup) (hn : NameAt X (some n) (some i)) (q : SP (SU X a oe (X.pn ++ pins)) [] (offD (some i) D) f s6) :
    wpAny (model X.prog X.w) X.A (do bindName X.env n .none; unbindBehindTheSuite X.env n pos) (fun _ s7 => SP X pins D f s7) X.xe s6 := by
  cases f with
  | ret u =>
    obtain ⟨v6, σ6, H6, I6, r6, q6⟩ := q
    exact gone_ok (I6.unsuite ok) nd hn.1 hn.2 fun s7 J7 => ⟨_, _, _, J7, r6, q6⟩
  | next =>
    obtain ⟨σ6, H6, I6, q6⟩ := q
    exact gone_ok (I6.unsuite ok) nd hn.1 hn.2 fun s7 J7 => ⟨_, _, J7, q6⟩
  | brk =>
    obtain ⟨σ6, H6, I6, q6⟩ := q
    exact gone_ok (I6.unsuite ok) nd hn.1 hn.2 fun s7 J7 => ⟨_, _, J7, q6⟩
  | cont =>
    obtain ⟨σ6, H6, I6, q6⟩ := q
    exact gone_ok (I6.unsuite ok) nd hn.1 hn.2 fun s7 J7 => ⟨_, _, J7, q6⟩
theorem clauses (hs : X.stack = X.env :: X.outer) (hf : X.env.frame = some X.env.locals) (nd : X.N.Nodup) (tk : Takes X Wout) (Z : Down X pins σ H sI s' B a cls d) (up : sI.heap.UpToSlots h) (fl : HandSPX.FlyingZ B (X.env :: X.outer) a (Zc cls d) h) :
    ∀ {hds : List ExceptHandler} {l : List Cl}, ClsOk X hds l → wTry X.K Wout D l cls d σ H → wpAny (model X.prog X.w) X.A (handleBy (.ref a) X.env hds) (SP X pins D) X.xe { s' with heap := h } := by
  intro hds l c
  have ok := Z.J.ok
  obtain ⟨oe, hz, hd, he, S⟩ := Z.su up fl
  induction c with
  | nil =>
    intro w
    refine wpAny_handleBy_nil ?_
    obtain ⟨_, _, _, o, vs, T, _, _, g1, g2, g3, g4, _⟩ := id fl
    have last : wpAny (model X.prog X.w) X.A (setFlight (.ref a) X.env.frame) (fun _ s4 => wpAny (model X.prog X.w) X.A (throw (.ref a) : Sem Flow) (SP X pins D) X.xe s4) X.xe { s' with heap := h } := by
      rw [hf]
      exact HandSPX.setFlight_upZ fl fun h4 k4 u4 => wpAny_throw (tk _ _ ⟨a, B, sI, pins, σ, H, cls, d, rfl, Z.J, Z.nb, up.trans u4, .inr (.inr (by rw [hs]; exact k4)), Z.na, Z.os, Z.ag, w⟩)
    unfold PySem.passOn
    refine wpAny_bind (wpAny_field g1 g3 g4 ?_)
    rw [if_neg (by simp)]
    first
      | exact wpAny_bind (wpAny_pure (wpAny_bind last))
      | exact wpAny_bind last
  | @cons x n c b0 sts np p hds l hc hn hsu r ih =>
    intro w
    obtain ⟨b, e, yes, no⟩ := w
    refine wpAny_handleBy_cons (codeAny_handlers_test ?_) (fun q => nomatch q)
    have L0 : PySem.W.Looks (model X.prog X.w) h (typeOf (.ref a)) cls := fun A Q E s k q => wpAny_typeOf_ref (k _ _ he) (by rw [hz.1]; exact q)
    have L1 := PySem.W.exm_one (M := model X.prog X.w) S.kIn L0 e
    have test : ∀ {Q : Value → Shared → Prop} {E : Value → Shared → Prop}, Q c.1 { s' with heap := h } → wpAny (model X.prog X.w) (X.A.mark (some (.ref a))) (eval (.Name x np) X.env) Q E { s' with heap := h } := fun {Q E} q => by
      rcases hc with ⟨g1, g2, g3 | ⟨g3, g4, g5⟩⟩
      · exact ld_glob S g1 g3 q g2
      · exact ld_blt S g1 g3 g4 q g5 g2
    refine test (L1.here ?_)
    cases b with
    | false =>
      show wpAny _ X.A (handleBy (.ref a) X.env hds) _ _ _
      exact ih (no rfl)
    | true =>
      have yes := yes rfl a Z.na
      cases n with
      | none =>
        cases hi : c.2.1 with
        | some i =>
          rw [hi] at hn
          exact hn.elim
        | none =>
          rw [hi] at yes hn
          refine codeAny_handlers_suite (HandSPX.lands_againZ fl fun h4 fl4 up4 => ?_)
          obtain ⟨o4, z4, d4, e4, S4⟩ := Z.su (up.trans up4) fl4
          refine wpAny_mono ((hsu a o4 cls d (X.pn ++ pins) z4 d4).run [] _ _ H _ S4 yes) (fun f s6 q => ?_) (fun _ _ z => z.elim)
          exact su_end0 ok q
      | some n =>
        cases hi : c.2.1 with
        | none =>
          rw [hi] at hn
          exact hn.elim
        | some i =>
          rw [hi] at yes hn
          refine codeAny_handlers_suite_as (HandSPX.lands_againZ fl fun h4 fl4 up4 => ?_)
          obtain ⟨o4, z4, d4, e4, S4⟩ := Z.su (up.trans up4) fl4
          refine store_ok (X := SU X a o4 (X.pn ++ pins)) (v := .ref a) S4 nd hn.1 (.inl hn.2) rfl (fun s5 S5 => ?_) (.inr hn.2)
          refine wpAny_mono ((hsu a o4 cls d (X.pn ++ pins) z4 d4).run [] s5 _ H _ S5 yes) (fun f s6 q => ?_) (fun _ _ z => z.elim)
          exact su_end1 (pos := p) ok nd hn q
theorem ps_tryAny {body : List Stmt} {h0 : ExceptHandler} {hds : List ExceptHandler} {l : List Cl} {pos : Pos} {tb : WX → TS} (hs : X.stack = X.env :: X.outer) (hf : X.env.frame = some X.env.locals) (nd : X.N.Nodup) (tk : Takes X Wout)
    (hb : ∀ (W : WX) (pn : List (Addr × Obj)) (xe : Value → Shared → Prop), Takes (X.tr pn xe) W → PassesOwn (model X.prog X.w) X.A X.env xe → PSs (X.tr pn xe) body (tb W)) (hc : ClsOk X (h0 :: hds) l) :
    PS X (.Try body (h0 :: hds) [] [] pos) (fun D σ H => tb (wTry X.K Wout D l) D σ H) := by
  refine ⟨fun pins s σ H D I w => wpAny_Try_except ?_⟩
  have ok := I.ok
  have hfr : X.A.frames = some (X.env :: X.outer) := by rw [ok.frames, hs]
  obtain ⟨xe, hxe⟩ : ∃ xe : Value → Shared → Prop, xe = fun e s1 => wpAny (model X.prog X.w) X.A (noteFrame e X.env) (fun _ s2 => wpAny (model X.prog X.w) X.A (setFlight e none) (fun _ s3 =>
    wpAny (model X.prog X.w) X.A (handleBy e X.env (h0 :: hds)) (SP X pins D) X.xe s3) X.xe s2) X.xe s1 := ⟨_, rfl⟩
  have T : Takes (X.tr (X.pn ++ pins) xe) (wTry X.K Wout D l) := by
    rintro u s' ⟨a, B, sI, pins', σ', H', cls, d, rfl, J', nb, up, sky, na, os, ag, w'⟩
    have sky : Sky B (X.env :: X.outer) a (Zc cls d) X.env.locals s'.heap := by
      rw [← hs]
      exact sky
    rw [hxe]
    refine Sky.land Zc.steady hfr hf sky fun h3 fl up3 => ?_
    obtain ⟨oe, vs, e1, e2, e3⟩ := fl.there
    have off : a ∉ frs (X.env :: X.outer) := fun hm => by
      obtain ⟨_, o', z, z2⟩ := fl.2.2.1.mem hm
      rw [e1] at z
      cases z
      exact z2 _ e3
    have sub : ∀ b, b ∈ X.fs → b ∈ frs (X.env :: X.outer) := fun b hm => by
      obtain ⟨e, he, q⟩ := List.mem_filterMap.mp hm
      exact List.mem_filterMap.mpr ⟨e, List.mem_cons_of_mem _ he, q⟩
    exact clauses hs hf nd tk ⟨J'.ofTry ok, nb, na, os, ag, fun z => off (List.mem_filterMap.mpr ⟨X.env, List.mem_cons_self, by rw [hf, z]⟩), fun z => off (sub _ z)⟩ (up.trans up3) fl hc w'
  have po : PassesOwn (model X.prog X.w) X.A X.env xe := by
    rw [hxe]
    exact PassesOwn.looking
  refine wpAny_mono ((hb _ _ xe T po).run [] s σ H D (I.toTry xe) w) (fun f s1 q => ?_) (fun e s1 z => by rw [hxe] at z; exact z)
  cases f with
  | next =>
    obtain ⟨σ', H', J', q⟩ := q
    exact wpAny_execs_nil ⟨σ', H', J'.ofTry ok, q⟩
  | brk =>
    obtain ⟨σ', H', J', q⟩ := q
    exact ⟨σ', H', J'.ofTry ok, q⟩
  | cont =>
    obtain ⟨σ', H', J', q⟩ := q
    exact ⟨σ', H', J'.ofTry ok, q⟩
  | ret u =>
    obtain ⟨v, σ', H', J', r, q⟩ := q
    exact ⟨v, σ', H', J'.ofTry ok, r, q⟩
theorem ps_tryAny2 {body : List Stmt} {h0 : ExceptHandler} {hds : List ExceptHandler} {l : List Cl} {pos : Pos} {tb : WX → TS} (hs : X.stack = X.env :: X.outer) (hf : X.env.frame = some X.env.locals) (nd : X.N.Nodup) (tk : Takes X Wout)
    (hb : ∀ (W : WX) (pn : List (Addr × Obj)) (xe : Value → Shared → Prop), Takes (X.tr pn xe) W → PassesOwn (model X.prog X.w) X.A X.env xe → PSs (X.tr pn xe) body (tb W)) (hc : ClsOk X (h0 :: hds) l) :
    PS X (.Try body (h0 :: hds) [] [] pos) (fun D σ H => tb (fun cls d σ H => σ.length = X.N.length → wTry X.K Wout D l cls d σ H) D σ H) := by
  refine ⟨fun pins s σ H D I w => wpAny_Try_except ?_⟩
  have ok := I.ok
  have hfr : X.A.frames = some (X.env :: X.outer) := by rw [ok.frames, hs]
  obtain ⟨xe, hxe⟩ : ∃ xe : Value → Shared → Prop, xe = fun e s1 => wpAny (model X.prog X.w) X.A (noteFrame e X.env) (fun _ s2 => wpAny (model X.prog X.w) X.A (setFlight e none) (fun _ s3 =>
    wpAny (model X.prog X.w) X.A (handleBy e X.env (h0 :: hds)) (SP X pins D) X.xe s3) X.xe s2) X.xe s1 := ⟨_, rfl⟩
  have T : Takes (X.tr (X.pn ++ pins) xe) (fun cls d σ H => σ.length = X.N.length → wTry X.K Wout D l cls d σ H) := by
    rintro u s' ⟨a, B, sI, pins', σ', H', cls, d, rfl, J', nb, up, sky, na, os, ag, w'⟩
    have sky : Sky B (X.env :: X.outer) a (Zc cls d) X.env.locals s'.heap := by
      rw [← hs]
      exact sky
    rw [hxe]
    refine Sky.land Zc.steady hfr hf sky fun h3 fl up3 => ?_
    obtain ⟨oe, vs, e1, e2, e3⟩ := fl.there
    have off : a ∉ frs (X.env :: X.outer) := fun hm => by
      obtain ⟨_, o', z, z2⟩ := fl.2.2.1.mem hm
      rw [e1] at z
      cases z
      exact z2 _ e3
    have sub : ∀ b, b ∈ X.fs → b ∈ frs (X.env :: X.outer) := fun b hm => by
      obtain ⟨e, he, q⟩ := List.mem_filterMap.mp hm
      exact List.mem_filterMap.mpr ⟨e, List.mem_cons_of_mem _ he, q⟩
    exact clauses hs hf nd tk ⟨J'.ofTry ok, nb, na, os, ag, fun z => off (List.mem_filterMap.mpr ⟨X.env, List.mem_cons_self, by rw [hf, z]⟩), fun z => off (sub _ z)⟩ (up.trans up3) fl hc (w' J'.len)
  have po : PassesOwn (model X.prog X.w) X.A X.env xe := by
    rw [hxe]
    exact PassesOwn.looking
  refine wpAny_mono ((hb _ _ xe T po).run [] s σ H D (I.toTry xe) w) (fun f s1 q => ?_) (fun e s1 z => by rw [hxe] at z; exact z)
  cases f with
  | next =>
    obtain ⟨σ', H', J', q⟩ := q
    exact wpAny_execs_nil ⟨σ', H', J'.ofTry ok, q⟩
  | brk =>
    obtain ⟨σ', H', J', q⟩ := q
    exact ⟨σ', H', J'.ofTry ok, q⟩
  | cont =>
    obtain ⟨σ', H', J', q⟩ := q
    exact ⟨σ', H', J'.ofTry ok, q⟩
  | ret u =>
    obtain ⟨v, σ', H', J', r, q⟩ := q
    exact ⟨v, σ', H', J'.ofTry ok, r, q⟩
end
section
variable {M : Cfg} {N : List Str} {X : Cx} {W : WX} {k : Nat} {sc : Scope} {D : L2.Ends}
theorem RepV.into {K : PySem.W.Frag} {H : Hp} {ra : List Addr} {d : WL.D} {v : V} {q : Addr} {o : HO} (r : RepV K H ra d v) (h : H q = none) : RepV K (upd H q o) ra d v := RepV.keep (Keeps.new h) (List.prefix_refl _) d v r
theorem s_rais (g : GoodS M N X W k sc) {c : Nat} {e : E} {y : Str} {v : Expr} {p p2 p3 : Pos} (hc : M.cls[c]? = some y) (hg : glB sc y = true) (ho : okName y = true) (hs : notStar v = true) (he : GE M X W k e v) :
    GS M X W k (.rais c e) (.Raise (some (.Call (.Name y p) [v] [] p2)) none p3) := by
  obtain ⟨C, mC, F⟩ := g.g.st.exc c y hc
  obtain ⟨fI, fd, iC, tI, bI, FI⟩ := F.ini
  refine PS.sub (ps_raise g.g.calm g.g.tk (pmk_oex (dvs := []) (ds := []) F.oex iC tI FI (g.g.hr.mono (by omega)) bI .nil (passes_call g.g.tk fun _ _ _ _ z => z.elim) (gl_ok hg g.g) mC (pa_cons he.1 pa_nil (star_cons hs _ _)) (okName_ok ho).1 (star_cons hs _ _) rfl)) fun D σ H ⟨ra, ρ, s, e1, r, q⟩ => ?_
  simp only [exS] at q
  refine ⟨ra, ρ, s, e1, r, (PostS.bind (repA := RepV X.K) e1 q).imp fun v H1 ⟨d, s1, r1, k1, p1, R1, e2, rv, q⟩ => ?_⟩
  refine ⟨by simp, fun a ha => ⟨a, C, v, rfl, F.oex, F.no, upd_same, fun dd hd hne => ⟨rfl, dd, _, upd_same, (upd_ne hne).trans upd_same, ?_⟩⟩⟩
  have hd1 : H1 dd = none := by
    rw [upd_ne hne] at hd
    exact hd
  refine ⟨hd1, ?_⟩
  have eh : upd (L2.del (upd (upd (upd H1 a (exo a C none)) dd (exd dd [("what", v)])) a (exo a C (some dd))) a) dd (.xd [("what", v)]) = upd H1 dd (.xd [("what", v)]) := by
    funext b
    by_cases hb : b = dd
    · subst hb
      rw [upd_same, upd_same]
    · rw [upd_ne hb, upd_ne hb]
      by_cases hb2 : b = a
      · subst hb2
        rw [del_same, ha]
      · rw [del_ne hb2, upd_ne hb2, upd_ne hb, upd_ne hb2]
  rw [eh]
  obtain ⟨rc, pc, Rc, rvc⟩ := let_go r k1 p1 R1 rv
  exact q _ _ σ rc _ (k1.trans (Keeps.new hd1)) pc (Rc.aside hd1) ((e1.keep k1 pc).keep (Keeps.new hd1) (List.prefix_refl _)) ⟨y, dd, v, hc, mC, rfl, upd_same, rvc.into hd1⟩
def hdName : ExceptHandler → Str
  | .ExceptHandler (some (.Name y _)) _ _ _ => y
  | _ => default
def clOf (M : Cfg) (X : Cx) (k : Nat) (h : Hd) (d : ExceptHandler) : Cl := ((X.mg (hdName d)).getD .none, h.nm, fun a cls dd D σ H => ∃ c w, hS M X ⟨h.nm, c, w, cls, dd, a⟩ (exSu (M.C k) M.G h.b) D σ H)
def clsOf (M : Cfg) (X : Cx) (k : Nat) : List Hd → List ExceptHandler → List Cl
  | h :: hs, d :: ds => clOf M X k h d :: clsOf M X k hs ds
  | _, _ => []
theorem hd_of {h : Hd} {d : ExceptHandler} (g : GoodS M N X W k sc) (q : mHd1 M N sc h d = true) : ∃ (y : Str) (np p : Pos) (n : Option Str) (b0 : Stmt) (sts : List Stmt) (C2 : Addr), d = .ExceptHandler (some (.Name y np)) n (b0 :: sts) p ∧ Names X y (.ref C2) ∧ X.mg y = some (.ref C2) ∧ NameAt X n h.nm ∧ (∀ j, h.nm = some j → Off j) ∧
    mSu M N sc h.nm h.b (b0 :: sts) = true ∧ ∀ (c : Nat) (x : Str) (C : Addr), M.cls[c]? = some x → X.mg x = some (.ref C) → PySem.W.exmOne X.K (.ref C) (.ref C2) = some (h.cs.contains c) := by
  unfold mHd1 at q
  split at q
  · rename_i y np n b0 sts p
    simp only [Bool.and_eq_true] at q
    obtain ⟨⟨⟨⟨q1, q2⟩, q3⟩, q4⟩, q5⟩ := q
    have hn : NameAt X n h.nm ∧ ∀ j, h.nm = some j → Off j := by
      split at q4
      · rename_i hx
        rw [hx]
        exact ⟨trivial, fun j z => nomatch z⟩
      · rename_i x j hx
        rw [hx]
        simp only [Bool.and_eq_true, decide_eq_true_eq, Bool.not_eq_true'] at q4
        refine ⟨⟨by rw [g.g.eN]; exact q4.1.1, ?_⟩, fun j' z => by cases z; exact g.g.off q4.2⟩
        unfold PySem.Env.kindOf
        rw [g.g.esc]
        exact q4.1.2
      · cases q4
    have hd := (okName_ok q2).1
    simp only [Bool.or_eq_true, Bool.and_eq_true, decide_eq_true_eq] at q3
    rcases q3 with ⟨q3, q6⟩ | q3
    · subst q3
      obtain ⟨B, mB, F⟩ := g.g.st.bas
      refine ⟨_, np, p, n, b0, sts, B, rfl, ⟨gl_ok q1 g.g, hd, .inl mB⟩, mB, hn.1, hn.2, q5, fun c x C c1 c2 => ?_⟩
      rw [(F c x C c1 c2).1, q6]
      have : c < M.cls.length := (List.getElem?_eq_some_iff.mp c1).1
      congr 1
      simpa using this
    · split at q3
      · rename_i c' hcs
        have q3 := of_decide_eq_true q3
        obtain ⟨C2, m2, F2⟩ := g.g.st.exc c' y q3
        refine ⟨y, np, p, n, b0, sts, C2, rfl, ⟨gl_ok q1 g.g, hd, .inl m2⟩, m2, hn.1, hn.2, q5, fun c x C c1 c2 => ?_⟩
        rw [(g.g.st.rel c x c' y C C2 c1 q3 c2 m2).1, hcs]
        congr 1
        by_cases hh : c = c' <;> simp [hh]
      · cases q3
  · cases q
theorem cls_ok (g : GoodS M N X W k sc) : ∀ {hs : List Hd} {ds : List ExceptHandler}, mHd M N sc hs ds = true → ClsOk X ds (clsOf M X k hs ds)
  | [], [], _ => .nil
  | [], _ :: _, q => by simp [mHd] at q
  | _ :: _, [], q => by simp [mHd] at q
  | h :: hs, d :: ds, q => by
    simp only [mHd, Bool.and_eq_true] at q
    obtain ⟨y, np, p, n, b0, sts, C2, rfl, h1, h2, h3, h6, h4, h5⟩ := hd_of g q.1
    have e : clOf M X k h (.ExceptHandler (some (.Name y np)) n (b0 :: sts) p) = (.ref C2, h.nm, fun a cls dd D σ H => ∃ c w, hS M X ⟨h.nm, c, w, cls, dd, a⟩ (exSu (M.C k) M.G h.b) D σ H) := by
      unfold clOf
      rw [show hdName (.ExceptHandler (some (.Name y np)) n (b0 :: sts) p) = y from rfl, h2]
      rfl
    unfold clsOf
    rw [e]
    refine .cons h1 h3 (fun a oe cls d pn hz hf => ⟨fun pins s σ H D I ⟨c, w, z⟩ => ?_⟩) (cls_ok g q.2)
    exact (sndSu (Y := ⟨h.nm, c, w, cls, d, a⟩) ⟨g.g, hz, hf, rfl⟩ pn h.b h4).run pins s σ H D I z
theorem ERelH.off {Y : Sx} {K : PySem.W.Frag} {mg : Str → Option Value} {H : Hp} {ra : List Addr} {ρ : Env} {σ : L2.St} (e : ERelH M mg K Y H ra ρ σ) : ERel K H ra (offX Y.i ρ) (offS Y.i σ) := by
  cases hi : Y.i with
  | none => exact ⟨e.len, fun j d h => e.get j d (by rw [hi]; exact fun z => nomatch z) h, e.clo⟩
  | some i =>
    refine ⟨by unfold offX offS; simp [e.len], fun j d h => ?_, fun q hq => by
      obtain ⟨w, e1, r1⟩ := e.clo q hq
      exact ⟨w, by unfold offS; simp only; rw [List.getElem?_set_ne (fun z => e.noff i hi q hq z.symm)]; exact e1, r1⟩⟩
    unfold offX at h
    unfold offS
    simp only at h ⊢
    by_cases hj : i = j
    · subst hj
      by_cases hl : i < ρ.length
      · rw [List.getElem?_set_self hl] at h
        cases h
      · rw [List.getElem?_eq_none (by simpa using hl)] at h
        cases h
    · rw [List.getElem?_set_ne hj] at h ⊢
      exact e.get j d (by rw [hi]; exact fun z => hj (Option.some.inj z)) h
theorem ERelH.on {K : PySem.W.Frag} {mg : Str → Option Value} {H : Hp} {ra : List Addr} {ρ : Env} {σ : L2.St} {i : Option Nat} {c : Nat} {w : WL.D} {cls : Value} {dd : Option Addr} {a : Addr} (e : ERel K H ra ρ σ) (ho : ∀ j, i = some j → Off j) (x : RepX M mg K H ra c w cls dd) :
    ERelH M mg K ⟨i, c, w, cls, dd, a⟩ H ra (putX i c w ρ) (putS i a σ) := by
  cases i with
  | none => exact ⟨e.len, fun j d _ h => e.get j d h, x, (fun j d h => nomatch h), e.clo, ho⟩
  | some i =>
    refine ⟨by unfold putX putS; simp [e.len], fun j d hj h => ?_, x, fun j d hj h => ?_, fun q hq => by
      obtain ⟨w, e1, r1⟩ := e.clo q hq
      exact ⟨w, by unfold putS; simp only; rw [List.getElem?_set_ne (fun z => ho i rfl q hq z.symm)]; exact e1, r1⟩, ho⟩
    · have hj : i ≠ j := fun z => hj (by rw [z])
      unfold putX at h
      unfold putS
      simp only at h ⊢
      rw [List.getElem?_set_ne hj] at h ⊢
      exact e.get j d h
    · obtain rfl : i = j := Option.some.inj hj
      unfold putX at h
      unfold putS
      simp only at h ⊢
      by_cases hl : i < ρ.length
      · rw [List.getElem?_set_self hl] at h
        cases h
        exact ⟨rfl, by rw [List.getElem?_set_self (by rw [e.len]; exact hl)]⟩
      · rw [List.getElem?_eq_none (by simpa using hl)] at h
        cases h
theorem hd_wish (g : GoodS M N X W k sc) {H : Hp} {ra : List Addr} {ρ : Env} {σ : L2.St} {s : Store} {c : Nat} {w : WL.D} {cls : Value} {dd : Option Addr} (e : ERel X.K H ra ρ σ) (r : SRel X.K H ra s) (x : RepX M X.mg X.K H ra c w cls dd) :
    ∀ {hs : List Hd} {ds : List ExceptHandler}, mHd M N sc hs ds = true → PostS M X W D H ra (exHd (M.C k) M.G hs c w ρ s) → wTry X.K W D (clsOf M X k hs ds) cls dd σ H
  | [], [], _, p => by
    simp only [exHd] at p
    exact p cls dd σ ra H (Keeps.refl H) (List.prefix_refl _) r e x
  | [], _ :: _, q, _ => by simp [mHd] at q
  | _ :: _, [], q, _ => by simp [mHd] at q
  | h :: hs, d :: ds, q, p => by
    simp only [mHd, Bool.and_eq_true] at q
    obtain ⟨y, np, p0, n, b0, sts, C2, rfl, h1, h2, h3, h6, h4, h5⟩ := hd_of g q.1
    obtain ⟨nm, d0, v, x1, x2, x3, x4, x5⟩ := id x
    obtain ⟨C, m1, F⟩ := g.g.st.exc c nm x1
    rw [m1] at x2
    obtain rfl := Option.some.inj x2
    refine ⟨h.cs.contains c, ?_, fun hb a ha => ?_, fun hb => ?_⟩
    · show PySem.W.exmOne X.K (.ref C) ((X.mg y).getD .none) = _
      rw [h2]
      exact h5 c nm C x1 m1
    · simp only [exHd, hb, if_true] at p
      refine ⟨c, w, ra, putX h.nm c w ρ, s, .on e h6 x, r, ?_⟩
      cases hx : exSu (M.C k) M.G h.b (putX h.nm c w ρ) s with
      | nx ρ2 s2 =>
        rw [hx] at p
        exact fun σ' rb H' k2 p2 R2 e2 => p _ rb H' k2 p2 R2 e2.off
      | ret d2 s2 =>
        rw [hx] at p
        exact p
      | brk _ _ => rw [hx] at p; exact (show False from p).elim
      | cnt _ _ => rw [hx] at p; exact (show False from p).elim
      | exc _ _ _ _ => rw [hx] at p; exact (show False from p).elim
      | bad => rw [hx] at p; exact (show False from p).elim
    · simp only [exHd, hb, Bool.false_eq_true, if_false] at p
      exact hd_wish g e r x q.2 p
theorem s_tryx (g : GoodS M N X W k sc) {b : List S} {hs : List Hd} {body : List Stmt} {h0 : ExceptHandler} {ds : List ExceptHandler} {pos : Pos} (ih : ∀ {X2 : Cx} {W2 : WX}, GoodS M N X2 W2 k sc → GB M X2 W2 k b body) (hm : mHd M N sc hs (h0 :: ds) = true) :
    GS M X W k (.tryx b hs) (.Try body (h0 :: ds) [] [] pos) := by
  refine PS.sub (ps_tryAny (tb := fun W2 => tS M X W2 (exB (M.C k) M.G M.F b)) g.stk g.frm (by rw [g.g.eN]; exact g.g.nd) g.g.tk (fun W2 pn xe tk po => ?_) (cls_ok g hm)) fun D σ H ⟨ra, ρ, s, e1, r, p⟩ => ?_
  · exact ih (X2 := X.tr pn xe) (W2 := W2) ⟨⟨g.g.esc, g.g.eN, g.g.nd, g.g.efn, g.g.calm, g.g.knd, tk, g.g.hr, g.g.st, g.g.mkr, g.g.stl, g.g.gna, g.g.gnb, g.g.gV⟩, po, g.stk, g.frm⟩
  · simp only [exS] at p
    refine ⟨ra, ρ, s, e1, r, ?_⟩
    cases hx : exB (M.C k) M.G M.F b ρ s with
    | nx _ _ => rw [hx] at p; exact p
    | ret _ _ => rw [hx] at p; exact p
    | brk _ _ => rw [hx] at p; exact p
    | cnt _ _ => rw [hx] at p; exact p
    | bad => rw [hx] at p; exact p
    | exc c w ρ1 s1 =>
      rw [hx] at p
      exact fun cls dd σ' rb H' k2 p2 R2 e2 x2 => hd_wish g e2 R2 x2 hm (PostS.mono p k2 p2)
end
end WL
set_option maxHeartbeats 4000000
namespace WL
open PySem PySem.Spec PyProof.Rows L2
variable [TBS] [CLO]
section
variable {M : Cfg} {N : List Str} {X : Cx} {W : WX} {k : Nat} {sc : Scope}
mutual
theorem sndS : ∀ {X : Cx} {W : WX} (g : GoodS M N X W k sc) (x : S) {st : Stmt}, mS M N sc x st = true → GS M X W k x st
  | _, _, g, .asg t e, st, h => by
    unfold mS at h
    split at h
    · simp only [Bool.and_eq_true] at h
      exact s_asgAny g h.1.1 h.1.2.1 h.1.2.2 h.2
    · cases h
  | _, _, g, .par is es, st, h => by
    unfold mS at h
    split at h
    · exact s_par g h
    · cases h
  | _, _, g, .aug i op e, st, h => by
    unfold mS at h
    split at h
    · simp only [Bool.and_eq_true, decide_eq_true_eq] at h
      obtain ⟨⟨⟨⟨⟨rfl, h1⟩, h2⟩, h3⟩, h5⟩, h4⟩ := h
      exact s_aug g h1 h2 h3 (by simpa using h5) (sndE e h4 g.g)
    · cases h
  | _, _, g, .augS o i op e, st, h => by
    unfold mS at h
    split at h
    · simp only [Bool.and_eq_true, decide_eq_true_eq] at h
      obtain ⟨⟨⟨⟨⟨rfl, h1⟩, h2⟩, h3⟩, h4⟩, h5⟩ := h
      exact s_augS g.g h1 h2 (sndE o h3 g.g) (sndE i h4 g.g) (sndE e h5 g.g)
    · cases h
  | _, _, g, .expr e, st, h => by
    unfold mS at h
    split at h
    · rw [Bool.and_eq_true] at h
      exact s_expr h.1 (sndE e h.2 g.g)
    · cases h
  | _, _, g, .ret e, st, h => by
    unfold mS at h
    split at h
    · exact s_ret (sndE e h g.g)
    · cases h
  | _, _, g, .retN, st, h => by
    unfold mS at h
    split at h
    · exact s_retN
    · cases h
  | _, _, g, .iff c a b, st, h => by
    unfold mS at h
    split at h
    · simp only [Bool.and_eq_true] at h
      exact s_iff (sndE c h.1.1 g.g) (sndB g a h.1.2) (sndB g b h.2)
    · cases h
  | _, _, g, .for t it b, st, h => by
    unfold mS at h
    split at h
    · simp only [Bool.and_eq_true] at h
      exact s_for g h.1.2 (sndTg t h.1.1 g.g) (sndIt it h.1.2 g.g) (sndB g b h.2)
    · cases h
  | _, _, g, .whl c b, st, h => by
    unfold mS at h
    split at h
    · simp only [Bool.and_eq_true] at h
      exact s_whl g (sndE c h.1 g.g) (sndB g b h.2)
    · cases h
  | _, _, g, .brk, st, h => by
    unfold mS at h
    split at h
    · exact s_brk
    · cases h
  | _, _, g, .cnt, st, h => by
    unfold mS at h
    split at h
    · exact s_cnt
    · cases h
  | _, _, g, .pass, st, h => by
    unfold mS at h
    split at h
    · exact s_pass
    · cases h
  | _, _, g, .nev, st, h => s_nev
  | _, _, g, .rais c e, st, h => by
    unfold mS at h
    split at h
    · simp only [Bool.and_eq_true, decide_eq_true_eq] at h
      obtain ⟨⟨⟨h1, h2⟩, h3⟩, h4⟩ := h
      exact s_rais g h1 h2 h3 (mE_star h4) (sndE e h4 g.g)
    · cases h
  | _, _, g, .tryx b hs, st, h => by
    unfold mS at h
    split at h
    · rw [Bool.and_eq_true] at h
      exact s_tryx g (fun g2 => sndB g2 b h.1) h.2
    · cases h
  | _, _, g, .lock i x, st, h => by
    simp only [mS, Bool.and_eq_true] at h
    exact s_lockS (no_clo g.g h.1) (sndS g x h.2)
theorem sndB : ∀ {X : Cx} {W : WX} (g : GoodS M N X W k sc) (xs : List S) {sts : List Stmt}, mB M N sc xs sts = true → GB M X W k xs sts
  | _, _, g, [], sts, h => by
    cases sts with
    | nil => exact b_nil
    | cons y ys => simp [mB] at h
  | _, _, g, x :: xs, sts, h => by
    cases sts with
    | nil => simp [mB] at h
    | cons y ys =>
      simp only [mB, Bool.and_eq_true] at h
      exact b_cons (sndS g x h.1) (sndB g xs h.2)
end
end
end WL
set_option maxHeartbeats 1000000
namespace WL
open PySem PySem.Spec PyProof.Rows L2
theorem bind_plain {name qual : Str} {a : Arguments} {ps : List Str} {body : List Stmt} {scope : Scope} {kV doc pm : Value} {an : Option Addr} {cdv ct : Value} {us : List Value} (h : plainPs a ps = true) (nd : ps.Nodup) (hl : us.length = ps.length) :
    bindArgs (PySem.W.fnOf name qual a body scope .none kV doc pm an cdv ct) ⟨us, []⟩ = pure (ps.zip us) := by
  obtain ⟨po, as, va, ko, kd, kw, df⟩ := a
  unfold plainPs at h
  simp only [Bool.and_eq_true, List.isEmpty_iff, Option.isNone_iff_eq_none, decide_eq_true_eq] at h
  obtain ⟨⟨⟨⟨⟨⟨rfl, h2⟩, rfl⟩, rfl⟩, rfl⟩, rfl⟩, rfl⟩ := h
  unfold bindArgs PySem.W.fnOf
  dsimp only
  rw [List.map_nil, List.nil_append, h2]
  have e1 : seqItems? Value.none = pure none := rfl
  have e2 : ¬ us.length > ps.length := by omega
  have e3 : (ps.filter fun n => ((ps.zip us).lookup n).isNone) = [] := by
    rw [List.filter_eq_nil_iff]
    intro n hn
    have := look_zip hn hl
    simp [Option.isNone_iff_eq_none, Option.isSome_iff_ne_none.mp this]
  have e4 := zip_back nd hl
  simp [e1, e2, e3, e4]
def plainPd (a : Arguments) (ps : List Str) (n : Nat) : Bool := a.posonlyargs.isEmpty && decide (a.args.map (·.arg) = ps) && a.vararg.isNone && a.kwonlyargs.isEmpty && a.kw_defaults.isEmpty && a.kwarg.isNone && decide (a.defaults.length = n)
theorem bind_one {name qual : Str} {a : Arguments} {ps0 : List Str} {x : Str} {body : List Stmt} {scope : Scope} {T : Addr} {kV doc pm : Value} {an : Option Addr} {cdv ct u0 : Value} {us us' : List Value} (h : plainPd a (ps0 ++ [x]) 1 = true) (nd : (ps0 ++ [x]).Nodup) (hl : (us.length = ps0.length ∧ us' = us ++ [u0]) ∨ (us.length = ps0.length + 1 ∧ us' = us)) :
    ∃ k, bindArgs (PySem.W.fnOf name qual a body scope (.ref T) kV doc pm an cdv ct) ⟨us, []⟩ = seqItems? (.ref T) >>= k ∧ k (some [u0].toArray) = pure ((ps0 ++ [x]).zip us') := by
  obtain ⟨po, as, va, ko, kd, kw, df⟩ := a
  unfold plainPd at h
  simp only [Bool.and_eq_true, List.isEmpty_iff, Option.isNone_iff_eq_none, decide_eq_true_eq] at h
  obtain ⟨⟨⟨⟨⟨⟨rfl, h2⟩, rfl⟩, rfl⟩, rfl⟩, rfl⟩, h3⟩ := h
  have e4 : us'.length = (ps0 ++ [x]).length := by
    rcases hl with ⟨l, rfl⟩ | ⟨l, rfl⟩ <;> simp [l]
  have e5 := zip_back nd e4
  have e6 : ∀ n ∈ ps0, (((ps0 ++ [x]).zip us).lookup n).isSome = true := by
    intro n hn
    rcases hl with ⟨l, rfl⟩ | ⟨l, rfl⟩
    · have e : (ps0 ++ [x]).zip us = ps0.zip us := by
        have q := List.zip_append (l₁ := ps0) (r₁ := [x]) (l₂ := us) (r₂ := []) l.symm
        simpa using q
      rw [e]
      exact look_zip hn l
    · exact look_zip (List.mem_append_left _ hn) e4
  unfold bindArgs PySem.W.fnOf
  dsimp only
  rw [List.map_nil, List.nil_append, h2]
  simp only [forIn, List.forIn_nil, pure_bind]
  refine ⟨_, rfl, ?_⟩
  have q1 : ¬ us.length > (ps0 ++ [x]).length := by
    rw [List.length_append]
    simp only [List.length_singleton]
    omega
  have q2 : ((some #[u0] : Option (Array Value)).getD #[]).toList = [u0] := rfl
  have q3 : (ps0 ++ [x]).length = ps0.length + 1 := by simp
  have q4 : (ps0.filter fun n => (List.lookup n ((ps0 ++ [x]).zip us)).isNone) = [] := by
    rw [List.filter_eq_nil_iff]
    intro n hn
    have := e6 n hn
    simp [Option.isNone_iff_eq_none, Option.isSome_iff_ne_none.mp this]
  have q5 : 1 - (ps0.length + 1) = 0 := by omega
  simp only [q1, q2, q3, q5, q4, List.length_singleton, List.drop_zero, Nat.add_sub_cancel, List.take_left, List.drop_left, decide_false, Bool.false_and, Bool.false_eq_true, if_false, List.isEmpty_nil, Bool.not_true, List.zip_cons_cons, List.zip_nil_left, List.forIn_cons, List.forIn_nil, pure_bind, List.append_nil]
  rcases hl with ⟨l, rfl⟩ | ⟨l, rfl⟩
  · have e7 : (ps0 ++ [x]).zip us = ps0.zip us := by
      have q := List.zip_append (l₁ := ps0) (r₁ := [x]) (l₂ := us) (r₂ := []) l.symm
      simpa using q
    have e8 : (ps0 ++ [x]).zip (us ++ [u0]) = ps0.zip us ++ [(x, u0)] := by
      have q := List.zip_append (l₁ := ps0) (r₁ := [x]) (l₂ := us) (r₂ := [u0]) l.symm
      simpa using q
    have hx : x ∉ ps0 := fun z => (List.nodup_append.mp nd).2.2 x z x (by simp) rfl
    have e9 : List.lookup x (ps0.zip us) = none := by
      cases q : List.lookup x (ps0.zip us) with
      | none => rfl
      | some v => exact (hx (List.of_mem_zip (PySem.mem_of_lookup q)).1).elim
    rw [e7] at *
    have q6 : ¬ ps0.length + 1 < us.length := by omega
    rw [List.filterMap_append] at e5
    simp [e9, ← e8, q6, e5]
  · have e9 : (List.lookup x ((ps0 ++ [x]).zip us')).isSome = true := look_zip (by simp) e4
    have e10 : (List.lookup x ((ps0 ++ [x]).zip us')).isNone = false := by
      rw [Option.isSome_iff_ne_none] at e9
      simpa [Option.isNone_iff_eq_none] using e9
    have q6 : ¬ ps0.length + 1 < us'.length := by omega
    rw [List.filterMap_append] at e5
    simp [e10, q6, e5]
theorem zip_snoc {ps0 : List Str} {x : Str} {us : List Value} {v : Value} (l : us.length = ps0.length) : (ps0 ++ [x]).zip (us ++ [v]) = ps0.zip us ++ [(x, v)] := by
  have q := List.zip_append (l₁ := ps0) (r₁ := [x]) (l₂ := us) (r₂ := [v]) l.symm
  simpa using q
theorem loop_id : ∀ (L : List (Str × Value)) (S : List (Str × Value)), (∀ p ∈ L, (S.lookup p.1).isSome = true) → (forIn L S fun (a : Str × Value) (b : List (Str × Value)) => if (List.lookup a.fst b).isNone = true then (pure (ForInStep.yield (b ++ [(a.fst, a.snd)])) : Sem _) else pure (ForInStep.yield b)) = pure S
  | [], S, h => rfl
  | p :: L, S, h => by
    have h1 := h p List.mem_cons_self
    have h2 : (List.lookup p.1 S).isNone = false := by
      rw [Option.isSome_iff_ne_none] at h1
      simpa [Option.isNone_iff_eq_none] using h1
    rw [List.forIn_cons, h2]
    simp only [Bool.false_eq_true, if_false, pure_bind]
    exact loop_id L S fun q hq => h q (List.mem_cons_of_mem _ hq)
theorem bind_kw {name qual : Str} {a : Arguments} {ps0 : List Str} {x : Str} {body : List Stmt} {scope : Scope} {dV kV doc pm : Value} {an : Option Addr} {cdv ct v : Value} {us : List Value} {n : Nat} (h : plainPd a (ps0 ++ [x]) n = true) (nd : (ps0 ++ [x]).Nodup) (hl : us.length = ps0.length) :
    ∃ k, bindArgs (PySem.W.fnOf name qual a body scope dV kV doc pm an cdv ct) ⟨us, [(x, v)]⟩ = seqItems? dV >>= k ∧ ∀ o : Option (Array Value), k o = pure ((ps0 ++ [x]).zip (us ++ [v])) := by
  obtain ⟨po, as, va, ko, kd, kw, df⟩ := a
  unfold plainPd at h
  simp only [Bool.and_eq_true, List.isEmpty_iff, Option.isNone_iff_eq_none, decide_eq_true_eq] at h
  obtain ⟨⟨⟨⟨⟨⟨rfl, h2⟩, rfl⟩, rfl⟩, rfl⟩, rfl⟩, h3⟩ := h
  have e4 : (us ++ [v]).length = (ps0 ++ [x]).length := by simp [hl]
  have e5 := zip_back nd e4
  have e7 : (ps0 ++ [x]).zip us = ps0.zip us := by
    have q := List.zip_append (l₁ := ps0) (r₁ := [x]) (l₂ := us) (r₂ := []) hl.symm
    simpa using q
  have e8 := zip_snoc (x := x) (v := v) hl
  have hx : x ∉ ps0 := fun z => (List.nodup_append.mp nd).2.2 x z x (by simp) rfl
  have e9 : List.lookup x (ps0.zip us) = none := by
    cases q : List.lookup x (ps0.zip us) with
    | none => rfl
    | some v => exact (hx (List.of_mem_zip (PySem.mem_of_lookup q)).1).elim
  have e6 : ∀ n ∈ ps0 ++ [x], (((ps0 ++ [x]).zip (us ++ [v])).lookup n).isSome = true := fun n hn => look_zip hn e4
  unfold bindArgs PySem.W.fnOf
  dsimp only
  rw [List.map_nil, List.nil_append, h2, e7]
  have c1 : (ps0 ++ [x]).contains x = true := by simp
  simp only [List.forIn_cons, List.forIn_nil, c1, Bool.true_or, if_true, e9, Option.isSome_none, Bool.false_eq_true, if_false, pure_bind]
  refine ⟨_, rfl, fun o => ?_⟩
  rw [← e8]
  have q1 : ¬ us.length > (ps0 ++ [x]).length := by
    rw [List.length_append]
    simp only [List.length_singleton]
    omega
  have q4 : ∀ m : Nat, (((ps0 ++ [x]).take m).filter fun n => (List.lookup n ((ps0 ++ [x]).zip (us ++ [v]))).isNone) = [] := by
    intro m
    rw [List.filter_eq_nil_iff]
    intro n hn
    have := e6 n (List.mem_of_mem_take hn)
    simp [Option.isNone_iff_eq_none, Option.isSome_iff_ne_none.mp this]
  have q5 : ∀ (m : Nat) (L : List Value), (forIn (((ps0 ++ [x]).drop m).zip L) ((ps0 ++ [x]).zip (us ++ [v])) fun (a : Str × Value) (b : List (Str × Value)) => if (List.lookup a.fst b).isNone = true then (pure (ForInStep.yield (b ++ [(a.fst, a.snd)])) : Sem _) else pure (ForInStep.yield b)) = pure ((ps0 ++ [x]).zip (us ++ [v])) := fun m L =>
    loop_id _ _ fun p hp => e6 _ (List.mem_of_mem_drop (List.of_mem_zip hp).1)
  simp only [q1, q4, decide_false, Bool.false_and, Bool.false_eq_true, if_false, List.isEmpty_nil, Bool.not_true, List.append_nil]
  rw [q5]
  simp only [pure_bind, e5]
theorem plainPd_zero {a : Arguments} {ps : List Str} (h : plainPd a ps 0 = true) : plainPs a ps = true := by
  unfold plainPd at h
  unfold plainPs
  simp only [Bool.and_eq_true, decide_eq_true_eq] at h ⊢
  obtain ⟨h1, h2⟩ := h
  exact ⟨h1, by rw [List.isEmpty_iff]; exact List.eq_nil_of_length_eq_zero h2⟩
def constD : D → Bool
  | .non => true
  | .bl _ => true
  | .int _ => true
  | .str _ => true
  | _ => false
def dvD : D → He.Dv
  | .bl b => .bl b
  | .int i => .int i
  | .str x => .str x
  | _ => .non
theorem const_rep [TBS] {K : PySem.W.Frag} {H : Hp} {ra : List Addr} {d : D} (h : constD d = true) : RepV K H ra d ((dvD d).v K) := by
  cases d <;> first | rfl | cases h
inductive GV where
  | int (i : Int) | str (z : Str) | dat (d : D) | gdt (ks : List Str) (vs : List D)
def GV.d : GV → D
  | .int i => .int i
  | .str z => .str z
  | .dat d => d
  | .gdt ks vs => .gd ks vs
def GV.fa (x : Str) : GV → He.Fa
  | .int i => .int x i
  | .str z => .str x z
  | .dat _ => .glo x
  | .gdt _ _ => .glo x
mutual
def konB (K : PySem.W.Frag) : D → Value → Bool
  | .non, v => (match v with
    | .none => true
    | _ => false)
  | .bl b, v => (match v with
    | .bool c => decide (b = c)
    | _ => false)
  | .int i, v => (match v with
    | .int j _ => decide (i = j)
    | _ => false)
  | .str x, v => (match v with
    | .str y _ => decide (x = y)
    | _ => false)
  | .tup l, v => (match v with
    | .ref a => (match K.lookup a with
      | some ⟨.type c, _, .seq its _, _⟩ => decide (c = "tuple") && (decide (its.size ≤ sizeLine) && konsB K l its.toList)
      | _ => false)
    | _ => false)
  | _, _ => false
def konsB (K : PySem.W.Frag) : List D → List Value → Bool
  | [], us => us.isEmpty
  | d :: ds, us => (match us with
    | u :: r => konB K d u && konsB K ds r
    | [] => false)
end
def keyS (e : DictEntry) : Option Str := match e.key with
  | .str x _ => some x
  | _ => none
def gdB (K : PySem.W.Frag) (a : Addr) (ks : List Str) (vs : List D) : Bool := match K.lookup a with
  | some ⟨_, _, .dict es _, _⟩ => decide (es.toList.map keyS = ks.map some) && konsB K vs (es.toList.map (·.val))
  | _ => false
def glsB (K : PySem.W.Frag) (gl : List (Str × GV)) : Bool := gl.all fun p => match p.2 with
  | .dat d => (match PySem.W.nsIn K mainGlobals p.1 with
    | some (some u) => konB K d u
    | _ => false)
  | .gdt ks vs => gdB K (He.ga K p.1) ks vs
  | _ => true
section
variable [TBS]
mutual
theorem konB_ok {K : PySem.W.Frag} : ∀ (d : D) (u : Value), konB K d u = true → ∃ v, RelV v u ∧ ∀ H ra, RepV K H ra d v
  | .non, u, h => by
    cases u <;> simp only [konB, Bool.false_eq_true] at h
    exact ⟨.non, rfl, fun H ra => rfl⟩
  | .bl b, u, h => by
    cases u <;> simp only [konB, Bool.false_eq_true, decide_eq_true_eq] at h
    subst h
    exact ⟨.bl b, rfl, fun H ra => rfl⟩
  | .int i, u, h => by
    cases u <;> simp only [konB, Bool.false_eq_true, decide_eq_true_eq] at h
    subst h
    exact ⟨.int i, ⟨_, rfl⟩, fun H ra => rfl⟩
  | .str i, u, h => by
    cases u <;> simp only [konB, Bool.false_eq_true, decide_eq_true_eq] at h
    subst h
    exact ⟨.str i, ⟨_, rfl⟩, fun H ra => rfl⟩
  | .tup l, u, h => by
    unfold konB at h
    split at h
    · rename_i a
      split at h
      · rename_i c od its n sl hk
        rw [Bool.and_eq_true, Bool.and_eq_true, decide_eq_true_eq, decide_eq_true_eq] at h
        obtain ⟨rfl, hz, h⟩ := h
        obtain ⟨vs, hv, hr⟩ := konsB_ok l its.toList h
        exact ⟨.ref a, rfl, fun H ra => ⟨a, vs, rfl, .inr ⟨_, its, n, hk, rfl, rfl, hz, hv⟩, hr H ra⟩⟩
      · cases h
    · cases h
  | .ref n, u, h => by simp [konB] at h
  | .frz l, u, h => by simp [konB] at h
  | .gd ks vs, u, h => by simp [konB] at h
theorem konsB_ok {K : PySem.W.Frag} : ∀ (l : List D) (us : List Value), konsB K l us = true → ∃ vs, Vals vs us ∧ ∀ H ra, RepL K H ra l vs
  | [], us, h => by
    simp only [konsB, List.isEmpty_iff] at h
    subst h
    exact ⟨[], .nil, fun H ra => rfl⟩
  | d :: ds, us, h => by
    cases us with
    | nil => simp [konsB] at h
    | cons u r =>
      simp only [konsB, Bool.and_eq_true] at h
      obtain ⟨v, h1, h2⟩ := konB_ok d u h.1
      obtain ⟨vs, h3, h4⟩ := konsB_ok ds r h.2
      exact ⟨v :: vs, .cons h1 h3, fun H ra => ⟨v, vs, rfl, h2 H ra, h4 H ra⟩⟩
end
theorem isStr_keyS {e : DictEntry} {x z : Str} (h : keyS e = some x) : e.key.isStr z = decide (x = z) := by
  unfold keyS at h
  split at h
  · rename_i y t q
    cases h
    rw [q, PySem.W.isStr_of]
    show (x == z) = decide (x = z)
    by_cases c : x = z
    · subst c
      rw [decide_eq_true rfl]
      exact beq_self_eq_true _
    · rw [decide_eq_false c]
      exact beq_eq_false_iff_ne.mpr c
  · cases h
theorem gd_find {K : PySem.W.Frag} (z : Str) : ∀ (es : List DictEntry) (ks : List Str) (vs : List D), es.map keyS = ks.map some → konsB K vs (es.map (·.val)) = true →
    (∀ d, valD (ks.zip vs) z = some d → ∃ e v, es.find? (·.key.isStr z) = some e ∧ RelV v e.val ∧ ∀ H ra, RepV K H ra d v) ∧ (valD (ks.zip vs) z = none → es.find? (·.key.isStr z) = none)
  | [], ks, vs, h1, h2 => by
    have e1 : ks = [] := by cases ks <;> simp at h1 ⊢
    subst e1
    exact ⟨fun d q => by simp [valD] at q, fun _ => rfl⟩
  | e :: es, ks, vs, h1, h2 => by
    cases ks with
    | nil => simp at h1
    | cons k ks =>
      simp only [List.map_cons, List.cons.injEq] at h1
      cases vs with
      | nil => simp [konsB] at h2
      | cons d vs =>
        simp only [List.map_cons, konsB, Bool.and_eq_true] at h2
        obtain ⟨i1, i2⟩ := gd_find z es ks vs h1.2 h2.2
        have hk := isStr_keyS (z := z) h1.1
        by_cases c : k = z
        · have e1 : valD ((k :: ks).zip (d :: vs)) z = some d := by simp [valD, c]
          have e2 : (e :: es).find? (·.key.isStr z) = some e := by rw [List.find?_cons, hk, decide_eq_true c]
          rw [e1, e2]
          obtain ⟨v, r1, r2⟩ := konB_ok d e.val h2.1
          exact ⟨fun d' q => by cases q; exact ⟨e, v, rfl, r1, r2⟩, fun q => by cases q⟩
        · have e1 : valD ((k :: ks).zip (d :: vs)) z = valD (ks.zip vs) z := by simp [valD, c]
          have e2 : (e :: es).find? (·.key.isStr z) = es.find? (·.key.isStr z) := by rw [List.find?_cons, hk, decide_eq_false c]
          rw [e1, e2]
          exact ⟨i1, i2⟩
theorem gdB_ok {K : PySem.W.Frag} {w : World} {a : Addr} {ks : List Str} {vs : List D} (h : gdB K a ks vs = true) (hk : ∃ es n, KDict K w a es n) (z : Str) : (∀ d, valD (ks.zip vs) z = some d → ∃ v u, PySem.W.nsIn K a z = some (some u) ∧ RelV v u ∧ ∀ H ra, RepV K H ra d v) ∧
    (valD (ks.zip vs) z = none → PySem.W.nsIn K a z = some none) := by
  obtain ⟨es, n, kd⟩ := hk
  unfold gdB at h
  rw [kd.at_] at h
  simp only [Bool.and_eq_true, decide_eq_true_eq] at h
  obtain ⟨h1, h2⟩ := gd_find z es.toList ks vs h.1 h.2
  constructor
  · intro d q
    obtain ⟨e, v, e1, r1, r2⟩ := h1 d q
    refine ⟨v, e.val, ?_, r1, r2⟩
    unfold PySem.W.nsIn
    rw [kd.at_]
    simp only [e1]
  · intro q
    have e1 := h2 q
    unfold PySem.W.nsIn
    rw [kd.at_]
    simp only [e1]
    rw [if_neg]
    intro c
    obtain ⟨e, he, hr⟩ := List.any_eq_true.mp c
    obtain ⟨x, t, ek, _⟩ := PySem.W.KeysLit.all kd.lit e he
    unfold DictEntry.refKey at hr
    rw [ek] at hr
    cases hr
end
structure FnE where
  nm : Str
  st : Stmt
  ps : List Str
  N : List Str
  fd : FD
  
  gn : Str
  
  qn : Str
  
  ow : Option Str
  
  dv : List D
def FnE.at_ (e : FnE) : Str × Option Str := match e.ow with
  | none => (e.gn, none)
  | some c => (c, some e.nm)
def FnE.dd (e : FnE) : He.DefD := ⟨e.at_, e.nm, e.qn, defArgs e.st, defBody e.st, defScope e.st, e.dv.map dvD, []⟩
structure ExT where
  xs : List Str
  base : Str
  ini : Stmt
  qual : Str
  
  lm : List (Str × (Str × Option Str) × Str) := []
  
  gs : List (Str × GV) := []
  
  lams : List FD := []
  
  ob : List (Str × List Str × List Str) := []
def ExT.lms (T : ExT) : List Str := T.lm.map (·.1)
def ExT.dts (T : ExT) : List He.Tab := T.gs.filterMap fun p => match p.2 with
  | .gdt ks _ => some ((fun K => He.ga K p.1), ks)
  | _ => none
def cfg0 (tab : List FnE) (gl : List (Str × GV)) (T : ExT) (F : Nat) : Cfg where
  fname := fun f => ((tab[f]?).map (·.gn)).getD (default : Str)
  gname := fun g => ((gl[g]?).map (·.1)).getD (default : Str)
  cls := T.xs
  base := T.base
  P := fun f => match tab[f]? with
    | some e => some e.fd
    | none => T.lams[f - tab.length]?
  G := fun g => (gl[g]?).map (·.2.d)
  F := F
  mks := fun sc => (tab.any fun e => T.lms.contains e.gn && decide (defScope e.st = sc)) && tab.all fun e => T.lms.contains e.gn || !decide (defScope e.st = sc)
  mkr := fun x => T.lm.contains x
  n := tab.length
  own := fun f => (tab[f]?).bind fun e => e.ow.map fun c => ((T.ob.map (·.1)).idxOf c, e.nm)
  fld := fun c f => match T.ob[c]? with
    | some p => p.2.1.contains f
    | none => false
  cln := fun c => ((T.ob[c]?).map (·.1)).getD (default : Str)
  dv := fun f => ((tab[f]?).map (·.dv)).getD []
  prm := fun f => ((tab[f]?).map (·.ps)).getD []
  nob := T.ob.length
  mok := fun c m => T.ob.any fun p => decide (p.1 = c) && p.2.2.contains m
def cfgOf (tab : List FnE) (gl : List (Str × GV)) (T : ExT) (F : Nat) : Cfg := { cfg0 tab gl T F with lc := lamOk (cfg0 tab gl T F).bare }
def scopeB (N ps : List Str) (sc : Scope) : Bool := (sc.kind == .function) && !sc.isCoroutine && !sc.isGenerator && decide N.Nodup && decide (N.take ps.length = ps) &&
  ps.all (fun x => decide (sc.names.lookup x = some .local) || decide (sc.names.lookup x = some .cell)) && sc.names.all fun y => decide (y.2 ≠ .free)
theorem scopeB_ok {N ps : List Str} {sc : Scope} (h : scopeB N ps sc = true) : FnScope N ps sc := by
  unfold scopeB at h
  simp only [Bool.and_eq_true, Bool.not_eq_true', decide_eq_true_eq, List.all_eq_true, Bool.or_eq_true, beq_iff_eq] at h
  obtain ⟨⟨⟨⟨⟨⟨h1, h2⟩, h3⟩, h4⟩, h5⟩, h6⟩, h7⟩ := h
  exact ⟨h1, h2, h3, h4, h5, h6, h7⟩
def FnE.okN (M : Cfg) (e : FnE) : Bool := plainPd (defArgs e.st) e.ps e.dv.length && decide e.ps.Nodup && scopeB e.N e.ps (defScope e.st) && decide (e.fd.np = e.ps.length) && decide (e.fd.nv = e.N.length) && mB (M.wna e.fd.cl) e.N (defScope e.st) e.fd.body (defBody e.st)
def FnE.okO (M : Cfg) (e : FnE) : Bool := (match e.ow with
  | none => true
  | some c => M.mok c e.nm) && e.dv.all constD && decide (e.dv.length ≤ e.ps.length) && decide (e.dv.length ≤ 1)
def FnE.ok (M : Cfg) (e : FnE) : Bool := (decide (M.n ≤ 500000) && (M.mkr (e.gn, e.at_, e.qn) || !M.mks (defScope e.st))) && (e.fd.cl.all (fun i => decide (i < e.fd.np)) && (e.okO M && e.okN M))
theorem FnE.ok_n {M : Cfg} {e : FnE} (h : e.ok M = true) : e.okN M = true := by
  unfold FnE.ok at h
  simp only [Bool.and_eq_true] at h
  exact h.2.2.2
theorem FnE.ok_o {M : Cfg} {e : FnE} (h : e.ok M = true) : (∀ c, e.ow = some c → M.mok c e.nm = true) ∧ (∀ d ∈ e.dv, constD d = true) ∧ e.dv.length ≤ e.ps.length ∧ e.dv.length ≤ 1 := by
  unfold FnE.ok at h
  have h := (Bool.and_eq_true_iff.mp (Bool.and_eq_true_iff.mp (Bool.and_eq_true_iff.mp h).2).2).1
  unfold FnE.okO at h
  rw [Bool.and_eq_true, Bool.and_eq_true, Bool.and_eq_true, decide_eq_true_eq, decide_eq_true_eq, List.all_eq_true] at h
  refine ⟨fun c e1 => ?_, h.1.1.2, h.1.2, h.2⟩
  have := h.1.1.1
  rw [e1] at this
  exact this
theorem FnE.ok_cl {M : Cfg} {e : FnE} (h : e.ok M = true) : ∀ i ∈ e.fd.cl, i < e.fd.np := by
  unfold FnE.ok at h
  simp only [Bool.and_eq_true] at h
  intro i hi
  simpa using List.all_eq_true.mp h.2.1 i hi
section
variable [TBS]
variable {M : Cfg} {prog : Program} {w : World} {K : PySem.W.Frag} {mg : Str → Option Value} {base : Heap}
structure Facts (M : Cfg) (tab : List FnE) (K : PySem.W.Frag) (mg : Str → Option Value) : Prop where
  blt : ∀ x ∈ bltNames, mg x = none
  glob : ∀ g d, M.G g = some d → ∃ v u, mg (M.gname g) = some u ∧ RelV v u ∧ ∀ H ra, RepV K H ra d v
  fns : ∀ (f : Nat) (e : FnE), tab[f]? = some e → M.P f = some e.fd ∧ M.fname f = e.gn ∧ e.ok M = true ∧ (M.own f = none ↔ e.ow = none) ∧ ∃ a fd, a = He.fAd K e.at_ ∧ (e.ow = none → mg e.gn = some (.ref a)) ∧ (∀ c m, M.own f = some (c, m) → ∃ C, TBS.cl c C ∧ Meth K C m a) ∧ FunD K e.nm e.qn (defArgs e.st) (defBody e.st) (defScope e.st) (e.dv.map fun d => (dvD d).v K) [] a fd
  all : ∀ f, f < M.n → ∃ e, tab[f]? = some e
  dvs : ∀ (f : Nat) (e : FnE), tab[f]? = some e → M.dv f = e.dv
  prms : ∀ (f : Nat) (e : FnE), tab[f]? = some e → M.prm f = e.ps
  exc : ∀ (c : Nat) (x : Str), M.cls[c]? = some x → ∃ C, mg x = some (.ref C) ∧ ∀ (prog : Program) (w : World) (base : Heap), XF prog w K mg base C
  rel : ∀ (c : Nat) (x : Str) (c2 : Nat) (x2 : Str) (C C2 : Addr), M.cls[c]? = some x → M.cls[c2]? = some x2 → mg x = some (.ref C) → mg x2 = some (.ref C2) → PySem.W.exmOne K (.ref C) (.ref C2) = some (decide (c = c2)) ∧ PySem.W.kitOne K (.ref C) (.ref C2) = some (decide (c = c2))
  bas : ∃ B, mg M.base = some (.ref B) ∧ ∀ (c : Nat) (x : Str) (C : Addr), M.cls[c]? = some x → mg x = some (.ref C) → PySem.W.exmOne K (.ref C) (.ref B) = some true ∧ PySem.W.kitOne K (.ref C) (.ref B) = some true
theorem Facts.dv_ {tab : List FnE} (F : Facts M tab K mg) {f : Nat} {e : FnE} {ds : List D} (he : tab[f]? = some e) (h : dfOk M f ds = true) : ds = e.dv.drop (e.dv.length - ds.length) := by
  unfold dfOk at h
  rw [F.dvs f e he] at h
  exact of_decide_eq_true h
theorem binds_d {e : FnE} {a : Addr} {fdat : FuncData} (FD : FunD K e.nm e.qn (defArgs e.st) (defBody e.st) (defScope e.st) (e.dv.map fun d => (dvD d).v K) [] a fdat) (h : plainPd (defArgs e.st) e.ps e.dv.length = true) (nd : e.ps.Nodup) (hc : ∀ d ∈ e.dv, constD d = true) (h1 : e.dv.length ≤ e.ps.length) (h2 : e.dv.length ≤ 1)
    {ds : List D} (hd : ds = e.dv.drop (e.dv.length - ds.length)) : ∃ vs us, Vals vs us ∧ (∀ H ra, RepL K H ra ds vs) ∧ Binds K fdat e.ps us := by
  match hv : e.dv with
  | [] =>
    rw [hv] at h hd FD
    have hd : ds = [] := by simpa using hd
    subst hd
    exact ⟨[], [], .nil, fun H ra => rfl, FD.bindsN fun kV doc pm an cdv ct us hl => bind_plain (plainPd_zero h) nd hl⟩
  | [d] =>
    rw [hv] at h hd FD h1
    have cd : constD d = true := hc d (by rw [hv]; simp)
    obtain ⟨ps0, x, hps⟩ : ∃ ps0 x, e.ps = ps0 ++ [x] := by
      rcases List.eq_nil_or_concat e.ps with z | ⟨l, b, z⟩
      · rw [z] at h1
        simp at h1
      · exact ⟨l, b, by simpa using z⟩
    have hlen : ds = [] ∨ ds = [d] := by
      cases ds with
      | nil => exact .inl rfl
      | cons y r =>
        right
        have e1 : [d].length - (y :: r).length = 0 := by simp only [List.length_cons, List.length_nil]; omega
        rw [e1] at hd
        exact hd
    rw [hps] at h nd ⊢
    have one : ∀ {its : List Value}, its.length = (List.map (fun d => (dvD d).v K) [d]).length → ∃ u0, its = [u0] := fun {its} q => by
      match its, q with
      | [u0], _ => exact ⟨u0, rfl⟩
    rcases hlen with rfl | rfl
    · obtain ⟨us, hv2, hb⟩ := FD.binds1 (ps := ps0 ++ [x]) (ps0.length + 1) 1 (by simp) (by simp) (fun T kV doc pm an cdv ct us its hu hi => by
        obtain ⟨u0, rfl⟩ := one hi
        simpa using bind_one (u0 := u0) h nd (.inr ⟨hu, rfl⟩))
      exact ⟨_, us, hv2, fun H ra => rfl, hb⟩
    · obtain ⟨us, hv2, hb⟩ := FD.binds1 (ps := ps0 ++ [x]) ps0.length 0 (by simp) (by simp) (fun T kV doc pm an cdv ct us its hu hi => by
        obtain ⟨u0, rfl⟩ := one hi
        simpa using bind_one (u0 := u0) h nd (.inl ⟨hu, rfl⟩))
      exact ⟨_, us, hv2, fun H ra => ⟨_, _, rfl, const_rep cd, rfl⟩, hb⟩
  | _ :: _ :: _ => rw [hv] at h2; simp at h2
theorem binds_kw {e : FnE} {a : Addr} {fdat : FuncData} (FD : FunD K e.nm e.qn (defArgs e.st) (defBody e.st) (defScope e.st) (e.dv.map fun d => (dvD d).v K) [] a fdat) (h : plainPd (defArgs e.st) e.ps e.dv.length = true) (nd : e.ps.Nodup) {x : Str} (hx : e.ps.getLast? = some x) (s : Shared) (us : List Value) (v : Value) (hK : K.In s.heap) (hl : us.length + 1 = e.ps.length) : BindsTo s fdat ⟨us, [(x, v)]⟩ (e.ps.zip (us ++ [v])) := by
  obtain ⟨ps0, hps⟩ : ∃ ps0, e.ps = ps0 ++ [x] := by
    rcases List.eq_nil_or_concat e.ps with z | ⟨l, b, z⟩
    · rw [z] at hx
      simp at hx
    · have z : e.ps = l ++ [b] := by simpa using z
      rw [z] at hx
      simp at hx
      exact ⟨l, by rw [z, hx]⟩
  rw [hps] at h nd hl ⊢
  obtain ⟨oc, od, dV, kV, doc, pm, an, cdv, ct, osl, rfl, lk, hcd, hD, hK2⟩ := FD.ex
  obtain ⟨k, e1, e2⟩ := bind_kw (name := e.nm) (qual := e.qn) (body := defBody e.st) (scope := defScope e.st) (dV := dV) (kV := kV) (doc := doc) (pm := pm) (an := an) (cdv := cdv) (ct := ct) (v := v) (us := us) h nd (by simpa using hl)
  refine BindsTo.of_looks fun M => ?_
  rw [e1]
  rcases hD with ⟨_, rfl⟩ | ⟨_, T, o, its, m, rfl, lT, oT, rT⟩
  · exact .of_pure (e2 none)
  · exact looks_items hK lT oT (.of_pure (e2 (some its.toArray)))
theorem Facts.exc1 {tab : List FnE} (F : Facts M tab K mg) (c : Nat) (x : Str) (h : M.cls[c]? = some x) : ∃ C, mg x = some (.ref C) ∧ XF prog w K mg base C := let ⟨C, h1, h2⟩ := F.exc c x h; ⟨C, h1, h2 prog w base⟩
theorem start_get {N : List Str} {vs : List V} {i : Nat} {v : V} (h : vs[i]? = some v) : (L2.start N vs)[i]? = some (some v) := by
  have hi : i < vs.length := (List.getElem?_eq_some_iff.mp h).1
  unfold L2.start
  rw [List.getElem?_append_left (by simpa using hi), List.getElem?_map, h]
  rfl
theorem wipeE_get {ρ : Env} {i : Nat} {d : D} : ∀ {vs : List Nat}, (wipeE ρ vs)[i]? = some (some d) → i ∉ vs ∧ ρ[i]? = some (some d)
  | [], h => ⟨by simp, h⟩
  | v :: vs, h => by
    unfold wipeE at h
    by_cases c : v = i
    · subst c
      by_cases hl : v < (wipeE ρ vs).length
      · rw [List.getElem?_set_self hl] at h
        cases h
      · rw [List.getElem?_eq_none (by simpa using hl)] at h
        cases h
    · rw [List.getElem?_set_ne c] at h
      obtain ⟨a, b⟩ := wipeE_get h
      exact ⟨fun z => by
        rcases List.mem_cons.mp z with z | z
        · exact c z.symm
        · exact a z, b⟩
abbrev cloI (M : Cfg) (mg : Str → Option Value) (Γ : List (Nat × D)) : CLO := ⟨Γ, fun K H ra d v => CloV M mg K H ra d v, fun k p z => CloV.keep k p z⟩
theorem gamma_mem {cl : List Nat} {ds : List D} {p : Nat × D} (h : p ∈ gamma cl ds) : p.1 ∈ cl ∧ ds[p.1]? = some p.2 := by
  obtain ⟨i, hi, e⟩ := List.mem_filterMap.mp h
  cases q : ds[i]? with
  | none => rw [q] at e; cases e
  | some d =>
    rw [q] at e
    cases e
    exact ⟨hi, q⟩
theorem mem_gamma {cl : List Nat} {ds : List D} {i : Nat} {d : D} (hi : i ∈ cl) (h : ds[i]? = some d) : (i, d) ∈ gamma cl ds := List.mem_filterMap.mpr ⟨i, hi, by rw [h]; rfl⟩
theorem erel_start {H : Hp} {ra : List Addr} {N : List Str} {ds : List D} {vs : List V} {n : Nat} {cl : List Nat} (r : RepAs M mg cl K H ra ds vs) (hn : ds.length ≤ N.length) (hl : n = N.length - ds.length) :
    @ERel _ (cloI M mg (gamma cl ds)) K H ra (hideL cl (ds.map some ++ List.replicate n none)) (L2.start N vs) := by
  have hv := r.1
  letI : CLO := cloI M mg (gamma cl ds)
  refine ⟨?_, fun i d e => ?_, fun p hp => ?_⟩
  · unfold L2.start hideL
    rw [wipeE_length]
    simp only [List.length_append, List.length_map, List.length_replicate]
    omega
  · obtain ⟨hi0, e⟩ := wipeE_get e
    by_cases hi : i < ds.length
    · rw [List.getElem?_append_left (by simpa using hi), List.getElem?_map] at e
      cases q : ds[i]? with
      | none => rw [q] at e; cases e
      | some d' =>
        rw [q] at e
        cases e
        have hvi : vs[i]? = some vs[i] := List.getElem?_eq_getElem (by omega)
        have := r.2 i d _ q hvi
        rw [if_neg hi0] at this
        exact ⟨_, start_get hvi, this⟩
    · rw [List.getElem?_append_right (by simpa using hi), List.getElem?_replicate] at e
      split at e <;> cases e
  · obtain ⟨h1, h2⟩ := gamma_mem hp
    have hi := (List.getElem?_eq_some_iff.mp h2).1
    have hvi : vs[p.1]? = some vs[p.1] := List.getElem?_eq_getElem (by omega)
    have := r.2 p.1 p.2 _ h2 hvi
    rw [if_pos h1] at this
    exact ⟨_, start_get hvi, this⟩
theorem post_done [CLO] {M : Cfg} {X : Cx} {E : XK} {H : Hp} {ra : List Addr} {s : Store} {r : RS} {Q : VK} (R : SRel X.K H ra s) (p : PostR M X.mg X.K (fun cls d _ H' => E cls d H') [] (RepV X.K) H ra (done s r) Q) :
    PostS M X (fun cls d _ H' => E cls d H') { nx := fun _ H' => Q .non H', rt := Q } H ra r := by
  cases r with
  | nx ρ s1 =>
    intro σ' rb H' k pf R' e'
    obtain ⟨rc, pc, Rc, rv⟩ := SRel.trunc (d := .non) (v := .non) R R' pf rfl
    exact p .non rc H' k pc Rc rv
  | ret d s1 =>
    intro v rb H' k pf R' rv
    obtain ⟨rc, pc, Rc, rv⟩ := SRel.trunc R R' pf d v rv
    exact p v rc H' k pc Rc rv
  | exc c w ρ s1 =>
    intro cls dd σ' rb H' k pf R' e' ⟨C, d, v, h1, h2, h3, h4, h5⟩
    obtain ⟨rc, pc, Rc, rv⟩ := SRel.trunc R R' pf w v h5
    exact p cls dd rc H' k pc Rc ⟨C, d, v, h1, h2, h3, h4, rv⟩
  | brk ρ s1 => exact (show False from p).elim
  | cnt ρ s1 => exact (show False from p).elim
  | bad => exact p
def MakerC (base : Heap) (mg : Str → Option Value) (q : Str) (cdv : Value) : Prop := ∃ c P, cdv = .ref c ∧ LamX.TabB base mg c P ∧ (P, (envOfC q (default : Scope) 0 0 cdv).qual ++ "<lambda>") ∈ TBS.T ∧ ∀ p ∈ TBS.T, p.1 = P → p.2 = (envOfC q (default : Scope) 0 0 cdv).qual ++ "<lambda>"
theorem clsAt_wna {l : List Nat} {c : Nat} {C : Addr} (h : ClsAt M K mg c C) : ClsAt (M.wna l) K mg c C := ⟨h.cls, h.mak, h.kp, h.at_, h.fld, h.ins⟩
theorem clsAt_bare {c : Nat} {C : Addr} (h : ClsAt M K mg c C) : ClsAt M.bare K mg c C := ⟨h.cls, h.mak, h.kp, h.at_, h.fld, h.ins⟩
theorem Stat.wna {k : Nat} {l : List Nat} (h : Stat M prog w K mg base k) : Stat (M.wna l) prog w K mg base k := ⟨h.blt, h.glob, h.fns, fun c C z => clsAt_wna (h.obs c C z), h.exi, h.one, h.nfs, h.exc, h.rel, h.bas, h.lam, h.lco, h.far, h.low, h.gds, h.fnr⟩
theorem cloV_bare {H : Hp} {ra : List Addr} {d : D} {v : V} (h : CloV M.bare mg K H ra d v) : CloV M mg K H ra d v := by
  rcases h with ⟨id, cs, e, h | h⟩ | h
  · exact .inl ⟨id, cs, e, .inl h⟩
  rotate_left
  · exact .inr h
  · obtain ⟨_, _, _, _, _, _, _, _, _, _, _, _, _, _, _, h, _⟩ := h
    cases h
theorem Stat.bare {k : Nat} (h : Stat M prog w K mg base k) : Stat M.bare prog w K mg base k where
  blt := h.blt
  fnr := h.fnr
  glob := h.glob
  fns := fun f fd hf hn => by
    obtain ⟨a, fdat, ps, h1, h2, h3, h4⟩ := h.fns f fd hf hn
    refine ⟨a, fdat, ps, h1, h2, h3, h4.imp fun vs H Q E ⟨ra, ds, s, z1, z2, z3⟩ => ⟨ra, ds, s, z1, ⟨z2.1, fun i d v e1 e2 => ?_⟩, z3⟩⟩
    have z := z2.2 i d v e1 e2
    by_cases hm : i ∈ clsF M f
    · rw [if_pos (show i ∈ clsF M.bare f from hm)] at z
      rw [if_pos hm]
      exact cloV_bare z
    · rw [if_neg (show ¬ i ∈ clsF M.bare f from hm)] at z
      rw [if_neg hm]
      exact z
  obs := fun c C z => clsAt_bare (h.obs c C z)
  exi := h.exi
  one := h.one
  nfs := h.nfs
  exc := h.exc
  rel := h.rel
  bas := h.bas
  lam := fun A outer s H ra id cs f us vs ds s0 Q E hr e0 L => by
    obtain ⟨_, _, _, _, _, _, _, _, _, _, _, _, _, _, _, h, _⟩ := L
    cases h
  lco := fun id caps N sc ps body scope z => by cases z
  far := h.far
  low := h.low
  gds := h.gds
theorem cells_above : ∀ (names : List (Str × NameKind)) (n : Nat) (acc : List (Str × Addr)) (p : Str × Addr), p ∈ cellsFrom n names acc → p ∈ acc ∨ n ≤ p.2
  | [], n, acc, p, h => .inl h
  | (x, kd) :: r, n, acc, p, h => by
    unfold cellsFrom at h
    split at h
    · rcases cells_above r (n + 1) _ p h with h | h
      · rcases List.mem_cons.mp h with h | h
        · rw [h]
          exact .inr (Nat.le_refl _)
        · exact .inl h
      · exact .inr (by omega)
    · exact cells_above r n acc p h
theorem fn_ok {tab : List FnE} (F : Facts M tab K mg) {k f : Nat} {e : FnE} {a : Addr} {dat : FuncData} (he : tab[f]? = some e) (FD : FunD K e.nm e.qn (defArgs e.st) (defBody e.st) (defScope e.st) (e.dv.map fun d => (dvD d).v K) [] a dat) (stl : ∀ j, j ≤ k → Stat M prog w K mg base j)
    (hmk : M.mks (defScope e.st) = true → ∀ (dV kV doc pm cdv ct : Value) (an : Option Addr), dat = PySem.W.fnOf e.nm e.qn (defArgs e.st) (defBody e.st) (defScope e.st) dV kV doc pm an cdv ct → MakerC base mg e.qn cdv) :
    FnOk prog w K mg base (L2.CX prog w) (2 * (k + 1) + 2) a dat e.ps (spF M mg K (k + 1) f) := by
  obtain ⟨h1, h2, h3, _⟩ := F.fns f e he
  have h3' := FnE.ok_n h3
  have hcl := FnE.ok_cl h3
  unfold FnE.okN at h3'
  simp only [Bool.and_eq_true, decide_eq_true_eq] at h3'
  obtain ⟨⟨⟨⟨⟨o1, o2⟩, o3⟩, o4⟩, o5⟩, o6⟩ := h3'
  have S := scopeB_ok o3
  have hN : e.ps.length ≤ e.N.length := by
    have := congrArg List.length S.pre
    rw [List.length_take] at this
    omega
  have ecl : clsF M f = e.fd.cl := by
    unfold clsF
    rw [h1]
  have open_ : ∀ {vs : List V} {H : Hp} {Q : VK} {E : XK}, spF M mg K (k + 1) f vs H Q E → vs.length = e.ps.length ∧ ∃ ra ds s, SRel K H ra s ∧ RepAs M mg e.fd.cl K H ra ds vs ∧ ds.length = e.ps.length ∧
      PostR M mg K (fun cls d _ H' => E cls d H') [] (RepV K) H ra (WL.done s (exB (cloC (gamma e.fd.cl ds) (callF M.P M.G M.F k)) M.G M.F e.fd.body (hideL e.fd.cl (ds.map some ++ List.replicate (e.fd.nv - e.fd.np) none)) s)) Q := by
    rintro vs H Q E ⟨ra, ds, s, R, r, p⟩
    rw [ecl] at r
    simp only [callF, h1] at p
    split at p
    · rename_i hl
      rw [o4] at hl
      exact ⟨by rw [r.1, hl], ra, ds, s, R, r, hl, p⟩
    · exact (show False from p).elim
  obtain ⟨oc, od, dV, kV, doc, pm, an, cdv, ct, osl, edat, lk, hcd, _, _⟩ := FD.ex
  have mkc := fun z => hmk z dV kV doc pm cdv ct an edat
  subst edat
  refine fn_of lk hcd S (fun vs H Q E q => (open_ q).1) fun A outer s H vs Q E hr q => ?_
  obtain ⟨_, ra, ds, s0, R, r, hl, p⟩ := open_ q
  letI : CLO := cloI M mg (gamma e.fd.cl ds)
  have GX : GoodS (M.wna e.fd.cl) e.N (cxOf (L2.CX prog w) prog w K mg base e.N e.qn (defScope e.st) a cdv A outer s H E) (fun cls d _ H' => E cls d H') k (defScope e.st) :=
    ⟨⟨rfl, rfl, S.nd, rfl, rfl, S.kind, takes_of rfl rfl rfl rfl, hr.mono (by omega), (stl k (Nat.le_refl _)).wna, (fun z => by
      obtain ⟨c, P, m1, m2, m3, m4⟩ := mkc z
      refine ⟨fun x c hc => ?_, c, P, m1, m2, m3, m4⟩
      rcases cells_above _ _ _ _ (PySem.mem_of_lookup hc) with q | q
      · cases q
      · exact Nat.le_trans (Nat.le_succ _) q), (fun j hj => (stl j hj).wna), (fun p hp => by
        have := (gamma_mem hp).1
        simpa [Cfg.wna] using this), (fun i hi => by
        have hi : i ∈ e.fd.cl := by simpa [Cfg.wna] using hi
        have hlt : i < ds.length := by
          have := hcl i hi
          omega
        exact ⟨(i, ds[i]), mem_gamma hi (List.getElem?_eq_getElem hlt), rfl⟩), fun H ra d v z => z⟩, passes_of rfl, rfl, rfl⟩
  exact ⟨_, sndB GX e.fd.body o6, ra, _, s0, erel_start r (by omega) (by omega), R, post_done R p⟩
theorem exB_ret {C : Calls} {G : Globs} {F : Nat} {e : E} {ρ : Env} {s : Store} : exB C G F [.ret e] ρ s = (evE C G e ρ s).stm ρ fun d s1 => .ret d (trunc s d s1) := by
  simp only [exB, exS]
  cases evE C G e ρ s <;> rfl
theorem pick {α : Type} {P : Nat → α → Prop} : ∀ n : Nat, (∀ j, j < n → ∃ x, P j x) → ∃ l : List α, l.length = n ∧ ∀ j x, l[j]? = some x → P j x
  | 0, _ => ⟨[], rfl, fun j x e => by simp at e⟩
  | n + 1, h => by
    obtain ⟨l, l1, l2⟩ := pick n fun j hj => h j (by omega)
    obtain ⟨x, hx⟩ := h n (by omega)
    refine ⟨l ++ [x], by simp [l1], fun j y e => ?_⟩
    by_cases hj : j < n
    · rw [List.getElem?_append_left (by omega)] at e
      exact l2 j y e
    · rw [List.getElem?_append_right (by omega)] at e
      have : j - l.length = 0 := by
        have := (List.getElem?_eq_some_iff.mp e).1
        simp at this
        omega
      rw [this] at e
      cases (Option.some.inj e)
      obtain rfl : j = n := by omega
      exact hx
theorem lams_ok {k : Nat} (stl : ∀ j, j ≤ k → Stat M prog w K mg base j) : LamsOk M prog w K mg base (k + 1) := by
  intro A outer s H ra id cs f us vs ds s0 Q E hr e0 L hv R rl p
  obtain ⟨f', c', qn, ps, body, scope, sc, cl, pm, ctv, N, caps, hvf, h1, h2, h3, h4, h5, h6, h7, h8⟩ := L
  cases hvf
  have F := lam_fact ((stl k (Nat.le_refl _)).lco _ _ _ _ _ _ _ h3)
  obtain ⟨e, hP, hm⟩ := F.fd
  have hP : M.P id = some ⟨(lamN N caps ps).length, (lamN N caps ps).length, [.ret e], []⟩ := hP
  simp only [callF, hP] at p
  split at p
  · rename_i hl
    have hlen : (lamN N caps ps).length = (psOf ps).length + caps.length := by simp [lamN, capN]
    have hcapl : (capN N caps).length = caps.length := by simp [capN]
    rw [List.length_append, hlen] at hl
    have hvl : vs.length = ds.length := RepL.length ds vs rl
    have hS : ∀ b, inCl cl b → ∃ o, H b = some (pinO o) := fun b ⟨y, hy⟩ => by
      obtain ⟨o, u, a, _⟩ := h6 y b hy
      exact ⟨o, a⟩
    obtain ⟨ws, w1, w2⟩ := pick (P := fun j x => ∃ y c o u, (capN N caps)[j]? = some y ∧ cl.lookup y = some c ∧ H c = some (pinO o) ∧ o.data = .cell (some u) ∧ RelV x u ∧ ∀ d, cs[j]? = some d → RepV K H ra d x) caps.length fun j hj => by
      have hy : (capN N caps)[j]? = some (capN N caps)[j] := List.getElem?_eq_getElem (by omega)
      obtain ⟨c, hc⟩ := h5 ((capN N caps)[j], .free) (PySem.mem_of_lookup (F.sco.frk _ (List.mem_of_getElem? hy))) rfl
      have hd : cs[j]? = some cs[j] := List.getElem?_eq_getElem (by omega)
      obtain ⟨o, u, x, a1, a2, a3, a4⟩ := h8 j _ _ c hd hy hc
      exact ⟨x, _, c, o, u, hy, hc, a1, a2, a3, fun d e => by rw [hd] at e; cases e; exact a4⟩
    have C : NdefX.CellsAt cl (capN N caps) (ws.map some) s.heap (unt (inCl cl) H) := by
      refine ⟨by simp [w1, hcapl], fun y c hc => ⟨unt_in ⟨y, hc⟩, ?_⟩, h4, fun i y hy => ?_⟩
      · obtain ⟨o, u, a1, a2⟩ := h6 y c hc
        exact ⟨u, o, (e0.hok c _ a1).1, a2⟩
      · have hi : i < ws.length := by
          have := (List.getElem?_eq_some_iff.mp hy).1
          omega
        obtain ⟨y', c, o, u, b1, b2, b3, b4, b5, _⟩ := w2 i _ (List.getElem?_eq_getElem hi)
        rw [hy] at b1
        cases b1
        refine ⟨c, b2, fun v e => ⟨u, ?_, o, (e0.hok c _ b3).1, b4⟩⟩
        rw [List.getElem?_map, List.getElem?_eq_getElem hi] at e
        cases e
        exact b5
    have p' := postR_unt hS p
    letI : CLO := ⟨[], fun _ _ _ _ _ => False, fun _ _ z => z⟩
    have ER : ERel K (unt (inCl cl) H) ra ((ds ++ cs).map some ++ List.replicate ((lamN N caps ps).length - (lamN N caps ps).length) none) (NdefX.startF (lamN N caps ps) vs (ws.map some)) := by
      refine ⟨?_, fun i d hi => ?_, fun p hp => by cases hp⟩
      · unfold NdefX.startF
        simp only [List.length_append, List.length_map, List.length_replicate]
        omega
      · by_cases hid : i < ds.length
        · rw [List.getElem?_append_left (by simp; omega), List.getElem?_map, List.getElem?_append_left hid] at hi
          cases qd : ds[i]? with
          | none => rw [qd] at hi; cases hi
          | some d' =>
            rw [qd] at hi
            cases hi
            obtain ⟨v, v1, v2⟩ := RepL.get ds vs i d rl qd
            refine ⟨v, ?_, repV_unt hS d v v2⟩
            unfold NdefX.startF
            rw [List.getElem?_append_left (by simp; omega), List.getElem?_map, v1]
            rfl
        · by_cases hic : i < ds.length + cs.length
          · rw [List.getElem?_append_left (by simp; omega), List.getElem?_map, List.getElem?_append_right (by omega)] at hi
            cases qd : cs[i - ds.length]? with
            | none => rw [qd] at hi; cases hi
            | some d' =>
              rw [qd] at hi
              cases hi
              have hw : i - ds.length < ws.length := by omega
              obtain ⟨y', c, o, u, b1, b2, b3, b4, b5, b6⟩ := w2 (i - ds.length) _ (List.getElem?_eq_getElem hw)
              refine ⟨ws[i - ds.length], ?_, repV_unt hS d _ (b6 d qd)⟩
              unfold NdefX.startF
              rw [List.getElem?_append_right (by simp; omega), List.getElem?_append_left (by simp; omega), List.getElem?_map, List.length_map, hvl, List.getElem?_eq_getElem hw]
              rfl
          · rw [List.getElem?_append_right (by simp; omega), List.getElem?_replicate] at hi
            split at hi <;> cases hi
    have RR := srel_unt hS R
    have PS1 := post_done (M := M) (X := (NdefX.ncx (L2.CX prog w) prog w K mg base (lamN N caps ps) (lamF qn ps scope cl c') f A outer s (unt (inCl cl) H) fun cls d H' => (∀ b, inCl cl b → H' b = none) → E cls d (ret (inCl cl) H H'))) (E := fun cls d H' => (∀ b, inCl cl b → H' b = none) → E cls d (ret (inCl cl) H H')) RR p'
    have PS2 : PostS M (NdefX.ncx (L2.CX prog w) prog w K mg base (lamN N caps ps) (lamF qn ps scope cl c') f A outer s (unt (inCl cl) H) fun cls d H' => (∀ b, inCl cl b → H' b = none) → E cls d (ret (inCl cl) H H')) (fun cls d _ H' => (∀ b, inCl cl b → H' b = none) → E cls d (ret (inCl cl) H H')) { nx := fun _ H' => (∀ b, inCl cl b → H' b = none) → Q .non (ret (inCl cl) H H'), rt := fun v H' => (∀ b, inCl cl b → H' b = none) → Q v (ret (inCl cl) H H') } (unt (inCl cl) H) ra ((evE (callF M.P M.G M.F k) M.G e ((ds ++ cs).map some ++ List.replicate ((lamN N caps ps).length - (lamN N caps ps).length) none) s0).stm ((ds ++ cs).map some ++ List.replicate ((lamN N caps ps).length - (lamN N caps ps).length) none) fun d s1 => .ret d (trunc s0 d s1)) := by
      rw [← exB_ret (F := M.F)]
      exact PS1
    have PR : PostR M mg K (fun cls d _ H' => (∀ b, inCl cl b → H' b = none) → E cls d (ret (inCl cl) H H')) (NdefX.startF (lamN N caps ps) vs (ws.map some)) (RepV K) (unt (inCl cl) H) ra (evE (callF M.P M.G M.F k) M.G e ((ds ++ cs).map some ++ List.replicate ((lamN N caps ps).length - (lamN N caps ps).length) none) s0) (fun v H' => (∀ b, inCl cl b → H' b = none) → Q v (ret (inCl cl) H H')) :=
      (PostS.bind (repA := RepV K) (X := (NdefX.ncx (L2.CX prog w) prog w K mg base (lamN N caps ps) (lamF qn ps scope cl c') f A outer s (unt (inCl cl) H) fun cls d H' => (∀ b, inCl cl b → H' b = none) → E cls d (ret (inCl cl) H H'))) ER PS2).imp fun v H1 ⟨d, s1, r1, k1, p1, R1, e2, rv, q⟩ => by
        obtain ⟨rc, pc, Rc, rvc⟩ := let_go RR k1 p1 R1 rv
        exact q v rc H1 k1 pc Rc rvc
    refine lam_run (t := tE M.bare (NdefX.ncx (L2.CX prog w) prog w K mg base (lamN N caps ps) (lamF qn ps scope cl c') f A outer s (unt (inCl cl) H) fun cls d H' => (∀ b, inCl cl b → H' b = none) → E cls d (ret (inCl cl) H H')) (fun cls d _ H' => (∀ b, inCl cl b → H' b = none) → E cls d (ret (inCl cl) H H')) (evE (M.bare.C k) M.bare.G e)) (N := lamN N caps ps) (ps := psOf ps) (fr := capN N caps) (ws := ws.map some) (E' := fun cls d H' => (∀ b, inCl cl b → H' b = none) → E cls d (ret (inCl cl) H H')) (Q' := fun v H' => (∀ b, inCl cl b → H' b = none) → Q v (ret (inCl cl) H H')) hr e0 h1 h2 F.ps F.nd F.sco hS C hv (by omega) (fun hr2 => ?_) ⟨ra, ((ds ++ cs).map some ++ List.replicate ((lamN N caps ps).length - (lamN N caps ps).length) none), s0, ER, RR, PR⟩ (fun v H' n q => q n) (fun cls d H' n q => q n)
    have GX : Good M.bare (lamN N caps ps) (NdefX.ncx (L2.CX prog w) prog w K mg base (lamN N caps ps) (lamF qn ps scope cl c') f A outer s (unt (inCl cl) H) fun cls d H' => (∀ b, inCl cl b → H' b = none) → E cls d (ret (inCl cl) H H')) (fun cls d _ H' => (∀ b, inCl cl b → H' b = none) → E cls d (ret (inCl cl) H H')) k scope (fun _ => false) :=
      ⟨rfl, rfl, F.sco.nd, rfl, rfl, F.sco.kind, takes_of rfl rfl rfl rfl, hr2.mono (by omega), (stl k (Nat.le_refl _)).bare, (fun z => by cases z), (fun j hj => (stl j hj).bare), (fun p hp => by cases hp), (fun i z => by cases z), fun _ _ _ _ z => z.elim⟩
    exact (sndE e hm GX).1
  · exact (show False from p).elim
theorem stat_of {tab : List FnE} (F : Facts M tab K mg) (hG : GdOk K w) (hob : ∀ c C, TBS.cl c C → ClsAt M K mg c C) (hexi : ∀ c, c < M.nob → ∃ C, TBS.cl c C) (hone : ∀ c C C', TBS.cl c C → TBS.cl c C' → C = C') (hnf : ∀ C f, TBS.nf C f → NoAttr K C f) (hfr : ∀ (g : Nat) (pl : List Nat) (a : Addr), TBS.fn g pl a ↔ takesP M g pl = true ∧ mg (M.fname g) = some (.ref a)) (hf : ∀ f, M.P (f + hB) = none) (hlow : M.n ≤ hB) (hlc : ∀ id caps N sc ps body scope, M.lc id caps N sc ps body scope = true → lamOk M.bare id caps N sc ps body scope = true)
    (hmk : ∀ (f : Nat) (e : FnE) (a : Addr) (dat : FuncData), tab[f]? = some e → M.mks (defScope e.st) = true → a = He.fAd K e.at_ → FunD K e.nm e.qn (defArgs e.st) (defBody e.st) (defScope e.st) (e.dv.map fun d => (dvD d).v K) [] a dat → ∀ (dV kV doc pm cdv ct : Value) (an : Option Addr), dat = PySem.W.fnOf e.nm e.qn (defArgs e.st) (defBody e.st) (defScope e.st) dV kV doc pm an cdv ct → MakerC base mg e.qn cdv) :
    ∀ k, ∀ j, j ≤ k → Stat M prog w K mg base j
  | 0, j, hj => by
    obtain rfl : j = 0 := by omega
    exact ⟨F.blt, F.glob, fun f fd h hn => (by
      obtain ⟨e, he⟩ := F.all f hn
      obtain ⟨h1, h2, h3, hio, a, dat, h40, h4, h5, FD⟩ := F.fns f e he
      obtain ⟨q1, q2, q3, q4⟩ := FnE.ok_o h3
      have h3 := FnE.ok_n h3
      unfold FnE.okN at h3
      simp only [Bool.and_eq_true, decide_eq_true_eq] at h3
      obtain ⟨⟨⟨⟨⟨o1, o2⟩, o3⟩, o4⟩, o5⟩, o6⟩ := h3
      refine ⟨a, dat, e.ps, ⟨fun z => by rw [h2]; exact h4 (hio.mp z), h5⟩, FD.kp, ⟨fun ds hd => binds_d FD o1 o2 q2 q3 q4 (F.dv_ he hd), fun x hx => binds_kw FD o1 o2 (by rw [← F.prms f e he]; exact hx)⟩, ⟨fun vs H Q E q => ?_, fun A outer s H args us vs Q E hr he0 hb hv q => ?_⟩⟩
      · obtain ⟨_, _, _, _, _, q⟩ := q
        exact (show False from q).elim
      · obtain ⟨_, _, _, _, _, q⟩ := q
        exact (show False from q).elim), hob, hexi, hone, hnf, F.exc1, F.rel, F.bas, (fun A outer s H ra id cs f us vs ds s0 Q E hr e0 L hv R rl p => (show False from p).elim), hlc, hf, hlow, hG, hfr⟩
  | k + 1, j, hj => by
    have ih := stat_of F hG hob hexi hone hnf hfr hf hlow hlc hmk k
    by_cases c : j ≤ k
    · exact ih j c
    · obtain rfl : j = k + 1 := by omega
      exact ⟨F.blt, F.glob, fun f fd h hn => (by
        obtain ⟨e, he⟩ := F.all f hn
        obtain ⟨h1, h2, h3, hio, a, dat, h40, h4, h5, FD⟩ := F.fns f e he
        obtain ⟨q1, q2, q3, q4⟩ := FnE.ok_o h3
        have h3' := FnE.ok_n h3
        unfold FnE.okN at h3'
        simp only [Bool.and_eq_true, decide_eq_true_eq] at h3'
        obtain ⟨⟨⟨⟨⟨o1, o2⟩, o3⟩, o4⟩, o5⟩, o6⟩ := h3'
        exact ⟨a, dat, e.ps, ⟨fun z => by rw [h2]; exact h4 (hio.mp z), h5⟩, FD.kp, ⟨fun ds hd => binds_d FD o1 o2 q2 q3 q4 (F.dv_ he hd), fun x hx => binds_kw FD o1 o2 (by rw [← F.prms f e he]; exact hx)⟩, fn_ok F he FD ih fun z => hmk f e a dat he z h40 FD⟩), hob, hexi, hone, hnf, F.exc1, F.rel, F.bas, lams_ok ih, hlc, hf, hlow, hG, hfr⟩
end
def faOf (tab : List FnE) (gl : List (Str × GV)) (T : ExT) : List He.Fa := ((tab.filter fun e => e.ow.isNone).map (fun e => .glo e.gn) ++ T.ob.map fun p => .glo p.1) ++ (bltNames.map .free ++ (gl.map (fun p => p.2.fa p.1) ++ (T.base :: T.xs).map .glo))
def ExT.dd (T : ExT) (x : Str) : He.DefD := ⟨(x, some "__init__"), "__init__", T.qual, defArgs T.ini, defBody T.ini, defScope T.ini, [], []⟩
def fnOf (tab : List FnE) (T : ExT) : List He.DefD := tab.map FnE.dd ++ T.xs.map T.dd
def clsB (K : PySem.W.Frag) (C : Addr) : Bool := match K.lookup C with
  | some ⟨.type t, _, .cls cd, sl⟩ => decide (t = "type") && (match cd.mro, sl.toList with
    | .ref C' :: bm, [_, _, _, _, some (.builtin n), _] => C' == C && decide (n = "ValueError.__new__") && !cd.hasDel && cd.hasDict && PySem.HandSPX.refsVE bm
    | _, _ => false)
  | _ => false
theorem clsB_ok {K : PySem.W.Frag} {C : Addr} (h : clsB K C = true) : ∃ nm q N bs bm sn sub ab col dd k0 k1 k2 k3 k5, K.lookup C = some (excClassObj nm q C N bs bm true sn sub ab col dd k0 k1 k2 k3 k5 "ValueError.__new__") ∧ PySem.HandSPX.refsVE bm = true := by
  unfold clsB at h
  split at h
  · rename_i t dd cd sl ho
    rw [Bool.and_eq_true] at h
    obtain ⟨ht, h⟩ := h
    obtain rfl := of_decide_eq_true ht
    split at h
    · rename_i C' bm k0 k1 k2 k3 n k5 hm hs
      simp only [Bool.and_eq_true, beq_iff_eq, Bool.not_eq_true', decide_eq_true_eq] at h
      obtain ⟨⟨⟨⟨rfl, rfl⟩, h1⟩, h2⟩, h3⟩ := h
      obtain ⟨nm, bs, mro, ns, qn, hd, sn, sub, ab, col, del⟩ := cd
      dsimp only at hm h1 h2
      subst hm h1 h2
      have e : sl = #[k0, k1, k2, k3, some (.builtin "ValueError.__new__"), k5] := by
        obtain ⟨l⟩ := sl
        simp only at hs
        rw [hs]
      subst e
      exact ⟨nm, qn, ns, bs, bm, sn, sub, ab, col, dd, k0, k1, k2, k3, k5, ho, h3⟩
    · cases h
  · cases h
def optB {α : Type} [DecidableEq α] (a b : Option α) : Bool := decide (a = b)
def xB (K : PySem.W.Frag) (x : Str) : Bool := clsB K (He.ga K x) && He.eqO (PySem.W.findIn K (.ref (He.ga K x)) "__setattr__") (some (some (.builtin "object.__setattr__"))) && decide (PySem.W.subIn K (.ref (He.ga K x)) (.type "BaseException") = some true) &&
  decide (PySem.W.typeIn K (.ref (He.ga K x)) = some (.type "type")) && PySem.W.keepIn K (.ref (He.ga K x)) && He.eqO (PySem.W.findIn K (.ref (He.ga K x)) "__init__") (some (some (.ref (He.ma K (He.ga K x) "__init__")))) &&
  decide (PySem.W.typeIn K (.ref (He.ma K (He.ga K x) "__init__")) = some (.type "function")) && He.eqO (PySem.W.findIn K (.ref (He.ga K x)) "what") (some none) &&
  He.eqO (PySem.W.findIn K (.ref (He.ga K x)) "__getattribute__") (some (some (.builtin "BaseException.__getattribute__"))) && He.eqO (PySem.W.findIn K (.ref (He.ga K x)) "__getattr__") (some none) && PySem.W.hasDictIn K (He.ga K x) &&
  He.eqO (PySem.W.findIn K (.ref (He.ga K x)) "__class__") (some (some (.builtin "object.__class__"))) && He.eqO (PySem.W.specialIn K (.builtin "object.__class__") "__get__") (some (some (.builtin "getset_descriptor.__get__"))) &&
  decide (PySem.W.takesIn K (.builtin "object.__class__") = some true) && decide (PySem.W.mroIn K (He.ga K x) (.type "object") = some true) && decide (PySem.W.kitOne K (.ref (He.ga K x)) (.type "ValueError") = some true)
def relB2 (K : PySem.W.Frag) (x y : Str) (b : Bool) : Bool := decide (PySem.W.exmOne K (.ref (He.ga K x)) (.ref (He.ga K y)) = some b) && decide (PySem.W.kitOne K (.ref (He.ga K x)) (.ref (He.ga K y)) = some b)
def obB (K : PySem.W.Frag) (p : Str × List Str × List Str) : Bool := (PySem.W.plainGet K (He.ga K p.1) Str.empty && PySem.W.hasDictIn K (He.ga K p.1) && PySem.W.plainOver K (He.ga K p.1) && He.eqO (PySem.W.findIn K (.ref (He.ga K p.1)) "__setattr__") (some (some (.builtin "object.__setattr__"))) && PySem.W.makesIn K (He.ga K p.1) && PySem.W.keepIn K (.ref (He.ga K p.1)) && (He.eqO (PySem.W.findIn K (.ref (He.ga K p.1)) "__class__") (some (some (.builtin "object.__class__"))) && He.eqO (PySem.W.specialIn K (.builtin "object.__class__") "__get__") (some (some (.builtin "getset_descriptor.__get__"))) && decide (PySem.W.takesIn K (.builtin "object.__class__") = some true) && decide (PySem.W.mroIn K (He.ga K p.1) (.type "object") = some true) && decide (PySem.W.kitOne K (.ref (He.ga K p.1)) (.ref (He.ga K p.1)) = some true))) &&
  (p.2.1.all (fun f => He.eqO (PySem.W.findIn K (.ref (He.ga K p.1)) f) (some none)) && p.2.2.all fun m => He.eqO (PySem.W.findIn K (.ref (He.ga K p.1)) m) (some (some (.ref (He.ma K (He.ga K p.1) m)))) && PySem.W.isFn K (.ref (He.ma K (He.ga K p.1) m)))
def ExT.tabs (T : ExT) (K : PySem.W.Frag) : Bool := decide ((T.lm.map fun x => (He.cT K x.2.1).2).Nodup)
def ExT.says (T : ExT) (K : PySem.W.Frag) : Bool := (T.xs.all fun x => xB K x && T.xs.all (fun y => relB2 K x y (decide (x = y))) && relB2 K x T.base true) && (T.tabs K && T.ob.all (obB K))
def ExT.bare (T : ExT) (K : PySem.W.Frag) (h : Heap) : Prop := ∀ x ∈ T.lm, h.get? (He.cT K x.2.1).2 = some { cls := .none, data := .fields #[] } ∧ K.lookup (He.cT K x.2.1).2 = none ∧ PySem.W.codeHdIn K (He.cT K x.2.1).1 (He.cT K x.2.1).2 = true
def initB (st : Stmt) : Bool := plainPs (defArgs st) ["self", "what"] && scopeB ["self", "what"] ["self", "what"] (defScope st) && (match defBody st with
  | [.Assign [.Attribute (.Name a _) f _] (.Name b _) _] => decide (a = "self") && decide (f = "what") && decide (b = "what")
  | _ => false)
def ExT.ok (T : ExT) : Bool := (T.xs.isEmpty || initB T.ini) && decide T.xs.Nodup && decide (T.lams.length ≤ 500000)
theorem init_ok {prog : Program} {w : World} {K : PySem.W.Frag} {mg : Str → Option Value} {base : Heap} {st : Stmt} {q : Str} {f : Addr} {fd : FuncData} (h : initB st = true) (FD : FunD K "__init__" q (defArgs st) (defBody st) (defScope st) [] [] f fd) :
    Binds K fd ["self", "what"] [] ∧ FnOk prog w K mg base (L2.CX prog w) 1 f fd ["self", "what"] (spInit K) := by
  unfold initB at h
  simp only [Bool.and_eq_true] at h
  obtain ⟨⟨h1, h2⟩, h3⟩ := h
  have S := scopeB_ok h2
  refine ⟨FD.bindsN fun kV doc pm an cdv ct us hl => bind_plain h1 (by decide) hl, FD.ok S (fun vs H Q E z => ?_) fun cdv A outer s H vs Q E hr z => ?_⟩
  · obtain ⟨a, C, y, rfl, _⟩ := z
    rfl
  · obtain ⟨a, C, y, rfl, z1, z2, z3, z4⟩ := z
    split at h3
    · rename_i x p1 n p2 x2 p3 p4 hb
      simp only [Bool.and_eq_true, decide_eq_true_eq] at h3
      obtain ⟨⟨rfl, rfl⟩, rfl⟩ := h3
      rw [hb]
      have vis : ∀ x, x ∈ (["self", "what"] : List Str) → Vis (defScope st) x := fun x hx => by
        rcases S.par x hx with z | z
        · exact .inl z
        · exact .inr (.inl z)
      refine ⟨_, pss_one (ps_ost (pv 0 rfl (vis _ (by simp)) (by decide) (by decide)) (pv 1 rfl (vis _ (by simp)) (by decide) (by decide))), ?_⟩
      exact ⟨y, rfl, .ref a, rfl, a, C, rfl, z1, z2, .inl ⟨z3, z4⟩⟩
    · cases h3
def ExT.says2 (T : ExT) (K : PySem.W.Frag) : Bool := T.says K && glsB K T.gs
abbrev AlX : Type := He.AlT × Bool
def dedM : Nat → List Addr → List Addr → (Nat → List Addr → List Addr) → List Addr
  | m, [], fr, k => k m fr
  | m, a :: l, fr, k => match Nat.testBit m a with
    | true => dedM m l fr k
    | false => a :: dedM (m ||| (1 <<< a)) l (a :: fr) k
def bfsM (g : Addr → Option Obj) : Nat → Nat → List Addr → List Addr
  | 0, _, _ => []
  | n + 1, m, fr => dedM m (fr.flatMap fun a => match g a with
    | some o => He.refsD o
    | none => []) [] fun m fr => bfsM g n m fr
def asM (g : Addr → Option Obj) (n : Nat) : List Addr := mainGlobals :: bfsM g n (1 <<< mainGlobals) [mainGlobals]
def obsX (n : Nat) (fa : List He.Fa) (fn : List He.DefD) (T : ExT) (g : Addr → Option Obj) : AlX := (He.obsT fa fn T.dts (He.frT g (asM g n)), T.says2 (He.frT g (asM g n)) && He.tabsB g (T.lm.map (·.2.1)) (He.frT g (asM g n)))
theorem bare_of {n : Nat} {T : ExT} {h : Heap} (e : He.tabsB h.get? (T.lm.map (·.2.1)) (He.frT h.get? (asM h.get? n)) = true) : T.bare (He.frT h.get? (asM h.get? n)) h := fun x hx => by
  have q := List.all_eq_true.mp e x.2.1 (List.mem_map.mpr ⟨x, hx, rfl⟩)
  rw [Bool.and_eq_true] at q
  obtain ⟨q1, q2⟩ := q
  split at q2
  · rename_i o z
    exact ⟨by rw [z, He.emptyTab_eq q2], He.frT_none z q2, q1⟩
  · cases q2
def hookX (n : Nat) (fa : List He.Fa) (fn : List He.DefD) (T : ExT) : PySem.W.Hook where
  α := AlX
  obs := fun s => obsX n fa fn T s.heap.get?
  val := fun w => (He.valT fn T.dts w, true)
  says := fun w h => ∃ K : PySem.W.Frag, K.In h ∧ He.SaysT fa fn T.dts w K ∧ T.says2 K = true ∧ T.bare K h
  of := fun _ _ e => ⟨_, He.frT_in, congrArg (fun z : AlX => z.1) e, (Bool.and_eq_true_iff.mp (congrArg (fun z : AlX => z.2) e)).1, bare_of (Bool.and_eq_true_iff.mp (congrArg (fun z : AlX => z.2) e)).2⟩
  keeps := fun _ _ _ ⟨K, hK, c, d, b⟩ k => ⟨K, PySem.W.Frag.In.keeps hK k, c, d, fun x hx => ⟨k _ _ (b x hx).1, (b x hx).2⟩⟩
theorem obsX_eq {n : Nat} {fa : List He.Fa} {fn : List He.DefD} {T : ExT} {g : Addr → Option Obj} {s : Shared} (h : ∀ a, g a = s.heap.get? a) : obsX n fa fn T g = (hookX n fa fn T).obs s := by
  have e : g = s.heap.get? := funext h
  rw [e] <;> rfl
theorem says_fact {fa : List He.Fa} {fn : List He.DefD} {K : PySem.W.Frag} (c : He.SaysD fa fn K) {f : He.Fa} (h : f ∈ fa) : f.ok K = true := by
  obtain ⟨i, hi⟩ := List.getElem?_of_mem h
  exact c.fact i hi
theorem xs_of {K : PySem.W.Frag} {T : ExT} (h : T.says K = true) {x : Str} (hx : x ∈ T.xs) : xB K x = true ∧ (∀ y ∈ T.xs, relB2 K x y (decide (x = y)) = true) ∧ relB2 K x T.base true = true := by
  have q := List.all_eq_true.mp (Bool.and_eq_true_iff.mp h).1 x hx
  simp only [Bool.and_eq_true, List.all_eq_true] at q
  exact ⟨q.1.1, q.1.2, q.2⟩
theorem idx_get : ∀ (l : List Str) (x : Str) (h : l.idxOf x < l.length), l[l.idxOf x] = x
  | [], x, h => by simp at h
  | y :: l, x, h => by
    by_cases c : y = x
    · subst c
      simp
    · have e : (y :: l).idxOf x = l.idxOf x + 1 := by
        rw [List.idxOf_cons, beq_false_of_ne c]
        rfl
      simp only [e, List.getElem_cons_succ]
      exact idx_get l x _
theorem ob_of {K : PySem.W.Frag} {T : ExT} (h : T.says K = true) : T.ob.all (obB K) = true := by
  unfold ExT.says at h
  rw [Bool.and_eq_true, Bool.and_eq_true] at h
  exact h.2.2
theorem facts_of [TBS] {tab : List FnE} {gl : List (Str × GV)} {T : ExT} {F : Nat} {K : PySem.W.Frag} {h : Heap} {mg : Str → Option Value} (KX : K.In h) (G : h.Ns mainGlobals mg) (c : He.SaysD (faOf tab gl T) (fnOf tab T) K) (cx : T.says K = true) (cg : glsB K gl = true) (hgd : ∀ x ks vs, (x, GV.gdt ks vs) ∈ gl → TBS.gd (He.ga K x) ks vs) (hcl : ∀ i p, T.ob[i]? = some p → TBS.cl i (He.ga K p.1)) (okT : T.ok = true)
    (ok : tab.all (fun e => e.ok (cfgOf tab gl T F)) = true) : Facts (cfgOf tab gl T F) tab K mg where
  blt := fun x hx => He.free_ok KX G (says_fact c (List.mem_append_right _ (List.mem_append_left _ (List.mem_map_of_mem hx))))
  glob := fun g d e => by
    simp only [cfgOf, cfg0, Option.map_eq_some_iff] at e
    obtain ⟨p, hp, rfl⟩ := e
    have hm : p.2.fa p.1 ∈ faOf tab gl T := List.mem_append_right _ (List.mem_append_right _ (List.mem_append_left _ (List.mem_map.mpr ⟨p, List.mem_of_getElem? hp, rfl⟩)))
    have en : (cfgOf tab gl T F).gname g = p.1 := by
      simp only [cfgOf, cfg0, hp]
      rfl
    rw [en]
    obtain ⟨x, v⟩ := p
    cases v with
    | int i =>
      obtain ⟨t, ht⟩ := He.int_ok KX G (says_fact c hm)
      exact ⟨.int i, _, ht, ⟨t, rfl⟩, fun H ra => rfl⟩
    | str z =>
      obtain ⟨t, ht⟩ := He.str_ok KX G (says_fact c hm)
      exact ⟨.str z, _, ht, ⟨t, rfl⟩, fun H ra => rfl⟩
    | dat d =>
      have ht := He.glo_ok KX G (says_fact c hm)
      have q := List.all_eq_true.mp cg _ (List.mem_of_getElem? hp)
      dsimp only at q
      split at q
      · rename_i u hu
        obtain ⟨v, r1, r2⟩ := konB_ok d u q
        exact ⟨v, u, PySem.W.mg_of KX G hu, r1, r2⟩
      · cases q
    | gdt ks vs =>
      have ht := He.glo_ok KX G (says_fact c hm)
      exact ⟨.ref (He.ga K x), _, ht, rfl, fun H ra => ⟨_, rfl, hgd x ks vs (List.mem_of_getElem? hp)⟩⟩
  fns := fun f e he => by
    have hd : (fnOf tab T)[f]? = some e.dd := by
      unfold fnOf
      rw [List.getElem?_append_left (by rw [List.length_map]; exact (List.getElem?_eq_some_iff.mp he).1), List.getElem?_map, he]
      rfl
    obtain ⟨fd, FD⟩ := c.def_ f hd
    have hok := List.all_eq_true.mp ok e (List.mem_of_getElem? he)
    have how : (cfgOf tab gl T F).own f = e.ow.map fun c => ((T.ob.map (·.1)).idxOf c, e.nm) := by
      simp only [cfgOf, cfg0, he]
      rfl
    refine ⟨by simp only [cfgOf, cfg0, he], by simp only [cfgOf, cfg0, he]; rfl, hok, ?_, He.fAd K e.at_, fd, rfl, fun z => ?_, fun i m z => ?_, ?_⟩
    · rw [how]
      cases e.ow <;> simp
    · have e1 : e.at_ = (e.gn, none) := by
        unfold FnE.at_
        rw [z]
      rw [e1]
      exact He.glo_ok KX G (says_fact c (List.mem_append_left _ (List.mem_append_left _ (List.mem_map.mpr ⟨e, List.mem_filter.mpr ⟨List.mem_of_getElem? he, by rw [z]; rfl⟩, rfl⟩))))
    · rw [how] at z
      obtain ⟨cn, hcn, hz⟩ := Option.map_eq_some_iff.mp z
      cases hz
      obtain ⟨p, hp, hq⟩ := List.any_eq_true.mp (show (T.ob.any fun p => decide (p.1 = cn) && p.2.2.contains e.nm) = true from (FnE.ok_o hok).1 cn hcn)
      rw [Bool.and_eq_true, decide_eq_true_eq] at hq
      obtain ⟨hq1, hq2⟩ := hq
      have hm : (T.ob.map (·.1))[(T.ob.map (·.1)).idxOf cn]? = some cn := by
        have hlt := List.idxOf_lt_length_iff.mpr (show cn ∈ T.ob.map (·.1) from List.mem_map.mpr ⟨p, hp, hq1⟩)
        rw [List.getElem?_eq_getElem hlt]
        exact congrArg some (idx_get _ _ hlt)
      rw [List.getElem?_map] at hm
      obtain ⟨p', hp', e'⟩ := Option.map_eq_some_iff.mp hm
      have hob := List.all_eq_true.mp (ob_of cx) p hp
      unfold obB at hob
      have hmm := List.all_eq_true.mp (Bool.and_eq_true_iff.mp (Bool.and_eq_true_iff.mp hob).2).2 e.nm (by simpa using hq2)
      rw [Bool.and_eq_true] at hmm
      have e1 : He.fAd K e.at_ = He.ma K (He.ga K p.1) e.nm := by
        unfold FnE.at_
        rw [hcn, hq1]
        rfl
      refine ⟨He.ga K p'.1, hcl _ p' hp', ?_⟩
      rw [e', ← hq1, e1]
      refine ⟨He.eqO_ok hmm.1, hmm.2, ?_⟩
      have := FD.kp
      rwa [show e.dd.at_ = e.at_ from rfl, e1] at this
    · have e2 : e.dd.dvs K = e.dv.map fun d => (dvD d).v K := by
        show (e.dv.map dvD).map (He.Dv.v K) = _
        rw [List.map_map]
        rfl
      have FD' : FunD K e.nm e.qn (defArgs e.st) (defBody e.st) (defScope e.st) (e.dd.dvs K) [] (He.fAd K e.at_) fd := FD
      rwa [e2] at FD'
  dvs := fun f e he => by
    simp only [cfgOf, cfg0, he]
    rfl
  prms := fun f e he => by
    simp only [cfgOf, cfg0, he]
    rfl
  all := fun f h => ⟨tab[f]'h, List.getElem?_eq_getElem h⟩
  exc := fun i x hx => by
    have hx : T.xs[i]? = some x := hx
    have hm := List.mem_of_getElem? hx
    obtain ⟨q, _, _⟩ := xs_of cx hm
    refine ⟨He.ga K x, He.glo_ok KX G (says_fact c (List.mem_append_right _ (List.mem_append_right _ (List.mem_append_right _ (List.mem_map.mpr ⟨x, List.mem_cons_of_mem _ hm, rfl⟩))))), fun prog w base => ?_⟩
    unfold xB at q
    simp only [Bool.and_eq_true, decide_eq_true_eq] at q
    obtain ⟨⟨⟨⟨⟨⟨⟨⟨⟨⟨⟨⟨⟨⟨⟨q1, q2⟩, q3⟩, q4⟩, q5⟩, q6⟩, q7⟩, q8⟩, q9⟩, q10⟩, q11⟩, q12⟩, q13⟩, q14⟩, q15⟩, q16⟩ := q
    have hd : (fnOf tab T)[tab.length + i]? = some (T.dd x) := by
      unfold fnOf
      rw [List.getElem?_append_right (by rw [List.length_map]; omega), List.length_map, Nat.add_sub_cancel_left, List.getElem?_map, hx]
      rfl
    obtain ⟨fd, FD⟩ := c.def_ _ hd
    have oi : initB T.ini = true := by
      unfold ExT.ok at okT
      simp only [Bool.and_eq_true, Bool.or_eq_true, List.isEmpty_iff] at okT
      rcases okT.1.1 with z | z
      · rw [z] at hm
        cases hm
      · exact z
    obtain ⟨b1, b2⟩ := init_ok (prog := prog) (w := w) (mg := mg) (base := base) oi FD
    exact { oex := ⟨clsB_ok q1, He.eqO_ok q2, q3, q4, q5⟩, ini := ⟨_, fd, He.eqO_ok q6, q7, b1, b2⟩, no := He.eqO_ok q8, ga := He.eqO_ok q9, gg := He.eqO_ok q10, hd := q11, cc := He.eqO_ok q12, hn := He.eqO_ok q13, ht := q14, hm := q15, ve := q16 }
  rel := fun i x i2 x2 C C2 hx hx2 mC mC2 => by
    have hx : T.xs[i]? = some x := hx
    have hx2 : T.xs[i2]? = some x2 := hx2
    have hm := List.mem_of_getElem? hx
    have hm2 := List.mem_of_getElem? hx2
    have e1 := He.glo_ok KX G (says_fact c (List.mem_append_right _ (List.mem_append_right _ (List.mem_append_right _ (List.mem_map.mpr ⟨x, List.mem_cons_of_mem _ hm, rfl⟩)))))
    have e2 := He.glo_ok KX G (says_fact c (List.mem_append_right _ (List.mem_append_right _ (List.mem_append_right _ (List.mem_map.mpr ⟨x2, List.mem_cons_of_mem _ hm2, rfl⟩)))))
    rw [e1] at mC
    rw [e2] at mC2
    cases mC
    cases mC2
    have q := (xs_of cx hm).2.1 x2 hm2
    unfold relB2 at q
    simp only [Bool.and_eq_true, decide_eq_true_eq] at q
    have nd : T.xs.Nodup := by
      unfold ExT.ok at okT
      simp only [Bool.and_eq_true, decide_eq_true_eq] at okT
      exact okT.1.2
    have e : decide (x = x2) = decide (i = i2) := by
      by_cases hi : i = i2
      · subst hi
        rw [hx] at hx2
        cases hx2
        simp
      · have : x ≠ x2 := fun z => hi (by
          subst z
          obtain ⟨l1, g1⟩ := List.getElem?_eq_some_iff.mp hx
          obtain ⟨l2, g2⟩ := List.getElem?_eq_some_iff.mp hx2
          exact (List.getElem_inj nd).mp (g1.trans g2.symm))
        simp [hi, this]
    rw [e] at q
    exact q
  bas := by
    refine ⟨He.ga K T.base, He.glo_ok KX G (says_fact c (List.mem_append_right _ (List.mem_append_right _ (List.mem_append_right _ (List.mem_map.mpr ⟨T.base, List.mem_cons_self, rfl⟩))))), fun i x C hx mC => ?_⟩
    have hx : T.xs[i]? = some x := hx
    have hm := List.mem_of_getElem? hx
    have e1 := He.glo_ok KX G (says_fact c (List.mem_append_right _ (List.mem_append_right _ (List.mem_append_right _ (List.mem_map.mpr ⟨x, List.mem_cons_of_mem _ hm, rfl⟩)))))
    rw [e1] at mC
    cases mC
    have q := (xs_of cx hm).2.2
    unfold relB2 at q
    simpa only [Bool.and_eq_true, decide_eq_true_eq] using q
theorem obs_of {tab : List FnE} {gl : List (Str × GV)} {T : ExT} {F : Nat} {K : PySem.W.Frag} {h : Heap} {mg : Str → Option Value} [TBS] (hnf : ∀ C f, NoAttr K C f → TBS.nf C f) (KX : K.In h) (G : h.Ns mainGlobals mg) (c : He.SaysD (faOf tab gl T) (fnOf tab T) K) (cx : T.says K = true) {i : Nat} {p : Str × List Str × List Str} (hp : T.ob[i]? = some p) : ClsAt (cfgOf tab gl T F) K mg i (He.ga K p.1) := by
  have hob := List.all_eq_true.mp (ob_of cx) p (List.mem_of_getElem? hp)
  unfold obB at hob
  simp only [Bool.and_eq_true, List.all_eq_true, decide_eq_true_eq] at hob
  obtain ⟨⟨⟨⟨⟨⟨⟨a1, a2⟩, a3⟩, a4⟩, a5⟩, a6⟩, ⟨⟨⟨b1, b2⟩, b3⟩, b4⟩, b5⟩, a7, a8⟩ := hob
  refine ⟨⟨a1, a2, a3, He.eqO_ok a4⟩, a5, a6, ?_, fun f hf => ?_, ⟨⟨a1, a2, a3, He.eqO_ok a4⟩, He.eqO_ok b1, He.eqO_ok b2, b3, b4, b5⟩⟩
  · have e1 : (cfgOf tab gl T F).cln i = p.1 := by
      simp only [cfgOf, cfg0, hp]
      rfl
    rw [e1]
    exact He.glo_ok KX G (says_fact c (List.mem_append_left _ (List.mem_append_right _ (List.mem_map.mpr ⟨p, List.mem_of_getElem? hp, rfl⟩))))
  · have hf : (match T.ob[i]? with
      | some p => p.2.1.contains f
      | none => false) = true := hf
    rw [hp] at hf
    exact hnf _ _ (He.eqO_ok (a7 f (by simpa using hf)))
section
variable {P : Program} {w : World} {K : PySem.W.Frag} {mg mb : Str → Option Value} {CX : CXT} {k : Nat} {fa a : Addr} {cs : List (Addr × Addr)} {fd : FuncData} {x : Str} {sp : Sp} {s₁ : Shared} {vs : List Value} {ns : List Int}
structure AtStart (K : PySem.W.Frag) (cs : List (Addr × Addr)) (a : Addr) (u : HO) (H : Hp) : Prop where
  tbl : ∀ p ∈ cs, H p.2 = some (.tbl #[])
  els : ∀ b z, H b = some z → (∃ p ∈ cs, b = p.2 ∧ z = .tbl #[]) ∨ (b = a ∧ z = u ∧ K.lookup a = none)
abbrev tabO : Obj := { cls := .none, data := .fields #[] }
theorem law_callT (KX : K.In s₁.heap) (hns : s₁.heap.Ns mainGlobals mg) (hb : s₁.heap.Ns builtinsNs mb) (hbb : ∀ x : Str, x ≠ "__name__" → mb x = bootBuiltins x) (hlim : s₁.heap.NoLimit) (hg : s₁.gens = #[])
    (hT : ∀ p ∈ cs, s₁.heap.get? p.2 = some tabO ∧ K.lookup p.2 = none ∧ PySem.W.codeHdIn K p.1 p.2 = true)
    (hbm : ∃ (bm : Addr) (ob : Obj), mg "__builtins__" = some (.ref bm) ∧ bm ≠ builtinsNs ∧ s₁.heap.get? bm = some ob ∧ ob.cls = .type "module" ∧ ob.dict = some builtinsNs ∧ ob.data = .plain)
    (ha : s₁.heap.get? a = some { cls := .type "list", data := .seq vs.toArray }) (hi : IntsAre vs ns) (hl : ns.length ≤ sizeLine) (hr : Room k callerA)
    (F : ∀ base : Heap, K.In base → base.Ns mainGlobals mg → (∀ p ∈ cs, LamX.TabB base mg p.1 p.2) → FnOk P w K mg base CX k fa fd [x] sp) (hbind : ∀ (s : Shared) (u : Value), BindsTo s fd ⟨[u], []⟩ [(x, u)])
    (hsp : ∀ H : Hp, AtStart K cs a (.frz { cls := .type "list", data := .seq vs.toArray } (.lst (ns.map V.int))) H → SqL K H a (ns.map V.int) → sp [.ref a] H (fun v _ => v = .bl true) fun _ _ _ => False)
    (hCX : ∀ H e s', CX [] H s₁ (fun _ _ _ => False) e s' → False) :
    codeAny (model P w) callerA (.call (.ref fa) ⟨[.ref a], []⟩) (fun r s' => r = .ok (.ret (.bool true)) ∧ OldK s₁.heap s'.heap ∧ s'.os = s₁.os ∧ AllBare s'.gens) s₁ := by
  have rv := vals_ints hi
  have noT : ∀ p ∈ cs, p.2 ≠ a := fun p hp z => by
    have q := (hT p hp).1
    rw [z, ha] at q
    cases q
  have from_ : ∀ H : Hp, AtStart K cs a (.frz { cls := .type "list", data := .seq vs.toArray } (.lst (ns.map V.int))) H → SqL K H a (ns.map V.int) →
      codeAny (model P w) callerA (.call (.ref fa) ⟨[.ref a], []⟩) (fun r s' => r = .ok (.ret (.bool true)) ∧ OldK s₁.heap s'.heap ∧ s'.os = s₁.os ∧ AllBare s'.gens) s₁ := fun H S hS => by
    have off : ∀ {b : Addr} {o : Obj}, s₁.heap.get? b = some o → o.data ≠ .seq vs.toArray → o.data ≠ .fields #[] → H b = none := fun {b o} e h1 h2 => by
      cases q : H b with
      | none => rfl
      | some z =>
        rcases S.els b z q with ⟨p, hp, rfl, _⟩ | ⟨rfl, _, _⟩
        · rw [(hT p hp).1] at e
          cases e
          exact (h2 rfl).elim
        · rw [ha] at e
          cases e
          exact (h1 rfl).elim
    have ns_ : ∀ {b : Addr} {m : Str → Option Value}, s₁.heap.Ns b m → (hidT s₁.heap H).Ns b m := fun {b m} ⟨o, es, ep, e, d, r⟩ => ⟨o, es, ep, hidT_get e (off e (by rw [d]; exact fun z => by cases z) (by rw [d]; exact fun z => by cases z)), d, r⟩
    have hK : K.In (hidT s₁.heap H) := fun b o e => hidT_get (KX b o e) (by
      cases q : H b with
      | none => rfl
      | some z =>
        rcases S.els b z q with ⟨p, hp, rfl, _⟩ | ⟨rfl, _, n⟩
        · rw [(hT p hp).2.1] at e
          cases e
        · rw [n] at e
          cases e)
    have TB : ∀ p ∈ cs, LamX.TabB (hidT s₁.heap H) mg p.1 p.2 := fun p hp => by
      obtain ⟨t1, t2, t3⟩ := hT p hp
      obtain ⟨bm, ob, b1, b2, b3, b4, b5, b6⟩ := hbm
      refine ⟨PySem.W.codeHd_of_K hK t3, ⟨bm, ob, b1, b2, fun q => ?_, fun q => ?_, hidT_get b3 (off b3 (by rw [b6]; exact fun z => by cases z) (by rw [b6]; exact fun z => by cases z)), b4, b5, b6⟩, fun z => ?_⟩
      · obtain ⟨o, es, ep, e, d, _⟩ := hns
        rw [q, e] at b3
        cases b3
        rw [d] at b6
        cases b6
      · rw [q, t1] at b3
        cases b3
        cases b6
      · obtain ⟨o, es, ep, e, d, _⟩ := hns
        rw [z, t1] at e
        cases e
        cases d
    have hok : HOk P w H s₁.heap := fun b z q => by
      rcases S.els b z q with ⟨p, hp, rfl, rfl⟩ | ⟨rfl, rfl, _⟩
      · exact (hT p hp).1
      · exact ⟨ha, by rw [List.length_map]; exact hl, vs, _, rv, ha⟩
    have e0 : Env0 P w K mg (hidT s₁.heap H) callerA [] s₁ H := ⟨rfl, ⟨hK, ns_ hns, ⟨mb, ns_ hb, hbb⟩, let ⟨mc, h1, h2⟩ := hlim; ⟨mc, ns_ h1, h2⟩⟩, fun b o e => of_hidT e, Nat.le_of_eq (hidT_size _ _), trivial, fun b hb => absurd (show b ∈ ([] : List Addr) from hb) (by simp), hok, .of_eq hg⟩
    refine codeAny_mono ((F _ hK (ns_ hns) TB).run callerA [] s₁ H ⟨[.ref a], []⟩ [.ref a] [.ref a] _ _ hr e0 (hbind s₁ (.ref a)) (.cons rfl .nil) (hsp H S hS)) fun r s' h => ?_
    cases r with
    | error e => exact (hCX H e s' h).elim
    | ok fl =>
      cases fl with
      | next => exact False.elim h
      | brk => exact False.elim h
      | cont => exact False.elim h
      | ret u =>
        obtain ⟨v, H', os, bare, un, hok', r', rfl⟩ := h
        obtain rfl : u = Value.bool true := r'
        have old : ∀ b o, s₁.heap.get? b = some o → (∃ p ∈ cs, b = p.2 ∧ ∃ more : Array Value, s'.heap.get? b = some { cls := .none, data := .fields more }) ∨ s'.heap.get? b = some o := fun b o e => by
          cases q : H b with
          | none => exact .inr (un.keep b o e q (by intro z; exact absurd (show b ∈ ([] : List Addr) from z) (by simp)) (by simp))
          | some z =>
            rcases S.els b z q with ⟨p, hp, rfl, rfl⟩ | ⟨rfl, rfl, _⟩
            · obtain ⟨more, g⟩ := un.tbls _ #[] q
              exact .inl ⟨p, hp, rfl, _, hok' _ _ g⟩
            · have z2 := un.frzs _ _ _ q
              obtain ⟨e1, _⟩ := hok _ _ q
              obtain ⟨e2, _⟩ := hok' _ _ z2
              rw [e] at e1
              cases e1
              exact .inr e2
        refine ⟨rfl, ⟨fun b o e => ?_, fun b o e => ?_⟩, os, bare⟩
        · rcases old b o e with ⟨p, hp, rfl, more, g⟩ | g
          · rw [(hT p hp).1] at e
            cases e
            exact .inr (.inl ⟨((PySem.W.codeHd_of_K KX (hT p hp).2.2).tab (hT p hp).1).isCodeTable, rfl, #[], more, rfl, by rw [Array.empty_append]; exact g⟩)
          · exact .inl g
        · rcases old b o e with ⟨p, hp, rfl, more, g⟩ | g
          · exact ⟨_, g⟩
          · exact ⟨o, g⟩
  have mem : ∀ b : Addr, b ∈ cs.map (·.2) ↔ ∃ p ∈ cs, b = p.2 := fun b => by
    rw [List.mem_map]
    exact ⟨fun ⟨p, h1, h2⟩ => ⟨p, h1, h2.symm⟩, fun ⟨p, h1, h2⟩ => ⟨p, h1, h2.symm⟩⟩
  have aT : a ∉ cs.map (·.2) := fun z => by
    obtain ⟨p, hp, e⟩ := (mem a).mp z
    exact noT p hp e.symm
  cases hk : K.lookup a with
  | some o =>
    have e := KX a o hk
    rw [ha] at e
    cases e
    refine from_ (fun b => if b ∈ cs.map (·.2) then some (.tbl #[]) else none) ⟨fun p hp => if_pos ((mem _).mpr ⟨p, hp, rfl⟩), fun b z q => ?_⟩ (.inr ⟨_, vs.toArray, _, hk, rfl, rfl, rfl, by rw [List.size_toArray, hi.length]; exact hl, by simpa using rv⟩)
    by_cases h : b ∈ cs.map (·.2)
    · obtain ⟨p, hp, e⟩ := (mem b).mp h
      exact .inl ⟨p, hp, e, (Option.some.inj ((if_pos h).symm.trans q)).symm⟩
    · cases (if_neg h).symm.trans q
  | none =>
    refine from_ (fun b => if b ∈ cs.map (·.2) then some (.tbl #[]) else if b = a then some (.frz { cls := .type "list", data := .seq vs.toArray } (.lst (ns.map V.int))) else none) ⟨fun p hp => if_pos ((mem _).mpr ⟨p, hp, rfl⟩), fun b z q => ?_⟩
      (.inl (.inr ⟨_, (if_neg aT).trans (if_pos rfl)⟩))
    by_cases h : b ∈ cs.map (·.2)
    · obtain ⟨p, hp, e⟩ := (mem b).mp h
      exact .inl ⟨p, hp, e, (Option.some.inj ((if_pos h).symm.trans q)).symm⟩
    · by_cases h2 : b = a
      · exact .inr ⟨h2, (Option.some.inj (((if_neg h).trans (if_pos h2)).symm.trans q)).symm, hk⟩
      · cases ((if_neg h).trans (if_neg h2)).symm.trans q
end
theorem walk_ofW {l : PySem.W.OpenLaw} {n k : Nat} {q : Program} {loose : List Str} {XP : (Str → Option Value) → Heap → Prop} {YP : World → Heap → Prop} {d : DefRec} {CX : World → CXT} {x : Str}
    (hn : l.most = some n) (hn2 : n ≤ sizeLine) (hdf : d.params.defaults = []) (hr : Room k callerA)
    (F : ∀ (w : World) (mg : Str → Option Value) (fa : Addr) (h : Heap), YP w h → h.Ns mainGlobals mg → mg d.name = some (.ref fa) →
      ∃ (K : PySem.W.Frag) (fd : FuncData) (sp : Sp), K.In h ∧ (∀ (s : Shared) (u : Value), BindsTo s fd ⟨[u], []⟩ [(x, u)]) ∧
        (∀ (H : Hp) (a : Addr) (ns : List Int), ns.length ≤ n → Only H → SqL K H a (ns.map V.int) → sp [.ref a] H (fun v _ => v = .bl true) fun _ _ _ => False) ∧
        ∀ base : Heap, K.In base → base.Ns mainGlobals mg → FnOk l.prog w K mg base (CX w) k fa fd [x] sp)
    (hCX : ∀ (w : World) (H : Hp) (s : Shared) (e : Value) (s' : Shared), CX w [] H s (fun _ _ _ => False) e s' → False) :
    PySem.W.WalkO q loose XP YP l.row.toRowW d [] (fun f vs => PySem.call f vs) := by
  refine Att.attach_call hn hdf fun w s₀ s₁ mg mb fa o pm cd doc a vs ns G Y ho hd hcd hmg hobj hints hlen hg => ?_
  obtain ⟨K, fd, sp, KX, hb, hsp, hF⟩ := F w mg fa _ Y G.T.g hmg
  exact law_call KX G.T.g G.T.b G.T.builtins G.T.nolimit hg hobj hints (Nat.le_trans hlen hn2) hr hF hb (fun H hO hS => hsp H a ns hlen hO hS) fun H e s' => hCX w H s₁ e s'
theorem tab_of {tab : List FnE} {gl : List (Str × GV)} {T : ExT} {F : Nat} (ok : tab.all (fun e => e.ok (cfgOf tab gl T F)) = true) : tab.length ≤ 500000 := by
  cases tab with
  | nil => exact Nat.zero_le _
  | cons e r =>
    have h := List.all_eq_true.mp ok e List.mem_cons_self
    unfold FnE.ok at h
    rw [Bool.and_eq_true, Bool.and_eq_true, decide_eq_true_eq] at h
    exact h.1.1
theorem far_of {tab : List FnE} {gl : List (Str × GV)} {T : ExT} {F : Nat} (okT : T.ok = true) (ok : tab.all (fun e => e.ok (cfgOf tab gl T F)) = true) (f : Nat) : (cfgOf tab gl T F).P (f + hB) = none := by
  have h1 := tab_of ok
  have h2 : T.lams.length ≤ 500000 := by
    unfold ExT.ok at okT
    simp only [Bool.and_eq_true, decide_eq_true_eq] at okT
    exact okT.2
  show (match tab[f + hB]? with
    | some e => some e.fd
    | none => T.lams[f + hB - tab.length]?) = none
  rw [List.getElem?_eq_none (by unfold hB; omega)]
  exact List.getElem?_eq_none (by unfold hB; omega)
theorem inj_nodup {α β : Type} {f : α → β} : ∀ {l : List α} {x y : α}, (l.map f).Nodup → x ∈ l → y ∈ l → f x = f y → x = y
  | [], _, _, _, h, _, _ => nomatch h
  | z :: l, x, y, n, hx, hy, e => by
    rw [List.map_cons, List.nodup_cons] at n
    rcases List.mem_cons.mp hx with e1 | e1
    · rcases List.mem_cons.mp hy with e2 | e2
      · rw [e1, e2]
      · exact (n.1 (List.mem_map.mpr ⟨y, e2, by rw [← e, e1]⟩)).elim
    · rcases List.mem_cons.mp hy with e2 | e2
      · exact (n.1 (List.mem_map.mpr ⟨x, e1, by rw [e, e2]⟩)).elim
      · exact inj_nodup n.2 e1 e2 e
def ExT.cs (T : ExT) (K : PySem.W.Frag) : List (Addr × Addr) := T.lm.map fun x => He.cT K x.2.1
def lamName (x : Str) : Str := (envOfC x (default : Scope) 0 0 .none).qual ++ "<lambda>"
def ExT.ts (T : ExT) (K : PySem.W.Frag) : List (Addr × Str) := T.lm.map fun x => ((He.cT K x.2.1).2, lamName x.2.2)
theorem walk_law {l : PySem.W.OpenLaw} {q : Program} {loose : List Str} {XP : (Str → Option Value) → Heap → Prop} {d : DefRec} {tab : List FnE} {gl : List (Str × GV)} {T : ExT} {F k fi n : Nat} {e : FnE} {x : Str}
    (hn : l.most = some 63) (hdf : d.params.defaults = []) (hr : Room (2 * (k + 1) + 2) callerA) (hdn : d.name = e.gn) (hfi : tab[fi]? = some e) (hps : e.ps = [x])
    (okT : T.ok = true) (ok : tab.all (fun e => e.ok (cfgOf tab gl T F)) = true)
    (h : ∀ ns : List Int, ns.length ≤ 63 → ∃ s', callF (cfgOf tab gl T F).P (cfgOf tab gl T F).G F (k + 1) fi [.frz ns] [] = .ok (.bl true) s') (hgs : gl = T.gs := by rfl) (hcl : e.fd.cl = [] := by rfl) (how : e.ow = none := by rfl) (hdv : e.dv = [] := by rfl) :
    PySem.W.WalkO q loose XP (hookX n (faOf tab gl T) (fnOf tab T) T).says l.row.toRowW d [] (fun f vs => PySem.call f vs) := by
  refine Att.attach_callB hn hdf fun w s₀ s₁ mg mb fa o pm cd doc a vs ns G Y ho hd hcd hmg hobj hints hlen hbits hg => ?_
  obtain ⟨K, KX, c0, cx0, bare⟩ := Y
  have c := c0.d
  obtain ⟨cx, cg⟩ := Bool.and_eq_true_iff.mp cx0
  rw [← hgs] at cg
  letI : TBS := ⟨T.ts K, fun a ks vs => ∃ x, (x, GV.gdt ks vs) ∈ gl ∧ a = He.ga K x, fun g pl a => takesP (cfgOf tab gl T F) g pl = true ∧ mg ((cfgOf tab gl T F).fname g) = some (.ref a), fun i C => ∃ p, T.ob[i]? = some p ∧ C = He.ga K p.1, fun C f => NoAttr K C f⟩
  have FX : Facts (cfgOf tab gl T F) tab K mg := facts_of KX G.T.g c cx cg (fun x ks vs hx => ⟨x, hx, rfl⟩) (fun i p hp => ⟨p, hp, rfl⟩) okT ok
  have hGd : GdOk K w := fun a ks vs ⟨x, hx, ha⟩ => by
    subst ha
    obtain ⟨i, hi⟩ := List.getElem?_of_mem (show ((fun K => He.ga K x : PySem.W.Frag → Addr), ks) ∈ T.dts from by
      unfold ExT.dts
      rw [← hgs]
      exact List.mem_filterMap.mpr ⟨_, hx, rfl⟩)
    have kd := c0.tab i hi
    have q := List.all_eq_true.mp cg _ hx
    exact ⟨kd, fun z => gdB_ok q kd z⟩
  have hobs : ∀ c' C, TBS.cl c' C → ClsAt (cfgOf tab gl T F) K mg c' C := fun i C ⟨p, hp, e⟩ => by
    rw [e]
    exact obs_of (fun _ _ z => z) KX G.T.g c cx hp
  have hexi : ∀ c', c' < (cfgOf tab gl T F).nob → ∃ C, TBS.cl c' C := fun i hi => ⟨_, T.ob[i]'hi, List.getElem?_eq_getElem hi, rfl⟩
  have hone : ∀ c' C C', TBS.cl c' C → TBS.cl c' C' → C = C' := fun i C C' ⟨p, hp, e⟩ ⟨p', hp', e'⟩ => by
    rw [hp] at hp'
    cases hp'
    rw [e, e']
  obtain ⟨h1, h2, h3, hio, a', dat, h40, h4, h5, FD⟩ := FX.fns fi e hfi
  have h4 := h4 how
  have FD0 : FunD K e.nm e.qn (defArgs e.st) (defBody e.st) (defScope e.st) [] [] a' dat := by
    have := FD
    rw [hdv] at this
    exact this
  have h3' := FnE.ok_n h3
  unfold FnE.okN at h3'
  simp only [Bool.and_eq_true, decide_eq_true_eq] at h3'
  obtain ⟨⟨⟨⟨⟨o1, o2⟩, o3⟩, o4⟩, o5⟩, o6⟩ := h3'
  rw [hdn, h4] at hmg
  cases hmg
  refine law_callT (fd := dat) (cs := T.cs K) (x := x) (sp := spF (cfgOf tab gl T F) mg K (k + 1) fi) (CX := L2.CX l.prog w) KX G.T.g G.T.b G.T.builtins G.T.nolimit hg (fun p hp => ?_) G.T.bmain hobj hints (Nat.le_trans hlen (by decide)) hr (fun base hK hG hTB => ?_) (fun s v => ?_) (fun H S hS => ?_) (fun H e s' z => ?_)
  · obtain ⟨y, hy, rfl⟩ := List.mem_map.mp hp
    exact bare y hy
  · have maker : ∀ (f : Nat) (e : FnE) (a : Addr) (dat : FuncData), tab[f]? = some e → (cfgOf tab gl T F).mks (defScope e.st) = true → a = He.fAd K e.at_ → FunD K e.nm e.qn (defArgs e.st) (defBody e.st) (defScope e.st) (e.dv.map fun d => (dvD d).v K) [] a dat → ∀ (dV kV doc pm cdv ct : Value) (an : Option Addr), dat = PySem.W.fnOf e.nm e.qn (defArgs e.st) (defBody e.st) (defScope e.st) dV kV doc pm an cdv ct → MakerC base mg e.qn cdv := by
      intro f e a dat he hm ma FD dV kV doc pm cdv ct an hdat
      have mem : (e.gn, e.at_, e.qn) ∈ T.lm := by
        have q := List.all_eq_true.mp ok e (List.mem_of_getElem? he)
        unfold FnE.ok at q
        rw [Bool.and_eq_true, Bool.and_eq_true, hm] at q
        have q1 := q.1.2
        rw [Bool.not_true, Bool.or_false] at q1
        have q1 : T.lm.contains (e.gn, e.at_, e.qn) = true := q1
        simpa using q1
      subst ma
      obtain ⟨oc, od, dV', kV', doc', pm', an', cdv', ct', osl, edat, lk, hcd, _, _⟩ := FD.ex
      have ec : cdv = cdv' := by
        rw [hdat] at edat
        exact congrArg FuncData.code edat
      subst ec
      obtain ⟨c', rfl⟩ := He.codeIn_ref hcd
      have e1 : He.codeOf K e.at_ = c' := He.codeOf_eq (p := e.at_) lk (by rw [hdat])
      refine ⟨(He.cT K e.at_).1, (He.cT K e.at_).2, by rw [← e1]; rfl, hTB _ (List.mem_map.mpr ⟨_, mem, rfl⟩), List.mem_map.mpr ⟨_, mem, rfl⟩, fun p hp hP => ?_⟩
      obtain ⟨y, hy, rfl⟩ := List.mem_map.mp hp
      have nd : (T.lm.map fun x => (He.cT K x.2.1).2).Nodup := of_decide_eq_true (Bool.and_eq_true_iff.mp (Bool.and_eq_true_iff.mp cx).2).1
      have : y = (e.gn, e.at_, e.qn) := inj_nodup nd hy mem hP
      rw [this]
      rfl
    have q := fn_ok (prog := l.prog) (w := w) (base := base) FX hfi FD (stat_of FX hGd hobs hexi hone (fun _ _ z => z) (fun _ _ _ => Iff.rfl) (far_of okT ok) (Nat.le_trans (tab_of ok) (by decide)) (fun id caps N sc ps body scope z => z) maker k) (fun z => maker fi e _ dat hfi z h40 FD)
    rw [hps] at q
    exact q
  · have b := FD0.bindsA (fun kV doc pm an cdv ct us hl => bind_plain (plainPd_zero (by rw [hdv] at o1; exact o1)) o2 hl) s [v] (by rw [hps]; rfl)
    rw [hps] at b
    exact b
  · obtain ⟨s', hs⟩ := h ns hlen
    have ecl : clsF (cfgOf tab gl T F) fi = [] := by
      unfold clsF
      rw [h1]
      exact hcl
    refine ⟨[], [.frz ns], [], ⟨rfl, List.nodup_nil, fun i c a e => by simp at e, fun p hp => ?_⟩, ?_, ?_⟩
    · obtain ⟨y, hy, rfl⟩ := List.mem_map.mp hp
      exact LamX.TabS.nil (S.tbl _ (List.mem_map.mpr ⟨y, hy, rfl⟩))
    · rw [ecl]
      refine RepAs.of (RepL.one ⟨a, rfl, ?_⟩)
      rcases hS with (z | ⟨o, z⟩) | z
      · rcases S.els a _ z with ⟨_, _, _, y⟩ | ⟨_, y, _⟩
        · cases y
        · cases y
      · exact .inl ⟨o, z⟩
      · exact .inr fun H' => .inr z
    · have e0 : callF (cfgOf tab gl T F).P (cfgOf tab gl T F).G (cfgOf tab gl T F).F (k + 1) fi [.frz ns] [] = .ok (.bl true) s' := hs
      rw [e0]
      intro b rb H' _ _ _ rb'
      exact rb'
  · obtain ⟨_, _, _, _, _, _, _, _, _, _, _, _, z⟩ := z
    exact z.elim
end WL
set_option maxHeartbeats 4000000
namespace WL
open PySem
def WpR {α : Type} (r : R α) (Q : α → Store → Prop) : Prop := match r with
  | .ok a s => Q a s
  | _ => False
structure En where
  nx : Env → Store → Prop
  rt : D → Store → Prop
  bk : Env → Store → Prop
  ct : Env → Store → Prop
def WpS (r : RS) (E : En) : Prop := match r with
  | .nx ρ s => E.nx ρ s
  | .ret d s => E.rt d s
  | .brk ρ s => E.bk ρ s
  | .cnt ρ s => E.ct ρ s
  | _ => False
def Br (c : Prop) [Decidable c] (p q : Prop) : Prop := if c then p else q
def BrB (c : Bool) (p q : Prop) : Prop := match c with
  | true => p
  | false => q
def onP (o : Option Bool) (p q : Prop) : Prop := match o with
  | some true => p
  | some false => q
  | none => False
def onO {α : Type} (o : Option α) (k : α → Prop) : Prop := match o with
  | some a => k a
  | none => False
def onE (o : Option (Option D)) (k : D → Prop) : Prop := match o with
  | some (some d) => k d
  | _ => False
def onI (d : D) (k : Int → Prop) : Prop := match d with
  | .int i => k i
  | _ => False
theorem WpR_congr {α : Type} {r r' : R α} {Q : α → Store → Prop} (h : r = r') : WpR r Q = WpR r' Q := by rw [h]
theorem WpS_congr {r r' : RS} {E : En} (h : r = r') : WpS r E = WpS r' E := by rw [h]
theorem Br_congr {c c' : Prop} [Decidable c] [Decidable c'] {p q : Prop} (h : c = c') : Br c p q = Br c' p q := by subst h; unfold Br; congr
theorem BrB_congr {c c' : Bool} {p q : Prop} (h : c = c') : BrB c p q = BrB c' p q := by rw [h]
theorem onP_congr {o o' : Option Bool} {p q : Prop} (h : o = o') : onP o p q = onP o' p q := by rw [h]
theorem onO_congr {α : Type} {o o' : Option α} {k : α → Prop} (h : o = o') : onO o k = onO o' k := by rw [h]
theorem onE_congr {o o' : Option (Option D)} {k : D → Prop} (h : o = o') : onE o k = onE o' k := by rw [h]
theorem onI_congr {o o' : D} {k : Int → Prop} (h : o = o') : onI o k = onI o' k := by rw [h]
theorem Br_true {p q : Prop} : Br True p q = p := if_pos trivial
theorem Br_false {p q : Prop} : Br False p q = q := if_neg id
theorem BrB_true {p q : Prop} : BrB true p q = p := rfl
theorem BrB_false {p q : Prop} : BrB false p q = q := rfl
theorem BrB_dec {c : Prop} [Decidable c] {p q : Prop} : BrB (decide c) p q = Br c p q := by
  unfold BrB Br
  by_cases h : c <;> simp [h]
theorem BrB_not {c : Bool} {p q : Prop} : BrB (!c) p q = BrB c q p := by cases c <;> rfl
theorem onP_some {b : Bool} {p q : Prop} : onP (some b) p q = BrB b p q := by cases b <;> rfl
theorem onO_some {α : Type} {a : α} {k : α → Prop} : onO (some a) k = k a := rfl
theorem onE_some {d : D} {k : D → Prop} : onE (some (some d)) k = k d := rfl
theorem onI_int {i : Int} {k : Int → Prop} : onI (.int i) k = k i := rfl
theorem Br.of {c : Prop} [Decidable c] {p q : Prop} (h1 : c → p) (h2 : ¬c → q) : Br c p q := by
  unfold Br
  split
  · exact h1 ‹_›
  · exact h2 ‹_›
theorem Br.pos {c : Prop} [Decidable c] {p q : Prop} (h : c) (h1 : p) : Br c p q := by
  unfold Br
  rw [if_pos h]
  exact h1
theorem Br.neg {c : Prop} [Decidable c] {p q : Prop} (h : ¬c) (h1 : q) : Br c p q := by
  unfold Br
  rw [if_neg h]
  exact h1
theorem BrB.of {c : Bool} {p q : Prop} (h1 : c = true → p) (h2 : c = false → q) : BrB c p q := by
  cases c
  · exact h2 rfl
  · exact h1 rfl
section
variable {α β : Type} {C : Calls} {G : Globs} {ρ : Env} {s : Store}
theorem WpR_ok {a : α} {Q : α → Store → Prop} : WpR (.ok a s) Q = Q a s := rfl
theorem WpR_bind {r : R α} {f : α → Store → R β} {Q : β → Store → Prop} : WpR (r.bind f) Q = WpR r fun a s => WpR (f a s) Q := by cases r <;> rfl
theorem WpR_mono {r : R α} {Q Q' : α → Store → Prop} (h : WpR r Q) (i : ∀ a s, Q a s → Q' a s) : WpR r Q' := by
  cases r with
  | ok a s => exact i a s h
  | _ => exact h
theorem WpS_nx {E : En} : WpS (.nx ρ s) E = E.nx ρ s := rfl
theorem WpS_ret {E : En} {d : D} : WpS (.ret d s) E = E.rt d s := rfl
theorem WpS_brk {E : En} : WpS (.brk ρ s) E = E.bk ρ s := rfl
theorem WpS_cnt {E : En} : WpS (.cnt ρ s) E = E.ct ρ s := rfl
theorem WpS_stm {r : R α} {f : α → Store → RS} {E : En} : WpS (r.stm ρ f) E = WpR r fun a s => WpS (f a s) E := by cases r <;> rfl
theorem WpS_mono {r : RS} {E E' : En} (h : WpS r E) (h1 : ∀ ρ s, E.nx ρ s → E'.nx ρ s) (h2 : ∀ d s, E.rt d s → E'.rt d s) (h3 : ∀ ρ s, E.bk ρ s → E'.bk ρ s) (h4 : ∀ ρ s, E.ct ρ s → E'.ct ρ s) : WpS r E' := by
  cases r with
  | nx ρ s => exact h1 _ _ h
  | ret d s => exact h2 _ _ h
  | brk ρ s => exact h3 _ _ h
  | cnt ρ s => exact h4 _ _ h
  | _ => exact h
theorem wp_ofBool {o : Option Bool} {Q : D → Store → Prop} : WpR (R.ofBool o s) Q = onO o fun b => Q (.bl b) s := by cases o <;> rfl
theorem wp_ofD {o : Option D} {Q : D → Store → Prop} : WpR (R.ofD o s) Q = onO o fun d => Q d s := by cases o <;> rfl
theorem wp_ite {c : Prop} [Decidable c] {a b : R α} {Q : α → Store → Prop} : WpR (if c then a else b) Q = Br c (WpR a Q) (WpR b Q) := by
  unfold Br
  split <;> rfl
theorem wps_ite {c : Prop} [Decidable c] {a b : RS} {E : En} : WpS (if c then a else b) E = Br c (WpS a E) (WpS b E) := by
  unfold Br
  split <;> rfl
theorem WpR_bad {Q : α → Store → Prop} : WpR .bad Q = False := rfl
theorem WpS_bad {E : En} : WpS .bad E = False := rfl
variable {Q : D → Store → Prop} {a b c : E}
theorem wp_var {i : Nat} : WpR (evE C G (.var i) ρ s) Q = onE ρ[i]? fun d => Q d s := by
  simp only [evE]
  cases h : ρ[i]? with
  | none => rfl
  | some o => cases o <;> rfl
theorem wp_int {i : Int} : WpR (evE C G (.int i) ρ s) Q = Q (.int i) s := by simp only [evE]; rfl
theorem wp_str {i : Str} : WpR (evE C G (.str i) ρ s) Q = Q (.str i) s := by simp only [evE]; rfl
theorem wp_bl {i : Bool} : WpR (evE C G (.bl i) ρ s) Q = Q (.bl i) s := by simp only [evE]; rfl
theorem wp_non : WpR (evE C G .non ρ s) Q = Q .non s := by simp only [evE]; rfl
theorem wp_glob {g : Nat} : WpR (evE C G (.glob g) ρ s) Q = onO (G g) fun d => Q d s := by simp only [evE, wp_ofD]
theorem wp_tup {es : List E} : WpR (evE C G (.tup es) ρ s) Q = WpR (evEs C G es ρ s) fun l s => Br (l.length ≤ sizeLine) (Q (.tup l) s) False := by
  simp only [evE, WpR_bind, wp_ite, WpR_ok, WpR_bad]
theorem wp_new {l : List D} : WpR (newLst l s) Q = Br (l.length ≤ sizeLine) (Q (.ref s.length) (s ++ [.lst l])) False := by
  unfold newLst
  rw [wp_ite, WpR_ok, WpR_bad]
theorem wp_lst {es : List E} : WpR (evE C G (.lst es) ρ s) Q = WpR (evEs C G es ρ s) fun l s => Br (l.length ≤ sizeLine) (Q (.ref s.length) (s ++ [.lst l])) False := by
  simp only [evE, WpR_bind, wp_new]
theorem wp_bin {op : Operator} : WpR (evE C G (.bin op a b) ρ s) Q = WpR (evE C G a ρ s) fun x s => WpR (evE C G b ρ s) fun y s => WpR (binop op x y s) Q := by
  simp only [evE, WpR_bind]
theorem wp_neg : WpR (evE C G (.neg a) ρ s) Q = WpR (evE C G a ρ s) fun x s => onI x fun i => Q (.int (-i)) s := by
  simp only [evE, WpR_bind]
  congr 1
  funext x s
  cases x <;> rfl
theorem wp_not : WpR (evE C G (.not a) ρ s) Q = WpR (evE C G a ρ s) fun x s => onO (truth s x) fun b => Q (.bl (!b)) s := by
  simp only [evE, WpR_bind, wp_ofBool]
  congr 1
  funext x s
  cases truth s x <;> rfl
theorem wp_and : WpR (evE C G (.and a b) ρ s) Q = WpR (evE C G a ρ s) fun x s => onP (truth s x) (WpR (evE C G b ρ s) Q) (Q x s) := by
  simp only [evE, WpR_bind]
  congr 1
  funext x s
  cases truth s x with
  | none => rfl
  | some b => cases b <;> rfl
theorem wp_or : WpR (evE C G (.or a b) ρ s) Q = WpR (evE C G a ρ s) fun x s => onP (truth s x) (Q x s) (WpR (evE C G b ρ s) Q) := by
  simp only [evE, WpR_bind]
  congr 1
  funext x s
  cases truth s x with
  | none => rfl
  | some b => cases b <;> rfl
theorem wp_cmp {op : CmpOp} : WpR (evE C G (.cmp a op b) ρ s) Q = WpR (evE C G a ρ s) fun x s => WpR (evE C G b ρ s) fun y s => onO (cmpD op s x y) fun b => Q (.bl b) s := by
  simp only [evE, WpR_bind, wp_ofBool]
theorem wp_chain {op op' : CmpOp} : WpR (evE C G (.chain a op b op' c) ρ s) Q = WpR (evE C G a ρ s) fun x s => WpR (evE C G b ρ s) fun y s => onP (cmpD op s x y) (WpR (evE C G c ρ s) fun z s => onO (cmpD op' s y z) fun b => Q (.bl b) s) (Q (.bl false) s) := by
  simp only [evE, WpR_bind]
  congr 1
  funext x s
  congr 1
  funext y s
  cases cmpD op s x y with
  | none => rfl
  | some b =>
    cases b
    · rfl
    · simp only [onP, WpR_bind, wp_ofBool]
theorem wp_ife : WpR (evE C G (.ife c a b) ρ s) Q = WpR (evE C G c ρ s) fun x s => onP (truth s x) (WpR (evE C G a ρ s) Q) (WpR (evE C G b ρ s) Q) := by
  simp only [evE, WpR_bind]
  congr 1
  funext x s
  cases truth s x with
  | none => rfl
  | some b => cases b <;> rfl
theorem wp_ix : WpR (evE C G (.ix a b) ρ s) Q = WpR (evE C G a ρ s) fun x s => WpR (evE C G b ρ s) fun y s => onO (ixD s x y) fun d => Q d s := by
  simp only [evE, WpR_bind, wp_ofD]
theorem wp_rev : WpR (evE C G (.rev a) ρ s) Q = WpR (evE C G a ρ s) fun x s => WpR (revD s x) Q := by
  simp only [evE, WpR_bind]
theorem wp_slice {lo hi : List E} : WpR (evE C G (.slice a lo hi) ρ s) Q = WpR (evE C G a ρ s) fun x s => WpR (evEnd C G lo ρ s) fun l s => WpR (evEnd C G hi ρ s) fun h s => WpR (sliceD s x l h) Q := by
  simp only [evE, WpR_bind]
theorem wp_call {f : Nat} {es : List E} : WpR (evE C G (.call f es) ρ s) Q = WpR (evEs C G es ρ s) fun l s => WpR (C f l s) Q := by
  simp only [evE, WpR_bind]
theorem wp_bi {f : Bi} {es : List E} : WpR (evE C G (.bi f es) ρ s) Q = WpR (evEs C G es ρ s) fun l s => WpR (biD f l s) Q := by
  simp only [evE, WpR_bind]
theorem wp_isi {t : Ty} : WpR (evE C G (.isi a t) ρ s) Q = WpR (evE C G a ρ s) fun x s => onO (isiD s x t) fun b => Q (.bl b) s := by
  simp only [evE, WpR_bind, wp_ofBool]
theorem wp_lrg {es : List E} : WpR (evE C G (.lrg es) ρ s) Q = WpR (evEs C G es ρ s) fun l s => onO (rngD l) fun l => Br (l.length ≤ sizeLine) (Br (l.length ≤ sizeLine) (Q (.ref s.length) (s ++ [.lst l])) False) False := by
  simp only [evE, WpR_bind]
  congr 1
  funext l s
  cases h : rngD l with
  | none => simp [rngNew, onO, WpR]
  | some l => simp only [rngNew, onO, wp_ite, wp_new, WpR_bad]
theorem wp_trg {es : List E} : WpR (evE C G (.trg es) ρ s) Q = WpR (evEs C G es ρ s) fun l s => onO (rngD l) fun l => Br (l.length ≤ sizeLine) (Q (.tup l) s) False := by
  simp only [evE, WpR_bind]
  congr 1
  funext l s
  cases h : rngD l with
  | none => simp [rngNew, onO, WpR]
  | some l => simp only [rngNew, onO, wp_ite, WpR_ok, WpR_bad]
theorem wp_app : WpR (evE C G (.app a b) ρ s) Q = WpR (evE C G a ρ s) fun x s => BrB (isL s x) (WpR (evE C G b ρ s) fun y s => WpR (appD x y s) Q) False := by
  simp only [evE, WpR_bind]
  congr 1
  funext x s
  cases isL s x
  · rfl
  · simp only [if_true, BrB, WpR_bind]
theorem wp_pop : WpR (evE C G (.pop a b) ρ s) Q = WpR (evE C G a ρ s) fun x s => BrB (isL s x) (WpR (evE C G b ρ s) fun y s => WpR (popD x y s) Q) False := by
  simp only [evE, WpR_bind]
  congr 1
  funext x s
  cases isL s x
  · rfl
  · simp only [if_true, BrB, WpR_bind]
theorem wp_ext : WpR (evE C G (.ext a b) ρ s) Q = WpR (evE C G a ρ s) fun x s => BrB (isL s x) (WpR (evE C G b ρ s) fun y s => WpR (extD x y s) Q) False := by
  simp only [evE, WpR_bind]
  congr 1
  funext x s
  cases isL s x
  · rfl
  · simp only [if_true, BrB, WpR_bind]
def lcT (C : Calls) (G : Globs) (elt : E) (tg : Tg) (ifs : List E) (own : List Nat) (ρ : Env) (x : D) (s : Store) : R (Option D) :=
  (asgT C G tg x (wipeE ρ own) s).bind fun ρ1 s => match ifs with
    | [] => (evE C G elt ρ1 s).bind fun d s1 => .ok (some d) (trunc s d s1)
    | c :: _ => (evE C G c ρ1 s).bind fun b s1 => match truth s1 b with
      | some true => (evE C G elt ρ1 (trunc s .non s1)).bind fun d s2 => .ok (some d) (trunc (trunc s .non s1) d s2)
      | some false => .ok none (trunc s .non s1)
      | none => .bad
theorem wp_lc {elt : E} {tg : Tg} {it : It} {ifs : List E} {own : List Nat} : WpR (evE C G (.lc elt tg it ifs own) ρ s) Q = WpR (evIt C G it ρ s) fun w s => WpR (lcGo w s.length (lcT C G elt tg ifs own ρ) w.its (s ++ [.lst []])) Q := by
  simp only [evE, WpR_bind]
  rfl
theorem wp_lcT0 {elt : E} {tg : Tg} {own : List Nat} {x : D} {Q : Option D → Store → Prop} : WpR (lcT C G elt tg [] own ρ x s) Q = WpR (asgT C G tg x (wipeE ρ own) s) fun ρ1 s => WpR (evE C G elt ρ1 s) fun d s1 => Q (some d) (trunc s d s1) := by
  unfold lcT
  simp only [WpR_bind, WpR_ok]
theorem wp_lcT1 {elt : E} {tg : Tg} {own : List Nat} {x : D} {c : E} {Q : Option D → Store → Prop} : WpR (lcT C G elt tg [c] own ρ x s) Q = WpR (asgT C G tg x (wipeE ρ own) s) fun ρ1 s => WpR (evE C G c ρ1 s) fun b s1 =>
    onP (truth s1 b) (WpR (evE C G elt ρ1 (trunc s .non s1)) fun d s2 => Q (some d) (trunc (trunc s .non s1) d s2)) (Q none (trunc s .non s1)) := by
  unfold lcT
  simp only [WpR_bind]
  congr 1
  funext ρ1 s
  congr 1
  funext b s1
  cases truth s1 b with
  | none => rfl
  | some t =>
    cases t
    · rfl
    · simp only [onP, WpR_bind, WpR_ok]
theorem wp_meth {m : Me} {o : WL.E} {es : List WL.E} {Q : D → Store → Prop} : WpR (evE C G (.meth m o es) ρ s) Q = WpR (evE C G o ρ s) fun x s => BrB (meT m s x) (WpR (evEs C G es ρ s) fun ds s => WpR (meD m x ds s) Q) False := by
  simp only [evE, WpR_bind]
  congr 1
  funext x s1
  cases meT m s1 x with
  | true => exact WpR_bind
  | false => rfl
theorem wp_dnew {Q : D → Store → Prop} : WpR (evE C G .dnew ρ s) Q = Q (.ref s.length) (s ++ [.dct []]) := by simp only [evE]; rfl
theorem wp_nil {Q : List D → Store → Prop} : WpR (evEs C G [] ρ s) Q = Q [] s := by simp only [evEs]; rfl
theorem wp_cons {es : List E} {Q : List D → Store → Prop} : WpR (evEs C G (a :: es) ρ s) Q = WpR (evE C G a ρ s) fun d s => WpR (evEs C G es ρ s) fun ds s => Q (d :: ds) s := by
  simp only [evEs, WpR_bind, WpR_ok]
theorem wp_end0 {Q : Option Int → Store → Prop} : WpR (evEnd C G [] ρ s) Q = Q none s := by simp only [evEnd]; rfl
theorem wp_end1 {es : List E} {Q : Option Int → Store → Prop} : WpR (evEnd C G (a :: es) ρ s) Q = WpR (evE C G a ρ s) fun d s => onI d fun i => Q (some i) s := by
  simp only [evEnd, WpR_bind]
  congr 1
  funext d s
  cases d <;> rfl
variable {Qw : Walk → Store → Prop} {Qe : Env → Store → Prop}
theorem wp_ival : WpR (evIt C G (.val a) ρ s) Qw = WpR (evE C G a ρ s) fun d s => onO (walkS s d) fun w => Qw w s := by
  simp only [evIt, WpR_bind]
  congr 1
  funext d s
  cases walkS s d <;> rfl
theorem wp_irng {es : List E} : WpR (evIt C G (.rng es) ρ s) Qw = WpR (evEs C G es ρ s) fun l s => onO (rngD l) fun l => Qw ⟨[], l⟩ s := by
  simp only [evIt, WpR_bind]
  congr 1
  funext l s
  cases rngD l <;> rfl
theorem wp_ienm : WpR (evIt C G (.enm a) ρ s) Qw = WpR (evE C G a ρ s) fun d s => onO (walkS s d) fun w => Qw (enmOf w) s := by
  simp only [evIt, WpR_bind]
  congr 1
  funext d s
  cases walkS s d <;> rfl
theorem wp_izip : WpR (evIt C G (.zip a b) ρ s) Qw = WpR (evE C G a ρ s) fun x s => WpR (evE C G b ρ s) fun y s => BrB (zipKind x y) (onO (walkOf s x) fun w => onO (walkOf s y) fun u => Qw (zipOf w u) s) False := by
  simp only [evIt, WpR_bind]
  congr 1
  funext x s
  congr 1
  funext y s
  cases zipKind x y
  · rfl
  · simp only [if_true, BrB]
    cases walkOf s x with
    | none => rfl
    | some w => cases walkOf s y <;> rfl
theorem wp_nm {i : Nat} {d : D} : WpR (asgT C G (.nm i) d ρ s) Qe = Qe (ρ.set i (some d)) s := by simp only [asgT]; rfl
theorem wp_ttup {ts : List Tg} {l : List D} : WpR (asgT C G (.tup ts) (.tup l) ρ s) Qe = Br (l.length = ts.length) (WpR (asgTs C G ts l ρ s) Qe) False := by
  simp only [asgT, wp_ite, WpR_bad]
theorem wp_tref {ts : List Tg} {n : Nat} : WpR (asgT C G (.tup ts) (.ref n) ρ s) Qe = onO (isLst s n) fun l => Br (l.length = ts.length) (WpR (asgTs C G ts l ρ s) Qe) False := by
  simp only [asgT]
  cases isLst s n with
  | none => rfl
  | some l => simp only [onO, wp_ite, WpR_bad]
theorem wp_quiet {r : R α} {Q : α → Store → Prop} : WpR r.quiet Q = WpR r Q := by cases r <;> rfl
theorem wp_tsub {v : D} : WpR (asgT C G (.sub a b) v ρ s) Qe = WpR (evE C G a ρ s) fun x s => WpR (evE C G b ρ s) fun y s => WpR (setD x y v s) fun _ s => Qe ρ s := by
  simp only [asgT, WpR_bind, wp_quiet, WpR_ok]
theorem wp_tnil : WpR (asgTs C G [] [] ρ s) Qe = Qe ρ s := by simp only [asgTs]; rfl
theorem wp_tcons {t : Tg} {ts : List Tg} {d : D} {ds : List D} : WpR (asgTs C G (t :: ts) (d :: ds) ρ s) Qe = WpR (asgT C G t d ρ s) fun ρ s => WpR (asgTs C G ts ds ρ s) Qe := by
  simp only [asgTs, WpR_bind]
variable {F : Nat} {E : En}
theorem wps_nil : WpS (exB C G F [] ρ s) E = E.nx ρ s := by simp only [exB]; rfl
theorem wps_cons {x : S} {xs : List S} : WpS (exB C G F (x :: xs) ρ s) E = WpS (exS C G F x ρ s) { E with nx := fun ρ s => WpS (exB C G F xs ρ s) E } := by
  simp only [exB]
  cases exS C G F x ρ s <;> rfl
theorem wps_asg {t : Tg} {e : WL.E} : WpS (exS C G F (.asg t e) ρ s) E = WpR (evE C G e ρ s) fun d s1 => WpR (asgT C G t d ρ (trunc s d s1)) E.nx := by
  simp only [exS, WpS_stm, WpR_bind]
  rfl
theorem wps_par {is : List Nat} {es : List WL.E} : WpS (exS C G F (.par is es) ρ s) E = WpR (evEs C G es ρ s) fun l s1 => Br (l.length = is.length) (E.nx (parSet is l ρ) (trunc s (.tup l) s1)) False := by
  simp only [exS, WpS_stm, wps_ite, WpS_nx, WpS_bad]
theorem wps_aug {i : Nat} {op : Operator} {e : WL.E} : WpS (exS C G F (.aug i op e) ρ s) E = onE ρ[i]? fun x => onI x fun x => WpR (evE C G e ρ s) fun d s1 => onI d fun y => E.nx (ρ.set i (some (.int (aop op x y)))) (trunc s .non s1) := by
  simp only [exS]
  cases h : ρ[i]? with
  | none => rfl
  | some o =>
    cases o with
    | none => rfl
    | some d =>
      cases d with
      | int x =>
        simp only [onE, onI, WpS_stm]
        congr 1
        funext d s1
        cases d <;> rfl
      | _ => rfl
theorem wps_augS {o i : WL.E} {op : Operator} {e : WL.E} : WpS (exS C G F (.augS o i op e) ρ s) E = WpR (evE C G o ρ s) fun a s => WpR (evE C G i ρ s) fun k s => BrB (isL s a) (onO (ixD s a k) fun x => onI x fun x => WpR (evE C G e ρ s) fun y s => onI y fun z =>
    WpR (setD a k (.int (aop op x z)) s) fun _ s => E.nx ρ s) False := by
  simp only [exS, WpS_stm]
  congr 1
  funext a s
  congr 1
  funext k s
  cases isL s a
  · rfl
  · simp only [if_true, BrB]
    cases ixD s a k with
    | none => rfl
    | some d =>
      cases d with
      | int x =>
        simp only [onO, onI, WpS_stm]
        congr 1
        funext y s
        cases y with
        | int z => simp only [onI, WpS_stm, WpS_nx]
        | _ => rfl
      | _ => rfl
theorem wps_expr {e : WL.E} : WpS (exS C G F (.expr e) ρ s) E = WpR (evE C G e ρ s) fun _ s1 => E.nx ρ (trunc s .non s1) := by
  simp only [exS, WpS_stm, WpS_nx]
theorem wps_ret {e : WL.E} : WpS (exS C G F (.ret e) ρ s) E = WpR (evE C G e ρ s) fun d s1 => E.rt d (trunc s d s1) := by
  simp only [exS, WpS_stm, WpS_ret]
theorem wps_retN : WpS (exS C G F .retN ρ s) E = E.rt .non s := by simp only [exS]; rfl
theorem wp_tst {c : WL.E} {Q : Bool → Store → Prop} : WpR (tst C G c ρ s) Q = WpR (evE C G c ρ s) fun x s1 => onO (truth s1 x) fun b => Q b (trunc s .non s1) := by
  simp only [tst, WpR_bind]
  congr 1
  funext x s1
  cases truth s1 x <;> rfl
theorem wps_iff {c : WL.E} {a b : List S} : WpS (exS C G F (.iff c a b) ρ s) E = WpR (evE C G c ρ s) fun x s1 => onP (truth s1 x) (WpS (exB C G F a ρ (trunc s .non s1)) E) (WpS (exB C G F b ρ (trunc s .non s1)) E) := by
  simp only [exS, WpS_stm, wp_tst]
  congr 1
  funext x s1
  cases truth s1 x with
  | none => rfl
  | some t => cases t <;> rfl
theorem wps_brk : WpS (exS C G F .brk ρ s) E = E.bk ρ s := by simp only [exS]; rfl
theorem wps_cnt : WpS (exS C G F .cnt ρ s) E = E.ct ρ s := by simp only [exS]; rfl
theorem wps_pass : WpS (exS C G F .pass ρ s) E = E.nx ρ s := by simp only [exS]; rfl
theorem wps_for {t : Tg} {it : It} {b : List S} : WpS (exS C G F (.for t it b) ρ s) E = WpR (evIt C G it ρ s) fun w s => WpS (forGo w (fun x ρ s => (asgT C G t x ρ s).stm ρ fun ρ s => exB C G F b ρ s) w.its ρ s) E := by
  simp only [exS, WpS_stm]
theorem wps_whl {c : WL.E} {b : List S} : WpS (exS C G F (.whl c b) ρ s) E = WpS (whlGo (tst C G c) (exB C G F b) F ρ s) E := by simp only [exS]
theorem wps_forI {w : Walk} {f : D → Env → Store → RS} {E : En} (I : List D → Env → Store → Prop) (h0 : I w.its ρ s) (hs : ∀ l ρ s, I l ρ s → w.stays s = true)
    (ht : ∀ x l ρ s, I (x :: l) ρ s → WpS (f x ρ s) { nx := fun ρ s => I l ρ s, ct := fun ρ s => I l ρ s, bk := E.nx, rt := E.rt })
    (he : ∀ ρ s, I [] ρ s → E.nx ρ s) : WpS (forGo w f w.its ρ s) E := by
  revert h0
  generalize w.its = l
  intro h0
  induction l generalizing ρ s with
  | nil =>
    unfold forGo
    rw [if_pos (hs _ _ _ h0)]
    exact he _ _ h0
  | cons x l ih =>
    unfold forGo
    rw [if_pos (hs _ _ _ h0)]
    have h := ht x l ρ s h0
    cases hf : f x ρ s with
    | nx ρ2 s2 => rw [hf] at h; exact ih h
    | cnt ρ2 s2 => rw [hf] at h; exact ih h
    | brk ρ2 s2 => rw [hf] at h; exact h
    | ret d s2 => rw [hf] at h; exact h
    | exc c w ρ2 s2 => rw [hf] at h; exact h
    | bad => rw [hf] at h; exact h
theorem wps_whlI {c : Env → Store → R Bool} {f : Env → Store → RS} {E : En} (I : Nat → Env → Store → Prop) {n : Nat} (h0 : I n ρ s)
    (ht : ∀ n ρ s, I n ρ s → WpR (c ρ s) fun b s => BrB b (∃ m, n = m + 1 ∧ WpS (f ρ s) { nx := fun ρ s => I m ρ s, ct := fun ρ s => I m ρ s, bk := E.nx, rt := E.rt }) (E.nx ρ s)) (hn : n < F) : WpS (whlGo c f F ρ s) E := by
  induction F generalizing n ρ s with
  | zero => omega
  | succ F ih =>
    unfold whlGo
    rw [WpS_stm]
    refine WpR_mono (ht n ρ s h0) fun b s1 hb => ?_
    cases b with
    | false => exact hb
    | true =>
      obtain ⟨m, rfl, h⟩ := hb
      simp only
      cases hf : f ρ s1 with
      | nx ρ2 s2 => rw [hf] at h; exact ih h (by omega)
      | cnt ρ2 s2 => rw [hf] at h; exact ih h (by omega)
      | brk ρ2 s2 => rw [hf] at h; exact h
      | ret d s2 => rw [hf] at h; exact h
      | exc c w ρ2 s2 => rw [hf] at h; exact h
      | bad => rw [hf] at h; exact h
end
def callE (s : Store) (Q : D → Store → Prop) : En := ⟨fun _ s1 => Q .non (trunc s .non s1), fun d s1 => Q d (trunc s d s1), fun _ _ => False, fun _ _ => False⟩
theorem wp_callC {P : Prog} {G : Globs} {F k f : Nat} {fd : FD} {ds : List D} {s : Store} {Q : D → Store → Prop} (h : P f = some fd) (hl : ds.length = fd.np)
    (h2 : WpS (exB (cloC (gamma fd.cl ds) (callF P G F k)) G F fd.body (hideL fd.cl (ds.map some ++ List.replicate (fd.nv - fd.np) none)) s) (callE s Q)) : WpR (callF P G F (k + 1) f ds s) Q := by
  simp only [callF, h]
  rw [if_pos hl]
  cases hx : exB (cloC (gamma fd.cl ds) (callF P G F k)) G F fd.body (hideL fd.cl (ds.map some ++ List.replicate (fd.nv - fd.np) none)) s with
  | nx ρ s1 => rw [hx] at h2; exact h2
  | ret d s1 => rw [hx] at h2; exact h2
  | brk ρ s1 => rw [hx] at h2; exact h2
  | cnt ρ s1 => rw [hx] at h2; exact h2
  | exc c w ρ s1 => rw [hx] at h2; exact h2
  | bad => rw [hx] at h2; exact h2
theorem wp_callF {P : Prog} {G : Globs} {F k f : Nat} {fd : FD} {ds : List D} {s : Store} {Q : D → Store → Prop} (h : P f = some fd) (hl : ds.length = fd.np)
    (h2 : WpS (exB (callF P G F k) G F fd.body (ds.map some ++ List.replicate (fd.nv - fd.np) none) s) (callE s Q)) (hc : fd.cl = [] := by rfl) : WpR (callF P G F (k + 1) f ds s) Q := by
  refine wp_callC h hl ?_
  rw [hc]
  exact h2
theorem wp_of_eq {α : Type} {r : R α} {a : α} {s : Store} {Q : α → Store → Prop} (h : r = .ok a s) (q : Q a s) : WpR r Q := by rw [h]; exact q
theorem eq_of_wp {α : Type} {r : R α} {a : α} {s : Store} (h : WpR r fun b t => b = a ∧ t = s) : r = .ok a s := by
  cases r with
  | ok b t => obtain ⟨rfl, rfl⟩ := h; rfl
  | _ => exact h.elim
theorem ex_of_wp {α : Type} {r : R α} {a : α} (h : WpR r fun b t => b = a) : ∃ t, r = .ok a t := by
  cases r with
  | ok b t => subst h; exact ⟨t, rfl⟩
  | _ => exact h.elim
end WL
set_option maxHeartbeats 4000000
namespace WL
open PySem
section
variable {s t u : Store} {n i j : Nat} {c : Cell} {l : List D} {d : D}
theorem isLst_at : isLst s i = (match s[i]? with
  | some (.lst l) => some l
  | _ => none) := rfl
theorem isDct_at : isDct s i = (match s[i]? with
  | some (.dct l) => some l
  | _ => none) := rfl
theorem isDct_lt {l : List (L2.Key × D)} (h : isDct s i = some l) : i < s.length := by
  rw [isDct_at] at h
  cases e : s[i]? with
  | none => rw [e] at h; cases h
  | some c => exact (List.getElem?_eq_some_iff.mp e).1
theorem isDct_app (h : i < s.length) : isDct (s ++ t) i = isDct s i := by
  rw [isDct_at, isDct_at, List.getElem?_append_left h]
theorem isDct_old {l : List (L2.Key × D)} (h : isDct s i = some l) : isDct (s ++ t) i = some l := by rw [isDct_app (isDct_lt h)]; exact h
theorem isDct_new (h : s.length = n) : isDct (s ++ t) (n + j) = isDct t j := by
  subst h
  rw [isDct_at, isDct_at, List.getElem?_append_right (Nat.le_add_right _ _)]
  simp
theorem isDct_new0 (h : s.length = n) : isDct (s ++ t) n = isDct t 0 := isDct_new (j := 0) h
theorem isDct_zero {l : List (L2.Key × D)} : isDct (.dct l :: s) 0 = some l := rfl
theorem isDct_zeroL : isDct (.lst l :: s) 0 = none := rfl
theorem isLst_zeroD {l : List (L2.Key × D)} : isLst (.dct l :: s) 0 = none := rfl
theorem isDct_succ : isDct (c :: s) (i + 1) = isDct s i := by
  rw [isDct_at, isDct_at, List.getElem?_cons_succ]
theorem isDct_set_self {l : List (L2.Key × D)} (h : i < s.length) : isDct (s.set i (.dct l)) i = some l := by
  rw [isDct_at, List.getElem?_set_self h]
theorem isDct_set_ne (h : i ≠ j) : isDct (s.set i c) j = isDct s j := by
  rw [isDct_at, isDct_at, List.getElem?_set_ne h]
theorem isLst_dct {l : List (L2.Key × D)} (h : isDct s i = some l) : isLst s i = none := by
  rw [isDct_at] at h
  rw [isLst_at]
  split at h
  · rename_i e
    rw [e]
  · cases h
theorem isDct_lst (h : isLst s i = some l) : isDct s i = none := by
  rw [isLst_at] at h
  rw [isDct_at]
  split at h
  · rename_i e
    rw [e]
  · cases h
theorem isLst_lt {l : List D} (h : isLst s i = some l) : i < s.length := by
  rw [isLst_at] at h
  cases e : s[i]? with
  | none => rw [e] at h; cases h
  | some c => exact (List.getElem?_eq_some_iff.mp e).1
theorem isLst_app (h : i < s.length) : isLst (s ++ t) i = isLst s i := by
  rw [isLst_at, isLst_at, List.getElem?_append_left h]
theorem isLst_old {l : List D} (h : isLst s i = some l) : isLst (s ++ t) i = some l := by rw [isLst_app (isLst_lt h)]; exact h
theorem isLst_new (h : s.length = n) : isLst (s ++ t) (n + j) = isLst t j := by
  subst h
  rw [isLst_at, isLst_at, List.getElem?_append_right (Nat.le_add_right _ _)]
  simp
theorem isLst_new0 (h : s.length = n) : isLst (s ++ t) n = isLst t 0 := isLst_new (j := 0) h
theorem isLst_zero : isLst (.lst l :: s) 0 = some l := rfl
theorem isLst_succ : isLst (c :: s) (i + 1) = isLst s i := by
  rw [isLst_at, isLst_at, List.getElem?_cons_succ]
theorem set_app (h : i < s.length) : (s ++ t).set i c = s.set i c ++ t := by
  rw [List.set_append, if_pos h]
theorem set_new (h : s.length = n) : (s ++ t).set (n + j) c = s ++ t.set j c := by
  subst h
  rw [List.set_append, if_neg (by omega)]
  congr 2
  omega
theorem set_new0 (h : s.length = n) : (s ++ t).set n c = s ++ t.set 0 c := set_new (j := 0) h
theorem isLst_set_self (h : i < s.length) : isLst (s.set i (.lst l)) i = some l := by
  rw [isLst_at, List.getElem?_set_self h]
theorem isLst_set_ne (h : i ≠ j) : isLst (s.set i c) j = isLst s j := by
  rw [isLst_at, isLst_at, List.getElem?_set_ne h]
theorem agree_refl : ∀ {s : Store} {n : Nat}, agree n s s = true
  | [], _ => rfl
  | c :: s, n => by simp [agree, agree_refl]
theorem agree_app : ∀ {s : Store} {t : Store} {n : Nat}, agree n s (s ++ t) = true
  | [], _, _ => rfl
  | c :: s, t, n => by simp [agree, agree_app]
theorem agree_app2 : ∀ {s s' : Store} {t : Store} {n : Nat}, agree n s s' = true → agree n s (s' ++ t) = true
  | [], _, _, _, _ => rfl
  | c :: s, [], _, _, h => by simp [agree] at h
  | c :: s, c' :: s', t, n, h => by
    simp only [agree, Bool.and_eq_true, List.cons_append] at h ⊢
    exact ⟨h.1, agree_app2 h.2⟩
theorem agree_set : ∀ {s s' : Store} {n i : Nat} {c : Cell}, agree n s s' = true → c.und n = true → agree n s (s'.set i c) = true
  | [], _, _, _, _, _, _ => rfl
  | c :: s, [], _, _, _, h, _ => by simp [agree] at h
  | c :: s, c' :: s', n, 0, e, h, hu => by
    simp only [agree, Bool.and_eq_true, List.set_cons_zero] at h ⊢
    exact ⟨by rw [hu, Bool.or_true], h.2⟩
  | c :: s, c' :: s', n, i + 1, e, h, hu => by
    simp only [agree, Bool.and_eq_true, List.set_cons_succ] at h ⊢
    exact ⟨h.1, agree_set h.2 hu⟩
theorem trunc_self : trunc s d s = s := by
  unfold trunc
  split
  · exact List.take_length
  · rfl
theorem trunc_new (h : D.und s.length d = true) : trunc s d (s ++ t) = s := by
  unfold trunc
  rw [h, agree_app]
  simp
theorem trunc_keep (h : D.und s.length d = false) : trunc s d t = t := by
  unfold trunc
  rw [h]
  simp
theorem trunc_mut (h : D.und s.length d = true) (ha : agree s.length s u = true) (hl : u.length = s.length) : trunc s d (u ++ t) = u := by
  unfold trunc
  rw [h, agree_app2 ha]
  simp [← hl]
theorem trunc_mut0 (ha : agree s.length s u = true) (hl : u.length = s.length) : trunc s d u = u := by
  unfold trunc
  split
  · rw [← hl]
    exact List.take_length
  · rfl
theorem und_int {i : Int} : D.und n (.int i) = true := rfl
theorem und_non : D.und n .non = true := rfl
theorem und_bl {b : Bool} : D.und n (.bl b) = true := rfl
theorem und_str {x : Str} : D.und n (.str x) = true := rfl
theorem und_frz {l : List Int} : D.und n (.frz l) = true := rfl
theorem und_ref {m : Nat} : D.und n (.ref m) = decide (m < n) := rfl
theorem und_tup {l : List D} : D.und n (.tup l) = D.unds n l := rfl
theorem unds_nil : D.unds n [] = true := rfl
theorem unds_cons {l : List D} : D.unds n (d :: l) = (D.und n d && D.unds n l) := rfl
theorem unds_iff : ∀ {l : List D}, D.unds n l = true ↔ ∀ d ∈ l, D.und n d = true
  | [] => by simp [D.unds]
  | d :: l => by simp [D.unds, unds_iff (l := l)]
theorem stays_nil {l : List D} : (Walk.mk [] l).stays s = true := rfl
theorem stays_one {m : Nat} {l its : List D} : (Walk.mk [(m, l)] its).stays s = true ↔ isLst s m = some l := by simp [Walk.stays]
end
section
variable {s : Store} {i j : Int} {b : Bool} {x y : D} {l m : List D}
theorem truth_bl : truth s (.bl b) = some b := rfl
theorem truth_int : truth s (.int i) = some (!decide (i = 0)) := by
  show some (i != 0) = _
  congr 1
theorem cmp_lt' : cmpD .Lt s (.int i) (.int j) = some (decide (i < j)) := rfl
theorem cmp_le' : cmpD .LtE s (.int i) (.int j) = some (decide (i ≤ j)) := rfl
theorem cmp_gt' : cmpD .Gt s (.int i) (.int j) = some (decide (j < i)) := rfl
theorem cmp_ge' : cmpD .GtE s (.int i) (.int j) = some (decide (j ≤ i)) := rfl
theorem cmp_is' : cmpD .Is s x .non = some (decide (x = .non)) := rfl
theorem cmp_isnot' : cmpD .IsNot s x .non = some (!decide (x = .non)) := rfl
theorem cmp_isb' {a b : Bool} : cmpD .Is s (.bl a) (.bl b) = some (decide (a = b)) := rfl
theorem cmp_isnb' {a b : Bool} : cmpD .IsNot s (.bl a) (.bl b) = some (!decide (a = b)) := rfl
theorem cmp_eq' : cmpD .Eq s x y = orX (eqD s x y) (eqK s x y) := rfl
theorem cmp_ne' : cmpD .NotEq s x y = (orX (eqD s x y) (eqK s x y)).map (!·) := rfl
theorem orX_some {o : Option Bool} : orX (some b) o = some b := rfl
theorem orX_none {o : Option Bool} : orX none o = o := rfl
theorem cmp_in' : cmpD .In s x y = inD s x y := rfl
theorem cmp_notin' : cmpD .NotIn s x y = (inD s x y).map (!·) := rfl
def pur : Nat → D → Bool
  | _, .non => true
  | _, .int _ => true
  | n + 1, .tup l => l.all (pur n)
  | _, .str x => PyData.strOk x
  | _, _ => false
mutual
def pyOf : D → PyData
  | .non => .none
  | .bl b => .bool b
  | .int i => .int i
  | .str x => .str x
  | .tup l => .tuple (pyOfs l)
  | _ => .none
def pyOfs : List D → List PyData
  | [] => []
  | d :: l => pyOf d :: pyOfs l
end
theorem pyOfs_map : ∀ l : List D, pyOfs l = l.map pyOf
  | [] => rfl
  | d :: l => by simp only [pyOfs, List.map_cons, pyOfs_map l]
theorem mapM_all {f : D → Option PyData} {g : D → PyData} : ∀ {l : List D}, (∀ d ∈ l, f d = some (g d)) → l.mapM f = some (l.map g)
  | [], _ => rfl
  | d :: l, h => by
    rw [List.mapM_cons, h d List.mem_cons_self, mapM_all fun e he => h e (List.mem_cons_of_mem _ he)]
    rfl
theorem toPy_pur : ∀ (n k : Nat) (d : D), pur n d = true → toPy (n + k + 1) s d = some (pyOf d)
  | _, _, .non, _ => by simp only [toPy, pyOf]
  | _, _, .int i, _ => by simp only [toPy, pyOf]
  | _, _, .str i, _ => by simp only [toPy, pyOf]
  | n + 1, k, .tup l, h => by
    simp only [pur, List.all_eq_true] at h
    have e : n + 1 + k + 1 = (n + k + 1) + 1 := by omega
    rw [e]
    show (l.mapM (toPy (n + k + 1) s)).map PyData.tuple = _
    simp only [pyOf, pyOfs_map]
    rw [mapM_all fun d hd => toPy_pur n k d (h d hd)]
    rfl
  | 0, _, .tup _, h => by simp [pur] at h
  | n, _, .bl _, h => by cases n <;> simp [pur] at h
  | n, _, .ref _, h => by cases n <;> simp [pur] at h
  | n, _, .frz _, h => by cases n <;> simp [pur] at h
  | n, _, .gd _ _, h => by cases n <;> simp [pur] at h
  | n, _, .fnv _ _, h => by cases n <;> simp [pur] at h
theorem canLay_all : ∀ {l : List D}, (∀ d ∈ l, (pyOf d).canLay0 = true) → PyData.canLayAll0 (pyOfs l) = true
  | [], _ => rfl
  | d :: l, h => by
    simp only [pyOfs, PyData.canLayAll0, h d List.mem_cons_self, canLay_all fun e he => h e (List.mem_cons_of_mem _ he), Bool.and_self]
theorem canLay_pur : ∀ (n : Nat) (d : D), pur n d = true → (pyOf d).canLay0 = true
  | _, .non, _ => rfl
  | _, .int i, _ => rfl
  | n, .str x, h => by cases n <;> exact h
  | n + 1, .tup l, h => by
    simp only [pur, List.all_eq_true] at h
    simp only [pyOf, PyData.canLay0]
    exact canLay_all fun d hd => canLay_pur n d (h d hd)
  | 0, .tup _, h => by simp [pur] at h
  | n, .bl _, h => by cases n <;> simp [pur] at h
  | n, .ref _, h => by cases n <;> simp [pur] at h
  | n, .frz _, h => by cases n <;> simp [pur] at h
  | n, .gd _ _, h => by cases n <;> simp [pur] at h
  | n, .fnv _ _, h => by cases n <;> simp [pur] at h
theorem depth_all {n : Nat} : ∀ {l : List D}, (∀ d ∈ l, (pyOf d).depth ≤ n) → PyData.depthAll (pyOfs l) ≤ n
  | [], _ => Nat.zero_le _
  | d :: l, h => by
    simp only [pyOfs, PyData.depthAll]
    exact Nat.max_le.mpr ⟨h d List.mem_cons_self, depth_all fun e he => h e (List.mem_cons_of_mem _ he)⟩
theorem depth_pur : ∀ (n : Nat) (d : D), pur n d = true → (pyOf d).depth ≤ n
  | _, .non, _ => Nat.zero_le _
  | _, .int i, _ => Nat.zero_le _
  | _, .str i, _ => Nat.zero_le _
  | n + 1, .tup l, h => by
    simp only [pur, List.all_eq_true] at h
    simp only [pyOf, PyData.depth]
    exact Nat.succ_le_succ (depth_all fun d hd => depth_pur n d (h d hd))
  | 0, .tup _, h => by simp [pur] at h
  | n, .bl _, h => by cases n <;> simp [pur] at h
  | n, .ref _, h => by cases n <;> simp [pur] at h
  | n, .frz _, h => by cases n <;> simp [pur] at h
  | n, .gd _ _, h => by cases n <;> simp [pur] at h
  | n, .fnv _ _, h => by cases n <;> simp [pur] at h
theorem pur_cases {n : Nat} {d : D} (h : pur n d = true) : d = .non ∨ (∃ i, d = .int i) ∨ (∃ x, d = .str x) ∨ ∃ m l, n = m + 1 ∧ d = .tup l ∧ l.all (pur m) = true := by
  cases d with
  | non => exact .inl rfl
  | int i => exact .inr (.inl ⟨i, rfl⟩)
  | str x => exact .inr (.inr (.inl ⟨x, rfl⟩))
  | tup l =>
    cases n with
    | zero => simp [pur] at h
    | succ m => exact .inr (.inr (.inr ⟨m, l, rfl, rfl, by simpa [pur] using h⟩))
  | _ => cases n <;> simp [pur] at h
theorem eqvs_of {n m : Nat} (ih : ∀ d e : D, pur n d = true → pur m e = true → PyData.eqv (pyOf d) (pyOf e) = decide (d = e)) :
    ∀ (l r : List D), l.all (pur n) = true → r.all (pur m) = true → PyData.eqvAll (pyOfs l) (pyOfs r) = decide (l = r)
  | [], [], _, _ => by simp [pyOfs, PyData.eqvAll]
  | [], _ :: _, _, _ => by simp [pyOfs, PyData.eqvAll]
  | _ :: _, [], _, _ => by simp [pyOfs, PyData.eqvAll]
  | a :: l, b :: r, h, h' => by
    simp only [List.all_cons, Bool.and_eq_true] at h h'
    simp only [pyOfs, PyData.eqvAll, ih a b h.1 h'.1, eqvs_of ih l r h.2 h'.2, List.cons.injEq, Bool.decide_and]
theorem eqv_flat {n m : Nat} {d e : D} (h : pur n d = true) (h' : pur m e = true) (hd : ∀ l, d ≠ .tup l) : PyData.eqv (pyOf d) (pyOf e) = decide (d = e) := by
  rcases pur_cases h with rfl | ⟨i, rfl⟩ | ⟨x, rfl⟩ | ⟨_, l, _, rfl, _⟩
  · rcases pur_cases h' with rfl | ⟨j, rfl⟩ | ⟨y, rfl⟩ | ⟨_, _, _, rfl, _⟩ <;> simp [pyOf, PyData.eqv]
  · rcases pur_cases h' with rfl | ⟨j, rfl⟩ | ⟨y, rfl⟩ | ⟨_, _, _, rfl, _⟩
    · simp [pyOf, PyData.eqv]
    · simp only [pyOf, PyData.eqv, D.int.injEq]
      rfl
    · simp [pyOf, PyData.eqv]
    · simp [pyOf, PyData.eqv]
  · rcases pur_cases h' with rfl | ⟨j, rfl⟩ | ⟨y, rfl⟩ | ⟨_, _, _, rfl, _⟩
    · simp [pyOf, PyData.eqv]
    · simp [pyOf, PyData.eqv]
    · simp only [pyOf, PyData.eqv, D.str.injEq]
      by_cases c : x = y
      · subst c; simp
      · simp [c]
    · simp [pyOf, PyData.eqv]
  · exact absurd rfl (hd l)
theorem eqv_pur : ∀ (n m : Nat) (d e : D), pur n d = true → pur m e = true → PyData.eqv (pyOf d) (pyOf e) = decide (d = e) := by
  intro n
  induction n with
  | zero =>
    intro m d e h h'
    refine eqv_flat h h' fun l z => ?_
    subst z
    simp [pur] at h
  | succ n ih =>
    intro m d e h h'
    rcases pur_cases h with rfl | ⟨i, rfl⟩ | ⟨x, rfl⟩ | ⟨_, l, z, rfl, hl⟩
    · exact eqv_flat h h' (fun l z => nomatch z)
    · exact eqv_flat h h' (fun l z => nomatch z)
    · exact eqv_flat h h' (fun l z => nomatch z)
    · cases z
      rcases pur_cases h' with rfl | ⟨j, rfl⟩ | ⟨y, rfl⟩ | ⟨k, r, _, rfl, hr⟩
      · simp [pyOf, PyData.eqv]
      · simp [pyOf, PyData.eqv]
      · simp [pyOf, PyData.eqv]
      · simp only [pyOf, PyData.eqv, D.tup.injEq]
        exact eqvs_of (ih k) l r hl hr
theorem eqvs_pur (n m : Nat) (l r : List D) (h : l.all (pur n) = true) (h' : r.all (pur m) = true) : PyData.eqvAll (pyOfs l) (pyOfs r) = decide (l = r) := eqvs_of (eqv_pur n m) l r h h'
def pur50 (d : D) : Bool := pur 50 d
theorem toPy_pur50 {d : D} (h : pur50 d = true) : toPy 60 s d = some (pyOf d) := toPy_pur 50 9 d h
theorem shaped_pur {d : D} (h : pur50 d = true) : SeqAt.shaped (pyOf d) = true := by
  unfold SeqAt.shaped
  rw [canLay_pur 50 d h, Bool.true_and, decide_eq_true_eq]
  exact Nat.le_trans (depth_pur 50 d h) (by decide)
theorem eqD_pur (hx : pur50 x = true) (hy : pur50 y = true) : eqD s x y = some (decide (x = y)) := by
  unfold eqD
  rw [toPy_pur50 hx, toPy_pur50 hy]
  simp only [shaped_pur hx, shaped_pur hy, Bool.and_self, if_true]
  rw [eqv_pur 50 50 x y hx hy]
theorem eqD_int : eqD s (.int i) (.int j) = some (decide (i = j)) := by
  rw [eqD_pur rfl rfl]
  congr 1
  by_cases h : i = j <;> simp [h]
theorem eqD_tup (hx : l.all (pur 49) = true) (hy : m.all (pur 49) = true) : eqD s (.tup l) (.tup m) = some (decide (l = m)) := by
  rw [eqD_pur (x := .tup l) (y := .tup m) hx hy]
  congr 1
  by_cases h : l = m <;> simp [h]
theorem toPy_lst {a : Nat} (h : isLst s a = some l) (hl : l.all (pur 49) = true) : toPy 60 s (.ref a) = some (.list (pyOfs l)) := by
  show (match isLst s a with
    | some l => (l.mapM (toPy 59 s)).map PyData.list
    | none => none) = _
  rw [h]
  rw [List.all_eq_true] at hl
  show (l.mapM (toPy 59 s)).map PyData.list = _
  rw [mapM_all fun d hd => toPy_pur 49 9 d (hl d hd), pyOfs_map]
  rfl
theorem shaped_lst (hl : l.all (pur 49) = true) : SeqAt.shaped (.list (pyOfs l)) = true := by
  rw [List.all_eq_true] at hl
  have h1 : (PyData.list (pyOfs l)).canLay0 = true := by
    simp only [PyData.canLay0]
    exact canLay_all fun d hd => canLay_pur 49 d (hl d hd)
  have h2 : (PyData.list (pyOfs l)).depth ≤ 64 := by
    simp only [PyData.depth]
    exact Nat.le_trans (Nat.succ_le_succ (depth_all fun d hd => depth_pur 49 d (hl d hd))) (by decide)
  unfold SeqAt.shaped
  rw [h1, Bool.true_and, decide_eq_true_eq]
  exact h2
theorem eqD_lst {a b : Nat} (h : isLst s a = some l) (h' : isLst s b = some m) (hl : l.all (pur 49) = true) (hm : m.all (pur 49) = true) : eqD s (.ref a) (.ref b) = some (decide (l = m)) := by
  unfold eqD
  rw [toPy_lst h hl, toPy_lst h' hm]
  simp only [shaped_lst hl, shaped_lst hm, Bool.and_self, if_true, PyData.eqv]
  rw [eqvs_pur 49 49 l m hl hm]
theorem eqD_bl {a b : Bool} : eqD s (.bl a) (.bl b) = some (a == b) := by cases a <;> cases b <;> rfl
theorem pur_ints {n : Nat} {l : List Int} : (l.map D.int).all (pur n) = true := by
  rw [List.all_eq_true]
  intro d hd
  obtain ⟨i, _, rfl⟩ := List.mem_map.mp hd
  cases n <;> rfl
theorem any_ints {i : Int} {l : List Int} : ((l.map D.int).any fun z => eqF z (.int i)) = decide (i ∈ l) := by
  induction l with
  | nil => rfl
  | cons a l ih =>
    rw [List.map_cons, List.any_cons, ih]
    show (a == i || decide (i ∈ l)) = _
    by_cases h : a = i
    · subst h; simp
    · have h' : i ≠ a := fun z => h z.symm
      simp [h, h']
theorem flat_ints {l : List Int} : (l.map D.int).all flatD = true := by
  rw [List.all_eq_true]
  intro d hd
  obtain ⟨i, _, rfl⟩ := List.mem_map.mp hd
  rfl
theorem inD_ints {y : D} {l : List Int} (h : items s y = some (l.map .int)) : inD s (.int i) y = some (decide (i ∈ l)) := by
  unfold inD
  rw [h]
  simp only [flatD, flat_ints, Bool.and_self, if_true, any_ints]
theorem any_pur {n m : Nat} {d : D} (hd : pur n d = true) : ∀ l : List D, l.all (pur m) = true → ((pyOfs l).any fun z => PyData.eqv z (pyOf d)) = decide (d ∈ l)
  | [], _ => rfl
  | e :: l, h => by
    rw [List.all_cons, Bool.and_eq_true] at h
    rw [pyOfs, List.any_cons, eqv_pur m n e d h.1 hd, any_pur hd l h.2, ← Bool.decide_or]
    exact decide_eq_decide.mpr ⟨fun z => z.elim (fun z => by rw [z]; exact List.mem_cons_self) (List.mem_cons_of_mem _), fun z => (List.mem_cons.mp z).elim (fun z => .inl z.symm) .inr⟩
theorem inD_tup {r : Nat} {l m : List D} (h : isLst s r = some l) (hl : l.all (pur 49) = true) (hm : m.all (pur 49) = true) : inD s (.tup m) (.ref r) = some (decide (.tup m ∈ l)) := by
  unfold inD
  have hx : pur50 (.tup m) = true := hm
  have e : items s (.ref r) = some l := h
  rw [e]
  simp only [flatD, Bool.false_and, Bool.false_eq_true, if_false]
  rw [toPy_pur50 hx, toPy_lst h hl]
  simp only [shaped_pur hx, shaped_lst hl, Bool.and_self, if_true]
  rw [any_pur (n := 50) hx l hl]
theorem inD_tupT {l m : List D} (hl : l.all (pur 49) = true) (hm : m.all (pur 49) = true) : inD s (.tup m) (.tup l) = some (decide (.tup m ∈ l)) := by
  unfold inD
  have hx : pur50 (.tup m) = true := hm
  have hy : pur50 (.tup l) = true := hl
  have e : items s (.tup l) = some l := rfl
  rw [e]
  simp only [flatD, Bool.false_and, Bool.false_eq_true, if_false]
  rw [toPy_pur50 hx, toPy_pur50 hy]
  have e2 : pyOf (.tup l) = .tuple (pyOfs l) := rfl
  rw [e2]
  have hs : SeqAt.shaped (.tuple (pyOfs l)) = true := shaped_pur hy
  simp only [shaped_pur hx, hs, Bool.and_self, if_true]
  exact congrArg some (any_pur hx l hl)
theorem items_tup : items s (.tup l) = some l := rfl
theorem items_ref {n : Nat} : items s (.ref n) = isLst s n := rfl
theorem items_frz {l : List Int} : items s (.frz l) = some (l.map .int) := rfl
theorem ixOf_nat {n k : Nat} (h : k < n) : ixOf n (k : Int) = some k := by
  unfold ixOf
  rw [if_pos (by omega), if_pos (by omega)]
  simp
theorem atD_nat {α : Type} {l : List α} {k : Nat} : atD l (k : Int) = l[k]? := by
  unfold atD
  by_cases h : k < l.length
  · rw [ixOf_nat h]
    rfl
  · have e : ixOf l.length (k : Int) = none := by
      unfold ixOf
      rw [if_pos (by omega), if_neg (by omega)]
    rw [e]
    simp
    omega
theorem atD_int {α : Type} {l : List α} {i : Int} (h : 0 ≤ i) : atD l i = l[i.toNat]? := by
  obtain ⟨k, rfl⟩ := Int.eq_ofNat_of_zero_le h
  exact atD_nat
theorem atD_last {α : Type} {l : List α} : atD l (-1) = l.getLast? := by
  unfold atD ixOf
  rw [if_neg (by omega)]
  by_cases h : l = []
  · subst h
    rfl
  · have hl : 0 < l.length := List.length_pos_iff.mpr h
    rw [if_pos (by omega)]
    rw [List.getLast?_eq_getElem?]
    show l[(-1 + (l.length : Int)).toNat]? = _
    congr 1
    omega
end
end WL
set_option maxHeartbeats 4000000
namespace WL
open PySem
structure Mx where
  C : Calls
  G : Globs
  F : Nat
abbrev KQ := D → Store → Prop
abbrev KL := List D → Store → Prop
abbrev KN := Env → Store → Prop
abbrev KW := Walk → Store → Prop
abbrev Th := Store → Prop
@[irreducible] def ev (X : Mx) (e : E) (ρ : Env) (Q : KQ) (s : Store) : Prop := WpR (evE X.C X.G e ρ s) Q
@[irreducible] def evs (X : Mx) (es : List E) (ρ : Env) (Q : KL) (s : Store) : Prop := WpR (evEs X.C X.G es ρ s) Q
@[irreducible] def evN (X : Mx) (es : List E) (ρ : Env) (Q : Option Int → Store → Prop) (s : Store) : Prop := WpR (evEnd X.C X.G es ρ s) Q
@[irreducible] def evI (X : Mx) (it : It) (ρ : Env) (Q : KW) (s : Store) : Prop := WpR (evIt X.C X.G it ρ s) Q
@[irreducible] def asg (X : Mx) (t : Tg) (d : D) (ρ : Env) (N : KN) (s : Store) : Prop := WpR (asgT X.C X.G t d ρ s) N
@[irreducible] def asgs (X : Mx) (ts : List Tg) (ds : List D) (ρ : Env) (N : KN) (s : Store) : Prop := WpR (asgTs X.C X.G ts ds ρ s) N
@[irreducible] def st (X : Mx) (x : S) (ρ : Env) (E : En) (s : Store) : Prop := WpS (exS X.C X.G X.F x ρ s) E
@[irreducible] def blk (X : Mx) (xs : List S) (ρ : Env) (E : En) (s : Store) : Prop := WpS (exB X.C X.G X.F xs ρ s) E
@[irreducible] def cl (X : Mx) (f : Nat) (ds : List D) (Q : KQ) (s : Store) : Prop := WpR (X.C f ds s) Q
def tQ (x : D) (Q : KQ) : Th := fun s => Q x s
def tK (x : D) (s' : Store) (Q : KQ) : Th := fun _ => Q x s'
def tN (ρ : Env) (s' : Store) (N : KN) : Th := fun _ => N ρ s'
def tF : Th := fun _ => False
def tNew (l : List D) (Q : KQ) : Th := fun s => Q (.ref s.length) (s ++ [.lst l])
@[irreducible] def br (c : Prop) [Decidable c] (p q : Th) (s : Store) : Prop := if c then p s else q s
def brB (b : Bool) (p q : Th) (s : Store) : Prop := match b with
  | true => p s
  | false => q s
def brO (o : Option Bool) (p q : Th) (s : Store) : Prop := onP o (p s) (q s)
def vO (o : Option D) (Q : KQ) (s : Store) : Prop := onO o fun d => Q d s
def vE (o : Option (Option D)) (Q : KQ) (s : Store) : Prop := onE o fun d => Q d s
def bO (o : Option Bool) (Q : KQ) (s : Store) : Prop := onO o fun b => Q (.bl b) s
def nO (o : Option Bool) (Q : KQ) (s : Store) : Prop := onO o fun b => Q (.bl (!b)) s
def wO (o : Option Walk) (Q : KW) (s : Store) : Prop := onO o fun w => Q w s
section
variable {p q : Th} {s s' : Store} {c : Prop} [Decidable c] {b : Bool} {x : D} {Q : KQ} {N : KN} {ρ : Env} {l : List D}
theorem tQ_ap : tQ x Q s = Q x s := by with_unfolding_all exact rfl
theorem tK_ap : tK x s' Q s = Q x s' := by with_unfolding_all exact rfl
theorem tN_ap : tN ρ s' N s = N ρ s' := by with_unfolding_all exact rfl
theorem tF_ap : tF s = False := by with_unfolding_all exact rfl
theorem tNew_ap : tNew l Q s = Q (.ref s.length) (s ++ [.lst l]) := by with_unfolding_all exact rfl
theorem br_true : br True p q s = p s := by with_unfolding_all exact if_pos trivial
theorem br_false : br False p q s = q s := by with_unfolding_all exact if_neg id
theorem brB_true : brB true p q s = p s := by with_unfolding_all exact rfl
theorem brB_false : brB false p q s = q s := by with_unfolding_all exact rfl
theorem brB_dec : brB (decide c) p q s = br c p q s := by
  unfold brB br
  by_cases h : c <;> simp [h]
theorem brB_not : brB (!b) p q s = brB b q p s := by cases b <;> rfl
theorem brO_some : brO (some b) p q s = brB b p q s := by cases b <;> rfl
theorem vO_some : vO (some x) Q s = Q x s := by with_unfolding_all exact rfl
theorem vE_some : vE (some (some x)) Q s = Q x s := by with_unfolding_all exact rfl
theorem bO_some : bO (some b) Q s = Q (.bl b) s := by with_unfolding_all exact rfl
theorem bO_map {o : Option Bool} : bO (o.map (!·)) Q s = nO o Q s := by cases o <;> rfl
theorem nO_some : nO (some b) Q s = Q (.bl (!b)) s := by with_unfolding_all exact rfl
theorem wO_some {w : Walk} {K : KW} : wO (some w) K s = K w s := by with_unfolding_all exact rfl
theorem br.of (h1 : c → p s) (h2 : ¬c → q s) : br c p q s := by
  unfold br
  split
  · exact h1 ‹_›
  · exact h2 ‹_›
theorem br.pos (h : c) (h1 : p s) : br c p q s := by
  unfold br
  rw [if_pos h]
  exact h1
theorem br.neg (h : ¬c) (h1 : q s) : br c p q s := by
  unfold br
  rw [if_neg h]
  exact h1
theorem brB.of (h1 : b = true → p s) (h2 : b = false → q s) : brB b p q s := by
  cases b
  · exact h2 rfl
  · exact h1 rfl
end
def kArg (X : Mx) (es : List E) (ρ : Env) (K : KL) : KQ := fun d s => evs X es ρ (fun ds s => K (d :: ds) s) s
def kCons (d : D) (K : KL) : KL := fun ds s => K (d :: ds) s
def kTup (Q : KQ) : KL := fun l s => br (l.length ≤ sizeLine) (tQ (.tup l) Q) tF s
def kLst (Q : KQ) : KL := fun l s => br (l.length ≤ sizeLine) (tNew l Q) tF s
def opB (op : Operator) (x y : D) (Q : KQ) (s : Store) : Prop := WpR (binop op x y s) Q
def kBin2 (op : Operator) (x : D) (Q : KQ) : KQ := fun y s => opB op x y Q s
def kBin1 (X : Mx) (op : Operator) (b : E) (ρ : Env) (Q : KQ) : KQ := fun x s => ev X b ρ (kBin2 op x Q) s
def kNeg (Q : KQ) : KQ := fun x s => onI x fun i => Q (.int (-i)) s
def kNot (Q : KQ) : KQ := fun x s => nO (truth s x) Q s
def kAnd (X : Mx) (b : E) (ρ : Env) (Q : KQ) : KQ := fun x s => brO (truth s x) (ev X b ρ Q) (tQ x Q) s
def kOr (X : Mx) (b : E) (ρ : Env) (Q : KQ) : KQ := fun x s => brO (truth s x) (tQ x Q) (ev X b ρ Q) s
def kIfe (X : Mx) (a b : E) (ρ : Env) (Q : KQ) : KQ := fun x s => brO (truth s x) (ev X a ρ Q) (ev X b ρ Q) s
def kCmp2 (op : CmpOp) (x : D) (Q : KQ) : KQ := fun y s => bO (cmpD op s x y) Q s
def kCmp1 (X : Mx) (op : CmpOp) (b : E) (ρ : Env) (Q : KQ) : KQ := fun x s => ev X b ρ (kCmp2 op x Q) s
def kCh2 (X : Mx) (op : CmpOp) (x : D) (op' : CmpOp) (c : E) (ρ : Env) (Q : KQ) : KQ := fun y s => brO (cmpD op s x y) (ev X c ρ (kCmp2 op' y Q)) (tQ (.bl false) Q) s
def kCh1 (X : Mx) (op : CmpOp) (b : E) (op' : CmpOp) (c : E) (ρ : Env) (Q : KQ) : KQ := fun x s => ev X b ρ (kCh2 X op x op' c ρ Q) s
def kIx2 (x : D) (Q : KQ) : KQ := fun y s => vO (ixD s x y) Q s
def kIx1 (X : Mx) (b : E) (ρ : Env) (Q : KQ) : KQ := fun x s => ev X b ρ (kIx2 x Q) s
def slP (x : D) (lo hi : Option Int) (Q : KQ) (s : Store) : Prop := WpR (sliceD s x lo hi) Q
def rvP (x : D) (Q : KQ) (s : Store) : Prop := WpR (revD s x) Q
def kRev (Q : KQ) : KQ := fun x s => rvP x Q s
def kSl3 (x : D) (lo : Option Int) (Q : KQ) : Option Int → Store → Prop := fun hi s => slP x lo hi Q s
def kSl2 (X : Mx) (x : D) (hi : List E) (ρ : Env) (Q : KQ) : Option Int → Store → Prop := fun lo s => evN X hi ρ (kSl3 x lo Q) s
def kSl1 (X : Mx) (lo hi : List E) (ρ : Env) (Q : KQ) : KQ := fun x s => evN X lo ρ (kSl2 X x hi ρ Q) s
def kEnd (K : Option Int → Store → Prop) : KQ := fun x s => onI x fun i => K (some i) s
def kCall (X : Mx) (f : Nat) (Q : KQ) : KL := fun l s => cl X f l Q s
def biP (b : Bi) (l : List D) (Q : KQ) (s : Store) : Prop := WpR (biD b l s) Q
def kBi (b : Bi) (Q : KQ) : KL := fun l s => biP b l Q s
def kIsi (t : Ty) (Q : KQ) : KQ := fun x s => bO (isiD s x t) Q s
def lrP (o : Option (List D)) (Q : KQ) (s : Store) : Prop := match o with
  | some l => br (l.length ≤ sizeLine) (tNew l Q) tF s
  | none => False
def trP (o : Option (List D)) (Q : KQ) (s : Store) : Prop := match o with
  | some l => br (l.length ≤ sizeLine) (tQ (.tup l) Q) tF s
  | none => False
def kLrg (Q : KQ) : KL := fun l s => lrP (rngD l) Q s
def kTrg (Q : KQ) : KL := fun l s => trP (rngD l) Q s
def apP (x y : D) (Q : KQ) (s : Store) : Prop := WpR (appD x y s) Q
def poP (x y : D) (Q : KQ) (s : Store) : Prop := WpR (popD x y s) Q
def exP (x y : D) (Q : KQ) (s : Store) : Prop := WpR (extD x y s) Q
def kApp2 (x : D) (Q : KQ) : KQ := fun y s => apP x y Q s
def kPop2 (x : D) (Q : KQ) : KQ := fun y s => poP x y Q s
def kExt2 (x : D) (Q : KQ) : KQ := fun y s => exP x y Q s
def kApp1 (X : Mx) (a : E) (ρ : Env) (Q : KQ) : KQ := fun x s => brB (isL s x) (ev X a ρ (kApp2 x Q)) tF s
def kPop1 (X : Mx) (a : E) (ρ : Env) (Q : KQ) : KQ := fun x s => brB (isL s x) (ev X a ρ (kPop2 x Q)) tF s
def kExt1 (X : Mx) (a : E) (ρ : Env) (Q : KQ) : KQ := fun x s => brB (isL s x) (ev X a ρ (kExt2 x Q)) tF s
def meP (m : Me) (x : D) (ds : List D) (Q : KQ) (s : Store) : Prop := WpR (meD m x ds s) Q
def kMe2 (m : Me) (x : D) (Q : KQ) : KL := fun ds s => meP m x ds Q s
def kMe1 (X : Mx) (m : Me) (es : List E) (ρ : Env) (Q : KQ) : KQ := fun x s => brB (meT m s x) (evs X es ρ (kMe2 m x Q)) tF s
def gtP (o : Option (Option D)) (d : D) (Q : KQ) (s : Store) : Prop := onO o fun o => Q (o.getD d) s
@[irreducible] def lcP (X : Mx) (elt : E) (tg : Tg) (ifs : List E) (own : List Nat) (ρ : Env) (w : Walk) (Q : KQ) (s : Store) : Prop := WpR (lcGo w s.length (lcT X.C X.G elt tg ifs own ρ) w.its (s ++ [.lst []])) Q
def kLc (X : Mx) (elt : E) (tg : Tg) (ifs : List E) (own : List Nat) (ρ : Env) (Q : KQ) : KW := fun w s => lcP X elt tg ifs own ρ w Q s
def kVal (K : KW) : KQ := fun d s => wO (walkS s d) K s
def rgW (o : Option (List D)) (K : KW) (s : Store) : Prop := onO o fun l => K ⟨[], l⟩ s
def kRng (K : KW) : KL := fun l s => rgW (rngD l) K s
def enW (o : Option Walk) (K : KW) (s : Store) : Prop := onO o fun w => K (enmOf w) s
def kEnm (K : KW) : KQ := fun d s => enW (walkS s d) K s
def ziW (x y : D) (K : KW) (s : Store) : Prop := BrB (zipKind x y) (onO (walkOf s x) fun w => onO (walkOf s y) fun u => K (zipOf w u) s) False
def kZip2 (x : D) (K : KW) : KQ := fun y s => ziW x y K s
def kZip1 (X : Mx) (b : E) (ρ : Env) (K : KW) : KQ := fun x s => ev X b ρ (kZip2 x K) s
def stP (x y v : D) (ρ : Env) (N : KN) (s : Store) : Prop := WpR (setD x y v s) fun _ s => N ρ s
def kSub2 (x v : D) (ρ : Env) (N : KN) : KQ := fun y s => stP x y v ρ N s
def kSub1 (X : Mx) (b : E) (v : D) (ρ : Env) (N : KN) : KQ := fun x s => ev X b ρ (kSub2 x v ρ N) s
def kTs (X : Mx) (ts : List Tg) (ds : List D) (N : KN) : KN := fun ρ s => asgs X ts ds ρ N s
def kSeq (X : Mx) (xs : List S) (E : En) : En := { E with nx := fun ρ s => blk X xs ρ E s }
def kAsg (X : Mx) (t : Tg) (ρ : Env) (s0 : Store) (E : En) : KQ := fun d s => asg X t d ρ E.nx (trunc s0 d s)
def kPar (is : List Nat) (ρ : Env) (s0 : Store) (E : En) : KL := fun l s => br (l.length = is.length) (tN (parSet is l ρ) (trunc s0 (.tup l) s) E.nx) tF s
def kAug2 (i : Nat) (op : Operator) (x : D) (ρ : Env) (s0 : Store) (E : En) : KQ := fun d s => match x, d with
  | .int a, .int b => E.nx (ρ.set i (some (.int (aop op a b)))) (trunc s0 .non s)
  | _, _ => False
def kAug1 (X : Mx) (i : Nat) (op : Operator) (e : E) (ρ : Env) (E : En) : KQ := fun x s => match x with
  | .int a => ev X e ρ (kAug2 i op (.int a) ρ s E) s
  | _ => False
def kAs4 (op : Operator) (a k x : D) (ρ : Env) (E : En) : KQ := fun y s => match x, y with
  | .int i, .int j => stP a k (.int (aop op i j)) ρ E.nx s
  | _, _ => False
def kAs3 (X : Mx) (op : Operator) (a k : D) (e : E) (ρ : Env) (E : En) : KQ := fun x s => match x with
  | .int i => ev X e ρ (kAs4 op a k (.int i) ρ E) s
  | _ => False
def tIx (a k : D) (Q : KQ) : Th := fun s => vO (ixD s a k) Q s
def kAs2 (X : Mx) (op : Operator) (a : D) (e : E) (ρ : Env) (E : En) : KQ := fun k s => brB (isL s a) (tIx a k (kAs3 X op a k e ρ E)) tF s
def kAs1 (X : Mx) (op : Operator) (i : E) (e : E) (ρ : Env) (E : En) : KQ := fun a s => ev X i ρ (kAs2 X op a e ρ E) s
def kExpr (ρ : Env) (s0 : Store) (E : En) : KQ := fun _ s => E.nx ρ (trunc s0 .non s)
def kRet (s0 : Store) (E : En) : KQ := fun d s => E.rt d (trunc s0 d s)
def kIf (X : Mx) (a b : List S) (ρ : Env) (s0 : Store) (E : En) : KQ := fun x s => brO (truth s x) (blk X a ρ E) (blk X b ρ E) (trunc s0 .non s)
@[irreducible] def forP (X : Mx) (t : Tg) (b : List S) (w : Walk) (its : List D) (ρ : Env) (E : En) (s : Store) : Prop :=
  WpS (forGo w (fun x ρ s => (asgT X.C X.G t x ρ s).stm ρ fun ρ s => exB X.C X.G X.F b ρ s) its ρ s) E
def kFor (X : Mx) (t : Tg) (b : List S) (ρ : Env) (E : En) : KW := fun w s => forP X t b w w.its ρ E s
def kBody (X : Mx) (b : List S) (E : En) : KN := fun ρ s => blk X b ρ E s
@[irreducible] def whlP (X : Mx) (c : E) (b : List S) (n : Nat) (ρ : Env) (E : En) (s : Store) : Prop := WpS (whlGo (tst X.C X.G c) (exB X.C X.G X.F b) n ρ s) E
def tNx (ρ : Env) (E : En) : Th := fun s => E.nx ρ s
def kWh (X : Mx) (b : List S) (ρ : Env) (s0 : Store) (E1 E : En) : KQ := fun x s => brO (truth s x) (blk X b ρ E1) (tNx ρ E) (trunc s0 .non s)
section
variable {X : Mx} {e a b c : E} {es : List E} {ρ : Env} {Q : KQ} {K : KL} {s s0 : Store} {x y z v : D} {E : En} {N : KN} {Kw : KW} {i j : Int} {n m : Nat} {l ds : List D}
theorem ev_var : ev X (.var n) ρ Q s = vE ρ[n]? Q s := by with_unfolding_all exact wp_var
theorem ev_int : ev X (.int i) ρ Q s = Q (.int i) s := by with_unfolding_all exact wp_int
theorem ev_str {w : Str} : ev X (.str w) ρ Q s = Q (.str w) s := by with_unfolding_all exact wp_str
theorem ev_bl {t : Bool} : ev X (.bl t) ρ Q s = Q (.bl t) s := by with_unfolding_all exact wp_bl
theorem ev_non : ev X .non ρ Q s = Q .non s := by with_unfolding_all exact wp_non
theorem ev_fnc {g : Nat} {pl : List Nat} : ev X (.fnc g pl) ρ Q s = Q (.fnv g pl) s := by
  unfold ev
  simp only [evE]
  with_unfolding_all rfl
theorem ev_glob : ev X (.glob n) ρ Q s = vO (X.G n) Q s := by with_unfolding_all exact wp_glob
theorem evs_nil : evs X [] ρ K s = K [] s := by with_unfolding_all exact wp_nil
theorem evs_cons : evs X (e :: es) ρ K s = ev X e ρ (kArg X es ρ K) s := by with_unfolding_all exact wp_cons
theorem kArg_ap : kArg X es ρ K x s = evs X es ρ (kCons x K) s := by with_unfolding_all exact rfl
theorem kCons_ap : kCons x K l s = K (x :: l) s := by with_unfolding_all exact rfl
theorem ev_tup : ev X (.tup es) ρ Q s = evs X es ρ (kTup Q) s := by with_unfolding_all exact wp_tup
theorem kTup_ap : kTup Q l s = br (l.length ≤ sizeLine) (tQ (.tup l) Q) tF s := by with_unfolding_all exact rfl
theorem ev_lst : ev X (.lst es) ρ Q s = evs X es ρ (kLst Q) s := by with_unfolding_all exact wp_lst
theorem kLst_ap : kLst Q l s = br (l.length ≤ sizeLine) (tNew l Q) tF s := by with_unfolding_all exact rfl
theorem ev_bin {op : Operator} : ev X (.bin op a b) ρ Q s = ev X a ρ (kBin1 X op b ρ Q) s := by with_unfolding_all exact wp_bin
theorem kBin1_ap {op : Operator} : kBin1 X op b ρ Q x s = ev X b ρ (kBin2 op x Q) s := by with_unfolding_all exact rfl
theorem kBin2_ap {op : Operator} : kBin2 op x Q y s = opB op x y Q s := by with_unfolding_all exact rfl
theorem opB_add : opB .Add (.int i) (.int j) Q s = Q (.int (i + j)) s := by with_unfolding_all exact rfl
theorem opB_sub : opB .Sub (.int i) (.int j) Q s = Q (.int (i - j)) s := by with_unfolding_all exact rfl
theorem opB_mul : opB .Mult (.int i) (.int j) Q s = br (mulOk i j = true) (tQ (.int (i * j)) Q) tF s := by with_unfolding_all exact wp_ite
theorem opB_mod : opB .Mod (.int i) (.int j) Q s = br (0 < j) (tQ (.int (i % j)) Q) tF s := by with_unfolding_all exact wp_ite
theorem opB_div : opB .FloorDiv (.int i) (.int j) Q s = br (0 < j ∧ j.natAbs.log2 < 9000) (tQ (.int (i / j)) Q) tF s := by with_unfolding_all exact wp_ite
theorem opB_pow : opB .Pow (.int i) (.int j) Q s = br (0 ≤ j ∧ j ≤ 1000000 ∧ i.natAbs < 2 ^ 64) (tQ (.int (i ^ j.toNat)) Q) tF s := by with_unfolding_all exact wp_ite
theorem opB_adds {u w : Str} : opB .Add (.str u) (.str w) Q s = br (u.length + w.length ≤ sizeLine) (tQ (.str (u ++ w)) Q) tF s := by with_unfolding_all exact wp_ite
theorem opB_addt {m : List D} : opB .Add (.tup l) (.tup m) Q s = br (l.length + m.length ≤ sizeLine) (tQ (.tup (l ++ m)) Q) tF s := by with_unfolding_all exact wp_ite
theorem opB_addl {p q : Nat} {m : List D} (h : isLst s p = some l) (h' : isLst s q = some m) (hz : l.length + m.length ≤ sizeLine) : opB .Add (.ref p) (.ref q) Q s = Q (.ref s.length) (s ++ [.lst (l ++ m)]) := by
  unfold opB binop newLst
  simp only [h, h']
  rw [if_pos hz, if_pos (by rw [List.length_append]; exact hz)]
  rfl
theorem opB_rept : opB .Mult (.tup l) (.int j) Q s = br (l ≠ [] ∧ 2 ≤ j ∧ j ≤ 1000 ∧ l.length ≤ 1000) (tQ (.tup (List.replicate j.toNat l).flatten) Q) tF s := by with_unfolding_all exact wp_ite
theorem opB_rep {p : Nat} (h : isLst s p = some l) (h1 : -(2 ^ 63) ≤ j ∧ j < 2 ^ 63 ∧ l.length * j.toNat ≤ sizeLine) : opB .Mult (.ref p) (.int j) Q s = Q (.ref s.length) (s ++ [.lst (List.replicate j.toNat l).flatten]) := by
  unfold opB binop newLst
  simp only [h]
  rw [if_pos h1, if_pos (by simp only [List.length_flatten, List.map_replicate, List.sum_replicate_nat, Nat.mul_comm]; rw [Nat.mul_comm]; exact h1.2.2)]
  rfl
theorem ev_neg : ev X (.neg a) ρ Q s = ev X a ρ (kNeg Q) s := by with_unfolding_all exact wp_neg
theorem kNeg_ap : kNeg Q (.int i) s = Q (.int (-i)) s := by with_unfolding_all exact rfl
theorem ev_not : ev X (.not a) ρ Q s = ev X a ρ (kNot Q) s := by with_unfolding_all exact wp_not
theorem kNot_ap : kNot Q x s = nO (truth s x) Q s := by with_unfolding_all exact rfl
theorem brO_eq {o : Option Bool} {p q : Th} : brO o p q s = onP o (p s) (q s) := by with_unfolding_all exact rfl
theorem ev_and : ev X (.and a b) ρ Q s = ev X a ρ (kAnd X b ρ Q) s := by with_unfolding_all exact wp_and
theorem kAnd_ap : kAnd X b ρ Q x s = brO (truth s x) (ev X b ρ Q) (tQ x Q) s := by with_unfolding_all exact rfl
theorem ev_or : ev X (.or a b) ρ Q s = ev X a ρ (kOr X b ρ Q) s := by with_unfolding_all exact wp_or
theorem kOr_ap : kOr X b ρ Q x s = brO (truth s x) (tQ x Q) (ev X b ρ Q) s := by with_unfolding_all exact rfl
theorem ev_ife : ev X (.ife c a b) ρ Q s = ev X c ρ (kIfe X a b ρ Q) s := by with_unfolding_all exact wp_ife
theorem kIfe_ap : kIfe X a b ρ Q x s = brO (truth s x) (ev X a ρ Q) (ev X b ρ Q) s := by with_unfolding_all exact rfl
theorem ev_cmp {op : CmpOp} : ev X (.cmp a op b) ρ Q s = ev X a ρ (kCmp1 X op b ρ Q) s := by with_unfolding_all exact wp_cmp
theorem kCmp1_ap {op : CmpOp} : kCmp1 X op b ρ Q x s = ev X b ρ (kCmp2 op x Q) s := by with_unfolding_all exact rfl
theorem kCmp2_ap {op : CmpOp} : kCmp2 op x Q y s = bO (cmpD op s x y) Q s := by with_unfolding_all exact rfl
theorem ev_chain {op op' : CmpOp} : ev X (.chain a op b op' c) ρ Q s = ev X a ρ (kCh1 X op b op' c ρ Q) s := by with_unfolding_all exact wp_chain
theorem kCh1_ap {op op' : CmpOp} : kCh1 X op b op' c ρ Q x s = ev X b ρ (kCh2 X op x op' c ρ Q) s := by with_unfolding_all exact rfl
theorem kCh2_ap {op op' : CmpOp} : kCh2 X op x op' c ρ Q y s = brO (cmpD op s x y) (ev X c ρ (kCmp2 op' y Q)) (tQ (.bl false) Q) s := by with_unfolding_all exact rfl
theorem ev_ix : ev X (.ix a b) ρ Q s = ev X a ρ (kIx1 X b ρ Q) s := by with_unfolding_all exact wp_ix
theorem kIx1_ap : kIx1 X b ρ Q x s = ev X b ρ (kIx2 x Q) s := by with_unfolding_all exact rfl
theorem kIx2_ap : kIx2 x Q y s = vO (ixD s x y) Q s := by with_unfolding_all exact rfl
theorem ev_rev : ev X (.rev a) ρ Q s = ev X a ρ (kRev Q) s := by with_unfolding_all exact wp_rev
theorem kRev_ap : kRev Q x s = rvP x Q s := by with_unfolding_all exact rfl
theorem ev_slice {lo hi : List WL.E} : ev X (.slice a lo hi) ρ Q s = ev X a ρ (kSl1 X lo hi ρ Q) s := by with_unfolding_all exact wp_slice
theorem kSl1_ap {lo hi : List WL.E} : kSl1 X lo hi ρ Q x s = evN X lo ρ (kSl2 X x hi ρ Q) s := by with_unfolding_all exact rfl
theorem kSl2_ap {lo : Option Int} {hi : List WL.E} : kSl2 X x hi ρ Q lo s = evN X hi ρ (kSl3 x lo Q) s := by with_unfolding_all exact rfl
theorem kSl3_ap {lo hi : Option Int} : kSl3 x lo Q hi s = slP x lo hi Q s := by with_unfolding_all exact rfl
theorem evN_nil {K : Option Int → Store → Prop} : evN X [] ρ K s = K none s := by with_unfolding_all exact wp_end0
theorem evN_one {K : Option Int → Store → Prop} : evN X (a :: es) ρ K s = ev X a ρ (kEnd K) s := by with_unfolding_all exact wp_end1
theorem kEnd_ap {K : Option Int → Store → Prop} : kEnd K (.int i) s = K (some i) s := by with_unfolding_all exact rfl
theorem slP_tup {lo hi : Option Int} : slP (.tup l) lo hi Q s = Q (.tup (cutD l lo hi)) s := by with_unfolding_all exact rfl
theorem slP_ref {lo hi : Option Int} (h : isLst s n = some l) (hz : (cutD l lo hi).length ≤ sizeLine) : slP (.ref n) lo hi Q s = Q (.ref s.length) (s ++ [.lst (cutD l lo hi)]) := by
  unfold slP sliceD
  simp only [h, newLst]
  rw [if_pos hz]
  rfl
theorem ev_call {f : Nat} : ev X (.call f es) ρ Q s = evs X es ρ (kCall X f Q) s := by with_unfolding_all exact wp_call
theorem kCall_ap {f : Nat} : kCall X f Q l s = cl X f l Q s := by with_unfolding_all exact rfl
theorem ev_bi {f : Bi} : ev X (.bi f es) ρ Q s = evs X es ρ (kBi f Q) s := by with_unfolding_all exact wp_bi
theorem kBi_ap {f : Bi} : kBi f Q l s = biP f l Q s := by with_unfolding_all exact rfl
theorem biP_lenT : biP .len [.tup l] Q s = Q (.int l.length) s := by with_unfolding_all exact rfl
theorem biP_lenR (h : isLst s n = some l) : biP .len [.ref n] Q s = Q (.int l.length) s := by
  unfold biP biD
  simp only [items, h]
  rfl
theorem biP_lenF {l : List Int} : biP .len [.frz l] Q s = Q (.int l.length) s := by
  unfold biP biD
  simp only [items, List.length_map]
  rfl
theorem biP_int : biP .int [.int i] Q s = Q (.int i) s := by with_unfolding_all exact rfl
theorem biP_tupR (h : isLst s n = some l) : biP .tuple [.ref n] Q s = Q (.tup l) s := by
  unfold biP biD
  simp only [items, h]
  rfl
theorem biP_tupT : biP .tuple [.tup l] Q s = Q (.tup l) s := by with_unfolding_all exact rfl
theorem biP_listR (h : isLst s n = some l) (hz : l.length ≤ sizeLine) : biP .list [.ref n] Q s = Q (.ref s.length) (s ++ [.lst l]) := by
  unfold biP biD
  simp only [items, h, newLst]
  rw [if_pos hz]
  rfl
theorem biP_listT (hz : l.length ≤ sizeLine) : biP .list [.tup l] Q s = Q (.ref s.length) (s ++ [.lst l]) := by
  unfold biP biD
  simp only [items, newLst]
  rw [if_pos hz]
  rfl
theorem biP_sum {ns : List Int} (h : isLst s n = some l) (h' : intsOf l = some ns) : biP .sum [.ref n] Q s = Q (.int ns.sum) s := by
  unfold biP biD
  simp only [h, h']
  rfl
theorem biP_min : biP .min [.int i, .int j] Q s = Q (.int (if j < i then j else i)) s := by with_unfolding_all exact rfl
theorem biP_max : biP .max [.int i, .int j] Q s = Q (.int (if j > i then j else i)) s := by with_unfolding_all exact rfl
theorem ev_isi {t : Ty} : ev X (.isi a t) ρ Q s = ev X a ρ (kIsi t Q) s := by with_unfolding_all exact wp_isi
theorem kIsi_ap {t : Ty} : kIsi t Q x s = bO (isiD s x t) Q s := by with_unfolding_all exact rfl
theorem isi_int {t : Ty} : isiD s (.int i) t = some (decide (t = .int)) := by with_unfolding_all exact rfl
theorem isi_bl {t : Ty} {w : Bool} : isiD s (.bl w) t = some (decide (t = .bool ∨ t = .int)) := by with_unfolding_all exact rfl
theorem isi_tup {t : Ty} : isiD s (.tup l) t = some (decide (t = .tuple)) := by with_unfolding_all exact rfl
theorem isi_non {t : Ty} : isiD s .non t = some false := by with_unfolding_all exact rfl
theorem isi_str {t : Ty} {w : Str} : isiD s (.str w) t = some (decide (t = .str)) := by with_unfolding_all exact rfl
theorem ev_lrg : ev X (.lrg es) ρ Q s = evs X es ρ (kLrg Q) s := by
  unfold ev evs
  rw [wp_lrg]
  congr 1
  funext l s
  show _ = lrP (rngD l) Q s
  cases rngD l with
  | none => rfl
  | some l =>
    show Br _ (Br _ _ _) _ = br _ _ _ _
    unfold Br br
    split <;> rfl
theorem kLrg_ap : kLrg Q l s = lrP (rngD l) Q s := by with_unfolding_all exact rfl
theorem ev_trg : ev X (.trg es) ρ Q s = evs X es ρ (kTrg Q) s := by
  unfold ev evs
  rw [wp_trg]
  congr 1
  funext l s
  show _ = trP (rngD l) Q s
  cases rngD l <;> with_unfolding_all rfl
theorem kTrg_ap : kTrg Q l s = trP (rngD l) Q s := by with_unfolding_all exact rfl
theorem ev_app : ev X (.app a b) ρ Q s = ev X a ρ (kApp1 X b ρ Q) s := by
  with_unfolding_all exact wp_app
theorem kApp1_ap : kApp1 X b ρ Q x s = brB (isL s x) (ev X b ρ (kApp2 x Q)) tF s := by with_unfolding_all exact rfl
theorem kApp2_ap : kApp2 x Q y s = apP x y Q s := by with_unfolding_all exact rfl
theorem apP_ref (h : isLst s n = some l) (hz : l.length < sizeLine) : apP (.ref n) y Q s = Q .non (s.set n (.lst (l ++ [y]))) := by
  unfold apP appD
  simp only [h]
  rw [if_pos hz]
  rfl
theorem ev_pop : ev X (.pop a b) ρ Q s = ev X a ρ (kPop1 X b ρ Q) s := by
  with_unfolding_all exact wp_pop
theorem kPop1_ap : kPop1 X b ρ Q x s = brB (isL s x) (ev X b ρ (kPop2 x Q)) tF s := by with_unfolding_all exact rfl
theorem kPop2_ap : kPop2 x Q y s = poP x y Q s := by with_unfolding_all exact rfl
theorem poP_ref {k : Nat} (h : isLst s n = some l) (hk : l[k]? = some x) (h2 : (k : Int) < 2 ^ 63) : poP (.ref n) (.int (k : Int)) Q s = Q x (s.set n (.lst (l.eraseIdx k))) := by
  unfold poP popD
  have hl := (List.getElem?_eq_some_iff.mp hk).1
  simp only [h, ixOf_nat hl, hk]
  rw [if_pos ⟨by omega, h2⟩]
  rfl
theorem ev_ext : ev X (.ext a b) ρ Q s = ev X a ρ (kExt1 X b ρ Q) s := by
  with_unfolding_all exact wp_ext
theorem kExt1_ap : kExt1 X b ρ Q x s = brB (isL s x) (ev X b ρ (kExt2 x Q)) tF s := by with_unfolding_all exact rfl
theorem kExt2_ap : kExt2 x Q y s = exP x y Q s := by with_unfolding_all exact rfl
theorem exP_ref {r : List D} (h : isLst s n = some l) (h' : isLst s m = some r) (hz : l.length + r.length ≤ sizeLine) : exP (.ref n) (.ref m) Q s = Q .non (s.set n (.lst (l ++ r))) := by
  unfold exP extD
  simp only [h, h']
  rw [if_pos hz]
  rfl
theorem isL_ref (h : isLst s n = some l) : isL s (.ref n) = true := by
  unfold isL
  simp only [h, Option.isSome_some]
theorem ev_meth {m : Me} {es : List WL.E} : ev X (.meth m a es) ρ Q s = ev X a ρ (kMe1 X m es ρ Q) s := by with_unfolding_all exact wp_meth
theorem kMe1_ap {m : Me} {es : List WL.E} : kMe1 X m es ρ Q x s = brB (meT m s x) (evs X es ρ (kMe2 m x Q)) tF s := by with_unfolding_all exact rfl
theorem kMe2_ap {m : Me} : kMe2 m x Q ds s = meP m x ds Q s := by with_unfolding_all exact rfl
theorem ev_dnew : ev X .dnew ρ Q s = Q (.ref s.length) (s ++ [.dct []]) := by with_unfolding_all exact wp_dnew
def kDl (ks : List Str) (n : Nat) (Q : KQ) : KL := fun ds s => onP (some (decide (ks.length = ds.length ∧ isDct s n = some []))) (Q (.ref n) (s.set n (.dct (mergeD [] ((ks.map Sum.inr).zip ds))))) False
theorem ev_dlit {ks : List Str} {es : List WL.E} : ev X (.dlit ks es) ρ Q s = evs X es ρ (kDl ks s.length Q) (s ++ [.dct []]) := by
  unfold ev evs kDl
  simp only [evE, WpR_bind]
  congr 1
  funext ds s1
  by_cases h : ks.length = ds.length ∧ isDct s1 s.length = some []
  · rw [if_pos h, decide_eq_true h]
    rfl
  · rw [if_neg h, decide_eq_false h]
    rfl
theorem kDl_ap {ks : List Str} {n : Nat} {ds : List D} (h : ks.length = ds.length) (h2 : isDct s n = some []) : kDl ks n Q ds s = Q (.ref n) (s.set n (.dct (mergeD [] ((ks.map Sum.inr).zip ds)))) := by
  unfold kDl
  rw [decide_eq_true ⟨h, h2⟩]
  rfl
theorem meT_str {m : Me} {w : Str} : meT m s (.str w) = m.isT := rfl
theorem meT_gd {m : Me} {ks : List Str} {vs : List D} : meT m s (.gd ks vs) = m.isD := rfl
theorem isT_join : Me.join.isT = true := rfl
theorem isT_split : Me.split.isT = true := rfl
theorem isT_zfill : Me.zfill.isT = true := rfl
theorem isT_part : Me.part.isT = true := rfl
theorem isT_upper : Me.upper.isT = true := rfl
theorem isT_find : Me.find.isT = true := rfl
theorem isT_count : Me.count.isT = true := rfl
theorem isT_get : Me.get.isT = false := rfl
theorem isT_dpop : Me.dpop.isT = false := rfl
theorem isT_rpart : Me.rpart.isT = true := rfl
theorem isD_get : Me.get.isD = true := rfl
theorem isT_update : Me.update.isT = false := rfl
theorem isD_update : Me.update.isD = true := rfl
theorem isS_update : Me.update.isS = false := rfl
theorem meP_update {n m : Nat} {l l2 : List (L2.Key × D)} (h : isDct s n = some l) (h2 : isDct s m = some l2) (hc : n ≠ m ∧ l.length + l2.length ≤ sizeLine) : meP .update (.ref n) [.ref m] Q s = Q .non (s.set n (.dct (mergeD l l2))) := by
  have e : meD .update (.ref n) [.ref m] s = .ok .non (s.set n (.dct (mergeD l l2))) := by
    unfold meD
    simp only [h, h2]
    rw [if_pos hc]
  unfold meP
  rw [e]
  rfl
theorem isD_dpop : Me.dpop.isD = true := rfl
theorem isD_lpop : Me.lpop.isD = false := rfl
theorem isD_index : Me.index.isD = false := rfl
theorem isD_insert : Me.insert.isD = false := rfl
theorem isS_get : Me.get.isS = false := rfl
theorem isS_dpop : Me.dpop.isS = false := rfl
theorem isS_lpop : Me.lpop.isS = true := rfl
theorem isS_index : Me.index.isS = true := rfl
theorem isS_insert : Me.insert.isS = true := rfl
theorem meT_ref {m : Me} : meT m s (.ref n) = (m.isD && (isDct s n).isSome || m.isS && (isLst s n).isSome) := rfl
theorem meP_get1 : meP .get x [y] Q s = gtP (lookD s x y) .non Q s := by
  unfold meP gtP
  simp only [meD]
  cases lookD s x y <;> rfl
theorem meP_get2 : meP .get x [y, z] Q s = gtP (lookD s x y) z Q s := by
  unfold meP gtP
  simp only [meD]
  cases lookD s x y <;> rfl
theorem gtP_some {o : Option D} : gtP (some o) z Q s = Q (o.getD z) s := by with_unfolding_all exact rfl
theorem lookD_gd {ks : List Str} {vs : List D} {w : Str} : lookD s (.gd ks vs) (.str w) = some (valD (ks.zip vs) w) := by with_unfolding_all exact rfl
theorem ev_lc {elt : WL.E} {tg : Tg} {it : It} {ifs : List WL.E} {own : List Nat} : ev X (.lc elt tg it ifs own) ρ Q s = evI X it ρ (kLc X elt tg ifs own ρ Q) s := by with_unfolding_all exact wp_lc
theorem kLc_ap {elt : WL.E} {tg : Tg} {ifs : List WL.E} {own : List Nat} {w : Walk} : kLc X elt tg ifs own ρ Q w s = lcP X elt tg ifs own ρ w Q s := by with_unfolding_all exact rfl
theorem evI_val : evI X (.val a) ρ Kw s = ev X a ρ (kVal Kw) s := by
  unfold ev evI
  rw [wp_ival]
  congr 1
theorem kVal_ap : kVal Kw x s = wO (walkS s x) Kw s := by with_unfolding_all exact rfl
theorem walk_tup : walkOf s (.tup l) = some ⟨[], l⟩ := by with_unfolding_all exact rfl
theorem walk_frz {l : List Int} : walkOf s (.frz l) = some ⟨[], l.map .int⟩ := by with_unfolding_all exact rfl
theorem walk_ref (h : isLst s n = some l) : walkOf s (.ref n) = some ⟨[(n, l)], l⟩ := by
  show (isLst s n).map _ = _
  rw [h]
  rfl
theorem walkS_tup : walkS s (.tup l) = some ⟨[], l⟩ := by with_unfolding_all exact rfl
theorem walkS_frz {l : List Int} : walkS s (.frz l) = some ⟨[], l.map .int⟩ := by with_unfolding_all exact rfl
theorem walkS_ref : walkS s (.ref n) = walkOf s (.ref n) := by with_unfolding_all exact rfl
theorem walkS_str {w : Str} : walkS s (.str w) = some ⟨[], w.cps.toList.map fun c => .str ⟨#[c]⟩⟩ := by with_unfolding_all exact rfl
theorem evI_rng : evI X (.rng es) ρ Kw s = evs X es ρ (kRng Kw) s := by with_unfolding_all exact wp_irng
theorem kRng_ap : kRng Kw l s = rgW (rngD l) Kw s := by with_unfolding_all exact rfl
theorem rgW_some : rgW (some l) Kw s = Kw ⟨[], l⟩ s := by with_unfolding_all exact rfl
theorem evI_enm : evI X (.enm a) ρ Kw s = ev X a ρ (kEnm Kw) s := by with_unfolding_all exact wp_ienm
theorem kEnm_ap : kEnm Kw x s = enW (walkS s x) Kw s := by with_unfolding_all exact rfl
theorem enW_some {w : Walk} : enW (some w) Kw s = Kw (enmOf w) s := by with_unfolding_all exact rfl
theorem evI_zip : evI X (.zip a b) ρ Kw s = ev X a ρ (kZip1 X b ρ Kw) s := by
  with_unfolding_all exact wp_izip
theorem kZip1_ap : kZip1 X b ρ Kw x s = ev X b ρ (kZip2 x Kw) s := by with_unfolding_all exact rfl
theorem kZip2_ap : kZip2 x Kw y s = ziW x y Kw s := by with_unfolding_all exact rfl
theorem ziW_tup {m : List D} : ziW (.tup l) (.tup m) Kw s = Kw (zipOf ⟨[], l⟩ ⟨[], m⟩) s := by with_unfolding_all exact rfl
theorem ziW_ref {r : List D} (h : isLst s n = some l) (h' : isLst s m = some r) : ziW (.ref n) (.ref m) Kw s = Kw (zipOf ⟨[(n, l)], l⟩ ⟨[(m, r)], r⟩) s := by
  unfold ziW
  rw [walk_ref h, walk_ref h']
  rfl
theorem ziW_mix {r : List D} (h : isLst s n = some l) : ziW (.ref n) (.tup r) Kw s = Kw (zipOf ⟨[(n, l)], l⟩ ⟨[], r⟩) s := by
  unfold ziW
  rw [walk_ref h, walk_tup]
  rfl
theorem ziW_xim {r : List D} (h : isLst s n = some r) : ziW (.tup l) (.ref n) Kw s = Kw (zipOf ⟨[], l⟩ ⟨[(n, r)], r⟩) s := by
  unfold ziW
  rw [walk_ref h, walk_tup]
  rfl
theorem rng1 (h : small i = true) : rngD [.int i] = some (rngL 0 i) := if_pos h
theorem rng2 (h : small i = true) (h' : small j = true) : rngD [.int i, .int j] = some (rngL i j) := if_pos (by rw [h, h']; rfl)
theorem small_of (h1 : -4611686018427387904 ≤ i) (h2 : i < 4611686018427387904) : small i = true := by
  unfold small
  rw [Bool.and_eq_true, decide_eq_true_eq, decide_eq_true_eq]
  exact ⟨by omega, by omega⟩
theorem asg_nm : asg X (.nm n) x ρ N s = N (ρ.set n (some x)) s := by with_unfolding_all exact wp_nm
theorem asg_tup {ts : List Tg} (h : l.length = ts.length) : asg X (.tup ts) (.tup l) ρ N s = asgs X ts l ρ N s := by
  unfold asg asgs
  rw [wp_ttup]
  exact if_pos h
theorem asg_ref {ts : List Tg} (h' : isLst s n = some l) (h : l.length = ts.length) : asg X (.tup ts) (.ref n) ρ N s = asgs X ts l ρ N s := by
  unfold asg asgs
  rw [wp_tref, h']
  exact if_pos h
theorem asgs_nil : asgs X [] [] ρ N s = N ρ s := by with_unfolding_all exact wp_tnil
theorem asgs_cons {t : Tg} {ts : List Tg} : asgs X (t :: ts) (x :: ds) ρ N s = asg X t x ρ (kTs X ts ds N) s := by with_unfolding_all exact wp_tcons
theorem kTs_ap {ts : List Tg} : kTs X ts ds N ρ s = asgs X ts ds ρ N s := by with_unfolding_all exact rfl
theorem asg_sub : asg X (.sub a b) v ρ N s = ev X a ρ (kSub1 X b v ρ N) s := by with_unfolding_all exact wp_tsub
theorem kSub1_ap : kSub1 X b v ρ N x s = ev X b ρ (kSub2 x v ρ N) s := by with_unfolding_all exact rfl
theorem kSub2_ap : kSub2 x v ρ N y s = stP x y v ρ N s := by with_unfolding_all exact rfl
theorem stP_ref {k : Nat} (h : isLst s n = some l) (hk : k < l.length) : stP (.ref n) (.int (k : Int)) v ρ N s = N ρ (s.set n (.lst (l.set k v))) := by
  unfold stP setD
  simp only [h, ixOf_nat hk]
  rfl
theorem blk_nil : blk X [] ρ E s = E.nx ρ s := by with_unfolding_all exact wps_nil
theorem blk_cons {w : S} {xs : List S} : blk X (w :: xs) ρ E s = st X w ρ (kSeq X xs E) s := by with_unfolding_all exact wps_cons
theorem kSeq_nx {xs : List S} : (kSeq X xs E).nx ρ s = blk X xs ρ E s := by with_unfolding_all exact rfl
theorem kSeq_rt {xs : List S} : (kSeq X xs E).rt = E.rt := by with_unfolding_all exact rfl
theorem kSeq_bk {xs : List S} : (kSeq X xs E).bk = E.bk := by with_unfolding_all exact rfl
theorem kSeq_ct {xs : List S} : (kSeq X xs E).ct = E.ct := by with_unfolding_all exact rfl
theorem st_asg {t : Tg} : st X (.asg t e) ρ E s = ev X e ρ (kAsg X t ρ s E) s := by with_unfolding_all exact wps_asg
theorem kAsg_ap {t : Tg} : kAsg X t ρ s0 E x s = asg X t x ρ E.nx (trunc s0 x s) := by with_unfolding_all exact rfl
theorem st_par {is : List Nat} : st X (.par is es) ρ E s = evs X es ρ (kPar is ρ s E) s := by with_unfolding_all exact wps_par
theorem kPar_ap {is : List Nat} : kPar is ρ s0 E l s = br (l.length = is.length) (tN (parSet is l ρ) (trunc s0 (.tup l) s) E.nx) tF s := by with_unfolding_all exact rfl
theorem st_aug {op : Operator} : st X (.aug n op e) ρ E s = vE ρ[n]? (kAug1 X n op e ρ E) s := by
  unfold st
  rw [wps_aug]
  cases ρ[n]? with
  | none => rfl
  | some o =>
    cases o with
    | none => rfl
    | some d =>
      cases d with
      | int x =>
        show _ = ev X e ρ _ s
        simp only [onE, onI]
        unfold ev
        congr 1
        funext d s1
        cases d <;> rfl
      | _ => rfl
theorem kAug1_ap {op : Operator} : kAug1 X n op e ρ E (.int i) s = ev X e ρ (kAug2 n op (.int i) ρ s E) s := by with_unfolding_all exact rfl
theorem kAug2_ap {op : Operator} : kAug2 n op (.int i) ρ s0 E (.int j) s = E.nx (ρ.set n (some (.int (aop op i j)))) (trunc s0 .non s) := by with_unfolding_all exact rfl
theorem st_augS {op : Operator} : st X (.augS a b op e) ρ E s = ev X a ρ (kAs1 X op b e ρ E) s := by
  unfold st
  rw [wps_augS]
  unfold ev
  congr 1
  funext a s
  show _ = ev X b ρ (kAs2 X op a e ρ E) s
  unfold ev
  congr 1
  funext k s
  show BrB (isL s a) _ _ = brB (isL s a) _ _ _
  cases isL s a
  · rfl
  · show onO (ixD s a k) _ = vO (ixD s a k) _ s
    cases ixD s a k with
    | none => rfl
    | some d =>
      cases d with
      | int i =>
        show _ = ev X e ρ (kAs4 op a k (.int i) ρ E) s
        unfold ev
        show WpR _ _ = WpR _ _
        congr 1
        funext y s
        cases y <;> rfl
      | _ => rfl
theorem kAs1_ap {op : Operator} : kAs1 X op b e ρ E x s = ev X b ρ (kAs2 X op x e ρ E) s := by with_unfolding_all exact rfl
theorem kAs2_ap {op : Operator} : kAs2 X op x e ρ E y s = brB (isL s x) (tIx x y (kAs3 X op x y e ρ E)) tF s := by with_unfolding_all exact rfl
theorem tIx_ap : tIx x y Q s = vO (ixD s x y) Q s := by with_unfolding_all exact rfl
theorem kAs3_ap {op : Operator} : kAs3 X op x y e ρ E (.int i) s = ev X e ρ (kAs4 op x y (.int i) ρ E) s := by with_unfolding_all exact rfl
theorem kAs4_ap {op : Operator} : kAs4 op x y (.int i) ρ E (.int j) s = stP x y (.int (aop op i j)) ρ E.nx s := by with_unfolding_all exact rfl
theorem st_expr : st X (.expr e) ρ E s = ev X e ρ (kExpr ρ s E) s := by with_unfolding_all exact wps_expr
theorem kExpr_ap : kExpr ρ s0 E x s = E.nx ρ (trunc s0 .non s) := by with_unfolding_all exact rfl
theorem st_ret : st X (.ret e) ρ E s = ev X e ρ (kRet s E) s := by with_unfolding_all exact wps_ret
theorem kRet_ap : kRet s0 E x s = E.rt x (trunc s0 x s) := by with_unfolding_all exact rfl
theorem st_retN : st X .retN ρ E s = E.rt .non s := by with_unfolding_all exact wps_retN
theorem st_iff {p q : List S} : st X (.iff c p q) ρ E s = ev X c ρ (kIf X p q ρ s E) s := by with_unfolding_all exact wps_iff
theorem kIf_ap {p q : List S} : kIf X p q ρ s0 E x s = brO (truth s x) (blk X p ρ E) (blk X q ρ E) (trunc s0 .non s) := by with_unfolding_all exact rfl
theorem st_brk : st X .brk ρ E s = E.bk ρ s := by with_unfolding_all exact wps_brk
theorem st_cnt : st X .cnt ρ E s = E.ct ρ s := by with_unfolding_all exact wps_cnt
theorem st_pass : st X .pass ρ E s = E.nx ρ s := by with_unfolding_all exact wps_pass
theorem st_for {t : Tg} {it : It} {p : List S} : st X (.for t it p) ρ E s = evI X it ρ (kFor X t p ρ E) s := by with_unfolding_all exact wps_for
theorem kFor_ap {t : Tg} {p : List S} {w : Walk} : kFor X t p ρ E w s = forP X t p w w.its ρ E s := by with_unfolding_all exact rfl
theorem st_whl {p : List S} : st X (.whl c p) ρ E s = whlP X c p X.F ρ E s := by with_unfolding_all exact wps_whl
theorem forP_nil {t : Tg} {p : List S} {w : Walk} (h : w.stays s = true) : forP X t p w [] ρ E s = E.nx ρ s := by
  unfold forP forGo
  rw [if_pos h]
  rfl
theorem for_inv {t : Tg} {p : List S} {w : Walk} {its : List D} (I : List D → Env → Store → Prop) (h0 : I its ρ s) (hs : ∀ l ρ s, I l ρ s → w.stays s = true)
    (ht : ∀ x l ρ s, I (x :: l) ρ s → asg X t x ρ (kBody X p { nx := fun ρ s => I l ρ s, ct := fun ρ s => I l ρ s, bk := E.nx, rt := E.rt }) s)
    (he : ∀ ρ s, I [] ρ s → E.nx ρ s) : forP X t p w its ρ E s := by
  have h := wps_forI (w := ⟨w.chk, its⟩) (f := fun x ρ s => (asgT X.C X.G t x ρ s).stm ρ fun ρ s => exB X.C X.G X.F p ρ s) (E := E) I h0 (fun l ρ s h => hs l ρ s h) (fun x l ρ s h => by rw [WpS_stm]; have q := ht x l ρ s h; unfold asg kBody blk at q; exact q) he
  unfold forP
  have e : ∀ (l : List D) (ρ : Env) (s : Store), forGo ⟨w.chk, its⟩ (fun x ρ s => (asgT X.C X.G t x ρ s).stm ρ fun ρ s => exB X.C X.G X.F p ρ s) l ρ s = forGo w (fun x ρ s => (asgT X.C X.G t x ρ s).stm ρ fun ρ s => exB X.C X.G X.F p ρ s) l ρ s := by
    intro l
    induction l with
    | nil => intro ρ s; rfl
    | cons x l ih =>
      intro ρ s
      unfold forGo
      have es : (Walk.mk w.chk its).stays s = w.stays s := rfl
      rw [es]
      split
      · split <;> first | exact ih _ _ | rfl
      · rfl
  rw [← e]
  exact h
theorem kBody_ap {p : List S} : kBody X p E ρ s = blk X p ρ E s := by with_unfolding_all exact rfl
theorem whl_inv {p : List S} {F : Nat} (I : Nat → Env → Store → Prop) {n : Nat} (h0 : I n ρ s) (hn : n < F)
    (ht : ∀ n ρ s, I n ρ s → ev X c ρ (kWh X p ρ s { nx := fun ρ s => ∃ m, m < n ∧ I m ρ s, ct := fun ρ s => ∃ m, m < n ∧ I m ρ s, bk := E.nx, rt := E.rt } E) s) : whlP X c p F ρ E s := by
  unfold whlP
  induction F generalizing n ρ s with
  | zero => omega
  | succ F ih =>
    unfold whlGo
    rw [WpS_stm, wp_tst]
    have h := ht n ρ s h0
    unfold ev at h
    refine WpR_mono h fun x s1 hx => ?_
    unfold kWh at hx
    cases ht : truth s1 x with
    | none => rw [ht] at hx; exact hx.elim
    | some b =>
      rw [ht] at hx
      cases b with
      | false => exact hx
      | true =>
        show WpS (match exB X.C X.G X.F p ρ (trunc s D.non s1) with
          | .nx ρ s => whlGo (tst X.C X.G c) (exB X.C X.G X.F p) F ρ s
          | .cnt ρ s => whlGo (tst X.C X.G c) (exB X.C X.G X.F p) F ρ s
          | .brk ρ s => .nx ρ s
          | r => r) E
        have h : WpS (exB X.C X.G X.F p ρ (trunc s D.non s1)) { nx := fun ρ s => ∃ m, m < n ∧ I m ρ s, ct := fun ρ s => ∃ m, m < n ∧ I m ρ s, bk := E.nx, rt := E.rt } := by
          have hx : blk X p ρ { nx := fun ρ s => ∃ m, m < n ∧ I m ρ s, ct := fun ρ s => ∃ m, m < n ∧ I m ρ s, bk := E.nx, rt := E.rt } (trunc s D.non s1) := hx
          unfold blk at hx
          exact hx
        cases hf : exB X.C X.G X.F p ρ (trunc s D.non s1) with
        | nx ρ2 s2 => rw [hf] at h; obtain ⟨m, hm, h⟩ := h; exact ih h (by omega)
        | cnt ρ2 s2 => rw [hf] at h; obtain ⟨m, hm, h⟩ := h; exact ih h (by omega)
        | brk ρ2 s2 => rw [hf] at h; exact h
        | ret d s2 => rw [hf] at h; exact h
        | exc c w ρ2 s2 => rw [hf] at h; exact h
        | bad => rw [hf] at h; exact h
theorem kWh_ap {p : List S} {E1 : En} : kWh X p ρ s0 E1 E x s = brO (truth s x) (blk X p ρ E1) (tNx ρ E) (trunc s0 .non s) := by with_unfolding_all exact rfl
theorem tNx_ap : tNx ρ E s = E.nx ρ s := by with_unfolding_all exact rfl
theorem lc_inv {elt : WL.E} {tg : Tg} {ifs : List WL.E} {own : List Nat} {w : Walk} (I : List D → List D → Store → Prop) (h0 : I w.its [] s)
    (hl : ∀ r acc s2, I r acc s2 → s2.length = s.length ∧ w.stays (s2 ++ [.lst acc]) = true ∧ acc.length + r.length < sizeLine)
    (ht : ∀ x r acc s2, I (x :: r) acc s2 → WpR (lcT X.C X.G elt tg ifs own ρ x (s2 ++ [.lst acc])) fun o s3 => ∃ s4, s3 = s4 ++ [.lst acc] ∧ I r (acc ++ o.toList) s4)
    (he : ∀ acc s2, I [] acc s2 → Q (.ref s.length) (s2 ++ [.lst acc])) : lcP X elt tg ifs own ρ w Q s := by
  unfold lcP
  have go : ∀ (r acc : List D) (s2 : Store), I r acc s2 → WpR (lcGo w s.length (lcT X.C X.G elt tg ifs own ρ) r (s2 ++ [.lst acc])) Q := by
    intro r
    induction r with
    | nil =>
      intro acc s2 h
      obtain ⟨h1, h2, _⟩ := hl _ _ _ h
      unfold lcGo
      rw [if_pos h2]
      exact he _ _ h
    | cons x r ih =>
      intro acc s2 h
      obtain ⟨h1, h2, h3⟩ := hl _ _ _ h
      unfold lcGo
      rw [if_pos h2, WpR_bind, wp_quiet]
      refine WpR_mono (ht _ _ _ _ h) fun o s3 ⟨s4, e, hI⟩ => ?_
      subst e
      obtain ⟨g1, _, _⟩ := hl _ _ _ hI
      cases o with
      | none =>
        simp only [Option.toList, List.append_nil] at hI
        exact ih _ _ hI
      | some d =>
        have e1 : isLst (s4 ++ [Cell.lst acc]) s.length = some acc := by rw [isLst_new0 g1]; rfl
        have hz : acc.length < sizeLine := by omega
        simp only [e1]
        rw [if_pos hz, set_new0 g1]
        exact ih _ _ hI
  exact go _ _ _ h0
end
abbrev mx (P : Prog) (G : Globs) (F k : Nat) : Mx := ⟨callF P G F k, G, F⟩
def kEnd' (s : Store) (Q : KQ) : En := ⟨fun _ s1 => Q .non (trunc s .non s1), fun d s1 => Q d (trunc s d s1), fun _ _ => False, fun _ _ => False⟩
theorem kEnd_nx {s s1 : Store} {Q : KQ} {ρ : Env} : (kEnd' s Q).nx ρ s1 = Q .non (trunc s .non s1) := by with_unfolding_all exact rfl
theorem kEnd_rt {s s1 : Store} {Q : KQ} {d : D} : (kEnd' s Q).rt d s1 = Q d (trunc s d s1) := by with_unfolding_all exact rfl
theorem cl_fd {P : Prog} {G : Globs} {F k f : Nat} {fd : FD} {ds : List D} {s : Store} {Q : KQ} (h : P f = some fd) (hl : ds.length = fd.np)
    (h2 : blk (mx P G F k) fd.body (ds.map some ++ List.replicate (fd.nv - fd.np) none) (kEnd' s Q) s) (hc : fd.cl = [] := by rfl) : cl (mx P G F (k + 1)) f ds Q s := by
  unfold blk at h2
  unfold cl
  exact wp_callF h hl h2 hc
abbrev mxC (P : Prog) (G : Globs) (F k : Nat) (Γ : List (Nat × D)) : Mx := ⟨cloC Γ (callF P G F k), G, F⟩
theorem cl_fdC {P : Prog} {G : Globs} {F k f : Nat} {fd : FD} {ds : List D} {s : Store} {Q : KQ} {Γ : List (Nat × D)} {ρ : Env} (h : P f = some fd) (hl : ds.length = fd.np) (hg : gamma fd.cl ds = Γ) (hr : hideL fd.cl (ds.map some ++ List.replicate (fd.nv - fd.np) none) = ρ)
    (h2 : blk (mxC P G F k Γ) fd.body ρ (kEnd' s Q) s) : cl (mx P G F (k + 1)) f ds Q s := by
  subst hg hr
  unfold blk at h2
  unfold cl
  exact wp_callC h hl h2
section
variable {P : Prog} {G : Globs} {F k f j id : Nat} {ds cs : List D} {d : D} {s : Store} {Q : KQ} {Γ : List (Nat × D)}
theorem cl_low (h : f < hB) : cl (mxC P G F k Γ) f ds Q s = cl (mx P G F k) f ds Q s := by
  unfold cl
  cases Γ with
  | nil => rfl
  | cons p Γ =>
    simp only [mxC, mx]
    congr 1
    unfold cloC
    dsimp only
    rw [if_neg (by unfold hB4; unfold hB at h; omega), if_neg (by unfold hB3; unfold hB at h; omega), if_neg (by unfold hB2; unfold hB at h; omega), if_neg (by omega)]
theorem cl_ask (h1 : hB ≤ f) (h2 : f < hB2) (hq : Γ.find? (fun q => decide (q.1 = f - hB)) = some (j, cloD id cs)) : cl (mxC P G F k Γ) f ds Q s = cl (mx P G F k) id (ds ++ cs) Q s := by
  unfold cl
  cases Γ with
  | nil => cases hq
  | cons p Γ =>
    simp only [mxC, mx]
    congr 1
    unfold cloC
    dsimp only
    rw [if_neg (by unfold hB4; unfold hB2 at h2; omega), if_neg (by unfold hB3; unfold hB2 at h2; omega), if_neg (by omega), if_pos h1, hq]
    unfold askD cloD
    simp
theorem cl_hand (h1 : hB2 ≤ f) (h2 : f < hB3) (hq : Γ.find? (fun q => decide (q.1 = f - hB2)) = some (j, d)) : cl (mxC P G F k Γ) f [] Q s = Q d s := by
  unfold cl
  cases Γ with
  | nil => cases hq
  | cons p Γ =>
    simp only [mxC]
    unfold cloC
    dsimp only
    rw [if_neg (by unfold hB4; unfold hB3 at h2; omega), if_neg (by omega), if_pos h1, hq]
    rfl
theorem cl_has {i : Nat} {pl : List Nat} (hi : i < hB) (hq : Γ.find? (fun q => decide (q.1 = i)) = some (j, cloL id pl)) : cl (mxC P G F k Γ) (hB3 + i) [plD pl] Q s = Q .non s := by
  unfold cl
  cases Γ with
  | nil => cases hq
  | cons p Γ =>
    simp only [mxC]
    unfold cloC
    dsimp only
    rw [if_neg (by unfold hB4 hB3 hB at *; omega), if_pos (by omega), show hB3 + i - hB3 = i by omega, hq]
    unfold hasP cloL
    simp only [if_true]
    rfl
theorem cl_askL {i : Nat} {pl : List Nat} (hq : Γ.find? (fun q => decide (q.1 = i)) = some (j, cloL id pl)) : cl (mxC P G F k Γ) (hB4 + i) ds Q s = cl (mx P G F k) id ds Q s := by
  unfold cl
  cases Γ with
  | nil => cases hq
  | cons p Γ =>
    simp only [mxC, mx]
    congr 1
    unfold cloC
    dsimp only
    rw [if_pos (by omega), show hB4 + i - hB4 = i by omega, hq]
    unfold askL cloL
    simp
end
@[irreducible] def eas (X : Mx) (as : List Ar) (ρ : Env) (K : KL) (s : Store) : Prop := WpR (evAs X.C X.G as ρ s) K
def kAr1 (X : Mx) (as : List Ar) (ρ : Env) (K : KL) : KQ := fun d s => eas X as ρ (fun ds s => K (d :: ds) s) s
def kAsD (d : D) (K : KL) : KL := fun ds s => K (d :: ds) s
def tAs (X : Mx) (as : List Ar) (ρ : Env) (K : KL) (d : D) : Th := fun s => eas X as ρ (kAsD d K) s
def kFn2 (X : Mx) (as : List Ar) (ρ : Env) (K : KL) (g h : Nat) (pl : List Nat) : KQ := fun x s => brO (truth s x) (tAs X as ρ K (fnD g pl)) (tAs X as ρ K (fnD h pl)) s
def kG (X : Mx) (as : List Ar) (i : Nat) (ρ : Env) (Q : KQ) : KQ := fun _ s => eas X as ρ (kCall X (hB4 + i) Q) s
def slO (X : Mx) (as : List Ar) (ρ : Env) (K : KL) (o : Option (Option D)) (s : Store) : Prop := onO (match o with
  | some (some (.fnv g pl)) => some (g, pl)
  | _ => none) fun p => eas X as ρ (kAsD (fnD p.1 p.2) K) s
def lmO (X : Mx) (as : List Ar) (ρ : Env) (K : KL) (id : Nat) (o : Option (List D)) (s : Store) : Prop := onO o fun ds => eas X as ρ (kAsD (cloD id ds) K) s
section
variable {X : Mx} {as : List Ar} {a : Ar} {ρ : Env} {K : KL} {s : Store} {Q : KQ} {f g h i id : Nat} {e c : E} {d : D} {ds : List D} {caps : List Nat}
theorem ev_callL : ev X (.callL f as) ρ Q s = eas X as ρ (kCall X f Q) s := by
  unfold ev eas
  simp only [evE, WpR_bind]
  with_unfolding_all rfl
theorem ev_callG : ev X (.callG i as) ρ Q s = cl X (hB3 + i) [plD (fnsOf 0 as)] (kG X as i ρ Q) s := by
  unfold ev cl kG eas
  simp only [evE, WpR_bind]
  with_unfolding_all rfl
theorem kG_ap : kG X as i ρ Q d s = eas X as ρ (kCall X (hB4 + i) Q) s := by with_unfolding_all exact rfl
theorem eas_nil : eas X [] ρ K s = K [] s := by
  unfold eas
  simp only [evAs]
  rfl
theorem eas_cons : eas X (a :: as) ρ K s = WpR (evA X.C X.G a ρ s) fun d s => eas X as ρ (kAsD d K) s := by
  unfold eas
  simp only [evAs, WpR_bind, WpR_ok]
  rfl
theorem eas_val : eas X (.val e :: as) ρ K s = ev X e ρ (kAr1 X as ρ K) s := by
  rw [eas_cons]
  unfold ev
  simp only [evA]
  rfl
theorem kAr1_ap : kAr1 X as ρ K d s = eas X as ρ (kAsD d K) s := by with_unfolding_all exact rfl
theorem kAsD_ap : kAsD d K ds s = K (d :: ds) s := by with_unfolding_all exact rfl
theorem tAs_ap : tAs X as ρ K d s = eas X as ρ (kAsD d K) s := by with_unfolding_all exact rfl
theorem eas_fn {pl : List Nat} : eas X (.fn g pl :: as) ρ K s = eas X as ρ (kAsD (fnD g pl) K) s := by
  rw [eas_cons]
  simp only [evA, WpR_ok]
theorem eas_fn2 {pl : List Nat} : eas X (.fn2 c g h pl :: as) ρ K s = ev X c ρ (kFn2 X as ρ K g h pl) s := by
  rw [eas_cons]
  unfold ev
  simp only [evA, WpR_bind]
  congr 1
  funext x s1
  show _ = brO (truth s1 x) _ _ s1
  cases truth s1 x with
  | none => rfl
  | some b => cases b <;> rfl
theorem kFn2_ap {pl : List Nat} : kFn2 X as ρ K g h pl d s = brO (truth s d) (tAs X as ρ K (fnD g pl)) (tAs X as ρ K (fnD h pl)) s := by with_unfolding_all exact rfl
theorem eas_pass : eas X (.pass i :: as) ρ K s = cl X (hB2 + i) [] (kAr1 X as ρ K) s := by
  rw [eas_cons]
  unfold cl
  simp only [evA]
  rfl
theorem eas_lam : eas X (.lam id caps :: as) ρ K s = lmO X as ρ K id (capsOf ρ caps) s := by
  rw [eas_cons]
  simp only [evA]
  cases capsOf ρ caps with
  | none => rfl
  | some ds => rfl
theorem eas_slot {i : Nat} : eas X (.slot i :: as) ρ K s = slO X as ρ K ρ[i]? s := by
  rw [eas_cons]
  simp only [evA]
  unfold slO
  cases ρ[i]? with
  | none => rfl
  | some o => cases o with
    | none => rfl
    | some d => cases d <;> rfl
theorem slO_some {pl : List Nat} : slO X as ρ K (some (some (.fnv g pl))) s = eas X as ρ (kAsD (fnD g pl) K) s := by with_unfolding_all exact rfl
theorem lmO_some : lmO X as ρ K id (some ds) s = eas X as ρ (kAsD (cloD id ds) K) s := by with_unfolding_all exact rfl
theorem caps_nil : capsOf ρ [] = some [] := by with_unfolding_all exact rfl
def capC : Option (Option D) → Option (List D) → Option (List D)
  | some (some d), some ds => some (d :: ds)
  | _, _ => none
theorem caps_cons {j : Nat} {js : List Nat} : capsOf ρ (j :: js) = capC ρ[j]? (capsOf ρ js) := by
  rw [capsOf]
  cases ρ[j]? with
  | none => rfl
  | some o =>
    cases o with
    | none => rfl
    | some d => cases capsOf ρ js <;> rfl
theorem capC_some : capC (some (some d)) (some ds) = some (d :: ds) := by with_unfolding_all exact rfl
end
end WL
namespace WL
open PySem
theorem cN0 : ((0 : Nat) : Int) = 0 := rfl
theorem cN1 : ((1 : Nat) : Int) = 1 := rfl
theorem cN2 : ((2 : Nat) : Int) = 2 := rfl
theorem cN3 : ((3 : Nat) : Int) = 3 := rfl
theorem cN4 : ((4 : Nat) : Int) = 4 := rfl
theorem cN5 : ((5 : Nat) : Int) = 5 := rfl
theorem cN6 : ((6 : Nat) : Int) = 6 := rfl
theorem cN7 : ((7 : Nat) : Int) = 7 := rfl
theorem cN8 : ((8 : Nat) : Int) = 8 := rfl
theorem cN9 : ((9 : Nat) : Int) = 9 := rfl
theorem cN10 : ((10 : Nat) : Int) = 10 := rfl
theorem cN11 : ((11 : Nat) : Int) = 11 := rfl
theorem cN12 : ((12 : Nat) : Int) = 12 := rfl
theorem cN13 : ((13 : Nat) : Int) = 13 := rfl
theorem cN14 : ((14 : Nat) : Int) = 14 := rfl
theorem cN15 : ((15 : Nat) : Int) = 15 := rfl
theorem line_big : 1000000 < PySem.sizeLine := by decide
theorem line_ok {n : Nat} (h : n ≤ 1000000) : (n ≤ PySem.sizeLine) = True := eq_true (Nat.le_of_lt (Nat.lt_of_le_of_lt h line_big))
theorem line_lt {n : Nat} (h : n ≤ 1000000) : (n < PySem.sizeLine) = True := eq_true (Nat.lt_of_le_of_lt h line_big)
def apL (o : Option (List D)) (n : Nat) (y : D) (Q : KQ) (s : Store) : Prop := onO o fun l => br (l.length < sizeLine) (tK .non (s.set n (.lst (l ++ [y]))) Q) tF s
def stI (o : Option Nat) (l : List D) (n : Nat) (v : D) (ρ : Env) (N : KN) (s : Store) : Prop := onO o fun j => N ρ (s.set n (.lst (l.set j v)))
def stK (o : Option (List (L2.Key × D))) (k : Option L2.Key) (n : Nat) (v : D) (ρ : Env) (N : KN) (s : Store) : Prop := onO o fun l => onO k fun k => br (l.length < sizeLine) (tN ρ (s.set n (.dct (putD l k v))) N) tF s
def stL (o : Option (List D)) (n : Nat) (i : Int) (v : D) (ρ : Env) (N : KN) (s : Store) : Prop := match o with
  | some l => stI (ixOf l.length i) l n v ρ N s
  | none => stK (isDct s n) (some (.inl i)) n v ρ N s
def slL (o : Option (List D)) (lo hi : Option Int) (Q : KQ) (s : Store) : Prop := onO o fun l => br ((cutD l lo hi).length ≤ sizeLine) (tNew (cutD l lo hi) Q) tF s
def lnD (o : Option (List (L2.Key × D))) (Q : KQ) (s : Store) : Prop := onO o fun l => Q (.int l.length) s
def lnL (o : Option (List D)) (n : Nat) (Q : KQ) (s : Store) : Prop := match o with
  | some l => Q (.int l.length) s
  | none => lnD (isDct s n) Q s
def ixR (s : Store) (n : Nat) (i : Int) : Option (List D) → Option D
  | some l => atD l i
  | none => (lookD s (.ref n) (.int i)).bind id
def tpL (o : Option (List D)) (Q : KQ) (s : Store) : Prop := onO o fun l => Q (.tup l) s
def lsL (o : Option (List D)) (Q : KQ) (s : Store) : Prop := onO o fun l => br (l.length ≤ sizeLine) (tNew l Q) tF s
def adL (o p : Option (List D)) (Q : KQ) (s : Store) : Prop := onO o fun l => onO p fun m => br (l.length + m.length ≤ sizeLine) (tNew (l ++ m) Q) tF s
def atL (X : Mx) (o : Option (List D)) (ts : List Tg) (ρ : Env) (N : KN) (s : Store) : Prop := onO o fun l => Br (l.length = ts.length) (asgs X ts l ρ N s) False
def poX (o : Option D) (s' : Store) (Q : KQ) (s : Store) : Prop := onO o fun d => Q d s'
def poT (o : Option Nat) (l : List D) (n : Nat) (Q : KQ) (s : Store) : Prop := onO o fun k => poX l[k]? (s.set n (.lst (l.eraseIdx k))) Q s
def poC (l : List D) (n : Nat) (i : Int) (Q : KQ) : Th := fun s => poT (ixOf l.length i) l n Q s
def poL (o : Option (List D)) (n : Nat) (i : Int) (Q : KQ) (s : Store) : Prop := onO o fun l => br (-9223372036854775808 ≤ i ∧ i < 9223372036854775808) (poC l n i Q) tF s
def wkL (o : Option (List D)) (n : Nat) : Option Walk := o.map fun l => ⟨[(n, l)], l⟩
section
variable {X : Mx} {ρ : Env} {Q : KQ} {s : Store} {x y v : D} {N : KN} {i j : Int} {n m k : Nat} {l r : List D}
theorem apP_any : apP (.ref n) y Q s = apL (isLst s n) n y Q s := by
  unfold apP appD apL
  dsimp only
  cases isLst s n with
  | none => rfl
  | some l =>
    show WpR (if l.length < sizeLine then _ else _) Q = br _ _ _ s
    unfold br
    split <;> rfl
theorem apL_some : apL (some l) n y Q s = br (l.length < sizeLine) (tK .non (s.set n (.lst (l ++ [y]))) Q) tF s := by with_unfolding_all exact rfl
theorem stK_at {k y : D} : WpR (setK n k y s) (fun _ s => N ρ s) = stK (isDct s n) (keyD k) n y ρ N s := by
  unfold setK stK
  cases isDct s n with
  | none => rfl
  | some l =>
    cases keyD k with
    | none => rfl
    | some kk =>
      show WpR (if l.length < sizeLine then _ else _) _ = br _ _ _ s
      unfold br
      split <;> rfl
theorem stP_any : stP (.ref n) (.int i) v ρ N s = stL (isLst s n) n i v ρ N s := by
  unfold stP setD stL stI
  dsimp only
  cases isLst s n with
  | none => exact stK_at
  | some l =>
    dsimp only [onO]
    cases ixOf l.length i <;> rfl
theorem stP_key {w : Str} : stP (.ref n) (.str w) v ρ N s = stK (isDct s n) (some (.inr w)) n v ρ N s := by
  unfold stP
  exact stK_at
theorem stK_some {l : List (L2.Key × D)} {k : L2.Key} : stK (some l) (some k) n v ρ N s = br (l.length < sizeLine) (tN ρ (s.set n (.dct (putD l k v))) N) tF s := by with_unfolding_all exact rfl
theorem stL_none : stL none n i v ρ N s = stK (isDct s n) (some (.inl i)) n v ρ N s := by with_unfolding_all exact rfl
theorem stL_some : stL (some l) n i v ρ N s = stI (ixOf l.length i) l n v ρ N s := by with_unfolding_all exact rfl
theorem stI_some : stI (some k) l n v ρ N s = N ρ (s.set n (.lst (l.set k v))) := by with_unfolding_all exact rfl
theorem slP_any {lo hi : Option Int} : slP (.ref n) lo hi Q s = slL (isLst s n) lo hi Q s := by
  unfold slP sliceD slL
  dsimp only
  cases isLst s n with
  | none => rfl
  | some l =>
    show WpR (newLst _ _) Q = br _ _ _ s
    unfold newLst br
    split <;> rfl
theorem slL_some {lo hi : Option Int} : slL (some l) lo hi Q s = br ((cutD l lo hi).length ≤ sizeLine) (tNew (cutD l lo hi) Q) tF s := by with_unfolding_all exact rfl
def rvL (o : Option (List D)) (Q : KQ) (s : Store) : Prop := match o with
  | some l => br (l.length ≤ sizeLine) (tNew l.reverse Q) tF s
  | none => False
theorem rvP_tup : rvP (.tup l) Q s = Q (.tup l.reverse) s := by with_unfolding_all exact rfl
theorem rvP_any : rvP (.ref n) Q s = rvL (isLst s n) Q s := by
  unfold rvP revD rvL
  dsimp only
  cases isLst s n with
  | none => rfl
  | some l =>
    show WpR (newLst _ _) Q = br _ _ _ s
    unfold newLst br
    rw [List.length_reverse]
    split <;> rfl
theorem rvL_some {l : List D} : rvL (some l) Q s = br (l.length ≤ sizeLine) (tNew l.reverse Q) tF s := by with_unfolding_all exact rfl
theorem slP_frz {lo hi : Option Int} {z : List Int} : slP (.frz z) lo hi Q s = br ((cutD (z.map .int) lo hi).length ≤ sizeLine) (tNew (cutD (z.map .int) lo hi) Q) tF s := by
  show WpR (newLst _ _) Q = _
  unfold newLst br
  split <;> rfl
theorem biP_len : biP .len [.ref n] Q s = lnL (isLst s n) n Q s := by
  unfold biP biD lnL
  dsimp only [items]
  cases isLst s n with
  | some l => rfl
  | none =>
    unfold lnD
    dsimp only
    cases isDct s n <;> rfl
theorem lnL_none : lnL none n Q s = lnD (isDct s n) Q s := by with_unfolding_all exact rfl
theorem lnD_some {l : List (L2.Key × D)} : lnD (some l) Q s = Q (.int l.length) s := by with_unfolding_all exact rfl
theorem lnL_some : lnL (some l) n Q s = Q (.int l.length) s := by with_unfolding_all exact rfl
theorem biP_tup : biP .tuple [.ref n] Q s = tpL (isLst s n) Q s := by
  unfold biP biD tpL
  dsimp only [items]
  cases isLst s n <;> rfl
theorem tpL_some : tpL (some l) Q s = Q (.tup l) s := by with_unfolding_all exact rfl
theorem biP_lst : biP .list [.ref n] Q s = lsL (isLst s n) Q s := by
  unfold biP biD lsL
  dsimp only [items]
  cases isLst s n with
  | none => rfl
  | some l =>
    show WpR (newLst _ _) Q = br _ _ _ s
    unfold newLst br
    split <;> rfl
theorem lsL_some : lsL (some l) Q s = br (l.length ≤ sizeLine) (tNew l Q) tF s := by with_unfolding_all exact rfl
theorem biP_lstT : biP .list [.tup l] Q s = br (l.length ≤ sizeLine) (tNew l Q) tF s := by
  show WpR (newLst _ _) Q = _
  unfold newLst br
  split <;> rfl
theorem opB_addr : opB .Add (.ref n) (.ref m) Q s = adL (isLst s n) (isLst s m) Q s := by
  unfold opB binop adL
  dsimp only
  cases isLst s n with
  | none => rfl
  | some l =>
    cases isLst s m with
    | none => rfl
    | some r =>
      show WpR (if _ then newLst _ _ else _) Q = br _ _ _ s
      unfold newLst br
      split
      · rename_i h
        rw [if_pos (by rw [List.length_append]; exact h)]
        rfl
      · rfl
theorem adL_some : adL (some l) (some r) Q s = br (l.length + r.length ≤ sizeLine) (tNew (l ++ r) Q) tF s := by with_unfolding_all exact rfl
theorem poP_any : poP (.ref n) (.int i) Q s = poL (isLst s n) n i Q s := by
  unfold poP popD poL poC poT poX
  dsimp only
  cases isLst s n with
  | none => rfl
  | some l =>
    dsimp only [onO]
    have e : (-2 ^ 63 ≤ i ∧ i < 2 ^ 63) = (-9223372036854775808 ≤ i ∧ i < 9223372036854775808) := by
      simp
    unfold br
    by_cases h : -9223372036854775808 ≤ i ∧ i < 9223372036854775808
    · rw [if_pos h, if_pos (by rw [e]; exact h)]
      cases ixOf l.length i with
      | none => rfl
      | some k =>
        dsimp only
        cases l[k]? <;> rfl
    · rw [if_neg h, if_neg (by rw [e]; exact h)]
      rfl
theorem poL_some : poL (some l) n i Q s = br (-9223372036854775808 ≤ i ∧ i < 9223372036854775808) (poC l n i Q) tF s := by with_unfolding_all exact rfl
theorem poC_ap : poC l n i Q s = poT (ixOf l.length i) l n Q s := by with_unfolding_all exact rfl
theorem poT_some : poT (some k) l n Q s = poX l[k]? (s.set n (.lst (l.eraseIdx k))) Q s := by with_unfolding_all exact rfl
theorem poX_some {s' : Store} : poX (some x) s' Q s = Q x s' := by with_unfolding_all exact rfl
theorem opB_e18 : opB .Pow (.int 10) (.int 18) Q s = Q (.int 1000000000000000000) s := by with_unfolding_all exact rfl
theorem opB_e12 : opB .Pow (.int 10) (.int 12) Q s = Q (.int 1000000000000) s := by with_unfolding_all exact rfl
theorem lrP_some : lrP (some l) Q s = br (l.length ≤ sizeLine) (tNew l Q) tF s := by with_unfolding_all exact rfl
theorem trP_some : trP (some l) Q s = br (l.length ≤ sizeLine) (tQ (.tup l) Q) tF s := by with_unfolding_all exact rfl
theorem isL_any : isL s (.ref n) = (isLst s n).isSome := by with_unfolding_all exact rfl
theorem asg_any {ts : List Tg} : asg X (.tup ts) (.ref n) ρ N s = atL X (isLst s n) ts ρ N s := by with_unfolding_all exact wp_tref
theorem atL_some {ts : List Tg} : atL X (some l) ts ρ N s = Br (l.length = ts.length) (asgs X ts l ρ N s) False := by with_unfolding_all exact rfl
theorem walk_any : walkOf s (.ref n) = wkL (isLst s n) n := by with_unfolding_all exact rfl
theorem wkL_some : wkL (some l) n = some ⟨[(n, l)], l⟩ := by with_unfolding_all exact rfl
theorem ixD_ref : ixD s (.ref n) (.int i) = ixR s n i (isLst s n) := by
  unfold ixR
  show (match items s (.ref n) with
    | some l => atD l i
    | none => (lookD s (.ref n) (.int i)).bind id) = _
  rw [items_ref]
theorem ixR_some {l : List D} : ixR s n i (some l) = atD l i := rfl
theorem ixD_tup : ixD s (.tup l) (.int i) = atD l i := by with_unfolding_all exact rfl
theorem ixD_frz {z : List Int} : ixD s (.frz z) (.int i) = atD (z.map .int) i := by with_unfolding_all exact rfl
theorem atD_0 {α : Type} {l : List α} : atD l 0 = l[0]? := atD_nat (k := 0)
theorem atD_1 {α : Type} {l : List α} : atD l 1 = l[1]? := atD_nat (k := 1)
theorem atD_2 {α : Type} {l : List α} : atD l 2 = l[2]? := atD_nat (k := 2)
theorem atD_3 {α : Type} {l : List α} : atD l 3 = l[3]? := atD_nat (k := 3)
theorem ixOf_0 : ixOf (n + 1) 0 = some 0 := ixOf_nat (k := 0) (by omega)
theorem ixOf_1 : ixOf (n + 2) 1 = some 1 := ixOf_nat (k := 1) (by omega)
theorem ixOf_2 : ixOf (n + 3) 2 = some 2 := ixOf_nat (k := 2) (by omega)
theorem mulOk_r (h1 : -18446744073709551616 < j) (h2 : j < 18446744073709551616) : (mulOk i j = true) = True := by
  unfold mulOk
  simp only [Bool.or_eq_true, Bool.and_eq_true, decide_eq_true_eq, eq_iff_iff, iff_true]
  exact .inr ⟨by omega, by omega⟩
theorem mulOk_l (h1 : -18446744073709551616 < i) (h2 : i < 18446744073709551616) : (mulOk i j = true) = True := by
  unfold mulOk
  simp only [Bool.or_eq_true, Bool.and_eq_true, decide_eq_true_eq, eq_iff_iff, iff_true]
  exact .inl ⟨by omega, by omega⟩
theorem divOk (h1 : 0 < j) (h2 : j < 18446744073709551616) : (j.natAbs.log2 < 9000) = True := by
  simp only [eq_iff_iff, iff_true]
  have : j.natAbs < 2 ^ 64 := by omega
  have h3 : j.natAbs ≠ 0 := by omega
  have := (Nat.log2_lt h3).mpr this
  omega
theorem Br_t {p q : Prop} : Br True p q = p := by with_unfolding_all exact if_pos trivial
theorem Br_f {p q : Prop} : Br False p q = q := by with_unfolding_all exact if_neg id
def isObj (s : Store) (n : Nat) : Option (Nat × List (Str × D)) := match s[n]? with
  | some (.obj c fs) => some (c, fs)
  | _ => none
def kFld (f : Str) (Q : KQ) : KQ := fun x s => vO (fldD s x f) Q s
def fdO (o : Option (Nat × List (Str × D))) (f : Str) (Q : KQ) (s : Store) : Prop := onO o fun p => vO (valD p.2 f) Q s
def kCallD (X : Mx) (f : Nat) (ds : List D) (Q : KQ) : KL := fun l s => cl X f (l ++ ds) Q s
def kNew (X : Mx) (c f : Nat) (ds : List D) (Q : KQ) : KL := fun l s => cl X f (.ref s.length :: (l ++ ds)) (fun d s1 => d = .non ∧ Q (.ref s.length) s1) (s ++ [.obj c []])
def kMc2 (X : Mx) (f n : Nat) (ds : List D) (Q : KQ) : KL := fun l s => cl X f (.ref n :: (l ++ ds)) Q s
def mcF (X : Mx) (es : List E) (ds : List D) (ρ : Env) (Q : KQ) (n : Nat) (o : Option Nat) (s : Store) : Prop := onO o fun f => evs X es ρ (kMc2 X f n ds Q) s
def mcO (X : Mx) (tb : List (Nat × Nat)) (es : List E) (ds : List D) (ρ : Env) (Q : KQ) (n : Nat) (o : Option (Nat × List (Str × D))) (s : Store) : Prop := onO o fun p => mcF X es ds ρ Q n (tb.lookup p.1) s
def kMc1 (X : Mx) (tb : List (Nat × Nat)) (es : List E) (ds : List D) (ρ : Env) (Q : KQ) : KQ := fun x s => onO ((obC s x).bind fun c => tb.lookup c) fun f => evs X es ρ (fun l s => cl X f (x :: (l ++ ds)) Q s) s
def kSf (cs : List Nat) (f : Str) (v : D) (ρ : Env) (N : KN) : KQ := fun x s => WpR (setF cs x f v s) fun _ s => N ρ s
def sfO (cs : List Nat) (f : Str) (v : D) (ρ : Env) (N : KN) (n : Nat) (o : Option (Nat × List (Str × D))) (s : Store) : Prop := onO o fun p => BrB (cs.contains p.1 && decide (p.2.length < 1000)) (N ρ (s.set n (.obj p.1 (putD p.2 f v)))) False
section
variable {a : WL.E} {es : List WL.E} {n : Nat} {v : D}
theorem ev_callD {f : Nat} {ds : List D} : ev X (.callD f es ds) ρ Q s = evs X es ρ (kCallD X f ds Q) s := by
  unfold ev evs kCallD cl
  simp only [evE, WpR_bind]
theorem kCallD_ap {f : Nat} {ds : List D} : kCallD X f ds Q l s = cl X f (l ++ ds) Q s := by with_unfolding_all exact rfl
theorem ev_fld {f : Str} : ev X (.fld a f) ρ Q s = ev X a ρ (kFld f Q) s := by
  unfold ev kFld vO
  simp only [evE, WpR_bind]
  congr 1
  funext x s1
  cases fldD s1 x f <;> rfl
theorem kFld_ap {f : Str} : kFld f Q (.ref n) s = fdO (isObj s n) f Q s := by
  unfold kFld fdO fldD isObj
  cases h : s[n]? with
  | none => simp only [h]; rfl
  | some c => cases c <;> simp only [h] <;> rfl
theorem fdO_some {f : Str} {c : Nat} {fs : List (Str × D)} : fdO (some (c, fs)) f Q s = vO (valD fs f) Q s := by with_unfolding_all exact rfl
theorem ev_new {c f : Nat} {ds : List D} : ev X (.new c f es ds) ρ Q s = evs X es ρ (kNew X c f ds Q) s := by
  unfold ev evs kNew cl
  simp only [evE, WpR_bind]
  congr 1
  funext l s1
  cases h : X.C f (.ref s1.length :: (l ++ ds)) (s1 ++ [.obj c []]) with
  | bad => rfl
  | exc c2 w s2 => rfl
  | ok d s2 =>
    show WpR (if d = .non then R.ok (.ref s1.length) s2 else R.bad) Q = (d = .non ∧ Q (.ref s1.length) s2)
    by_cases hd : d = .non
    · rw [if_pos hd]
      simp [WpR, hd]
    · rw [if_neg hd]
      simp [WpR, hd]
theorem kNew_ap {c f : Nat} {ds : List D} : kNew X c f ds Q l s = cl X f (.ref s.length :: (l ++ ds)) (fun d s1 => d = .non ∧ Q (.ref s.length) s1) (s ++ [.obj c []]) := by with_unfolding_all exact rfl
theorem ev_mcall {tb : List (Nat × Nat)} {ds : List D} : ev X (.mcall tb a es ds) ρ Q s = ev X a ρ (kMc1 X tb es ds ρ Q) s := by
  unfold ev kMc1 evs cl
  simp only [evE, WpR_bind]
  congr 1
  funext x s1
  cases (obC s1 x).bind fun c => tb.lookup c with
  | none => rfl
  | some f =>
    show WpR ((evEs X.C X.G es ρ s1).bind fun l s => X.C f (x :: (l ++ ds)) s) Q = _
    rw [WpR_bind]
    rfl
theorem kMc1_ap {tb : List (Nat × Nat)} {ds : List D} : kMc1 X tb es ds ρ Q (.ref n) s = mcO X tb es ds ρ Q n (isObj s n) s := by
  unfold kMc1 mcO mcF kMc2 obC isObj
  cases h : s[n]? with
  | none => simp only [h]; rfl
  | some c => cases c <;> simp only [h] <;> rfl
theorem mcO_some {tb : List (Nat × Nat)} {ds : List D} {c : Nat} {fs : List (Str × D)} : mcO X tb es ds ρ Q n (some (c, fs)) s = mcF X es ds ρ Q n (tb.lookup c) s := by with_unfolding_all exact rfl
theorem mcF_some {ds : List D} {f : Nat} : mcF X es ds ρ Q n (some f) s = evs X es ρ (kMc2 X f n ds Q) s := by with_unfolding_all exact rfl
theorem kMc2_ap {ds : List D} {f : Nat} : kMc2 X f n ds Q l s = cl X f (.ref n :: (l ++ ds)) Q s := by with_unfolding_all exact rfl
def kIso (c : Nat) (Q : KQ) : KQ := fun x s => Br (obC s x = some c) (Q (.bl true) s) False
def isP (c : Nat) (Q : KQ) (o : Option (Nat × List (Str × D))) (s : Store) : Prop := onO o fun p => Br (p.1 = c) (Q (.bl true) s) False
theorem ev_iso {c : Nat} : ev X (.iso a c) ρ Q s = ev X a ρ (kIso c Q) s := by
  unfold ev kIso
  simp only [evE, WpR_bind]
  congr 1
  funext x s1
  unfold Br
  split <;> rfl
theorem kIso_ap {c : Nat} : kIso c Q (.ref n) s = isP c Q (isObj s n) s := by
  unfold kIso isP obC isObj
  cases h : s[n]? with
  | none => simp [h, onO, Br]
  | some c => cases c <;> simp [h, onO, Br]
theorem isP_some {c c' : Nat} {fs : List (Str × D)} : isP c Q (some (c', fs)) s = Br (c' = c) (Q (.bl true) s) False := by with_unfolding_all exact rfl
theorem look_hd {c f : Nat} {tb : List (Nat × Nat)} : List.lookup c ((c, f) :: tb) = some f := by simp [List.lookup]
theorem asg_fld {cs : List Nat} {f : Str} : asg X (.fld cs a f) v ρ N s = ev X a ρ (kSf cs f v ρ N) s := by
  unfold asg ev kSf
  simp only [asgT]
  cases evE X.C X.G a ρ s with
  | ok x s1 =>
    simp only [R.quiet, R.bind, WpR]
    rcases (show setF cs x f v s1 = setF cs x f v s1 from rfl) with _
    cases h : setF cs x f v s1 <;> rfl
  | exc c w s1 => simp [R.quiet, R.bind, WpR]
  | bad => simp [R.quiet, R.bind, WpR]
theorem kSf_ap {cs : List Nat} {f : Str} : kSf cs f v ρ N (.ref n) s = sfO cs f v ρ N n (isObj s n) s := by
  unfold kSf sfO setF isObj
  cases h : s[n]? with
  | none => simp only [h]; rfl
  | some c => cases c with
    | obj c fs =>
      simp only [h]
      show (WpR (if (cs.contains c && decide (fs.length < 1000)) = true then R.ok () (s.set n (.obj c (putD fs f v))) else R.bad) fun _ s => N ρ s) = BrB (cs.contains c && decide (fs.length < 1000)) (N ρ (s.set n (.obj c (putD fs f v)))) False
      cases (cs.contains c && decide (fs.length < 1000)) <;> rfl
    | _ => simp only [h]; rfl
theorem sfO_some {cs : List Nat} {f : Str} {c : Nat} {fs : List (Str × D)} : sfO cs f v ρ N n (some (c, fs)) s = BrB (cs.contains c && decide (fs.length < 1000)) (N ρ (s.set n (.obj c (putD fs f v)))) False := by with_unfolding_all exact rfl
end
@[irreducible] def lcTP (X : Mx) (elt : E) (tg : Tg) (ifs : List E) (own : List Nat) (ρ : Env) (x : D) (K : Option D → Store → Prop) (s : Store) : Prop := WpR (lcT X.C X.G elt tg ifs own ρ x s) K
def kLcB (s0 : Store) (K : Option D → Store → Prop) : KQ := fun d s => K (some d) (trunc s0 d s)
def kLcA (X : Mx) (elt : E) (K : Option D → Store → Prop) : KN := fun ρ s => ev X elt ρ (kLcB s K) s
def tOn (K : Option D → Store → Prop) : Th := fun s => K none s
def tEl (X : Mx) (elt : E) (ρ : Env) (K : Option D → Store → Prop) : Th := fun s => ev X elt ρ (kLcB s K) s
def kLcD (X : Mx) (elt : E) (ρ : Env) (s0 : Store) (K : Option D → Store → Prop) : KQ := fun b s => brO (truth s b) (tEl X elt ρ K) (tOn K) (trunc s0 .non s)
def kLcC (X : Mx) (c elt : E) (K : Option D → Store → Prop) : KN := fun ρ s => ev X c ρ (kLcD X elt ρ s K) s
variable {elt c : E} {tg : Tg} {own : List Nat} {K : Option D → Store → Prop} {s0 : Store} {d : D}
theorem lcTP_0 : lcTP X elt tg [] own ρ x K s = asg X tg x (wipeE ρ own) (kLcA X elt K) s := by with_unfolding_all exact wp_lcT0
theorem kLcA_ap : kLcA X elt K ρ s = ev X elt ρ (kLcB s K) s := by with_unfolding_all exact rfl
theorem kLcB_ap : kLcB s0 K d s = K (some d) (trunc s0 d s) := by with_unfolding_all exact rfl
theorem lcTP_1 : lcTP X elt tg [c] own ρ x K s = asg X tg x (wipeE ρ own) (kLcC X c elt K) s := by with_unfolding_all exact wp_lcT1
theorem kLcC_ap : kLcC X c elt K ρ s = ev X c ρ (kLcD X elt ρ s K) s := by with_unfolding_all exact rfl
theorem kLcD_ap : kLcD X elt ρ s0 K d s = brO (truth s d) (tEl X elt ρ K) (tOn K) (trunc s0 .non s) := by with_unfolding_all exact rfl
theorem tEl_ap : tEl X elt ρ K s = ev X elt ρ (kLcB s K) s := by with_unfolding_all exact rfl
theorem tOn_ap : tOn K s = K none s := by with_unfolding_all exact rfl
theorem lc_go {elt : E} {tg : Tg} {ifs : List E} {own : List Nat} {w : Walk} (I : List D → List D → Store → Prop) (h0 : I w.its [] s)
    (hl : ∀ r acc s2, I r acc s2 → s2.length = s.length ∧ w.stays (s2 ++ [.lst acc]) = true ∧ acc.length + r.length < sizeLine)
    (ht : ∀ x r acc s2, I (x :: r) acc s2 → lcTP X elt tg ifs own ρ x (fun o s3 => ∃ s4, s3 = s4 ++ [.lst acc] ∧ I r (acc ++ o.toList) s4) (s2 ++ [.lst acc]))
    (he : ∀ acc s2, I [] acc s2 → Q (.ref s.length) (s2 ++ [.lst acc])) : lcP X elt tg ifs own ρ w Q s := lc_inv I h0 hl (fun x r acc s2 h => by have q := ht x r acc s2 h; unfold lcTP at q; exact q) he
theorem lc_pure {elt : E} {tg : Tg} {ifs : List E} {own : List Nat} {w : Walk} (f : D → Option D) (hs : ∀ acc, w.stays (s ++ [.lst acc]) = true) (hz : w.its.length < sizeLine)
    (ht : ∀ x ∈ w.its, ∀ acc, lcTP X elt tg ifs own ρ x (fun o s3 => o = f x ∧ s3 = s ++ [.lst acc]) (s ++ [.lst acc]))
    (hq : Q (.ref s.length) (s ++ [.lst (w.its.filterMap f)])) : lcP X elt tg ifs own ρ w Q s := by
  refine lc_go (fun r acc s2 => s2 = s ∧ ∃ dn, dn ++ r = w.its ∧ acc = dn.filterMap f) ⟨rfl, [], rfl, rfl⟩ ?_ ?_ ?_
  · rintro r acc s2 ⟨rfl, dn, e, rfl⟩
    refine ⟨rfl, hs _, ?_⟩
    have h1 := List.length_filterMap_le f dn
    have h2 := congrArg List.length e
    rw [List.length_append] at h2
    omega
  · rintro x r acc s2 ⟨rfl, dn, e, rfl⟩
    have hx : x ∈ w.its := by rw [← e]; simp
    have q := ht x hx (dn.filterMap f)
    unfold lcTP at q ⊢
    refine WpR_mono q fun o s3 ⟨h1, h2⟩ => ⟨_, h2, rfl, dn ++ [x], by rw [← e]; simp, ?_⟩
    subst h1
    rw [List.filterMap_append]
    have e2 : List.filterMap f [x] = (f x).toList := by
      rw [List.filterMap_cons]
      cases f x <;> rfl
    rw [e2]
  · rintro acc s2 ⟨rfl, dn, e, rfl⟩
    rw [List.append_nil] at e
    rw [e]
    exact hq
theorem cut_from {i : Int} (h : 0 ≤ i) : cutD l (some i) none = l.drop i.toNat := by
  unfold cutD endOf
  simp only
  rw [if_neg (by omega)]
  have e : l.drop (min i.toNat l.length) = l.drop i.toNat := by
    by_cases hi : i.toNat ≤ l.length
    · rw [Nat.min_eq_left hi]
    · rw [Nat.min_eq_right (by omega), List.drop_length, List.drop_eq_nil_of_le (by omega)]
  rw [e]
  exact List.take_of_length_le (by rw [List.length_drop]; omega)
theorem cut_to {i : Int} (h : 0 ≤ i) : cutD l none (some i) = l.take i.toNat := by
  unfold cutD endOf
  simp only
  rw [if_neg (by omega), List.drop_zero, Nat.sub_zero]
  by_cases hi : i.toNat ≤ l.length
  · rw [Nat.min_eq_left hi]
  · rw [Nat.min_eq_right (by omega), List.take_length, List.take_of_length_le (by omega)]
theorem cut_all : cutD l none none = l := by
  unfold cutD endOf
  simp
end
end WL
set_option maxHeartbeats 4000000
namespace WL
open PySem
structure EnX where
  nx : Env → Store → Prop
  rt : D → Store → Prop
  ex : Nat → D → Env → Store → Prop
abbrev KX := Nat → D → Store → Prop
def WpX (r : RS) (E : EnX) : Prop := match r with
  | .nx ρ s => E.nx ρ s
  | .ret d s => E.rt d s
  | .exc c w ρ s => E.ex c w ρ s
  | _ => False
def WpE {α : Type} (r : R α) (K : KX) : Prop := match r with
  | .exc c w s => K c w s
  | _ => False
@[irreducible] def blkX (X : Mx) (xs : List S) (ρ : Env) (E : EnX) (s : Store) : Prop := WpX (exB X.C X.G X.F xs ρ s) E
@[irreducible] def clX (X : Mx) (f : Nat) (ds : List D) (K : KX) (s : Store) : Prop := WpE (X.C f ds s) K
@[irreducible] def hdP (X : Mx) (hs : List Hd) (c : Nat) (w : D) (ρ : Env) (E : En) (s : Store) : Prop := WpS (exHd X.C X.G hs c w ρ s) E
@[irreducible] def suP (X : Mx) (b : List HS) (i : Option Nat) (ρ : Env) (E : En) (s : Store) : Prop := WpS ((exSu X.C X.G b ρ s).unset i) E
def kStep (X : Mx) (xs : List S) (E : EnX) : En := ⟨fun ρ s => blkX X xs ρ E s, E.rt, fun _ _ => False, fun _ _ => False⟩
def kSuR (s0 : Store) (E : En) : KQ := fun d s => E.rt d (trunc s0 d s)
def tSuE (X : Mx) (e : E) (ρ : Env) (E : En) : Th := fun s => ev X e ρ (kSuR s E) s
def tSuN (X : Mx) (r : List HS) (i : Option Nat) (ρ : Env) (E : En) : Th := fun s => suP X r i ρ E s
def kSuC (X : Mx) (e : E) (r : List HS) (i : Option Nat) (ρ : Env) (s0 : Store) (E : En) : KQ := fun x s => brO (truth s x) (tSuE X e ρ E) (tSuN X r i ρ E) (trunc s0 .non s)
def exX (E : En) (X : Mx) (hs : List Hd) : EnX := ⟨E.nx, E.rt, fun c w ρ s => hdP X hs c w ρ E s⟩
section
variable {X : Mx} {e c a : E} {es : List E} {ρ : Env} {s s0 s1 : Store} {E : En} {E' : EnX} {d w x : D} {n f : Nat} {K : KX} {xs : List S}
theorem kStep_nx : (kStep X xs E').nx ρ s = blkX X xs ρ E' s := by with_unfolding_all exact rfl
theorem kStep_rt : (kStep X xs E').rt = E'.rt := by with_unfolding_all exact rfl
theorem exX_nx {hs : List Hd} : (exX E X hs).nx = E.nx := by with_unfolding_all exact rfl
theorem exX_rt {hs : List Hd} : (exX E X hs).rt = E.rt := by with_unfolding_all exact rfl
theorem exX_ex {hs : List Hd} : (exX E X hs).ex n w ρ s = hdP X hs n w ρ E s := by with_unfolding_all exact rfl
theorem kSuR_ap : kSuR s0 E d s = E.rt d (trunc s0 d s) := by with_unfolding_all exact rfl
theorem tSuE_ap : tSuE X e ρ E s = ev X e ρ (kSuR s E) s := by with_unfolding_all exact rfl
theorem tSuN_ap {r : List HS} {i : Option Nat} : tSuN X r i ρ E s = suP X r i ρ E s := by with_unfolding_all exact rfl
theorem kSuC_ap {r : List HS} {i : Option Nat} : kSuC X e r i ρ s0 E x s = brO (truth s x) (tSuE X e ρ E) (tSuN X r i ρ E) (trunc s0 .non s) := by with_unfolding_all exact rfl
theorem blkX_nil (h : E'.nx ρ s) : blkX X [] ρ E' s := by
  unfold blkX
  simp only [exB]
  exact h
theorem blkX_step {y : S} (h : st X y ρ (kStep X xs E') s) : blkX X (y :: xs) ρ E' s := by
  unfold st at h
  unfold blkX
  simp only [exB]
  cases q : exS X.C X.G X.F y ρ s with
  | nx ρ1 s1 =>
    rw [q] at h
    have h : blkX X xs ρ1 E' s1 := h
    unfold blkX at h
    exact h
  | ret d s1 => rw [q] at h; exact h
  | brk ρ1 s1 => rw [q] at h; exact h.elim
  | cnt ρ1 s1 => rw [q] at h; exact h.elim
  | exc c w ρ1 s1 => rw [q] at h; exact h.elim
  | bad => rw [q] at h; exact h.elim
def kRais (n : Nat) (ρ : Env) (s0 : Store) (E' : EnX) : KQ := fun d s => E'.ex n d ρ (trunc s0 d s)
theorem kRais_ap : kRais n ρ s0 E' d s = E'.ex n d ρ (trunc s0 d s) := by with_unfolding_all exact rfl
theorem blkX_rais (h : ev X e ρ (kRais n ρ s E') s) : blkX X (.rais n e :: xs) ρ E' s := by
  unfold ev at h
  unfold blkX
  simp only [exB, exS]
  cases q : evE X.C X.G e ρ s with
  | ok d s1 => rw [q] at h; exact h
  | exc c w s1 => rw [q] at h; exact h.elim
  | bad => rw [q] at h; exact h.elim
def kClX (X : Mx) (f : Nat) (ρ : Env) (E' : EnX) : KL := fun ds s => clX X f ds (fun c w s => E'.ex c w ρ s) s
theorem kClX_ap {ds : List D} : kClX X f ρ E' ds s = clX X f ds (fun c w s => E'.ex c w ρ s) s := by with_unfolding_all exact rfl
theorem call_exc (h : evs X es ρ (kClX X f ρ E') s) : ∃ c w s1, evE X.C X.G (.call f es) ρ s = .exc c w s1 ∧ E'.ex c w ρ s1 := by
  unfold evs at h
  cases q : evEs X.C X.G es ρ s with
  | ok ds s1 =>
    rw [q] at h
    have h : clX X f ds (fun c w s => E'.ex c w ρ s) s1 := h
    unfold clX at h
    cases q2 : X.C f ds s1 with
    | exc c w s2 =>
      rw [q2] at h
      refine ⟨c, w, s2, ?_, h⟩
      simp only [evE, q, R.bind, q2]
    | ok d s2 => rw [q2] at h; exact h.elim
    | bad => rw [q2] at h; exact h.elim
  | exc c w s1 => rw [q] at h; exact h.elim
  | bad => rw [q] at h; exact h.elim
theorem blkX_asg {t : Tg} (h : evs X es ρ (kClX X f ρ E') s) : blkX X (.asg t (.call f es) :: xs) ρ E' s := by
  obtain ⟨c, w, s1, e, q⟩ := call_exc h
  unfold blkX
  simp only [exB, exS, e, R.bind, R.stm]
  exact q
theorem blkX_expr (h : evs X es ρ (kClX X f ρ E') s) : blkX X (.expr (.call f es) :: xs) ρ E' s := by
  obtain ⟨c, w, s1, e, q⟩ := call_exc h
  unfold blkX
  simp only [exB, exS, e, R.bind, R.stm]
  exact q
theorem blkX_ret (h : evs X es ρ (kClX X f ρ E') s) : blkX X (.ret (.call f es) :: xs) ρ E' s := by
  obtain ⟨c, w, s1, e, q⟩ := call_exc h
  unfold blkX
  simp only [exB, exS, e, R.bind, R.stm]
  exact q
def kSeqX (X : Mx) (xs : List S) (E' : EnX) : EnX := { E' with nx := fun ρ s => blkX X xs ρ E' s }
theorem kSeqX_nx : (kSeqX X xs E').nx ρ s = blkX X xs ρ E' s := by with_unfolding_all exact rfl
theorem kSeqX_rt : (kSeqX X xs E').rt = E'.rt := by with_unfolding_all exact rfl
theorem kSeqX_ex : (kSeqX X xs E').ex = E'.ex := by with_unfolding_all exact rfl
def tBX (X : Mx) (a : List S) (ρ : Env) (E' : EnX) : Th := fun s => blkX X a ρ E' s
theorem tBX_ap {a : List S} : tBX X a ρ E' s = blkX X a ρ E' s := by with_unfolding_all exact rfl
def kIfX (X : Mx) (a b : List S) (ρ : Env) (s0 : Store) (E' : EnX) : KQ := fun x s => brO (truth s x) (tBX X a ρ E') (tBX X b ρ E') (trunc s0 .non s)
theorem kIfX_ap {a b : List S} : kIfX X a b ρ s0 E' x s = brO (truth s x) (tBX X a ρ E') (tBX X b ρ E') (trunc s0 .non s) := by with_unfolding_all exact rfl
theorem blkX_iff {p q : List S} (h : ev X c ρ (kIfX X p q ρ s (kSeqX X xs E')) s) : blkX X (.iff c p q :: xs) ρ E' s := by
  unfold ev at h
  unfold blkX
  simp only [exB, exS, tst]
  have go : ∀ (r : List S) (s1 : Store), blkX X r ρ (kSeqX X xs E') s1 → WpX (match exB X.C X.G X.F r ρ s1 with
      | .nx ρ s => exB X.C X.G X.F xs ρ s
      | r => r) E' := by
    intro r s1 h
    unfold blkX at h
    cases q : exB X.C X.G X.F r ρ s1 with
    | nx ρ1 s1 =>
      rw [q] at h
      have h : blkX X xs ρ1 E' s1 := h
      unfold blkX at h
      exact h
    | ret d s1 => rw [q] at h; exact h
    | brk ρ1 s1 => rw [q] at h; exact h.elim
    | cnt ρ1 s1 => rw [q] at h; exact h.elim
    | exc c w ρ1 s1 => rw [q] at h; exact h
    | bad => rw [q] at h; exact h.elim
  cases q1 : evE X.C X.G c ρ s with
  | ok d s1 =>
    rw [q1] at h
    have h : brO (truth s1 d) (tBX X p ρ (kSeqX X xs E')) (tBX X q ρ (kSeqX X xs E')) (trunc s .non s1) := h
    simp only [R.bind]
    cases q2 : truth s1 d with
    | none => rw [q2] at h; exact h.elim
    | some b =>
      rw [q2] at h
      cases b
      · exact go _ _ h
      · exact go _ _ h
  | exc c w s1 => rw [q1] at h; exact h.elim
  | bad => rw [q1] at h; exact h.elim
theorem cl_fdXC {P : Prog} {G : Globs} {F k f : Nat} {fd : FD} {ds : List D} {s : Store} {K : KX} {Γ : List (Nat × D)} {ρ : Env} (h : P f = some fd) (hl : ds.length = fd.np) (hg : gamma fd.cl ds = Γ) (hr : hideL fd.cl (ds.map some ++ List.replicate (fd.nv - fd.np) none) = ρ)
    (h2 : blkX (mxC P G F k Γ) fd.body ρ ⟨fun _ _ => False, fun _ _ => False, fun c w _ s1 => K c w (trunc s w s1)⟩ s) : clX (mx P G F (k + 1)) f ds K s := by
  subst hg hr
  unfold blkX at h2
  unfold clX
  show WpE (callF P G F (k + 1) f ds s) K
  unfold callF
  simp only [h]
  rw [if_pos hl]
  simp only [mxC] at h2
  cases q : exB (cloC (gamma fd.cl ds) (callF P G F k)) G F fd.body (hideL fd.cl (ds.map some ++ List.replicate (fd.nv - fd.np) none)) s with
  | nx ρ1 s1 => rw [q] at h2; exact h2.elim
  | ret d s1 => rw [q] at h2; exact h2.elim
  | brk ρ1 s1 => rw [q] at h2; exact h2.elim
  | cnt ρ1 s1 => rw [q] at h2; exact h2.elim
  | exc c w ρ1 s1 => rw [q] at h2; exact h2
  | bad => rw [q] at h2; exact h2.elim
theorem cl_fdX {P : Prog} {G : Globs} {F k f : Nat} {fd : FD} {ds : List D} {s : Store} {K : KX} (h : P f = some fd) (hl : ds.length = fd.np)
    (h2 : blkX (mx P G F k) fd.body (ds.map some ++ List.replicate (fd.nv - fd.np) none) ⟨fun _ _ => False, fun _ _ => False, fun c w _ s1 => K c w (trunc s w s1)⟩ s) (hc : fd.cl = [] := by rfl) : clX (mx P G F (k + 1)) f ds K s := by
  refine cl_fdXC (Γ := []) h hl (by rw [hc]; rfl) (by rw [hc]; rfl) h2
theorem clX_low {P : Prog} {G : Globs} {F k f : Nat} {ds : List D} {s : Store} {K : KX} {Γ : List (Nat × D)} (h : f < hB) : clX (mxC P G F k Γ) f ds K s = clX (mx P G F k) f ds K s := by
  unfold clX
  cases Γ with
  | nil => rfl
  | cons p Γ =>
    simp only [mxC, mx]
    congr 1
    unfold cloC
    dsimp only
    rw [if_neg (by unfold hB4; unfold hB at h; omega), if_neg (by unfold hB3; unfold hB at h; omega), if_neg (by unfold hB2; unfold hB at h; omega), if_neg (by omega)]
theorem clX_ask {P : Prog} {G : Globs} {F k f j id : Nat} {ds cs : List D} {s : Store} {K : KX} {Γ : List (Nat × D)} (h1 : hB ≤ f) (h2 : f < hB2) (hq : Γ.find? (fun q => decide (q.1 = f - hB)) = some (j, cloD id cs)) : clX (mxC P G F k Γ) f ds K s = clX (mx P G F k) id (ds ++ cs) K s := by
  unfold clX
  cases Γ with
  | nil => cases hq
  | cons p Γ =>
    simp only [mxC, mx]
    congr 1
    unfold cloC
    dsimp only
    rw [if_neg (by unfold hB4; unfold hB2 at h2; omega), if_neg (by unfold hB3; unfold hB2 at h2; omega), if_neg (by omega), if_pos h1, hq]
    unfold askD cloD
    simp
theorem st_tryx {b : List S} {hs : List Hd} (h : blkX X b ρ (exX E X hs) s) : st X (.tryx b hs) ρ E s := by
  unfold blkX at h
  unfold st
  simp only [exS]
  cases q : exB X.C X.G X.F b ρ s with
  | nx ρ1 s1 => rw [q] at h; exact h
  | ret d s1 => rw [q] at h; exact h
  | brk ρ1 s1 => rw [q] at h; exact h.elim
  | cnt ρ1 s1 => rw [q] at h; exact h.elim
  | exc c w ρ1 s1 =>
    rw [q] at h
    have h : hdP X hs c w ρ1 E s1 := h
    unfold hdP at h
    exact h
  | bad => rw [q] at h; exact h.elim
theorem hd_cons {h : Hd} {hs : List Hd} : hdP X (h :: hs) n w ρ E s = brB (h.cs.contains n) (fun s => suP X h.b h.nm (putX h.nm n w ρ) E s) (fun s => hdP X hs n w ρ E s) s := by
  unfold hdP suP
  simp only [exHd]
  cases h.cs.contains n
  · simp only [Bool.false_eq_true, if_false]; rfl
  · simp only [if_true]; rfl
theorem su_nil {i : Option Nat} : suP X [] i ρ E s = E.nx (offX i ρ) s := by
  unfold suP
  simp only [exSu]
  with_unfolding_all rfl
theorem su_ret {r : List HS} {i : Option Nat} : suP X (.ret e :: r) i ρ E s = ev X e ρ (kSuR s E) s := by
  unfold suP ev
  simp only [exSu]
  cases evE X.C X.G e ρ s <;> with_unfolding_all rfl
def kSuA (X : Mx) (j : Nat) (r : List HS) (i : Option Nat) (ρ : Env) (s0 : Store) (E : En) : KQ := fun d s => suP X r i (ρ.set j (some d)) E (trunc s0 d s)
theorem kSuA_ap {j : Nat} {r : List HS} {i : Option Nat} : kSuA X j r i ρ s0 E d s = suP X r i (ρ.set j (some d)) E (trunc s0 d s) := by with_unfolding_all exact rfl
theorem su_asg {j : Nat} {r : List HS} {i : Option Nat} : suP X (.asg j e :: r) i ρ E s = ev X e ρ (kSuA X j r i ρ s E) s := by
  unfold suP ev
  simp only [exSu]
  cases evE X.C X.G e ρ s with
  | ok d s1 =>
    show _ = suP X r i (ρ.set j (some d)) E (trunc s d s1)
    unfold suP
    with_unfolding_all rfl
  | exc c w s1 => with_unfolding_all rfl
  | bad => with_unfolding_all rfl
theorem su_ifret {r : List HS} {i : Option Nat} : suP X (.ifret c e :: r) i ρ E s = ev X c ρ (kSuC X e r i ρ s E) s := by
  unfold suP
  simp only [exSu, tst]
  unfold ev
  cases evE X.C X.G c ρ s with
  | ok d s1 =>
    simp only [R.bind, WpR]
    show _ = brO (truth s1 d) (tSuE X e ρ E) (tSuN X r i ρ E) (trunc s .non s1)
    cases truth s1 d with
    | none => with_unfolding_all rfl
    | some b =>
      cases b
      · show _ = suP X r i ρ E _
        unfold suP
        with_unfolding_all rfl
      · show _ = ev X e ρ (kSuR _ E) _
        unfold ev
        simp only [R.stm]
        cases evE X.C X.G e ρ (trunc s .non s1) <;> with_unfolding_all rfl
  | exc c w s1 => with_unfolding_all rfl
  | bad => with_unfolding_all rfl
end
end WL
set_option maxHeartbeats 4000000
namespace WL
open PySem
@[irreducible] def evX (X : Mx) (e : E) (ρ : Env) (K : KX) (s : Store) : Prop := WpE (evE X.C X.G e ρ s) K
@[irreducible] def evsX (X : Mx) (es : List E) (ρ : Env) (K : KX) (s : Store) : Prop := WpE (evEs X.C X.G es ρ s) K
@[irreducible] def forPX (X : Mx) (t : Tg) (b : List S) (w : Walk) (its : List D) (ρ : Env) (E : EnX) (s : Store) : Prop :=
  WpX (forGo w (fun x ρ s => (asgT X.C X.G t x ρ s).stm ρ fun ρ s => exB X.C X.G X.F b ρ s) its ρ s) E
section
variable {X : Mx} {e c a b : E} {es : List E} {ρ : Env} {s : Store} {E' : EnX} {f : Nat} {K : KX} {xs : List S}
def kClE (X : Mx) (f : Nat) (K : KX) : KL := fun ds s => clX X f ds K s
theorem kClE_ap {ds : List D} : kClE X f K ds s = clX X f ds K s := by with_unfolding_all exact rfl
theorem evX_call (h : evs X es ρ (kClE X f K) s) : evX X (.call f es) ρ K s := by
  unfold evs at h
  unfold evX
  simp only [evE]
  cases q : evEs X.C X.G es ρ s with
  | ok ds s1 =>
    rw [q] at h
    have h : clX X f ds K s1 := h
    unfold clX at h
    simp only [R.bind]
    exact h
  | exc c w s1 => rw [q] at h; exact h.elim
  | bad => rw [q] at h; exact h.elim
theorem evX_args (h : evsX X es ρ K s) : evX X (.call f es) ρ K s := by
  unfold evsX at h
  unfold evX
  simp only [evE]
  cases q : evEs X.C X.G es ρ s with
  | ok ds s1 => rw [q] at h; exact h.elim
  | exc c w s1 => rw [q] at h; exact h
  | bad => rw [q] at h; exact h.elim
theorem evsX_here (h : evX X e ρ K s) : evsX X (e :: es) ρ K s := by
  unfold evX at h
  unfold evsX
  simp only [evEs]
  cases q : evE X.C X.G e ρ s with
  | ok ds s1 => rw [q] at h; exact h.elim
  | exc c w s1 => rw [q] at h; exact h
  | bad => rw [q] at h; exact h.elim
def kNextX (X : Mx) (es : List E) (ρ : Env) (K : KX) : KQ := fun _ s => evsX X es ρ K s
theorem kNextX_ap {d : D} : kNextX X es ρ K d s = evsX X es ρ K s := by with_unfolding_all exact rfl
theorem evsX_next (h : ev X e ρ (kNextX X es ρ K) s) : evsX X (e :: es) ρ K s := by
  unfold ev at h
  unfold evsX
  simp only [evEs]
  cases q : evE X.C X.G e ρ s with
  | ok d s1 =>
    rw [q] at h
    have h : evsX X es ρ K s1 := h
    unfold evsX at h
    simp only [R.bind]
    cases q2 : evEs X.C X.G es ρ s1 with
    | ok ds s2 => rw [q2] at h; exact h.elim
    | exc c w s2 => rw [q2] at h; exact h
    | bad => rw [q2] at h; exact h.elim
  | exc c w s1 => rw [q] at h; exact h.elim
  | bad => rw [q] at h; exact h.elim
def tEX (X : Mx) (e : E) (ρ : Env) (K : KX) : Th := fun s => evX X e ρ K s
theorem tEX_ap : tEX X e ρ K s = evX X e ρ K s := by with_unfolding_all exact rfl
def kIfeX (X : Mx) (a b : E) (ρ : Env) (K : KX) : KQ := fun x s => brO (truth s x) (tEX X a ρ K) (tEX X b ρ K) s
theorem kIfeX_ap {x : D} : kIfeX X a b ρ K x s = brO (truth s x) (tEX X a ρ K) (tEX X b ρ K) s := by with_unfolding_all exact rfl
theorem evX_ife (h : ev X c ρ (kIfeX X a b ρ K) s) : evX X (.ife c a b) ρ K s := by
  unfold ev at h
  unfold evX
  simp only [evE]
  cases q : evE X.C X.G c ρ s with
  | ok d s1 =>
    rw [q] at h
    have h : brO (truth s1 d) (tEX X a ρ K) (tEX X b ρ K) s1 := h
    simp only [R.bind]
    cases q2 : truth s1 d with
    | none => rw [q2] at h; exact h.elim
    | some t =>
      rw [q2] at h
      cases t
      · have h : evX X b ρ K s1 := h
        unfold evX at h
        exact h
      · have h : evX X a ρ K s1 := h
        unfold evX at h
        exact h
  | exc c w s1 => rw [q] at h; exact h.elim
  | bad => rw [q] at h; exact h.elim
theorem blkX_retX (h : evX X e ρ (fun c w s => E'.ex c w ρ s) s) : blkX X (.ret e :: xs) ρ E' s := by
  unfold evX at h
  unfold blkX
  simp only [exB, exS]
  cases q : evE X.C X.G e ρ s with
  | ok d s1 => rw [q] at h; exact h.elim
  | exc c w s1 => rw [q] at h; exact h
  | bad => rw [q] at h; exact h.elim
theorem evX_mcall {o : WL.E} {tb : List (Nat × Nat)} {ds : List D} (h : ev X o ρ (fun x s1 => ∃ n c fs f, x = .ref n ∧ isObj s1 n = some (c, fs) ∧ tb.lookup c = some f ∧ evs X es ρ (fun l s2 => clX X f (.ref n :: (l ++ ds)) K s2) s1) s) : evX X (.mcall tb o es ds) ρ K s := by
  unfold ev at h
  unfold evX
  simp only [evE]
  cases q : evE X.C X.G o ρ s with
  | ok x s1 =>
    rw [q] at h
    obtain ⟨n, c, fs, f, rfl, h1, h2, h3⟩ := h
    have h4 : (obC s1 (.ref n)).bind (fun c => tb.lookup c) = some f := by
      unfold isObj at h1
      unfold obC
      cases g : s1[n]? with
      | none => rw [g] at h1; cases h1
      | some cc =>
        rw [g] at h1
        cases cc with
        | obj a b =>
          cases h1
          simp only [g]
          exact h2
        | _ => cases h1
    simp only [R.bind, h4]
    unfold evs at h3
    cases q2 : evEs X.C X.G es ρ s1 with
    | ok l s2 =>
      rw [q2] at h3
      have h3 : clX X f (.ref n :: (l ++ ds)) K s2 := h3
      unfold clX at h3
      exact h3
    | exc c w s2 => rw [q2] at h3; exact h3.elim
    | bad => rw [q2] at h3; exact h3.elim
  | exc c w s1 => rw [q] at h; exact h.elim
  | bad => rw [q] at h; exact h.elim
theorem evX_new {c : Nat} {ds : List D} (h : evs X es ρ (fun l s1 => clX X f (.ref s1.length :: (l ++ ds)) K (s1 ++ [.obj c []])) s) : evX X (.new c f es ds) ρ K s := by
  unfold evs at h
  unfold evX
  simp only [evE]
  cases q : evEs X.C X.G es ρ s with
  | ok l s1 =>
    rw [q] at h
    have h : clX X f (.ref s1.length :: (l ++ ds)) K (s1 ++ [.obj c []]) := h
    unfold clX at h
    simp only [R.bind]
    cases q2 : X.C f (.ref s1.length :: (l ++ ds)) (s1 ++ [.obj c []]) with
    | ok d s2 => rw [q2] at h; exact h.elim
    | exc c2 w s2 => rw [q2] at h; exact h
    | bad => rw [q2] at h; exact h.elim
  | exc c w s1 => rw [q] at h; exact h.elim
  | bad => rw [q] at h; exact h.elim
theorem evX_callD {ds : List D} (h : evs X es ρ (fun l s1 => clX X f (l ++ ds) K s1) s) : evX X (.callD f es ds) ρ K s := by
  unfold evs at h
  unfold evX
  simp only [evE]
  cases q : evEs X.C X.G es ρ s with
  | ok l s1 =>
    rw [q] at h
    have h : clX X f (l ++ ds) K s1 := h
    unfold clX at h
    exact h
  | exc c w s1 => rw [q] at h; exact h.elim
  | bad => rw [q] at h; exact h.elim
theorem blkX_exprX (h : evX X e ρ (fun c w s => E'.ex c w ρ s) s) : blkX X (.expr e :: xs) ρ E' s := by
  unfold evX at h
  unfold blkX
  simp only [exB, exS]
  cases q : evE X.C X.G e ρ s with
  | ok d s1 => rw [q] at h; exact h.elim
  | exc c w s1 => rw [q] at h; exact h
  | bad => rw [q] at h; exact h.elim
theorem blkX_asgX {t : Tg} (h : evX X e ρ (fun c w s => E'.ex c w ρ s) s) : blkX X (.asg t e :: xs) ρ E' s := by
  unfold evX at h
  unfold blkX
  simp only [exB, exS]
  cases q : evE X.C X.G e ρ s with
  | ok d s1 => rw [q] at h; exact h.elim
  | exc c w s1 => rw [q] at h; exact h
  | bad => rw [q] at h; exact h.elim
def kForX (X : Mx) (t : Tg) (p : List S) (ρ : Env) (E' : EnX) : KW := fun w s => forPX X t p w w.its ρ E' s
theorem kForX_ap {t : Tg} {p : List S} {w : Walk} : kForX X t p ρ E' w s = forPX X t p w w.its ρ E' s := by with_unfolding_all exact rfl
theorem blkX_for {t : Tg} {it : It} {p : List S} (h : evI X it ρ (kForX X t p ρ (kSeqX X xs E')) s) : blkX X (.for t it p :: xs) ρ E' s := by
  unfold evI at h
  unfold blkX
  simp only [exB, exS]
  cases q : evIt X.C X.G it ρ s with
  | ok w s1 =>
    rw [q] at h
    have h : forPX X t p w w.its ρ (kSeqX X xs E') s1 := h
    unfold forPX at h
    show WpX (match forGo w (fun x ρ s => (asgT X.C X.G t x ρ s).stm ρ fun ρ s => exB X.C X.G X.F p ρ s) w.its ρ s1 with
      | .nx ρ s => exB X.C X.G X.F xs ρ s
      | r => r) E'
    cases q2 : forGo w (fun x ρ s => (asgT X.C X.G t x ρ s).stm ρ fun ρ s => exB X.C X.G X.F p ρ s) w.its ρ s1 with
    | nx ρ1 s2 =>
      rw [q2] at h
      have h : blkX X xs ρ1 E' s2 := h
      unfold blkX at h
      exact h
    | ret d s2 => rw [q2] at h; exact h
    | brk ρ1 s2 => rw [q2] at h; exact h.elim
    | cnt ρ1 s2 => rw [q2] at h; exact h.elim
    | exc c w ρ1 s2 => rw [q2] at h; exact h
    | bad => rw [q2] at h; exact h.elim
  | exc c w s1 => rw [q] at h; exact h.elim
  | bad => rw [q] at h; exact h.elim
def kBodyX (X : Mx) (p : List S) (E' : EnX) : KN := fun ρ s => blkX X p ρ E' s
theorem kBodyX_ap {p : List S} : kBodyX X p E' ρ s = blkX X p ρ E' s := by with_unfolding_all exact rfl
theorem forX_inv {t : Tg} {p : List S} {w : Walk} {its : List D} (I : List D → Env → Store → Prop) (h0 : I its ρ s) (hs : ∀ l ρ s, I l ρ s → w.stays s = true)
    (ht : ∀ x l ρ s, I (x :: l) ρ s → asg X t x ρ (kBodyX X p ⟨fun ρ s => I l ρ s, E'.rt, E'.ex⟩) s)
    (he : ∀ ρ s, I [] ρ s → E'.nx ρ s) : forPX X t p w its ρ E' s := by
  unfold forPX
  induction its generalizing ρ s with
  | nil =>
    unfold forGo
    rw [if_pos (hs _ _ _ h0)]
    exact he _ _ h0
  | cons x l ih =>
    unfold forGo
    rw [if_pos (hs _ _ _ h0)]
    have h := ht x l ρ s h0
    unfold asg at h
    cases q : asgT X.C X.G t x ρ s with
    | ok ρ1 s1 =>
      rw [q] at h
      have h : blkX X p ρ1 ⟨fun ρ s => I l ρ s, E'.rt, E'.ex⟩ s1 := h
      unfold blkX at h
      simp only [R.stm]
      cases q2 : exB X.C X.G X.F p ρ1 s1 with
      | nx ρ2 s2 => rw [q2] at h; exact ih h
      | ret d s2 => rw [q2] at h; exact h
      | brk ρ2 s2 => rw [q2] at h; exact h.elim
      | cnt ρ2 s2 => rw [q2] at h; exact h.elim
      | exc c w ρ2 s2 => rw [q2] at h; exact h
      | bad => rw [q2] at h; exact h.elim
    | exc c w s1 => rw [q] at h; exact h.elim
    | bad => rw [q] at h; exact h.elim
theorem evX_callL {as : List Ar} (h : eas X as ρ (kClE X f K) s) : evX X (.callL f as) ρ K s := by
  unfold eas at h
  unfold evX
  simp only [evE]
  cases q : evAs X.C X.G as ρ s with
  | ok ds s1 =>
    rw [q] at h
    have h : clX X f ds K s1 := h
    unfold clX at h
    simp only [R.bind]
    exact h
  | exc c w s1 => rw [q] at h; exact h.elim
  | bad => rw [q] at h; exact h.elim
end
end WL
set_option maxHeartbeats 4000000
namespace WL
open PySem
section
variable {X : Mx} {ρ : Env} {s t : Store} {E : En} {i n m : Nat} {l r : List (L2.Key × D)} {Q : KQ}
theorem get_dct (e : isDct s n = some l) : s[n]? = some (.dct l) := by
  rw [isDct_at] at e
  split at e
  · rename_i h
    cases e
    exact h
  · cases e
theorem rd_dct (e : isDct s n = some l) : rdD s n = some l := by
  unfold rdD
  rw [get_dct e]
theorem lk_app {c : Cell} (h : n < s.length) : (s ++ t).set n c = s.set n c ++ t := List.set_append_left _ _ h
theorem lk_len {c : Cell} : (s.set n c).length = s.length := List.length_set
theorem lk_self (h : isDct s n = some l) : s.set n (.dct l) = s := by
  have e := get_dct h
  obtain ⟨hl, e⟩ := List.getElem?_eq_some_iff.mp e
  rw [← e]
  exact List.set_getElem_self hl
theorem lk_back {c : Cell} (h : isDct s n = some l) : (s.set n c ++ t).set n (.dct l) = s ++ t := by
  rw [lk_app (by rw [lk_len]; exact isDct_lt h), List.set_set, lk_self h]
theorem lk_at (h : isDct s n = some l) : (s.set n (.lck l) ++ t)[n]? = some (.lck l) := by
  have hl := isDct_lt h
  rw [List.getElem?_append_left (by rw [lk_len]; exact hl), List.getElem?_set_self hl]
theorem lk_rd (h : isDct s n = some l) : rdD (s.set n (.lck l) ++ t) n = some l := by
  unfold rdD
  rw [lk_at h]
theorem lk_lck (h : isDct s n = some l) : lckOf (s.set n (.lck l) ++ t) n = some l := by
  unfold lckOf
  rw [lk_at h]
theorem lk_ne {c : Cell} (h : isDct s m = some l) (hn : n ≠ m) : isDct (s.set n c ++ t) m = some l := by
  rw [isDct_app (by rw [lk_len]; exact isDct_lt h), isDct_set_ne hn]
  exact h
theorem lk_new {c : Cell} (h : s.length = m) : isDct (s.set n c ++ .dct l :: t) m = some l := by
  rw [isDct_new0 (by rw [lk_len]; exact h)]
  rfl
def lkE (n : Nat) (l : List (L2.Key × D)) (E : En) : En := ⟨fun ρ s => s[n]? = some (.lck l) ∧ E.nx ρ (s.set n (.dct l)), fun d s => s[n]? = some (.lck l) ∧ E.rt d (s.set n (.dct l)), fun ρ s => s[n]? = some (.lck l) ∧ E.bk ρ (s.set n (.dct l)), fun ρ s => s[n]? = some (.lck l) ∧ E.ct ρ (s.set n (.dct l))⟩
theorem st_lock {x : S} (hi : ρ[i]? = some (some (.ref n))) (hd : isDct s n = some l) (h : st X x ρ (lkE n l E) (s.set n (.lck l))) : st X (.lock i x) ρ E s := by
  unfold st at h ⊢
  simp only [exS, hi, hd]
  cases q : exS X.C X.G X.F x ρ (s.set n (.lck l)) with
  | nx ρ2 s2 => rw [q] at h; obtain ⟨h1, h2⟩ := h; simp only; rw [if_pos h1]; exact h2
  | ret d s2 => rw [q] at h; obtain ⟨h1, h2⟩ := h; simp only; rw [if_pos h1]; exact h2
  | brk ρ2 s2 => rw [q] at h; obtain ⟨h1, h2⟩ := h; simp only; rw [if_pos h1]; exact h2
  | cnt ρ2 s2 => rw [q] at h; obtain ⟨h1, h2⟩ := h; simp only; rw [if_pos h1]; exact h2
  | exc c w ρ2 s2 => rw [q] at h; exact h.elim
  | bad => rw [q] at h; exact h.elim
theorem ev_lock {x : WL.E} (hi : ρ[i]? = some (some (.ref n))) (hd : isDct s n = some l) (h : ev X x ρ (fun d s => s[n]? = some (.lck l) ∧ Q d (s.set n (.dct l))) (s.set n (.lck l))) : ev X (.lock i x) ρ Q s := by
  unfold ev at h ⊢
  simp only [evE, hi, hd]
  cases q : evE X.C X.G x ρ (s.set n (.lck l)) with
  | ok d s2 => rw [q] at h; obtain ⟨h1, h2⟩ := h; simp only; rw [if_pos h1]; exact h2
  | exc c w s2 => rw [q] at h; exact h.elim
  | bad => rw [q] at h; exact h.elim
theorem evI_key {x : WL.E} {K : KW} (h : ev X x ρ (fun d s => ∃ m r, d = .ref m ∧ lckOf s m = some r ∧ K ⟨[], r.map fun p => kD p.1⟩ s) s) : evI X (.key x) ρ K s := by
  unfold ev at h
  unfold evI
  simp only [evIt]
  cases q : evE X.C X.G x ρ s with
  | ok d s2 =>
    rw [q] at h
    obtain ⟨m, r, rfl, h1, h2⟩ := h
    simp only [R.bind, h1]
    exact h2
  | exc c w s2 => rw [q] at h; exact h.elim
  | bad => rw [q] at h; exact h.elim
theorem for_keys {t : Tg} {b : List S} (I : List (L2.Key × D) → List (L2.Key × D) → Env → Store → Prop) (hi : ρ[i]? = some (some (.ref n))) (hd : isDct s n = some l)
    (h0 : I [] l ρ (s.set n (.lck l)))
    (ht : ∀ dn p r ρ s', dn ++ p :: r = l → I dn (p :: r) ρ s' → asg X t (kD p.1) ρ (kBody X b { nx := fun ρ s => I (dn ++ [p]) r ρ s, ct := fun ρ s => I (dn ++ [p]) r ρ s, bk := (lkE n l E).nx, rt := (lkE n l E).rt }) s')
    (he : ∀ ρ s', I l [] ρ s' → s'[n]? = some (.lck l) ∧ E.nx ρ (s'.set n (.dct l))) : st X (.lock i (.for t (.key (.var i)) b)) ρ E s := by
  refine st_lock hi hd ?_
  rw [st_for]
  refine evI_key ?_
  rw [ev_var, hi]
  show vE (some (some (.ref n))) _ _
  rw [vE_some]
  have e0 : lckOf (s.set n (.lck l)) n = some l := by
    have := lk_lck (t := []) hd
    rw [List.append_nil] at this
    exact this
  refine ⟨n, l, rfl, e0, ?_⟩
  rw [kFor_ap]
  refine for_inv (fun its ρ s' => ∃ dn r, dn ++ r = l ∧ its = r.map (fun p => kD p.1) ∧ I dn r ρ s') ⟨[], l, rfl, rfl, h0⟩ (fun _ _ _ _ => rfl) ?_ ?_
  · rintro x its ρ s' ⟨dn, r, e1, e2, h⟩
    cases r with
    | nil => cases e2
    | cons p r =>
      rw [List.map_cons, List.cons.injEq] at e2
      obtain ⟨rfl, rfl⟩ := e2
      have q := ht dn p r ρ s' e1 h
      have ei : ∀ (ρ : Env) (s' : Store), I (dn ++ [p]) r ρ s' → ∃ dn' r', dn' ++ r' = l ∧ r.map (fun p => kD p.1) = r'.map (fun p => kD p.1) ∧ I dn' r' ρ s' := fun ρ s' h => ⟨dn ++ [p], r, by rw [← e1]; simp, rfl, h⟩
      unfold asg kBody blk at q ⊢
      exact WpR_mono q fun ρ s h => WpS_mono h ei (fun _ _ h => h) (fun _ _ h => h) ei
  · rintro ρ s' ⟨dn, r, e1, e2, h⟩
    cases r with
    | nil =>
      rw [List.append_nil] at e1
      subst e1
      exact he _ _ h
    | cons p r => cases e2
theorem lc_keys {elt : WL.E} {tg : Tg} {ifs : List WL.E} {own : List Nat} (f : D → Option D) (hi : ρ[i]? = some (some (.ref n))) (hd : isDct s n = some l) (hz : l.length < sizeLine)
    (ht : ∀ p ∈ l, ∀ acc, lcTP X elt tg ifs own ρ (kD p.1) (fun o s3 => o = f (kD p.1) ∧ s3 = s.set n (.lck l) ++ [.lst acc]) (s.set n (.lck l) ++ [.lst acc]))
    (hq : Q (.ref s.length) (s ++ [.lst ((l.map fun p => kD p.1).filterMap f)])) : ev X (.lock i (.lc elt tg (.key (.var i)) ifs own)) ρ Q s := by
  refine ev_lock hi hd ?_
  rw [ev_lc]
  refine evI_key ?_
  rw [ev_var, hi, vE_some]
  have e0 : lckOf (s.set n (.lck l)) n = some l := by
    have := lk_lck (t := []) hd
    rw [List.append_nil] at this
    exact this
  refine ⟨n, l, rfl, e0, ?_⟩
  rw [kLc_ap]
  refine lc_pure f (fun acc => rfl) (by rw [List.length_map]; exact hz) (fun x hx acc => ?_) ?_
  · obtain ⟨p, hp, rfl⟩ := List.mem_map.mp hx
    exact ht p hp acc
  · rw [lk_len]
    refine ⟨lk_at hd, ?_⟩
    rw [lk_back hd]
    exact hq
theorem eqD_ref {x : D} (h : isDct s n = some l) : eqD s (.ref n) x = none := by
  unfold eqD
  have e : toPy 60 s (.ref n) = none := by
    show (match isLst s n with
      | some l => (l.mapM (toPy 59 s)).map PyData.list
      | none => none) = none
    rw [isLst_dct h]
  rw [e]
theorem eqK_two (h : isDct s n = some l) (h2 : isDct s m = some r) : eqK s (.ref n) (.ref m) = if l.length = r.length then eqDs s r l else some false := by
  unfold eqK
  simp only [rd_dct h, rd_dct h2]
theorem lookD_dct {y : D} {k : L2.Key} (h : isDct s n = some l) (hk : keyD y = some k) : lookD s (.ref n) y = some (valD l k) := by
  unfold lookD
  simp only [rd_dct h, hk]
theorem lookD_rd {y : D} {k : L2.Key} (h : rdD s n = some l) (hk : keyD y = some k) : lookD s (.ref n) y = some (valD l k) := by
  unfold lookD
  simp only [h, hk]
end
end WL
set_option maxHeartbeats 8000000
namespace WL
open PySem
def topS (i : Nat) : Stmt := PySem.Challenge.pw_wendleaf_k38_writes_and_fuses.main.body.getD i (.Pass ⟨0, 0, 0, 0⟩)
def x_BadPage : Nat := 0
def x_BadNumber : Nat := 1
def x_Fallen : Nat := 2
def g_MOST_PAGES : Nat := 0
def f__wall : Nat := 0
def f_is_whole : Nat := 1
def f_check_page : Nat := 2
def f_check_fuse : Nat := 3
def f_L_pool : Nat := 4
def f_L_draw : Nat := 5
def f_L_text : Nat := 6
def f_L_call : Nat := 7
def f_L_made : Nat := 8
def f_L_due : Nat := 9
def f_L_is_same : Nat := 10
def f_L_is_refused : Nat := 11
def f_L_is_no_page : Nat := 12
def f_L_model : Nat := 13
def f_law : Nat := 14
def f_Disk_init : Nat := 15
def f_Disk_writes : Nat := 16
def f_Disk_frame : Nat := 17
def f_Disk_frame_ids : Nat := 18
def f_Disk_tape : Nat := 19
def f_Disk_safe : Nat := 20
def f_Disk_shelf : Nat := 21
def f_Disk_count_write : Nat := 22
def f_Disk_put_frame : Nat := 23
def f_Disk_add_tape : Nat := 24
def f_Disk_sync : Nat := 25
def f_Disk_put_shelf : Nat := 26
def f_Disk_cut_tape : Nat := 27
def f_Disk_fell : Nat := 28
def f_Disk_spoil_frame : Nat := 29
def f_Disk_spoil_tape : Nat := 30
def mthS (i j : Nat) : Stmt := match topS i with
  | .ClassDef _ _ _ b _ _ _ _ _ _ _ => b.getD j (.Pass ⟨0, 0, 0, 0⟩)
  | s => s
def fd__wall : FD := ⟨1, 1, [.whl (.bl true) [.pass]], []⟩
def en__wall : FnE := ⟨"_wall", topS 0, ["k"], ["k"], fd__wall, "_wall", "_wall", none, []⟩
def fd_is_whole : FD := ⟨1, 1, [.ret (.and (.isi (.var 0) .int) (.not (.isi (.var 0) .bool)))], []⟩
def en_is_whole : FnE := ⟨"is_whole", topS 7, ["thing"], ["thing"], fd_is_whole, "is_whole", "is_whole", none, []⟩
def fd_check_page : FD := ⟨1, 1, [.iff (.or (.not (.call f_is_whole [(.var 0)])) (.not (.chain (.int 0) .LtE (.var 0) .Lt (.glob g_MOST_PAGES)))) [.rais x_BadPage (.var 0)] []], []⟩
def en_check_page : FnE := ⟨"check_page", topS 10, ["page"], ["page"], fd_check_page, "check_page", "check_page", none, []⟩
def fd_check_fuse : FD := ⟨1, 1, [.iff (.and (.cmp (.var 0) .IsNot .non) (.or (.not (.call f_is_whole [(.var 0)])) (.cmp (.var 0) .Lt (.int 0)))) [.rais x_BadNumber (.var 0)] []], []⟩
def en_check_fuse : FnE := ⟨"check_fuse", topS 11, ["fuse"], ["fuse"], fd_check_fuse, "check_fuse", "check_fuse", none, []⟩
def fd_L_pool : FD := ⟨1, 3, [.asg (.nm 1) (.ife (.cmp (.bi .len [(.var 0)]) .Gt (.int 0)) (.bi .int [(.ix (.var 0) (.int 0))]) (.int 0)),
    .asg (.nm 2) (.ife (.cmp (.var 1) .GtE (.int 0)) (.bin .Mult (.int 2) (.var 1)) (.bin .Sub (.neg (.int 1)) (.bin .Mult (.int 2) (.var 1)))),
    .ret (.lst [(.ife (.cmp (.var 2) .GtE (.bin .Pow (.int 10) (.int 18))) (.var 2) (.int 0)), (.bin .Add (.bin .Mod (.bi .int [(.bin .Add (.bin .Mult (.var 2) (.int 48271)) (.int 1009))]) (.int 2147483629)) (.int 3)), (.bi .list [(.slice (.var 0) [(.int 1)] [])])])], []⟩
def en_L_pool : FnE := ⟨"_law_pool", topS 14, ["_law_script"], ["_law_script", "_law_first", "_law_size"], fd_L_pool, "_law_pool", "_law_pool", none, []⟩
def fd_L_draw : FD := ⟨2, 5, [.iff (.and (.cmp (.ix (.var 0) (.int 0)) .Eq (.int 0)) (.cmp (.ix (.var 0) (.int 2)) .NotEq (.lst []))) [.asg (.nm 2) (.bi .int [(.pop (.ix (.var 0) (.int 2)) (.int 0))]),
    .asg (.nm 3) (.ife (.cmp (.var 2) .GtE (.int 0)) (.bin .Mult (.int 2) (.var 2)) (.bin .Sub (.neg (.int 1)) (.bin .Mult (.int 2) (.var 2)))),
    .asg (.sub (.var 0) (.int 0)) (.ife (.cmp (.var 3) .GtE (.bin .Pow (.int 10) (.int 18))) (.var 3) (.int 0)),
    .asg (.sub (.var 0) (.int 1)) (.bin .Add (.bin .Mod (.bi .int [(.bin .Add (.ix (.var 0) (.int 1)) (.bin .Mult (.var 3) (.int 69621)))]) (.int 2147483629)) (.int 3))] [],
    .iff (.cmp (.ix (.var 0) (.int 0)) .Gt (.int 0)) [.asg (.nm 4) (.bin .Mod (.bi .int [(.ix (.var 0) (.int 0))]) (.var 1)),
    .asg (.sub (.var 0) (.int 0)) (.bin .FloorDiv (.ix (.var 0) (.int 0)) (.var 1)),
    .ret (.var 4)] [],
    .asg (.sub (.var 0) (.int 1)) (.bin .Mod (.bi .int [(.bin .Add (.bin .Mult (.ix (.var 0) (.int 1)) (.int 48271)) (.int 11))]) (.int 2147483647)),
    .ret (.bin .Mod (.bin .FloorDiv (.bin .Mod (.bi .int [(.bin .Mult (.ix (.var 0) (.int 1)) (.ix (.var 0) (.int 1)))]) (.int 2147483629)) (.int 32)) (.var 1))], []⟩
def en_L_draw : FnE := ⟨"_law_draw", topS 15, ["_law_pool_here", "_law_many"], ["_law_pool_here", "_law_many", "_law_cell", "_law_size", "_law_found"], fd_L_draw, "_law_draw", "_law_draw", none, []⟩
def fd_L_text : FD := ⟨1, 2, [.asg (.nm 1) (.lst [(.str ""), (.str "a"), (.str "page 0 0\n"), (.str "x\ny"), (.str "1 begin 002726\n"), (.str "~ !")]),
    .ret (.bin .Add (.ix (.var 1) (.call f_L_draw [(.var 0), (.int 6)])) (.bin .Mult (.str "z") (.call f_L_draw [(.var 0), (.int 3)])))], []⟩
def en_L_text : FnE := ⟨"_law_text", topS 16, ["_law_pool_here"], ["_law_pool_here", "_law_menu"], fd_L_text, "_law_text", "_law_text", none, []⟩
def fd_L_call : FD := ⟨1, 3, [.asg (.nm 1) (.ix (.lst [(.str "frame"), (.str "frame"), (.str "tape"), (.str "tape"), (.str "sync"), (.str "shelf"), (.str "cut")]) (.call f_L_draw [(.var 0), (.int 7)])),
    .asg (.nm 2) (.ix (.lst [(.int 0), (.int 31), (.call f_L_draw [(.var 0), (.int 32)]), (.call f_L_draw [(.var 0), (.int 32)]), (.call f_L_draw [(.var 0), (.int 32)]), (.int 32), (.neg (.int 1))]) (.call f_L_draw [(.var 0), (.int 7)])),
    .ret (.tup [(.var 1), (.var 2), (.call f_L_text [(.var 0)])])], []⟩
def en_L_call : FnE := ⟨"_law_call", topS 17, ["_law_pool_here"], ["_law_pool_here", "_law_word", "_law_page"], fd_L_call, "_law_call", "_law_call", none, []⟩
def fd_L_made : FD := ⟨2, 6, [.asg (.tup [(.nm 2), (.nm 3), (.nm 4)]) (.var 1),
    .tryx [.iff (.cmp (.var 2) .Eq (.str "frame")) [.expr (.mcall [(0, f_Disk_put_frame)] (.var 0) [(.var 3), (.var 4)] [])] [.iff (.cmp (.var 2) .Eq (.str "tape")) [.expr (.mcall [(0, f_Disk_add_tape)] (.var 0) [(.var 4)] [])] [.iff (.cmp (.var 2) .Eq (.str "sync")) [.expr (.mcall [(0, f_Disk_sync)] (.var 0) [] [])] [.iff (.cmp (.var 2) .Eq (.str "shelf")) [.expr (.mcall [(0, f_Disk_put_shelf)] (.var 0) [(.var 4)] [])] [.expr (.mcall [(0, f_Disk_cut_tape)] (.var 0) [(.var 4)] [])]]]]] [⟨[2], some 5, [.ret (.ife (.and (.cmp (.ix (.var 5) (.int 0)) .GtE (.int 0)) (.not (.cmp (.ix (.var 5) (.int 0)) .Eq (.int 0)))) (.tup [(.str "fallen"), (.ix (.var 5) (.int 1))]) (.tup [(.str "odd"), (.int 0)]))]⟩, ⟨[0], some 5, [.ret (.tup [(.str "page"), (.ix (.var 5) (.int 1))])]⟩],
    .ret (.tup [(.str "done"), .non])], []⟩
def en_L_made : FnE := ⟨"_law_made", topS 18, ["_law_disk", "_law_call_here"], ["_law_disk", "_law_call_here", "_law_word", "_law_page", "_law_text_here", "e"], fd_L_made, "_law_made", "_law_made", none, []⟩
def fd_L_due : FD := ⟨2, 5, [.asg (.tup [(.nm 2), (.nm 3), (.nm 4)]) (.var 1),
    .iff (.and (.cmp (.var 2) .Eq (.str "frame")) (.not (.chain (.int 0) .LtE (.var 3) .LtE (.int 31)))) [.ret (.tup [(.str "page"), (.var 3)])] [],
    .iff (.and (.cmp (.ix (.var 0) (.str "fuse")) .IsNot .non) (.cmp (.ix (.var 0) (.str "writes")) .GtE (.ix (.var 0) (.str "fuse")))) [.ret (.tup [(.str "fallen"), (.ix (.var 0) (.str "fuse"))])] [],
    .asg (.sub (.var 0) (.str "writes")) (.bin .Add (.ix (.var 0) (.str "writes")) (.int 1)),
    .iff (.cmp (.var 2) .Eq (.str "frame")) [.asg (.sub (.ix (.var 0) (.str "frames")) (.var 3)) (.var 4)] [.iff (.cmp (.var 2) .Eq (.str "tape")) [.asg (.sub (.var 0) (.str "tape")) (.bin .Add (.ix (.var 0) (.str "tape")) (.var 4))] [.iff (.cmp (.var 2) .Eq (.str "sync")) [.asg (.sub (.var 0) (.str "safe")) (.bi .len [(.ix (.var 0) (.str "tape"))])] [.iff (.cmp (.var 2) .Eq (.str "shelf")) [.asg (.sub (.var 0) (.str "shelf")) (.var 4)] [.asg (.tup [(.sub (.var 0) (.str "tape")), (.sub (.var 0) (.str "safe"))]) (.tup [(.var 4), (.bi .len [(.var 4)])])]]]],
    .ret (.tup [(.str "done"), .non])], []⟩
def en_L_due : FnE := ⟨"_law_due", topS 19, ["_law_model_here", "_law_call_here"], ["_law_model_here", "_law_call_here", "_law_word", "_law_page", "_law_text_here"], fd_L_due, "_law_due", "_law_due", none, []⟩
def fd_L_is_same : FD := ⟨2, 6, [.for (.nm 2) (.rng [(.int 32)]) [.iff (.cmp (.mcall [(0, f_Disk_frame)] (.var 0) [(.var 2)] []) .NotEq (.meth .get (.ix (.var 1) (.str "frames")) [(.var 2), .non])) [.ret (.bl false)] []],
    .par [3, 4] [(.mcall [(0, f_Disk_frame_ids)] (.var 0) [] []), (.lst [(.mcall [(0, f_Disk_safe)] (.var 0) [] []), (.mcall [(0, f_Disk_writes)] (.var 0) [] [])])],
    .iff (.or (.not (.isi (.var 3) .tuple)) (.cmp (.var 3) .NotEq (.bi .tuple [(.bi .sorted [(.ix (.var 1) (.str "frames"))])]))) [.ret (.bl false)] [],
    .iff (.cmp (.lc (.var 5) (.nm 5) (.val (.var 4)) [(.or (.not (.isi (.var 5) .int)) (.isi (.var 5) .bool))] [5]) .NotEq (.lst [])) [.ret (.bl false)] [],
    .ret (.cmp (.bin .Add (.lst [(.mcall [(0, f_Disk_tape)] (.var 0) [] []), (.mcall [(0, f_Disk_shelf)] (.var 0) [] [])]) (.var 4)) .Eq (.lst [(.ix (.var 1) (.str "tape")), (.ix (.var 1) (.str "shelf")), (.ix (.var 1) (.str "safe")), (.ix (.var 1) (.str "writes"))]))], []⟩
def en_L_is_same : FnE := ⟨"_law_is_same", topS 20, ["_law_disk", "_law_model_here"], ["_law_disk", "_law_model_here", "_law_page", "_law_ids", "_law_numbers", "_law_number"], fd_L_is_same, "_law_is_same", "_law_is_same", none, []⟩
def fd_L_is_refused : FD := ⟨1, 2, [.tryx [.expr (.new 0 f_Disk_init [(.var 0)] [])] [⟨[1], some 1, [.ret (.cmp (.ix (.var 1) (.int 1)) .Eq (.var 0))]⟩],
    .ret (.bl false)], []⟩
def en_L_is_refused : FnE := ⟨"_law_is_refused", topS 21, ["_law_fuse"], ["_law_fuse", "e"], fd_L_is_refused, "_law_is_refused", "_law_is_refused", none, []⟩
def fd_L_is_no_page : FD := ⟨2, 3, [.tryx [.expr (.mcall [(0, f_Disk_frame)] (.var 0) [(.var 1)] [])] [⟨[0], some 2, [.ret (.cmp (.ix (.var 2) (.int 1)) .Eq (.var 1))]⟩],
    .ret (.bl false)], []⟩
def en_L_is_no_page : FnE := ⟨"_law_is_no_page", topS 22, ["_law_disk", "_law_page"], ["_law_disk", "_law_page", "e"], fd_L_is_no_page, "_law_is_no_page", "_law_is_no_page", none, []⟩
def fd_L_model : FD := ⟨1, 1, [.ret (.dlit ["fuse", "frames", "tape", "safe", "shelf", "writes"] [(.var 0), .dnew, (.str ""), (.int 0), (.str ""), (.int 0)])], []⟩
def en_L_model : FnE := ⟨"_law_model", topS 23, ["_law_fuse"], ["_law_fuse"], fd_L_model, "_law_model", "_law_model", none, []⟩
def fd_law : FD := ⟨1, 10, [.asg (.nm 1) (.call f_L_pool [(.var 0)]),
    .asg (.nm 2) (.lc (.ix (.lst [.non, (.int 0), (.int 1), (.int 2), (.int 3), (.int 4), (.int 6)]) (.call f_L_draw [(.var 1), (.int 7)])) (.nm 3) (.rng [(.int 2)]) [] [3]),
    .asg (.nm 4) (.lst [(.new 0 f_Disk_init [(.ix (.var 2) (.int 0))] []), (.new 0 f_Disk_init [(.ix (.var 2) (.int 1))] []), (.new 0 f_Disk_init [] [.non])]),
    .asg (.nm 5) (.lst [(.call f_L_model [(.ix (.var 2) (.int 0))]), (.call f_L_model [(.ix (.var 2) (.int 1))]), (.call f_L_model [.non])]),
    .for (.nm 3) (.rng [(.bin .Add (.int 4) (.call f_L_draw [(.var 1), (.int 9)]))]) [.par [6, 7] [(.call f_L_draw [(.var 1), (.int 2)]), (.call f_L_call [(.var 1)])],
    .asg (.nm 8) (.call f_L_due [(.ix (.var 5) (.var 6)), (.var 7)]),
    .iff (.or (.cmp (.call f_L_made [(.ix (.var 4) (.var 6)), (.var 7)]) .NotEq (.var 8)) (.not (.call f_L_is_same [(.ix (.var 4) (.var 6)), (.ix (.var 5) (.var 6))]))) [.ret (.bl false)] []],
    .iff (.cmp (.lc (.int 1) (.nm 9) (.rng [(.int 3)]) [(.not (.call f_L_is_same [(.ix (.var 4) (.var 9)), (.ix (.var 5) (.var 9))]))] [9]) .NotEq (.lst [])) [.ret (.bl false)] [],
    .iff (.or (.not (.call f_L_is_no_page [(.ix (.var 4) (.int 0)), (.int 32)])) (.not (.call f_L_is_no_page [(.ix (.var 4) (.int 1)), (.neg (.int 1))]))) [.ret (.bl false)] [],
    .ret (.and (.call f_L_is_refused [(.neg (.int 1))]) (.call f_L_is_refused [(.bin .Sub (.neg (.int 1)) (.call f_L_draw [(.var 1), (.int 90)]))]))], []⟩
def en_law : FnE := ⟨"law", topS 24, ["_law_script"], ["_law_script", "_law_pool_here", "_law_fuses", "_law_turn", "_law_disks", "_law_models", "_law_at", "_law_call_here", "_law_due_here", "_law_other"], fd_law, "law", "law", none, []⟩
def fd_Disk_init : FD := ⟨2, 2, [.expr (.call f_check_fuse [(.var 1)]),
    .asg (.fld [0] (.var 0) "fuse") (.var 1),
    .asg (.fld [0] (.var 0) "many") (.int 0),
    .asg (.fld [0] (.var 0) "framed") .dnew,
    .asg (.fld [0] (.var 0) "taped") (.str ""),
    .asg (.fld [0] (.var 0) "held") (.int 0),
    .asg (.fld [0] (.var 0) "shelved") (.str "")], []⟩
def en_Disk_init : FnE := ⟨"__init__", mthS 12 0, ["self", "fuse"], ["self", "fuse"], fd_Disk_init, "Disk.__init__", "Disk.__init__", (some "Disk"), [.non]⟩
def fd_Disk_writes : FD := ⟨1, 1, [.ret (.fld (.var 0) "many")], []⟩
def en_Disk_writes : FnE := ⟨"writes", mthS 12 1, ["self"], ["self"], fd_Disk_writes, "Disk.writes", "Disk.writes", (some "Disk"), []⟩
def fd_Disk_frame : FD := ⟨2, 2, [.expr (.call f_check_page [(.var 1)]),
    .ret (.meth .get (.fld (.var 0) "framed") [(.var 1)])], []⟩
def en_Disk_frame : FnE := ⟨"frame", mthS 12 2, ["self", "page"], ["self", "page"], fd_Disk_frame, "Disk.frame", "Disk.frame", (some "Disk"), []⟩
def fd_Disk_frame_ids : FD := ⟨1, 1, [.ret (.bi .tuple [(.bi .sorted [(.fld (.var 0) "framed")])])], []⟩
def en_Disk_frame_ids : FnE := ⟨"frame_ids", mthS 12 3, ["self"], ["self"], fd_Disk_frame_ids, "Disk.frame_ids", "Disk.frame_ids", (some "Disk"), []⟩
def fd_Disk_tape : FD := ⟨1, 1, [.ret (.fld (.var 0) "taped")], []⟩
def en_Disk_tape : FnE := ⟨"tape", mthS 12 4, ["self"], ["self"], fd_Disk_tape, "Disk.tape", "Disk.tape", (some "Disk"), []⟩
def fd_Disk_safe : FD := ⟨1, 1, [.ret (.fld (.var 0) "held")], []⟩
def en_Disk_safe : FnE := ⟨"safe", mthS 12 5, ["self"], ["self"], fd_Disk_safe, "Disk.safe", "Disk.safe", (some "Disk"), []⟩
def fd_Disk_shelf : FD := ⟨1, 1, [.ret (.fld (.var 0) "shelved")], []⟩
def en_Disk_shelf : FnE := ⟨"shelf", mthS 12 6, ["self"], ["self"], fd_Disk_shelf, "Disk.shelf", "Disk.shelf", (some "Disk"), []⟩
def fd_Disk_count_write : FD := ⟨1, 1, [.iff (.and (.cmp (.fld (.var 0) "fuse") .IsNot .non) (.cmp (.fld (.var 0) "many") .GtE (.fld (.var 0) "fuse"))) [.rais x_Fallen (.fld (.var 0) "many")] [],
    .asg (.fld [0] (.var 0) "many") (.bin .Add (.fld (.var 0) "many") (.int 1))], []⟩
def en_Disk_count_write : FnE := ⟨"count_write", mthS 12 7, ["self"], ["self"], fd_Disk_count_write, "Disk.count_write", "Disk.count_write", (some "Disk"), []⟩
def fd_Disk_put_frame : FD := ⟨3, 3, [.expr (.call f_check_page [(.var 1)]),
    .expr (.mcall [(0, f_Disk_count_write)] (.var 0) [] []),
    .asg (.sub (.fld (.var 0) "framed") (.var 1)) (.var 2)], []⟩
def en_Disk_put_frame : FnE := ⟨"put_frame", mthS 12 8, ["self", "page", "text"], ["self", "page", "text"], fd_Disk_put_frame, "Disk.put_frame", "Disk.put_frame", (some "Disk"), []⟩
def fd_Disk_add_tape : FD := ⟨2, 2, [.expr (.mcall [(0, f_Disk_count_write)] (.var 0) [] []),
    .asg (.fld [0] (.var 0) "taped") (.bin .Add (.fld (.var 0) "taped") (.var 1))], []⟩
def en_Disk_add_tape : FnE := ⟨"add_tape", mthS 12 9, ["self", "text"], ["self", "text"], fd_Disk_add_tape, "Disk.add_tape", "Disk.add_tape", (some "Disk"), []⟩
def fd_Disk_sync : FD := ⟨1, 1, [.expr (.mcall [(0, f_Disk_count_write)] (.var 0) [] []),
    .asg (.fld [0] (.var 0) "held") (.bi .len [(.fld (.var 0) "taped")])], []⟩
def en_Disk_sync : FnE := ⟨"sync", mthS 12 10, ["self"], ["self"], fd_Disk_sync, "Disk.sync", "Disk.sync", (some "Disk"), []⟩
def fd_Disk_put_shelf : FD := ⟨2, 2, [.expr (.mcall [(0, f_Disk_count_write)] (.var 0) [] []),
    .asg (.fld [0] (.var 0) "shelved") (.var 1)], []⟩
def en_Disk_put_shelf : FnE := ⟨"put_shelf", mthS 12 11, ["self", "text"], ["self", "text"], fd_Disk_put_shelf, "Disk.put_shelf", "Disk.put_shelf", (some "Disk"), []⟩
def fd_Disk_cut_tape : FD := ⟨2, 2, [.expr (.mcall [(0, f_Disk_count_write)] (.var 0) [] []),
    .asg (.fld [0] (.var 0) "taped") (.var 1),
    .asg (.fld [0] (.var 0) "held") (.bi .len [(.var 1)])], []⟩
def en_Disk_cut_tape : FnE := ⟨"cut_tape", mthS 12 12, ["self", "text"], ["self", "text"], fd_Disk_cut_tape, "Disk.cut_tape", "Disk.cut_tape", (some "Disk"), []⟩
def fd_Disk_fell : FD := ⟨3, 3, [.expr (.call f__wall [(.int 0)])], []⟩
def en_Disk_fell : FnE := ⟨"fell", mthS 12 13, ["self", "keep", "fuse"], ["self", "keep", "fuse"], fd_Disk_fell, "Disk.fell", "Disk.fell", (some "Disk"), [.non]⟩
def fd_Disk_spoil_frame : FD := ⟨4, 4, [.expr (.call f__wall [(.int 1)])], []⟩
def en_Disk_spoil_frame : FnE := ⟨"spoil_frame", mthS 12 14, ["self", "page", "place", "sign"], ["self", "page", "place", "sign"], fd_Disk_spoil_frame, "Disk.spoil_frame", "Disk.spoil_frame", (some "Disk"), []⟩
def fd_Disk_spoil_tape : FD := ⟨3, 3, [.expr (.call f__wall [(.int 2)])], []⟩
def en_Disk_spoil_tape : FnE := ⟨"spoil_tape", mthS 12 15, ["self", "place", "sign"], ["self", "place", "sign"], fd_Disk_spoil_tape, "Disk.spoil_tape", "Disk.spoil_tape", (some "Disk"), []⟩
def tab : List FnE := [en__wall, en_is_whole, en_check_page, en_check_fuse, en_L_pool, en_L_draw, en_L_text, en_L_call, en_L_made, en_L_due, en_L_is_same, en_L_is_refused, en_L_is_no_page, en_L_model, en_law, en_Disk_init, en_Disk_writes, en_Disk_frame, en_Disk_frame_ids, en_Disk_tape, en_Disk_safe, en_Disk_shelf, en_Disk_count_write, en_Disk_put_frame, en_Disk_add_tape, en_Disk_sync, en_Disk_put_shelf, en_Disk_cut_tape, en_Disk_fell, en_Disk_spoil_frame, en_Disk_spoil_tape]
def gls : List (Str × GV) := [("MOST_PAGES", .int 32)]
def clsS (i : Nat) : Stmt := match topS i with
  | .ClassDef _ _ _ b _ _ _ _ _ _ _ => b.getD 0 (.Pass ⟨0, 0, 0, 0⟩)
  | s => s
def exT : ExT := ⟨["BadPage", "BadNumber", "Fallen"], "Refused", clsS 2, "Refused.__init__", [], gls, [], [("Disk", ["fuse", "many", "framed", "taped", "held", "shelved"], ["__init__", "writes", "frame", "frame_ids", "tape", "safe", "shelf", "count_write", "put_frame", "add_tape", "sync", "put_shelf", "cut_tape", "fell", "spoil_frame", "spoil_tape"])]⟩
def exN : Nat := 5
theorem exT_ok : exT.ok = true := by decide +kernel
@[irreducible] def fuel : Nat := 100000
def cfg : Cfg := cfgOf tab gls exT fuel
def P : Prog := cfg.P
def G : Globs := cfg.G
theorem P__wall : P f__wall = some fd__wall := rfl
theorem P_is_whole : P f_is_whole = some fd_is_whole := rfl
theorem P_check_page : P f_check_page = some fd_check_page := rfl
theorem P_check_fuse : P f_check_fuse = some fd_check_fuse := rfl
theorem P_L_pool : P f_L_pool = some fd_L_pool := rfl
theorem P_L_draw : P f_L_draw = some fd_L_draw := rfl
theorem P_L_text : P f_L_text = some fd_L_text := rfl
theorem P_L_call : P f_L_call = some fd_L_call := rfl
theorem P_L_made : P f_L_made = some fd_L_made := rfl
theorem P_L_due : P f_L_due = some fd_L_due := rfl
theorem P_L_is_same : P f_L_is_same = some fd_L_is_same := rfl
theorem P_L_is_refused : P f_L_is_refused = some fd_L_is_refused := rfl
theorem P_L_is_no_page : P f_L_is_no_page = some fd_L_is_no_page := rfl
theorem P_L_model : P f_L_model = some fd_L_model := rfl
theorem P_law : P f_law = some fd_law := rfl
theorem P_Disk_init : P f_Disk_init = some fd_Disk_init := rfl
theorem P_Disk_writes : P f_Disk_writes = some fd_Disk_writes := rfl
theorem P_Disk_frame : P f_Disk_frame = some fd_Disk_frame := rfl
theorem P_Disk_frame_ids : P f_Disk_frame_ids = some fd_Disk_frame_ids := rfl
theorem P_Disk_tape : P f_Disk_tape = some fd_Disk_tape := rfl
theorem P_Disk_safe : P f_Disk_safe = some fd_Disk_safe := rfl
theorem P_Disk_shelf : P f_Disk_shelf = some fd_Disk_shelf := rfl
theorem P_Disk_count_write : P f_Disk_count_write = some fd_Disk_count_write := rfl
theorem P_Disk_put_frame : P f_Disk_put_frame = some fd_Disk_put_frame := rfl
theorem P_Disk_add_tape : P f_Disk_add_tape = some fd_Disk_add_tape := rfl
theorem P_Disk_sync : P f_Disk_sync = some fd_Disk_sync := rfl
theorem P_Disk_put_shelf : P f_Disk_put_shelf = some fd_Disk_put_shelf := rfl
theorem P_Disk_cut_tape : P f_Disk_cut_tape = some fd_Disk_cut_tape := rfl
theorem P_Disk_fell : P f_Disk_fell = some fd_Disk_fell := rfl
theorem P_Disk_spoil_frame : P f_Disk_spoil_frame = some fd_Disk_spoil_frame := rfl
theorem P_Disk_spoil_tape : P f_Disk_spoil_tape = some fd_Disk_spoil_tape := rfl
theorem G_MOST_PAGES : G g_MOST_PAGES = some (.int (32)) := rfl
theorem tab_ok : tab.all (fun e => e.ok cfg) = true := by decide +kernel
end WL
set_option maxHeartbeats 0
namespace WL
open PySem PySem.Spec PyProof.Rows L2
abbrev hk : PySem.W.Hook := hookX exN (faOf tab gls exT) (fnOf tab exT) exT
def ob (s : PySem.W.SharedT) : AlX := obsX exN (faOf tab gls exT) (fnOf tab exT) exT (HandSHeadRun.getT s)
theorem ob_eq (s : PySem.W.SharedT) : ob s = hk.obs s.abs := obsX_eq (HandSHeadRun.getT_eq s)
def strOf : Expr → Str
  | .Name x _ => x
  | _ => default
def bound : List Stmt → List Str
  | [] => []
  | .FunctionDef n _ _ _ _ _ _ _ _ _ :: r => n :: bound r
  | .ClassDef n _ _ _ _ _ _ _ _ _ _ :: r => n :: bound r
  | .Assign [.Name x _] _ _ :: r => x :: bound r
  | _ :: r => bound r
abbrev R38 : PySem.W.OpenRow := PySem.W.OpenLaw.row PySem.Challenge.rw_wendleaf_k38_writes_and_fuses
def loose0 : List Str := ["_wall", "Refused", "BadPage", "BadNumber", "Fallen", "is_whole", "MOST_PAGES", "check_page", "check_fuse", "Disk", "_law_pool", "_law_draw", "_law_text", "_law_call", "_law_made", "_law_due"]
def loose1 : List Str := ["_law_is_same", "_law_is_refused", "_law_is_no_page", "_law_model"]
def loose : List Str := loose0 ++ loose1
section
open PySem.W PySem.Calls
noncomputable abbrev EndAt (w : World) (os : OsState) : Option SharedT := HandSHeadRun.endF (HandSHeadRun.stepQ (HandSHeadRun.denQ HandSHeadRun.tabQ) R38.prog w) 6000 R38.prog w os
abbrev QV : Program := PySem.W.view R38.prog [24]
def SeenAt (w : World) : Prop := ∀ os : OsState, (EndAt w os).map (fun s => (HandSHeadRun.looksF R38.prog (boot_heap w.params) s.abs, HandSHeadRun.seenQ QV loose (importedModules QV.main.body) (fun s => xlAt QV [] s && recOk R38.toRowW.records s) s.abs)) = some (true, openGood QV loose)
def ObAt (w : World) : Prop := ∀ os : OsState, (EndAt w os).map ob = some (hk.val w)
theorem run_of {w : World} (h1 : SeenAt w) (h2 : ObAt w) : HandSHeadRun.RunEq R38 QV hk ob 6000 loose w := by
  intro os
  have h1 := h1 os
  have h2 := h2 os
  unfold EndAt at h1 h2
  cases q : HandSHeadRun.endF (HandSHeadRun.stepQ (HandSHeadRun.denQ HandSHeadRun.tabQ) R38.prog w) 6000 R38.prog w os with
  | none =>
    rw [q] at h2
    cases h2
  | some s =>
    rw [q] at h1 h2
    have e1 := Option.some.inj h1
    have e2 := Option.some.inj h2
    rw [Prod.mk.injEq] at e1
    have e4 : ob s = hk.val w := e2
    show some (_, _, ob s) = some _
    rw [e1.1, e4]
    exact congrArg some (Prod.ext rfl (Prod.ext e1.2 rfl))
end
theorem seen_all (w : World) : SeenAt w := by
  intro os
  kernel_rfl
theorem ob_all (w : World) : ObAt w := by
  intro os
  kernel_rfl
theorem head_run (w : World) : HandSHeadRun.RunEq R38 QV hk ob 6000 loose w := run_of (seen_all w) (ob_all w)
end WL
namespace WL
open PySem
local macro_rules
  | `(tactic| simp! only [$xs,*] $[$loc:location]?) => `(tactic| simp -implicitDefEqProofs only [tQ_ap, tK_ap, tN_ap, tF_ap, tNew_ap, br_true, br_false, brB_true, brB_false, brB_dec, brB_not, brO_some, vO_some, vE_some, bO_some, bO_map, nO_some, wO_some, ev_var, ev_int, ev_str, ev_bl, ev_non, ev_fnc, ev_glob, evs_nil, evs_cons, kArg_ap, kCons_ap, ev_tup, kTup_ap, ev_lst, kLst_ap, ev_bin, kBin1_ap, kBin2_ap, opB_add, opB_sub, opB_mul, opB_mod, opB_adds, opB_addt, opB_rept, ev_neg, kNeg_ap, ev_not, kNot_ap, ev_and, kAnd_ap, ev_or, kOr_ap, ev_ife, kIfe_ap, ev_cmp, kCmp1_ap, kCmp2_ap, ev_chain, kCh1_ap, kCh2_ap, ev_ix, kIx1_ap, kIx2_ap, ev_rev, kRev_ap, ev_slice, kSl1_ap, kSl2_ap, kSl3_ap, evN_nil, evN_one, kEnd_ap, slP_tup, ev_call, kCall_ap, ev_bi, kBi_ap, biP_lenT, biP_lenF, biP_int, biP_tupT, biP_min, biP_max, ev_isi, kIsi_ap, isi_int, isi_bl, isi_tup, isi_non, isi_str, ev_lrg, kLrg_ap, ev_trg, kTrg_ap, ev_app, kApp1_ap, kApp2_ap, ev_pop, kPop1_ap, kPop2_ap, ev_ext, kExt1_ap, kExt2_ap, ev_meth, kMe1_ap, kMe2_ap, ev_dnew, ev_dlit, meT_str, meT_gd, isT_join, isT_split, isT_zfill, isT_part, isT_upper, isT_find, isT_count, isT_get, isT_dpop, isT_rpart, isD_get, isT_update, isD_update, isS_update, isD_dpop, isD_lpop, isD_index, isD_insert, isS_get, isS_dpop, isS_lpop, isS_index, isS_insert, meT_ref, meP_get1, meP_get2, gtP_some, lookD_gd, ev_lc, kLc_ap, evI_val, kVal_ap, walk_tup, walk_frz, walkS_tup, walkS_frz, walkS_ref, walkS_str, evI_rng, kRng_ap, rgW_some, evI_enm, kEnm_ap, enW_some, evI_zip, kZip1_ap, kZip2_ap, ziW_tup, asg_nm, asgs_nil, asgs_cons, kTs_ap, asg_sub, kSub1_ap, kSub2_ap, blk_nil, blk_cons, kSeq_nx, kSeq_rt, kSeq_bk, kSeq_ct, st_asg, kAsg_ap, st_par, kPar_ap, st_aug, kAug1_ap, kAug2_ap, st_augS, kAs1_ap, kAs2_ap, tIx_ap, kAs3_ap, kAs4_ap, st_expr, kExpr_ap, st_ret, kRet_ap, st_retN, st_iff, kIf_ap, st_brk, st_cnt, st_pass, st_for, kFor_ap, st_whl, kBody_ap, kWh_ap, tNx_ap, kEnd_nx, kEnd_rt, ev_callL, ev_callG, kG_ap, eas_nil, eas_val, kAr1_ap, kAsD_ap, tAs_ap, eas_fn, eas_fn2, kFn2_ap, eas_pass, eas_lam, eas_slot, slO_some, lmO_some, caps_nil, caps_cons, capC_some, cN0, cN1, cN2, cN3, cN4, cN5, cN6, cN7, cN8, cN9, cN10, cN11, cN12, cN13, cN14, cN15, line_big, line_ok, line_lt, apP_any, apL_some, stP_any, stP_key, stK_some, stL_some, stI_some, slP_any, slL_some, rvP_tup, rvP_any, rvL_some, slP_frz, biP_len, lnD_some, lnL_some, biP_tup, tpL_some, biP_lst, lsL_some, biP_lstT, opB_addr, adL_some, poP_any, poL_some, poC_ap, poT_some, poX_some, opB_e18, opB_e12, lrP_some, trP_some, isL_any, asg_any, atL_some, walk_any, wkL_some, ixD_ref, ixR_some, ixD_tup, ixD_frz, atD_0, atD_1, atD_2, atD_3, ixOf_0, ixOf_1, ixOf_2, mulOk_r, mulOk_l, divOk, Br_t, Br_f, ev_callD, kCallD_ap, ev_fld, kFld_ap, fdO_some, ev_new, kNew_ap, ev_mcall, kMc1_ap, mcO_some, mcF_some, kMc2_ap, ev_iso, kIso_ap, isP_some, look_hd, asg_fld, kSf_ap, sfO_some, lcTP_0, kLcA_ap, kLcB_ap, lcTP_1, kLcC_ap, kLcD_ap, tEl_ap, tOn_ap, cut_all, kStep_nx, kStep_rt, exX_nx, exX_rt, exX_ex, kSuR_ap, tSuE_ap, tSuN_ap, kSuC_ap, kRais_ap, kClX_ap, kSeqX_nx, kSeqX_rt, kSeqX_ex, tBX_ap, kIfX_ap, hd_cons, su_nil, su_ret, su_ifret, su_asg, kSuA_ap, putX, offX, kClE_ap, kNextX_ap, tEX_ap, kIfeX_ap, kForX_ap, kBodyX_ap, opB_div, asg_tup, List.length_cons, truth_bl, truth_int, cmp_lt', cmp_le', cmp_gt', cmp_ge', cmp_is', cmp_isnot', cmp_isb', cmp_isnb', cmp_eq', cmp_ne', orX_some, cmp_in', cmp_notin', eqD_int, eqD_bl, trunc_self, isi_int, isi_tup, isi_non, isi_bl, isi_str, List.getElem?_cons_zero, List.getElem?_cons_succ, List.set_cons_zero, List.set_cons_succ, List.map_cons, List.map_nil, List.replicate_succ, List.replicate_zero, List.cons_append, List.nil_append, List.length_nil, Option.map_some, Option.map_none, isLst_zero, isLst_succ, items_tup, items_ref, items_frz, wipeE, parSet, aop, Nat.sub_self, Nat.add_sub_cancel, Nat.reduceSub, Nat.reduceAdd, Nat.reduceLT, Nat.reduceLeDiff, Nat.reduceMul, Nat.reducePow, Int.reduceNeg, Int.reduceLT, Int.reduceLE, Int.reduceEq, Int.reduceAdd, Int.reduceSub, Int.reduceMul, Int.reducePow, Int.reduceToNat, Int.reduceMod, Int.reduceDiv, trunc_new, und_int, und_non, und_bl, und_str, und_frz, und_ref, eq_self, and_self, true_and, and_true, Nat.reduceEqDiff, decide_true, decide_false, Bool.not_true, Bool.not_false, Bool.true_and, Bool.false_and, Bool.and_true, Bool.or_false, Bool.false_or, or_true, true_or, or_false, false_or, Bool.and_false, if_true, if_false, reduceCtorEq, Bool.false_eq_true, Nat.zero_add, Option.bind_some, Option.isSome_some, Option.isSome_none, Nat.zero_le, line_ok, line_lt, $xs,*] $[$loc]?)
set_option maxHeartbeats 4000000
def nD (n : Nat) : D := .int n
def nL (l : List Nat) : List D := l.map nD
theorem rng_natL {n : Nat} (h : n ≤ 1000000) : rngD [.int (n : Nat)] = some (nL (List.range n)) := by
  rw [rng1 (small_of (by omega) (by omega))]
  refine congrArg some ?_
  unfold rngL nL nD
  rw [Int.sub_zero, Int.toNat_natCast]
  exact List.map_congr_left fun i _ => by rw [Int.zero_add]
theorem nL_len {l : List Nat} : (nL l).length = l.length := by simp [nL]
theorem nL_get {l : List Nat} {i : Nat} : (nL l)[i]? = l[i]?.map nD := by simp [nL]
theorem nL_erase {l : List Nat} {i : Nat} : (nL l).eraseIdx i = nL (l.eraseIdx i) := by
  induction l generalizing i with
  | nil => rfl
  | cons a l ih =>
    cases i with
    | zero => rfl
    | succ i => exact congrArg (nD a :: ·) ih
theorem nL_app {l : List Nat} {x : Nat} : nL l ++ [nD x] = nL (l ++ [x]) := by simp [nL]
section
variable {X : Mx} {ρ : Env} {s : Store} {E : En}
theorem for_map {α : Type} {t : Tg} {p : List S} {w : Walk} {xs : List α} (g : α → D) (I : List α → List α → Env → Store → Prop) (hs : ∀ dn l ρ s, I dn l ρ s → w.stays s = true) (h0 : I [] xs ρ s)
    (ht : ∀ dn x l ρ s, dn ++ x :: l = xs → I dn (x :: l) ρ s → asg X t (g x) ρ (kBody X p { nx := fun ρ s => I (dn ++ [x]) l ρ s, ct := fun ρ s => I (dn ++ [x]) l ρ s, bk := E.nx, rt := E.rt }) s)
    (he : ∀ ρ s, I xs [] ρ s → E.nx ρ s) : forP X t p w (xs.map g) ρ E s := by
  refine for_inv (fun its ρ s => ∃ dn l, dn ++ l = xs ∧ its = l.map g ∧ I dn l ρ s) ⟨[], xs, rfl, rfl, h0⟩ (fun l ρ s ⟨dn, l', _, _, h⟩ => hs _ _ _ _ h) ?_ ?_
  · rintro x l ρ s ⟨dn, l', e1, e2, h⟩
    cases l' with
    | nil => cases e2
    | cons y l' =>
      rw [List.map_cons, List.cons.injEq] at e2
      obtain ⟨rfl, rfl⟩ := e2
      have q := ht dn y l' ρ s e1 h
      have e : ∀ (ρ : Env) (s : Store), I (dn ++ [y]) l' ρ s → ∃ dn' l'', dn' ++ l'' = xs ∧ l'.map g = l''.map g ∧ I dn' l'' ρ s := fun ρ s h => ⟨dn ++ [y], l', by rw [← e1]; simp, rfl, h⟩
      have q2 : WpR (asgT X.C X.G t (g y) ρ s) fun ρ s => WpS (exB X.C X.G X.F p ρ s) { nx := fun ρ s => I (dn ++ [y]) l' ρ s, ct := fun ρ s => I (dn ++ [y]) l' ρ s, bk := E.nx, rt := E.rt } := by
        unfold asg kBody blk at q
        exact q
      unfold asg kBody blk
      exact WpR_mono q2 fun ρ s h => WpS_mono h e (fun _ _ h => h) (fun _ _ h => h) e
  · rintro ρ s ⟨dn, l', e1, e2, h⟩
    cases l' with
    | nil =>
      rw [List.append_nil] at e1
      subst e1
      exact he _ _ h
    | cons y l' => cases e2
theorem for_lst {X : Mx} {ρ : Env} {s : Store} {E : En} {t : Tg} {p : List WL.S} {w : Walk} {xs : List D} (I : List D → List D → Env → Store → Prop) (hs : ∀ dn l ρ s, I dn l ρ s → w.stays s = true) (h0 : I [] xs ρ s)
    (ht : ∀ dn x l ρ s, dn ++ x :: l = xs → I dn (x :: l) ρ s → asg X t x ρ (kBody X p { nx := fun ρ s => I (dn ++ [x]) l ρ s, ct := fun ρ s => I (dn ++ [x]) l ρ s, bk := E.nx, rt := E.rt }) s)
    (he : ∀ ρ s, I xs [] ρ s → E.nx ρ s) : forP X t p w xs ρ E s := by
  have := for_map id I hs h0 ht he
  rw [List.map_id] at this
  exact this
theorem for_enm {α : Type} {t : Tg} {p : List S} {w : Walk} {xs : List α} (g : α → D) (hw : w.its = xs.map g) (I : List α → List α → Env → Store → Prop) (hs : ∀ dn l ρ s, I dn l ρ s → (enmOf w).stays s = true) (h0 : I [] xs ρ s)
    (ht : ∀ dn x l ρ s, dn ++ x :: l = xs → I dn (x :: l) ρ s → asg X t (.tup [.int (dn.length : Nat), g x]) ρ (kBody X p { nx := fun ρ s => I (dn ++ [x]) l ρ s, ct := fun ρ s => I (dn ++ [x]) l ρ s, bk := E.nx, rt := E.rt }) s)
    (he : ∀ ρ s, I xs [] ρ s → E.nx ρ s) : forP X t p (enmOf w) (enmOf w).its ρ E s := by
  have e : (enmOf w).its = (xs.zipIdx).map fun q => .tup [.int (q.2 : Nat), g q.1] := by
    unfold enmOf
    rw [hw]
    simp only [List.zipIdx_map, List.map_map]
    rfl
  rw [e]
  refine for_map (fun q : α × Nat => D.tup [.int (q.2 : Nat), g q.1]) (fun dn l ρ s => ∃ d r, dn = d.zipIdx ∧ l = r.zipIdx d.length ∧ d ++ r = xs ∧ I d r ρ s) (fun dn l ρ s ⟨d, r, _, _, _, h⟩ => hs _ _ _ _ h) ⟨[], xs, rfl, rfl, rfl, h0⟩ ?_ ?_
  · rintro dn ⟨x, i⟩ l ρ s _ ⟨d, r, rfl, e2, e3, h⟩
    cases r with
    | nil => cases e2
    | cons y r =>
      rw [List.zipIdx_cons, List.cons.injEq] at e2
      obtain ⟨e4, e5⟩ := e2
      cases e4
      have q := ht d x r ρ s e3 h
      have ei : ∀ (ρ : Env) (s : Store), I (d ++ [x]) r ρ s → ∃ d' r', d.zipIdx ++ [(x, d.length)] = d'.zipIdx ∧ l = r'.zipIdx d'.length ∧ d' ++ r' = xs ∧ I d' r' ρ s := fun ρ s h => ⟨d ++ [x], r, by simp [List.zipIdx_append], by rw [e5]; simp, by rw [← e3]; simp, h⟩
      have q2 : WpR (asgT X.C X.G t (.tup [.int (d.length : Nat), g x]) ρ s) fun ρ s => WpS (exB X.C X.G X.F p ρ s) { nx := fun ρ s => I (d ++ [x]) r ρ s, ct := fun ρ s => I (d ++ [x]) r ρ s, bk := E.nx, rt := E.rt } := by
        unfold asg kBody blk at q
        exact q
      unfold asg kBody blk
      exact WpR_mono q2 fun ρ s h => WpS_mono h ei (fun _ _ h => h) (fun _ _ h => h) ei
  · rintro ρ s ⟨d, r, e1, e2, e3, h⟩
    cases r with
    | nil =>
      rw [List.append_nil] at e3
      subst e3
      exact he _ _ h
    | cons y r => cases e2
end
@[irreducible] def clB (X : Mx) (f : Nat) (ds : List D) (Q : KQ) (K : KX) (s : Store) : Prop := match X.C f ds s with
  | .ok d s => Q d s
  | .exc c w s => K c w s
  | .bad => False
theorem cl_fdBC {P : Prog} {G : Globs} {F k f : Nat} {fd : FD} {ds : List D} {s : Store} {Q : KQ} {K : KX} {Γ : List (Nat × D)} {ρ : Env} (h : P f = some fd) (hl : ds.length = fd.np) (hg : gamma fd.cl ds = Γ) (hr : hideL fd.cl (ds.map some ++ List.replicate (fd.nv - fd.np) none) = ρ)
    (h2 : blkX (mxC P G F k Γ) fd.body ρ ⟨fun _ s1 => Q .non (trunc s .non s1), fun d s1 => Q d (trunc s d s1), fun c w _ s1 => K c w (trunc s w s1)⟩ s) : clB (mx P G F (k + 1)) f ds Q K s := by
  subst hg hr
  unfold blkX at h2
  unfold clB
  have e : (mx P G F (k + 1)).C f ds s = callF P G F (k + 1) f ds s := rfl
  rw [e]
  unfold callF
  simp only [h]
  rw [if_pos hl]
  simp only [mxC] at h2
  cases q : exB (cloC (gamma fd.cl ds) (callF P G F k)) G F fd.body (hideL fd.cl (ds.map some ++ List.replicate (fd.nv - fd.np) none)) s with
  | nx ρ1 s1 => rw [q] at h2; exact h2
  | ret d s1 => rw [q] at h2; exact h2
  | brk ρ1 s1 => rw [q] at h2; exact h2.elim
  | cnt ρ1 s1 => rw [q] at h2; exact h2.elim
  | exc c w ρ1 s1 => rw [q] at h2; exact h2
  | bad => rw [q] at h2; exact h2.elim
theorem cl_fdB {P : Prog} {G : Globs} {F k f : Nat} {fd : FD} {ds : List D} {s : Store} {Q : KQ} {K : KX} (h : P f = some fd) (hl : ds.length = fd.np)
    (h2 : blkX (mx P G F k) fd.body (ds.map some ++ List.replicate (fd.nv - fd.np) none) ⟨fun _ _ => False, fun d s1 => Q d (trunc s d s1), fun c w _ s1 => K c w (trunc s w s1)⟩ s) (hc : fd.cl = [] := by rfl) : clB (mx P G F (k + 1)) f ds Q K s := by
  refine cl_fdBC (Γ := []) h hl (by rw [hc] <;> rfl) (by rw [hc] <;> rfl) ?_
  unfold blkX at h2 ⊢
  cases q : exB (mx P G F k).C (mx P G F k).G (mx P G F k).F fd.body (ds.map some ++ List.replicate (fd.nv - fd.np) none) s with
  | nx ρ1 s1 => rw [q] at h2; exact h2.elim
  | ret d s1 => exact (show WpX (exB (callF P G F k) G F fd.body (ds.map some ++ List.replicate (fd.nv - fd.np) none) s) _ by rw [show exB (callF P G F k) G F fd.body (ds.map some ++ List.replicate (fd.nv - fd.np) none) s = _ from q]; rw [q] at h2; exact h2)
  | brk ρ1 s1 => rw [q] at h2; exact h2.elim
  | cnt ρ1 s1 => rw [q] at h2; exact h2.elim
  | exc c w ρ1 s1 => exact (show WpX (exB (callF P G F k) G F fd.body (ds.map some ++ List.replicate (fd.nv - fd.np) none) s) _ by rw [show exB (callF P G F k) G F fd.body (ds.map some ++ List.replicate (fd.nv - fd.np) none) s = _ from q]; rw [q] at h2; exact h2)
  | bad => rw [q] at h2; exact h2.elim
def kClB (X : Mx) (f : Nat) (ρ : Env) (s0 : Store) (E' : EnX) : KL := fun ds s => clB X f ds (fun d s => E'.rt d (trunc s0 d s)) (fun c w s => E'.ex c w ρ s) s
theorem kClB_ap {X : Mx} {f : Nat} {ρ : Env} {s0 s : Store} {E' : EnX} {ds : List D} : kClB X f ρ s0 E' ds s = clB X f ds (fun d s => E'.rt d (trunc s0 d s)) (fun c w s => E'.ex c w ρ s) s := rfl
theorem blkX_retB {X : Mx} {f : Nat} {es : List WL.E} {xs : List WL.S} {ρ : Env} {s : Store} {E' : EnX} (h : evs X es ρ (kClB X f ρ s E') s) : blkX X (.ret (.call f es) :: xs) ρ E' s := by
  unfold evs at h
  unfold blkX
  simp only [exB, exS, evE]
  cases q : evEs X.C X.G es ρ s with
  | ok ds s1 =>
    rw [q] at h
    have h : clB X f ds (fun d s2 => E'.rt d (trunc s d s2)) (fun c w s => E'.ex c w ρ s) s1 := h
    unfold clB at h
    simp only [R.bind]
    cases q2 : X.C f ds s1 with
    | ok d s2 => rw [q2] at h; exact h
    | exc c w s2 => rw [q2] at h; exact h
    | bad => rw [q2] at h; exact h.elim
  | exc c w s1 => rw [q] at h; exact h.elim
  | bad => rw [q] at h; exact h.elim
def kClB2 (X : Mx) (f : Nat) (xs : List WL.S) (ρ : Env) (s0 : Store) (E' : EnX) : KL := fun ds s => clB X f ds (fun d s => blkX X xs ρ E' (trunc s0 .non s)) (fun c w s => E'.ex c w ρ s) s
theorem kClB2_ap {X : Mx} {f : Nat} {xs : List WL.S} {ρ : Env} {s0 s : Store} {E' : EnX} {ds : List D} : kClB2 X f xs ρ s0 E' ds s = clB X f ds (fun d s => blkX X xs ρ E' (trunc s0 .non s)) (fun c w s => E'.ex c w ρ s) s := rfl
theorem blkX_exprB {X : Mx} {f : Nat} {es : List WL.E} {xs : List WL.S} {ρ : Env} {s : Store} {E' : EnX} (h : evs X es ρ (kClB2 X f xs ρ s E') s) : blkX X (.expr (.call f es) :: xs) ρ E' s := by
  unfold evs at h
  unfold blkX
  simp only [exB, exS, evE]
  cases q : evEs X.C X.G es ρ s with
  | ok ds s1 =>
    rw [q] at h
    have h : clB X f ds (fun d s2 => blkX X xs ρ E' (trunc s .non s2)) (fun c w s => E'.ex c w ρ s) s1 := h
    unfold clB at h
    simp only [R.bind]
    cases q2 : X.C f ds s1 with
    | ok d s2 =>
      rw [q2] at h
      have h : blkX X xs ρ E' (trunc s .non s2) := h
      unfold blkX at h
      exact h
    | exc c w s2 => rw [q2] at h; exact h
    | bad => rw [q2] at h; exact h.elim
  | exc c w s1 => rw [q] at h; exact h.elim
  | bad => rw [q] at h; exact h.elim
section
variable {X : Mx} {ρ : Env} {s : Store} {E : En}
theorem range_at {m : Nat} {dn l : List Nat} {x : Nat} (h : dn ++ x :: l = List.range m) : x = dn.length ∧ x < m := by
  have h1 : (List.range m)[dn.length]? = some x := by
    rw [← h, List.getElem?_append_right (Nat.le_refl _)]
    simp
  have h2 := List.getElem?_eq_some_iff.mp h1
  obtain ⟨h3, h4⟩ := h2
  rw [List.getElem_range] at h4
  rw [List.length_range] at h3
  exact ⟨h4.symm, by omega⟩
theorem for_rng {m : Nat} {t : Tg} {p : List S} {w : Walk} (I : Nat → Env → Store → Prop) (hw : w.chk = []) (h0 : I 0 ρ s)
    (ht : ∀ o ρ s, o < m → I o ρ s → asg X t (.int (o : Nat)) ρ (kBody X p { nx := fun ρ s => I (o + 1) ρ s, ct := fun ρ s => I (o + 1) ρ s, bk := E.nx, rt := E.rt }) s)
    (he : ∀ ρ s, I m ρ s → E.nx ρ s) : forP X t p w (nL (List.range m)) ρ E s := by
  refine for_map nD (fun dn l ρ s => I dn.length ρ s) (fun _ _ _ _ _ => by unfold Walk.stays; rw [hw]; rfl) h0 ?_ ?_
  · intro dn x l ρ s e h
    obtain ⟨h1, h2⟩ := range_at e
    rw [List.length_append, List.length_cons, List.length_nil]
    subst h1
    exact ht _ ρ s h2 h
  · intro ρ s h
    rw [List.length_range] at h
    exact he ρ s h
end
theorem evX_ifeC {X : Mx} {c a b : WL.E} {ρ : Env} {s : Store} {K : KX} (h : evX X c ρ K s) : evX X (.ife c a b) ρ K s := by
  unfold evX at h ⊢
  simp only [evE]
  cases q : evE X.C X.G c ρ s with
  | ok d s1 => rw [q] at h; exact h.elim
  | exc c w s1 => rw [q] at h; exact h
  | bad => rw [q] at h; exact h.elim
theorem evX_cmpL {X : Mx} {a b : WL.E} {op : CmpOp} {ρ : Env} {s : Store} {K : KX} (h : evX X a ρ K s) : evX X (.cmp a op b) ρ K s := by
  unfold evX at h ⊢
  simp only [evE]
  cases q : evE X.C X.G a ρ s with
  | ok d s1 => rw [q] at h; exact h.elim
  | exc c w s1 => rw [q] at h; exact h
  | bad => rw [q] at h; exact h.elim
set_option maxHeartbeats 4000000
theorem q_page__page (s : Store) : eqD s (.str "page") (.str "page") = some true := by kernel_rfl
theorem q_page__other_page (s : Store) : eqD s (.str "page") (.str "other page") = some false := by kernel_rfl
theorem q_page__key (s : Store) : eqD s (.str "page") (.str "key") = some false := by kernel_rfl
theorem q_page__new_key (s : Store) : eqD s (.str "page") (.str "new key") = some false := by kernel_rfl
theorem q_page__low (s : Store) : eqD s (.str "page") (.str "low") = some false := by kernel_rfl
theorem q_page__high (s : Store) : eqD s (.str "page") (.str "high") = some false := by kernel_rfl
theorem q_page__place (s : Store) : eqD s (.str "page") (.str "place") = some false := by kernel_rfl
theorem q_page__by (s : Store) : eqD s (.str "page") (.str "by") = some false := by kernel_rfl
theorem q_page__value (s : Store) : eqD s (.str "page") (.str "value") = some false := by kernel_rfl
theorem q_page__new_value (s : Store) : eqD s (.str "page") (.str "new value") = some false := by kernel_rfl
theorem q_page__rows (s : Store) : eqD s (.str "page") (.str "rows") = some false := by kernel_rfl
theorem q_page__in (s : Store) : inD s (.str "page") (.tup [.str "place", .str "by", .str "sign"]) = some false := by kernel_rfl
theorem q_other_page__page (s : Store) : eqD s (.str "other page") (.str "page") = some false := by kernel_rfl
theorem q_other_page__other_page (s : Store) : eqD s (.str "other page") (.str "other page") = some true := by kernel_rfl
theorem q_other_page__key (s : Store) : eqD s (.str "other page") (.str "key") = some false := by kernel_rfl
theorem q_other_page__new_key (s : Store) : eqD s (.str "other page") (.str "new key") = some false := by kernel_rfl
theorem q_other_page__low (s : Store) : eqD s (.str "other page") (.str "low") = some false := by kernel_rfl
theorem q_other_page__high (s : Store) : eqD s (.str "other page") (.str "high") = some false := by kernel_rfl
theorem q_other_page__place (s : Store) : eqD s (.str "other page") (.str "place") = some false := by kernel_rfl
theorem q_other_page__by (s : Store) : eqD s (.str "other page") (.str "by") = some false := by kernel_rfl
theorem q_other_page__value (s : Store) : eqD s (.str "other page") (.str "value") = some false := by kernel_rfl
theorem q_other_page__new_value (s : Store) : eqD s (.str "other page") (.str "new value") = some false := by kernel_rfl
theorem q_other_page__rows (s : Store) : eqD s (.str "other page") (.str "rows") = some false := by kernel_rfl
theorem q_other_page__in (s : Store) : inD s (.str "other page") (.tup [.str "place", .str "by", .str "sign"]) = some false := by kernel_rfl
theorem q_key__page (s : Store) : eqD s (.str "key") (.str "page") = some false := by kernel_rfl
theorem q_key__other_page (s : Store) : eqD s (.str "key") (.str "other page") = some false := by kernel_rfl
theorem q_key__key (s : Store) : eqD s (.str "key") (.str "key") = some true := by kernel_rfl
theorem q_key__new_key (s : Store) : eqD s (.str "key") (.str "new key") = some false := by kernel_rfl
theorem q_key__low (s : Store) : eqD s (.str "key") (.str "low") = some false := by kernel_rfl
theorem q_key__high (s : Store) : eqD s (.str "key") (.str "high") = some false := by kernel_rfl
theorem q_key__place (s : Store) : eqD s (.str "key") (.str "place") = some false := by kernel_rfl
theorem q_key__by (s : Store) : eqD s (.str "key") (.str "by") = some false := by kernel_rfl
theorem q_key__value (s : Store) : eqD s (.str "key") (.str "value") = some false := by kernel_rfl
theorem q_key__new_value (s : Store) : eqD s (.str "key") (.str "new value") = some false := by kernel_rfl
theorem q_key__rows (s : Store) : eqD s (.str "key") (.str "rows") = some false := by kernel_rfl
theorem q_key__in (s : Store) : inD s (.str "key") (.tup [.str "place", .str "by", .str "sign"]) = some false := by kernel_rfl
theorem q_new_key__page (s : Store) : eqD s (.str "new key") (.str "page") = some false := by kernel_rfl
theorem q_new_key__other_page (s : Store) : eqD s (.str "new key") (.str "other page") = some false := by kernel_rfl
theorem q_new_key__key (s : Store) : eqD s (.str "new key") (.str "key") = some false := by kernel_rfl
theorem q_new_key__new_key (s : Store) : eqD s (.str "new key") (.str "new key") = some true := by kernel_rfl
theorem q_new_key__low (s : Store) : eqD s (.str "new key") (.str "low") = some false := by kernel_rfl
theorem q_new_key__high (s : Store) : eqD s (.str "new key") (.str "high") = some false := by kernel_rfl
theorem q_new_key__place (s : Store) : eqD s (.str "new key") (.str "place") = some false := by kernel_rfl
theorem q_new_key__by (s : Store) : eqD s (.str "new key") (.str "by") = some false := by kernel_rfl
theorem q_new_key__value (s : Store) : eqD s (.str "new key") (.str "value") = some false := by kernel_rfl
theorem q_new_key__new_value (s : Store) : eqD s (.str "new key") (.str "new value") = some false := by kernel_rfl
theorem q_new_key__rows (s : Store) : eqD s (.str "new key") (.str "rows") = some false := by kernel_rfl
theorem q_new_key__in (s : Store) : inD s (.str "new key") (.tup [.str "place", .str "by", .str "sign"]) = some false := by kernel_rfl
theorem q_low__page (s : Store) : eqD s (.str "low") (.str "page") = some false := by kernel_rfl
theorem q_low__other_page (s : Store) : eqD s (.str "low") (.str "other page") = some false := by kernel_rfl
theorem q_low__key (s : Store) : eqD s (.str "low") (.str "key") = some false := by kernel_rfl
theorem q_low__new_key (s : Store) : eqD s (.str "low") (.str "new key") = some false := by kernel_rfl
theorem q_low__low (s : Store) : eqD s (.str "low") (.str "low") = some true := by kernel_rfl
theorem q_low__high (s : Store) : eqD s (.str "low") (.str "high") = some false := by kernel_rfl
theorem q_low__place (s : Store) : eqD s (.str "low") (.str "place") = some false := by kernel_rfl
theorem q_low__by (s : Store) : eqD s (.str "low") (.str "by") = some false := by kernel_rfl
theorem q_low__value (s : Store) : eqD s (.str "low") (.str "value") = some false := by kernel_rfl
theorem q_low__new_value (s : Store) : eqD s (.str "low") (.str "new value") = some false := by kernel_rfl
theorem q_low__rows (s : Store) : eqD s (.str "low") (.str "rows") = some false := by kernel_rfl
theorem q_low__in (s : Store) : inD s (.str "low") (.tup [.str "place", .str "by", .str "sign"]) = some false := by kernel_rfl
theorem q_high__page (s : Store) : eqD s (.str "high") (.str "page") = some false := by kernel_rfl
theorem q_high__other_page (s : Store) : eqD s (.str "high") (.str "other page") = some false := by kernel_rfl
theorem q_high__key (s : Store) : eqD s (.str "high") (.str "key") = some false := by kernel_rfl
theorem q_high__new_key (s : Store) : eqD s (.str "high") (.str "new key") = some false := by kernel_rfl
theorem q_high__low (s : Store) : eqD s (.str "high") (.str "low") = some false := by kernel_rfl
theorem q_high__high (s : Store) : eqD s (.str "high") (.str "high") = some true := by kernel_rfl
theorem q_high__place (s : Store) : eqD s (.str "high") (.str "place") = some false := by kernel_rfl
theorem q_high__by (s : Store) : eqD s (.str "high") (.str "by") = some false := by kernel_rfl
theorem q_high__value (s : Store) : eqD s (.str "high") (.str "value") = some false := by kernel_rfl
theorem q_high__new_value (s : Store) : eqD s (.str "high") (.str "new value") = some false := by kernel_rfl
theorem q_high__rows (s : Store) : eqD s (.str "high") (.str "rows") = some false := by kernel_rfl
theorem q_high__in (s : Store) : inD s (.str "high") (.tup [.str "place", .str "by", .str "sign"]) = some false := by kernel_rfl
theorem q_place__page (s : Store) : eqD s (.str "place") (.str "page") = some false := by kernel_rfl
theorem q_place__other_page (s : Store) : eqD s (.str "place") (.str "other page") = some false := by kernel_rfl
theorem q_place__key (s : Store) : eqD s (.str "place") (.str "key") = some false := by kernel_rfl
theorem q_place__new_key (s : Store) : eqD s (.str "place") (.str "new key") = some false := by kernel_rfl
theorem q_place__low (s : Store) : eqD s (.str "place") (.str "low") = some false := by kernel_rfl
theorem q_place__high (s : Store) : eqD s (.str "place") (.str "high") = some false := by kernel_rfl
theorem q_place__place (s : Store) : eqD s (.str "place") (.str "place") = some true := by kernel_rfl
theorem q_place__by (s : Store) : eqD s (.str "place") (.str "by") = some false := by kernel_rfl
theorem q_place__value (s : Store) : eqD s (.str "place") (.str "value") = some false := by kernel_rfl
theorem q_place__new_value (s : Store) : eqD s (.str "place") (.str "new value") = some false := by kernel_rfl
theorem q_place__rows (s : Store) : eqD s (.str "place") (.str "rows") = some false := by kernel_rfl
theorem q_place__in (s : Store) : inD s (.str "place") (.tup [.str "place", .str "by", .str "sign"]) = some true := by kernel_rfl
theorem q_by__page (s : Store) : eqD s (.str "by") (.str "page") = some false := by kernel_rfl
theorem q_by__other_page (s : Store) : eqD s (.str "by") (.str "other page") = some false := by kernel_rfl
theorem q_by__key (s : Store) : eqD s (.str "by") (.str "key") = some false := by kernel_rfl
theorem q_by__new_key (s : Store) : eqD s (.str "by") (.str "new key") = some false := by kernel_rfl
theorem q_by__low (s : Store) : eqD s (.str "by") (.str "low") = some false := by kernel_rfl
theorem q_by__high (s : Store) : eqD s (.str "by") (.str "high") = some false := by kernel_rfl
theorem q_by__place (s : Store) : eqD s (.str "by") (.str "place") = some false := by kernel_rfl
theorem q_by__by (s : Store) : eqD s (.str "by") (.str "by") = some true := by kernel_rfl
theorem q_by__value (s : Store) : eqD s (.str "by") (.str "value") = some false := by kernel_rfl
theorem q_by__new_value (s : Store) : eqD s (.str "by") (.str "new value") = some false := by kernel_rfl
theorem q_by__rows (s : Store) : eqD s (.str "by") (.str "rows") = some false := by kernel_rfl
theorem q_by__in (s : Store) : inD s (.str "by") (.tup [.str "place", .str "by", .str "sign"]) = some true := by kernel_rfl
theorem q_sign__page (s : Store) : eqD s (.str "sign") (.str "page") = some false := by kernel_rfl
theorem q_sign__other_page (s : Store) : eqD s (.str "sign") (.str "other page") = some false := by kernel_rfl
theorem q_sign__key (s : Store) : eqD s (.str "sign") (.str "key") = some false := by kernel_rfl
theorem q_sign__new_key (s : Store) : eqD s (.str "sign") (.str "new key") = some false := by kernel_rfl
theorem q_sign__low (s : Store) : eqD s (.str "sign") (.str "low") = some false := by kernel_rfl
theorem q_sign__high (s : Store) : eqD s (.str "sign") (.str "high") = some false := by kernel_rfl
theorem q_sign__place (s : Store) : eqD s (.str "sign") (.str "place") = some false := by kernel_rfl
theorem q_sign__by (s : Store) : eqD s (.str "sign") (.str "by") = some false := by kernel_rfl
theorem q_sign__value (s : Store) : eqD s (.str "sign") (.str "value") = some false := by kernel_rfl
theorem q_sign__new_value (s : Store) : eqD s (.str "sign") (.str "new value") = some false := by kernel_rfl
theorem q_sign__rows (s : Store) : eqD s (.str "sign") (.str "rows") = some false := by kernel_rfl
theorem q_sign__in (s : Store) : inD s (.str "sign") (.tup [.str "place", .str "by", .str "sign"]) = some true := by kernel_rfl
theorem q_value__page (s : Store) : eqD s (.str "value") (.str "page") = some false := by kernel_rfl
theorem q_value__other_page (s : Store) : eqD s (.str "value") (.str "other page") = some false := by kernel_rfl
theorem q_value__key (s : Store) : eqD s (.str "value") (.str "key") = some false := by kernel_rfl
theorem q_value__new_key (s : Store) : eqD s (.str "value") (.str "new key") = some false := by kernel_rfl
theorem q_value__low (s : Store) : eqD s (.str "value") (.str "low") = some false := by kernel_rfl
theorem q_value__high (s : Store) : eqD s (.str "value") (.str "high") = some false := by kernel_rfl
theorem q_value__place (s : Store) : eqD s (.str "value") (.str "place") = some false := by kernel_rfl
theorem q_value__by (s : Store) : eqD s (.str "value") (.str "by") = some false := by kernel_rfl
theorem q_value__value (s : Store) : eqD s (.str "value") (.str "value") = some true := by kernel_rfl
theorem q_value__new_value (s : Store) : eqD s (.str "value") (.str "new value") = some false := by kernel_rfl
theorem q_value__rows (s : Store) : eqD s (.str "value") (.str "rows") = some false := by kernel_rfl
theorem q_value__in (s : Store) : inD s (.str "value") (.tup [.str "place", .str "by", .str "sign"]) = some false := by kernel_rfl
theorem q_new_value__page (s : Store) : eqD s (.str "new value") (.str "page") = some false := by kernel_rfl
theorem q_new_value__other_page (s : Store) : eqD s (.str "new value") (.str "other page") = some false := by kernel_rfl
theorem q_new_value__key (s : Store) : eqD s (.str "new value") (.str "key") = some false := by kernel_rfl
theorem q_new_value__new_key (s : Store) : eqD s (.str "new value") (.str "new key") = some false := by kernel_rfl
theorem q_new_value__low (s : Store) : eqD s (.str "new value") (.str "low") = some false := by kernel_rfl
theorem q_new_value__high (s : Store) : eqD s (.str "new value") (.str "high") = some false := by kernel_rfl
theorem q_new_value__place (s : Store) : eqD s (.str "new value") (.str "place") = some false := by kernel_rfl
theorem q_new_value__by (s : Store) : eqD s (.str "new value") (.str "by") = some false := by kernel_rfl
theorem q_new_value__value (s : Store) : eqD s (.str "new value") (.str "value") = some false := by kernel_rfl
theorem q_new_value__new_value (s : Store) : eqD s (.str "new value") (.str "new value") = some true := by kernel_rfl
theorem q_new_value__rows (s : Store) : eqD s (.str "new value") (.str "rows") = some false := by kernel_rfl
theorem q_new_value__in (s : Store) : inD s (.str "new value") (.tup [.str "place", .str "by", .str "sign"]) = some false := by kernel_rfl
theorem q_rows__page (s : Store) : eqD s (.str "rows") (.str "page") = some false := by kernel_rfl
theorem q_rows__other_page (s : Store) : eqD s (.str "rows") (.str "other page") = some false := by kernel_rfl
theorem q_rows__key (s : Store) : eqD s (.str "rows") (.str "key") = some false := by kernel_rfl
theorem q_rows__new_key (s : Store) : eqD s (.str "rows") (.str "new key") = some false := by kernel_rfl
theorem q_rows__low (s : Store) : eqD s (.str "rows") (.str "low") = some false := by kernel_rfl
theorem q_rows__high (s : Store) : eqD s (.str "rows") (.str "high") = some false := by kernel_rfl
theorem q_rows__place (s : Store) : eqD s (.str "rows") (.str "place") = some false := by kernel_rfl
theorem q_rows__by (s : Store) : eqD s (.str "rows") (.str "by") = some false := by kernel_rfl
theorem q_rows__value (s : Store) : eqD s (.str "rows") (.str "value") = some false := by kernel_rfl
theorem q_rows__new_value (s : Store) : eqD s (.str "rows") (.str "new value") = some false := by kernel_rfl
theorem q_rows__rows (s : Store) : eqD s (.str "rows") (.str "rows") = some true := by kernel_rfl
theorem q_rows__in (s : Store) : inD s (.str "rows") (.tup [.str "place", .str "by", .str "sign"]) = some false := by kernel_rfl
theorem q_new_rows__page (s : Store) : eqD s (.str "new rows") (.str "page") = some false := by kernel_rfl
theorem q_new_rows__other_page (s : Store) : eqD s (.str "new rows") (.str "other page") = some false := by kernel_rfl
theorem q_new_rows__key (s : Store) : eqD s (.str "new rows") (.str "key") = some false := by kernel_rfl
theorem q_new_rows__new_key (s : Store) : eqD s (.str "new rows") (.str "new key") = some false := by kernel_rfl
theorem q_new_rows__low (s : Store) : eqD s (.str "new rows") (.str "low") = some false := by kernel_rfl
theorem q_new_rows__high (s : Store) : eqD s (.str "new rows") (.str "high") = some false := by kernel_rfl
theorem q_new_rows__place (s : Store) : eqD s (.str "new rows") (.str "place") = some false := by kernel_rfl
theorem q_new_rows__by (s : Store) : eqD s (.str "new rows") (.str "by") = some false := by kernel_rfl
theorem q_new_rows__value (s : Store) : eqD s (.str "new rows") (.str "value") = some false := by kernel_rfl
theorem q_new_rows__new_value (s : Store) : eqD s (.str "new rows") (.str "new value") = some false := by kernel_rfl
theorem q_new_rows__rows (s : Store) : eqD s (.str "new rows") (.str "rows") = some false := by kernel_rfl
theorem q_new_rows__in (s : Store) : inD s (.str "new rows") (.tup [.str "place", .str "by", .str "sign"]) = some false := by kernel_rfl
set_option maxHeartbeats 4000000
structure Po where
  g : List Int
  a : Int
  b : Int
  l : List Int
def Po.ok (p : Po) : Prop := 0 ≤ p.a ∧ 0 ≤ p.b ∧ p.b < 2147483648
def PB (p : Po) (t : Store) : Store := [.lst (p.g.map .int), .lst (p.l.map .int), .lst [.int p.a, .int p.b, .ref 1]] ++ t
section
variable {p p' : Po} {t u : Store} {x y : Int} {l : List Int} {d : D}
theorem PB_app : PB p t ++ u = PB p (t ++ u) := by simp [PB]
theorem PB_len : (PB p t).length = t.length + 3 := by simp [PB]
theorem PB_at2 : isLst (PB p t) 2 = some [.int p.a, .int p.b, .ref 1] := rfl
theorem PB_at1 : isLst (PB p t) 1 = some (p.l.map .int) := rfl
theorem PB_set2 : (PB p t).set 2 (.lst [.int x, .int y, .ref 1]) = PB { p with a := x, b := y } t := rfl
theorem PB_set1 : (PB p t).set 1 (.lst (l.map .int)) = PB { p with l := l } t := rfl
theorem PB_agree {n : Nat} (h : 3 ≤ n) : agree n (PB p t) (PB p' t) = true := by
  have h1 : ∀ z : List Int, D.unds n (z.map .int) = true := fun z => by
    rw [unds_iff]
    intro d hd
    obtain ⟨i, _, rfl⟩ := List.mem_map.mp hd
    rfl
  simp [PB, agree, Cell.und, D.unds, D.und, h1, agree_refl]
  omega
theorem PB_trunc : trunc (PB p t) d (PB p' t) = PB p' t := trunc_mut0 (PB_agree (by rw [PB_len]; omega)) (by rw [PB_len, PB_len])
theorem PB_drop (h : D.und (PB p t).length d = true) : trunc (PB p t) d (PB p' t ++ u) = PB p' t := trunc_mut h (PB_agree (by rw [PB_len]; omega)) (by rw [PB_len, PB_len])
theorem PB_truncU : trunc (PB p t ++ u) d (PB p' t ++ u) = PB p' t ++ u := by
  rw [PB_app, PB_app]
  exact PB_trunc
theorem agree_cat : ∀ {s s' : Store} {v v' : Store} {n : Nat}, agree n s s' = true → s.length = s'.length → agree n v v' = true → agree n (s ++ v) (s' ++ v') = true
  | [], [], v, v', n, _, _, h => h
  | [], _ :: _, _, _, _, _, h, _ => by simp at h
  | _ :: _, [], _, _, _, _, h, _ => by simp at h
  | c :: s, c' :: s', v, v', n, h, hl, h2 => by
    simp only [agree, Bool.and_eq_true, List.cons_append] at h ⊢
    exact ⟨h.1, agree_cat h.2 (by simpa using hl) h2⟩
theorem PB_same {u' : Store} (h : agree (PB p t ++ u).length u u' = true) (hl : u'.length = u.length) : trunc (PB p t ++ u) d (PB p' t ++ u') = PB p' t ++ u' :=
  trunc_mut0 (agree_cat (PB_agree (by rw [List.length_append, PB_len]; omega)) (by rw [PB_len, PB_len]) h) (by rw [List.length_append, List.length_append, PB_len, PB_len, hl])
theorem PB_rest {u' v : Store} (h : agree (PB p t ++ u).length u u' = true) (hl : u'.length = u.length) (hd : D.und (PB p t ++ u).length d = true) : trunc (PB p t ++ u) d (PB p' t ++ u' ++ v) = PB p' t ++ u' :=
  trunc_mut hd (agree_cat (PB_agree (by rw [List.length_append, PB_len]; omega)) (by rw [PB_len, PB_len]) h) (by rw [List.length_append, List.length_append, PB_len, PB_len, hl])
end
theorem ok_mod {g l : List Int} {x y : Int} (h : 0 ≤ x) : Po.ok ⟨g, x, y % 2147483629 + 3, l⟩ :=
  ⟨h, by have := Int.emod_nonneg y (b := 2147483629) (by omega); show (0 : Int) ≤ _ + 3; omega, by have := Int.emod_lt_of_pos y (b := 2147483629) (by omega); show _ + 3 < (2147483648 : Int); omega⟩
def drest : List S := fd_L_draw.body.drop 1
theorem draw_rest {k : Nat} {p q : Po} {t : Store} {many : Int} {Q : KQ} {c2 c3 c4 : Option D} (hv : p.ok) (hm : 0 < many) (hm2 : many < 18446744073709551616)
    (h : ∀ v p', 0 ≤ v → v < many → Po.ok p' → Q (.int v) (PB p' t)) : blk (mx P G fuel k) drest [some (.ref 2), some (.int many), c2, c3, c4] (kEnd' (PB q t) Q) (PB p t) := by
  obtain ⟨h1, h2, h3⟩ := hv
  unfold drest fd_L_draw
  simp only [List.drop_succ_cons, List.drop_zero]
  simp! only [PB_at2, PB_at1, PB_set2, PB_set1, PB_trunc]
  refine br.of (fun ha => ?_) (fun ha => ?_)
  · simp! only [PB_at2, PB_at1, PB_set2, PB_set1, PB_trunc, hm, hm2, divOk]
    refine h _ _ ?_ ?_ ?_
    · exact Int.emod_nonneg _ (by omega)
    · exact Int.emod_lt_of_pos _ hm
    · exact ⟨Int.ediv_nonneg h1 (by omega), h2, h3⟩
  · have hb : 0 ≤ (p.b * 48271 + 11) % 2147483647 := Int.emod_nonneg _ (by omega)
    have hb2 : (p.b * 48271 + 11) % 2147483647 < 2147483647 := Int.emod_lt_of_pos _ (by omega)
    have e : mulOk ((p.b * 48271 + 11) % 2147483647) ((p.b * 48271 + 11) % 2147483647) = true := by
      rw [mulOk_r (by omega) (by omega)]
      trivial
    simp! only [PB_at2, PB_at1, PB_set2, PB_set1, PB_trunc, hm, mulOk_r, e, divOk]
    refine h _ _ ?_ ?_ ?_
    · exact Int.emod_nonneg _ (by omega)
    · exact Int.emod_lt_of_pos _ hm
    · exact ⟨h1, hb, by show (p.b * 48271 + 11) % 2147483647 < _; omega⟩
theorem draw_spec {k : Nat} {p : Po} {t : Store} {many : Int} {Q : KQ} (hv : p.ok) (hm : 0 < many) (hm2 : many < 18446744073709551616)
    (h : ∀ v p', 0 ≤ v → v < many → Po.ok p' → Q (.int v) (PB p' t)) : cl (mx P G fuel (k + 1)) f_L_draw [.ref 2, .int many] Q (PB p t) := by
  refine cl_fd P_L_draw rfl ?_
  have e : fd_L_draw.body = fd_L_draw.body.getD 0 .pass :: drest := rfl
  rw [e, blk_cons]
  unfold fd_L_draw
  simp only [List.getD_cons_zero]
  simp! only [PB_at2, PB_at1, PB_set2, PB_set1, PB_trunc, hm]
  refine br.of (fun ha => ?_) (fun ha => ?_)
  · obtain ⟨pg, pa, pb, pl⟩ := p
    simp only at ha
    subst ha
    have e : eqD (PB ⟨pg, 0, pb, pl⟩ t ++ [Cell.lst []]) (.ref 1) (.ref (t.length + 3)) = some (decide (pl.map D.int = [])) :=
      eqD_lst (l := pl.map .int) (m := []) (isLst_old PB_at1) (by rw [isLst_new0 PB_len]; rfl) pur_ints rfl
    have hd : D.und (PB ⟨pg, 0, pb, pl⟩ t).length .non = true := rfl
    simp! only [PB_at2, PB_at1, PB_set2, PB_set1, PB_trunc, PB_len, e, trunc_new]
    refine br.of (fun hl => ?_) (fun hl => ?_)
    · simp! only [PB_at2]
      exact draw_rest hv hm hm2 h
    · cases pl with
      | nil => exact absurd rfl hl
      | cons c cs =>
        simp! only [PB_at2, PB_at1, List.eraseIdx_cons_zero, PB_set1, PB_set2, PB_trunc]
        refine br.of (fun hc => ?_) (fun hc => ?_)
        · simp! only [PB_at2, PB_at1, PB_set1, PB_set2, PB_trunc, mulOk_l, mulOk_r]
          refine br.of (fun hs => ?_) (fun hs => ?_)
          · simp! only [PB_at2, PB_at1, PB_set1, PB_set2, PB_trunc, mulOk_l, mulOk_r]
            exact draw_rest (ok_mod (by omega)) hm hm2 h
          · simp! only [PB_at2, PB_at1, PB_set1, PB_set2, PB_trunc, mulOk_l, mulOk_r]
            exact draw_rest (ok_mod (by omega)) hm hm2 h
        · simp! only [PB_at2, PB_at1, PB_set1, PB_set2, PB_trunc, mulOk_l, mulOk_r]
          refine br.of (fun hs => ?_) (fun hs => ?_)
          · simp! only [PB_at2, PB_at1, PB_set1, PB_set2, PB_trunc, mulOk_l, mulOk_r]
            exact draw_rest (ok_mod (by omega)) hm hm2 h
          · simp! only [PB_at2, PB_at1, PB_set1, PB_set2, PB_trunc, mulOk_l, mulOk_r]
            exact draw_rest (ok_mod (by omega)) hm hm2 h
  · simp! only [PB_at2, ha]
    exact draw_rest hv hm hm2 h
set_option maxHeartbeats 4000000
def tx (l : List Nat) : D := .str ⟨l.toArray⟩
def asc (l : List Nat) : Prop := ∀ c ∈ l, c < 128
theorem tx_inj {a b : List Nat} (h : tx a = tx b) : a = b := by
  unfold tx at h
  injection h with h
  exact congrArg (fun x : Str => x.cps.toList) h
theorem tx_eq {a b : List Nat} : (tx a = tx b) = (a = b) := propext ⟨tx_inj, fun h => by rw [h]⟩
theorem asc_app {a b : List Nat} (ha : asc a) (hb : asc b) : asc (a ++ b) := fun c hc => (List.mem_append.mp hc).elim (ha c) (hb c)
theorem asc_drop {a : List Nat} {n : Nat} (ha : asc a) : asc (a.drop n) := fun c hc => ha c (List.mem_of_mem_drop hc)
theorem asc_take {a : List Nat} {n : Nat} (ha : asc a) : asc (a.take n) := fun c hc => ha c (List.mem_of_mem_take hc)
theorem tx_strOk {a : List Nat} (h : asc a) : PyData.strOk ⟨a.toArray⟩ = true := by
  unfold PyData.strOk
  rw [List.all_toArray, List.all_eq_true]
  intro c hc
  exact decide_eq_true (Nat.lt_trans (h c hc) (by decide))
theorem pur_tx {a : List Nat} {n : Nat} (h : asc a) : pur (n + 1) (tx a) = true := by
  show PyData.strOk _ = true
  exact tx_strOk h
theorem tx_len {a : List Nat} : (⟨a.toArray⟩ : Str).length = a.length := SX.S_len a
section
variable {s : Store} {Q : KQ} {a b : List Nat}
theorem und_tx {n : Nat} : D.und n (tx a) = true := rfl
theorem opB_tx : opB .Add (tx a) (tx b) Q s = br (a.length + b.length ≤ sizeLine) (tQ (tx (a ++ b)) Q) tF s := by
  unfold tx
  rw [opB_adds, tx_len, tx_len, SX.S_cat]
theorem opB_txx (h : a.length + b.length ≤ 1000000) : opB .Add (tx a) (tx b) Q s = Q (tx (a ++ b)) s := by
  rw [opB_tx]
  unfold br tQ
  rw [if_pos (Nat.le_of_lt (Nat.lt_of_le_of_lt h line_big))]
theorem eqD_tx (ha : asc a) (hb : asc b) : eqD s (tx a) (tx b) = some (decide (a = b)) := by
  rw [eqD_pur (pur_tx ha) (pur_tx hb)]
  exact congrArg some (decide_eq_decide.mpr (by rw [tx_eq]))
theorem meT_tx {m : Me} : meT m s (tx a) = m.isT := meT_str
theorem isi_tx {t : Ty} : isiD s (tx a) t = some (decide (t = .str)) := isi_str
theorem biP_lenTx : biP .len [tx a] Q s = br (a.length ≤ sizeLine) (tQ (.int a.length) Q) tF s := by
  unfold biP br tQ tF
  show WpR (if (⟨a.toArray⟩ : Str).length ≤ sizeLine then .ok (.int (⟨a.toArray⟩ : Str).length) s else .bad) Q = _
  rw [tx_len]
  split <;> rfl
theorem biP_ordTx {c : Nat} : biP .ord [tx [c]] Q s = Q (.int c) s := rfl
theorem walkS_tx : walkS s (tx a) = some ⟨[], a.map fun c => tx [c]⟩ := by
  unfold tx
  rw [walkS_str]
theorem ixD_tx {i c : Nat} (hz : a.length ≤ sizeLine) (h : a[i]? = some c) : ixD s (tx a) (.int (i : Nat)) = some (tx [c]) := by
  show (if (⟨a.toArray⟩ : Str).length ≤ sizeLine then (atD a (i : Nat)).map (fun c => D.str ⟨#[c]⟩) else none) = _
  rw [tx_len, if_pos hz, atD_nat, h]
  rfl
theorem inD_tx {c : Nat} : inD s (tx [c]) (tx a) = some (decide (c ∈ a)) := rfl
theorem slP_tx {lo hi : Option Int} (hz : a.length ≤ sizeLine) : slP (tx a) lo hi Q s = Q (tx ((a.drop (endOf a.length 0 lo)).take (endOf a.length a.length hi - endOf a.length 0 lo))) s := by
  unfold slP
  show WpR (if (⟨a.toArray⟩ : Str).length ≤ sizeLine then _ else _) Q = _
  rw [tx_len, if_pos hz]
  show Q (.str (L2.cutS ⟨a.toArray⟩ lo hi)) s = _
  have e : ∀ (n d : Nat) (o : Option Int), HT.sIx n d o = endOf n d o := fun n d o => by cases o <;> rfl
  unfold L2.cutS tx
  rw [e, e, tx_len]
theorem meP_splitTx (hb : b ≠ []) (hk : b.all (· < 256) = true) (hz : a.length + 2 ≤ sizeLine) (hl : (TL.spl b 0 [] a).length ≤ sizeLine) : meP .split (tx a) [tx b] Q s = Q (.ref s.length) (s ++ [.lst ((TL.spl b 0 [] a).map tx)]) := by
  unfold meP
  show WpR (if (⟨b.toArray⟩ : Str).length ≠ 0 ∧ (⟨a.toArray⟩ : Str).length + 2 ≤ sizeLine then newLst ((Txt.split ⟨a.toArray⟩ ⟨b.toArray⟩).map .str) s else .bad) Q = _
  rw [tx_len, tx_len, if_pos ⟨by cases b; exact absurd rfl hb; simp, hz⟩, show Txt.split ⟨a.toArray⟩ ⟨b.toArray⟩ = _ from SX.split_S hb hk, List.map_map]
  unfold newLst
  rw [if_pos (by rw [List.length_map]; exact hl)]
  rfl
theorem strsOf_tx : ∀ l : List (List Nat), strsOf (l.map tx) = some (l.map fun a => (⟨a.toArray⟩ : Str))
  | [] => rfl
  | a :: l => by
    show (strsOf (l.map tx)).map _ = _
    rw [strsOf_tx l]
    rfl
theorem meP_joinTx {d : D} {l : List (List Nat)} (h : items s d = some (l.map tx)) (hz : (l.map (·.length)).sum + l.length * a.length ≤ 16777216) : meP .join (tx a) [d] Q s = Q (tx (TL.joinL a l)) s := by
  unfold meP
  have e : meD .join (tx a) [d] s = .ok (tx (TL.joinL a l)) s := by
    show (match items s d with
      | some l => (match strsOf l with
        | some ys => if (ys.map (·.length)).sum + ys.length * (⟨a.toArray⟩ : Str).length ≤ 16777216 then .ok (.str (Txt.join ⟨a.toArray⟩ ys)) s else .bad
        | none => .bad)
      | none => .bad : R D) = _
    rw [h]
    dsimp only
    rw [strsOf_tx]
    dsimp only
    have e2 : (l.map fun a => (⟨a.toArray⟩ : Str)).map (·.length) = l.map (·.length) := SX.lens l
    rw [e2, List.length_map, tx_len, if_pos hz]
    have e3 : Txt.join ⟨a.toArray⟩ (l.map fun a => (⟨a.toArray⟩ : Str)) = ⟨(TL.joinL a l).toArray⟩ := SX.join_S a l
    rw [e3]
    rfl
  rw [e]
  rfl
theorem cmpD_leTx : cmpD .LtE s (tx a) (tx b) = some (!decide (b < a)) := rfl
end
def numI (i : Int) : List Nat := if 0 ≤ i then TL.numL i.toNat else 45 :: TL.numL i.natAbs
theorem numI_nat {n : Nat} : numI (n : Nat) = TL.numL n := by
  unfold numI
  rw [if_pos (Int.natCast_nonneg _), Int.toNat_natCast]
theorem str_int {i : Int} : (Str.ofString (toString i)) = ⟨(numI i).toArray⟩ := by
  cases i with
  | ofNat n =>
    have e : numI (Int.ofNat n) = TL.numL n := numI_nat
    rw [e]
    exact SX.num_S n
  | negSucc m =>
    have e : numI (Int.negSucc m) = 45 :: TL.numL (m + 1) := rfl
    rw [e]
    refine TL.ext_tl ?_
    have h := TL.tl_num (m + 1)
    rw [TL.tl_ofString] at h ⊢
    show (("-" ++ toString (m + 1) : String).toList.map Char.toNat) = 45 :: TL.numL (m + 1)
    rw [← h, String.toList_append, List.map_append]
    rfl
theorem biP_strInt {i : Int} {s : Store} {Q : KQ} (h : i.natAbs < 2 ^ 64) : biP .str [.int i] Q s = Q (tx (numI i)) s := by
  have hl : i.natAbs.log2 < 1920 := by
    by_cases c : i.natAbs = 0
    · rw [c]; decide
    · exact Nat.lt_trans ((Nat.log2_lt c).mpr h) (by decide)
  unfold biP
  show WpR (if i.natAbs.log2 < 1920 then .ok (.str (Str.ofString (toString i))) s else .bad) Q = _
  rw [if_pos hl, str_int]
  rfl
theorem biP_intTx {a : List Nat} {s : Store} {Q : KQ} (h : a.all (fun c => decide (48 ≤ c) && decide (c ≤ 57)) = true) (hne : a ≠ []) (hl : a.length ≤ 640) : biP .int [tx a] Q s = Q (.int (NumText.digitsVal a : Nat)) s := by
  unfold biP
  show WpR (match intText? ⟨a.toArray⟩ with
    | some n => if (⟨a.toArray⟩ : Str).length ≤ 640 then .ok (.int n) s else .bad
    | none => .bad) Q = _
  rw [show intText? ⟨a.toArray⟩ = _ from SX.int_S h hne (by omega)]
  show WpR (if (⟨a.toArray⟩ : Str).length ≤ 640 then .ok (.int _) s else .bad) Q = _
  rw [tx_len, if_pos hl]
  rfl
def zpad (n : Nat) (a : List Nat) : List Nat := List.replicate (n - a.length) 48 ++ a
theorem meP_zfillTx {a : List Nat} {s : Store} {Q : KQ} (h : ∀ c ∈ a, 48 ≤ c) : meP .zfill (tx a) [.int 6] Q s = Q (tx (zpad 6 a)) s := by
  have e : Txt.zfill ⟨a.toArray⟩ 6 = ⟨(zpad 6 a).toArray⟩ := by
    unfold Txt.zfill zpad
    rw [tx_len]
    by_cases c : (6 : Int) ≤ a.length
    · rw [if_pos c, show 6 - a.length = 0 from by omega]
      rfl
    · rw [if_neg c]
      have ez : (6 : Int).toNat - a.length = 6 - a.length := rfl
      rw [ez]
      unfold zfilled
      have go : PySem.Builtin.Str.padded (⟨a.toArray⟩ : Str) (6 - a.length) 0 48 = ⟨(List.replicate (6 - a.length) 48 ++ a).toArray⟩ := by
        refine TL.ext_tl ?_
        show ((Array.replicate (6 - a.length) 48 ++ a.toArray ++ Array.replicate 0 48) : Array Nat).toList = _
        rw [Array.toList_append, Array.toList_append, Array.toList_replicate, Array.toList_replicate]
        simp
      cases a with
      | nil => exact go
      | cons x l =>
        have hx := h x List.mem_cons_self
        show (match (some x : Option Nat) with
          | some 43 | some 45 => _
          | _ => _ : Str) = _
        split
        · rename_i q; injection q with q; omega
        · rename_i q; injection q with q; omega
        · exact go
  unfold meP
  show WpR (if PadOk 6 then .ok (.str (Txt.zfill ⟨a.toArray⟩ 6)) s else .bad) Q = _
  rw [if_pos (by decide), e]
  rfl
set_option maxHeartbeats 4000000
theorem asc_lit {l : List Nat} (h : l.all (· < 128) = true) : asc l := fun c hc => of_decide_eq_true (List.all_eq_true.mp h c hc)
theorem for_tx {X : Mx} {t : List Nat} {ρ : Env} {s : Store} {E : En} {tg : Tg} {p : List WL.S} (I : List Nat → List Nat → Env → Store → Prop) (h0 : I [] t ρ s)
    (ht : ∀ dn c l ρ s, dn ++ c :: l = t → I dn (c :: l) ρ s → asg X tg (tx [c]) ρ (kBody X p { nx := fun ρ s => I (dn ++ [c]) l ρ s, ct := fun ρ s => I (dn ++ [c]) l ρ s, bk := E.nx, rt := E.rt }) s)
    (he : ∀ ρ s, I t [] ρ s → E.nx ρ s) : forP X tg p ⟨[], t.map fun c => tx [c]⟩ (t.map fun c => tx [c]) ρ E s :=
  for_map (fun c => tx [c]) I (fun _ _ _ _ _ => stays_nil) h0 ht he
def cKey : List Nat := [97, 98, 99, 100, 101, 102, 103, 104, 105, 106, 107, 108, 109, 110, 111, 112, 113, 114, 115, 116, 117, 118, 119, 120, 121, 122, 48, 49, 50, 51, 52, 53, 54, 55, 56, 57, 46]
theorem lit_key : D.str (Str.ofString "abcdefghijklmnopqrstuvwxyz0123456789.") = tx cKey := by kernel_rfl
def keyB (t : List Nat) : Bool := decide (1 ≤ t.length) && decide (t.length ≤ 12) && t.all fun c => decide (c ∈ cKey)
set_option maxHeartbeats 4000000
mutual
def plain : D → Bool
  | .non => true
  | .bl _ => true
  | .int _ => true
  | .str x => decide (x.length ≤ 100000)
  | .tup l => plains l
  | _ => false
def plains : List D → Bool
  | [] => true
  | d :: l => plain d && plains l
end
theorem plains_iff : ∀ {l : List D}, plains l = true ↔ ∀ d ∈ l, plain d = true
  | [] => by simp [plains]
  | d :: l => by simp [plains, plains_iff (l := l)]
theorem plain_tup {l : List D} : plain (.tup l) = plains l := rfl
theorem plain_tx {t : List Nat} : plain (tx t) = decide (t.length ≤ 100000) := by
  show decide ((⟨t.toArray⟩ : Str).length ≤ 100000) = _
  rw [tx_len]
def codes : D → List Nat
  | .str x => x.cps.toList
  | _ => []
theorem codes_tx {t : List Nat} : codes (tx t) = t := rfl
theorem str_tx (x : Str) : D.str x = tx x.cps.toList := rfl
def wholeB : D → Bool
  | .int _ => true
  | _ => false
def numB : D → Bool
  | .int i => decide (-1000000000000 ≤ i) && decide (i ≤ 1000000000000)
  | _ => false
def keyO : D → Bool
  | .str x => keyB x.cps.toList
  | _ => false
def valO : D → Bool
  | .tup l => decide (1 ≤ l.length) && decide (l.length ≤ 4) && l.all numB
  | _ => false
theorem valO_tup {l : List D} : valO (.tup l) = (decide (1 ≤ l.length) && decide (l.length ≤ 4) && l.all numB) := rfl
def rowO : D → Bool
  | .tup [a, b] => keyO a && valO b
  | _ => false
theorem rowO_two {a b : D} : rowO (.tup [a, b]) = (keyO a && valO b) := rfl
def rowKey : D → List Nat
  | .tup (a :: _) => codes a
  | _ => []
def rwGo : Option (List Nat) → Nat → List D → Option Nat
  | _, _, [] => none
  | p, i, r :: rs => if rowO r = false then some i else match p with
    | some q => if q < rowKey r then rwGo (some (rowKey r)) (i + 1) rs else some i
    | none => rwGo (some (rowKey r)) (i + 1) rs
inductive RwR where
  | ok | bad (i : Int) | many (n : Nat)
def rowsR : D → RwR
  | .tup l => if 12 < l.length then .many l.length else match rwGo none 0 l with
    | some i => .bad i
    | none => .ok
  | _ => .bad (-1)
def rowsO (d : D) : Bool := match rowsR d with
  | .ok => true
  | _ => false
section
variable {k : Nat} {d : D} {s : Store} {Q : KQ}
theorem whole_spec (hp : plain d = true) (h : Q (.bl (wholeB d)) s) : cl (mx P G fuel (k + 1)) f_is_whole [d] Q s := by
  refine cl_fd P_is_whole rfl ?_
  unfold fd_is_whole
  cases d with
  | non => simp! only []; exact h
  | bl b => simp! only []; exact h
  | int i => simp! only []; exact h
  | str x => simp! only []; exact h
  | tup l => simp! only []; exact h
  | _ => cases hp
theorem row_of {r : D} (h : rowO r = true) : ∃ x v, r = .tup [.str x, v] ∧ keyB x.cps.toList = true ∧ valO v = true := by
  cases r with
  | tup l =>
    match l, h with
    | [], h => cases h
    | [a], h => cases h
    | a :: b :: c :: r, h => cases h
    | [a, b], h =>
      rw [rowO_two, Bool.and_eq_true] at h
      cases a with
      | str x => exact ⟨x, b, rfl, h.1, h.2⟩
      | _ => cases h.1
  | _ => cases h
theorem rwGo_cons {p : Option (List Nat)} {i : Nat} {r : D} {rs : List D} : rwGo p i (r :: rs) = if rowO r = false then some i else match p with
    | some q => if q < rowKey r then rwGo (some (rowKey r)) (i + 1) rs else some i
    | none => rwGo (some (rowKey r)) (i + 1) rs := rfl
def prevK (l : List D) : Nat → Option (List Nat)
  | 0 => none
  | j + 1 => (l[j]?).map rowKey
end
set_option maxHeartbeats 4000000
inductive Kd where
  | page | other | key | newkey | low | high | place | by_ | sign | value | newvalue | rows | newrows
  deriving DecidableEq
def Kd.nm : Kd → Str
  | .page => "page"
  | .other => "other page"
  | .key => "key"
  | .newkey => "new key"
  | .low => "low"
  | .high => "high"
  | .place => "place"
  | .by_ => "by"
  | .sign => "sign"
  | .value => "value"
  | .newvalue => "new value"
  | .rows => "rows"
  | .newrows => "new rows"
def pageO : D → Bool
  | .int i => decide (0 ≤ i) && decide (i < 32)
  | _ => false
def boundO : D → Bool
  | .non => true
  | d => keyO d
def placeO : D → Bool
  | .int i => decide (0 ≤ i) && decide (i ≤ 3)
  | _ => false
def byO : D → Bool
  | .int i => decide (i ≠ 0) && (decide (-2000000000000 ≤ i) && decide (i ≤ 2000000000000))
  | _ => false
def signO : D → Bool
  | .int i => decide (i = 1) || decide (i = -1)
  | _ => false
def optO (d : D) : Bool := decide (d = .non) || valO d
def partO : Kd → D → D → D → Bool
  | .page, d, _, _ => pageO d
  | .other, d, _, p => pageO d && decide (d ≠ p)
  | .key, d, _, _ => keyO d
  | .newkey, d, a, _ => keyO d && decide (d ≠ a)
  | .low, d, _, _ => boundO d
  | .high, d, a, _ => boundO d && (decide (d = .non) || (decide (a = .non) || decide (codes a < codes d)))
  | .place, d, _, _ => placeO d
  | .by_, d, _, _ => byO d
  | .sign, d, _, _ => signO d
  | .value, d, _, _ => optO d
  | .newvalue, d, a, _ => optO d && decide (d ≠ a)
  | .rows, d, _, _ => rowsO d
  | .newrows, d, a, _ => rowsO d && decide (d ≠ a)
def partPre : Kd → D → D → Prop
  | .other, _, p => pageO p = true
  | .newkey, a, _ => keyO a = true
  | .high, a, _ => boundO a = true
  | .newvalue, a, _ => optO a = true
  | .newrows, a, _ => rowsO a = true
  | _, _, _ => True
theorem key_pur {d : D} {n : Nat} (h : keyO d = true) : pur (n + 1) d = true := by
  cases d with
  | str x =>
    have h : keyB x.cps.toList = true := h
    unfold keyB at h
    simp only [Bool.and_eq_true, List.all_eq_true, decide_eq_true_eq] at h
    exact pur_tx (a := x.cps.toList) fun c hc => by
      have := h.2 c hc
      revert this c
      unfold cKey
      simp
      omega
  | _ => cases h
theorem num_pur {d : D} {n : Nat} (h : numB d = true) : pur n d = true := by
  cases d with
  | int i => cases n <;> rfl
  | _ => cases h
theorem val_pur {d : D} {n : Nat} (h : valO d = true) : pur (n + 1) d = true := by
  cases d with
  | tup l =>
    rw [valO_tup, Bool.and_eq_true, List.all_eq_true] at h
    show l.all (pur n) = true
    rw [List.all_eq_true]
    exact fun x hx => num_pur (h.2 x hx)
  | _ => cases h
theorem opt_pur {d : D} {n : Nat} (h : optO d = true) : pur (n + 1) d = true := by
  unfold optO at h
  rw [Bool.or_eq_true, decide_eq_true_eq] at h
  rcases h with rfl | h
  · rfl
  · exact val_pur h
theorem row_pur {d : D} {n : Nat} (h : rowO d = true) : pur (n + 2) d = true := by
  obtain ⟨x, v, rfl, hk, hv⟩ := row_of h
  show ([D.str x, v].all (pur (n + 1))) = true
  rw [List.all_cons, List.all_cons, List.all_nil, key_pur (n := n) (d := .str x) hk, val_pur hv]
  rfl
theorem rwGo_all : ∀ {l : List D} {p : Option (List Nat)} {i : Nat}, rwGo p i l = none → ∀ r ∈ l, rowO r = true
  | [], _, _, _, r, hr => nomatch hr
  | a :: l, p, i, h, r, hr => by
    rw [rwGo_cons] at h
    have ha : rowO a = true := by
      cases e : rowO a with
      | true => rfl
      | false => rw [if_pos e] at h; cases h
    rw [if_neg (by rw [ha]; decide)] at h
    rcases List.mem_cons.mp hr with rfl | hr
    · exact ha
    · split at h
      · split at h
        · exact rwGo_all h r hr
        · cases h
      · exact rwGo_all h r hr
theorem rowsO_tup {l : List D} : rowsO (.tup l) = (decide (l.length ≤ 12) && decide (rwGo none 0 l = none)) := by
  unfold rowsO rowsR
  dsimp only
  by_cases c : 12 < l.length
  · rw [if_pos c]
    simp; omega
  · rw [if_neg c]
    cases rwGo none 0 l with
    | none => simp; omega
    | some i => simp
theorem rows_pur {d : D} {n : Nat} (h : rowsO d = true) : pur (n + 3) d = true := by
  cases d with
  | tup l =>
    rw [rowsO_tup, Bool.and_eq_true, decide_eq_true_eq, decide_eq_true_eq] at h
    show l.all (pur (n + 2)) = true
    rw [List.all_eq_true]
    exact fun x hx => row_pur (rwGo_all h.2 x hx)
  | _ => cases h
theorem page_of {d : D} (h : pageO d = true) : ∃ i : Int, d = .int i ∧ 0 ≤ i ∧ i < 32 := by
  cases d with
  | int i =>
    unfold pageO at h
    rw [Bool.and_eq_true, decide_eq_true_eq, decide_eq_true_eq] at h
    exact ⟨i, rfl, h.1, h.2⟩
  | _ => cases h
theorem bound_of {d : D} (h : boundO d = true) : d = .non ∨ ∃ x, d = .str x ∧ keyO (.str x) = true := by
  cases d with
  | non => exact .inl rfl
  | str x => exact .inr ⟨x, rfl, h⟩
  | _ => cases h
section
variable {k : Nat} {d a p : D} {s : Store} {Q : KQ}
end
set_option maxHeartbeats 4000000
abbrev partsG : D := .gd ["put", "bump", "rename", "take", "drop", "add", "tally", "carry"] [.tup [.str "page", .str "key", .str "value", .str "new value"], .tup [.str "page", .str "key", .str "place", .str "by"], .tup [.str "page", .str "key", .str "new key"], .tup [.str "page", .str "other page", .str "low", .str "high"], .tup [.str "page", .str "other page", .str "low", .str "high"], .tup [.str "page", .str "key", .str "place", .str "other page", .str "key", .str "place", .str "sign"], .tup [.str "page", .str "key", .str "place", .str "other page", .str "low", .str "high", .str "place", .str "sign"], .tup [.str "page", .str "rows", .str "new rows"]]
def kindsOf (w : Str) : Option (List Kd) :=
  if w = "put" then some [.page, .key, .value, .newvalue]
  else if w = "bump" then some [.page, .key, .place, .by_]
  else if w = "rename" then some [.page, .key, .newkey]
  else if w = "take" then some [.page, .other, .low, .high]
  else if w = "drop" then some [.page, .other, .low, .high]
  else if w = "add" then some [.page, .key, .place, .other, .key, .place, .sign]
  else if w = "tally" then some [.page, .key, .place, .other, .low, .high, .place, .sign]
  else if w = "carry" then some [.page, .rows, .newrows]
  else none
def kdT (ks : List Kd) : D := .tup (ks.map fun k => .str k.nm)
theorem look_parts (w : Str) (s : Store) : lookD s partsG (.str w) = some ((kindsOf w).map kdT) := by
  unfold kindsOf
  show some (valD _ w) = _
  congr 1
  simp only [List.zip_cons_cons, List.zip_nil_right, valD, List.find?_cons, List.find?_nil, eq_comm (b := w)]
  by_cases h1 : w = "put"
  · subst h1; kernel_rfl
  rw [decide_eq_false h1, if_neg h1]
  by_cases h2 : w = "bump"
  · subst h2; kernel_rfl
  rw [decide_eq_false h2, if_neg h2]
  by_cases h3 : w = "rename"
  · subst h3; kernel_rfl
  rw [decide_eq_false h3, if_neg h3]
  by_cases h4 : w = "take"
  · subst h4; kernel_rfl
  rw [decide_eq_false h4, if_neg h4]
  by_cases h5 : w = "drop"
  · subst h5; kernel_rfl
  rw [decide_eq_false h5, if_neg h5]
  by_cases h6 : w = "add"
  · subst h6; kernel_rfl
  rw [decide_eq_false h6, if_neg h6]
  by_cases h7 : w = "tally"
  · subst h7; kernel_rfl
  rw [decide_eq_false h7, if_neg h7]
  by_cases h8 : w = "carry"
  · subst h8; kernel_rfl
  rw [decide_eq_false h8, if_neg h8]
  rfl
def prec (l : List Kd) : Kd → Bool
  | .newkey => decide (l.getLast? = some .key)
  | .high => decide (l.getLast? = some .low)
  | .newvalue => decide (l.getLast? = some .value)
  | .newrows => decide (l.getLast? = some .rows)
  | .other => decide (l.head? = some .page)
  | _ => true
def precAll : List Kd → List Kd → Bool
  | _, [] => true
  | dn, k :: ks => prec dn k && precAll (dn ++ [k]) ks
theorem kinds_prec {w : Str} {ks : List Kd} (h : kindsOf w = some ks) : precAll [] ks = true ∧ ks ≠ [] ∧ ks.length ≤ 8 := by
  unfold kindsOf at h
  by_cases h1 : w = "put"
  · rw [if_pos h1] at h; cases h; exact ⟨rfl, by simp, by decide⟩
  rw [if_neg h1] at h
  by_cases h2 : w = "bump"
  · rw [if_pos h2] at h; cases h; exact ⟨rfl, by simp, by decide⟩
  rw [if_neg h2] at h
  by_cases h3 : w = "rename"
  · rw [if_pos h3] at h; cases h; exact ⟨rfl, by simp, by decide⟩
  rw [if_neg h3] at h
  by_cases h4 : w = "take"
  · rw [if_pos h4] at h; cases h; exact ⟨rfl, by simp, by decide⟩
  rw [if_neg h4] at h
  by_cases h5 : w = "drop"
  · rw [if_pos h5] at h; cases h; exact ⟨rfl, by simp, by decide⟩
  rw [if_neg h5] at h
  by_cases h6 : w = "add"
  · rw [if_pos h6] at h; cases h; exact ⟨rfl, by simp, by decide⟩
  rw [if_neg h6] at h
  by_cases h7 : w = "tally"
  · rw [if_pos h7] at h; cases h; exact ⟨rfl, by simp, by decide⟩
  rw [if_neg h7] at h
  by_cases h8 : w = "carry"
  · rw [if_pos h8] at h; cases h; exact ⟨rfl, by simp, by decide⟩
  rw [if_neg h8] at h
  cases h
def fwGo (pg : D) : List Kd → List D → Nat → Option Nat
  | k :: ks, a :: b :: r, i => if partO k b a pg then fwGo pg ks (b :: r) (i + 1) else some (i + 1)
  | _, _, _ => none
def fwO : D → Option Nat
  | .tup (.str w :: r) => match kindsOf w with
    | some ks => if r.length = ks.length then fwGo (r.headD .non) ks (.str w :: r) 0 else some 0
    | none => some 0
  | _ => some 0
theorem fwO_str {w : Str} {r : List D} : fwO (.tup (.str w :: r)) = match kindsOf w with
    | some ks => if r.length = ks.length then fwGo (r.headD .non) ks (.str w :: r) 0 else some 0
    | none => some 0 := rfl
def optN : Option Nat → D
  | some n => .int (n : Nat)
  | none => .non
def deedO (d : D) : Bool := decide (fwO d = none)
def rightP (pg : D) : List Kd → List D → Prop
  | [], _ => True
  | k :: ks, a :: b :: r => partO k b a pg = true ∧ rightP pg ks (b :: r)
  | _ :: _, _ => False
theorem rightP_app {pg : D} : ∀ {dn : List Kd} {k : Kd} {L : List D}, rightP pg dn L → (∀ a b, L[dn.length]? = some a → L[dn.length + 1]? = some b → partO k b a pg = true) → dn.length + 1 < L.length → rightP pg (dn ++ [k]) L
  | [], k, L, _, h, hl => by
    match L, hl with
    | a :: b :: r, _ => exact ⟨h a b rfl rfl, trivial⟩
  | d :: dn, k, L, h0, h, hl => by
    match L, h0, hl with
    | a :: b :: r, h0, hl => exact ⟨h0.1, rightP_app h0.2 (fun x y hx hy => h x y hx hy) (by simpa using hl)⟩
    | [], h0, hl => exact h0.elim
    | [a], h0, hl => exact h0.elim
theorem rightP_last {pg : D} : ∀ {dn : List Kd} {k : Kd} {L : List D}, rightP pg dn L → dn.getLast? = some k → ∃ a b, L[dn.length - 1]? = some a ∧ L[dn.length]? = some b ∧ partO k b a pg = true
  | [d], k, L, h, e => by
    cases e
    match L, h with
    | a :: b :: r, h => exact ⟨a, b, rfl, rfl, h.1⟩
  | d :: d2 :: dn, k, L, h, e => by
    match L, h with
    | a :: b :: r, h =>
      obtain ⟨x, y, h1, h2, h3⟩ := rightP_last (dn := d2 :: dn) h.2 (by simpa using e)
      exact ⟨x, y, h1, h2, h3⟩
theorem prec_pre {pg a : D} {dn : List Kd} {k : Kd} {L : List D} (h : rightP pg dn L) (hp : prec dn k = true) (hg : L[1]? = some pg) (ha : L[dn.length]? = some a) : partPre k a pg := by
  have last : ∀ k', dn.getLast? = some k' → ∃ a', partO k' a a' pg = true := fun k' e => by
    obtain ⟨x, y, h1, h2, h3⟩ := rightP_last h e
    rw [ha] at h2
    cases h2
    exact ⟨x, h3⟩
  cases k with
  | newkey =>
    obtain ⟨x, hx⟩ := last _ (of_decide_eq_true hp)
    exact hx
  | high =>
    obtain ⟨x, hx⟩ := last _ (of_decide_eq_true hp)
    exact hx
  | newvalue =>
    obtain ⟨x, hx⟩ := last _ (of_decide_eq_true hp)
    exact hx
  | newrows =>
    obtain ⟨x, hx⟩ := last _ (of_decide_eq_true hp)
    exact hx
  | other =>
    have e : dn.head? = some .page := of_decide_eq_true hp
    match dn, e, L, h with
    | d :: dn, e, x :: y :: r, h =>
      cases e
      cases hg
      exact h.1
  | _ => trivial
section
variable {k : Nat} {d : D} {s : Store} {Q : KQ}
end
set_option maxHeartbeats 4000000
theorem fold_rep {c : Nat} : ∀ {n : Nat} {a : Array Nat}, (List.replicate n #[c]).foldl (· ++ ·) a = a ++ (List.replicate n c).toArray
  | 0, a => by simp
  | n + 1, a => by
    rw [List.replicate_succ, List.foldl_cons, fold_rep, List.replicate_succ]
    apply Array.toList_inj.mp
    simp
theorem mul_one {c n : Nat} : Txt.mul ⟨#[c]⟩ (n : Int) = ⟨(List.replicate n c).toArray⟩ := by
  unfold Txt.mul
  by_cases h0 : n = 0
  · subst h0
    rfl
  · rw [if_neg (by omega)]
    by_cases h1 : n = 1
    · subst h1
      rfl
    · have e : (((n : Int) == 1) || (({ cps := #[c] } : Str).length == 0)) = false := by
        have : ((n : Int) == 1) = false := beq_false_of_ne (by omega)
        rw [this]
        rfl
      rw [if_neg (by rw [e]; decide), Int.toNat_natCast, fold_rep]
      simp
theorem binop_mulS {x : Str} {k : Int} {s : Store} : binop .Mult (.str x) (.int k) s = if mulSOk x k = true then .ok (.str (Txt.mul x k)) s else .bad := rfl
theorem mulS1_ok {x : Str} {n : Nat} (hx : x.length = 1) (h : n ≤ 1000) : mulSOk x (n : Nat) = true := by
  unfold mulSOk
  rw [hx]
  have := line_big
  simp only [Bool.and_eq_true, decide_eq_true_eq, Int.toNat_natCast]
  omega
theorem opB_mulTx {c n : Nat} {s : Store} {Q : KQ} (h : n ≤ 1000) : opB .Mult (tx [c]) (.int (n : Nat)) Q s = Q (tx (List.replicate n c)) s := by
  have e : binop .Mult (tx [c]) (.int (n : Nat)) s = .ok (tx (List.replicate n c)) s := by
    have ex : tx [c] = D.str ⟨#[c]⟩ := rfl
    rw [ex, binop_mulS, if_pos (mulS1_ok rfl h), mul_one]
    rfl
  unfold opB
  rw [e]
  rfl
abbrev Ct := List (List Nat × D)
def ctL (m : Ct) : List (L2.Key × D) := m.map fun r => (.inr ⟨r.1.toArray⟩, r.2)
structure CtOk (m : Ct) : Prop where
  nd : (m.map Prod.fst).Nodup
  ok : ∀ r ∈ m, keyB r.1 = true ∧ valO r.2 = true
theorem key_inj {a b : List Nat} : ((Sum.inr ⟨a.toArray⟩ : L2.Key) = .inr ⟨b.toArray⟩) = (a = b) := propext ⟨fun h => by
  injection h with h
  exact congrArg (fun x : Str => x.cps.toList) h, fun h => by rw [h]⟩
theorem valD_ct {m : Ct} {k : List Nat} : valD (ctL m) (.inr ⟨k.toArray⟩) = valD m k := by
  unfold valD ctL
  induction m with
  | nil => rfl
  | cons r m ih =>
    rw [List.map_cons, List.find?_cons, List.find?_cons]
    by_cases h : r.1 = k
    · rw [decide_eq_true (by rw [key_inj]; exact h), decide_eq_true h]
      rfl
    · rw [decide_eq_false (by rw [key_inj]; exact h), decide_eq_false h]
      exact ih
theorem any_ct {m : Ct} {k : List Nat} : ((ctL m).any fun p => decide (p.1 = (.inr ⟨k.toArray⟩ : L2.Key))) = m.any fun p => decide (p.1 = k) := by
  unfold ctL
  rw [List.any_map]
  congr 1
  funext r
  show decide _ = decide _
  congr 1
  exact key_inj
theorem putD_ct {m : Ct} {k : List Nat} {v : D} : putD (ctL m) (.inr ⟨k.toArray⟩) v = ctL (putD m k v) := by
  unfold putD
  rw [any_ct]
  split
  · unfold ctL
    rw [List.map_map, List.map_map]
    refine List.map_congr_left fun r _ => ?_
    show (if _ then _ else _) = _
    by_cases h : r.1 = k
    · rw [if_pos (by show Sum.inr _ = _; rw [key_inj]; exact h)]
      simp [h]
    · rw [if_neg (by show ¬ Sum.inr _ = _; rw [key_inj]; exact h)]
      simp [h]
  · unfold ctL
    rw [List.map_append]
    rfl
theorem put_ok {m : Ct} {k : List Nat} {v : D} (h : CtOk m) (hk : keyB k = true) (hv : valO v = true) : CtOk (putD m k v) := by
  unfold putD
  by_cases c : (m.any fun p => decide (p.1 = k)) = true
  · rw [if_pos c]
    have e : (m.map fun p => if p.1 = k then (p.1, v) else p).map Prod.fst = m.map Prod.fst := by
      rw [List.map_map]
      refine List.map_congr_left fun r _ => ?_
      show Prod.fst (if _ then _ else _) = _
      split <;> rfl
    refine ⟨by rw [e]; exact h.nd, fun r hr => ?_⟩
    obtain ⟨q, hq, rfl⟩ := List.mem_map.mp hr
    split
    · exact ⟨(h.ok q hq).1, hv⟩
    · exact h.ok q hq
  · rw [if_neg c]
    refine ⟨?_, fun r hr => ?_⟩
    · rw [List.map_append, List.nodup_append]
      refine ⟨h.nd, by simp, fun a ha b hb => ?_⟩
      obtain ⟨q, hq, rfl⟩ := List.mem_map.mp ha
      simp at hb
      subst hb
      intro e
      exact c (List.any_eq_true.mpr ⟨q, hq, decide_eq_true e⟩)
    · rcases List.mem_append.mp hr with hr | hr
      · exact h.ok r hr
      · rw [List.mem_singleton.mp hr]
        exact ⟨hk, hv⟩
theorem put_len {m : Ct} {k : List Nat} {v : D} : (putD m k v).length ≤ m.length + 1 := by
  unfold putD
  split
  · rw [List.length_map]; omega
  · rw [List.length_append]; simp
theorem val_ok {m : Ct} {k : List Nat} {v : D} (h : CtOk m) (e : valD m k = some v) : valO v = true := by
  unfold valD at e
  cases hf : m.find? fun p => decide (p.1 = k) with
  | none => rw [hf] at e; cases e
  | some r =>
    rw [hf] at e
    cases e
    exact (h.ok r (List.mem_of_find?_eq_some hf)).2
abbrev tbs0 : TBS := ⟨[], fun _ _ _ => False, fun _ _ _ => False, fun _ _ => False, fun _ _ => False⟩
abbrev clo0 : @CLO tbs0 := @CLO.mk tbs0 [] (fun _ _ _ _ _ => False) (fun _ _ z => z)
def sortK (l : List (List Nat)) : List (List Nat) := (sortS (l.map fun a : List Nat => (⟨a.toArray⟩ : Str))).map fun x => x.cps.toList
theorem sortK_perm {l : List (List Nat)} : (sortK l).Perm l := by
  unfold sortK
  have h := (@sort_perm tbs0 clo0 (l.map fun a : List Nat => (⟨a.toArray⟩ : Str))).map (fun x : Str => x.cps.toList)
  rw [List.map_map] at h
  have e : l.map ((fun x : Str => x.cps.toList) ∘ fun a : List Nat => (⟨a.toArray⟩ : Str)) = l := by
    conv => rhs; rw [← List.map_id l]
    exact List.map_congr_left fun a _ => rfl
  rw [e] at h
  exact h
theorem sortK_pair {l : List (List Nat)} : (sortK l).Pairwise fun a b => ¬ b < a := by
  unfold sortK
  rw [List.pairwise_map]
  exact @sort_pair tbs0 clo0 _
theorem sortK_tx {l : List (List Nat)} : (sortS (l.map fun a : List Nat => (⟨a.toArray⟩ : Str))).map D.str = (sortK l).map tx := by
  unfold sortK
  rw [List.map_map]
  rfl
theorem keysS_ct : ∀ {m : Ct}, keysS (ctL m) = some (m.map fun r => (⟨r.1.toArray⟩ : Str))
  | [] => rfl
  | r :: m => by
    show (keysS (ctL m)).map _ = _
    rw [keysS_ct]
    rfl
theorem biP_sortD {s : Store} {n : Nat} {m : Ct} {Q : KQ} (h : isDct s n = some (ctL m)) (hl : m.length < 64) : biP .sorted [.ref n] Q s = Q (.ref s.length) (s ++ [.lst ((sortK (m.map Prod.fst)).map tx)]) := by
  have hn : isLst s n = none := by
    cases e : isLst s n with
    | none => rfl
    | some l => rw [isDct_lst e] at h; cases h
  have e : biD .sorted [.ref n] s = .ok (.ref s.length) (s ++ [.lst ((sortK (m.map Prod.fst)).map tx)]) := by
    unfold biD
    simp only [hn, h, keysS_ct]
    rw [if_pos (by rw [List.length_map]; exact hl), newLst]
    have el : (m.map fun r => (⟨r.1.toArray⟩ : Str)) = (m.map Prod.fst).map fun a : List Nat => (⟨a.toArray⟩ : Str) := by rw [List.map_map]; rfl
    rw [el, sortK_tx, if_pos]
    rw [List.length_map, (sortK_perm).length_eq, List.length_map]
    have := line_big
    omega
  unfold biP
  rw [e]
  rfl
theorem strsOf_txs : ∀ {l : List (List Nat)}, strsOf (l.map tx) = some (l.map fun a : List Nat => (⟨a.toArray⟩ : Str)) := fun {l} => strsOf_tx l
theorem biP_sortL {s : Store} {n : Nat} {l : List (List Nat)} {Q : KQ} (h : isLst s n = some (l.map tx)) (hl : l.length < 64) : biP .sorted [.ref n] Q s = Q (.ref s.length) (s ++ [.lst ((sortK l).map tx)]) := by
  have e : biD .sorted [.ref n] s = .ok (.ref s.length) (s ++ [.lst ((sortK l).map tx)]) := by
    unfold biD
    simp only [h, strsOf_txs]
    rw [if_pos (by rw [List.length_map]; exact hl), newLst, sortK_tx, if_pos]
    rw [List.length_map, (sortK_perm).length_eq]
    have := line_big
    omega
  unfold biP
  rw [e]
  rfl
def rowsC (m : Ct) : List D := (sortK (m.map Prod.fst)).map fun k => .tup [tx k, (valD m k).getD .non]
theorem valD_mem {m : Ct} {k : List Nat} (h : k ∈ m.map Prod.fst) : ∃ v, valD m k = some v := by
  obtain ⟨r, hr, rfl⟩ := List.mem_map.mp h
  unfold valD
  cases hf : m.find? fun p => decide (p.1 = r.1) with
  | none =>
    have := List.find?_eq_none.mp hf r hr
    simp at this
  | some q => exact ⟨_, rfl⟩
theorem lt_of_nlt {a b : List Nat} (h : ¬ b < a) (hn : a ≠ b) : a < b := by
  by_cases h1 : a < b
  · exact h1
  · have e1 : (⟨a.toArray⟩ : Str) = ⟨b.toArray⟩ := @leS_anti tbs0 clo0 ⟨a.toArray⟩ ⟨b.toArray⟩ h h1
    exact absurd (congrArg (fun x : Str => x.cps.toList) e1) hn
theorem rwGo_asc {f : List Nat → D} (hf : ∀ k, rowKey (f k) = k) : ∀ {l : List (List Nat)} {p : Option (List Nat)} {i : Nat}, (∀ k ∈ l, rowO (f k) = true) → l.Pairwise (· < ·) → (∀ q, p = some q → ∀ k ∈ l, q < k) → rwGo p i (l.map f) = none
  | [], _, _, _, _, _ => rfl
  | k :: l, p, i, h1, h2, h3 => by
    rw [List.map_cons, rwGo_cons, if_neg (by rw [h1 k (by simp)]; decide), hf]
    obtain ⟨g1, g2⟩ := List.pairwise_cons.mp h2
    have ih := rwGo_asc hf (l := l) (p := some k) (i := i + 1) (fun x hx => h1 x (List.mem_cons_of_mem _ hx)) g2 (fun q e x hx => by cases e; exact g1 x hx)
    cases p with
    | none => exact ih
    | some q =>
      show (if q < k then _ else _) = _
      rw [if_pos (h3 q rfl k (by simp))]
      exact ih
theorem rowsC_ok {m : Ct} (h : CtOk m) (hl : m.length ≤ 12) : rowsO (.tup (rowsC m)) = true := by
  rw [rowsO_tup]
  unfold rowsC
  have hm : ∀ k ∈ sortK (m.map Prod.fst), k ∈ m.map Prod.fst := fun k hk => sortK_perm.mem_iff.mp hk
  have h1 : ∀ k ∈ sortK (m.map Prod.fst), rowO (.tup [tx k, (valD m k).getD .non]) = true := fun k hk => by
    have hk := hm k hk
    obtain ⟨v, hv⟩ := valD_mem hk
    rw [hv, rowO_two]
    obtain ⟨r, hr, rfl⟩ := List.mem_map.mp hk
    rw [Bool.and_eq_true]
    exact ⟨(h.ok r hr).1, val_ok h hv⟩
  have h2 : (sortK (m.map Prod.fst)).Pairwise (· < ·) := by
    have nd : (sortK (m.map Prod.fst)).Nodup := sortK_perm.nodup_iff.mpr h.nd
    exact (List.Pairwise.and sortK_pair nd).imp fun ⟨h1, h2⟩ => lt_of_nlt h1 h2
  rw [rwGo_asc (fun k => rfl) h1 h2 (fun q e => by cases e), List.length_map, sortK_perm.length_eq, List.length_map]
  simp [hl]
set_option maxHeartbeats 8000000
def dkF (f : D) (m : Int) (fr : D) (t : Str) (h : Int) (sh : Str) : List (Str × D) := [("fuse", f), ("many", .int m), ("framed", fr), ("taped", .str t), ("held", .int h), ("shelved", .str sh)]
section
variable {f fr v : D} {m m' h h' : Int} {t t' sh sh' : Str} {s : Store} {n k : Nat} {Q : KQ} {p q : Prop}
theorem dk_fuse : valD (dkF f m fr t h sh) "fuse" = some f := rfl
theorem dk_many : valD (dkF f m fr t h sh) "many" = some (.int m) := rfl
theorem dk_framed : valD (dkF f m fr t h sh) "framed" = some fr := rfl
theorem dk_taped : valD (dkF f m fr t h sh) "taped" = some (.str t) := rfl
theorem dk_held : valD (dkF f m fr t h sh) "held" = some (.int h) := rfl
theorem dk_shelved : valD (dkF f m fr t h sh) "shelved" = some (.str sh) := rfl
theorem dk_many_put : putD (dkF f m fr t h sh) "many" (.int m') = dkF f m' fr t h sh := rfl
theorem dk_taped_put : putD (dkF f m fr t h sh) "taped" (.str t') = dkF f m fr t' h sh := rfl
theorem dk_held_put : putD (dkF f m fr t h sh) "held" (.int h') = dkF f m fr t h' sh := rfl
theorem dk_shelved_put : putD (dkF f m fr t h sh) "shelved" (.str sh') = dkF f m fr t h sh' := rfl
theorem dk_ok : BrB (([0] : List Nat).contains 0 && decide ((dkF f m fr t h sh).length < 1000)) p q = p := rfl
theorem obj_set {c : Cell} {i j : Nat} {o : Option (Nat × List (Str × D))} (hi : isObj s i = o) (hj : i ≠ j) : isObj (s.set j c) i = o := by
  unfold isObj at hi ⊢
  rw [List.getElem?_set_ne (Ne.symm hj)]
  exact hi
theorem obj_put {c : Nat} {fs fs' : List (Str × D)} (hi : isObj s n = some (c, fs)) : isObj (s.set n (.obj c fs')) n = some (c, fs') := by
  have hn : n < s.length := by
    unfold isObj at hi
    cases q : s[n]? with
    | none => rw [q] at hi; cases hi
    | some x => exact (List.getElem?_eq_some_iff.mp q).1
  unfold isObj
  rw [List.getElem?_set_self hn]
theorem trunc_len {s s' : Store} {d : D} (e : s'.length = s.length) : trunc s d s' = s' := by
  unfold trunc
  split
  · rw [← e]
    exact List.take_length
  · rfl
theorem trunc_set {s : Store} {d : D} {c : Cell} : trunc s d (s.set n c) = s.set n c := trunc_len (by simp)
theorem biP_lenS {x : Str} (hx : x.length ≤ sizeLine) : biP .len [.str x] Q s = Q (.int x.length) s := by
  unfold biP
  simp only [biD]
  rw [if_pos hx]
  rfl
theorem count_write_spec {s : Store} (hd : isObj s n = some (0, dkF f m fr t h sh)) (hf : f = .non ∨ ∃ b : Int, f = .int b ∧ m < b) (hq : Q .non (s.set n (.obj 0 (dkF f (m + 1) fr t h sh)))) : cl (mx P G fuel (k + 1)) f_Disk_count_write [.ref n] Q s := by
  refine cl_fd P_Disk_count_write rfl ?_
  unfold fd_Disk_count_write
  rcases hf with rfl | ⟨b, rfl, hb⟩
  · simp! only [hd, dk_fuse, dk_many, dk_many_put, dk_ok, trunc_set]
    exact hq
  · simp! only [hd, dk_fuse, dk_many, dk_many_put, dk_ok, trunc_set]
    refine br.neg (by omega) ?_
    simp! only [hd, dk_fuse, dk_many, dk_many_put, dk_ok, trunc_set]
    exact hq
theorem count_write_exc {s : Store} {K : KX} {b : Int} (hd : isObj s n = some (0, dkF (.int b) m fr t h sh)) (hb : b ≤ m) (hk : K x_Fallen (.int m) s) : clX (mx P G fuel (k + 1)) f_Disk_count_write [.ref n] K s := by
  refine cl_fdX P_Disk_count_write rfl ?_
  unfold fd_Disk_count_write
  refine blkX_iff ?_
  simp! only [hd, dk_fuse, dk_many, trunc_self, kIfX_ap]
  refine br.pos (by omega) ?_
  rw [tBX_ap]
  refine blkX_rais ?_
  simp! only [hd, dk_many, kRais_ap, trunc_self, kSeqX_ex]
  exact hk
theorem add_tape_spec {s : Store} {x : Str} (hd : isObj s n = some (0, dkF f m fr t h sh)) (hf : f = .non ∨ ∃ b : Int, f = .int b ∧ m < b) (hx : t.length + x.length ≤ sizeLine) (hq : Q .non (s.set n (.obj 0 (dkF f (m + 1) fr (t ++ x) h sh)))) : cl (mx P G fuel (k + 2)) f_Disk_add_tape [.ref n, .str x] Q s := by
  refine cl_fd P_Disk_add_tape rfl ?_
  unfold fd_Disk_add_tape
  simp! only [hd]
  refine count_write_spec hd hf ?_
  simp! only [trunc_set, obj_put hd, dk_taped, dk_taped_put, dk_ok, hx, List.set_set]
  exact hq
theorem sync_spec {s : Store} (hd : isObj s n = some (0, dkF f m fr t h sh)) (hf : f = .non ∨ ∃ b : Int, f = .int b ∧ m < b) (hx : t.length ≤ sizeLine) (hq : Q .non (s.set n (.obj 0 (dkF f (m + 1) fr t t.length sh)))) : cl (mx P G fuel (k + 2)) f_Disk_sync [.ref n] Q s := by
  refine cl_fd P_Disk_sync rfl ?_
  unfold fd_Disk_sync
  simp! only [hd]
  refine count_write_spec hd hf ?_
  simp! only [trunc_set, obj_put hd, dk_taped, dk_held_put, dk_ok, List.set_set, biP_lenS hx]
  exact hq
theorem put_shelf_spec {s : Store} {x : Str} (hd : isObj s n = some (0, dkF f m fr t h sh)) (hf : f = .non ∨ ∃ b : Int, f = .int b ∧ m < b) (hq : Q .non (s.set n (.obj 0 (dkF f (m + 1) fr t h x)))) : cl (mx P G fuel (k + 2)) f_Disk_put_shelf [.ref n, .str x] Q s := by
  refine cl_fd P_Disk_put_shelf rfl ?_
  unfold fd_Disk_put_shelf
  simp! only [hd]
  refine count_write_spec hd hf ?_
  simp! only [trunc_set, obj_put hd, dk_shelved_put, dk_ok, List.set_set]
  exact hq
theorem cut_tape_spec {s : Store} {x : Str} (hd : isObj s n = some (0, dkF f m fr t h sh)) (hf : f = .non ∨ ∃ b : Int, f = .int b ∧ m < b) (hx : x.length ≤ sizeLine) (hq : Q .non (s.set n (.obj 0 (dkF f (m + 1) fr x x.length sh)))) : cl (mx P G fuel (k + 2)) f_Disk_cut_tape [.ref n, .str x] Q s := by
  refine cl_fd P_Disk_cut_tape rfl ?_
  unfold fd_Disk_cut_tape
  simp! only [hd]
  refine count_write_spec hd hf ?_
  simp! only [trunc_set, obj_put hd, dk_taped_put, dk_held_put, dk_ok, List.set_set, biP_lenS hx, obj_put (obj_put hd)]
  exact hq
theorem page_ok {i : Int} (h0 : 0 ≤ i) (h1 : i < 32) (hq : Q .non s) : cl (mx P G fuel (k + 2)) f_check_page [.int i] Q s := by
  refine cl_fd P_check_page rfl ?_
  unfold fd_check_page
  simp! only []
  refine whole_spec rfl ?_
  simp! only [show wholeB (D.int i) = true from rfl, G_MOST_PAGES, trunc_self]
  refine br.pos (by omega) ?_
  simp! only [trunc_self, G_MOST_PAGES]
  refine br.pos (by omega) ?_
  simp! only [trunc_self]
  exact hq
theorem dct_set {c : Cell} {i j : Nat} {o : Option (List (L2.Key × D))} (hi : isDct s i = o) (hj : i ≠ j) : isDct (s.set j c) i = o := by
  unfold isDct at hi ⊢
  rw [List.getElem?_set_ne (Ne.symm hj)]
  exact hi
theorem lst_obj {c : Nat} {fs : List (Str × D)} (hi : isObj s n = some (c, fs)) : isLst s n = none := by
  unfold isObj at hi
  unfold isLst
  cases q : s[n]? with
  | none => rfl
  | some x =>
    rw [q] at hi
    cases x <;> first | rfl | cases hi
theorem lst_dct {l : List (L2.Key × D)} (hi : isDct s n = some l) : isLst s n = none := by
  unfold isDct at hi
  unfold isLst
  cases q : s[n]? with
  | none => rfl
  | some x =>
    rw [q] at hi
    cases x <;> first | rfl | cases hi
theorem put_frame_spec {s : Store} {x : Str} {j : Nat} {l : List (L2.Key × D)} {i : Int} (hd : isObj s n = some (0, dkF f m (.ref j) t h sh)) (hj : j ≠ n) (hl : isDct s j = some l) (hz : l.length < sizeLine) (h0 : 0 ≤ i) (h1 : i < 32) (hf : f = .non ∨ ∃ b : Int, f = .int b ∧ m < b)
    (hq : Q .non ((s.set n (.obj 0 (dkF f (m + 1) (.ref j) t h sh))).set j (.dct (putD l (.inl i) (.str x))))) : cl (mx P G fuel (k + 3)) f_Disk_put_frame [.ref n, .int i, .str x] Q s := by
  refine cl_fd P_Disk_put_frame rfl ?_
  unfold fd_Disk_put_frame
  simp! only []
  refine page_ok h0 h1 ?_
  simp! only [hd, trunc_self]
  refine count_write_spec hd hf ?_
  have e1 := dct_set (c := .obj 0 (dkF f (m + 1) (.ref j) t h sh)) hl hj
  have e2 := lst_dct e1
  simp! only [trunc_set, trunc_self, obj_put hd, dk_framed, e1, e2, stL_none]
  refine br.pos hz ?_
  simp! only [trunc_self]
  rw [trunc_len (by simp)]
  exact hq
end
set_option maxHeartbeats 4000000
section
variable {k n : Nat} {p : Po} {W V : Store} {l : List D} {Q : KQ} {m : Ct} {t : List Nat} {s : Store} {v : D} {q : Po}
theorem pb_new : isLst (PB q (W ++ .lst l :: V)) (W.length + 3) = some l := by
  have e : PB q (W ++ .lst l :: V) = PB q W ++ (.lst l :: V) := by rw [PB_app]
  rw [e, isLst_new0 PB_len]
  rfl
theorem pb_dct {d : List (L2.Key × D)} : isDct (PB q (W ++ .dct d :: V)) (W.length + 3) = some d := by
  have e : PB q (W ++ .dct d :: V) = PB q W ++ (.dct d :: V) := by rw [PB_app]
  rw [e, isDct_new0 PB_len]
  rfl
theorem pb_more (h : ∀ q, isLst (PB q W) n = some l) : ∀ q, isLst (PB q (W ++ V)) n = some l := fun q => by
  rw [← PB_app]
  exact isLst_old (h q)
theorem pb_moreD {d : List (L2.Key × D)} (h : ∀ q, isDct (PB q W) n = some d) : ∀ q, isDct (PB q (W ++ V)) n = some d := fun q => by
  rw [← PB_app]
  exact isDct_old (h q)
theorem pb_und {d : D} (h : plain d = true) : ∀ {i : Nat}, D.und i d = true := by
  have go : (∀ d : D, plain d = true → ∀ i, D.und i d = true) ∧ ∀ l : List D, plains l = true → ∀ i, D.unds i l = true := by
    refine ⟨?_, ?_⟩
    · intro d
      exact D.rec (motive_1 := fun d => plain d = true → ∀ i, D.und i d = true) (motive_2 := fun l => plains l = true → ∀ i, D.unds i l = true)
        (fun _ _ => rfl) (fun _ _ _ => rfl) (fun _ _ _ => rfl) (fun _ _ _ => rfl) (fun l ih h i => by rw [und_tup]; exact ih h i) (fun _ h => by cases h) (fun _ h => by cases h) (fun _ _ _ h => by cases h) (fun _ _ h => by cases h)
        (fun _ _ => rfl) (fun d l ih1 ih2 h i => by
          simp only [plains, Bool.and_eq_true] at h
          rw [unds_cons, ih1 h.1 i, ih2 h.2 i]
          rfl) d
    · intro l
      induction l with
      | nil => exact fun _ _ => rfl
      | cons d l ih =>
        intro h i
        simp only [plains, Bool.and_eq_true] at h
        rw [unds_cons, ih h.2 i, Bool.and_true]
        exact D.rec (motive_1 := fun d => plain d = true → ∀ i, D.und i d = true) (motive_2 := fun l => plains l = true → ∀ i, D.unds i l = true)
          (fun _ _ => rfl) (fun _ _ _ => rfl) (fun _ _ _ => rfl) (fun _ _ _ => rfl) (fun l ih h i => by rw [und_tup]; exact ih h i) (fun _ h => by cases h) (fun _ h => by cases h) (fun _ _ _ h => by cases h) (fun _ _ h => by cases h)
          (fun _ _ => rfl) (fun d l ih1 ih2 h i => by
            simp only [plains, Bool.and_eq_true] at h
            rw [unds_cons, ih1 h.1 i, ih2 h.2 i]
            rfl) d h.1 i
  exact fun {i} => go.1 d h i
theorem stP_tx {v : D} {ρ : Env} {N : KN} : stP (.ref n) (tx t) v ρ N s = stK (isDct s n) (some (.inr ⟨t.toArray⟩)) n v ρ N s := stP_key
theorem lookD_tx (h : isDct s n = some (ctL m)) : lookD s (.ref n) (tx t) = some (valD m t) := by
  rw [lookD_dct h (k := .inr ⟨t.toArray⟩) rfl, valD_ct]
theorem ixD_key (h : isDct s n = some (ctL m)) (hv : valD m t = some v) : ixD s (.ref n) (tx t) = some v := by
  show (lookD s (.ref n) (tx t)).bind id = _
  rw [lookD_tx h, hv]
  rfl
theorem key_mk {c f a b : Nat} (hc : c ∈ cKey) (hf : f ∈ cKey) (hl : a + b ≤ 11) : keyB (List.replicate a f ++ [c] ++ List.replicate b f) = true := by
  unfold keyB
  have l : (List.replicate a f ++ [c] ++ List.replicate b f).length = a + 1 + b := by simp; omega
  rw [l, Bool.and_eq_true, Bool.and_eq_true, decide_eq_true_eq, decide_eq_true_eq, List.all_eq_true]
  refine ⟨⟨by omega, by omega⟩, fun x hx => decide_eq_true ?_⟩
  rcases List.mem_append.mp hx with hx | hx
  · rcases List.mem_append.mp hx with hx | hx
    · rw [(List.mem_replicate.mp hx).2]; exact hf
    · rw [List.mem_singleton.mp hx]; exact hc
  · rw [(List.mem_replicate.mp hx).2]; exact hf
theorem lit_am : D.str (Str.ofString "am.") = tx [97, 109, 46] := by kernel_rfl
theorem numB_int {i : Int} : numB (.int i) = (decide (-1000000000000 ≤ i) && decide (i ≤ 1000000000000)) := rfl
theorem num_plain {l : List D} (h : l.all numB = true) : plains l = true := by
  rw [plains_iff]
  intro d hd
  have := List.all_eq_true.mp h d hd
  cases d <;> first | rfl | cases this
end
set_option maxHeartbeats 8000000
inductive Wd where
  | frame | tape | sync | shelf | cut
  deriving DecidableEq
def Wd.nm : Wd → Str
  | .frame => "frame"
  | .tape => "tape"
  | .sync => "sync"
  | .shelf => "shelf"
  | .cut => "cut"
structure Dk where
  f : Option Int
  m : Int
  fr : List (L2.Key × D)
  t : List Nat
  h : Int
  sh : List Nat
def fD : Option Int → D
  | none => .non
  | some b => .int b
def txS (l : List Nat) : Str := ⟨l.toArray⟩
theorem tx_S {l : List Nat} : tx l = .str (txS l) := rfl
def dkO (a : Dk) (j : Nat) : List (Str × D) := dkF (fD a.f) a.m (.ref j) (txS a.t) a.h (txS a.sh)
def mdl (a : Dk) (j : Nat) : List (L2.Key × D) := [(.inr "fuse", fD a.f), (.inr "frames", .ref j), (.inr "tape", .str (txS a.t)), (.inr "safe", .int a.h), (.inr "shelf", .str (txS a.sh)), (.inr "writes", .int a.m)]
def over (a : Dk) : Bool := match a.f with
  | none => false
  | some b => decide (b ≤ a.m)
def noPage (i : Int) : Bool := !(decide (0 ≤ i) && decide (i ≤ 31))
def actD (a : Dk) (w : Wd) (i : Int) (x : List Nat) : Dk := match w with
  | .frame => { a with m := a.m + 1, fr := putD a.fr (.inl i) (tx x) }
  | .tape => { a with m := a.m + 1, t := a.t ++ x }
  | .sync => { a with m := a.m + 1, h := a.t.length }
  | .shelf => { a with m := a.m + 1, sh := x }
  | .cut => { a with m := a.m + 1, t := x, h := x.length }
def resD (a : Dk) (w : Wd) (i : Int) : D := if w = .frame ∧ noPage i = true then .tup [.str "page", .int i] else if over a = true then .tup [.str "fallen", fD a.f] else .tup [.str "done", .non]
def nextD (a : Dk) (w : Wd) (i : Int) (x : List Nat) : Dk := if w = .frame ∧ noPage i = true then a else if over a = true then a else actD a w i x
structure DkOk (n : Nat) (a : Dk) : Prop where
  fu : ∀ b, a.f = some b → a.m ≤ b
  fr : ∀ p ∈ a.fr, ∃ i x, p = (.inl i, tx x) ∧ asc x
  frl : a.fr.length ≤ n
  ta : asc a.t
  tl : a.t.length ≤ 20 * n
  sa : asc a.sh
theorem put_mem {κ : Type} [DecidableEq κ] {l : List (κ × D)} {k : κ} {v : D} {p : κ × D} (h : p ∈ putD l k v) : p ∈ l ∨ p = (k, v) := by
  unfold putD at h
  split at h
  · obtain ⟨q, hq, e⟩ := List.mem_map.mp h
    split at e
    · rename_i hk
      rw [← e, ← hk]
      exact .inr rfl
    · rw [← e]
      exact .inl hq
  · rcases List.mem_append.mp h with h | h
    · exact .inl h
    · exact .inr (List.mem_singleton.mp h)
theorem put_len' {κ : Type} [DecidableEq κ] {l : List (κ × D)} {k : κ} {v : D} : (putD l k v).length ≤ l.length + 1 := by
  unfold putD
  split
  · rw [List.length_map]; omega
  · rw [List.length_append, List.length_singleton]
    exact Nat.le_refl _
theorem next_ok {n : Nat} {a : Dk} {w : Wd} {i : Int} {x : List Nat} (h : DkOk n a) (hx : asc x) (hl : x.length ≤ 20) : DkOk (n + 1) (nextD a w i x) := by
  have up : DkOk (n + 1) a := ⟨h.fu, h.fr, by have := h.frl; omega, h.ta, by have := h.tl; omega, h.sa⟩
  unfold nextD
  split
  · exact up
  · split
    · exact up
    · rename_i ho
      have fu : ∀ b, a.f = some b → a.m + 1 ≤ b := fun b hb => by
        unfold over at ho
        rw [hb] at ho
        simp at ho
        omega
      cases w with
      | frame => exact ⟨fu, fun p hp => (put_mem hp).elim (h.fr p) fun e => ⟨i, x, e, hx⟩, Nat.le_trans put_len' (by have := h.frl; omega), up.ta, up.tl, up.sa⟩
      | tape => exact ⟨fu, up.fr, up.frl, asc_app h.ta hx, by show (a.t ++ x).length ≤ _; have := h.tl; rw [List.length_append]; omega, up.sa⟩
      | sync => exact ⟨fu, up.fr, up.frl, up.ta, up.tl, up.sa⟩
      | shelf => exact ⟨fu, up.fr, up.frl, up.ta, up.tl, hx⟩
      | cut => exact ⟨fu, up.fr, up.frl, hx, by show x.length ≤ _; omega, up.sa⟩
theorem keysN_of : ∀ {l : List (L2.Key × D)}, (∀ p ∈ l, ∃ i x, p = (.inl i, tx x) ∧ asc x) → ∃ ns, keysN l = some ns ∧ ns.length = l.length
  | [], _ => ⟨[], rfl, rfl⟩
  | p :: l, h => by
    obtain ⟨i, x, rfl, _⟩ := h p (by simp)
    obtain ⟨ns, e, el⟩ := keysN_of (l := l) fun q hq => h q (List.mem_cons_of_mem _ hq)
    exact ⟨i :: ns, by unfold keysN; rw [e]; rfl, by rw [List.length_cons, List.length_cons, el]⟩
theorem val_tx {l : List (L2.Key × D)} {k : L2.Key} {v : D} (h : ∀ p ∈ l, ∃ i x, p = (.inl i, tx x) ∧ asc x) (e : valD l k = some v) : ∃ x, v = tx x ∧ asc x := by
  unfold valD at e
  cases hf : l.find? fun p => decide (p.1 = k) with
  | none => rw [hf] at e; cases e
  | some r =>
    rw [hf] at e
    cases e
    obtain ⟨i, x, rfl, hx⟩ := h r (List.mem_of_find?_eq_some hf)
    exact ⟨x, rfl, hx⟩
section
variable {s : Store} {Q : KQ} {n j k : Nat}
theorem biP_sortI {l : List (L2.Key × D)} {ns : List Int} (h : isDct s n = some l) (e : keysN l = some ns) (hl : ns.length < 64) : biP .sorted [.ref n] Q s = Q (.ref s.length) (s ++ [.lst ((sortN ns).map .int)]) := by
  have hn : isLst s n = none := lst_dct h
  have sl : ∀ (m : List Int), (sortN m).length = m.length := by
    have il : ∀ (x : Int) (m : List Int), (insN x m).length = m.length + 1 := by
      intro x m
      induction m with
      | nil => rfl
      | cons y m ih =>
        unfold insN
        split
        · rw [List.length_cons, ih, List.length_cons]
        · rfl
    intro m
    induction m with
    | nil => rfl
    | cons x m ih =>
      unfold sortN
      rw [il, ih, List.length_cons]
  have hz : ((sortN ns).map D.int).length ≤ sizeLine := by
    rw [List.length_map, sl]
    have := line_big
    omega
  have e2 : biD .sorted [.ref n] s = .ok (.ref s.length) (s ++ [.lst ((sortN ns).map .int)]) := by
    unfold biD
    simp only [hn, h]
    cases l with
    | nil =>
      have : ns = [] := by unfold keysN at e; exact (Option.some.inj e).symm
      subst this
      show (if _ then newLst [] s else _) = _
      rw [if_pos (by decide)]
      unfold newLst
      show (if 0 ≤ sizeLine then _ else _) = _
      rw [if_pos (Nat.zero_le _)]
      rfl
    | cons p l =>
      obtain ⟨q, v⟩ := p
      cases q with
      | inr x => unfold keysN at e; cases e
      | inl i =>
        have ek : keysS ((Sum.inl i, v) :: l) = none := by unfold keysS; rfl
        simp only [ek, e]
        rw [if_pos hl]
        unfold newLst
        rw [if_pos hz]
  unfold biP
  rw [e2]
  rfl
theorem isI_of {l : List Int} {m : Nat} : (l.map D.int).all (pur m) = true := pur_ints
variable {a : Dk}
theorem dO_fuse : valD (dkO a j) "fuse" = some (fD a.f) := rfl
theorem dO_many : valD (dkO a j) "many" = some (.int a.m) := rfl
theorem dO_framed : valD (dkO a j) "framed" = some (.ref j) := rfl
theorem dO_taped : valD (dkO a j) "taped" = some (.str (txS a.t)) := rfl
theorem dO_held : valD (dkO a j) "held" = some (.int a.h) := rfl
theorem dO_shelved : valD (dkO a j) "shelved" = some (.str (txS a.sh)) := rfl
theorem frame_spec {i : Int} (hd : isObj s n = some (0, dkO a j)) (hl : isDct s j = some a.fr) (h0 : 0 ≤ i) (h1 : i < 32) (hq : Q ((valD a.fr (.inl i)).getD .non) s) : cl (mx P G fuel (k + 3)) f_Disk_frame [.ref n, .int i] Q s := by
  refine cl_fd P_Disk_frame rfl ?_
  unfold fd_Disk_frame
  simp! only []
  refine page_ok h0 h1 ?_
  simp! only [hd, trunc_self, dO_framed, hl, lookD_dct hl (y := .int i) (k := .inl i) rfl]
  exact hq
theorem frame_ids_spec {ns : List Int} (hd : isObj s n = some (0, dkO a j)) (hl : isDct s j = some a.fr) (e : keysN a.fr = some ns) (h6 : ns.length < 64) (hq : Q (.tup ((sortN ns).map .int)) s) : cl (mx P G fuel (k + 1)) f_Disk_frame_ids [.ref n] Q s := by
  refine cl_fd P_Disk_frame_ids rfl ?_
  unfold fd_Disk_frame_ids
  simp! only [hd, dO_framed]
  rw [biP_sortI hl e h6]
  have el : isLst (s ++ [Cell.lst ((sortN ns).map D.int)]) s.length = some ((sortN ns).map D.int) := by rw [isLst_new0 rfl]; rfl
  have hu : D.und s.length (.tup ((sortN ns).map .int)) = true := by
    rw [und_tup, unds_iff]
    intro d hd
    obtain ⟨i, _, rfl⟩ := List.mem_map.mp hd
    rfl
  simp! only [el, trunc_new hu]
  exact hq
theorem tape_spec (hd : isObj s n = some (0, dkO a j)) (hq : Q (.str (txS a.t)) s) : cl (mx P G fuel (k + 1)) f_Disk_tape [.ref n] Q s := by
  refine cl_fd P_Disk_tape rfl ?_
  unfold fd_Disk_tape
  simp! only [hd, dO_taped]
  exact hq
theorem safe_spec (hd : isObj s n = some (0, dkO a j)) (hq : Q (.int a.h) s) : cl (mx P G fuel (k + 1)) f_Disk_safe [.ref n] Q s := by
  refine cl_fd P_Disk_safe rfl ?_
  unfold fd_Disk_safe
  simp! only [hd, dO_held]
  exact hq
theorem shelf_spec (hd : isObj s n = some (0, dkO a j)) (hq : Q (.str (txS a.sh)) s) : cl (mx P G fuel (k + 1)) f_Disk_shelf [.ref n] Q s := by
  refine cl_fd P_Disk_shelf rfl ?_
  unfold fd_Disk_shelf
  simp! only [hd, dO_shelved]
  exact hq
theorem writes_spec (hd : isObj s n = some (0, dkO a j)) (hq : Q (.int a.m) s) : cl (mx P G fuel (k + 1)) f_Disk_writes [.ref n] Q s := by
  refine cl_fd P_Disk_writes rfl ?_
  unfold fd_Disk_writes
  simp! only [hd, dO_many]
  exact hq
theorem md_fuse (h : isDct s n = some (mdl a j)) : ixD s (.ref n) (.str "fuse") = some (fD a.f) := by
  show (lookD s (.ref n) (.str "fuse")).bind id = _
  rw [lookD_dct h (k := .inr "fuse") rfl]
  rfl
theorem md_frames (h : isDct s n = some (mdl a j)) : ixD s (.ref n) (.str "frames") = some (.ref j) := by
  show (lookD s (.ref n) (.str "frames")).bind id = _
  rw [lookD_dct h (k := .inr "frames") rfl]
  rfl
theorem md_tape (h : isDct s n = some (mdl a j)) : ixD s (.ref n) (.str "tape") = some (.str (txS a.t)) := by
  show (lookD s (.ref n) (.str "tape")).bind id = _
  rw [lookD_dct h (k := .inr "tape") rfl]
  rfl
theorem md_safe (h : isDct s n = some (mdl a j)) : ixD s (.ref n) (.str "safe") = some (.int a.h) := by
  show (lookD s (.ref n) (.str "safe")).bind id = _
  rw [lookD_dct h (k := .inr "safe") rfl]
  rfl
theorem md_shelf (h : isDct s n = some (mdl a j)) : ixD s (.ref n) (.str "shelf") = some (.str (txS a.sh)) := by
  show (lookD s (.ref n) (.str "shelf")).bind id = _
  rw [lookD_dct h (k := .inr "shelf") rfl]
  rfl
theorem md_writes (h : isDct s n = some (mdl a j)) : ixD s (.ref n) (.str "writes") = some (.int a.m) := by
  show (lookD s (.ref n) (.str "writes")).bind id = _
  rw [lookD_dct h (k := .inr "writes") rfl]
  rfl
end
set_option maxHeartbeats 8000000
section
variable {s : Store} {Q : KQ} {n j k : Nat} {a : Dk}
theorem eqW_frame {w : Wd} : eqD s (.str w.nm) (.str "frame") = some (decide (w = .frame)) := by
  rw [eqD_pur (by cases w <;> kernel_rfl) (by kernel_rfl)]
  cases w <;> kernel_rfl
theorem eqW_tape {w : Wd} : eqD s (.str w.nm) (.str "tape") = some (decide (w = .tape)) := by
  rw [eqD_pur (by cases w <;> kernel_rfl) (by kernel_rfl)]
  cases w <;> kernel_rfl
theorem eqW_sync {w : Wd} : eqD s (.str w.nm) (.str "sync") = some (decide (w = .sync)) := by
  rw [eqD_pur (by cases w <;> kernel_rfl) (by kernel_rfl)]
  cases w <;> kernel_rfl
theorem eqW_shelf {w : Wd} : eqD s (.str w.nm) (.str "shelf") = some (decide (w = .shelf)) := by
  rw [eqD_pur (by cases w <;> kernel_rfl) (by kernel_rfl)]
  cases w <;> kernel_rfl
theorem fD_none : fD none = .non := rfl
theorem fD_some {b : Int} : fD (some b) = .int b := rfl
theorem md_len : (mdl a j).length = 6 := rfl
theorem md_put_writes {m : Int} : putD (mdl a j) (.inr "writes") (.int m) = mdl { a with m := m } j := rfl
theorem md_put_tape {t : List Nat} : putD (mdl a j) (.inr "tape") (tx t) = mdl { a with t := t } j := rfl
theorem md_put_safe {h : Int} : putD (mdl a j) (.inr "safe") (.int h) = mdl { a with h := h } j := rfl
theorem md_put_shelf {t : List Nat} : putD (mdl a j) (.inr "shelf") (tx t) = mdl { a with sh := t } j := rfl
theorem dct_put {l l' : List (L2.Key × D)} (hi : isDct s n = some l) : isDct (s.set n (.dct l')) n = some l' := isDct_set_self (isDct_lt hi)
def dueT : List S := fd_L_due.body.drop 3
theorem due_tail {w : Wd} {i : Int} {x : List Nat} {n0 : Nat} (ok : DkOk n0 a) (hn : n0 ≤ 20) (hd : isDct s n = some (mdl a j)) (hl : isDct s j = some a.fr) (hj : j ≠ n) (xl : x.length ≤ 20)
    (hq : Q (.tup [.str "done", .non]) ((s.set j (.dct (actD a w i x).fr)).set n (.dct (mdl (actD a w i x) j)))) :
    blk (mx P G fuel k) dueT [some (.ref n), some (.tup [.str w.nm, .int i, tx x]), some (.str w.nm), some (.int i), some (tx x)] (kEnd' s Q) s := by
  have e1 : ∀ b : Dk, isDct (s.set n (.dct (mdl b j))) n = some (mdl b j) := fun b => dct_put hd
  have e2 : ∀ b : Dk, isDct (s.set n (.dct (mdl b j))) j = some a.fr := fun b => dct_set hl hj
  have e3 : ∀ b : Dk, isLst (s.set n (.dct (mdl b j))) j = none := fun b => lst_dct (e2 b)
  have e4 : ∀ b c : Dk, isDct ((s.set n (.dct (mdl b j))).set n (.dct (mdl c j))) n = some (mdl c j) := fun b c => dct_put (dct_put hd)
  have lz : (a.fr.length < sizeLine) := by have := ok.frl; have := line_big; omega
  have tz : a.t.length + x.length ≤ 1000000 := by have := ok.tl; omega
  have tz2 : a.t.length ≤ 1000000 := by omega
  have xz : x.length ≤ 1000000 := by omega
  have kp : ∀ {d : D} {c c' : Cell} {i i' : Nat}, trunc s d ((s.set i c).set i' c') = (s.set i c).set i' c' := trunc_len (by simp)
  unfold dueT fd_L_due
  simp only [List.drop_succ_cons, List.drop_zero]
  simp! only [md_writes hd, stP_key, hd, stK_some, md_len, md_put_writes, trunc_self, eqW_frame]
  cases w with
  | frame =>
    simp! only [md_frames (e1 _), stP_any, e3, stL_none, e2, stK_some, lz, trunc_self]
    rw [List.set_comm _ _ hj] at hq
    simp! only [kp]
    exact hq
  | tape =>
    simp! only [eqW_tape, md_tape (e1 _)]
    rw [← tx_S, opB_txx tz]
    simp! only [stP_tx, stP_key, e1, stK_some, md_len, md_put_tape, trunc_self, List.set_set, trunc_set]
    have e : s.set j (.dct (actD a .tape i x).fr) = s := lk_self hl
    rw [e] at hq
    exact hq
  | sync =>
    simp! only [eqW_tape, eqW_sync, md_tape (e1 _)]
    rw [← tx_S]
    simp! only [biP_lenTx, tz2, stP_key, e1, stK_some, md_len, md_put_safe, trunc_self, List.set_set, trunc_set]
    have e : s.set j (.dct (actD a .sync i x).fr) = s := lk_self hl
    rw [e] at hq
    exact hq
  | shelf =>
    simp! only [eqW_tape, eqW_sync, eqW_shelf, stP_key, e1, stK_some, md_len, md_put_shelf, trunc_self, List.set_set, trunc_set]
    have e : s.set j (.dct (actD a .shelf i x).fr) = s := lk_self hl
    rw [e] at hq
    exact hq
  | cut =>
    simp! only [eqW_tape, eqW_sync, eqW_shelf, biP_lenTx, xz, stP_key, e1, e4, stK_some, md_len, md_put_tape, md_put_safe, trunc_self, List.set_set, trunc_set]
    have e : s.set j (.dct (actD a .cut i x).fr) = s := lk_self hl
    rw [e] at hq
    exact hq
theorem due_spec {w : Wd} {i : Int} {x : List Nat} {n0 : Nat} (ok : DkOk n0 a) (hn : n0 ≤ 20) (hd : isDct s n = some (mdl a j)) (hl : isDct s j = some a.fr) (hj : j ≠ n) (xl : x.length ≤ 20)
    (hq : Q (resD a w i) ((s.set j (.dct (nextD a w i x).fr)).set n (.dct (mdl (nextD a w i x) j)))) :
    cl (mx P G fuel (k + 1)) f_L_due [.ref n, .tup [.str w.nm, .int i, tx x]] Q s := by
  refine cl_fd P_L_due rfl ?_
  have eb : fd_L_due.body = fd_L_due.body.getD 0 .pass :: fd_L_due.body.getD 1 .pass :: fd_L_due.body.getD 2 .pass :: dueT := rfl
  rw [eb]
  obtain ⟨T, hT⟩ : ∃ T, T = dueT := ⟨_, rfl⟩
  rw [← hT]
  unfold fd_L_due
  simp only [List.getD_cons_zero, List.getD_cons_succ]
  have same : s.set j (.dct a.fr) = s ∧ s.set n (.dct (mdl a j)) = s := ⟨lk_self hl, lk_self hd⟩
  by_cases hp : w = .frame ∧ noPage i = true
  · have e1 : resD a w i = .tup [.str "page", .int i] := if_pos hp
    have e2 : nextD a w i x = a := if_pos hp
    rw [e1, e2, same.1, same.2] at hq
    obtain ⟨rfl, hp⟩ := hp
    simp! only [eqW_frame]
    unfold noPage at hp
    simp only [Bool.not_eq_true', Bool.and_eq_false_iff, decide_eq_false_iff_not] at hp
    refine br.of (fun h0 => ?_) (fun h0 => ?_)
    · simp! only []
      refine br.neg (by omega) ?_
      simp! only [trunc_self]
      exact hq
    · simp! only [trunc_self]
      exact hq
  · have e1 : resD a w i = if over a = true then .tup [.str "fallen", fD a.f] else .tup [.str "done", .non] := if_neg hp
    have e2 : nextD a w i x = if over a = true then a else actD a w i x := if_neg hp
    rw [e1, e2] at hq
    have go : blk (mx P G fuel k) (fd_L_due.body.getD 2 .pass :: T) [some (.ref n), some (.tup [.str w.nm, .int i, tx x]), some (.str w.nm), some (.int i), some (tx x)] (kEnd' s Q) s := by
      unfold fd_L_due
      simp only [List.getD_cons_zero, List.getD_cons_succ]
      simp! only [md_fuse hd, md_writes hd]
      cases hf : a.f with
      | none =>
        have ho : over a = false := by unfold over; rw [hf]
        rw [ho, if_neg (by decide), if_neg (by decide)] at hq
        simp! only [fD_none, trunc_self]
        rw [hT]
        exact due_tail ok hn hd hl hj xl hq
      | some b =>
        simp! only [md_fuse hd, md_writes hd, hf, fD_some, trunc_self]
        refine br.of (fun hb => ?_) (fun hb => ?_)
        · have ho : over a = true := by unfold over; rw [hf]; exact decide_eq_true hb
          rw [ho, if_pos rfl, if_pos rfl, same.1, same.2, hf] at hq
          simp! only [md_fuse hd, hf, fD_some, trunc_self]
          exact hq
        · have ho : over a = false := by unfold over; rw [hf]; exact decide_eq_false hb
          rw [ho, if_neg (by decide), if_neg (by decide)] at hq
          simp! only [trunc_self]
          rw [hT]
          exact due_tail ok hn hd hl hj xl hq
    unfold fd_L_due at go
    simp only [List.getD_cons_zero, List.getD_cons_succ] at go
    simp! only [eqW_frame]
    by_cases hw : w = .frame
    · have hi : noPage i = false := by
        cases h : noPage i
        · rfl
        · exact absurd ⟨hw, h⟩ hp
      unfold noPage at hi
      simp only [Bool.not_eq_false', Bool.and_eq_true, decide_eq_true_eq] at hi
      refine br.pos hw ?_
      simp! only []
      refine br.pos hi.1 ?_
      simp! only []
      refine br.pos hi.2 ?_
      simp! only [trunc_self]
      simp! only [] at go
      exact go
    · refine br.neg hw ?_
      simp! only [trunc_self]
      refine br.neg hw ?_
      simp! only [trunc_self]
      simp! only [] at go
      exact go
end
set_option maxHeartbeats 8000000
section
variable {s : Store} {Q : KQ} {n j k : Nat} {a : Dk} {K : KX}
theorem page_exc {i : Int} (h : noPage i = true) (hk : K x_BadPage (.int i) s) : clX (mx P G fuel (k + 2)) f_check_page [.int i] K s := by
  refine cl_fdX P_check_page rfl ?_
  unfold fd_check_page
  refine blkX_iff ?_
  simp! only []
  refine whole_spec rfl ?_
  unfold noPage at h
  simp only [Bool.not_eq_true', Bool.and_eq_false_iff, decide_eq_false_iff_not] at h
  simp! only [show wholeB (D.int i) = true from rfl, G_MOST_PAGES, trunc_self]
  refine br.of (fun h0 => ?_) (fun h0 => ?_)
  · simp! only [trunc_self, G_MOST_PAGES]
    refine br.neg (by omega) ?_
    simp! only [trunc_self, kIfX_ap]
    refine blkX_rais ?_
    simp! only [kRais_ap, trunc_self, kSeqX_ex]
    exact hk
  · simp! only [trunc_self, kIfX_ap]
    refine blkX_rais ?_
    simp! only [kRais_ap, trunc_self, kSeqX_ex]
    exact hk
theorem over_some (h : over a = true) (hm : ∀ b, a.f = some b → a.m ≤ b) : ∃ b, a.f = some b ∧ a.m = b := by
  unfold over at h
  cases hf : a.f with
  | none => rw [hf] at h; cases h
  | some b =>
    rw [hf] at h
    have := of_decide_eq_true h
    have := hm b hf
    exact ⟨b, rfl, by omega⟩
theorem free_of (h : over a = false) : fD a.f = .non ∨ ∃ b : Int, fD a.f = .int b ∧ a.m < b := by
  unfold over at h
  cases hf : a.f with
  | none => exact .inl rfl
  | some b =>
    rw [hf] at h
    have := of_decide_eq_false h
    exact .inr ⟨b, rfl, by omega⟩
theorem count_exc (hd : isObj s n = some (0, dkO a j)) (ho : over a = true) (hm : ∀ b, a.f = some b → a.m ≤ b) (hk : K x_Fallen (fD a.f) s) : clX (mx P G fuel (k + 1)) f_Disk_count_write [.ref n] K s := by
  obtain ⟨b, hb, hm⟩ := over_some ho hm
  rw [hb, fD_some] at hk
  unfold dkO at hd
  rw [hb, fD_some] at hd
  exact count_write_exc hd (by omega) (by rw [hm]; exact hk)
theorem put_frame_page {i : Int} {x : D} (h : noPage i = true) (hk : K x_BadPage (.int i) s) : clX (mx P G fuel (k + 3)) f_Disk_put_frame [.ref n, .int i, x] K s := by
  refine cl_fdX P_Disk_put_frame rfl ?_
  unfold fd_Disk_put_frame
  refine blkX_expr ?_
  simp! only []
  refine page_exc h ?_
  simp! only [trunc_self]
  exact hk
theorem put_frame_over {i : Int} {x : D} (hd : isObj s n = some (0, dkO a j)) (ho : over a = true) (hm : ∀ b, a.f = some b → a.m ≤ b) (h : noPage i = false) (hk : K x_Fallen (fD a.f) s) : clX (mx P G fuel (k + 3)) f_Disk_put_frame [.ref n, .int i, x] K s := by
  unfold noPage at h
  simp only [Bool.not_eq_false', Bool.and_eq_true, decide_eq_true_eq] at h
  refine cl_fdX P_Disk_put_frame rfl ?_
  unfold fd_Disk_put_frame
  refine blkX_step ?_
  simp! only []
  refine page_ok h.1 (by omega) ?_
  simp! only [trunc_self]
  refine blkX_exprX ?_
  refine evX_mcall ?_
  simp! only []
  refine ⟨n, 0, _, _, rfl, hd, rfl, ?_⟩
  refine count_exc hd ho hm ?_
  simp! only [trunc_self]
  exact hk
theorem add_tape_over {x : D} (hd : isObj s n = some (0, dkO a j)) (ho : over a = true) (hm : ∀ b, a.f = some b → a.m ≤ b) (hk : K x_Fallen (fD a.f) s) : clX (mx P G fuel (k + 2)) f_Disk_add_tape [.ref n, x] K s := by
  refine cl_fdX P_Disk_add_tape rfl ?_
  unfold fd_Disk_add_tape
  refine blkX_exprX ?_
  refine evX_mcall ?_
  simp! only []
  refine ⟨n, 0, _, _, rfl, hd, rfl, ?_⟩
  refine count_exc hd ho hm ?_
  simp! only [trunc_self]
  exact hk
theorem sync_over (hd : isObj s n = some (0, dkO a j)) (ho : over a = true) (hm : ∀ b, a.f = some b → a.m ≤ b) (hk : K x_Fallen (fD a.f) s) : clX (mx P G fuel (k + 2)) f_Disk_sync [.ref n] K s := by
  refine cl_fdX P_Disk_sync rfl ?_
  unfold fd_Disk_sync
  refine blkX_exprX ?_
  refine evX_mcall ?_
  simp! only []
  refine ⟨n, 0, _, _, rfl, hd, rfl, ?_⟩
  refine count_exc hd ho hm ?_
  simp! only [trunc_self]
  exact hk
theorem put_shelf_over {x : D} (hd : isObj s n = some (0, dkO a j)) (ho : over a = true) (hm : ∀ b, a.f = some b → a.m ≤ b) (hk : K x_Fallen (fD a.f) s) : clX (mx P G fuel (k + 2)) f_Disk_put_shelf [.ref n, x] K s := by
  refine cl_fdX P_Disk_put_shelf rfl ?_
  unfold fd_Disk_put_shelf
  refine blkX_exprX ?_
  refine evX_mcall ?_
  simp! only []
  refine ⟨n, 0, _, _, rfl, hd, rfl, ?_⟩
  refine count_exc hd ho hm ?_
  simp! only [trunc_self]
  exact hk
theorem cut_tape_over {x : D} (hd : isObj s n = some (0, dkO a j)) (ho : over a = true) (hm : ∀ b, a.f = some b → a.m ≤ b) (hk : K x_Fallen (fD a.f) s) : clX (mx P G fuel (k + 2)) f_Disk_cut_tape [.ref n, x] K s := by
  refine cl_fdX P_Disk_cut_tape rfl ?_
  unfold fd_Disk_cut_tape
  refine blkX_exprX ?_
  refine evX_mcall ?_
  simp! only []
  refine ⟨n, 0, _, _, rfl, hd, rfl, ?_⟩
  refine count_exc hd ho hm ?_
  simp! only [trunc_self]
  exact hk
theorem obj_self {c : Nat} {fs : List (Str × D)} (h : isObj s n = some (c, fs)) : s.set n (.obj c fs) = s := by
  have e : s[n]? = some (.obj c fs) := by
    unfold isObj at h
    cases q : s[n]? with
    | none => rw [q] at h; cases h
    | some x =>
      rw [q] at h
      cases x with
      | obj c' fs' => cases h; rfl
      | _ => cases h
  obtain ⟨hl, e⟩ := List.getElem?_eq_some_iff.mp e
  rw [← e]
  exact List.set_getElem_self hl
theorem txS_app {a b : List Nat} : txS a ++ txS b = txS (a ++ b) := SX.S_cat _ _
theorem txS_len {a : List Nat} : (txS a).length = a.length := tx_len
theorem made_end {X : Mx} {ρ : Env} {s0 : Store} {hs : List Hd} {E : En} (h : E.nx ρ s) : blkX X [] ρ (kSeqX X [] (exX E X hs)) s := by
  refine blkX_nil ?_
  rw [kSeqX_nx]
  refine blkX_nil ?_
  rw [exX_nx]
  exact h
theorem made_spec {w : Wd} {i : Int} {x : List Nat} {n0 : Nat} (ok : DkOk n0 a) (hn : n0 ≤ 20) (hd : isObj s n = some (0, dkO a j)) (hl : isDct s j = some a.fr) (hj : j ≠ n) (xl : x.length ≤ 20)
    (hq : Q (resD a w i) ((s.set j (.dct (nextD a w i x).fr)).set n (.obj 0 (dkO (nextD a w i x) j)))) :
    cl (mx P G fuel (k + 4)) f_L_made [.ref n, .tup [.str w.nm, .int i, tx x]] Q s := by
  refine cl_fd P_L_made rfl ?_
  unfold fd_L_made
  simp! only []
  refine st_tryx ?_
  have same : s.set j (.dct a.fr) = s ∧ s.set n (.obj 0 (dkO a j)) = s := ⟨lk_self hl, obj_self hd⟩
  have kp : ∀ {d : D} {c c' : Cell} {i i' : Nat}, trunc s d ((s.set i c).set i' c') = (s.set i c).set i' c' := trunc_len (by simp)
  have lz : (a.fr.length < sizeLine) := by have := ok.frl; have := line_big; omega
  have tz : (txS a.t).length + (txS x).length ≤ sizeLine := by
    have := ok.tl
    have := line_big
    rw [txS_len, txS_len]
    omega
  have tz2 : (txS a.t).length ≤ sizeLine := by omega
  have xz : (txS x).length ≤ sizeLine := by omega
  by_cases hp : w = .frame ∧ noPage i = true
  · have e1 : resD a w i = .tup [.str "page", .int i] := if_pos hp
    have e2 : nextD a w i x = a := if_pos hp
    rw [e1, e2, same.1, same.2] at hq
    obtain ⟨rfl, hp⟩ := hp
    refine blkX_iff ?_
    simp! only [eqW_frame, kIfX_ap, tBX_ap, trunc_self]
    refine blkX_exprX ?_
    refine evX_mcall ?_
    simp! only []
    refine ⟨n, 0, _, _, rfl, hd, rfl, ?_⟩
    refine put_frame_page hp ?_
    simp! only [show ([2] : List Nat).contains x_BadPage = false from rfl, show ([0] : List Nat).contains x_BadPage = true from rfl, trunc_self, ixD_tup, atD_0, atD_1, kSeqX_ex]
    exact hq
  · have e1 : resD a w i = if over a = true then .tup [.str "fallen", fD a.f] else .tup [.str "done", .non] := if_neg hp
    have e2 : nextD a w i x = if over a = true then a else actD a w i x := if_neg hp
    rw [e1, e2] at hq
    cases ho : over a with
    | true =>
      rw [ho, if_pos rfl, if_pos rfl, same.1, same.2] at hq
      have hm := ok.fu
      cases w with
      | frame =>
        have hi : noPage i = false := by
          cases h : noPage i
          · rfl
          · exact absurd ⟨rfl, h⟩ hp
        refine blkX_iff ?_
        simp! only [eqW_frame, kIfX_ap, tBX_ap, trunc_self]
        refine blkX_exprX ?_
        refine evX_mcall ?_
        simp! only []
        refine ⟨n, 0, _, _, rfl, hd, rfl, ?_⟩
        refine put_frame_over hd ho hm hi ?_
        simp! only [show ([2] : List Nat).contains 2 = true from rfl, trunc_self, ixD_tup, atD_0, atD_1, eqD_int, show x_Fallen = 2 from rfl, cN2]
        exact hq
      | tape =>
        refine blkX_iff ?_
        simp! only [eqW_frame, kIfX_ap, tBX_ap, trunc_self]
        refine blkX_iff ?_
        simp! only [eqW_tape, kIfX_ap, tBX_ap, trunc_self]
        refine blkX_exprX ?_
        refine evX_mcall ?_
        simp! only []
        refine ⟨n, 0, _, _, rfl, hd, rfl, ?_⟩
        refine add_tape_over hd ho hm ?_
        simp! only [show ([2] : List Nat).contains 2 = true from rfl, trunc_self, ixD_tup, atD_0, atD_1, eqD_int, show x_Fallen = 2 from rfl, cN2]
        exact hq
      | sync =>
        refine blkX_iff ?_
        simp! only [eqW_frame, kIfX_ap, tBX_ap, trunc_self]
        refine blkX_iff ?_
        simp! only [eqW_tape, kIfX_ap, tBX_ap, trunc_self]
        refine blkX_iff ?_
        simp! only [eqW_sync, kIfX_ap, tBX_ap, trunc_self]
        refine blkX_exprX ?_
        refine evX_mcall ?_
        simp! only []
        refine ⟨n, 0, _, _, rfl, hd, rfl, ?_⟩
        refine sync_over hd ho hm ?_
        simp! only [show ([2] : List Nat).contains 2 = true from rfl, trunc_self, ixD_tup, atD_0, atD_1, eqD_int, show x_Fallen = 2 from rfl, cN2]
        exact hq
      | shelf =>
        refine blkX_iff ?_
        simp! only [eqW_frame, kIfX_ap, tBX_ap, trunc_self]
        refine blkX_iff ?_
        simp! only [eqW_tape, kIfX_ap, tBX_ap, trunc_self]
        refine blkX_iff ?_
        simp! only [eqW_sync, kIfX_ap, tBX_ap, trunc_self]
        refine blkX_iff ?_
        simp! only [eqW_shelf, kIfX_ap, tBX_ap, trunc_self]
        refine blkX_exprX ?_
        refine evX_mcall ?_
        simp! only []
        refine ⟨n, 0, _, _, rfl, hd, rfl, ?_⟩
        refine put_shelf_over hd ho hm ?_
        simp! only [show ([2] : List Nat).contains 2 = true from rfl, trunc_self, ixD_tup, atD_0, atD_1, eqD_int, show x_Fallen = 2 from rfl, cN2]
        exact hq
      | cut =>
        refine blkX_iff ?_
        simp! only [eqW_frame, kIfX_ap, tBX_ap, trunc_self]
        refine blkX_iff ?_
        simp! only [eqW_tape, kIfX_ap, tBX_ap, trunc_self]
        refine blkX_iff ?_
        simp! only [eqW_sync, kIfX_ap, tBX_ap, trunc_self]
        refine blkX_iff ?_
        simp! only [eqW_shelf, kIfX_ap, tBX_ap, trunc_self]
        refine blkX_exprX ?_
        refine evX_mcall ?_
        simp! only []
        refine ⟨n, 0, _, _, rfl, hd, rfl, ?_⟩
        refine cut_tape_over hd ho hm ?_
        simp! only [show ([2] : List Nat).contains 2 = true from rfl, trunc_self, ixD_tup, atD_0, atD_1, eqD_int, show x_Fallen = 2 from rfl, cN2]
        exact hq
    | false =>
      rw [ho, if_neg (by decide), if_neg (by decide)] at hq
      have hf := free_of ho
      cases w with
      | frame =>
        have hi : noPage i = false := by
          cases h : noPage i
          · rfl
          · exact absurd ⟨rfl, h⟩ hp
        unfold noPage at hi
        simp only [Bool.not_eq_false', Bool.and_eq_true, decide_eq_true_eq] at hi
        refine blkX_iff ?_
        simp! only [eqW_frame, kIfX_ap, tBX_ap, trunc_self]
        refine blkX_step ?_
        simp! only [hd]
        refine put_frame_spec (x := txS x) hd hj hl lz hi.1 (by omega) hf ?_
        rw [List.set_comm _ _ hj.symm]
        simp! only [kp]
        refine blkX_nil ?_
        simp! only []
        refine blkX_nil ?_
        simp! only [kp]
        exact hq
      | tape =>
        have e : s.set j (.dct (actD a .tape i x).fr) = s := lk_self hl
        rw [e] at hq
        refine blkX_iff ?_
        simp! only [eqW_frame, kIfX_ap, tBX_ap, trunc_self]
        refine blkX_iff ?_
        simp! only [eqW_tape, kIfX_ap, tBX_ap, trunc_self]
        refine blkX_step ?_
        simp! only [hd]
        refine add_tape_spec (x := txS x) hd hf tz ?_
        rw [txS_app]
        simp! only [trunc_set]
        refine blkX_nil ?_
        simp! only []
        refine blkX_nil ?_
        simp! only []
        refine blkX_nil ?_
        simp! only [trunc_set]
        exact hq
      | sync =>
        have e : s.set j (.dct (actD a .sync i x).fr) = s := lk_self hl
        rw [e] at hq
        refine blkX_iff ?_
        simp! only [eqW_frame, kIfX_ap, tBX_ap, trunc_self]
        refine blkX_iff ?_
        simp! only [eqW_tape, kIfX_ap, tBX_ap, trunc_self]
        refine blkX_iff ?_
        simp! only [eqW_sync, kIfX_ap, tBX_ap, trunc_self]
        refine blkX_step ?_
        simp! only [hd]
        refine sync_spec hd hf tz2 ?_
        rw [txS_len]
        simp! only [trunc_set]
        refine blkX_nil ?_
        simp! only []
        refine blkX_nil ?_
        simp! only []
        refine blkX_nil ?_
        simp! only []
        refine blkX_nil ?_
        simp! only [trunc_set]
        exact hq
      | shelf =>
        have e : s.set j (.dct (actD a .shelf i x).fr) = s := lk_self hl
        rw [e] at hq
        refine blkX_iff ?_
        simp! only [eqW_frame, kIfX_ap, tBX_ap, trunc_self]
        refine blkX_iff ?_
        simp! only [eqW_tape, kIfX_ap, tBX_ap, trunc_self]
        refine blkX_iff ?_
        simp! only [eqW_sync, kIfX_ap, tBX_ap, trunc_self]
        refine blkX_iff ?_
        simp! only [eqW_shelf, kIfX_ap, tBX_ap, trunc_self]
        refine blkX_step ?_
        simp! only [hd]
        refine put_shelf_spec (x := txS x) hd hf ?_
        simp! only [trunc_set]
        refine blkX_nil ?_
        simp! only []
        refine blkX_nil ?_
        simp! only []
        refine blkX_nil ?_
        simp! only []
        refine blkX_nil ?_
        simp! only []
        refine blkX_nil ?_
        simp! only [trunc_set]
        exact hq
      | cut =>
        have e : s.set j (.dct (actD a .cut i x).fr) = s := lk_self hl
        rw [e] at hq
        refine blkX_iff ?_
        simp! only [eqW_frame, kIfX_ap, tBX_ap, trunc_self]
        refine blkX_iff ?_
        simp! only [eqW_tape, kIfX_ap, tBX_ap, trunc_self]
        refine blkX_iff ?_
        simp! only [eqW_sync, kIfX_ap, tBX_ap, trunc_self]
        refine blkX_iff ?_
        simp! only [eqW_shelf, kIfX_ap, tBX_ap, trunc_self]
        refine blkX_step ?_
        simp! only [hd]
        refine cut_tape_spec (x := txS x) hd hf xz ?_
        rw [txS_len]
        simp! only [trunc_set]
        refine blkX_nil ?_
        simp! only []
        refine blkX_nil ?_
        simp! only []
        refine blkX_nil ?_
        simp! only []
        refine blkX_nil ?_
        simp! only []
        refine blkX_nil ?_
        simp! only [trunc_set]
        exact hq
end
set_option maxHeartbeats 8000000
section
variable {s : Store} {Q : KQ} {n j k n' j' : Nat} {a : Dk} {K : KX}
theorem get_pur {n0 : Nat} {i : Int} (ok : DkOk n0 a) : pur50 ((valD a.fr (.inl i)).getD .non) = true := by
  cases h : valD a.fr (.inl i) with
  | none => rfl
  | some v =>
    obtain ⟨x, rfl, hx⟩ := val_tx ok.fr h
    exact pur_tx (n := 49) hx
theorem obj_old {t : Store} {c : Nat} {fs : List (Str × D)} (h : isObj s n = some (c, fs)) : isObj (s ++ t) n = some (c, fs) := by
  unfold isObj at h ⊢
  have hn : n < s.length := by
    cases q : s[n]? with
    | none => rw [q] at h; cases h
    | some x => exact (List.getElem?_eq_some_iff.mp q).1
  rw [List.getElem?_append_left hn]
  exact h
theorem same_spec {n0 : Nat} (ok : DkOk n0 a) (hn : n0 ≤ 20) (hd : isObj s n = some (0, dkO a j)) (hl : isDct s j = some a.fr) (hm : isDct s n' = some (mdl a j')) (hl' : isDct s j' = some a.fr) (hq : Q (.bl true) s) :
    cl (mx P G fuel (k + 4)) f_L_is_same [.ref n, .ref n'] Q s := by
  refine cl_fd P_L_is_same rfl ?_
  unfold fd_L_is_same
  obtain ⟨ns, en, nl⟩ := keysN_of ok.fr
  have n6 : ns.length < 64 := by have := ok.frl; omega
  have e32 : rngD [.int 32] = some (nL (List.range 32)) := rng_natL (n := 32) (by omega)
  simp! only [e32]
  refine for_rng (fun o ρ s' => s' = s ∧ ∃ d, ρ = [some (.ref n), some (.ref n'), d, none, none, none]) rfl ⟨rfl, _, rfl⟩ ?_ ?_
  · rintro o ρ s' ho ⟨rfl, d, rfl⟩
    simp! only [hd]
    refine frame_spec hd hl (by omega) (by omega) ?_
    have ep := get_pur (i := (o : Nat)) ok
    simp! only [md_frames hm, hl', lookD_dct hl' (y := .int o) (k := .inl o) rfl, eqD_pur ep ep, trunc_self]
    exact ⟨_, rfl⟩
  · rintro ρ s' ⟨rfl, d, rfl⟩
    simp! only [hd]
    refine frame_ids_spec hd hl en n6 ?_
    simp! only [hd]
    refine safe_spec hd ?_
    simp! only [hd]
    refine writes_spec hd ?_
    obtain ⟨ids, hids⟩ : ∃ ids, ids = (sortN ns).map D.int := ⟨_, rfl⟩
    have pid : ids.all (pur 49) = true := by rw [hids]; exact pur_ints
    rw [← hids]
    have et : ∀ z, trunc s' (.tup [.tup ids, .ref s'.length]) z = z := fun z => trunc_keep (by
      rw [und_tup, unds_cons, unds_cons, und_ref, decide_eq_false (by omega), Bool.false_and, Bool.and_false])
    have hm2 := isDct_old (t := [Cell.lst [.int a.h, .int a.m]]) hm
    have hl2 := isDct_old (t := [Cell.lst [.int a.h, .int a.m]]) hl'
    have e4 : isLst (s' ++ [Cell.lst [.int a.h, .int a.m]]) s'.length = some [.int a.h, .int a.m] := by rw [isLst_new0 rfl]; rfl
    simp! only [et, md_frames hm2]
    rw [biP_sortI hl2 en n6, ← hids]
    have e5 : isLst (s' ++ [Cell.lst [.int a.h, .int a.m]] ++ [Cell.lst ids]) (s' ++ [Cell.lst [.int a.h, .int a.m]]).length = some ids := by rw [isLst_new0 rfl]; rfl
    simp! only [e5, eqD_tup pid pid, trunc_self, walkS_ref, walk_ref e4]
    refine lc_pure (fun _ => none) (fun acc => ?_) ?_ ?_ ?_
    · rw [stays_one]
      exact isLst_old e4
    · exact Nat.lt_of_le_of_lt (by decide : 2 ≤ 1000000) line_big
    · intro d hd acc
      simp only [List.mem_cons, List.not_mem_nil, or_false] at hd
      rcases hd with rfl | rfl
      · simp! only [lcTP_1]
      · simp! only [lcTP_1]
    · have ef : List.filterMap (fun _ => (none : Option D)) [D.int a.h, D.int a.m] = [] := rfl
      obtain ⟨s1, h1⟩ : ∃ s1, s1 = s' ++ [Cell.lst [.int a.h, .int a.m]] := ⟨_, rfl⟩
      rw [← h1] at e4 hm2 ⊢
      have tl1 : s1.length = s'.length + 1 := by rw [h1]; simp
      have e6 : eqD (s1 ++ [Cell.lst []] ++ [Cell.lst []]) (.ref s1.length) (.ref (s1 ++ [Cell.lst []]).length) = some (decide (([] : List D) = [])) :=
        eqD_lst (isLst_old (isLst_new0 rfl)) (isLst_new0 rfl) rfl rfl
      have hd2 : isObj s1 n = some (0, dkO a j) := by rw [h1]; exact obj_old hd
      have tr : trunc s1 .non (s1 ++ [Cell.lst []] ++ [Cell.lst []]) = s1 := by rw [List.append_assoc]; exact trunc_new rfl
      simp! only [ef, e6, tr, hd2]
      refine tape_spec hd2 ?_
      simp! only [hd2]
      refine shelf_spec hd2 ?_
      have g1 : isLst (s1 ++ [Cell.lst [.str (txS a.t), .str (txS a.sh)]]) s1.length = some [.str (txS a.t), .str (txS a.sh)] := by rw [isLst_new0 rfl]; rfl
      have g2 : isLst (s1 ++ [Cell.lst [.str (txS a.t), .str (txS a.sh)]]) s'.length = some [.int a.h, .int a.m] := isLst_old e4
      obtain ⟨s2, h2⟩ : ∃ s2, s2 = s1 ++ [Cell.lst [.str (txS a.t), .str (txS a.sh)]] := ⟨_, rfl⟩
      rw [← h2] at g1 g2
      simp! only [← h2, g1, g2]
      have hm3 : isDct s2 n' = some (mdl a j') := by rw [h2]; exact isDct_old hm2
      have hm4 : ∀ c, isDct (s2 ++ [c]) n' = some (mdl a j') := fun c => isDct_old hm3
      obtain ⟨L, hL⟩ : ∃ L : List D, L = [.str (txS a.t), .str (txS a.sh)] ++ [.int a.h, .int a.m] := ⟨_, rfl⟩
      have pL : L.all (pur 49) = true := by
        have p1 : pur 49 (.str (txS a.t)) = true := pur_tx (n := 48) ok.ta
        have p2 : pur 49 (.str (txS a.sh)) = true := pur_tx (n := 48) ok.sa
        rw [hL]
        simp only [List.cons_append, List.nil_append, List.all_cons, List.all_nil, p1, p2]
        rfl
      simp! only [md_tape (hm4 _), md_shelf (hm4 _), md_safe (hm4 _), md_writes (hm4 _)]
      have hL' : [D.str (txS a.t), .str (txS a.sh), .int a.h, .int a.m] = L := hL.symm
      simp only [hL']
      have e7 : eqD (s2 ++ [Cell.lst L] ++ [Cell.lst L]) (.ref s2.length) (.ref (s2 ++ [Cell.lst L]).length) = some (decide (L = L)) :=
        eqD_lst (isLst_old (isLst_new0 rfl)) (isLst_new0 rfl) pL pL
      have tq : ∀ v : Store, trunc s' (.bl true) (s' ++ v) = s' := fun v => trunc_new rfl
      have tq1 : ∀ v : Store, trunc s1 (.bl true) (s1 ++ v) = s1 := fun v => trunc_new rfl
      simp! only [e7]
      rw [h2, List.append_assoc, List.append_assoc]
      simp! only [tq1]
      rw [h1, tq]
      exact hq
end
set_option maxHeartbeats 8000000
theorem agree_same : ∀ {s u v : Store} {n : Nat}, agree n (s ++ u) (s ++ v) = agree n u v
  | [], _, _, _ => rfl
  | c :: s, u, v, n => by
    show ((decide (c = c) || c.und n) && agree n (s ++ u) (s ++ v)) = _
    rw [agree_same, decide_eq_true rfl]
    rfl
theorem trunc_diff {s v : Store} {c c' : Cell} {d : D} (h1 : c ≠ c') (h2 : c'.und (s.length + 1) = false) : trunc (s ++ [c]) d (s ++ c' :: v) = s ++ c' :: v := by
  unfold trunc
  have e : agree (s ++ [c]).length (s ++ [c]) (s ++ c' :: v) = false := by
    rw [agree_same]
    show ((decide (c = c') || c'.und _) && _) = false
    rw [List.length_append, List.length_singleton, h2, decide_eq_false h1]
    rfl
  rw [e, Bool.and_false, if_neg (by decide)]
def dk0 (f : Option Int) : Dk := ⟨f, 0, [], [], 0, []⟩
def fOk (f : Option Int) : Prop := ∀ b, f = some b → 0 ≤ b
theorem dk0_ok {f : Option Int} (h : fOk f) : DkOk 0 (dk0 f) := ⟨h, (fun p hp => by cases hp), Nat.le_refl _, (fun c hc => by cases hc), Nat.le_refl _, (fun c hc => by cases hc)⟩
section
variable {s : Store} {Q : KQ} {n j k n' j' : Nat} {a : Dk} {K : KX}
theorem BrB_t {p q : Prop} : BrB true p q = p := rfl
theorem obj_new0 {t : Store} (h : s.length = n) : isObj (s ++ t) n = isObj t 0 := by
  unfold isObj
  subst h
  rw [List.getElem?_append_right (Nat.le_refl _), Nat.sub_self]
theorem obj_zero {c : Nat} {fs : List (Str × D)} {t : Store} : isObj (.obj c fs :: t) 0 = some (c, fs) := rfl
theorem fuse_ok {f : Option Int} (h : fOk f) (hq : Q .non s) : cl (mx P G fuel (k + 2)) f_check_fuse [fD f] Q s := by
  refine cl_fd P_check_fuse rfl ?_
  unfold fd_check_fuse
  cases f with
  | none =>
    simp! only [fD_none, trunc_self]
    exact hq
  | some b =>
    have := h b rfl
    simp! only [fD_some]
    refine whole_spec rfl ?_
    simp! only [show wholeB (D.int b) = true from rfl, trunc_self]
    refine br.neg (by omega) ?_
    simp! only [trunc_self]
    exact hq
theorem fuse_exc {b : Int} (h : b < 0) (hk : K x_BadNumber (.int b) s) : clX (mx P G fuel (k + 2)) f_check_fuse [.int b] K s := by
  refine cl_fdX P_check_fuse rfl ?_
  unfold fd_check_fuse
  refine blkX_iff ?_
  simp! only []
  refine whole_spec rfl ?_
  simp! only [show wholeB (D.int b) = true from rfl, trunc_self, kIfX_ap]
  refine br.pos h ?_
  rw [tBX_ap]
  refine blkX_rais ?_
  simp! only [kRais_ap, trunc_self, kSeqX_ex]
  exact hk
theorem init_spec {f : Option Int} (hf : fOk f) (hq : Q .non (s ++ [.obj 0 (dkO (dk0 f) (s.length + 1)), .dct []])) : cl (mx P G fuel (k + 3)) f_Disk_init [.ref s.length, fD f] Q (s ++ [.obj 0 []]) := by
  refine cl_fd P_Disk_init rfl ?_
  unfold fd_Disk_init
  have o0 : ∀ {fs : List (Str × D)} {t : Store}, isObj (s ++ .obj 0 fs :: t) s.length = some (0, fs) := by
    intro fs t
    rw [obj_new0 rfl]
    rfl
  have st : ∀ {fs fs' : List (Str × D)} {t : Store}, (s ++ .obj 0 fs :: t).set s.length (.obj 0 fs') = s ++ .obj 0 fs' :: t := by
    intro fs fs' t
    rw [set_new0 rfl]
    rfl
  have c0 : ([0] : List Nat).contains 0 = true := rfl
  have p1 : ∀ {v : D}, putD ([] : List (Str × D)) "fuse" v = ([("fuse", v)] : List (Str × D)) := rfl
  have p2 : ∀ {u v : D}, putD ([("fuse", u)] : List (Str × D)) "many" v = ([("fuse", u), ("many", v)] : List (Str × D)) := rfl
  have p3 : ∀ {u v w : D}, putD ([("fuse", u), ("many", v)] : List (Str × D)) "framed" w = ([("fuse", u), ("many", v), ("framed", w)] : List (Str × D)) := rfl
  have p4 : ∀ {u v w x : D}, putD ([("fuse", u), ("many", v), ("framed", w)] : List (Str × D)) "taped" x = ([("fuse", u), ("many", v), ("framed", w), ("taped", x)] : List (Str × D)) := rfl
  have p5 : ∀ {u v w x y : D}, putD ([("fuse", u), ("many", v), ("framed", w), ("taped", x)] : List (Str × D)) "held" y = ([("fuse", u), ("many", v), ("framed", w), ("taped", x), ("held", y)] : List (Str × D)) := rfl
  have p6 : ∀ {u v w x y z : D}, putD ([("fuse", u), ("many", v), ("framed", w), ("taped", x), ("held", y)] : List (Str × D)) "shelved" z = ([("fuse", u), ("many", v), ("framed", w), ("taped", x), ("held", y), ("shelved", z)] : List (Str × D)) := rfl
  have tk : ∀ {c : Cell} {t : Store}, trunc (s ++ [c]) (.ref (s.length + 1)) t = t := fun {c t} => trunc_keep (by rw [und_ref]; simp)
  simp! only []
  refine fuse_ok hf ?_
  simp! only [trunc_self, o0, st, c0, p1, p2, p3, p4, p5, p6, BrB_t, List.append_assoc, List.length_append, tk]
  have e : dkO (dk0 f) (s.length + 1) = ([("fuse", fD f), ("many", .int 0), ("framed", .ref (s.length + 1)), ("taped", .str ""), ("held", .int 0), ("shelved", .str "")] : List (Str × D)) := rfl
  rw [e] at hq
  rw [trunc_diff (by intro h; cases h) (by simp [Cell.und, D.unds, D.und])]
  exact hq
theorem init_exc {b : Int} (h : b < 0) (hk : K x_BadNumber (.int b) s) : clX (mx P G fuel (k + 3)) f_Disk_init [.ref n, .int b] K s := by
  refine cl_fdX P_Disk_init rfl ?_
  unfold fd_Disk_init
  refine blkX_expr ?_
  simp! only []
  refine fuse_exc h ?_
  simp! only [trunc_self]
  exact hk
theorem model_spec {f : Option Int} (hq : Q (.ref s.length) (s ++ [.dct (mdl (dk0 f) (s.length + 1)), .dct []])) : cl (mx P G fuel (k + 1)) f_L_model [fD f] Q s := by
  refine cl_fd P_L_model rfl ?_
  unfold fd_L_model
  simp! only []
  have e1 : isDct (s ++ [Cell.dct []] ++ [Cell.dct []]) s.length = some [] := by rw [List.append_assoc, isDct_new0 rfl]; rfl
  rw [kDl_ap rfl e1]
  have tk : ∀ {t : Store}, trunc s (.ref s.length) t = t := trunc_keep (by rw [und_ref]; simp)
  have es : ∀ c, (s ++ [Cell.dct []] ++ [Cell.dct []]).set s.length c = s ++ [c, .dct []] := fun c => by
    rw [List.append_assoc, set_new0 rfl]
    rfl
  simp! only [tk, es, List.length_append]
  exact hq
theorem no_page_spec {i : Int} (hd : isObj s n = some (0, dkO a j)) (hi : noPage i = true) (hq : Q (.bl true) s) : cl (mx P G fuel (k + 4)) f_L_is_no_page [.ref n, .int i] Q s := by
  refine cl_fd P_L_is_no_page rfl ?_
  unfold fd_L_is_no_page
  simp! only []
  refine st_tryx ?_
  refine blkX_exprX ?_
  refine evX_mcall ?_
  simp! only []
  refine ⟨n, 0, _, _, rfl, hd, rfl, ?_⟩
  refine cl_fdX P_Disk_frame rfl ?_
  unfold fd_Disk_frame
  refine blkX_expr ?_
  simp! only []
  refine page_exc hi ?_
  simp! only [show ([0] : List Nat).contains 0 = true from rfl, trunc_self, ixD_tup, atD_0, atD_1, eqD_int, show x_BadPage = 0 from rfl]
  exact hq
theorem refused_spec {b : Int} (h : b < 0) (hq : Q (.bl true) s) : cl (mx P G fuel (k + 4)) f_L_is_refused [.int b] Q s := by
  refine cl_fd P_L_is_refused rfl ?_
  unfold fd_L_is_refused
  simp! only []
  refine st_tryx ?_
  refine blkX_exprX ?_
  refine evX_new ?_
  simp! only []
  refine init_exc h ?_
  have tq : trunc s (.bl true) (s ++ [Cell.obj 0 []]) = s := trunc_new rfl
  simp! only [show ([1] : List Nat).contains 1 = true from rfl, trunc_self, ixD_tup, atD_0, atD_1, eqD_int, show x_BadNumber = 1 from rfl, tq]
  exact hq
end
section
variable {k n : Nat} {p : Po} {W : Store} {Q : KQ}
theorem lit_z : D.str (Str.ofString "z") = tx [122] := by kernel_rfl
theorem lit_t1 : D.str (Str.ofString "") = tx [] := by kernel_rfl
theorem lit_t2 : D.str (Str.ofString "a") = tx [97] := by kernel_rfl
theorem lit_t3 : D.str (Str.ofString "page 0 0\n") = tx [112, 97, 103, 101, 32, 48, 32, 48, 10] := by kernel_rfl
theorem lit_t4 : D.str (Str.ofString "x\ny") = tx [120, 10, 121] := by kernel_rfl
theorem lit_t5 : D.str (Str.ofString "1 begin 002726\n") = tx [49, 32, 98, 101, 103, 105, 110, 32, 48, 48, 50, 55, 50, 54, 10] := by kernel_rfl
theorem lit_t6 : D.str (Str.ofString "~ !") = tx [126, 32, 33] := by kernel_rfl
def menuT : List (List Nat) := [[], [97], [112, 97, 103, 101, 32, 48, 32, 48, 10], [120, 10, 121], [49, 32, 98, 101, 103, 105, 110, 32, 48, 48, 50, 55, 50, 54, 10], [126, 32, 33]]
theorem menu_ok : ∀ t ∈ menuT, t.length ≤ 15 ∧ asc t := by
  have h : menuT.all (fun t => decide (t.length ≤ 15) && t.all (· < 128)) = true := by decide
  intro t ht
  have := List.all_eq_true.mp h t ht
  rw [Bool.and_eq_true, decide_eq_true_eq, List.all_eq_true] at this
  exact ⟨this.1, fun c hc => of_decide_eq_true (this.2 c hc)⟩
theorem text_draw (hv : p.ok) (h : ∀ p' x, Po.ok p' → asc x → x.length ≤ 20 → Q (tx x) (PB p' W)) : cl (mx P G fuel (k + 2)) f_L_text [.ref 2] Q (PB p W) := by
  refine cl_fd P_L_text rfl ?_
  unfold fd_L_text
  have tk : ∀ {t : Store}, trunc (PB p W) (.ref (PB p W).length) t = t := trunc_keep (by rw [und_ref]; simp)
  simp! only [tk, lit_t1, lit_t2, lit_t3, lit_t4, lit_t5, lit_t6, lit_z]
  obtain ⟨L, hL⟩ : ∃ L, L = menuT.map tx := ⟨_, rfl⟩
  rw [show [tx [], tx [97], tx [112, 97, 103, 101, 32, 48, 32, 48, 10], tx [120, 10, 121], tx [49, 32, 98, 101, 103, 105, 110, 32, 48, 48, 50, 55, 50, 54, 10], tx [126, 32, 33]] = L from hL.symm]
  have L6 : L.length = 6 := by rw [hL]; rfl
  simp! only [PB_app, PB_len]
  refine draw_spec hv (by omega) (by omega) fun v p1 a1 b1 hv1 => ?_
  obtain ⟨j, rfl⟩ := Int.eq_ofNat_of_zero_le a1
  have hj : j < L.length := by omega
  obtain ⟨d, hd⟩ : ∃ d, L[j]? = some d := ⟨_, List.getElem?_eq_getElem hj⟩
  have dm := List.mem_of_getElem? hd
  rw [hL] at dm
  obtain ⟨t, ht, rfl⟩ := List.mem_map.mp dm
  obtain ⟨t1, t2⟩ := menu_ok t ht
  simp! only [ixD_ref, pb_new, ixR_some, atD_nat, hd]
  refine draw_spec hv1 (by omega) (by omega) fun w p2 a2 b2 hv2 => ?_
  obtain ⟨i, rfl⟩ := Int.eq_ofNat_of_zero_le a2
  simp! only [lit_z]
  rw [opB_mulTx (by omega)]
  simp! only []
  rw [opB_txx (by rw [List.length_replicate]; omega)]
  simp! only []
  have e2 : ∀ x : List Nat, trunc (PB p W) (tx x) (PB p2 (W ++ [Cell.lst L])) = PB p2 W := fun x => by
    rw [← PB_app]
    exact PB_drop rfl
  have e3 : ∀ x : List Nat, trunc (PB p (W ++ [Cell.lst L])) (tx x) (PB p2 (W ++ [Cell.lst L])) = PB p2 (W ++ [Cell.lst L]) := fun x => PB_trunc
  simp! only [e2, e3]
  refine h _ _ hv2 (asc_app t2 fun c hc => ?_) ?_
  · rw [(List.mem_replicate.mp hc).2]
    decide
  · rw [List.length_append, List.length_replicate]
    omega
end
set_option maxHeartbeats 4000000
theorem map_drop1 {ns : List Int} : (ns.map D.int).drop 1 = (ns.drop 1).map D.int := by rw [List.map_drop]
theorem pool_spec {k : Nat} {ns : List Int} {Q : KQ} (hn : ns.length ≤ 63) (h : ∀ p, Po.ok p → Q (.ref 2) (PB p [])) : cl (mx P G fuel (k + 1)) f_L_pool [.frz ns] Q [] := by
  refine cl_fd P_L_pool rfl ?_
  unfold fd_L_pool
  simp! only [biP_lenF]
  have fin : ∀ (z : Int) (c : D), 0 ≤ z → blk (mx P G fuel k) [.ret (.lst [(.ife (.cmp (.var 2) .GtE (.bin .Pow (.int 10) (.int 18))) (.var 2) (.int 0)), (.bin .Add (.bin .Mod (.bi .int [(.bin .Add (.bin .Mult (.var 2) (.int 48271)) (.int 1009))]) (.int 2147483629)) (.int 3)), (.bi .list [(.slice (.var 0) [(.int 1)] [])])])]
      [some (.frz ns), some c, some (.int z)] (kEnd' [] Q) [] := by
    intro z c hz
    have hl : (cutD (ns.map D.int) (some 1) none).length ≤ 1000000 := by
      rw [cut_from (by omega), List.length_drop, List.length_map]
      omega
    have go : ∀ y : Int, 0 ≤ y → evs (mx P G fuel k) [(.bin .Add (.bin .Mod (.bi .int [(.bin .Add (.bin .Mult (.var 2) (.int 48271)) (.int 1009))]) (.int 2147483629)) (.int 3)), (.bi .list [(.slice (.var 0) [(.int 1)] [])])]
        [some (.frz ns), some c, some (.int z)] (kCons (.int y) (kLst (kRet [] (kSeq (mx P G fuel k) [] (kEnd' [] Q))))) [] := by
      intro y hy
      have e3 : cutD (ns.map D.int) (some 1) none = (ns.drop 1).map D.int := by rw [cut_from (by omega), ← map_drop1]; rfl
      simp! only [mulOk_r, slP_frz, hl, List.length_append]
      have q := h ⟨ns.drop 1, y, (z * 48271 + 1009) % 2147483629 + 3, ns.drop 1⟩ (ok_mod hy)
      unfold PB at q
      simp only [List.append_nil] at q
      rw [trunc_keep (by simp [D.und]), e3]
      exact q
    simp! only []
    refine br.of (fun hs => ?_) (fun hs => ?_)
    · simp! only []
      have q := go z hz
      simp! only [] at q ⊢
      exact q
    · simp! only []
      have q := go 0 (by omega)
      simp! only [] at q ⊢
      exact q
  refine br.of (fun hs => ?_) (fun hs => ?_)
  · cases ns with
    | nil => simp at hs
    | cons x r =>
      simp! only []
      refine br.of (fun hx => ?_) (fun hx => ?_)
      · have q := fin (2 * x) (.int x) (by omega)
        simp! only [] at q
        simp! only [mulOk_l]
        exact q
      · have q := fin (-1 - 2 * x) (.int x) (by omega)
        simp! only [] at q
        simp! only [mulOk_l]
        exact q
  · have q := fin 0 (.int 0) (by omega)
    simp! only [] at q
    simp! only [mulOk_l]
    exact q
set_option maxHeartbeats 8000000
section
variable {k n : Nat} {p : Po} {W : Store} {Q : KQ}
theorem call_draw (hv : p.ok) (h : ∀ p' (w : Wd) (i : Int) x, Po.ok p' → asc x → x.length ≤ 20 → -1 ≤ i → i ≤ 32 → Q (.tup [.str w.nm, .int i, tx x]) (PB p' W)) : cl (mx P G fuel (k + 3)) f_L_call [.ref 2] Q (PB p W) := by
  refine cl_fd P_L_call rfl ?_
  unfold fd_L_call
  have lw : [D.str (Str.ofString "frame"), .str (Str.ofString "frame"), .str (Str.ofString "tape"), .str (Str.ofString "tape"), .str (Str.ofString "sync"), .str (Str.ofString "shelf"), .str (Str.ofString "cut")] = [Wd.frame, .frame, .tape, .tape, .sync, .shelf, .cut].map fun w => D.str w.nm := rfl
  obtain ⟨L, hL⟩ : ∃ L : List Wd, L = [Wd.frame, .frame, .tape, .tape, .sync, .shelf, .cut] := ⟨_, rfl⟩
  rw [← hL] at lw
  have L7 : L.length = 7 := by rw [hL]; rfl
  simp! only [lw, PB_app, PB_len, List.length_map, L7]
  refine draw_spec hv (by omega) (by omega) fun v p1 a1 b1 hv1 => ?_
  obtain ⟨j, rfl⟩ := Int.eq_ofNat_of_zero_le a1
  have hj : j < L.length := by omega
  obtain ⟨w, hw⟩ : ∃ w, L[j]? = some w := ⟨_, List.getElem?_eq_getElem hj⟩
  have gw : (L.map fun w => D.str w.nm)[j]? = some (.str w.nm) := by rw [List.getElem?_map, hw]; rfl
  have e1 : ∀ (q q' : Po) (x : Str) (c : Cell), trunc (PB q W) (.str x) (PB q' (W ++ [c])) = PB q' W := fun q q' x c => by
    rw [← PB_app]
    exact PB_drop rfl
  simp! only [ixD_ref, pb_new, ixR_some, atD_nat, gw, e1]
  refine draw_spec hv1 (by omega) (by omega) fun v2 p2 a2 b2 hv2 => ?_
  simp! only []
  refine draw_spec hv2 (by omega) (by omega) fun v3 p3 a3 b3 hv3 => ?_
  simp! only []
  refine draw_spec hv3 (by omega) (by omega) fun v4 p4 a4 b4 hv4 => ?_
  obtain ⟨M, hM⟩ : ∃ M : List Int, M = [0, 31, v2, v3, v4, 32, -1] := ⟨_, rfl⟩
  have M7 : M.length = 7 := by rw [hM]; rfl
  have lm : [D.int 0, .int 31, .int v2, .int v3, .int v4, .int 32, .int (-1)] = M.map .int := by rw [hM]; rfl
  simp! only [lm, PB_app, PB_len, List.length_map, M7]
  refine draw_spec hv4 (by omega) (by omega) fun v5 p5 a5 b5 hv5 => ?_
  obtain ⟨j5, rfl⟩ := Int.eq_ofNat_of_zero_le a5
  have hj5 : j5 < M.length := by omega
  obtain ⟨i, hi⟩ : ∃ i, M[j5]? = some i := ⟨_, List.getElem?_eq_getElem hj5⟩
  have gi : (M.map D.int)[j5]? = some (.int i) := by rw [List.getElem?_map, hi]; rfl
  have im := List.mem_of_getElem? hi
  have ib : -1 ≤ i ∧ i ≤ 32 := by
    rw [hM] at im
    simp only [List.mem_cons, List.not_mem_nil, or_false] at im
    omega
  have e2 : ∀ (q q' : Po) (x : Int) (c : Cell), trunc (PB q W) (.int x) (PB q' (W ++ [c])) = PB q' W := fun q q' x c => by
    rw [← PB_app]
    exact PB_drop rfl
  simp! only [ixD_ref, pb_new, ixR_some, atD_nat, gi, e2]
  refine text_draw hv5 fun p6 x hv6 hx hl => ?_
  simp! only [PB_trunc]
  exact h _ _ _ _ hv6 hx hl ib.1 ib.2
end
def W38 (F : List D) (a b c a' b' c' : Dk) : Store := [.lst F, .obj 0 (dkO a 5), .dct a.fr, .obj 0 (dkO b 7), .dct b.fr, .obj 0 (dkO c 9), .dct c.fr, .lst [.ref 4, .ref 6, .ref 8], .dct (mdl a' 12), .dct a'.fr, .dct (mdl b' 14), .dct b'.fr, .dct (mdl c' 16), .dct c'.fr, .lst [.ref 11, .ref 13, .ref 15]]
section
variable {k : Nat} {p : Po} {F : List D} {a b c a' b' c' : Dk}
theorem res_pur {w : Wd} {i : Int} : pur50 (resD a w i) = true := by
  unfold resD
  split
  · kernel_rfl
  · split
    · cases a.f <;> kernel_rfl
    · kernel_rfl
theorem w_lst10 : isLst (PB p (W38 F a b c a' b' c')) 10 = some [.ref 4, .ref 6, .ref 8] := rfl
theorem w_lst17 : isLst (PB p (W38 F a b c a' b' c')) 17 = some [.ref 11, .ref 13, .ref 15] := rfl
theorem w_len : (PB p (W38 F a b c a' b' c')).length = 18 := rfl
theorem w_tr {p' : Po} {d : D} {a2 b2 c2 a3 b3 c3 : Dk} : trunc (PB p (W38 F a b c a' b' c')) d (PB p' (W38 F a2 b2 c2 a3 b3 c3)) = PB p' (W38 F a2 b2 c2 a3 b3 c3) := trunc_len rfl
end
def lawT : List S := fd_law.body.drop 4
theorem law_tail {k : Nat} {p : Po} {F : List D} {f0 f1 : Option Int} {x0 x3 x6 x7 x8 x9 : Option D} {Q : KQ} {s0 : Store} (hv : p.ok) (h0 : fOk f0) (h1 : fOk f1) (h : ∀ s, Q (.bl true) s) :
    blk (mx P G fuel (k + 5)) lawT [x0, some (.ref 2), some (.ref 3), x3, some (.ref 10), some (.ref 17), x6, x7, x8, x9] (kEnd' s0 Q) (PB p (W38 F (dk0 f0) (dk0 f1) (dk0 none) (dk0 f0) (dk0 f1) (dk0 none))) := by
  have hc0 : fOk none := fun b hb => by cases hb
  have okc := dk0_ok hc0
  have oka := dk0_ok h0
  have okb := dk0_ok h1
  obtain ⟨c, hc⟩ : ∃ c, c = dk0 none := ⟨_, rfl⟩
  obtain ⟨a, ha⟩ : ∃ a, a = dk0 f0 := ⟨_, rfl⟩
  obtain ⟨b, hb⟩ : ∃ b, b = dk0 f1 := ⟨_, rfl⟩
  rw [← hc, ← ha, ← hb]
  rw [← hc] at okc
  rw [← ha] at oka
  rw [← hb] at okb
  unfold lawT fd_law
  simp only [List.drop_succ_cons, List.drop_zero]
  simp! only []
  refine draw_spec hv (by omega) (by omega) fun v p1 a1 b1 hv1 => ?_
  obtain ⟨m, rfl⟩ := Int.eq_ofNat_of_zero_le a1
  have em : (4 : Int) + (m : Nat) = ((m + 4 : Nat) : Int) := by omega
  simp! only [em]
  rw [rng_natL (by omega)]
  simp! only []
  refine for_rng (fun o ρ s => ∃ p a b x3 x6 x7 x8, Po.ok p ∧ DkOk o a ∧ DkOk o b ∧ s = PB p (W38 F a b c a b c) ∧ ρ = [x0, some (.ref 2), some (.ref 3), x3, some (.ref 10), some (.ref 17), x6, x7, x8, x9]) rfl ⟨p1, a, b, _, _, _, _, hv1, oka, okb, rfl, rfl⟩ ?_ ?_
  · rintro o ρ s ho ⟨q, a, b, y3, y6, y7, y8, hq, ka, kb, rfl, rfl⟩
    simp! only []
    refine draw_spec hq (by omega) (by omega) fun v q1 a1 b1 hq1 => ?_
    simp! only []
    refine call_draw hq1 fun q2 w i x hq2 hx hl i0 i1 => ?_
    simp! only [w_tr, ixD_ref, w_lst17]
    have rp : pur50 (resD a w i) = true := res_pur
    have rp2 : pur50 (resD b w i) = true := res_pur
    have tr : ∀ (s : Store) (e : D), trunc s e s = s := fun _ _ => trunc_self
    rcases (by omega : v = 0 ∨ v = 1) with rfl | rfl
    · simp! only [ixR_some, atD_0]
      refine due_spec (n := 11) (j := 12) (n0 := o) ka (by omega) rfl rfl (by decide) hl ?_
      show asg _ _ _ _ _ (trunc _ _ (PB q2 (W38 F a b c (nextD a w i x) b c)))
      have kn := next_ok (w := w) (i := i) ka hx hl
      simp! only [w_tr, ixD_ref, w_lst10, ixR_some, atD_0]
      refine made_spec (n := 4) (j := 5) (n0 := o) ka (by omega) rfl rfl (by decide) hl ?_
      show kCmp1 _ _ _ _ _ _ (PB q2 (W38 F (nextD a w i x) b c (nextD a w i x) b c))
      simp! only [w_tr, eqD_pur rp rp, ixD_ref, w_lst10, w_lst17, ixR_some, atD_0]
      refine same_spec (n := 4) (j := 5) (n' := 11) (j' := 12) kn (by omega) rfl rfl rfl rfl ?_
      simp! only [w_tr]
      exact ⟨q2, nextD a w i x, b, _, _, _, _, hq2, kn, ⟨kb.fu, kb.fr, by have := kb.frl; omega, kb.ta, by have := kb.tl; omega, kb.sa⟩, rfl, rfl⟩
    · simp! only [ixR_some, atD_1]
      refine due_spec (n := 13) (j := 14) (n0 := o) kb (by omega) rfl rfl (by decide) hl ?_
      show asg _ _ _ _ _ (trunc _ _ (PB q2 (W38 F a b c a (nextD b w i x) c)))
      have kn := next_ok (w := w) (i := i) kb hx hl
      simp! only [w_tr, ixD_ref, w_lst10, ixR_some, atD_1]
      refine made_spec (n := 6) (j := 7) (n0 := o) kb (by omega) rfl rfl (by decide) hl ?_
      show kCmp1 _ _ _ _ _ _ (PB q2 (W38 F a (nextD b w i x) c a (nextD b w i x) c))
      simp! only [w_tr, eqD_pur rp2 rp2, ixD_ref, w_lst10, w_lst17, ixR_some, atD_1]
      refine same_spec (n := 6) (j := 7) (n' := 13) (j' := 14) kn (by omega) rfl rfl rfl rfl ?_
      simp! only [w_tr]
      exact ⟨q2, a, nextD b w i x, _, _, _, _, hq2, ⟨ka.fu, ka.fr, by have := ka.frl; omega, ka.ta, by have := ka.tl; omega, ka.sa⟩, kn, rfl, rfl⟩
  · rintro ρ s ⟨q, a, b, y3, y6, y7, y8, hq, ka, kb, rfl, rfl⟩
    simp! only [show rngD [.int 3] = some (nL (List.range 3)) from rng_natL (n := 3) (by omega)]
    refine lc_pure (fun _ => none) (fun acc => rfl) ?_ ?_ ?_
    · exact Nat.lt_of_le_of_lt (by decide : 3 ≤ 1000000) line_big
    · intro d hd acc
      have hd : d ∈ nL (List.range 3) := hd
      have hd : d = .int 0 ∨ d = .int 1 ∨ d = .int 2 := by
        simpa [nL, nD, List.range_succ] using hd
      have g1 : isLst (PB q (W38 F a b c a b c) ++ [Cell.lst acc]) 10 = some [.ref 4, .ref 6, .ref 8] := rfl
      have g2 : isLst (PB q (W38 F a b c a b c) ++ [Cell.lst acc]) 17 = some [.ref 11, .ref 13, .ref 15] := rfl
      rcases hd with rfl | rfl | rfl
      · simp! only [lcTP_1, ixD_ref, g1, g2, ixR_some, atD_0]
        refine same_spec (n := 4) (j := 5) (n' := 11) (j' := 12) ka (by omega) rfl rfl rfl rfl ?_
        simp! only []
      · simp! only [lcTP_1, ixD_ref, g1, g2, ixR_some, atD_1]
        refine same_spec (n := 6) (j := 7) (n' := 13) (j' := 14) kb (by omega) rfl rfl rfl rfl ?_
        simp! only []
      · simp! only [lcTP_1, ixD_ref, g1, g2, ixR_some, atD_2]
        refine same_spec (n := 8) (j := 9) (n' := 15) (j' := 16) okc (by omega) rfl rfl rfl rfl ?_
        simp! only []
    · have ef : ∀ l : List D, List.filterMap (fun _ => (none : Option D)) l = [] := fun l => by simp
      have e6 : ∀ s1 : Store, eqD (s1 ++ [Cell.lst []] ++ [Cell.lst []]) (.ref s1.length) (.ref (s1 ++ [Cell.lst []]).length) = some (decide (([] : List D) = [])) := fun s1 =>
        eqD_lst (isLst_old (isLst_new0 rfl)) (isLst_new0 rfl) rfl rfl
      have tr : ∀ s1 : Store, trunc s1 .non (s1 ++ [Cell.lst []] ++ [Cell.lst []]) = s1 := fun s1 => by rw [List.append_assoc]; exact trunc_new rfl
      simp! only [ef, e6, tr, ixD_ref, w_lst10, ixR_some, atD_0, atD_1]
      refine no_page_spec (n := 4) (j := 5) (a := a) rfl rfl ?_
      simp! only [ixD_ref, w_lst10, ixR_some, atD_0, atD_1]
      refine no_page_spec (n := 6) (j := 7) (a := b) rfl rfl ?_
      simp! only [trunc_self]
      refine refused_spec (by omega) ?_
      simp! only []
      refine draw_spec hq (by omega) (by omega) fun v q1 a1 b1 hq1 => ?_
      simp! only []
      refine refused_spec (by omega) ?_
      simp! only []
      exact h _
theorem PB_app2 {p : Po} {t u : Store} : PB p t ++ u = PB p (t ++ u) := PB_app
theorem law_k38 {k : Nat} {ns : List Int} {Q : KQ} (hn : ns.length ≤ 63) (h : ∀ s, Q (.bl true) s) : cl (mx P G fuel (k + 10)) f_law [.frz ns] Q [] := by
  refine cl_fd P_law rfl ?_
  have eb : fd_law.body = fd_law.body.getD 0 .pass :: fd_law.body.getD 1 .pass :: fd_law.body.getD 2 .pass :: fd_law.body.getD 3 .pass :: lawT := rfl
  rw [eb]
  obtain ⟨T, hT⟩ : ∃ T, T = lawT := ⟨_, rfl⟩
  rw [← hT]
  unfold fd_law
  simp only [List.getD_cons_zero, List.getD_cons_succ]
  simp! only []
  refine pool_spec hn fun p hv => ?_
  have t0 : ∀ z, trunc [] (.ref 2) z = z := fun z => trunc_keep rfl
  simp! only [t0, show rngD [.int 2] = some (nL (List.range 2)) from rng_natL (n := 2) (by omega)]
  refine lc_go (fun r acc s2 => ∃ p' fs, Po.ok p' ∧ s2 = PB p' [] ∧ acc = fs.map fD ∧ (∀ f ∈ fs, fOk f) ∧ fs.length + r.length = 2) ⟨p, [], hv, rfl, rfl, (fun f hf => by cases hf), rfl⟩ ?_ ?_ ?_
  · rintro r acc s2 ⟨p', fs, h1, rfl, rfl, h2, h3⟩
    refine ⟨by rw [PB_len, PB_len], stays_nil, ?_⟩
    rw [List.length_map]
    have := line_big
    omega
  · rintro x r acc s2 ⟨p', fs, h1, rfl, rfl, h2, h3⟩
    obtain ⟨L, hL⟩ : ∃ L : List (Option Int), L = [none, some 0, some 1, some 2, some 3, some 4, some 6] := ⟨_, rfl⟩
    have L7 : L.length = 7 := by rw [hL]; rfl
    have lm : [D.non, .int 0, .int 1, .int 2, .int 3, .int 4, .int 6] = L.map fD := by rw [hL]; rfl
    have lf : ∀ f ∈ L, fOk f := by
      rw [hL]
      intro f hf b hb
      simp only [List.mem_cons, List.not_mem_nil, or_false] at hf
      rcases hf with rfl | rfl | rfl | rfl | rfl | rfl | rfl <;> cases hb <;> decide
    simp! only [lcTP_0, PB_app, lm, List.length_map, L7]
    refine draw_spec h1 (by omega) (by omega) fun v p2 a2 b2 hv2 => ?_
    obtain ⟨j, rfl⟩ := Int.eq_ofNat_of_zero_le a2
    have hj : j < L.length := by omega
    obtain ⟨f, hf⟩ : ∃ f, L[j]? = some f := ⟨_, List.getElem?_eq_getElem hj⟩
    have gf : (L.map fD)[j]? = some (fD f) := by rw [List.getElem?_map, hf]; rfl
    have en : isLst (PB p2 ([Cell.lst (fs.map fD)] ++ [Cell.lst (L.map fD)])) (PB p' [Cell.lst (fs.map fD)]).length = some (L.map fD) := rfl
    have tr : trunc (PB p' [Cell.lst (fs.map fD)]) (fD f) (PB p2 ([Cell.lst (fs.map fD)] ++ [Cell.lst (L.map fD)])) = PB p2 [Cell.lst (fs.map fD)] := by
      rw [← PB_app]
      exact PB_drop (by cases f <;> rfl)
    have e4 : isLst (PB p2 [Cell.lst (fs.map fD), Cell.lst (L.map fD)]) 4 = some (L.map fD) := rfl
    simp! only [ixD_ref, PB_len, e4, ixR_some, atD_nat, gf]
    rw [show PB p2 [Cell.lst (fs.map fD), Cell.lst (L.map fD)] = PB p2 ([Cell.lst (fs.map fD)] ++ [Cell.lst (L.map fD)]) from rfl, tr]
    refine ⟨PB p2 [], rfl, p2, fs ++ [f], hv2, rfl, by simp [Option.toList], fun g hg => ?_, ?_⟩
    · rcases List.mem_append.mp hg with hg | hg
      · exact h2 g hg
      · rw [List.mem_singleton.mp hg]
        exact lf f (List.mem_of_getElem? hf)
    · rw [List.length_append, List.length_singleton]
      rw [List.length_cons] at h3
      omega
  · rintro acc s2 ⟨p', fs, h1, rfl, rfl, h2, h3⟩
    obtain ⟨f0, f1, rfl⟩ : ∃ f0 f1, fs = [f0, f1] := by
      match fs, h3 with
      | [f0, f1], _ => exact ⟨f0, f1, rfl⟩
    have o0 := h2 f0 (by simp)
    have o1 := h2 f1 (by simp)
    have on : fOk none := fun b hb => by cases hb
    obtain ⟨F, hF⟩ : ∃ F, F = [f0, f1].map fD := ⟨_, rfl⟩
    have F0 : F[0]? = some (fD f0) := by rw [hF]; rfl
    have F1 : F[1]? = some (fD f1) := by rw [hF]; rfl
    rw [← hF]
    have i3 : ∀ t : Store, isLst (PB p' (.lst F :: t)) 3 = some F := fun t => rfl
    have tk : ∀ (t : Store), trunc (PB p []) (.ref 3) t = t := fun t => trunc_keep rfl
    simp! only [PB_app, PB_len, tk, ixD_ref, i3, ixR_some, atD_0, atD_1, F0, F1]
    refine init_spec (s := PB p' [.lst F]) (k := k + 6) o0 ?_
    simp! only [PB_app, PB_len, ixD_ref, i3, ixR_some, atD_0, atD_1, F0, F1]
    refine init_spec (s := PB p' [.lst F, .obj 0 (dkO (dk0 f0) 5), .dct []]) (k := k + 6) o1 ?_
    simp! only [PB_app, PB_len, ixD_ref, i3, ixR_some, atD_0, atD_1, F0, F1]
    refine init_spec (f := none) (s := PB p' [.lst F, .obj 0 (dkO (dk0 f0) 5), .dct [], .obj 0 (dkO (dk0 f1) 7), .dct []]) (k := k + 6) on ?_
    have tk2 : ∀ (t : Store), trunc (PB p' [.lst F]) (.ref 10) t = t := fun t => trunc_keep rfl
    simp! only [PB_app, PB_len, ixD_ref, i3, ixR_some, atD_0, atD_1, F0, F1, tk2]
    refine model_spec ?_
    simp! only [PB_app, PB_len, ixD_ref, i3, ixR_some, atD_0, atD_1, F0, F1]
    refine model_spec ?_
    simp! only [PB_app, PB_len, ixD_ref, i3, ixR_some, atD_0, atD_1, F0, F1]
    refine model_spec (f := none) ?_
    have tk3 : ∀ (t u : Store), t.length = 8 → trunc (PB p' t) (.ref 17) u = u := fun t u ht => trunc_keep (by rw [und_ref, PB_len, ht]; rfl)
    simp! only [PB_app, PB_len, tk3]
    rw [hT]
    exact law_tail h1 o0 o1 h
theorem ex_of_wp38 {r : R D} (h : WpR r fun d _ => d = .bl true) : ∃ s', r = .ok (.bl true) s' := by
  cases r with
  | ok d s => exact ⟨s, by rw [show d = .bl true from h]⟩
  | exc c w s => exact h.elim
  | bad => exact h.elim
theorem answer : ∀ ns : List Int, ns.length ≤ 63 → ∃ s', callF P G fuel (9 + 1) f_law [.frz ns] [] = .ok (.bl true) s' := by
  intro ns hn
  have q : ∀ k, cl (mx P G fuel (k + 10)) f_law [.frz ns] (fun d _ => d = .bl true) [] := fun k => law_k38 hn fun _ => rfl
  have q := q 0
  unfold cl at q
  exact ex_of_wp38 q
end WL
open PySem PySem.W PySem.Calls PyProof.Rows
theorem PySem.Challenge.cw_wendleaf_k38_writes_and_fuses_holds : PySem.Challenge.rw_wendleaf_k38_writes_and_fuses.Holds := by
  w_on; o_law
  refine HandSHeadRun.head_any (r := OpenLaw.row PySem.Challenge.rw_wendleaf_k38_writes_and_fuses) (q := view (OpenLaw.row PySem.Challenge.rw_wendleaf_k38_writes_and_fuses).prog [24]) (H := WL.hk) (ob := WL.ob) (M := 6000) (loose := WL.loose) (d := HandSHeadRun.topDef (OpenLaw.row PySem.Challenge.rw_wendleaf_k38_writes_and_fuses).prog 24) (kwd := []) WL.ob_eq
    (by kernel_rfl) (fun s => by kernel_rfl) WL.head_run (by kernel_rfl) (by kernel_rfl) (by kernel_rfl) (by rfl) (by first | assumption | decide +kernel) (by decide +kernel) ⟨rfl, rfl, rfl, rfl, rfl, by decide +kernel⟩ ?hw ?hc
  case hw => w_witness2
  case hc => exact WL.walk_law (x := "_law_script") (tab := WL.tab) (gl := WL.gls) (T := WL.exT) (n := WL.exN) (F := WL.fuel) (k := 9) (fi := WL.f_law) (e := WL.en_law) rfl (by kernel_rfl) ⟨rfl, by decide, by decide⟩ (by kernel_rfl) rfl rfl WL.exT_ok WL.tab_ok WL.answer
