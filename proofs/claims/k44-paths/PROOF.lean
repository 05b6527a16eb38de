import PyProof.Rows.All
import Wide.All
import OpenK.AllK
import Wide.FinOn
import KE.KStateDown
import Lean
import HandS.Head0
import HandS.Head1
import HandS.Head2
import PySem.Challenge.RW_shedbook_k44_paths_of_questions
import HandS.ForMost
import HandS.ForExc
import HandS.HeadHook2
import HandS.Style
import HandS.TupAny
import HandS.TupLe
import KE.DataCmp
import HandS.CallSlots
import HandS.Flow
import HandS.IsInst
import HandS.More
import HandS.Records
import HandS.SetKeys
import HandS.Defaults
import HandS.WordsExc
import HandS.HeadEnd
import HandS.HeadHook1
section
set_option autoImplicit false
set_option linter.all false
namespace Sb
def lim : Nat := 16777216
abbrev Txt := List Nat
inductive D where
  | non | bl (b : Bool) | int (i : Int) | str (s : Txt) | tup (ds : List D) | ref (a : Nat) | rol (ds : List D)
deriving Inhabited
mutual
def D.beq : D → D → Bool
  | .non, .non => true
  | .bl a, .bl b => a == b
  | .int a, .int b => decide (a = b)
  | .str a, .str b => decide (a = b)
  | .tup a, .tup b => D.beqs a b
  | .rol a, .rol b => D.beqs a b
  | .ref a, .ref b => decide (a = b)
  | _, _ => false
def D.beqs : List D → List D → Bool
  | [], [] => true
  | a :: as, b :: bs => D.beq a b && D.beqs as bs
  | _, _ => false
end
mutual
theorem D.beq_iff : ∀ {a b : D}, D.beq a b = true ↔ a = b
  | .non, b => by cases b <;> simp [D.beq]
  | .bl a, b => by cases b <;> simp [D.beq]
  | .int a, b => by cases b <;> simp [D.beq]
  | .str a, b => by cases b <;> simp [D.beq]
  | .ref a, b => by cases b <;> simp [D.beq]
  | .tup a, b => by
    cases b with
    | tup b => simp only [D.beq, D.tup.injEq]; exact D.beqs_iff
    | _ => simp [D.beq]
  | .rol a, b => by
    cases b with
    | rol b => simp only [D.beq, D.rol.injEq]; exact D.beqs_iff
    | _ => simp [D.beq]
theorem D.beqs_iff : ∀ {a b : List D}, D.beqs a b = true ↔ a = b
  | [], b => by cases b <;> simp [D.beqs]
  | a :: as, b => by
    cases b with
    | nil => simp [D.beqs]
    | cons b bs => simp only [D.beqs, Bool.and_eq_true, List.cons.injEq, D.beq_iff, D.beqs_iff]
end
instance : DecidableEq D := fun a b => decidable_of_iff (D.beq a b = true) D.beq_iff
inductive Ob where
  | lst (ds : List D)
  | frz (ds : List D)
  | dic (t : Bool) (kvs : List (D × D))
  | lok (t : Bool) (kvs : List (D × D))
  | set (ds : List D)
  | ins (c : String) (fs : List (String × D))
deriving DecidableEq, Inhabited
structure Ex where
  cls : String
  fs : List (String × D)
deriving DecidableEq, Inhabited
inductive Res (α : Type) where
  | ok (a : α) (M : List Ob)
  | ex (e : Ex) (M : List Ob)
  | no
deriving Inhabited
def CM (α : Type) : Type := List Ob → Res α
def CM.ret {α : Type} (a : α) : CM α := fun M => .ok a M
def CM.bind {α β : Type} (m : CM α) (f : α → CM β) : CM β := fun M => match m M with
  | .ok a M' => f a M'
  | .ex e M' => .ex e M'
  | .no => .no
instance : Monad CM where
  pure := CM.ret
  bind := CM.bind
def CM.fail {α : Type} : CM α := fun _ => .no
def CM.opt {α : Type} (o : Option α) : CM α := fun M => match o with
  | some a => .ok a M
  | none => .no
def CM.new (o : Ob) : CM D := fun M => .ok (.ref M.length) (M ++ [o])
def CM.raise {α : Type} (e : Ex) : CM α := fun M => .ex e M
def CM.get (a : Nat) : CM Ob := fun M => match M[a]? with
  | some o => .ok o M
  | none => .no
def CM.put (a : Nat) (o : Ob) : CM Unit := fun M => if a < M.length then .ok () (M.set a o) else .no
def CM.ask (p : Bool) : CM Unit := fun M => if p = true then .ok () M else .no
inductive T where
  | non | bl (b : Bool) | int (i : Int) | str (s : Txt) | tup (ts : List T) | lst (ts : List T)
deriving Inhabited
mutual
def D.re (dr : Nat → Option T) : D → Option T
  | .non => some .non
  | .bl b => some (.bl b)
  | .int i => some (.int i)
  | .str s => some (.str s)
  | .tup ds => (D.res dr ds).map .tup
  | .ref a => dr a
  | .rol _ => none
def D.res (dr : Nat → Option T) : List D → Option (List T)
  | [] => some []
  | d :: ds => (D.re dr d).bind fun t => (D.res dr ds).map fun ts => t :: ts
end
def drN (M : List Ob) : Nat → Nat → Option T
  | 0, _ => none
  | n + 1, a => match M[a]? with
    | some (.lst ds) => (D.res (drN M n) ds).map .lst
    | some (.frz ds) => (D.res (drN M n) ds).map .lst
    | _ => none
def tree (M : List Ob) (d : D) : Option T := D.re (drN M 8) d
mutual
def T.eqv : T → T → Bool
  | .non, .non => true
  | .bl a, .bl b => a == b
  | .bl a, .int j => decide ((if a then 1 else 0) = j)
  | .int i, .bl b => decide (i = (if b then 1 else 0))
  | .int i, .int j => decide (i = j)
  | .str a, .str b => decide (a = b)
  | .tup a, .tup b => T.eqvs a b
  | .lst a, .lst b => T.eqvs a b
  | _, _ => false
def T.eqvs : List T → List T → Bool
  | [], [] => true
  | a :: as, b :: bs => T.eqv a b && T.eqvs as bs
  | _, _ => false
end
def ltxt : Txt → Txt → Bool
  | [], [] => false
  | [], _ :: _ => true
  | _ :: _, [] => false
  | a :: as, b :: bs => if a = b then ltxt as bs else decide (a < b)
mutual
def T.lt : T → T → Bool
  | .int i, .int j => decide (i < j)
  | .str a, .str b => ltxt a b
  | .tup a, .tup b => T.lts a b
  | .lst a, .lst b => T.lts a b
  | _, _ => false
def T.lts : List T → List T → Bool
  | [], [] => false
  | [], _ :: _ => true
  | _ :: _, [] => false
  | a :: as, b :: bs => if T.eqv a b = true then T.lts as bs else T.lt a b
end
mutual
def T.alike : T → T → Bool
  | .int _, .int _ => true
  | .str _, .str _ => true
  | .tup a, .tup b => T.alikes a b
  | .lst a, .lst b => T.alikes a b
  | _, _ => false
def T.alikes : List T → List T → Bool
  | a :: as, b :: bs => T.alike a b && T.alikes as bs
  | [], _ => true
  | _ :: _, [] => true
end
mutual
def T.dep : T → Nat
  | .tup ts => T.deps ts + 1
  | .lst ts => T.deps ts + 1
  | _ => 0
def T.deps : List T → Nat
  | [] => 0
  | t :: ts => max (T.dep t) (T.deps ts)
end
def tree2 (x y : D) : CM (T × T) := fun M => match tree M x, tree M y with
  | some a, some b => if T.dep a ≤ 64 ∧ T.dep b ≤ 64 then .ok (a, b) M else .no
  | _, _ => .no
def cmp2 (x y : D) : CM (T × T) := do
  let p ← tree2 x y
  CM.ask (p.1.alike p.2)
  pure p
inductive BOp where | add | sub | mul | fdiv | mod | pow
deriving DecidableEq
inductive COp where | eq | ne | lt | le | gt | ge | is | isnt | inn | nin
deriving DecidableEq
inductive Tg where | loc (i : Nat) | tup (is : List Nat)
deriving DecidableEq
mutual
inductive CE where
  | loc (i : Nat) | cst (d : D) | glb (x : String)
  | tup (es : CEs) | lst (es : CEs) | dic (t : Bool) (kvs : CEs)
  | bin (op : BOp) (a b : CE) | neg (a : CE)
  | cmp (op : COp) (a b : CE) | cmp2 (op1 op2 : COp) (a b c : CE)
  | and (a b : CE) | or (a b : CE) | not (a : CE)
  | ite (c a b : CE)
  | idx (a b : CE) | slc (a lo hi : CE) | rev (a : CE)
  | att (a : CE) (f : String)
  | call (f : String) (es : CEs) | make (c : String) (es : CEs)
  | blt (f : String) (es : CEs) | isi (a : CE) (T : String)
  | met (o : CE) (m : String) (es : CEs)
  | comp (tg : Tg) (it : CI) (c e : CE)
  | dcomp (t : Bool) (tg : Tg) (it : CI) (k v : CE)
  | srt (a : CE) (f : String) (rev : Bool)
inductive CEs where | nil | cons (e : CE) (es : CEs)
inductive CI where
  | seq (e : CE) | rng (a b : CE) | items (e : CE) | values (e : CE) | enum (e : CE)
end
def CE.isNon : CE → Bool
  | .cst .non => true
  | _ => false
inductive Tt where | loc (i : Nat) | tup (is : List Nat) | att (o : CE) (f : String) | idx (o i : CE)
mutual
inductive CS where
  | asg (t : Tt) (e : CE) | par (i j : Nat) (a b : CE)
  | aug (i : Nat) (op : BOp) (e : CE) | augA (o : CE) (f : String) (op : BOp) (e : CE)
  | exp (e : CE) | ret (e : CE)
  | iff (c : CE) (a b : CSs)
  | for (tg : Tg) (it : CI) (body : CSs)
  | whl (c : CE) (body : CSs)
  | brk | cnt | pas
  | del (o i : CE)
  | rais (c : String) (es : CEs)
  | tri (body : CSs) (c : String) (n : Option Nat) (h : CSs)
inductive CSs where | nil | cons (s : CS) (ss : CSs)
end
def truth : D → CM Bool
  | .non => pure false
  | .bl b => pure b
  | .int i => pure (decide (i ≠ 0))
  | .str s => pure (!s.isEmpty)
  | .tup ds => pure (!ds.isEmpty)
  | .rol _ => CM.fail
  | .ref a => do
    match ← CM.get a with
    | .lst ds => pure (!ds.isEmpty)
    | .frz ds => pure (!ds.isEmpty)
    | .dic _ kvs => pure (!kvs.isEmpty)
    | _ => CM.fail
def items (a : Nat) : CM (List D) := do
  match ← CM.get a with
  | .lst ds => pure ds
  | .frz ds => pure ds
  | _ => CM.fail
def lstIt (a : Nat) : CM (List D) := do
  match ← CM.get a with
  | .lst ds => pure ds
  | _ => CM.fail
def pow64 : Int := 18446744073709551616
def bop : BOp → D → D → CM D
  | .add, .int i, .int j => pure (.int (i + j))
  | .sub, .int i, .int j => pure (.int (i - j))
  | .mul, .int i, .int j => do
    CM.ask (decide ((-pow64 < i ∧ i < pow64) ∨ (-pow64 < j ∧ j < pow64)))
    pure (.int (i * j))
  | .fdiv, .int i, .int j => do
    CM.ask (decide (0 < j ∧ j < 1073741824))
    pure (.int (i / j))
  | .mod, .int i, .int j => do
    CM.ask (decide (0 < j))
    pure (.int (i % j))
  | .pow, .int i, .int j => do
    CM.ask (decide (0 ≤ j ∧ j ≤ 1000000 ∧ i.natAbs < 18446744073709551616))
    pure (.int (i ^ j.toNat))
  | .add, .str a, .str b => do
    CM.ask (decide (a.length + b.length ≤ lim))
    pure (.str (a ++ b))
  | .add, .tup a, .tup b => do
    CM.ask (decide (a.length + b.length ≤ lim))
    pure (.tup (a ++ b))
  | .add, .ref a, .ref b => do
    let xs ← lstIt a
    let ys ← lstIt b
    CM.ask (decide (xs.length + ys.length ≤ lim))
    CM.new (.lst (xs ++ ys))
  | .mul, .ref a, .int n => do
    let xs ← lstIt a
    CM.ask (decide (xs.length * n.toNat ≤ lim ∧ -16777216 ≤ n ∧ n ≤ 16777216))
    CM.new (.lst (List.replicate n.toNat xs).flatten)
  | _, _, _ => CM.fail
def treeIn (x y : D) : CM Bool := do
  let p ← tree2 x y
  match p.2 with
  | .tup ts => pure (ts.any fun t => t.eqv p.1)
  | .lst ts => pure (ts.any fun t => t.eqv p.1)
  | _ => CM.fail
def look (k : D) : List (D × D) → Option D
  | [] => none
  | (a, v) :: r => if a = k then some v else look k r
def putK (k v : D) (kvs : List (D × D)) : List (D × D) := if (kvs.any fun p => decide (p.1 = k)) = true then kvs.map (fun p => if p.1 = k then (p.1, v) else p) else kvs ++ [(k, v)]
def dropK (k : D) (kvs : List (D × D)) : List (D × D) := kvs.filter fun p => decide (p.1 ≠ k)
mutual
def D.isKey : D → Bool
  | .int _ => true
  | .str _ => true
  | .tup ds => D.areKeys ds
  | _ => false
def D.areKeys : List D → Bool
  | [] => true
  | d :: ds => D.isKey d && D.areKeys ds
end
def D.isK (t : Bool) : D → Bool
  | .int _ => !t
  | .str _ => !t
  | .tup ds => t && D.areKeys ds
  | _ => false
def entries (a : Nat) : CM (List (D × D)) := do
  match ← CM.get a with
  | .dic _ kvs => pure kvs
  | .lok _ kvs => pure kvs
  | _ => CM.fail
def isIn (x y : D) : CM Bool :=
  match y with
  | .str b => (match x with
    | .str [c] => pure (decide (c ∈ b))
    | _ => CM.fail)
  | .tup _ => treeIn x y
  | .ref a => do
    match ← CM.get a with
    | .lst _ => treeIn x y
    | .frz _ => treeIn x y
    | .dic t kvs => do
      CM.ask (x.isK t)
      pure (look x kvs).isSome
    | .lok t kvs => do
      CM.ask (x.isK t)
      pure (look x kvs).isSome
    | _ => CM.fail
  | _ => CM.fail
def isThe (x y : D) : CM Bool :=
  match y with
  | .non => pure (decide (x = .non))
  | .bl b => pure (decide (x = .bl b))
  | _ => CM.fail
def cop : COp → D → D → CM Bool
  | .eq, x, y => do
    let p ← tree2 x y
    pure (p.1.eqv p.2)
  | .ne, x, y => do
    let p ← tree2 x y
    pure (!p.1.eqv p.2)
  | .lt, x, y => do
    let p ← cmp2 x y
    pure (p.1.lt p.2)
  | .gt, x, y => do
    let p ← cmp2 x y
    pure (p.2.lt p.1)
  | .le, x, y => do
    let p ← cmp2 x y
    pure (!p.2.lt p.1)
  | .ge, x, y => do
    let p ← cmp2 x y
    pure (!p.1.lt p.2)
  | .is, x, y => isThe x y
  | .isnt, x, y => do
    let r ← isThe x y
    pure (!r)
  | .inn, x, y => isIn x y
  | .nin, x, y => do
    let r ← isIn x y
    pure (!r)
def ixOf (n : Nat) (i : Int) : Option Nat :=
  if 0 ≤ i then (if i < n then some i.toNat else none) else if -(n : Int) ≤ i then some (i + n).toNat else none
def atIx {α : Type} (xs : List α) (i : Int) : Option α := (ixOf xs.length i).bind fun j => xs[j]?
def clip (n d : Nat) : Option Int → Nat
  | none => d
  | some v => if v < 0 then (v + (n : Int)).toNat else min v.toNat n
def cut {α : Type} (xs : List α) (lo hi : Option Int) : List α := (xs.drop (clip xs.length 0 lo)).take (clip xs.length xs.length hi - clip xs.length 0 lo)
def part (b : Bool) : D → CM (Option Int)
  | .non => if b = true then pure none else CM.fail
  | .int i => pure (some i)
  | _ => CM.fail
def index : D → D → CM D
  | .tup ds, .int i => CM.opt (atIx ds i)
  | .rol ds, .int i => CM.opt (atIx ds i)
  | .str s, .int i => CM.opt ((atIx s i).map fun c => .str [c])
  | .ref a, k => do
    match ← CM.get a with
    | .lst ds => (match k with
      | .int i => CM.opt (atIx ds i)
      | _ => CM.fail)
    | .frz ds => (match k with
      | .int i => CM.opt (atIx ds i)
      | _ => CM.fail)
    | .dic t kvs => do
      CM.ask (k.isK t)
      CM.opt (look k kvs)
    | .lok t kvs => do
      CM.ask (k.isK t)
      CM.opt (look k kvs)
    | _ => CM.fail
  | _, _ => CM.fail
def slice : D → Option Int → Option Int → CM D
  | .tup ds, lo, hi => pure (.tup (cut ds lo hi))
  | .rol ds, lo, hi => CM.new (.lst (cut ds lo hi))
  | .str s, lo, hi => pure (.str (cut s lo hi))
  | .ref a, lo, hi => do
    let ds ← items a
    CM.new (.lst (cut ds lo hi))
  | _, _, _ => CM.fail
def getF (f : String) : List (String × D) → Option D
  | [] => none
  | (g, v) :: r => if g = f then some v else getF f r
def putF (f : String) (v : D) : List (String × D) → List (String × D)
  | [] => [(f, v)]
  | (g, u) :: r => if g = f then (g, v) :: r else (g, u) :: putF f v r
def attr (na : String → String → Bool) (o : D) (f : String) : CM D :=
  match o with
  | .ref a => do
    match ← CM.get a with
    | .ins c fs => do
      CM.ask (na c f)
      CM.opt (getF f fs)
    | _ => CM.fail
  | _ => CM.fail
def setAttr (na : String → String → Bool) (o : D) (f : String) (v : D) : CM Unit :=
  match o with
  | .ref a => do
    match ← CM.get a with
    | .ins c fs => do
      CM.ask (na c f && decide (fs.length < 100))
      CM.put a (.ins c (putF f v fs))
    | _ => CM.fail
  | _ => CM.fail
def clsOf (o : D) : CM String :=
  match o with
  | .ref a => do
    match ← CM.get a with
    | .ins c _ => pure c
    | _ => CM.fail
  | _ => CM.fail
def setItem (o i v : D) : CM Unit :=
  match o with
  | .ref a => do
    match ← CM.get a with
    | .lst ds => (match i with
      | .int k => do
        let j ← CM.opt (ixOf ds.length k)
        CM.put a (.lst (ds.set j v))
      | _ => CM.fail)
    | .dic t kvs => do
      CM.ask (i.isK t && decide (kvs.length < lim))
      CM.put a (.dic t (putK i v kvs))
    | _ => CM.fail
  | _ => CM.fail
def delItem (o i : D) : CM Unit :=
  match o with
  | .ref a => do
    match ← CM.get a with
    | .dic t kvs => do
      CM.ask (i.isK t && (look i kvs).isSome)
      CM.put a (.dic t (dropK i kvs))
    | _ => CM.fail
  | _ => CM.fail
def natTxtAux : Nat → Nat → Txt → Txt
  | 0, _, acc => acc
  | f + 1, n, acc => if n < 10 then (48 + n) :: acc else natTxtAux f (n / 10) ((48 + n % 10) :: acc)
def natTxt (n : Nat) : Txt := natTxtAux (n + 1) n []
def intTxt (i : Int) : Txt := if i < 0 then 45 :: natTxt i.natAbs else natTxt i.toNat
def canLt (ts : List T) : Bool := ts.all fun a => ts.all fun b => a.alike b
def T.firm : T → Bool
  | .tup [] => false
  | _ => true
def trees (ds : List D) : CM (List T) := fun M => match D.res (drN M 8) ds with
  | some ts => if ts.all (fun t => decide (T.dep t ≤ 60)) then .ok ts M else .no
  | none => .no
def leT (rev : Bool) (a b : T) : Bool := if rev then !a.lt b else !b.lt a
def sortKV (rev : Bool) (ps : List (T × D)) : List D := (ps.mergeSort fun a b => leT rev a.1 b.1).map (·.2)
def sorted (rev : Bool) (ks ds : List D) : CM D := do
  let ts ← trees ks
  CM.ask (canLt ts && ts.all T.firm && decide (ds.length ≤ lim))
  CM.new (.lst (sortKV rev (ts.zip ds)))
def dedup : List D → List D
  | [] => []
  | d :: ds => d :: (dedup ds).filter fun e => decide (e ≠ d)
def allItems : D → CM (List D)
  | .tup ds => pure ds
  | .str s => pure (s.map fun c => .str [c])
  | .ref a => do
    match ← CM.get a with
    | .lst ds => pure ds
    | .frz ds => pure ds
    | .dic _ kvs => pure (kvs.map (·.1))
    | .set ds => pure ds
    | _ => CM.fail
  | _ => CM.fail
def boolsOf : List D → Option (List Bool)
  | [] => some []
  | .bl b :: ds => (boolsOf ds).map fun bs => b :: bs
  | _ :: _ => none
def intsOf : List D → Option (List Int)
  | [] => some []
  | .int i :: ds => (intsOf ds).map fun is => i :: is
  | _ :: _ => none
def pyMax (i : Int) : List Int → Int
  | [] => i
  | j :: r => pyMax (if j > i then j else i) r
def pyMin (i : Int) : List Int → Int
  | [] => i
  | j :: r => pyMin (if j < i then j else i) r
def seqItems : D → CM (List D)
  | .tup ds => pure ds
  | .rol ds => pure ds
  | .ref a => items a
  | _ => CM.fail
def blt : String → List D → CM D
  | "len", [.str s] => pure (.int s.length)
  | "len", [.tup ds] => pure (.int ds.length)
  | "len", [.rol ds] => pure (.int ds.length)
  | "len", [.ref a] => do
    match ← CM.get a with
    | .lst ds => pure (.int ds.length)
    | .frz ds => pure (.int ds.length)
    | .dic _ kvs => pure (.int kvs.length)
    | _ => CM.fail
  | "int", [.int i] => pure (.int i)
  | "int", [.bl b] => pure (.int (if b = true then 1 else 0))
  | "abs", [.int i] => pure (.int (if i < 0 then -i else i))
  | "max", [.int i, .int j] => pure (.int (if j > i then j else i))
  | "min", [.int i, .int j] => pure (.int (if j < i then j else i))
  | "list", [d] => do
    let ds ← seqItems d
    CM.new (.lst ds)
  | "tuple", [d] => do
    let ds ← seqItems d
    pure (.tup ds)
  | _, _ => CM.fail
def isInst (M : List Ob) : D → String → Option Bool
  | .non, _ => some false
  | .bl _, T => some (T == "bool" || T == "int")
  | .int _, T => some (T == "int")
  | .str _, T => some (T == "str")
  | .tup _, T => some (T == "tuple")
  | .rol _, _ => none
  | .ref a, T => match M[a]? with
    | some (.lst _) => some (T == "list")
    | some (.frz _) => some (T == "list")
    | some (.dic _ _) => some (T == "dict")
    | _ => none
def tyNames : List String := ["bool", "int", "str", "tuple", "list", "dict"]
def splitOn (c : Nat) : Txt → List Txt
  | [] => [[]]
  | x :: xs => if x = c then [] :: splitOn c xs else match splitOn c xs with
    | [] => [[x]]
    | w :: ws => (x :: w) :: ws
def joinTxt (sep : Txt) : List Txt → Txt
  | [] => []
  | [a] => a
  | a :: b :: r => a ++ sep ++ joinTxt sep (b :: r)
def strsOf : List D → Option (List Txt)
  | [] => some []
  | .str s :: ds => (strsOf ds).map fun ss => s :: ss
  | _ :: _ => none
def findFrom (c : Nat) (s : Txt) (i : Nat) : Int := match (s.drop i).findIdx? (· == c) with
  | some j => ((i + j : Nat) : Int)
  | none => -1
def rfindC (c : Nat) (s : Txt) : Int := match s.reverse.findIdx? (· == c) with
  | some j => ((s.length - 1 - j : Nat) : Int)
  | none => -1
def rstripC (c : Nat) (s : Txt) : Txt := (s.reverse.dropWhile (· == c)).reverse
def strMeth (s : Txt) : String → List D → CM D
  | "join", [d] => do
    let ds ← allItems d
    match strsOf ds with
    | some ws => do
      CM.ask (decide ((joinTxt s ws).length ≤ lim ∧ ws.length ≤ lim))
      pure (.str (joinTxt s ws))
    | none => CM.fail
  | "startswith", [.str p] => pure (.bl (p.isPrefixOf s))
  | "find", [.str [c], .int i] => do
    CM.ask (decide (0 ≤ i ∧ i ≤ s.length))
    pure (.int (findFrom c s i.toNat))
  | "rfind", [.str [c]] => pure (.int (rfindC c s))
  | "rstrip", [.str [c]] => pure (.str (rstripC c s))
  | "split", [.str [c]] => do
    CM.ask (decide (s.length + 2 ≤ lim))
    CM.new (.lst ((splitOn c s).map .str))
  | "index", [.str [c]] => match s.findIdx? (· == c) with
    | some j => pure (.int j)
    | none => CM.fail
  | _, _ => CM.fail
def lstMeth (a : Nat) (ds : List D) : String → List D → CM D
  | "append", [d] => do
    CM.ask (decide (ds.length < lim))
    CM.put a (.lst (ds ++ [d]))
    pure .non
  | "extend", [.ref b] => do
    let es ← lstIt b
    CM.ask (decide (ds.length + es.length ≤ lim))
    CM.put a (.lst (ds ++ es))
    pure .non
  | "insert", [.int i, d] => do
    CM.ask (decide (0 ≤ i ∧ i ≤ ds.length ∧ ds.length < lim))
    CM.put a (.lst (ds.take i.toNat ++ d :: ds.drop i.toNat))
    pure .non
  | "pop", [] => match ds.getLast? with
    | some d => do
      CM.put a (.lst ds.dropLast)
      pure d
    | none => CM.fail
  | "pop", [.int i] => do
    CM.ask (decide (-16777216 ≤ i ∧ i ≤ 16777216))
    let j ← CM.opt (ixOf ds.length i)
    let d ← CM.opt ds[j]?
    CM.put a (.lst (ds.eraseIdx j))
    pure d
  | "clear", [] => do
    CM.put a (.lst [])
    pure .non
  | _, _ => CM.fail
def dicMeth (a : Nat) (t : Bool) (kvs : List (D × D)) : String → List D → CM D
  | "get", [k, d] => do
    CM.ask (k.isK t)
    pure ((look k kvs).getD d)
  | "setdefault", [k, d] => do
    CM.ask (k.isK t && decide (kvs.length < lim))
    match look k kvs with
    | some v => pure v
    | none => do
      CM.put a (.dic t (putK k d kvs))
      pure d
  | _, _ => CM.fail
def lmt (m : String) : Bool := m == "append" || m == "extend" || m == "insert" || m == "clear" || m == "pop"
def dmt (m : String) : Bool := m == "get" || m == "setdefault"
def smt (m : String) : Bool := false
structure Fn where
  pn : Nat
  n : Nat
  dfl : List D
  body : CSs
  glo : Bool
structure Cl where
  meths : List (String × String)
  sup : List String
  attrs : List String
structure G where
  fn : String → Option Fn
  cls : String → Option Cl
  glb : String → Option D
def G.na (g : G) (c f : String) : Bool := ((g.cls c).map fun k => k.attrs.contains f).getD false
abbrev Env := List (Option D)
abbrev Cls := String → List D → CM D
inductive Fl where
  | nx (ρ : Env) | rt (d : D) | bk (ρ : Env) | ct (ρ : Env)
deriving Inhabited
def getLoc (ρ : Env) (i : Nat) : CM D := CM.opt (ρ[i]?.join)
def setLoc (ρ : Env) (i : Nat) (d : D) : CM Env := fun M => if i < ρ.length then .ok (ρ.set i (some d)) M else .no
def setLocs (ρ : Env) : List Nat → List D → CM Env
  | [], [] => pure ρ
  | i :: is, d :: ds => do
    let ρ' ← setLoc ρ i d
    setLocs ρ' is ds
  | _, _ => CM.fail
def unpack : D → CM (List D)
  | .tup ds => pure ds
  | _ => CM.fail
def setTg (ρ : Env) : Tg → D → CM Env
  | .loc i, d => setLoc ρ i d
  | .tup is, d => do
    let ds ← unpack d
    setLocs ρ is ds
def Tg.slots : Tg → List Nat
  | .loc i => [i]
  | .tup is => is
structure Wk where
  its : List D
  same : Option (Nat × Ob)
def Wk.ok (w : Wk) (M : List Ob) : Bool := match w.same with
  | some (a, o) => decide (M[a]? = some o)
  | none => true
def checkW (w : Wk) : CM Unit := fun M => if w.ok M = true then .ok () M else .no
def wipeE (ρ : Env) : List Nat → Env
  | [] => ρ
  | i :: is => (wipeE ρ is).set i none
def forD (w : Wk) (tg : Tg) (body : Env → CM Fl) : List D → Env → CM Fl
  | [], ρ => do
    checkW w
    pure (.nx ρ)
  | d :: ds, ρ => do
    checkW w
    let ρ1 ← setTg ρ tg d
    match ← body ρ1 with
    | .nx ρ2 => forD w tg body ds ρ2
    | .ct ρ2 => forD w tg body ds ρ2
    | .bk ρ2 => pure (.nx ρ2)
    | .rt v => pure (.rt v)
def wmax : Nat := 10 ^ 40
def whileD (c : Env → CM Bool) (body : Env → CM Fl) : Nat → Env → CM Fl
  | 0, _ => CM.fail
  | n + 1, ρ => do
    match ← c ρ with
    | false => pure (.nx ρ)
    | true => do
      match ← body ρ with
      | .nx ρ2 => whileD c body n ρ2
      | .ct ρ2 => whileD c body n ρ2
      | .bk ρ2 => pure (.nx ρ2)
      | .rt v => pure (.rt v)
def compD (w : Wk) (tg : Tg) (ρ : Env) (c : Env → CM Bool) (e : Env → CM D) (p : Nat) : List D → CM Unit
  | [] => checkW w
  | d :: ds => do
    checkW w
    let ρ1 ← setTg ρ tg d
    match ← c ρ1 with
    | false => compD w tg ρ c e p ds
    | true => do
      let v ← e ρ1
      match ← CM.get p with
      | .lst xs => do
        CM.ask (decide (xs.length < lim))
        CM.put p (.lst (xs ++ [v]))
        compD w tg ρ c e p ds
      | _ => CM.fail
def dcompD (w : Wk) (tg : Tg) (ρ : Env) (k v : Env → CM D) (p : Nat) : List D → CM Unit
  | [] => checkW w
  | d :: ds => do
    checkW w
    let ρ1 ← setTg ρ tg d
    let kd ← k ρ1
    let vd ← v ρ1
    match ← CM.get p with
    | .dic t kvs => do
      CM.ask (kd.isK t && decide (kvs.length < lim))
      CM.put p (.dic t (putK kd vd kvs))
      dcompD w tg ρ k v p ds
    | _ => CM.fail
def quiet {α : Type} (m : CM α) : CM α := fun M => match m M with
  | .ok a M' => .ok a M'
  | _ => .no
def keysOf (cl : Cls) (f : String) : List D → CM (List D)
  | [] => pure []
  | d :: ds => do
    let k ← cl f [d]
    let ks ← keysOf cl f ds
    pure (k :: ks)
def rangeD (lo hi : Int) : List D := (List.range (hi - lo).toNat).map fun k : Nat => D.int (lo + (k : Int))
def big62 (i : Int) : Bool := decide (-4611686018427387904 ≤ i ∧ i < 4611686018427387904)
def enumD : Nat → List D → List D
  | _, [] => []
  | n, d :: ds => .tup [.int n, d] :: enumD (n + 1) ds
def seqWk : D → CM Wk
  | .tup ds => pure ⟨ds, none⟩
  | .rol ds => pure ⟨ds, none⟩
  | .str s => pure ⟨s.map fun c => .str [c], none⟩
  | .ref a => do
    match ← CM.get a with
    | .lst ds => pure ⟨ds, some (a, .lst ds)⟩
    | .frz ds => pure ⟨ds, some (a, .frz ds)⟩
    | _ => CM.fail
  | _ => CM.fail
def methOf (g : G) (c m : String) : Option String := (g.cls c).bind fun k => k.meths.lookup m
mutual
def ev (g : G) (cl : Cls) (ρ : Env) : CE → CM D
  | .loc i => getLoc ρ i
  | .cst d => pure d
  | .glb x => CM.opt (g.glb x)
  | .tup es => do
    let ds ← evs g cl ρ es
    CM.ask (decide (ds.length ≤ lim))
    pure (.tup ds)
  | .lst es => do
    let ds ← evs g cl ρ es
    CM.ask (decide (ds.length ≤ lim))
    CM.new (.lst ds)
  | .dic t kvs => do
    match ← CM.new (.dic t []) with
    | .ref p => do
      let ps ← evKV g cl ρ kvs
      match ← CM.get p with
      | .dic _ [] => do
        CM.ask (ps.all (fun q => q.1.isK t) && decide (ps.length ≤ 15))
        CM.put p (.dic t (ps.foldl (fun m q => Sb.putK q.1 q.2 m) []))
        pure (.ref p)
      | _ => CM.fail
    | _ => CM.fail
  | .bin op a b => do
    let x ← ev g cl ρ a
    let y ← ev g cl ρ b
    bop op x y
  | .neg a => do
    match ← ev g cl ρ a with
    | .int i => pure (.int (-i))
    | _ => CM.fail
  | .cmp op a b => do
    let x ← ev g cl ρ a
    let y ← ev g cl ρ b
    let r ← cop op x y
    pure (.bl r)
  | .cmp2 op1 op2 a b c => do
    let x ← ev g cl ρ a
    let y ← ev g cl ρ b
    match ← cop op1 x y with
    | false => pure (.bl false)
    | true => do
      let z ← ev g cl ρ c
      let r ← cop op2 y z
      pure (.bl r)
  | .and a b => do
    match ← ev g cl ρ a with
    | .bl false => pure (.bl false)
    | .bl true => ev g cl ρ b
    | _ => CM.fail
  | .or a b => do
    match ← ev g cl ρ a with
    | .bl true => pure (.bl true)
    | .bl false => ev g cl ρ b
    | _ => CM.fail
  | .not a => do
    let x ← ev g cl ρ a
    let r ← truth x
    pure (.bl (!r))
  | .ite c a b => do
    let x ← ev g cl ρ c
    match ← truth x with
    | true => ev g cl ρ a
    | false => ev g cl ρ b
  | .idx a b => do
    let x ← ev g cl ρ a
    let y ← ev g cl ρ b
    index x y
  | .slc a lo hi => do
    let x ← ev g cl ρ a
    let l ← ev g cl ρ lo
    let l' ← part lo.isNon l
    let h ← ev g cl ρ hi
    let h' ← part hi.isNon h
    slice x l' h'
  | .rev a => do
    match ← ev g cl ρ a with
    | .ref p => do
      let ds ← items p
      CM.new (.lst ds.reverse)
    | _ => CM.fail
  | .att a f => do
    let x ← ev g cl ρ a
    attr g.na x f
  | .call f es => do
    let ds ← evs g cl ρ es
    cl f ds
  | .make c es => do
    let ds ← evs g cl ρ es
    match methOf g c "__init__" with
    | some f => do
      let p ← CM.new (.ins c [])
      match ← quiet (cl f (p :: ds)) with
      | .non => pure p
      | _ => CM.fail
    | none => CM.fail
  | .blt f es => do
    let ds ← evs g cl ρ es
    blt f ds
  | .isi a T => do
    let x ← ev g cl ρ a
    fun M => match isInst M x T with
      | some b => .ok (.bl b) M
      | none => .no
  | .met o m es => do
    let x ← ev g cl ρ o
    match x with
    | .str s => do
      CM.ask (smt m)
      let ds ← evs g cl ρ es
      strMeth s m ds
    | .ref a => do
      match ← CM.get a with
      | .ins c fs => do
        CM.ask (getF m fs).isNone
        match methOf g c m with
        | some f => do
          let ds ← evs g cl ρ es
          cl f (x :: ds)
        | none => CM.fail
      | .lst _ => do
        CM.ask (lmt m)
        let ds ← evs g cl ρ es
        match ← CM.get a with
        | .lst xs => lstMeth a xs m ds
        | _ => CM.fail
      | .dic _ _ => do
        CM.ask (dmt m)
        let ds ← evs g cl ρ es
        match ← CM.get a with
        | .dic t kvs => dicMeth a t kvs m ds
        | _ => CM.fail
      | _ => CM.fail
    | _ => CM.fail
  | .comp tg it c e => do
    let w ← evI g cl ρ it
    match ← CM.new (.lst []) with
    | .ref p => do
      quiet (compD w tg (wipeE ρ tg.slots) (fun ρ => do let x ← ev g cl ρ c; truth x) (fun ρ => ev g cl ρ e) p w.its)
      pure (.ref p)
    | _ => CM.fail
  | .dcomp t tg it k v => do
    let w ← evI g cl ρ it
    match ← CM.new (.dic t []) with
    | .ref p => do
      quiet (dcompD w tg (wipeE ρ tg.slots) (fun ρ => ev g cl ρ k) (fun ρ => ev g cl ρ v) p w.its)
      pure (.ref p)
    | _ => CM.fail
  | .srt a f rev => do
    match ← ev g cl ρ a with
    | .ref p => do
      let ds ← allItems (.ref p)
      let ks ← quiet (keysOf cl f ds)
      sorted rev ks ds
    | _ => CM.fail
def evs (g : G) (cl : Cls) (ρ : Env) : CEs → CM (List D)
  | .nil => pure []
  | .cons e es => do
    let d ← ev g cl ρ e
    let ds ← evs g cl ρ es
    pure (d :: ds)
def evKV (g : G) (cl : Cls) (ρ : Env) : CEs → CM (List (D × D))
  | .nil => pure []
  | .cons k (.cons v r) => do
    let kd ← ev g cl ρ k
    let vd ← ev g cl ρ v
    let ps ← evKV g cl ρ r
    pure ((kd, vd) :: ps)
  | .cons _ .nil => CM.fail
def evI (g : G) (cl : Cls) (ρ : Env) : CI → CM Wk
  | .seq e => do
    let x ← ev g cl ρ e
    seqWk x
  | .rng a b => do
    let x ← ev g cl ρ a
    let y ← ev g cl ρ b
    match x, y with
    | .int i, .int j => do
      CM.ask (big62 i && big62 j)
      pure ⟨rangeD i j, none⟩
    | _, _ => CM.fail
  | .items e => CM.fail
  | .values e => CM.fail
  | .enum e => do
    match ← ev g cl ρ e with
    | .ref a => do
      match ← CM.get a with
      | .lst ds => pure ⟨enumD 0 ds, some (a, .lst ds)⟩
      | .frz ds => pure ⟨enumD 0 ds, some (a, .frz ds)⟩
      | _ => CM.fail
    | _ => CM.fail
end
def evT (g : G) (cl : Cls) (e : CE) (ρ : Env) : CM Bool := do
  let x ← ev g cl ρ e
  truth x
def store (g : G) (cl : Cls) (ρ : Env) (v : D) : Tt → CM Env
  | .loc i => setLoc ρ i v
  | .tup is => do
    let ds ← unpack v
    setLocs ρ is ds
  | .att o f => do
    let x ← ev g cl ρ o
    setAttr g.na x f v
    pure ρ
  | .idx o i => do
    let x ← ev g cl ρ o
    let k ← ev g cl ρ i
    setItem x k v
    pure ρ
def isSub (g : G) (c d : String) : Bool := c == d || ((g.cls c).map fun k => k.sup.contains d).getD false
def exOf (g : G) (c : String) (ds : List D) : Option Ex := (g.cls c).bind fun k => match k.meths.lookup "__fields__" with
  | none => if ds.isEmpty then some ⟨c, []⟩ else none
  | some fs => let names := fs.splitOn ","; if names.length = ds.length then some ⟨c, names.zip ds⟩ else none
mutual
def ex (g : G) (cl : Cls) (ρ : Env) : CS → CM Fl
  | .asg t e => do
    let v ← ev g cl ρ e
    let ρ' ← store g cl ρ v t
    pure (.nx ρ')
  | .par i j a b => do
    let x ← ev g cl ρ a
    let y ← ev g cl ρ b
    let ρ' ← setLocs ρ [i, j] [x, y]
    pure (.nx ρ')
  | .aug i op e => do
    let x ← getLoc ρ i
    let y ← ev g cl ρ e
    match op, x, y with
    | .add, .int p, .int q => do
      let ρ' ← setLoc ρ i (.int (p + q))
      pure (.nx ρ')
    | .sub, .int p, .int q => do
      let ρ' ← setLoc ρ i (.int (p - q))
      pure (.nx ρ')
    | _, _, _ => CM.fail
  | .augA o f op e => do
    let p ← ev g cl ρ o
    let c1 ← clsOf p
    let x ← attr g.na p f
    let y ← ev g cl ρ e
    let c2 ← clsOf p
    CM.ask (decide (c1 = c2))
    match op, x, y with
    | .add, .int a, .int b => do
      setAttr g.na p f (.int (a + b))
      pure (.nx ρ)
    | .sub, .int a, .int b => do
      setAttr g.na p f (.int (a - b))
      pure (.nx ρ)
    | _, _, _ => CM.fail
  | .exp e => do
    let _ ← ev g cl ρ e
    pure (.nx ρ)
  | .ret e => do
    let v ← ev g cl ρ e
    pure (.rt v)
  | .iff c a b => do
    match ← evT g cl c ρ with
    | true => exs g cl ρ a
    | false => exs g cl ρ b
  | .for tg it body => do
    let w ← evI g cl ρ it
    forD w tg (fun ρ => exs g cl ρ body) w.its ρ
  | .whl c body => whileD (evT g cl c) (fun ρ => exs g cl ρ body) wmax ρ
  | .brk => pure (.bk ρ)
  | .cnt => pure (.ct ρ)
  | .pas => pure (.nx ρ)
  | .del o i => do
    let x ← ev g cl ρ o
    let k ← ev g cl ρ i
    delItem x k
    pure (.nx ρ)
  | .rais c es => do
    let ds ← evs g cl ρ es
    match exOf g c ds with
    | some e => CM.raise e
    | none => CM.fail
  | .tri body c n h => fun M => match exs g cl ρ body M with
    | .ex e M' => if isSub g e.cls c = true then (match n with
      | none => exs g cl ρ h M'
      | some i => .no) else .ex e M'
    | r => r
def exs (g : G) (cl : Cls) (ρ : Env) : CSs → CM Fl
  | .nil => pure (.nx ρ)
  | .cons s ss => do
    match ← ex g cl ρ s with
    | .nx ρ' => exs g cl ρ' ss
    | f => pure f
end
def runFn (g : G) (cl : Cls) (f : Fn) (ds : List D) : CM D := do
  CM.ask (decide (ds.length ≤ f.pn ∧ f.pn ≤ ds.length + f.dfl.length ∧ f.pn ≤ f.n))
  match ← exs g cl (((ds ++ f.dfl.drop (ds.length + f.dfl.length - f.pn)).map some) ++ List.replicate (f.n - f.pn) none) f.body with
  | .rt d => pure d
  | .nx _ => pure .non
  | _ => CM.fail
def evCall (g : G) : Nat → Cls
  | 0 => fun _ _ => CM.fail
  | k + 1 => fun f ds => match g.fn f with
    | some fd => runFn g (evCall g k) fd ds
    | none => CM.fail
end Sb
end
section
set_option Elab.async false
set_option linter.all false
set_option maxRecDepth 100000
namespace Sb
open PySem PySem.Spec PyProof.Rows L2
abbrev Frag := PySem.W.Frag
structure Gd where
  P : Program
  w : World
  K : Frag
abbrev _root_.L2.Cx.gd (X : Cx) : Gd := ⟨X.prog, X.w, X.K⟩
def toS (s : Txt) : Str := ⟨s.toArray⟩
def okTxt (s : Txt) : Prop := ∀ c ∈ s, c < 1114112
theorem toS_inj {a b : Txt} (h : toS a = toS b) : a = b := by
  have h1 : a.toArray = b.toArray := congrArg Str.cps h
  simpa using congrArg Array.toList h1
theorem toS_cps (s : Txt) : (toS s).cps.toList = s := by simp [toS]
def SqF (K : Frag) (H : Hp) (a : Addr) (xs : List V) : Prop :=
  (∃ ob, H a = some (.frz ob (.lst xs))) ∨ ∃ o its n, List.lookup a K = some o ∧ o.cls = Value.type "list" ∧ o.dict = none ∧ o.data = Data.seq its n ∧ its.size ≤ sizeLine ∧ Vals xs its.toList
theorem SqF.sq {K : Frag} {H : Hp} {a : Addr} {xs : List V} (h : SqF K H a xs) : SqL K H a xs := h.imp (fun z => .inr z) id
mutual
inductive RV (K : Frag) (α : List Addr) (H : Hp) : D → V → Prop
  | non : RV K α H .non .non
  | bl (b : Bool) : RV K α H (.bl b) (.bl b)
  | int (i : Int) : RV K α H (.int i) (.int i)
  | str {s : Txt} : okTxt s → s.length ≤ sizeLine → RV K α H (.str s) (.str (toS s))
  | tup {ds : List D} {a : Addr} {xs : List V} : SqT K H a xs → RVs K α H ds xs → RV K α H (.tup ds) (.ref a)
  | ref {i : Nat} {a : Addr} : α[i]? = some a → RV K α H (.ref i) (.ref a)
  | rol {ds : List D} {a : Addr} {xs : List V} : SqF K H a xs → RVs K α H ds xs → RV K α H (.rol ds) (.ref a)
inductive RVs (K : Frag) (α : List Addr) (H : Hp) : List D → List V → Prop
  | nil : RVs K α H [] []
  | cons {d : D} {v : V} {ds : List D} {vs : List V} : RV K α H d v → RVs K α H ds vs → RVs K α H (d :: ds) (v :: vs)
end
structure Nx (K : Frag) (α : List Addr) (H : Hp) (α' : List Addr) (H' : Hp) : Prop where
  pre : ∃ β, α' = α ++ β
  tup : ∀ a xs, SqT K H a xs → SqT K H' a xs
  frz : ∀ a ob u, H a = some (.frz ob u) → H' a = some (.frz ob u)
theorem Nx.refl {K : Frag} {α : List Addr} {H : Hp} : Nx K α H α H := ⟨⟨[], by simp⟩, fun _ _ h => h, fun _ _ _ h => h⟩
theorem Nx.trans {K : Frag} {α α1 α2 : List Addr} {H H1 H2 : Hp} (a : Nx K α H α1 H1) (b : Nx K α1 H1 α2 H2) : Nx K α H α2 H2 := by
  obtain ⟨⟨β, rfl⟩, t, f⟩ := a
  obtain ⟨⟨γ, rfl⟩, u, k⟩ := b
  exact ⟨⟨β ++ γ, by simp⟩, fun a xs h => u a xs (t a xs h), fun a o z h => k a o z (f a o z h)⟩
theorem Nx.get {K : Frag} {α α' : List Addr} {H H' : Hp} (n : Nx K α H α' H') {i : Nat} {a : Addr} (h : α[i]? = some a) : α'[i]? = some a := by
  obtain ⟨⟨β, rfl⟩, _, _⟩ := n
  rw [List.getElem?_append_left (List.getElem?_eq_some_iff.mp h).1]
  exact h
theorem Nx.rol {K : Frag} {α α' : List Addr} {H H' : Hp} (n : Nx K α H α' H') {a : Addr} {xs : List V} (h : SqF K H a xs) : SqF K H' a xs := h.imp (fun ⟨ob, e⟩ => ⟨ob, n.frz _ _ _ e⟩) id
mutual
theorem RV.mono {K : Frag} {α α' : List Addr} {H H' : Hp} (n : Nx K α H α' H') : ∀ {d : D} {v : V}, RV K α H d v → RV K α' H' d v
  | _, _, .non => .non
  | _, _, .bl b => .bl b
  | _, _, .int i => .int i
  | _, _, .str h z => .str h z
  | _, _, .tup h hs => .tup (n.tup _ _ h) (RVs.mono n hs)
  | _, _, .ref h => .ref (n.get h)
  | _, _, .rol h hs => .rol (n.rol h) (RVs.mono n hs)
theorem RVs.mono {K : Frag} {α α' : List Addr} {H H' : Hp} (n : Nx K α H α' H') : ∀ {ds : List D} {vs : List V}, RVs K α H ds vs → RVs K α' H' ds vs
  | _, _, .nil => .nil
  | _, _, .cons h hs => .cons (RV.mono n h) (RVs.mono n hs)
end
section
variable {K : Frag} {α : List Addr} {H : Hp}
theorem RVs.length : ∀ {ds : List D} {vs : List V}, RVs K α H ds vs → ds.length = vs.length
  | _, _, .nil => rfl
  | _, _, .cons _ hs => congrArg (· + 1) hs.length
theorem RVs.get : ∀ {ds : List D} {vs : List V} {i : Nat} {d : D}, RVs K α H ds vs → ds[i]? = some d → ∃ v, vs[i]? = some v ∧ RV K α H d v
  | _, _, 0, d, .cons h _, e => by simp at e; subst e; exact ⟨_, rfl, h⟩
  | _, _, i + 1, d, .cons _ t, e => by
    obtain ⟨v, h1, h2⟩ := RVs.get (i := i) t (by simpa using e)
    exact ⟨v, by simpa using h1, h2⟩
theorem RVs.append : ∀ {ds es : List D} {vs ws : List V}, RVs K α H ds vs → RVs K α H es ws → RVs K α H (ds ++ es) (vs ++ ws)
  | _, _, _, _, .nil, s => s
  | _, _, _, _, .cons h t, s => .cons h (RVs.append t s)
theorem RVs.take : ∀ {ds : List D} {vs : List V} (n : Nat), RVs K α H ds vs → RVs K α H (ds.take n) (vs.take n)
  | _, _, 0, _ => .nil
  | _, _, _ + 1, .nil => .nil
  | _, _, n + 1, .cons h t => .cons h (RVs.take n t)
theorem RVs.drop : ∀ {ds : List D} {vs : List V} (n : Nat), RVs K α H ds vs → RVs K α H (ds.drop n) (vs.drop n)
  | _, _, 0, h => h
  | _, _, _ + 1, .nil => .nil
  | _, _, n + 1, .cons _ t => RVs.drop n t
theorem RVs.set : ∀ {ds : List D} {vs : List V} (i : Nat) {d : D} {v : V}, RVs K α H ds vs → RV K α H d v → RVs K α H (ds.set i d) (vs.set i v)
  | _, _, _, _, _, .nil, _ => .nil
  | _, _, 0, _, _, .cons _ t, r => .cons r t
  | _, _, i + 1, _, _, .cons h t, r => .cons h (RVs.set i t r)
theorem RVs.dropLast {ds : List D} {vs : List V} (h : RVs K α H ds vs) : RVs K α H ds.dropLast vs.dropLast := by
  rw [List.dropLast_eq_take, List.dropLast_eq_take, h.length]
  exact h.take _
theorem RVs.eraseIdx : ∀ {ds : List D} {vs : List V} (i : Nat), RVs K α H ds vs → RVs K α H (ds.eraseIdx i) (vs.eraseIdx i)
  | _, _, _, .nil => .nil
  | _, _, 0, .cons _ t => t
  | _, _, i + 1, .cons h t => .cons h (RVs.eraseIdx i t)
theorem RVs.reverse {ds : List D} {vs : List V} (h : RVs K α H ds vs) : RVs K α H ds.reverse vs.reverse := by
  induction ds generalizing vs with
  | nil => cases h; exact .nil
  | cons d ds ih =>
    cases h with
    | cons h t => simpa using (ih t).append (.cons h .nil)
theorem RVs.of_mem {ds : List D} {vs : List V} (h : RVs K α H ds vs) {d : D} (m : d ∈ ds) : ∃ v ∈ vs, RV K α H d v := by
  obtain ⟨i, hi, e⟩ := List.mem_iff_getElem.mp m
  obtain ⟨v, e1, r⟩ := h.get (i := i) (d := d) (by rw [List.getElem?_eq_getElem hi, e])
  exact ⟨v, List.mem_of_getElem? e1, r⟩
end
def cad (K : Frag) (c : String) : Addr := He.ga K (Str.ofString c)
inductive RK : D → Key → Prop
  | int (i : Int) : RK (.int i) (.inl i)
  | str {s : Txt} : okTxt s → s.length ≤ sizeLine → RK (.str s) (.inr (toS s))
theorem RK.inj {a b : D} {k : Key} (x : RK a k) (y : RK b k) : a = b := by
  cases x with
  | int i => cases y; rfl
  | str h z =>
    rename_i s
    generalize hk : (Sum.inr (toS s) : Key) = k at y
    cases y with
    | int => cases hk
    | str h' z' => rw [toS_inj (Sum.inr.inj hk)]
theorem RK.fn {a : D} {k l : Key} (x : RK a k) (y : RK a l) : k = l := by
  cases x <;> cases y <;> rfl
def RDk (Γ : Gd) (α : List Addr) (H : Hp) (kvs : List (D × D)) (o : HO) : Prop :=
  ∃ kws, o = .dK kws ∧ Paired (fun (p : D × D) (q : Key × V) => RK p.1 q.1 ∧ RV Γ.K α H p.2 q.2) kvs kws
def RDt (Γ : Gd) (α : List Addr) (H : Hp) (a : Addr) (kvs : List (D × D)) (o : HO) : Prop := False
def RD (Γ : Gd) (α : List Addr) (H : Hp) (a : Addr) : Bool → List (D × D) → HO → Prop
  | false, kvs, o => RDk Γ α H kvs o
  | true, kvs, o => RDt Γ α H a kvs o
def RF (K : Frag) (α : List Addr) (H : Hp) : List (String × D) → List (Str × V) → Prop := Paired fun p q => Str.ofString p.1 = q.1 ∧ RV K α H p.2 q.2
def RO (Γ : Gd) (α : List Addr) (H : Hp) (a : Addr) : Ob → Prop
  | .lst ds => ∃ xs, H a = some (.lst xs) ∧ RVs Γ.K α H ds xs
  | .frz ds => ∃ ob xs, H a = some (.frz ob (.lst xs)) ∧ RVs Γ.K α H ds xs
  | .dic t kvs => ∃ o, H a = some o ∧ RD Γ α H a t kvs o
  | .lok t kvs => ∃ ob o, H a = some (.frz ob o) ∧ RD Γ α H a t kvs o
  | .set ds => False
  | .ins c fs => ∃ dx gs, H a = some (.ins (cad Γ.K c) dx gs) ∧ RF Γ.K α H fs gs
theorem Paired.imp {α β : Type} {F G : α → β → Prop} (f : ∀ a b, F a b → G a b) : ∀ {l₁ : List α} {l₂ : List β}, Paired F l₁ l₂ → Paired G l₁ l₂
  | _, _, .nil => .nil
  | _, _, .cons r t => .cons (f _ _ r) (Paired.imp f t)
theorem RD.mono {Γ : Gd} {α α' : List Addr} {H H' : Hp} (n : Nx Γ.K α H α' H') {a : Addr} : ∀ {t : Bool} {kvs : List (D × D)} {o : HO}, RD Γ α H a t kvs o → RD Γ α' H' a t kvs o
  | false, _, _, h => by
    obtain ⟨kws, e, p⟩ := h
    exact ⟨kws, e, Paired.imp (fun _ _ z => ⟨z.1, z.2.mono n⟩) p⟩
  | true, _, _, h => h.elim
theorem RF.mono {K : Frag} {α α' : List Addr} {H H' : Hp} (n : Nx K α H α' H') {fs : List (String × D)} {gs : List (Str × V)} (h : RF K α H fs gs) : RF K α' H' fs gs := Paired.imp (fun _ _ z => ⟨z.1, z.2.mono n⟩) h
theorem RO.there {Γ : Gd} {α : List Addr} {H : Hp} {a : Addr} {o : Ob} (h : RO Γ α H a o) : ∃ u, H a = some u := by
  cases o with
  | lst ds => obtain ⟨xs, e, _⟩ := h; exact ⟨_, e⟩
  | frz ds => obtain ⟨_, xs, e, _⟩ := h; exact ⟨_, e⟩
  | dic t kvs => obtain ⟨_, e, _⟩ := h; exact ⟨_, e⟩
  | lok t kvs => obtain ⟨_, _, e, _⟩ := h; exact ⟨_, e⟩
  | set ds => exact h.elim
  | ins c fs => obtain ⟨_, _, e, _⟩ := h; exact ⟨_, e⟩
theorem RO.mono {Γ : Gd} {α α' : List Addr} {H H' : Hp} {a : Addr} {o : Ob} (n : Nx Γ.K α H α' H') (e : H' a = H a) (h : RO Γ α H a o) : RO Γ α' H' a o := by
  cases o with
  | lst ds => obtain ⟨xs, q, r⟩ := h; exact ⟨xs, e.trans q, r.mono n⟩
  | frz ds => obtain ⟨ob, xs, q, r⟩ := h; exact ⟨ob, xs, e.trans q, r.mono n⟩
  | dic t kvs => obtain ⟨o, q, r⟩ := h; exact ⟨o, e.trans q, r.mono n⟩
  | lok t kvs => obtain ⟨ob, o, q, r⟩ := h; exact ⟨ob, o, e.trans q, r.mono n⟩
  | set ds => exact h.elim
  | ins c fs => obtain ⟨dx, gs, q, r⟩ := h; exact ⟨dx, gs, e.trans q, r.mono n⟩
structure RH (Γ : Gd) (α : List Addr) (M : List Ob) (H : Hp) : Prop where
  len : α.length = M.length
  nd : α.Nodup
  ob : ∀ (i : Nat) (o : Ob) (a : Addr), M[i]? = some o → α[i]? = some a → RO Γ α H a o
section
variable {Γ : Gd} {α : List Addr} {M : List Ob} {H H' : Hp}
theorem RH.at (h : RH Γ α M H) {i : Nat} {o : Ob} (e : M[i]? = some o) : ∃ a, α[i]? = some a ∧ RO Γ α H a o := by
  have hi : i < α.length := by rw [h.len]; exact (List.getElem?_eq_some_iff.mp e).1
  exact ⟨α[i], by simp [hi], h.ob i o _ e (by simp [hi])⟩
theorem RH.there (h : RH Γ α M H) {i : Nat} {a : Addr} (e : α[i]? = some a) : ∃ u, H a = some u := by
  have hi : i < M.length := by rw [← h.len]; exact (List.getElem?_eq_some_iff.mp e).1
  exact (h.ob i M[i] a (by simp [hi]) e).there
theorem RH.fresh (h : RH Γ α M H) {p : Addr} (n : H p = none) : p ∉ α := fun m => by
  obtain ⟨i, hi, e⟩ := List.mem_iff_getElem.mp m
  obtain ⟨u, q⟩ := h.there (i := i) (a := p) (by rw [List.getElem?_eq_getElem hi, e])
  rw [n] at q; cases q
theorem SqT.upd {a p : Addr} {xs : List V} {o : HO} (h : SqT Γ.K H a xs) (n : ∀ u, H p = some u → (∀ ys, u ≠ .tup ys) ∧ ∀ ob ys, u ≠ .frz ob (.tup ys)) : SqT Γ.K (upd H p o) a xs := by
  rcases h with (h | ⟨ob, h⟩) | h
  · exact .inl (.inl (by rw [upd_ne]; exact h; rintro rfl; exact (n _ h).1 _ rfl))
  · exact .inl (.inr ⟨ob, by rw [upd_ne]; exact h; rintro rfl; exact (n _ h).2 _ _ rfl⟩)
  · exact .inr h
theorem nx_fresh {p : Addr} {o : HO} (n : H p = none) : Nx Γ.K α H α (upd H p o) := ⟨⟨[], by simp⟩, fun a xs h => SqT.upd h fun u e => by (rw [n] at e; cases e), fun a ob u h => by
  rw [upd_ne]; exact h; rintro rfl; rw [n] at h; cases h⟩
theorem nx_new {p : Addr} {o : HO} (n : H p = none) : Nx Γ.K α H (α ++ [p]) (upd H p o) := ⟨⟨[p], rfl⟩, fun a xs h => SqT.upd h fun u e => by (rw [n] at e; cases e), fun a ob u h => by
  rw [upd_ne]; exact h; rintro rfl; rw [n] at h; cases h⟩
theorem RH.move (h : RH Γ α M H) (n : Nx Γ.K α H α H') (e : ∀ a ∈ α, H' a = H a) : RH Γ α M H' :=
  ⟨h.len, h.nd, fun i o a e1 e2 => (h.ob i o a e1 e2).mono n (e a (List.mem_of_getElem? e2))⟩
theorem RH.tup {p : Addr} {xs : List V} (h : RH Γ α M H) (n : H p = none) : RH Γ α M (upd H p (.tup xs)) :=
  h.move (nx_fresh n) fun a m => upd_ne fun e => h.fresh n (e ▸ m)
theorem RH.new {p : Addr} {o : Ob} {u : HO} (h : RH Γ α M H) (n : H p = none) (r : RO Γ (α ++ [p]) (upd H p u) p o) : RH Γ (α ++ [p]) (M ++ [o]) (upd H p u) := by
  have hf := h.fresh n
  refine ⟨by simp [h.len], ?_, fun i o' a e1 e2 => ?_⟩
  · rw [List.nodup_append]
    exact ⟨h.nd, by simp, fun a m b mb => by
      rw [List.mem_singleton] at mb
      rintro rfl
      exact hf (mb ▸ m)⟩
  · by_cases hi : i < M.length
    · rw [List.getElem?_append_left hi] at e1
      rw [List.getElem?_append_left (by rw [h.len]; exact hi)] at e2
      exact (h.ob i o' a e1 e2).mono (nx_new n) (upd_ne fun e => hf (e ▸ List.mem_of_getElem? e2))
    · have hi2 : i = M.length := by
        have := (List.getElem?_eq_some_iff.mp e1).1
        simp at this; omega
      subst hi2
      rw [List.getElem?_append_right (Nat.le_refl _)] at e1
      rw [← h.len, List.getElem?_append_right (Nat.le_refl _)] at e2
      simp at e1 e2
      rw [← e1, ← e2]; exact r
theorem RH.put {i : Nat} {a : Addr} {o : Ob} {u : HO} (h : RH Γ α M H) (e : α[i]? = some a) (n : Nx Γ.K α H α (upd H a u)) (r : RO Γ α (upd H a u) a o) : RH Γ α (M.set i o) (upd H a u) := by
  refine ⟨by simp [h.len], h.nd, fun j o' b e1 e2 => ?_⟩
  by_cases hj : j = i
  · subst hj
    rw [e] at e2; cases e2
    have hl : j < M.length := by rw [← h.len]; exact (List.getElem?_eq_some_iff.mp e).1
    rw [List.getElem?_set_self hl] at e1
    cases e1
    exact r
  · rw [List.getElem?_set_ne (Ne.symm hj)] at e1
    refine (h.ob j o' b e1 e2).mono n (upd_ne ?_)
    rintro rfl
    exact hj (nodup_ix' h.nd e2 e)
where
  nodup_ix' {N : List Addr} (hN : N.Nodup) {i j : Nat} {x : Addr} (a : N[i]? = Option.some x) (b : N[j]? = Option.some x) : i = j := by
    obtain ⟨h1, e1⟩ := List.getElem?_eq_some_iff.mp a
    obtain ⟨h2, e2⟩ := List.getElem?_eq_some_iff.mp b
    exact (List.getElem_inj hN).mp (e1.trans e2.symm)
theorem nx_put {a : Addr} {u w : HO} (e : H a = some w) (h : (∀ ys, w ≠ .tup ys) ∧ ∀ ob ys, w ≠ .frz ob ys) : Nx Γ.K α H α (upd H a u) :=
  ⟨⟨[], by simp⟩, fun b xs q => SqT.upd q fun v z => by (rw [e] at z; cases z; exact ⟨h.1, fun ob ys => h.2 ob _⟩), fun b ob z q => by
    rw [upd_ne]; exact q; rintro rfl; rw [e] at q; cases q; exact (h.2 _ _ rfl).elim⟩
end
def RX (K : Frag) (α : List Addr) (H : Hp) (e : Ex) (cls : Value) (d : Option Addr) : Prop :=
  cls = .ref (cad K e.cls) ∧ ((e.fs = [] ∧ d = none) ∨ ∃ dx gs, d = some dx ∧ H dx = some (.xd gs) ∧ RF K α H e.fs gs)
abbrev XW := Value → Option Addr → Hp → Prop
def Ho {A B : Type} (Γ : Gd) (W : XW) (R : List Addr → Hp → A → B → Prop) (r : Res A) (α : List Addr) (H : Hp) (Q : B → Hp → Prop) : Prop :=
  match r with
  | .ok a M' => ∀ α' b H', Nx Γ.K α H α' H' → RH Γ α' M' H' → R α' H' a b → Q b H'
  | .ex e M' => ∀ α' cls d H', Nx Γ.K α H α' H' → RH Γ α' M' H' → RX Γ.K α' H' e cls d → W cls d H'
  | .no => False
theorem Ho.nx {A B : Type} {Γ : Gd} {W : XW} {R : List Addr → Hp → A → B → Prop} {r : Res A} {α α1 : List Addr} {H H1 : Hp} {Q : B → Hp → Prop} (n : Nx Γ.K α H α1 H1) (h : Ho Γ W R r α H Q) : Ho Γ W R r α1 H1 Q := by
  cases r with
  | ok a M' => exact fun α' b H' n' => h α' b H' (n.trans n')
  | ex e M' => exact fun α' c d H' n' => h α' c d H' (n.trans n')
  | no => exact h
end Sb
end
section
set_option Elab.async false
set_option linter.all false
set_option maxRecDepth 100000
set_option maxHeartbeats 2000000
namespace Sb
open PySem PySem.Spec PyProof.Rows L2
theorem lim_eq : lim = sizeLine := by rw [sizeLine_eq]; rfl
section
variable {Γ : Gd} {A B C : Type} {W : XW} {α : List Addr} {H : Hp}
@[simp] theorem CM.pure_run {A : Type} (a : A) (M : List Ob) : (pure a : CM A) M = .ok a M := rfl
theorem CM.bind_run {A B : Type} (m : CM A) (f : A → CM B) (M : List Ob) : (m >>= f) M = match m M with
  | .ok a M' => f a M'
  | .ex e M' => .ex e M'
  | .no => .no := rfl
theorem Ho.pure {R : List Addr → Hp → A → B → Prop} {a : A} {b : B} {M : List Ob} {Q : B → Hp → Prop} (rh : RH Γ α M H) (h : Ho Γ W R ((Pure.pure a : CM A) M) α H Q) (r : R α H a b) : Q b H := h α b H .refl rh r
theorem Ho.ok {R : List Addr → Hp → A → B → Prop} {a : A} {b : B} {M' : List Ob} {α' : List Addr} {H' : Hp} {Q : B → Hp → Prop} (h : Ho Γ W R (.ok a M') α H Q) (n : Nx Γ.K α H α' H') (rh : RH Γ α' M' H') (r : R α' H' a b) : Q b H' := h α' b H' n rh r
theorem Ho.bind {A' : Type} {R : List Addr → Hp → A → A' → Prop} {R' : List Addr → Hp → B → C → Prop} {m : CM A} {f : A → CM B} {M : List Ob} {Q : C → Hp → Prop} (h : Ho Γ W R' ((m >>= f) M) α H Q) :
    Ho Γ W R (m M) α H (fun b H1 => ∃ a M1 α1, Nx Γ.K α H α1 H1 ∧ RH Γ α1 M1 H1 ∧ R α1 H1 a b ∧ Ho Γ W R' (f a M1) α1 H1 Q) := by
  rw [CM.bind_run] at h
  cases e : m M with
  | ok a M' =>
    rw [e] at h
    exact fun α' b H' n rh r => ⟨a, M', α', n, rh, r, Ho.nx n h⟩
  | ex x M' =>
    rw [e] at h
    exact h
  | no =>
    rw [e] at h
    exact h.elim
theorem Ho.bind0 {R' : List Addr → Hp → B → C → Prop} {m : CM A} {f : A → CM B} {M : List Ob} {Q : C → Hp → Prop} {a : A} {M1 : List Ob} (e : m M = .ok a M1) (h : Ho Γ W R' ((m >>= f) M) α H Q) : Ho Γ W R' (f a M1) α H Q := by
  rw [CM.bind_run, e] at h
  exact h
theorem ask_run {p : Bool} {f : Unit → CM A} {R : List Addr → Hp → A → B → Prop} {M : List Ob} {Q : B → Hp → Prop} (h : Ho Γ W R ((CM.ask p >>= f) M) α H Q) : p = true ∧ Ho Γ W R (f () M) α H Q := by
  rw [CM.bind_run] at h
  unfold CM.ask at h
  by_cases hp : p = true
  · rw [if_pos hp] at h; exact ⟨hp, h⟩
  · rw [if_neg hp] at h; exact h.elim
theorem ask_runD {p : Prop} [Decidable p] {f : Unit → CM A} {R : List Addr → Hp → A → B → Prop} {M : List Ob} {Q : B → Hp → Prop} (h : Ho Γ W R ((CM.ask (decide p) >>= f) M) α H Q) : p ∧ Ho Γ W R (f () M) α H Q := by
  obtain ⟨h1, h2⟩ := ask_run h
  exact ⟨of_decide_eq_true h1, h2⟩
theorem opt_run {o : Option A} {R : List Addr → Hp → A → B → Prop} {M : List Ob} {Q : B → Hp → Prop} (h : Ho Γ W R (CM.opt o M) α H Q) : ∃ a, o = some a ∧ Ho Γ W R (.ok a M) α H Q := by
  cases o with
  | none => exact h.elim
  | some a => exact ⟨a, rfl, h⟩
theorem opt_bind {o : Option A} {f : A → CM B} {R : List Addr → Hp → B → C → Prop} {M : List Ob} {Q : C → Hp → Prop} (h : Ho Γ W R ((CM.opt o >>= f) M) α H Q) : ∃ a, o = some a ∧ Ho Γ W R (f a M) α H Q := by
  cases o with
  | none => exact h.elim
  | some a => exact ⟨a, rfl, h⟩
theorem fail_run {R : List Addr → Hp → A → B → Prop} {M : List Ob} {Q : B → Hp → Prop} (h : Ho Γ W R ((CM.fail : CM A) M) α H Q) : False := h
theorem get_bind {i : Nat} {f : Ob → CM A} {R : List Addr → Hp → A → B → Prop} {M : List Ob} {Q : B → Hp → Prop} (h : Ho Γ W R ((CM.get i >>= f) M) α H Q) : ∃ o, M[i]? = some o ∧ Ho Γ W R (f o M) α H Q := by
  rw [CM.bind_run] at h
  unfold CM.get at h
  cases e : M[i]? with
  | none => rw [e] at h; exact h.elim
  | some o => rw [e] at h; exact ⟨o, rfl, h⟩
theorem items_bind {i : Nat} {f : List D → CM A} {R : List Addr → Hp → A → B → Prop} {M : List Ob} {Q : B → Hp → Prop} (h : Ho Γ W R ((items i >>= f) M) α H Q) : ∃ ds, (M[i]? = some (.lst ds) ∨ M[i]? = some (.frz ds)) ∧ Ho Γ W R (f ds M) α H Q := by
  unfold items at h
  rw [CM.bind_run, CM.bind_run] at h
  unfold CM.get at h
  cases e : M[i]? with
  | none => rw [e] at h; exact h.elim
  | some o =>
    rw [e] at h
    cases o with
    | lst ds => exact ⟨ds, .inl rfl, h⟩
    | frz ds => exact ⟨ds, .inr rfl, h⟩
    | _ => exact h.elim
theorem lstIt_bind {i : Nat} {f : List D → CM A} {R : List Addr → Hp → A → B → Prop} {M : List Ob} {Q : B → Hp → Prop} (h : Ho Γ W R ((lstIt i >>= f) M) α H Q) : ∃ ds, M[i]? = some (.lst ds) ∧ Ho Γ W R (f ds M) α H Q := by
  unfold lstIt at h
  rw [CM.bind_run, CM.bind_run] at h
  unfold CM.get at h
  cases e : M[i]? with
  | none => rw [e] at h; exact h.elim
  | some o =>
    rw [e] at h
    cases o with
    | lst ds => exact ⟨ds, rfl, h⟩
    | _ => exact h.elim
theorem put_bind {i : Nat} {o : Ob} {f : Unit → CM A} {R : List Addr → Hp → A → B → Prop} {M : List Ob} {Q : B → Hp → Prop} (h : Ho Γ W R ((CM.put i o >>= f) M) α H Q) : i < M.length ∧ Ho Γ W R (f () (M.set i o)) α H Q := by
  rw [CM.bind_run] at h
  unfold CM.put at h
  by_cases hp : i < M.length
  · rw [if_pos hp] at h; exact ⟨hp, h⟩
  · rw [if_neg hp] at h; exact h.elim
theorem tree2_bind {x y : D} {f : T × T → CM A} {R : List Addr → Hp → A → B → Prop} {M : List Ob} {Q : B → Hp → Prop} (h : Ho Γ W R ((tree2 x y >>= f) M) α H Q) : ∃ a b, tree M x = some a ∧ tree M y = some b ∧ T.dep a ≤ 64 ∧ T.dep b ≤ 64 ∧ Ho Γ W R (f (a, b) M) α H Q := by
  rw [CM.bind_run] at h
  unfold tree2 at h
  cases e1 : tree M x with
  | none => rw [e1] at h; exact h.elim
  | some a =>
    cases e2 : tree M y with
    | none => rw [e1, e2] at h; exact h.elim
    | some b =>
      rw [e1, e2] at h
      dsimp only at h
      by_cases hd : T.dep a ≤ 64 ∧ T.dep b ≤ 64
      · rw [if_pos hd] at h; exact ⟨a, b, rfl, rfl, hd.1, hd.2, h⟩
      · rw [if_neg hd] at h; exact h.elim
end
def rB (Γ : Gd) (W : XW) (op : D → D → CM D) : R2 := fun v u H Q => ∃ α M x y, RH Γ α M H ∧ RV Γ.K α H x v ∧ RV Γ.K α H y u ∧ Ho Γ W (RV Γ.K) (op x y M) α H Q
def RB {Γ : Gd} (_α : List Addr) (_H : Hp) (b : Bool) (v : V) : Prop := v = .bl b
def rC (Γ : Gd) (W : XW) (op : D → D → CM Bool) : R2 := fun v u H Q => ∃ α M x y, RH Γ α M H ∧ RV Γ.K α H x v ∧ RV Γ.K α H y u ∧ Ho Γ W (fun _ _ b v => v = V.bl b) (op x y M) α H Q
section
variable {Γ : Gd} {α : List Addr} {M : List Ob} {H : Hp} {W : XW}
theorem RV.lst (rh : RH Γ α M H) {i : Nat} {v : V} {ds : List D} (r : RV Γ.K α H (.ref i) v) (e : M[i]? = some (.lst ds)) : ∃ a xs, v = .ref a ∧ α[i]? = some a ∧ H a = some (.lst xs) ∧ RVs Γ.K α H ds xs := by
  cases r with
  | ref h =>
    obtain ⟨xs, h1, h2⟩ := rh.ob i _ _ e h
    exact ⟨_, xs, rfl, h, h1, h2⟩
theorem RV.frz (rh : RH Γ α M H) {i : Nat} {v : V} {ds : List D} (r : RV Γ.K α H (.ref i) v) (e : M[i]? = some (.frz ds)) : ∃ a xs, v = .ref a ∧ α[i]? = some a ∧ SqL Γ.K H a xs ∧ RVs Γ.K α H ds xs := by
  cases r with
  | ref h =>
    obtain ⟨ob, xs, h1, h2⟩ := rh.ob i _ _ e h
    exact ⟨_, xs, rfl, h, .inl (.inr ⟨ob, h1⟩), h2⟩
theorem RV.seq (rh : RH Γ α M H) {i : Nat} {v : V} {ds : List D} (r : RV Γ.K α H (.ref i) v) (e : M[i]? = some (.lst ds) ∨ M[i]? = some (.frz ds)) : ∃ a xs, v = .ref a ∧ α[i]? = some a ∧ SqL Γ.K H a xs ∧ RVs Γ.K α H ds xs := by
  rcases e with e | e
  · obtain ⟨a, xs, h1, h2, h3, h4⟩ := RV.lst rh r e
    exact ⟨a, xs, h1, h2, SqL.of h3, h4⟩
  · exact RV.frz rh r e
theorem Ho.newLst {ds : List D} {xs : List V} {p : Addr} {Q : V → Hp → Prop} (rh : RH Γ α M H) (h : Ho Γ W (RV Γ.K) (CM.new (.lst ds) M) α H Q) (r : RVs Γ.K α H ds xs) (n : H p = none) : Q (.ref p) (upd H p (.lst xs)) := by
  refine Ho.ok (α' := α ++ [p]) h (nx_new n) (rh.new n ⟨xs, upd_same, r.mono (nx_new n)⟩) ?_
  exact .ref (by rw [← rh.len, List.getElem?_append_right (Nat.le_refl _)]; simp)
theorem okTxt.app {a b : Txt} (ha : okTxt a) (hb : okTxt b) : okTxt (a ++ b) := fun c m => (List.mem_append.mp m).elim (ha c) (hb c)
theorem toS_app (a b : Txt) : toS a ++ toS b = toS (a ++ b) := by
  show (⟨(toS a).cps ++ (toS b).cps⟩ : Str) = _
  simp [toS]
theorem toS_len (s : Txt) : (toS s).length = s.length := by
  show (toS s).cps.size = _
  simp [toS]
end
section
variable {X : Cx} {W : XW}
theorem mulOk {i j : Int} (h : (-pow64 < i ∧ i < pow64) ∨ (-pow64 < j ∧ j < pow64)) : CMul i j := by
  have e : pow64 = 2 ^ 64 := by decide
  rw [e] at h
  exact h
theorem op_bop_add : OpR X (binaryOp .Add) (rB X.gd W (bop .add)) := by
  rintro pins s σ H v u ov ou Q I rv ru ⟨α, M, x, y, rh, rx, ry, h⟩
  cases rx with
  | int i =>
    cases ry with
    | int j => exact op_add pins s σ H _ _ ov ou Q I rv ru ⟨i, j, rfl, rfl, Ho.pure rh h (.int _)⟩
    | _ => exact h.elim
  | str ha za =>
    cases ry with
    | str hb zb =>
      obtain ⟨hl, h⟩ := ask_runD h
      rw [lim_eq] at hl
      refine op_add_str pins s σ H _ _ ov ou Q I rv ru ⟨_, _, rfl, rfl, by rw [toS_len, toS_len]; exact hl, ?_⟩
      rw [toS_app]
      exact Ho.pure rh h (.str (ha.app hb) (by rw [List.length_append]; exact hl))
    | _ => exact h.elim
  | tup ha as =>
    cases ry with
    | tup hb bs =>
      obtain ⟨hl, h⟩ := ask_runD h
      rw [lim_eq, as.length, bs.length] at hl
      refine op_catA pins s σ H _ _ ov ou Q I rv ru ⟨_, _, _, _, rfl, rfl, ha, hb, hl, fun e => ?_, fun e1 e => ?_, fun e1 e2 p n => ?_⟩
      · subst e; cases as; exact Ho.pure rh h (.tup hb bs)
      · subst e; cases bs; rw [List.append_nil] at h; exact Ho.pure rh h (.tup ha as)
      · exact Ho.ok (α' := α) h (nx_fresh n) (rh.tup n) (.tup (.inl (.inl upd_same)) ((as.append bs).mono (nx_fresh n)))
    | _ => exact h.elim
  | ref ha =>
    cases ry with
    | ref hb =>
      obtain ⟨xs, ex, h⟩ := lstIt_bind h
      obtain ⟨ys, ey, h⟩ := lstIt_bind h
      obtain ⟨hl, h⟩ := ask_runD h
      obtain ⟨xa, h1, r1⟩ := rh.ob _ _ _ ex ha
      obtain ⟨xb, h2, r2⟩ := rh.ob _ _ _ ey hb
      rw [lim_eq, r1.length, r2.length] at hl
      exact op_cat pins s σ H _ _ ov ou Q I rv ru ⟨_, _, _, _, rfl, rfl, h1, h2, hl, fun p n => Ho.newLst rh h (r1.append r2) n⟩
    | _ => exact h.elim
  | non => cases ry <;> exact h.elim
  | bl b => cases ry <;> exact h.elim
  | rol _ _ => cases ry <;> exact h.elim
theorem op_bop_sub : OpR X (binaryOp .Sub) (rB X.gd W (bop .sub)) := by
  rintro pins s σ H v u ov ou Q I rv ru ⟨α, M, x, y, rh, rx, ry, h⟩
  cases rx with
  | int i =>
    cases ry with
    | int j => exact op_sub pins s σ H _ _ ov ou Q I rv ru ⟨i, j, rfl, rfl, Ho.pure rh h (.int _)⟩
    | _ => exact h.elim
  | _ => cases ry <;> exact h.elim
theorem op_bop_fdiv : OpR X (binaryOp .FloorDiv) (rB X.gd W (bop .fdiv)) := by
  rintro pins s σ H v u ov ou Q I rv ru ⟨α, M, x, y, rh, rx, ry, h⟩
  cases rx with
  | int i =>
    cases ry with
    | int j =>
      obtain ⟨hl, h⟩ := ask_runD h
      exact op_fdiv pins s σ H _ _ ov ou Q I rv ru ⟨i, j, rfl, rfl, hl, Ho.pure rh h (.int _)⟩
    | _ => exact h.elim
  | _ => cases ry <;> exact h.elim
theorem op_bop_mod : OpR X (binaryOp .Mod) (rB X.gd W (bop .mod)) := by
  rintro pins s σ H v u ov ou Q I rv ru ⟨α, M, x, y, rh, rx, ry, h⟩
  cases rx with
  | int i =>
    cases ry with
    | int j =>
      obtain ⟨hl, h⟩ := ask_runD h
      exact op_mod pins s σ H _ _ ov ou Q I rv ru ⟨i, j, rfl, rfl, hl, Ho.pure rh h (.int _)⟩
    | _ => exact h.elim
  | _ => cases ry <;> exact h.elim
theorem op_bop_pow : OpR X (binaryOp .Pow) (rB X.gd W (bop .pow)) := by
  rintro pins s σ H v u ov ou Q I rv ru ⟨α, M, x, y, rh, rx, ry, h⟩
  cases rx with
  | int i =>
    cases ry with
    | int j =>
      obtain ⟨hl, h⟩ := ask_runD h
      exact op_pow pins s σ H _ _ ov ou Q I rv ru ⟨i, j, rfl, rfl, ⟨hl.1, hl.2.1, Nat.lt_of_lt_of_le hl.2.2 (by decide)⟩, Ho.pure rh h (.int _)⟩
    | _ => exact h.elim
  | _ => cases ry <;> exact h.elim
end
end Sb
end
section
set_option Elab.async false
set_option linter.all false
set_option maxRecDepth 100000
set_option maxHeartbeats 2000000
namespace Sb
open PySem PySem.Spec PyProof.Rows L2
mutual
def T.pd : T → PyData
  | .non => .none
  | .bl b => .bool b
  | .int i => .int i
  | .str s => .str (toS s)
  | .tup ts => .tuple (T.pds ts)
  | .lst ts => .list (T.pds ts)
def T.pds : List T → List PyData
  | [] => []
  | t :: ts => T.pd t :: T.pds ts
end
mutual
theorem T.dep_pd : ∀ t : T, t.pd.depth = T.dep t
  | .non => by simp [T.pd, T.dep, PyData.depth]
  | .bl _ => by simp [T.pd, T.dep, PyData.depth]
  | .int _ => by simp [T.pd, T.dep, PyData.depth]
  | .str _ => by simp [T.pd, T.dep, PyData.depth]
  | .tup ts => by simp [T.pd, T.dep, PyData.depth, T.deps_pd ts]
  | .lst ts => by simp [T.pd, T.dep, PyData.depth, T.deps_pd ts]
theorem T.deps_pd : ∀ ts : List T, PyData.depthAll (T.pds ts) = T.deps ts
  | [] => by simp [T.pds, T.deps, PyData.depthAll]
  | t :: ts => by simp [T.pds, T.deps, PyData.depthAll, T.dep_pd t, T.deps_pd ts]
end
theorem toS_beq (a b : Txt) : (toS a == toS b) = decide (a = b) := by
  by_cases h : a = b
  · subst h; simp
  · rw [decide_eq_false h]
    exact beq_eq_false_iff_ne.mpr fun e => h (toS_inj e)
mutual
theorem T.eqv_pd : ∀ a b : T, PyData.eqv a.pd b.pd = T.eqv a b
  | .non, b => by cases b <;> simp [T.pd, T.eqv, PyData.eqv]
  | .bl _, b => by cases b <;> simp [T.pd, T.eqv, PyData.eqv] <;> rfl
  | .int _, b => by cases b <;> simp [T.pd, T.eqv, PyData.eqv] <;> rfl
  | .str _, b => by cases b <;> simp [T.pd, T.eqv, PyData.eqv, toS_beq]
  | .tup ts, b => by cases b <;> simp [T.pd, T.eqv, PyData.eqv, T.eqvs_pd ts]
  | .lst ts, b => by cases b <;> simp [T.pd, T.eqv, PyData.eqv, T.eqvs_pd ts]
theorem T.eqvs_pd : ∀ a b : List T, PyData.eqvAll (T.pds a) (T.pds b) = T.eqvs a b
  | [], b => by cases b <;> simp [T.pds, T.eqvs, PyData.eqvAll]
  | t :: ts, b => by cases b <;> simp [T.pds, T.eqvs, PyData.eqvAll, T.eqv_pd t, T.eqvs_pd ts]
end
mutual
theorem T.alike_pd : ∀ a b : T, T.alike a b = true → PySem.W.alike a.pd b.pd = true
  | .non, b, h => by cases b <;> simp [T.alike] at h
  | .bl _, b, h => by cases b <;> simp [T.alike] at h
  | .int _, b, h => by cases b <;> simp [T.alike] at h <;> simp [T.pd, PySem.W.alike]
  | .str _, b, h => by cases b <;> simp [T.alike] at h <;> simp [T.pd, PySem.W.alike]
  | .tup ts, b, h => by
    cases b with
    | tup us => simp only [T.pd, PySem.W.alike]; exact T.alikes_pd ts us (by simpa [T.alike] using h)
    | _ => simp [T.alike] at h
  | .lst ts, b, h => by
    cases b with
    | lst us => simp only [T.pd, PySem.W.alike]; exact T.alikes_pd ts us (by simpa [T.alike] using h)
    | _ => simp [T.alike] at h
theorem T.alikes_pd : ∀ a b : List T, T.alikes a b = true → PySem.W.alikeAll (T.pds a) (T.pds b) = true
  | [], b, _ => by simp [T.pds, PySem.W.alikeAll]
  | t :: ts, [], _ => by simp [T.pds, PySem.W.alikeAll]
  | t :: ts, u :: us, h => by
    simp only [T.alikes, Bool.and_eq_true] at h
    simp only [T.pds, PySem.W.alikeAll, Bool.and_eq_true]
    exact ⟨T.alike_pd t u h.1, T.alikes_pd ts us h.2⟩
end
theorem ltxt_eq : ∀ a b : Txt, decide (a < b) = ltxt a b
  | [], [] => by simp [ltxt]
  | [], _ :: _ => by simp [ltxt]
  | _ :: _, [] => by simp [ltxt]
  | a :: as, b :: bs => by
    simp only [ltxt]
    by_cases h : a = b
    · subst h; rw [if_pos rfl, ← ltxt_eq as bs]; simp
    · rw [if_neg h]
      congr 1
      rw [List.cons_lt_cons_iff]
      simp [h]
mutual
theorem T.lt_pd : ∀ a b : T, T.alike a b = true → PySem.W.dataLt a.pd b.pd = T.lt a b
  | .non, b, h => by cases b <;> simp [T.alike] at h
  | .bl _, b, h => by cases b <;> simp [T.alike] at h
  | .int i, b, h => by
    cases b with
    | int j => simp only [T.pd, T.lt]; exact PySem.W.dataLt_int i j
    | _ => simp [T.alike] at h
  | .str i, b, h => by
    cases b with
    | str j => simp only [T.pd, T.lt]; rw [PySem.W.dataLt_str, toS_cps, toS_cps]; exact ltxt_eq i j
    | _ => simp [T.alike] at h
  | .tup ts, b, h => by
    cases b with
    | tup us => simp only [T.pd, T.lt]; rw [PySem.W.dataLt_tuple]; exact T.lts_pd ts us (by simpa [T.alike] using h)
    | _ => simp [T.alike] at h
  | .lst ts, b, h => by
    cases b with
    | lst us => simp only [T.pd, T.lt]; rw [PySem.W.dataLt_list]; exact T.lts_pd ts us (by simpa [T.alike] using h)
    | _ => simp [T.alike] at h
theorem T.lts_pd : ∀ a b : List T, T.alikes a b = true → PyProof.Rows.lexLt itemOrd (PySem.W.keyToksAll (T.pds a)) (PySem.W.keyToksAll (T.pds b)) = T.lts a b
  | [], [], _ => by simp only [T.pds, T.lts]; exact PyProof.Rows.lex_irrefl _
  | [], u :: us, _ => by
    simp only [T.pds, T.lts, PySem.W.keyToksAll]
    rw [lex_diff (O := itemOrd) (by simp)]
    simp [itemOrd, itemLt]
  | t :: ts, [], _ => by
    simp only [T.pds, T.lts, PySem.W.keyToksAll]
    rw [lex_diff (O := itemOrd) (by simp)]
    simp [itemOrd, itemLt]
  | t :: ts, u :: us, h => by
    simp only [T.alikes, Bool.and_eq_true] at h
    have ha := T.alike_pd t u h.1
    simp only [T.pds, T.lts]
    cases e : T.eqv t u with
    | true =>
      rw [if_pos rfl, PySem.W.dataLt_all_yes ha (by rw [T.eqv_pd, e])]
      exact T.lts_pd ts us h.2
    | false =>
      rw [if_neg (by simp), PySem.W.dataLt_all_no ha (by rw [T.eqv_pd, e])]
      exact T.lt_pd t u h.1
end
theorem strOk_toS {s : Txt} (h : okTxt s) : PyData.strOk (toS s) = true := by
  unfold PyData.strOk
  rw [Array.all_eq_true']
  intro c m
  have : c ∈ s := by simpa [toS] using m
  simpa using h c this
section
variable {Γ : Gd} {α : List Addr} {M : List Ob} {H : Hp}
mutual
theorem re_dp (dr : Nat → Option T) (hd : ∀ (i : Nat) (a : Addr) (t : T), α[i]? = some a → dr i = some t → Dp Γ.K H (.ref a) t.pd ∧ t.pd.canLay0 = true) : ∀ (x : D) (v : V) (t : T), RV Γ.K α H x v → D.re dr x = some t → Dp Γ.K H v t.pd ∧ t.pd.canLay0 = true
  | .non, v, t, r, e => by cases r; simp [D.re] at e; subst e; exact ⟨.non, by simp [T.pd, PyData.canLay0]⟩
  | .bl b, v, t, r, e => by cases r; simp [D.re] at e; subst e; exact ⟨.bl b, by simp [T.pd, PyData.canLay0]⟩
  | .int i, v, t, r, e => by cases r; simp [D.re] at e; subst e; exact ⟨.int i, by simp [T.pd, PyData.canLay0]⟩
  | .str s, v, t, r, e => by
    cases r with
    | str h z => simp [D.re] at e; subst e; exact ⟨.str _, by simp only [T.pd, PyData.canLay0]; exact strOk_toS h⟩
  | .ref i, v, t, r, e => by
    cases r with
    | ref h => exact hd i _ t h (by simpa [D.re] using e)
  | .tup ds, v, t, r, e => by
    cases r with
    | tup h hs =>
      simp only [D.re, Option.map_eq_some_iff] at e
      obtain ⟨ts, e1, rfl⟩ := e
      obtain ⟨h1, h2⟩ := res_dp dr hd ds _ ts hs e1
      exact ⟨.tup h h1, by simpa only [T.pd, PyData.canLay0] using h2⟩
theorem res_dp (dr : Nat → Option T) (hd : ∀ (i : Nat) (a : Addr) (t : T), α[i]? = some a → dr i = some t → Dp Γ.K H (.ref a) t.pd ∧ t.pd.canLay0 = true) : ∀ (ds : List D) (vs : List V) (ts : List T), RVs Γ.K α H ds vs → D.res dr ds = some ts → DpAll Γ.K H vs (T.pds ts) ∧ PyData.canLayAll0 (T.pds ts) = true
  | [], vs, ts, r, e => by cases r; simp [D.res] at e; subst e; exact ⟨.nil, by simp [T.pds, PyData.canLayAll0]⟩
  | d :: ds, vs, ts, r, e => by
    cases r with
    | cons r1 r2 =>
      simp only [D.res, Option.bind_eq_some_iff, Option.map_eq_some_iff] at e
      obtain ⟨t, e1, ts', e2, rfl⟩ := e
      obtain ⟨h1, h2⟩ := re_dp dr hd d _ t r1 e1
      obtain ⟨h3, h4⟩ := res_dp dr hd ds _ ts' r2 e2
      exact ⟨.cons h1 h3, by simp only [T.pds, PyData.canLayAll0, Bool.and_eq_true]; exact ⟨h2, h4⟩⟩
end
theorem drN_dp (rh : RH Γ α M H) : ∀ (n i : Nat) (a : Addr) (t : T), α[i]? = some a → drN M n i = some t → Dp Γ.K H (.ref a) t.pd ∧ t.pd.canLay0 = true
  | 0, _, _, _, _, e => by simp [drN] at e
  | n + 1, i, a, t, h, e => by
    unfold drN at e
    cases q : M[i]? with
    | none => rw [q] at e; cases e
    | some o =>
      rw [q] at e
      cases o with
      | lst ds =>
        simp only [Option.map_eq_some_iff] at e
        obtain ⟨ts, e1, rfl⟩ := e
        obtain ⟨xs, h1, h2⟩ := rh.ob i _ a q h
        obtain ⟨h3, h4⟩ := res_dp (drN M n) (drN_dp rh n) ds xs ts h2 e1
        exact ⟨.lst (SqL.of h1) h3, by simpa only [T.pd, PyData.canLay0] using h4⟩
      | frz ds =>
        simp only [Option.map_eq_some_iff] at e
        obtain ⟨ts, e1, rfl⟩ := e
        obtain ⟨ob, xs, h1, h2⟩ := rh.ob i _ a q h
        obtain ⟨h3, h4⟩ := res_dp (drN M n) (drN_dp rh n) ds xs ts h2 e1
        exact ⟨.lst (.inl (.inr ⟨ob, h1⟩)) h3, by simpa only [T.pd, PyData.canLay0] using h4⟩
      | _ => cases e
theorem tree_dp (rh : RH Γ α M H) {x : D} {v : V} {t : T} (r : RV Γ.K α H x v) (e : tree M x = some t) : Dp Γ.K H v t.pd ∧ t.pd.canLay0 = true := re_dp _ (drN_dp rh 8) x v t r e
theorem shaped_of {t : T} (h : t.pd.canLay0 = true) (d : T.dep t ≤ 64) : SeqAt.shaped t.pd = true := by
  unfold SeqAt.shaped
  rw [h, T.dep_pd]
  simpa using d
theorem ne_none_alike {a b : T} (h : T.alike a b = true) : a.pd ≠ .none := by
  cases a with
  | non => cases b <;> simp [T.alike] at h
  | _ => simp [T.pd]
end
section
variable {Γ : Gd} {A : Type} {B : Type} {W : XW} {α : List Addr} {H : Hp}
theorem cmp2_bind {x y : D} {f : T × T → CM A} {R : List Addr → Hp → A → B → Prop} {M : List Ob} {Q : B → Hp → Prop} (h : Ho Γ W R ((cmp2 x y >>= f) M) α H Q) :
    ∃ a b, tree M x = some a ∧ tree M y = some b ∧ T.dep a ≤ 64 ∧ T.dep b ≤ 64 ∧ T.alike a b = true ∧ Ho Γ W R (f (a, b) M) α H Q := by
  rw [CM.bind_run] at h
  unfold cmp2 at h
  rw [CM.bind_run] at h
  unfold tree2 at h
  cases e1 : tree M x with
  | none => rw [e1] at h; exact h.elim
  | some a =>
    cases e2 : tree M y with
    | none => rw [e1, e2] at h; exact h.elim
    | some b =>
      rw [e1, e2] at h
      dsimp only at h
      by_cases hd : T.dep a ≤ 64 ∧ T.dep b ≤ 64
      · rw [if_pos hd] at h
        dsimp only at h
        rw [CM.bind_run] at h
        unfold CM.ask at h
        by_cases hl : T.alike a b = true
        · rw [if_pos hl] at h; exact ⟨a, b, rfl, rfl, hd.1, hd.2, hl, h⟩
        · rw [if_neg hl] at h; exact h.elim
      · rw [if_neg hd] at h; exact h.elim
end
section
variable {X : Cx} {W : XW}
theorem op_cop_eq (hu : X.A.units + 64 < cLine) : OpR X (compareOp .Eq) (rC X.gd W (cop .eq)) := by
  rintro pins s σ H v u ov ou Q I rv ru ⟨α, M, x, y, rh, rx, ry, h⟩
  obtain ⟨a, b, ea, eb, da, db, h⟩ := tree2_bind h
  obtain ⟨p1, c1⟩ := tree_dp rh rx ea
  obtain ⟨p2, c2⟩ := tree_dp rh ry eb
  refine op_eqD hu pins s σ H _ _ ov ou Q I rv ru ⟨_, _, p1, p2, shaped_of c1 da, shaped_of c2 db, ?_⟩
  rw [T.eqv_pd]
  exact Ho.pure rh h rfl
theorem op_cop_ne (hu : X.A.units + 64 < cLine) : OpR X (compareOp .NotEq) (rC X.gd W (cop .ne)) := by
  rintro pins s σ H v u ov ou Q I rv ru ⟨α, M, x, y, rh, rx, ry, h⟩
  obtain ⟨a, b, ea, eb, da, db, h⟩ := tree2_bind h
  obtain ⟨p1, c1⟩ := tree_dp rh rx ea
  obtain ⟨p2, c2⟩ := tree_dp rh ry eb
  refine op_neD hu pins s σ H _ _ ov ou Q I rv ru ⟨_, _, p1, p2, shaped_of c1 da, shaped_of c2 db, ?_⟩
  rw [T.eqv_pd]
  exact Ho.pure rh h rfl
theorem ord_room {a b : T} (hu : X.A.units + 64 < cLine) (da : T.dep a ≤ 64) : X.A.units + min a.pd.depth b.pd.depth < cLine := by
  have h := T.dep_pd a
  have h2 : min a.pd.depth b.pd.depth ≤ a.pd.depth := Nat.min_le_left _ _
  omega
theorem op_cop_lt (hu : X.A.units + 64 < cLine) : OpR X (compareOp .Lt) (rC X.gd W (cop .lt)) := by
  rintro pins s σ H v u ov ou Q I rv ru ⟨α, M, x, y, rh, rx, ry, h⟩
  obtain ⟨a, b, ea, eb, da, db, hl, h⟩ := cmp2_bind h
  obtain ⟨p1, c1⟩ := tree_dp rh rx ea
  obtain ⟨p2, c2⟩ := tree_dp rh ry eb
  obtain ⟨as, r1⟩ := Dp.reads I a.pd v ov p1 rv
  obtain ⟨bs, r2⟩ := Dp.reads I b.pd u ou p2 ru
  refine PySem.W.lt_data r1 r2 (T.alike_pd a b hl) (ne_none_alike hl) (ord_room hu da) (fin_bl I ?_ rfl)
  rw [T.lt_pd a b hl]
  exact Ho.pure rh h rfl
end
mutual
theorem T.alike_comm : ∀ a b : T, T.alike a b = true → T.alike b a = true
  | .non, b, h => by cases b <;> simp [T.alike] at h
  | .bl _, b, h => by cases b <;> simp [T.alike] at h
  | .int _, b, h => by cases b <;> simp [T.alike] at h <;> simp [T.alike]
  | .str _, b, h => by cases b <;> simp [T.alike] at h <;> simp [T.alike]
  | .tup ts, b, h => by
    cases b with
    | tup us => simp only [T.alike]; exact T.alikes_comm ts us (by simpa [T.alike] using h)
    | _ => simp [T.alike] at h
  | .lst ts, b, h => by
    cases b with
    | lst us => simp only [T.alike]; exact T.alikes_comm ts us (by simpa [T.alike] using h)
    | _ => simp [T.alike] at h
theorem T.alikes_comm : ∀ a b : List T, T.alikes a b = true → T.alikes b a = true
  | [], [], _ => by simp [T.alikes]
  | [], u :: us, _ => by simp [T.alikes]
  | t :: ts, [], _ => by simp [T.alikes]
  | t :: ts, u :: us, h => by
    simp only [T.alikes, Bool.and_eq_true] at h ⊢
    exact ⟨T.alike_comm t u h.1, T.alikes_comm ts us h.2⟩
end
section
variable {X : Cx} {W : XW}
theorem op_cop_gt (hu : X.A.units + 64 < cLine) : OpR X (compareOp .Gt) (rC X.gd W (cop .gt)) := by
  rintro pins s σ H v u ov ou Q I rv ru ⟨α, M, x, y, rh, rx, ry, h⟩
  obtain ⟨a, b, ea, eb, da, db, hl, h⟩ := cmp2_bind h
  obtain ⟨p1, c1⟩ := tree_dp rh rx ea
  obtain ⟨p2, c2⟩ := tree_dp rh ry eb
  obtain ⟨as, r1⟩ := Dp.reads I a.pd v ov p1 rv
  obtain ⟨bs, r2⟩ := Dp.reads I b.pd u ou p2 ru
  refine PySem.W.gt_data r1 r2 (T.alike_pd a b hl) (ne_none_alike hl) (ord_room hu da) (fin_bl I ?_ rfl)
  rw [T.lt_pd b a (T.alike_comm a b hl)]
  exact Ho.pure rh h rfl
theorem op_cop_le (hu : X.A.units + 64 < cLine) : OpR X (compareOp .LtE) (rC X.gd W (cop .le)) := by
  rintro pins s σ H v u ov ou Q I rv ru ⟨α, M, x, y, rh, rx, ry, h⟩
  obtain ⟨a, b, ea, eb, da, db, hl, h⟩ := cmp2_bind h
  obtain ⟨p1, c1⟩ := tree_dp rh rx ea
  obtain ⟨p2, c2⟩ := tree_dp rh ry eb
  obtain ⟨as, r1⟩ := Dp.reads I a.pd v ov p1 rv
  obtain ⟨bs, r2⟩ := Dp.reads I b.pd u ou p2 ru
  refine PySem.W.le_data r1 r2 (T.alike_pd a b hl) (ne_none_alike hl) (ord_room hu da) (fin_bl I ?_ rfl)
  rw [T.lt_pd b a (T.alike_comm a b hl)]
  exact Ho.pure rh h rfl
theorem op_cop_ge (hu : X.A.units + 64 < cLine) : OpR X (compareOp .GtE) (rC X.gd W (cop .ge)) := by
  rintro pins s σ H v u ov ou Q I rv ru ⟨α, M, x, y, rh, rx, ry, h⟩
  obtain ⟨a, b, ea, eb, da, db, hl, h⟩ := cmp2_bind h
  obtain ⟨p1, c1⟩ := tree_dp rh rx ea
  obtain ⟨p2, c2⟩ := tree_dp rh ry eb
  obtain ⟨as, r1⟩ := Dp.reads I a.pd v ov p1 rv
  obtain ⟨bs, r2⟩ := Dp.reads I b.pd u ou p2 ru
  refine PySem.W.ge_data r1 r2 (T.alike_pd a b hl) (ne_none_alike hl) (ord_room hu da) (fin_bl I ?_ rfl)
  rw [T.lt_pd a b hl]
  exact Ho.pure rh h rfl
theorem is_of {Γ : Gd} {α : List Addr} {H : Hp} {x : D} {v : V} {ov : Value} (rx : RV Γ.K α H x v) (rv : RelV v ov) : (PySem.plainIs ov .none = true ∧ (ov == Value.none) = decide (x = .non)) ∧ ∀ b, PySem.plainIs ov (.bool b) = true ∧ (ov == Value.bool b) = decide (x = .bl b) := by
  cases rx with
  | non => cases rv; exact ⟨⟨rfl, by simp⟩, fun b => ⟨rfl, by simp⟩⟩
  | bl c => cases rv; exact ⟨⟨rfl, by simp⟩, fun b => ⟨rfl, by by_cases e : c = b <;> simp [e]⟩⟩
  | int i => obtain ⟨t, rfl⟩ := rv; exact ⟨⟨rfl, by simp⟩, fun b => ⟨rfl, by simp⟩⟩
  | str h => obtain ⟨t, rfl⟩ := rv; exact ⟨⟨rfl, by simp⟩, fun b => ⟨rfl, by simp⟩⟩
  | tup h hs => cases rv; exact ⟨⟨rfl, by simp⟩, fun b => ⟨rfl, by simp⟩⟩
  | ref h => cases rv; exact ⟨⟨rfl, by simp⟩, fun b => ⟨rfl, by simp⟩⟩
  | rol h hs => cases rv; exact ⟨⟨rfl, by simp⟩, fun b => ⟨rfl, by simp⟩⟩
theorem op_cop_is : OpR X (compareOp .Is) (rC X.gd W (cop .is)) := by
  rintro pins s σ H v u ov ou Q I rv ru ⟨α, M, x, y, rh, rx, ry, h⟩
  obtain ⟨⟨h1, h2⟩, h3⟩ := is_of rx rv
  cases ry with
  | non =>
    cases ru
    exact wpAny_is_plain h1 (fin_bl I (Ho.pure rh h rfl) h2.symm)
  | bl b =>
    cases ru
    exact wpAny_is_plain (h3 b).1 (fin_bl I (Ho.pure rh h rfl) (h3 b).2.symm)
  | _ => exact h.elim
theorem op_cop_isnt : OpR X (compareOp .IsNot) (rC X.gd W (cop .isnt)) := by
  rintro pins s σ H v u ov ou Q I rv ru ⟨α, M, x, y, rh, rx, ry, h⟩
  obtain ⟨⟨h1, h2⟩, h3⟩ := is_of rx rv
  cases ry with
  | non =>
    cases ru
    exact wpAny_isNot_plain h1 (fin_bl I (Ho.pure rh h rfl) (by rw [h2]))
  | bl b =>
    cases ru
    exact wpAny_isNot_plain (h3 b).1 (fin_bl I (Ho.pure rh h rfl) (by rw [(h3 b).2]))
  | _ => exact h.elim
end
section
variable {Γ : Gd} {A B : Type} {W : XW} {α : List Addr} {H : Hp} {M : List Ob}
theorem any_pd (p : T) : ∀ ts : List T, ((T.pds ts).any fun z => PyData.eqv z p.pd) = ts.any fun t => t.eqv p
  | [] => rfl
  | t :: ts => by simp only [T.pds, List.any_cons, T.eqv_pd, any_pd p ts]
theorem canLay_tup {ts : List T} (h : (T.tup ts).pd.canLay0 = true) : PyData.canLayAll0 (T.pds ts) = true := by simpa only [T.pd, PyData.canLay0] using h
theorem canLay_lst {ts : List T} (h : (T.lst ts).pd.canLay0 = true) : PyData.canLayAll0 (T.pds ts) = true := by simpa only [T.pd, PyData.canLay0] using h
theorem look_rel {K : Frag} : ∀ {kvs : List (D × D)} {kws : List (Key × V)} {x : D} {k : Key}, Paired (fun (p : D × D) (q : Key × V) => RK p.1 q.1 ∧ RV K α H p.2 q.2) kvs kws → RK x k →
    (look x kvs = none ∧ valV kws k = none) ∨ ∃ d v, look x kvs = some d ∧ valV kws k = some v ∧ RV K α H d v
  | [], _, x, k, .nil, _ => .inl ⟨rfl, rfl⟩
  | p :: kvs, q :: kws, x, k, .cons r t, rx => by
    by_cases e : p.1 = x
    · have e2 : q.1 = k := RK.fn (e ▸ r.1) rx
      refine .inr ⟨p.2, q.2, ?_, valV_pos e2, r.2⟩
      simp [look, e]
    · have e2 : ¬ q.1 = k := fun z => e (RK.inj (z ▸ r.1) rx)
      rw [valV_neg e2]
      have : look x (p :: kvs) = look x kvs := by simp [look, e]
      rw [this]
      exact look_rel t rx
end
theorem RK.ofK {K : Frag} {α : List Addr} {H : Hp} {x : D} {v : V} (r : RV K α H x v) (h : x.isK false = true) : ∃ k, RK x k ∧ v = kV k := by
  cases r with
  | int i => exact ⟨_, .int _, rfl⟩
  | str a b => exact ⟨_, .str a b, rfl⟩
  | non => simp [D.isK] at h
  | bl b => simp [D.isK] at h
  | tup _ _ => simp [D.isK] at h
  | ref _ => simp [D.isK] at h
  | rol _ _ => simp [D.isK] at h
section
variable {X : Cx} {W : XW}
theorem dic_get {α : List Addr} {M : List Ob} {H : Hp} {pins : List (Addr × Obj)} {s : Shared} {σ : L2.St} (rh : RH X.gd α M H) {i : Nat} {a : Addr} {t : Bool} {kvs : List (D × D)} (e : M[i]? = some (.dic t kvs) ∨ M[i]? = some (.lok t kvs)) (ha : α[i]? = some a)
    {x : D} {v : V} (rx : RV X.K α H x v) (hk : x.isK t = true) : (look x kvs = none ∧ DGet H a v none) ∨ ∃ d y, look x kvs = some d ∧ DGet H a v (some y) ∧ RV X.K α H d y := by
  cases t with
  | false =>
    have main : ∀ kws, Rd H a (.dK kws) → Paired (fun (p : D × D) (q : Key × V) => RK p.1 q.1 ∧ RV X.K α H p.2 q.2) kvs kws → (look x kvs = none ∧ DGet H a v none) ∨ ∃ d y, look x kvs = some d ∧ DGet H a v (some y) ∧ RV X.K α H d y := fun kws rd pr => by
      obtain ⟨k, rk, rfl⟩ := RK.ofK rx hk
      rcases look_rel pr rk with ⟨l1, l2⟩ | ⟨d, y, l1, l2, r⟩
      · exact .inl ⟨l1, .inl ⟨kws, k, rd, rfl, l2.symm⟩⟩
      · exact .inr ⟨d, y, l1, .inl ⟨kws, k, rd, rfl, l2.symm⟩, r⟩
    rcases e with e | e
    · obtain ⟨o, e1, kws, rfl, pr⟩ := rh.ob _ _ _ e ha
      exact main kws (.inl e1) pr
    · obtain ⟨ob, o, e1, kws, rfl, pr⟩ := rh.ob _ _ _ e ha
      exact main kws (.inr ⟨ob, e1⟩) pr
  | true =>
    rcases e with e | e
    · obtain ⟨o, e1, h⟩ := rh.ob _ _ _ e ha
      exact h.elim
    · obtain ⟨ob, o, e1, h⟩ := rh.ob _ _ _ e ha
      exact h.elim
theorem isIn_run (neg : Bool) (hu : X.A.units + 65 < cLine) {α : List Addr} {M : List Ob} {H : Hp} {pins : List (Addr × Obj)} {s : Shared} {σ : L2.St} {x y : D} {v u : V} {ov ou : Value} {Q : VK} (I : Inv X pins σ H s) (rv : RelV v ov) (ru : RelV u ou) (rh : RH X.gd α M H)
    (rx : RV X.K α H x v) (ry : RV X.K α H y u) (h : Ho X.gd W (fun _ _ b v => v = V.bl (if neg then !b else b)) (isIn x y M) α H Q) : wpAny (model X.prog X.w) X.A (compareOp (if neg then .NotIn else .In) ov ou) (EP X pins σ Q) X.xe s := by
  have viaTree : ∀ {y : D} {u : V} {ou : Value}, RV X.K α H y u → RelV u ou → Ho X.gd W (fun _ _ b v => v = V.bl (if neg then !b else b)) (treeIn x y M) α H Q → wpAny (model X.prog X.w) X.A (compareOp (if neg then .NotIn else .In) ov ou) (EP X pins σ Q) X.xe s := by
    intro y u ou ry ru h
    obtain ⟨a, b, ea, eb, da, db, h⟩ := tree2_bind h
    obtain ⟨p1, c1⟩ := tree_dp rh rx ea
    obtain ⟨p2, c2⟩ := tree_dp rh ry eb
    obtain ⟨as, r1⟩ := Dp.reads I a.pd v ov p1 rv
    obtain ⟨bs, r2⟩ := Dp.reads I b.pd u ou p2 ru
    cases b with
    | tup ts =>
      have q := Ho.pure rh h rfl
      cases neg with
      | false => exact SeqAt.in_tuple_reads r2 r1 (canLay_tup c2) c1 (PyProof.Rows.room_in_shaped (shaped_of c1 da) hu) (fin_bl I q (any_pd a ts).symm)
      | true => exact SeqAt.notIn_tuple_reads r2 r1 (canLay_tup c2) c1 (PyProof.Rows.room_in_shaped (shaped_of c1 da) hu) (fin_bl I q (congrArg not (any_pd a ts).symm))
    | lst ts =>
      have q := Ho.pure rh h rfl
      cases neg with
      | false => exact SeqAt.in_list_reads r2 r1 (canLay_lst c2) c1 (PyProof.Rows.room_in_shaped (shaped_of c1 da) hu) (fin_bl I q (any_pd a ts).symm)
      | true => exact SeqAt.notIn_list_reads r2 r1 (canLay_lst c2) c1 (PyProof.Rows.room_in_shaped (shaped_of c1 da) hu) (fin_bl I q (congrArg not (any_pd a ts).symm))
    | _ => exact h.elim
  have viaDict : ∀ {i : Nat} {t : Bool} {kvs : List (D × D)}, y = .ref i → (M[i]? = some (.dic t kvs) ∨ M[i]? = some (.lok t kvs)) → Ho X.gd W (fun _ _ b v => v = V.bl (if neg then !b else b)) ((do CM.ask (x.isK t); pure (look x kvs).isSome : CM Bool) M) α H Q →
      wpAny (model X.prog X.w) X.A (compareOp (if neg then .NotIn else .In) ov ou) (EP X pins σ Q) X.xe s := by
    intro i t kvs ey e hh
    subst ey
    obtain ⟨hk, hh⟩ := ask_run hh
    have q := Ho.pure rh hh rfl
    cases ry with
    | ref ha =>
      cases ru
      rcases dic_get (pins := pins) (s := s) (σ := σ) rh e ha rx hk with ⟨l1, g⟩ | ⟨d, z, l1, g, _⟩
      · rw [l1] at q
        cases neg with
        | false => exact d_in (by omega) I g rv fun s' I' => fin_bl I' q rfl
        | true => exact d_notIn (by omega) I g rv fun s' I' => fin_bl I' q rfl
      · rw [l1] at q
        cases neg with
        | false => exact d_in (by omega) I g rv fun s' I' => fin_bl I' q rfl
        | true => exact d_notIn (by omega) I g rv fun s' I' => fin_bl I' q rfl
  cases y with
  | str b =>
    cases ry with
    | str hb zb =>
      cases x with
      | str a =>
        cases rx with
        | str ha za =>
          match a, h with
          | [c], h =>
            have q := Ho.pure rh h rfl
            cases neg with
            | false =>
              refine op_in_sign pins s σ H _ _ ov ou Q I rv ru ⟨c, _, rfl, rfl, ?_⟩
              rw [toS_cps]
              exact q
            | true =>
              refine op_notIn_sign pins s σ H _ _ ov ou Q I rv ru ⟨c, _, rfl, rfl, ?_⟩
              rw [toS_cps]
              exact q
          | [], h => exact h.elim
          | _ :: _ :: _, h => exact h.elim
      | _ => exact h.elim
  | tup ds => exact viaTree ry ru h
  | ref i =>
    obtain ⟨o, eo, h⟩ := get_bind h
    cases o with
    | lst ds => exact viaTree ry ru h
    | frz ds => exact viaTree ry ru h
    | dic t kvs => exact viaDict rfl (.inl eo) h
    | lok t kvs => exact viaDict rfl (.inr eo) h
    | _ => exact h.elim
  | _ => exact h.elim
theorem op_cop_in (hu : X.A.units + 65 < cLine) : OpR X (compareOp .In) (rC X.gd W (cop .inn)) := by
  rintro pins s σ H v u ov ou Q I rv ru ⟨α, M, x, y, rh, rx, ry, h⟩
  exact isIn_run (W := W) false hu I rv ru rh rx ry h
theorem Ho.neg {Γ : Gd} {α : List Addr} {H : Hp} {M : List Ob} {m : CM Bool} {Q : VK} (h : Ho Γ W (fun _ _ b v => v = V.bl b) ((m >>= fun r => Pure.pure (!r)) M) α H Q) : Ho Γ W (fun _ _ b v => v = V.bl (!b)) (m M) α H Q := by
  rw [CM.bind_run] at h
  cases e : m M with
  | ok b M' => rw [e] at h; exact fun α' v H' n rh r => h α' v H' n rh r
  | ex x M' => rw [e] at h; exact h
  | no => rw [e] at h; exact h
theorem op_cop_nin (hu : X.A.units + 65 < cLine) : OpR X (compareOp .NotIn) (rC X.gd W (cop .nin)) := by
  rintro pins s σ H v u ov ou Q I rv ru ⟨α, M, x, y, rh, rx, ry, h⟩
  exact isIn_run (W := W) true hu I rv ru rh rx ry (Ho.neg h)
end
end Sb
end
section
set_option Elab.async false
set_option linter.all false
set_option maxRecDepth 100000
set_option maxHeartbeats 2000000
namespace Sb
open PySem PySem.Spec PyProof.Rows L2
theorem ixOf_eq : @ixOf = @ixN := rfl
theorem atIx_rel {K : Frag} {α : List Addr} {H : Hp} {ds : List D} {vs : List V} (r : RVs K α H ds vs) {i : Int} {d : D} (h : atIx ds i = some d) : ∃ v, atI vs i = some v ∧ RV K α H d v := by
  unfold atIx at h
  rw [r.length] at h
  obtain ⟨j, h1, h2⟩ := Option.bind_eq_some_iff.mp h
  obtain ⟨v, h3, h4⟩ := r.get h2
  exact ⟨v, by unfold atI; rw [show ixN vs.length i = some j from h1]; exact h3, h4⟩
theorem atIx_str {s : Txt} {i : Int} {c : Nat} (h : atIx s i = some c) : atI (toS s).cps.toList i = some c ∧ c ∈ s := by
  unfold atIx at h
  obtain ⟨j, h1, h2⟩ := Option.bind_eq_some_iff.mp h
  refine ⟨?_, List.mem_of_getElem? h2⟩
  rw [toS_cps]
  unfold atI
  rw [show ixN s.length i = some j from h1]
  exact h2
theorem sIx_eq : @clip = @HT.sIx := by
  funext n d o
  cases o <;> rfl
theorem cut_rel {K : Frag} {α : List Addr} {H : Hp} {ds : List D} {vs : List V} (r : RVs K α H ds vs) (lo hi : Option Int) : RVs K α H (cut ds lo hi) (cutV vs lo hi) := by
  unfold cut cutV
  rw [sIx_eq, r.length]
  exact (r.drop _).take _
theorem cut_str (s : Txt) (lo hi : Option Int) : cutS (toS s) lo hi = toS (cut s lo hi) := by
  unfold cutS cut
  rw [toS_len, toS_cps, sIx_eq]
  rfl
theorem okTxt.cut {s : Txt} (h : okTxt s) (lo hi : Option Int) : okTxt (Sb.cut s lo hi) := fun c m => h c (List.mem_of_mem_drop (List.mem_of_mem_take m))
theorem cut_len {α : Type} (s : List α) (lo hi : Option Int) : (cut s lo hi).length ≤ s.length := by
  unfold cut
  rw [List.length_take, List.length_drop]
  omega
theorem okTxt.sub {s t : Txt} (h : okTxt s) (m : ∀ c ∈ t, c ∈ s) : okTxt t := fun c q => h c (m c q)
theorem line1 : 1 ≤ (sizeLine : Nat) := by rw [sizeLine_eq]; decide
section
variable {X : Cx} {W : XW}
theorem ix_dictV (hu : X.A.units + 1 < cLine) : IxR X (fun x y H Q => ∃ a v, x = V.ref a ∧ DGet H a y (some v) ∧ Q v H) := by
  intro value slice pins s σ H x y v u Q I rx ry h hs
  obtain ⟨a, z, rfl, g, q⟩ := h
  cases rx
  have hT := dict_typeIs I g
  unfold subscriptTail
  refine wpAny_bind ?_
  rw [getitemInPython_of_ne hT.not_modules]
  refine wpAny_bind (wpAny_specialOf hT PySem.F.slot_dict_getitem.lookup ?_)
  have fin : wpAny (model X.prog X.w) X.A (subscripted slice false (.ref a) u) (fun r s₃ => wpAny (model X.prog X.w) X.A (letTemporaryGo value (.ref a) r >>= fun _ => pure r) (EP X pins σ Q) X.xe s₃) X.xe s := by
    rw [hs]
    exact wpAny_operating (d_getItem hu I g ry fun w' s' I' r' => wpAny_bind (wpAny_letTemporaryGo (wpAny_pure ⟨z, H, I', r', q⟩)))
  first
    | exact wpAny_pure (wpAny_bind fin)
    | exact wpAny_bind (wpAny_pure (wpAny_bind fin))
    | exact wpAny_bind fin
def rIxC (Γ : Gd) (W : XW) : R2 := fun v u H Q => ∃ α M x y, RH Γ α M H ∧ RV Γ.K α H x v ∧ RV Γ.K α H y u ∧ Ho Γ W (RV Γ.K) (index x y M) α H Q
theorem ix_core (hu : X.A.units + 1 < cLine) : IxR X (rIxC X.gd W) := by
  rintro value slice pins s σ H v u ov ou Q I rv ru ⟨α, M, x, y, rh, rx, ry, h⟩ hs
  cases x with
  | tup ds =>
    cases y with
    | int i =>
      obtain ⟨d, e, h⟩ := opt_run h
      cases rx with
      | tup ha as =>
        cases ry
        obtain ⟨w, e2, rw'⟩ := atIx_rel as e
        exact ix_tup value slice pins s σ H _ _ ov ou Q I rv ru ⟨_, _, _, w, rfl, rfl, ha, e2, Ho.ok h .refl rh rw'⟩ hs
    | _ => exact h.elim
  | rol ds =>
    cases y with
    | int i =>
      obtain ⟨d, e, h⟩ := opt_run h
      cases rx with
      | rol ha as =>
        cases ry
        obtain ⟨w, e2, rw'⟩ := atIx_rel as e
        exact ix_list value slice pins s σ H _ _ ov ou Q I rv ru ⟨_, _, _, w, rfl, rfl, ha.sq, e2, Ho.ok h .refl rh rw'⟩ hs
    | _ => exact h.elim
  | str t =>
    cases y with
    | int i =>
      obtain ⟨d, e, h⟩ := opt_run h
      obtain ⟨c, e1, rfl⟩ := Option.map_eq_some_iff.mp e
      obtain ⟨e2, e3⟩ := atIx_str e1
      cases rx with
      | str ha za =>
        cases ry
        refine ix_str value slice pins s σ H _ _ ov ou Q I rv ru ⟨_, _, c, rfl, rfl, by rw [toS_len]; exact za, e2, ?_⟩ hs
        exact Ho.ok h .refl rh (.str (ha.sub fun z m => by simp at m; rw [m]; exact e3) line1)
    | _ => exact h.elim
  | ref i =>
    obtain ⟨o, eo, h⟩ := get_bind h
    cases rx with
    | ref ha =>
      have viaDict : ∀ {t : Bool} {kvs : List (D × D)}, (M[i]? = some (.dic t kvs) ∨ M[i]? = some (.lok t kvs)) → Ho X.gd W (RV X.K) ((do CM.ask (y.isK t); CM.opt (look y kvs) : CM D) M) α H Q → wpAny (model X.prog X.w) X.A (subscriptTail value slice ov ou) (EP X pins σ Q) X.xe s := by
        intro t kvs e hh
        obtain ⟨hk, hh⟩ := ask_run hh
        obtain ⟨d, ed, hh⟩ := opt_run hh
        rcases dic_get (pins := pins) (s := s) (σ := σ) rh e ha ry hk with ⟨l1, g⟩ | ⟨d', z, l1, g, r⟩
        · rw [l1] at ed; cases ed
        · rw [l1] at ed; cases ed
          exact ix_dictV hu value slice pins s σ H _ _ ov ou Q I rv ru ⟨_, z, rfl, g, Ho.ok hh .refl rh r⟩ hs
      cases o with
      | lst ds =>
        cases y with
        | int k =>
          obtain ⟨d, e, h⟩ := opt_run h
          obtain ⟨xs, e1, as⟩ := rh.ob _ _ _ eo ha
          cases ry
          obtain ⟨w, e2, rw'⟩ := atIx_rel as e
          exact ix_list value slice pins s σ H _ _ ov ou Q I rv ru ⟨_, _, _, w, rfl, rfl, SqL.of e1, e2, Ho.ok h .refl rh rw'⟩ hs
        | _ => exact h.elim
      | frz ds =>
        cases y with
        | int k =>
          obtain ⟨d, e, h⟩ := opt_run h
          obtain ⟨ob, xs, e1, as⟩ := rh.ob _ _ _ eo ha
          cases ry
          obtain ⟨w, e2, rw'⟩ := atIx_rel as e
          exact ix_list value slice pins s σ H _ _ ov ou Q I rv ru ⟨_, _, _, w, rfl, rfl, .inl (.inr ⟨ob, e1⟩), e2, Ho.ok h .refl rh rw'⟩ hs
        | _ => exact h.elim
      | dic t kvs => exact viaDict (.inl eo) h
      | lok t kvs => exact viaDict (.inr eo) h
      | _ => exact h.elim
  | _ => exact h.elim
def rSlC (Γ : Gd) (W : XW) : V → Option Int → Option Int → Hp → VK → Prop := fun v lo hi H Q => ∃ α M x, RH Γ α M H ∧ RV Γ.K α H x v ∧ Ho Γ W (RV Γ.K) (slice x lo hi M) α H Q
theorem sl_core : SlR X (rSlC X.gd W) := by
  rintro pins s σ H v ov vl vu lo hi sl Q I rv hsl pl pu ⟨α, M, x, rh, rx, h⟩
  cases x with
  | tup ds =>
    cases rx with
    | tup ha as =>
      refine sl_tupA pins s σ H _ ov vl vu lo hi sl Q I rv hsl pl pu ⟨_, _, rfl, ha, fun hw => ?_, fun hw p n => ?_⟩
      · have e : cut ds lo hi = ds := by
          unfold cut
          rw [sIx_eq, as.length, hw.1, hw.2, ← as.length]
          simp
        rw [show slice (.tup ds) lo hi M = .ok (.tup (cut ds lo hi)) M from rfl, e] at h
        exact Ho.ok h .refl rh (.tup ha as)
      · exact Ho.ok (α' := α) h (nx_fresh n) (rh.tup n) (.tup (.inl (.inl upd_same)) ((cut_rel as lo hi).mono (nx_fresh n)))
  | str t =>
    cases rx with
    | str ha za =>
      refine sl_str pins s σ H _ ov vl vu lo hi sl Q I rv hsl pl pu ⟨_, rfl, by rw [toS_len]; exact za, ?_⟩
      rw [cut_str]
      exact Ho.ok h .refl rh (.str (ha.cut lo hi) (Nat.le_trans (cut_len _ _ _) za))
  | rol ds =>
    cases rx with
    | rol ha as => exact sl_list pins s σ H _ ov vl vu lo hi sl Q I rv hsl pl pu ⟨_, _, rfl, ha.sq, fun p n => Ho.newLst rh h (cut_rel as lo hi) n⟩
  | ref i =>
    obtain ⟨ds, eo, h⟩ := items_bind h
    obtain ⟨a, xs, rfl, ha, sq, as⟩ := RV.seq rh rx eo
    exact sl_list pins s σ H _ ov vl vu lo hi sl Q I rv hsl pl pu ⟨_, _, rfl, sq, fun p n => Ho.newLst rh h (cut_rel as lo hi) n⟩
  | _ => exact h.elim
theorem ofs_inj {a b : String} (h : Str.ofString a = Str.ofString b) : a = b := by
  rw [Str.ofString_eq_toList, Str.ofString_eq_toList] at h
  have h1 : (a.toList.map Char.toNat).toArray = (b.toList.map Char.toNat).toArray := congrArg Str.cps h
  have h2 : a.toList.map Char.toNat = b.toList.map Char.toNat := by simpa using congrArg Array.toList h1
  have h3 : a.toList = b.toList := by
    have inj : ∀ {l m : List Char}, l.map Char.toNat = m.map Char.toNat → l = m := by
      intro l
      induction l with
      | nil => intro m h; cases m with
        | nil => rfl
        | cons _ _ => simp at h
      | cons x l ih =>
        intro m h
        cases m with
        | nil => simp at h
        | cons y m =>
          simp only [List.map_cons, List.cons.injEq] at h
          have : x = y := by
            have := h.1
            exact Char.ext (UInt32.toNat_inj.mp this)
          rw [this, ih h.2]
    exact inj h2
  exact String.toList_inj.mp h3
theorem getF_rel {K : Frag} {α : List Addr} {H : Hp} {f : String} : ∀ {fs : List (String × D)} {gs : List (Str × V)}, RF K α H fs gs → (getF f fs = none ∧ gs.lookup (Str.ofString f) = none) ∨ ∃ d v, getF f fs = some d ∧ gs.lookup (Str.ofString f) = some v ∧ RV K α H d v
  | _, _, .nil => .inl ⟨rfl, rfl⟩
  | (n, d) :: fs, (m, v) :: gs, .cons r t => by
    obtain ⟨r1, r2⟩ := r
    by_cases e : n = f
    · subst e
      refine .inr ⟨d, v, by simp [getF], ?_, r2⟩
      have e2 : (Str.ofString n == m) = true := by
        have : Str.ofString n = m := r1
        rw [this]; simp
      rw [List.lookup_cons, e2]
    · have e2 : (Str.ofString f == m) = false := beq_eq_false_iff_ne.mpr fun z => e (ofs_inj (r1.trans z.symm))
      rw [List.lookup_cons, e2]
      simp only [getF, if_neg e]
      exact getF_rel t
theorem putF_rel {K : Frag} {α : List Addr} {H : Hp} {f : String} {d : D} {v : V} (r : RV K α H d v) : ∀ {fs : List (String × D)} {gs : List (Str × V)}, RF K α H fs gs → RF K α H (Sb.putF f d fs) (L2.putF (Str.ofString f) v gs)
  | _, _, .nil => .cons ⟨rfl, r⟩ .nil
  | (n, u) :: fs, (m, w) :: gs, .cons q t => by
    obtain ⟨q1, q2⟩ := q
    by_cases e : n = f
    · subst e
      have e2 : m = Str.ofString n := q1.symm
      simp only [Sb.putF, L2.putF, if_pos e2, if_true]
      exact .cons ⟨q1, r⟩ t
    · have e2 : ¬ m = Str.ofString f := fun z => e (ofs_inj (q1.trans z))
      simp only [Sb.putF, L2.putF, if_neg e, if_neg e2]
      exact .cons ⟨q1, q2⟩ (putF_rel r t)
end
end Sb
end
section
set_option Elab.async false
set_option linter.all false
set_option maxRecDepth 100000
set_option maxHeartbeats 2000000
namespace Sb
open PySem PySem.Spec PyProof.Rows L2
theorem Ho.mono {A B : Type} {Γ : Gd} {W : XW} {R : List Addr → Hp → A → B → Prop} {r : Res A} {α : List Addr} {H : Hp} {Q Q' : B → Hp → Prop} (h : Ho Γ W R r α H Q) (i : ∀ b H, Q b H → Q' b H) : Ho Γ W R r α H Q' := by
  cases r with
  | ok a M' => exact fun α' b H' n rh r => i _ _ (h α' b H' n rh r)
  | ex e M' => exact h
  | no => exact h.elim
instance : LawfulMonad CM := LawfulMonad.mk'
  (id_map := fun x => by funext M; show CM.bind x _ M = _; unfold CM.bind; cases h : x M <;> rfl)
  (pure_bind := fun a f => rfl)
  (bind_assoc := fun x f k => by funext M; show CM.bind (CM.bind x f) k M = CM.bind x _ M; unfold CM.bind; cases h : x M <;> rfl)
theorem _root_.L2.PE.imp {X : Cx} {e : PySem.Expr} {t t' : TE} (h : PE X e t) (i : ∀ σ H Q, t' σ H Q → t σ H Q) : PE X e t' := ⟨fun pins s σ H Q I q => h.run pins s σ H Q I (i σ H Q q)⟩
structure RL (K : Frag) (α : List Addr) (H : Hp) (ρ : Env) (σ : L2.St) : Prop where
  len : ρ.length = σ.length
  at_ : ∀ (i : Nat) (d : D), ρ[i]? = some (some d) → ∃ v, σ[i]? = some (some v) ∧ RV K α H d v
theorem RL.mono {K : Frag} {α α' : List Addr} {H H' : Hp} {ρ : Env} {σ : L2.St} (h : RL K α H ρ σ) (n : Nx K α H α' H') : RL K α' H' ρ σ :=
  ⟨h.len, fun i d e => (h.at_ i d e).imp fun v z => ⟨z.1, z.2.mono n⟩⟩
theorem RL.set {K : Frag} {α : List Addr} {H : Hp} {ρ : Env} {σ : L2.St} (h : RL K α H ρ σ) {i : Nat} {d : D} {v : V} (hi : i < ρ.length) (r : RV K α H d v) : RL K α H (ρ.set i (some d)) (σ.set i (some v)) := by
  refine ⟨by simp [h.len], fun j e q => ?_⟩
  by_cases hj : j = i
  · subst hj
    rw [List.getElem?_set_self hi] at q
    cases q
    exact ⟨v, List.getElem?_set_self (by rw [← h.len]; exact hi), r⟩
  · rw [List.getElem?_set_ne (Ne.symm hj)] at q
    obtain ⟨u, h1, h2⟩ := h.at_ j e q
    exact ⟨u, by rw [List.getElem?_set_ne (Ne.symm hj)]; exact h1, h2⟩
section
variable (Γ : Gd) (g : G) (cl : Cls) (W : WX)
def tE (c : CE) : TE := fun σ H Q => ∃ α ρ M, RL Γ.K α H ρ σ ∧ RH Γ α M H ∧ Ho Γ (fun x d H => W x d σ H) (RV Γ.K) (ev g cl ρ c M) α H Q
def tAs (cs : CEs) : TA := fun σ H Q => ∃ α ρ M, RL Γ.K α H ρ σ ∧ RH Γ α M H ∧ Ho Γ (fun x d H => W x d σ H) (RVs Γ.K) (evs g cl ρ cs M) α H Q
def tT (c : CE) : TT := fun σ H Q => ∃ α ρ M, RL Γ.K α H ρ σ ∧ RH Γ α M H ∧ Ho Γ (fun x d H => W x d σ H) (fun _ _ b v => v = b) (evT g cl c ρ M) α H Q
end
section
variable {Γ : Gd} {g : G} {cl : Cls} {W : WX} {α : List Addr} {ρ : Env} {M : List Ob} {σ : L2.St} {H : Hp} {A B : Type}
theorem tE.go {c : CE} {f : D → CM A} {R : List Addr → Hp → A → B → Prop} {Q : B → Hp → Prop} {Q' : VK} (rl : RL Γ.K α H ρ σ) (rh : RH Γ α M H) (h : Ho Γ (fun x d H => W x d σ H) R ((ev g cl ρ c >>= f) M) α H Q)
    (k : ∀ v H1 α1 M1 d, Nx Γ.K α H α1 H1 → RL Γ.K α1 H1 ρ σ → RH Γ α1 M1 H1 → RV Γ.K α1 H1 d v → Ho Γ (fun x d H => W x d σ H) R (f d M1) α1 H1 Q → Q' v H1) : tE Γ g cl W c σ H Q' :=
  ⟨α, ρ, M, rl, rh, (Ho.bind h).mono fun v H1 z => by
    obtain ⟨d, M1, α1, nx, rh1, rv, h1⟩ := z
    exact k v H1 α1 M1 d nx (rl.mono nx) rh1 rv h1⟩
theorem tAs.go {cs : CEs} {f : List D → CM A} {R : List Addr → Hp → A → B → Prop} {Q : B → Hp → Prop} {Q' : List V → Hp → Prop} (rl : RL Γ.K α H ρ σ) (rh : RH Γ α M H) (h : Ho Γ (fun x d H => W x d σ H) R ((evs g cl ρ cs >>= f) M) α H Q)
    (k : ∀ v H1 α1 M1 d, Nx Γ.K α H α1 H1 → RL Γ.K α1 H1 ρ σ → RH Γ α1 M1 H1 → RVs Γ.K α1 H1 d v → Ho Γ (fun x d H => W x d σ H) R (f d M1) α1 H1 Q → Q' v H1) : tAs Γ g cl W cs σ H Q' :=
  ⟨α, ρ, M, rl, rh, (Ho.bind h).mono fun v H1 z => by
    obtain ⟨d, M1, α1, nx, rh1, rv, h1⟩ := z
    exact k v H1 α1 M1 d nx (rl.mono nx) rh1 rv h1⟩
theorem tT.go {c : CE} {f : Bool → CM A} {R : List Addr → Hp → A → B → Prop} {Q : B → Hp → Prop} {Q' : Bool → Hp → Prop} (rl : RL Γ.K α H ρ σ) (rh : RH Γ α M H) (h : Ho Γ (fun x d H => W x d σ H) R ((evT g cl c ρ >>= f) M) α H Q)
    (k : ∀ b H1 α1 M1, Nx Γ.K α H α1 H1 → RL Γ.K α1 H1 ρ σ → RH Γ α1 M1 H1 → Ho Γ (fun x d H => W x d σ H) R (f b M1) α1 H1 Q → Q' b H1) : tT Γ g cl W c σ H Q' :=
  ⟨α, ρ, M, rl, rh, (Ho.bind h).mono fun v H1 z => by
    obtain ⟨d, M1, α1, nx, rh1, rfl, h1⟩ := z
    exact k _ H1 α1 M1 nx (rl.mono nx) rh1 h1⟩
end
def SE (g : G) (cl : Cls) (X : Cx) (c : CE) (e : PySem.Expr) : Prop := ∀ W, Takes X W → PE X e (tE X.gd g cl W c)
def SA (g : G) (cl : Cls) (X : Cx) (cs : CEs) (es : List PySem.Expr) : Prop := ∀ W, Takes X W → PA X es (tAs X.gd g cl W cs)
def STt (g : G) (cl : Cls) (X : Cx) (c : CE) (e : PySem.Expr) : Prop := ∀ W, Takes X W → PT X e (tT X.gd g cl W c)
def SW (g : G) (cl : Cls) (X : Cx) (c : CE) (e : PySem.Expr) : Prop := ∀ W, Takes X W → PW X e (tT X.gd g cl W c)
def bOp : BOp → Operator
  | .add => .Add | .sub => .Sub | .mul => .Mult | .fdiv => .FloorDiv | .mod => .Mod | .pow => .Pow
def cOp : COp → CmpOp
  | .eq => .Eq | .ne => .NotEq | .lt => .Lt | .le => .LtE | .gt => .Gt | .ge => .GtE | .is => .Is | .isnt => .IsNot | .inn => .In | .nin => .NotIn
section
variable {X : Cx} {W : XW}
theorem replicate_rel {K : Frag} {α : List Addr} {H : Hp} {ds : List D} {vs : List V} (r : RVs K α H ds vs) : ∀ n : Nat, RVs K α H (List.replicate n ds).flatten (List.replicate n vs).flatten
  | 0 => .nil
  | n + 1 => by
    rw [List.replicate_succ, List.replicate_succ, List.flatten_cons, List.flatten_cons]
    exact r.append (replicate_rel r n)
theorem op_bop_mul : OpR X (binaryOp .Mult) (rB X.gd W (bop .mul)) := by
  rintro pins s σ H v u ov ou Q I rv ru ⟨α, M, x, y, rh, rx, ry, h⟩
  cases rx with
  | int i =>
    cases ry with
    | int j =>
      obtain ⟨hl, h⟩ := ask_runD h
      exact op_mul pins s σ H _ _ ov ou Q I rv ru ⟨i, j, rfl, rfl, mulOk hl, Ho.pure rh h (.int _)⟩
    | _ => exact h.elim
  | ref ha =>
    cases ry with
    | int n =>
      obtain ⟨xs, ex, h⟩ := lstIt_bind h
      obtain ⟨hl, h⟩ := ask_runD h
      obtain ⟨xa, h1, r1⟩ := rh.ob _ _ _ ex ha
      obtain ⟨h2, h3, h4⟩ := hl
      rw [lim_eq, r1.length] at h2
      exact op_rep pins s σ H _ _ ov ou Q I rv ru ⟨_, _, _, rfl, rfl, h1, by omega, by omega, h2, fun p n => Ho.newLst rh h (replicate_rel r1 _) n⟩
    | _ => exact h.elim
  | _ => cases ry <;> exact h.elim
theorem opR_bop (op : BOp) : OpR X (binaryOp (bOp op)) (rB X.gd W (bop op)) := by
  cases op
  · exact op_bop_add
  · exact op_bop_sub
  · exact op_bop_mul
  · exact op_bop_fdiv
  · exact op_bop_mod
  · exact op_bop_pow
theorem opR_cop (hu : X.A.units + 65 < cLine) (op : COp) : OpR X (compareOp (cOp op)) (rC X.gd W (cop op)) := by
  cases op
  · exact op_cop_eq (by omega)
  · exact op_cop_ne (by omega)
  · exact op_cop_lt (by omega)
  · exact op_cop_le (by omega)
  · exact op_cop_gt (by omega)
  · exact op_cop_ge (by omega)
  · exact op_cop_is
  · exact op_cop_isnt
  · exact op_cop_in hu
  · exact op_cop_nin hu
theorem truV_of {Γ : Gd} {α : List Addr} {M : List Ob} {H : Hp} {x : D} {v : V} {Q : Bool → Hp → Prop} (rh : RH Γ α M H) (rv : RV Γ.K α H x v) (h : Ho Γ W (fun _ _ b c => c = b) (truth x M) α H Q) : ∃ k, TruV Γ.K v H k ∧ Q k H := by
  cases rv with
  | non => exact ⟨false, rfl, Ho.pure rh h rfl⟩
  | bl b => exact ⟨b, rfl, Ho.pure rh h rfl⟩
  | int i => exact ⟨decide (i ≠ 0), by show decide (i ≠ 0) = (i != 0); by_cases e : i = 0 <;> simp [e], Ho.pure rh h rfl⟩
  | str ht z =>
    rename_i s
    refine ⟨!s.isEmpty, ⟨by rw [toS_len]; exact z, ?_⟩, Ho.pure rh h rfl⟩
    rw [toS_len]
    cases s with
    | nil => rfl
    | cons a s =>
      show true = (((s.length + 1 : Nat) : Int) != 0)
      symm
      rw [bne_iff_ne]
      omega
  | tup hs rs =>
    rename_i ds a xs
    refine ⟨!ds.isEmpty, .inr (.inl ⟨xs, hs, ?_⟩), Ho.pure rh h rfl⟩
    cases rs <;> rfl
  | rol _ _ => exact h.elim
  | ref ha =>
    obtain ⟨o, eo, h⟩ := get_bind h
    cases o with
    | lst ds =>
      obtain ⟨xs, e1, as⟩ := rh.ob _ _ _ eo ha
      refine ⟨!ds.isEmpty, .inl ⟨xs, SqL.of e1, ?_⟩, Ho.pure rh h rfl⟩
      cases as <;> rfl
    | frz ds =>
      obtain ⟨ob, xs, e1, as⟩ := rh.ob _ _ _ eo ha
      refine ⟨!ds.isEmpty, .inl ⟨xs, .inl (.inr ⟨ob, e1⟩), ?_⟩, Ho.pure rh h rfl⟩
      cases as <;> rfl
    | dic t kvs =>
      obtain ⟨o, e1, rd⟩ := rh.ob _ _ _ eo ha
      cases t with
      | false =>
        obtain ⟨kws, rfl, pr⟩ := rd
        refine ⟨!kvs.isEmpty, .inr (.inr ⟨kws, e1, ?_⟩), Ho.pure rh h rfl⟩
        cases pr <;> rfl
      | true => exact rd.elim
    | _ => exact h.elim
end
section
variable {g : G} {cl : Cls} {X : Cx}
theorem se_loc {i : Nat} {x : Str} {pos : Pos} (hN : X.N[i]? = some x) (hv : Vis X.env.scope x) (h1 : (x == Str.ofString "__debug__") = false) (h2 : (x == Str.ofString "__classdict__") = false) : SE g cl X (.loc i) (.Name x pos) := fun W tk =>
  (pe_var hN hv h1 h2).imp fun σ H Q z => by
    obtain ⟨α, ρ, M, rl, rh, h⟩ := z
    obtain ⟨d, e, h⟩ := opt_run h
    obtain ⟨v, e1, rv⟩ := rl.at_ i d (by cases q : ρ[i]? with | none => rw [q] at e; cases e | some o => rw [q] at e; cases o with | none => cases e | some u => cases e; rfl)
    exact ⟨v, e1, Ho.ok h .refl rh rv⟩
theorem se_const {d : D} {v : V} {e : PySem.Expr} (hp : PE X e (tC v)) (hr : ∀ α H, RV X.K α H d v) : SE g cl X (.cst d) e := fun W tk =>
  hp.imp fun σ H Q z => by
    obtain ⟨α, ρ, M, rl, rh, h⟩ := z
    exact Ho.ok h .refl rh (hr α H)
theorem se_glb {x : Str} {f : String} {u : Value} {v : V} {d : D} {pos : Pos} (hg : Gl X x) (hm : X.mg x = some u) (hr : RelV v u) (hd : (x == Str.ofString "__debug__") = false) (hf : g.glb f = some d) (rv : ∀ α H, RV X.K α H d v) : SE g cl X (.glb f) (.Name x pos) := fun W tk =>
  (pe_glob hg hm hr hd).imp fun σ H Q z => by
    obtain ⟨α, ρ, M, rl, rh, h⟩ := z
    have h' : Ho X.gd (fun x d H => W x d σ H) (RV X.K) (CM.opt (g.glb f) M) α H Q := h
    obtain ⟨d', e, h⟩ := opt_run h'
    rw [hf] at e; cases e
    exact Ho.ok h .refl rh (rv α H)
theorem sa_nil : SA g cl X .nil [] := fun W tk => ⟨fun pos pins s σ H Q I z => by
  obtain ⟨α, ρ, M, rl, rh, h⟩ := z
  exact pa_nil.run pos pins s σ H Q I (Ho.pure (a := []) rh h .nil)⟩
theorem sa_cons {c : CE} {cs : CEs} {e : PySem.Expr} {es : List PySem.Expr} (he : SE g cl X c e) (hs : SA g cl X cs es) (hst : starEach (e :: es) X.env = (false, eval e X.env) :: starEach es X.env) : SA g cl X (.cons c cs) (e :: es) := fun W tk => ⟨fun pos pins s σ H Q I z => by
  obtain ⟨α, ρ, M, rl, rh, h⟩ := z
  refine (pa_cons (he W tk) (hs W tk) hst).run pos pins s σ H Q I ?_
  rw [evs] at h
  exact tE.go rl rh h fun v H1 α1 M1 d nx rl rh rv h => tAs.go rl rh h fun vs H2 α2 M2 ds nx2 rl rh rvs h => Ho.pure rh h (.cons (rv.mono nx2) rvs)⟩
theorem se_tup {cs : CEs} {es : List PySem.Expr} {x1 : Nat} {pos : Pos} (hs : SA g cl X cs es) : SE g cl X (.tup cs) (.Tuple es x1 pos) := fun W tk =>
  (pe_tup (hs W tk)).imp fun σ H Q z => by
    obtain ⟨α, ρ, M, rl, rh, h⟩ := z
    rw [ev] at h
    refine tAs.go rl rh h fun vs H2 α2 M2 ds nx2 rl rh rvs h => ?_
    obtain ⟨hl, h⟩ := ask_runD h
    rw [lim_eq, rvs.length] at hl
    exact ⟨hl, fun p n => Ho.ok (α' := α2) h (nx_fresh n) (rh.tup n) (.tup (.inl (.inl upd_same)) (rvs.mono (nx_fresh n)))⟩
theorem se_lst {cs : CEs} {es : List PySem.Expr} {pos : Pos} (hs : SA g cl X cs es) : SE g cl X (.lst cs) (.List es pos) := fun W tk =>
  (pe_lst (hs W tk)).imp fun σ H Q z => by
    obtain ⟨α, ρ, M, rl, rh, h⟩ := z
    rw [ev] at h
    refine tAs.go rl rh h fun vs H2 α2 M2 ds nx2 rl rh rvs h => ?_
    obtain ⟨hl, h⟩ := ask_runD h
    rw [lim_eq, rvs.length] at hl
    exact ⟨hl, fun p n => Ho.newLst rh h rvs n⟩
theorem se_bin {op : BOp} {a b : CE} {ea eb : PySem.Expr} {pos : Pos} (ha : SE g cl X a ea) (hb : SE g cl X b eb) : SE g cl X (.bin op a b) (.BinOp ea (bOp op) eb pos) := fun W tk => ⟨fun pins s σ H Q I z => by
  refine (pe_op (opR_bop (W := fun x d H => W x d σ H) op) (ha W tk) (hb W tk)).run pins s σ H Q I ?_
  obtain ⟨α, ρ, M, rl, rh, h⟩ := z
  rw [ev] at h
  exact tE.go rl rh h fun v H1 α1 M1 d nx rl rh rv h => tE.go rl rh h fun u H2 α2 M2 e nx2 rl rh ru h => ⟨α2, M2, d, e, rh, rv.mono nx2, ru, h⟩⟩
theorem se_neg {a : CE} {ea : PySem.Expr} {pos : Pos} (ha : SE g cl X a ea) : SE g cl X (.neg a) (.UnaryOp .USub ea pos) := fun W tk =>
  (pe_un un_neg (ha W tk)).imp fun σ H Q z => by
    obtain ⟨α, ρ, M, rl, rh, h⟩ := z
    rw [ev] at h
    refine tE.go rl rh h fun v H1 α1 M1 d nx rl rh rv h => ?_
    cases d with
    | int i => cases rv; exact ⟨i, rfl, Ho.pure rh h (.int _)⟩
    | _ => exact h.elim
theorem se_cmp (hu : X.A.units + 65 < cLine) {op : COp} {a b : CE} {ea eb : PySem.Expr} {pos : Pos} (ha : SE g cl X a ea) (hb : SE g cl X b eb) (hm : behindInMarks (cOp op) eb = false) : SE g cl X (.cmp op a b) (.Compare ea [cOp op] [eb] pos) := fun W tk => ⟨fun pins s σ H Q I z => by
  refine (pe_cmpR (opR_cop (W := fun x d H => W x d σ H) hu op) (ha W tk) (hb W tk) hm).run pins s σ H Q I ?_
  obtain ⟨α, ρ, M, rl, rh, h⟩ := z
  rw [ev] at h
  refine tE.go rl rh h fun v H1 α1 M1 d nx rl rh rv h => tE.go rl rh h fun u H2 α2 M2 e nx2 rl rh ru h => ⟨α2, M2, d, e, rh, rv.mono nx2, ru, ?_⟩
  exact (Ho.bind (R := fun _ _ b v => v = V.bl b) h).mono fun v H3 z => by
    obtain ⟨b, M3, α3, nx3, rh3, rfl, h3⟩ := z
    exact Ho.pure rh3 h3 (.bl _)⟩
theorem st_cmp (hu : X.A.units + 65 < cLine) {op : COp} {a b : CE} {ea eb : PySem.Expr} {pos : Pos} (ha : SE g cl X a ea) (hb : SE g cl X b eb) (hm : behindInMarks (cOp op) eb = false) : STt g cl X (.cmp op a b) (.Compare ea [cOp op] [eb] pos) := fun W tk => ⟨fun pins s σ H Q I z => by
  refine (pt_cmpR (opR_cop (W := fun x d H => W x d σ H) hu op) (ha W tk) (hb W tk) hm).run pins s σ H Q I ?_
  obtain ⟨α, ρ, M, rl, rh, h⟩ := z
  rw [evT, ev] at h
  simp only [bind_assoc, tTest] at h ⊢
  refine tE.go rl rh h fun v H1 α1 M1 d nx rl rh rv h => tE.go rl rh h fun u H2 α2 M2 e nx2 rl rh ru h => ⟨α2, M2, d, e, rh, rv.mono nx2, ru, ?_⟩
  exact (Ho.bind (R := fun _ _ b v => v = V.bl b) h).mono fun v H3 z => by
    obtain ⟨b, M3, α3, nx3, rh3, rfl, h3⟩ := z
    exact ⟨b, rfl, Ho.pure rh3 h3 rfl⟩⟩
end
end Sb
end
section
set_option Elab.async false
set_option linter.all false
set_option maxRecDepth 100000
set_option maxHeartbeats 2000000
namespace Sb
open PySem PySem.Spec PyProof.Rows L2
section
variable {g : G} {cl : Cls} {X : Cx}
theorem chain_of (hu : X.A.units + 65 < cLine) {op1 op2 : COp} {a b c : CE} {ea eb ec : PySem.Expr} (ha : SE g cl X a ea) (hb : SE g cl X b eb) (hc : SE g cl X c ec) (W : WX) (tk : Takes X W) {σ : L2.St} {H : Hp} {Q : VK} {Q2 : D → VK}
    {α : List Addr} {ρ : Env} {M : List Ob} (rl : RL X.K α H ρ σ) (rh : RH X.gd α M H) (h : Ho X.gd (fun x d H => W x d σ H) (RV X.K) (ev g cl ρ (.cmp2 op1 op2 a b c) M) α H Q) :
    tChain (rC X.gd (fun x d H => W x d σ H) (cop op1)) (rC X.gd (fun x d H => W x d σ H) (cop op2)) (tE X.gd g cl W a) (tE X.gd g cl W b) (tE X.gd g cl W c) σ H Q := by
  rw [ev] at h
  refine tE.go rl rh h fun v H1 α1 M1 d nx rl rh rv h => tE.go rl rh h fun u H2 α2 M2 e nx2 rl rh ru h => ⟨α2, M2, d, e, rh, rv.mono nx2, ru, ?_⟩
  refine (Ho.bind (R := fun _ _ b v => v = V.bl b) h).mono fun v H3 z => ?_
  obtain ⟨k, M3, α3, nx3, rh, rfl, h⟩ := z
  refine ⟨k, rfl, ?_⟩
  cases k with
  | false => exact Ho.pure rh h (.bl _)
  | true =>
    rw [if_pos rfl]
    refine tE.go (rl.mono nx3) rh h fun w H4 α4 M4 f nx4 rl rh rw' h => ⟨α4, M4, e, f, rh, (ru.mono nx3).mono nx4, rw', ?_⟩
    exact (Ho.bind (R := fun _ _ b v => v = V.bl b) h).mono fun v H3 z => by
      obtain ⟨b, M3, α3, nx3, rh3, rfl, h3⟩ := z
      exact Ho.pure rh3 h3 (.bl _)
theorem se_cmp2 (hu : X.A.units + 65 < cLine) {op1 op2 : COp} {a b c : CE} {ea eb ec : PySem.Expr} {pos : Pos} (ha : SE g cl X a ea) (hb : SE g cl X b eb) (hc : SE g cl X c ec) (hm : lastMarks [cOp op1, cOp op2] [eb, ec] = false) : SE g cl X (.cmp2 op1 op2 a b c) (.Compare ea [cOp op1, cOp op2] [eb, ec] pos) := fun W tk => ⟨fun pins s σ H Q I z => by
  obtain ⟨α, ρ, M, rl, rh, h⟩ := z
  exact (pe_chain (opR_cop (W := fun x d H => W x d σ H) hu op1) (opR_cop (W := fun x d H => W x d σ H) hu op2) (ha W tk) (hb W tk) (hc W tk) hm).run pins s σ H Q I (chain_of (Q2 := fun _ => Q) hu ha hb hc W tk rl rh h)⟩
theorem ho_test {σ : L2.St} {W : WX} {c : CE} {α : List Addr} {ρ : Env} {M : List Ob} {H : Hp} {Q : Bool → Hp → Prop} (hb : ∀ d M', ev g cl ρ c M = .ok d M' → ∃ b, d = .bl b) (h : Ho X.gd (fun x d H => W x d σ H) (fun _ _ b v => v = b) (evT g cl c ρ M) α H Q) : Ho X.gd (fun x d H => W x d σ H) (RV X.K) (ev g cl ρ c M) α H (fun v H1 => ∃ b, v = .bl b ∧ Q b H1) := by
  rw [evT, CM.bind_run] at h
  cases e : ev g cl ρ c M with
  | ok d M' =>
    rw [e] at h
    obtain ⟨b, rfl⟩ := hb d M' e
    intro α' v H' nx rh rv
    cases rv
    exact ⟨b, rfl, h α' b H' nx rh rfl⟩
  | ex x M' => rw [e] at h; exact h
  | no => rw [e] at h; exact h.elim
theorem st_cmp2 (hu : X.A.units + 65 < cLine) {op1 op2 : COp} {a b c : CE} {ea eb ec : PySem.Expr} {pos : Pos} (ha : SE g cl X a ea) (hb : SE g cl X b eb) (hc : SE g cl X c ec) (hm : lastMarks [cOp op1, cOp op2] [eb, ec] = false) : STt g cl X (.cmp2 op1 op2 a b c) (.Compare ea [cOp op1, cOp op2] [eb, ec] pos) := fun W tk => ⟨fun pins s σ H Q I z => by
  obtain ⟨α, ρ, M, rl, rh, h⟩ := z
  refine (pt_chain (opR_cop (W := fun x d H => W x d σ H) hu op1) (opR_cop (W := fun x d H => W x d σ H) hu op2) (ha W tk) (hb W tk) (hc W tk) hm).run pins s σ H Q I ?_
  refine chain_of (Q2 := fun _ _ _ => True) hu ha hb hc W tk rl rh (ho_test ?_ h)
  intro d M' e
  have bl2 : ∀ {op : COp} {x y : D} {M : List Ob}, ((cop op x y >>= fun r => (pure (.bl r) : CM D)) M) = .ok d M' → ∃ b, d = .bl b := by
    intro op x y M e
    rw [CM.bind_run] at e
    cases q : cop op x y M with
    | ok b M1 => rw [q] at e; cases e; exact ⟨b, rfl⟩
    | ex _ _ => rw [q] at e; cases e
    | no => rw [q] at e; cases e
  rw [ev, CM.bind_run] at e
  cases q1 : ev g cl ρ a M with
  | ok x M1 =>
    rw [q1] at e; dsimp only at e
    rw [CM.bind_run] at e
    cases q2 : ev g cl ρ b M1 with
    | ok y M2 =>
      rw [q2] at e; dsimp only at e
      rw [CM.bind_run] at e
      cases q3 : cop op1 x y M2 with
      | ok k M3 =>
        rw [q3] at e; dsimp only at e
        cases k with
        | false => cases e; exact ⟨_, rfl⟩
        | true =>
          dsimp only at e
          rw [CM.bind_run] at e
          cases q4 : ev g cl ρ c M3 with
          | ok w M4 => rw [q4] at e; exact bl2 e
          | ex _ _ => rw [q4] at e; cases e
          | no => rw [q4] at e; cases e
      | ex _ _ => rw [q3] at e; cases e
      | no => rw [q3] at e; cases e
    | ex _ _ => rw [q2] at e; cases e
    | no => rw [q2] at e; cases e
  | ex _ _ => rw [q1] at e; cases e
  | no => rw [q1] at e; cases e⟩
theorem se_and {a b : CE} {ea e1 : PySem.Expr} {es : List PySem.Expr} {pos : Pos} (ha : SE g cl X a ea) (hb : SE g cl X b (.BoolOp .And (e1 :: es) pos)) : SE g cl X (.and a b) (.BoolOp .And (ea :: e1 :: es) pos) := fun W tk =>
  (pe_and (ha W tk) (hb W tk)).imp fun σ H Q z => by
    obtain ⟨α, ρ, M, rl, rh, h⟩ := z
    rw [ev] at h
    refine tE.go rl rh h fun v H1 α1 M1 d nx rl rh rv h => ?_
    cases d with
    | bl c =>
      cases rv
      refine ⟨c, rfl, ?_⟩
      cases c with
      | false => exact Ho.pure rh h (.bl _)
      | true => rw [if_pos rfl]; exact ⟨α1, ρ, M1, rl, rh, h⟩
    | _ => exact h.elim
theorem se_or {a b : CE} {ea e1 : PySem.Expr} {es : List PySem.Expr} {pos : Pos} (ha : SE g cl X a ea) (hb : SE g cl X b (.BoolOp .Or (e1 :: es) pos)) : SE g cl X (.or a b) (.BoolOp .Or (ea :: e1 :: es) pos) := fun W tk =>
  (pe_or (ha W tk) (hb W tk)).imp fun σ H Q z => by
    obtain ⟨α, ρ, M, rl, rh, h⟩ := z
    rw [ev] at h
    refine tE.go rl rh h fun v H1 α1 M1 d nx rl rh rv h => ?_
    cases d with
    | bl c =>
      cases rv
      refine ⟨c, rfl, ?_⟩
      cases c with
      | true => rw [if_pos rfl]; exact Ho.pure rh h (.bl _)
      | false => exact ⟨α1, ρ, M1, rl, rh, h⟩
    | _ => exact h.elim
theorem se_one {op : BoolOp} {a : CE} {e : PySem.Expr} {pos : Pos} (ha : SE g cl X a e) : SE g cl X a (.BoolOp op [e] pos) := fun W tk => pe_one (ha W tk)
theorem se_not {a : CE} {e : PySem.Expr} {pos : Pos} (ha : SE g cl X a e) : SE g cl X (.not a) (.UnaryOp .Not e pos) := fun W tk =>
  (pe_notT (ha W tk)).imp fun σ H Q z => by
    obtain ⟨α, ρ, M, rl, rh, h⟩ := z
    rw [ev] at h
    refine tE.go rl rh h fun v H1 α1 M1 d nx rl rh rv h => ?_
    refine truV_of (W := fun x d H => W x d σ H) rh rv ((Ho.bind (R := fun _ _ b v => v = b) h).mono fun b H2 z => ?_)
    obtain ⟨b, M2, α2, nx2, rh2, rfl, h2⟩ := z
    exact Ho.pure rh2 h2 (.bl _)
theorem se_ite {c a b : CE} {ec ea eb : PySem.Expr} {pos : Pos} (hc : STt g cl X c ec) (ha : SE g cl X a ea) (hb : SE g cl X b eb) : SE g cl X (.ite c a b) (.IfExp ec ea eb pos) := fun W tk =>
  (pe_ifExp (hc W tk) (ha W tk) (hb W tk)).imp fun σ H Q z => by
    obtain ⟨α, ρ, M, rl, rh, h⟩ := z
    rw [ev] at h
    have h' : Ho X.gd (fun x d H => W x d σ H) (RV X.K) ((evT g cl c ρ >>= fun t => match t with | true => ev g cl ρ a | false => ev g cl ρ b) M) α H Q := by
      unfold evT
      rw [bind_assoc]
      exact h
    refine tT.go rl rh h' fun k H1 α1 M1 nx rl rh h => ?_
    cases k with
    | true => rw [if_pos rfl]; exact ⟨α1, ρ, M1, rl, rh, h⟩
    | false => rw [if_neg Bool.false_ne_true]; exact ⟨α1, ρ, M1, rl, rh, h⟩
theorem se_idx (hu : X.A.units + 65 < cLine) {a b : CE} {ea eb : PySem.Expr} {pos : Pos} (ha : SE g cl X a ea) (hb : SE g cl X b eb) (hs : PlainIx eb) : SE g cl X (.idx a b) (.Subscript ea eb pos) := fun W tk => ⟨fun pins s σ H Q I z => by
  refine (pe_ix (ix_core (W := fun x d H => W x d σ H) (by omega)) (ha W tk) (hb W tk) hs).run pins s σ H Q I ?_
  obtain ⟨α, ρ, M, rl, rh, h⟩ := z
  rw [ev] at h
  exact tE.go rl rh h fun v H1 α1 M1 d nx rl rh rv h => tE.go rl rh h fun u H2 α2 M2 e nx2 rl rh ru h => ⟨α2, M2, d, e, rh, rv.mono nx2, ru, h⟩⟩
def SO (g : G) (cl : Cls) (X : Cx) (c : CE) (e : Option PySem.Expr) : Prop := ∀ W, Takes X W → ∃ t, PO X e t ∧ ∀ {σ H α ρ M} {A B : Type} {f : Option Int → CM A} {R : List Addr → Hp → A → B → Prop} {Q : B → Hp → Prop} {Q' : Option Int → Hp → Prop}, RL X.K α H ρ σ → RH X.gd α M H → Ho X.gd (fun x d H => W x d σ H) R ((ev g cl ρ c >>= fun l => part c.isNon l >>= f) M) α H Q →
  (∀ o H1 α1 M1, Nx X.K α H α1 H1 → RL X.K α1 H1 ρ σ → RH X.gd α1 M1 H1 → Ho X.gd (fun x d H => W x d σ H) R (f o M1) α1 H1 Q → Q' o H1) → t σ H Q'
theorem so_none : SO g cl X (.cst .non) none := fun W tk => ⟨_, po_none, fun {σ H α ρ M A B f R Q Q'} rl rh h k => by
  exact k none H α M .refl rl rh h⟩
theorem so_some {c : CE} {e : PySem.Expr} (he : SE g cl X c e) (hn : c.isNon = false) : SO g cl X c (some e) := fun W tk => ⟨_, po_some (he W tk), fun {σ H α ρ M A B f R Q Q'} rl rh h k => by
  refine tE.go rl rh h fun v H1 α1 M1 d nx rl rh rv h => ?_
  rw [hn] at h
  cases d with
  | int i => cases rv; exact ⟨i, rfl, k _ _ _ _ nx rl rh h⟩
  | _ => exact h.elim⟩
theorem se_slc {a lo hi : CE} {e : PySem.Expr} {elo ehi : Option PySem.Expr} {pos p2 : Pos} (ha : SE g cl X a e) (hl : SO g cl X lo elo) (hh : SO g cl X hi ehi) : SE g cl X (.slc a lo hi) (.Subscript e (.Slice elo ehi none p2) pos) := fun W tk => ⟨fun pins s σ H Q I z => by
  obtain ⟨tl, pl, kl⟩ := hl W tk
  obtain ⟨th, ph, kh⟩ := hh W tk
  refine (pe_slice (sl_core (W := fun x d H => W x d σ H)) (ha W tk) pl ph).run pins s σ H Q I ?_
  obtain ⟨α, ρ, M, rl, rh, h⟩ := z
  rw [ev] at h
  exact tE.go rl rh h fun v H1 α1 M1 d nx rl rh rv h => kl rl rh h fun l H2 α2 M2 nx2 rl rh h => kh rl rh h fun u H3 α3 M3 nx3 rl rh h => ⟨α3, M3, d, rh, (rv.mono nx2).mono nx3, h⟩⟩
def NaOk (g : G) (K : Frag) : Prop := ∀ c f, g.na c f = true → L2.Cls K (cad K c) ∧ NoAttr K (cad K c) (Str.ofString f)
theorem attr_bind {Γ : Gd} {W : XW} {A B : Type} {x : D} {f : String} {k : D → CM A} {R : List Addr → Hp → A → B → Prop} {α : List Addr} {M : List Ob} {H : Hp} {Q : B → Hp → Prop} {v : V} (na : NaOk g Γ.K) (rh : RH Γ α M H) (rv : RV Γ.K α H x v) (h : Ho Γ W R ((attr g.na x f >>= k) M) α H Q) :
    ∃ a c dx fs gs d u i, x = .ref i ∧ v = .ref a ∧ M[i]? = some (.ins c fs) ∧ α[i]? = some a ∧ H a = some (.ins (cad Γ.K c) dx gs) ∧ RF Γ.K α H fs gs ∧ L2.Cls Γ.K (cad Γ.K c) ∧ NoAttr Γ.K (cad Γ.K c) (Str.ofString f) ∧ gs.lookup (Str.ofString f) = some u ∧ RV Γ.K α H d u ∧ Ho Γ W R (k d M) α H Q := by
  cases x with
  | ref i =>
    unfold attr at h
    rw [bind_assoc] at h
    obtain ⟨o, eo, h⟩ := get_bind h
    cases o with
    | ins c fs =>
      dsimp only at h
      rw [bind_assoc] at h
      obtain ⟨hn, h⟩ := ask_run h
      obtain ⟨d, ed, h⟩ := opt_bind h
      cases rv with
      | ref ha =>
        obtain ⟨dx, gs, e1, rf⟩ := rh.ob _ _ _ eo ha
        rcases getF_rel (f := f) rf with ⟨l1, _⟩ | ⟨d', u, l1, l2, r⟩
        · rw [l1] at ed; cases ed
        · rw [l1] at ed; cases ed
          exact ⟨_, c, dx, fs, gs, _, u, i, rfl, rfl, eo, ha, e1, rf, (na c f hn).1, (na c f hn).2, l2, r, h⟩
    | _ => exact h.elim
  | _ => exact h.elim
theorem se_att (na : NaOk g X.K) {a : CE} {e : PySem.Expr} {f : String} {pos : Pos} (ha : SE g cl X a e) (hb : attributeBase e (Str.ofString f) X.env (eval e X.env) = eval e X.env) : SE g cl X (.att a f) (.Attribute e (Str.ofString f) pos) := fun W tk =>
  (pe_fld (ha W tk) hb).imp fun σ H Q z => by
    obtain ⟨α, ρ, M, rl, rh, h⟩ := z
    rw [ev] at h
    refine tE.go rl rh h fun v H1 α1 M1 d nx rl rh rv h => ?_
    rw [← bind_pure (attr g.na d f)] at h
    obtain ⟨a, c, dx, fs, gs, d, u, i, -, rfl, -, -, e1, -, cc, nn, l, r, h⟩ := attr_bind na rh rv h
    exact ⟨a, _, dx, gs, u, rfl, e1, cc, nn, l, Ho.pure rh h r⟩
theorem tru_core {W : XW} : TruR X (fun v H Q => ∃ α M x, RH X.gd α M H ∧ RV X.K α H x v ∧ Ho X.gd W (fun _ _ b c => c = b) (truth x M) α H Q) := by
  rintro pins s σ H v ov Q I rv ⟨α, M, x, rh, rx, h⟩
  exact tru_ok pins s σ H v ov Q I rv (truV_of rh rx h)
theorem st_val {c : CE} {e : PySem.Expr} (hc : SE g cl X c e) (he : ∀ whole, PySem.isTrue e X.env whole = (do let v ← whole; standAt e.pos; holding [v] (truthy v))) : STt g cl X c e := fun W tk => ⟨fun pins s σ H Q I z => by
  refine (pt_truthR (hc W tk) (tru_core (W := fun x d H => W x d σ H)) he).run pins s σ H Q I ?_
  obtain ⟨α, ρ, M, rl, rh, h⟩ := z
  rw [evT] at h
  exact tE.go rl rh h fun v H1 α1 M1 d nx rl rh rv h => ⟨α1, M1, d, rh, rv, h⟩⟩
theorem PT.imp {X : Cx} {e : PySem.Expr} {t t' : TT} (h : PT X e t) (i : ∀ σ H Q, t' σ H Q → t σ H Q) : PT X e t' := ⟨fun pins s σ H Q I q => h.run pins s σ H Q I (i σ H Q q)⟩
theorem PW.imp {X : Cx} {e : PySem.Expr} {t t' : TT} (h : PW X e t) (i : ∀ σ H Q, t' σ H Q → t σ H Q) : PW X e t' := ⟨fun w pins s σ H Q I q => h.run w pins s σ H Q I (i σ H Q q)⟩
theorem st_not {a : CE} {e : PySem.Expr} {pos : Pos} (ha : STt g cl X a e) : STt g cl X (.not a) (.UnaryOp .Not e pos) := fun W tk =>
  PT.imp (pt_not (ha W tk)) fun σ H Q z => by
    obtain ⟨α, ρ, M, rl, rh, h⟩ := z
    rw [evT, ev] at h
    have h' : Ho X.gd (fun x d H => W x d σ H) (fun _ _ b v => v = b) ((evT g cl a ρ >>= fun r => (pure (!r) : CM Bool)) M) α H Q := by
      unfold evT
      rw [bind_assoc]
      rw [bind_assoc] at h
      simp only [bind_assoc, pure_bind] at h
      exact h
    exact tT.go rl rh h' fun k H1 α1 M1 nx rl rh h => Ho.pure rh h rfl
theorem sw_and1 {a : CE} {e : PySem.Expr} {pos : Pos} (ha : STt g cl X a e) : SW g cl X a (.BoolOp .And [e] pos) := fun W tk => pw_and1 (ha W tk)
theorem sw_or1 {a : CE} {e : PySem.Expr} {pos : Pos} (ha : STt g cl X a e) : SW g cl X a (.BoolOp .Or [e] pos) := fun W tk => pw_or1 (ha W tk)
theorem evT_and {ρ : Env} {a b : CE} {α : List Addr} {M : List Ob} {H : Hp} {W : XW} {Q : Bool → Hp → Prop} (h : Ho X.gd W (fun _ _ b v => v = b) (evT g cl (.and a b) ρ M) α H Q) : Ho X.gd W (fun _ _ b v => v = b) ((evT g cl a ρ >>= fun k => if k = true then evT g cl b ρ else pure false) M) α H Q := by
  unfold evT at h ⊢
  rw [ev] at h
  simp only [bind_assoc] at h ⊢
  rw [CM.bind_run] at h ⊢
  cases q : ev g cl ρ a M with
  | ok d M1 =>
    rw [q] at h; dsimp only at h ⊢
    cases d with
    | bl c => cases c <;> exact h
    | _ => exact h.elim
  | ex x M1 => rw [q] at h; exact h
  | no => rw [q] at h; exact h
theorem evT_or {ρ : Env} {a b : CE} {α : List Addr} {M : List Ob} {H : Hp} {W : XW} {Q : Bool → Hp → Prop} (h : Ho X.gd W (fun _ _ b v => v = b) (evT g cl (.or a b) ρ M) α H Q) : Ho X.gd W (fun _ _ b v => v = b) ((evT g cl a ρ >>= fun k => if k = true then pure true else evT g cl b ρ) M) α H Q := by
  unfold evT at h ⊢
  rw [ev] at h
  simp only [bind_assoc] at h ⊢
  rw [CM.bind_run] at h ⊢
  cases q : ev g cl ρ a M with
  | ok d M1 =>
    rw [q] at h; dsimp only at h ⊢
    cases d with
    | bl c => cases c <;> exact h
    | _ => exact h.elim
  | ex x M1 => rw [q] at h; exact h
  | no => rw [q] at h; exact h
theorem sw_and {a b : CE} {ea e1 : PySem.Expr} {es : List PySem.Expr} {pos : Pos} (ha : STt g cl X a ea) (hb : SW g cl X b (.BoolOp .And (e1 :: es) pos)) : SW g cl X (.and a b) (.BoolOp .And (ea :: e1 :: es) pos) := fun W tk =>
  PW.imp (pw_and (ha W tk) (hb W tk)) fun σ H Q z => by
    obtain ⟨α, ρ, M, rl, rh, h⟩ := z
    refine tT.go rl rh (evT_and h) fun k H1 α1 M1 nx rl rh h => ?_
    cases k with
    | true => rw [if_pos rfl] at h ⊢; exact ⟨α1, ρ, M1, rl, rh, h⟩
    | false => rw [if_neg Bool.false_ne_true] at h ⊢; exact Ho.pure rh h rfl
theorem sw_or {a b : CE} {ea e1 : PySem.Expr} {es : List PySem.Expr} {pos : Pos} (ha : STt g cl X a ea) (hb : SW g cl X b (.BoolOp .Or (e1 :: es) pos)) : SW g cl X (.or a b) (.BoolOp .Or (ea :: e1 :: es) pos) := fun W tk =>
  PW.imp (pw_or (ha W tk) (hb W tk)) fun σ H Q z => by
    obtain ⟨α, ρ, M, rl, rh, h⟩ := z
    refine tT.go rl rh (evT_or h) fun k H1 α1 M1 nx rl rh h => ?_
    cases k with
    | true => rw [if_pos rfl] at h ⊢; exact Ho.pure rh h rfl
    | false => rw [if_neg Bool.false_ne_true] at h ⊢; exact ⟨α1, ρ, M1, rl, rh, h⟩
theorem st_sw {c : CE} {e : PySem.Expr} (h : SW g cl X c e) : STt g cl X c e := fun W tk => (h W tk).pt
end
end Sb
end
section
set_option Elab.async false
set_option linter.all false
set_option maxRecDepth 100000
set_option maxHeartbeats 2000000
namespace Sb
open PySem PySem.Spec PyProof.Rows L2
def nsup : PySem.Expr → Bool
  | .Call (.Name id _) [] [] _ => id != Str.ofString "super"
  | _ => true
theorem ab_nsup {o : PySem.Expr} {f : Str} {env : PySem.Env} {w : Sem Value} (h : nsup o = true) : attributeBase o f env w = w := by
  unfold attributeBase
  split
  · rw [if_pos]; simp [nsup] at h; simp [h]
  · rfl
def star0 : PySem.Expr → Bool
  | .Starred _ _ => false
  | _ => true
theorem star_cons {e : PySem.Expr} {es : List PySem.Expr} {env : PySem.Env} (h : star0 e = true) : starEach (e :: es) env = (false, eval e env) :: starEach es env := by
  cases e <;> first | rfl | cases h
theorem backTo_stars {es : List PySem.Expr} {env : PySem.Env} {pos : Pos} (h : es.all star0 = true) : backTo pos (starEach es env) = starEach es env ∧ ((starEach es env).any fun x => x.1) = false ∧ ((starEach es env).all fun x => !x.1) = true := by
  induction es with
  | nil => exact ⟨rfl, rfl, rfl⟩
  | cons e es ih =>
    simp only [List.all_cons, Bool.and_eq_true] at h
    obtain ⟨i1, i2, i3⟩ := ih h.2
    rw [star_cons h.1]
    refine ⟨?_, ?_, ?_⟩
    · unfold backTo at i1 ⊢
      rw [List.map_cons, i1]
      rfl
    · rw [List.any_cons, i2]; rfl
    · rw [List.all_cons, i3]; rfl
theorem no_stars {es : List PySem.Expr} {env : PySem.Env} {pos : Pos} (h : es.all star0 = true) : ((backTo pos (starEach es env)).any fun x => x.1) = false := by
  rw [(backTo_stars h).1]; exact (backTo_stars (pos := pos) h).2.1
theorem mcf {args : List PySem.Expr} {env : PySem.Env} {pos : Pos} (h : args.all star0 = true) (hl : args.length < 20) : methodCallForm args.length (backTo pos (starEach args env)) [] = true := by
  unfold methodCallForm
  rw [(backTo_stars h).1, (backTo_stars (pos := pos) h).2.2]
  simp; omega
theorem meth_eq {o : PySem.Expr} (h : nsup o = true) {name : Str} {apos pos : Pos} {args : List PySem.Expr} {env : PySem.Env} (hf : args.all star0 = true) (hn : args.length < 20) (hl : (apos.endLine == pos.line) = true) : (eval ((o.Attribute name apos).Call args [] pos) env = (do
          let ov ← eval o env
          standAt apos.atName
          let __x ← holding [ov] (getMethod ov name (do
             let __do_lift ← importBound o env
             pure (__do_lift.getD true)))
          match __x with
            | (f, first) => callWith pos f first (backTo pos (starEach args env)) (backToKw pos (keywordEach [] env)))) := by
  conv => lhs; unfold eval
  have e2 : methodCallForm (args.length + [].length (α := Keyword)) (backTo pos (starEach args env)) (backToKw pos (keywordEach [] env)) = true := mcf hf hn
  simp only [ab_nsup h, methodCall, e2, calleeOf, methodCallPos, if_true, hl]
  rfl
theorem m2_of {X : Cx} {o e f : PySem.Expr} {m : Str} {apos cpos : Pos} (h : nsup o = true) (hs : star0 e = true) (hf : star0 f = true) (hl : (apos.endLine == cpos.line) = true) : M2 X o m apos e f cpos := by
  have h2 : [e, f].all star0 = true := by simp [hs, hf]
  refine ⟨ab_nsup h, ?_, hl, ?_⟩
  · rw [(backTo_stars h2).1, (backTo_stars (pos := cpos) h2).2.2]; rfl
  · rw [(backTo_stars h2).1, star_cons hs, star_cons hf]; rfl
def bnames : List String := ["len", "int", "abs", "max", "min", "list", "tuple", "isinstance", "range", "enumerate", "str", "sorted", "set", "sum", "any", "all", "bool", "dict"]
def spF (Γ : Gd) (cl : Cls) (f : String) (pn : Nat) : Sp := fun vs H Q E => ∃ α M ds, RH Γ α M H ∧ RVs Γ.K α H ds vs ∧ ds.length = pn ∧ Ho Γ E (RV Γ.K) (cl f ds M) α H Q
structure FnAt (cl : Cls) (X : Cx) (f : String) (fd : Fn) (fa : Addr) : Prop where
  run : ∃ k fdd ps, FnOk X.prog X.w X.K X.mg X.base (L2.CX X.prog X.w) k fa fdd ps (spF X.gd cl f fd.pn) ∧ Room (k + 1) X.A ∧ ps.length = fd.pn ∧ ∀ j, j ≤ fd.dfl.length → ∃ ds dvs, L2.Binds X.K fdd ps ds ∧ Vals dvs ds ∧ ∀ α H, RVs X.K α H (fd.dfl.drop j) dvs
  kp : PySem.W.keepIn X.K (.ref fa) = true
  ar : ∀ ds M, cl f ds M ≠ .no → ds.length ≤ fd.pn ∧ fd.pn ≤ ds.length + fd.dfl.length
  pad : ∀ ds, ds.length ≤ fd.pn → fd.pn ≤ ds.length + fd.dfl.length → cl f ds = cl f (ds ++ fd.dfl.drop (ds.length + fd.dfl.length - fd.pn))
structure GX (g : G) (cl : Cls) (X : Cx) : Prop where
  calm : X.calm = true
  nd : X.N.Nodup
  un : X.A.units + 65 < cLine
  na : NaOk g X.K
  nob : ∀ b ∈ bnames, X.mg (Str.ofString b) = none
  glb : ∀ x d, g.glb x = some d → ∃ u v, X.mg (Str.ofString x) = some u ∧ L2.RelV v u ∧ ∀ α H, RV X.K α H d v
  fn : ∀ f fd, g.fn f = some fd → ∃ fa, FnAt cl X f fd fa ∧ (fd.glo = true → X.mg (Str.ofString f) = some (.ref fa)) ∧
    ∀ c m, methOf g c m = some f → L2.Cls X.K (cad X.K c) ∧ Meth X.K (cad X.K c) (Str.ofString m) fa ∧ (m = "__init__" → Mk X.K (cad X.K c) fa ∧ X.mg (Str.ofString c) = some (.ref (cad X.K c)))
  has : ∀ c m f, methOf g c m = some f → ∃ fd, g.fn f = some fd
section
variable {g : G} {cl : Cls} {X : Cx} {W : WX}
theorem vals_app {vs ws : List V} {us xs : List Value} (a : Vals vs us) (b : Vals ws xs) : Vals (vs ++ ws) (us ++ xs) := by
  induction a with
  | nil => exact b
  | cons r _ ih => exact .cons r ih
theorem run_at {f : String} {fd : Fn} {fa : Addr} (F : FnAt cl X f fd fa) (tk : Takes X W) {pins : List (Addr × Obj)} {s : Shared} {σ : L2.St} {H : Hp} {Q : VK} {ds : List D} {vs : List V} {us : List Value} {α : List Addr} {M : List Ob} (I : L2.Inv X pins σ H s) (rh : RH X.gd α M H) (rvs : RVs X.K α H ds vs) (hv : Vals vs us) (h : Ho X.gd (fun x d H => W x d σ H) (RV X.K) (cl f ds M) α H Q) :
    wpAny (model X.prog X.w) X.A (call (.ref fa) us) (EP X pins σ Q) X.xe s := by
  obtain ⟨k, fdd, ps, fok, room, hps, hd⟩ := F.run
  have hno : cl f ds M ≠ .no := fun e => by rw [e] at h; exact h
  obtain ⟨a1, a2⟩ := F.ar ds M hno
  obtain ⟨dv, dvs, hb, hvd, rd⟩ := hd (ds.length + fd.dfl.length - fd.pn) (by omega)
  refine run_fnSD (E := fun σ => fun x d H => W x d σ H) fok ⟨room.hd, by have := room.dp; omega, by have := room.un; omega⟩ hb hvd (passAt tk σ) I hv ?_
  refine ⟨α, M, ds ++ fd.dfl.drop (ds.length + fd.dfl.length - fd.pn), rh, rvs.append (rd α H), ?_, ?_⟩
  · rw [List.length_append, List.length_drop]; omega
  · rw [← F.pad ds a1 a2]; exact h
theorem callW {f : String} {fd : Fn} {fa : Addr} (F : FnAt cl X f fd fa) (tk : Takes X W) {cs : CEs} {es : List PySem.Expr} (hs : SA g cl X cs es) (h0 : es = [] → cs = .nil) (hst : es.all star0 = true) {pos : Pos} {pins : List (Addr × Obj)} {s : Shared} {σ : L2.St} {H : Hp} {Q : VK} {ds0 : List D} {vs0 : List V} {us0 : List Value} {α : List Addr} {ρ : Env} {M : List Ob}
    (I : L2.Inv X pins σ H s) (rl : RL X.K α H ρ σ) (rh : RH X.gd α M H) (rvs0 : RVs X.K α H ds0 vs0) (hv0 : Vals vs0 us0) (h : Ho X.gd (fun x d H => W x d σ H) (RV X.K) ((evs g cl ρ cs >>= fun ds => cl f (ds0 ++ ds)) M) α H Q) :
    wpAny (model X.prog X.w) X.A (callWith pos (.ref fa) us0 (backTo pos (starEach es X.env)) []) (EP X pins σ Q) X.xe s := by
  cases es with
  | nil =>
    have e := h0 rfl
    subst e
    refine PySem.W.callWith_K0 I.kIn F.kp ?_
    have h' : Ho X.gd (fun x d H => W x d σ H) (RV X.K) (cl f (ds0 ++ []) M) α H Q := h
    rw [List.append_nil] at h' ⊢
    exact run_at F tk I rh rvs0 hv0 h'
  | cons e es =>
    have hst' := hst
    simp only [List.all_cons, Bool.and_eq_true] at hst'
    refine PySem.W.callWith_K I.ok.mod.kin F.kp (thn ((hs W tk).run pos pins s σ H (fun vs H1 => ∃ ds α1 M1, Nx X.K α H α1 H1 ∧ RH X.gd α1 M1 H1 ∧ RVs X.K α1 H1 ds vs ∧ Ho X.gd (fun x d H => W x d σ H) (RV X.K) (cl f (ds0 ++ ds) M1) α1 H1 Q) I (tAs.go rl rh h fun vs H1 α1 M1 ds nx rl rh rvs h => ⟨ds, α1, M1, nx, rh, rvs, h⟩)) ?_) (star_cons hst'.1) (no_stars hst'.2)
    rintro us s1 ⟨vs, H1, I1, hv, ds, α1, M1, nx, rh1, rvs, h1⟩
    exact ⟨I1.kIn, run_at F tk I1 rh1 ((rvs0.mono nx).append rvs) (vals_app hv0 hv) h1⟩
theorem se_call (gx : GX g cl X) {f : String} {fd : Fn} {cs : CEs} {es : List PySem.Expr} {p pos : Pos} (hf : g.fn f = some fd) (hglo : fd.glo = true) (hg : Gl X (Str.ofString f)) (hd : (Str.ofString f == Str.ofString "__debug__") = false) (hs : SA g cl X cs es) (h0 : es = [] → cs = .nil) (hst : es.all star0 = true) : SE g cl X (.call f cs) (.Call (.Name (Str.ofString f) p) es [] pos) := fun W tk => ⟨fun pins s σ H Q I z => by
  obtain ⟨fa, F, hm, -⟩ := gx.fn f fd hf
  obtain ⟨α, ρ, M, rl, rh, h⟩ := z
  rw [ev] at h
  exact wpAny_Call_Name_kw (ld_glob I hg (hm hglo) (callW F tk hs h0 hst (ds0 := []) I rl rh .nil .nil h) hd)⟩
theorem passesQ {E : XK} (h : ∀ c d H, ¬ E c d H) : Passes (L2.CX X.prog X.w) X E := fun pins σ H s e s' I q => by
  obtain ⟨a, B, H', cls, d, _, _, _, _, _, _, _, q⟩ := q
  exact (h _ _ _ q).elim
theorem quiet_ok {A : Type} {m : CM A} {M M' : List Ob} {a : A} (h : quiet m M = .ok a M') : m M = .ok a M' := by
  unfold quiet at h
  cases e : m M with
  | ok b M1 => rw [e] at h; cases h; rfl
  | ex _ _ => rw [e] at h; cases h
  | no => rw [e] at h; cases h
theorem run_make_at (gx : GX g cl X) {c f : String} (hc : methOf g c "__init__" = some f) {pins : List (Addr × Obj)} {s : Shared} {σ : L2.St} {H : Hp} {Q : VK} {ds : List D} {vs : List V} {us : List Value} {α : List Addr} {M : List Ob} {W : XW} (I : L2.Inv X pins σ H s) (rh : RH X.gd α M H) (rvs : RVs X.K α H ds vs) (hv : Vals vs us)
    (h : Ho X.gd W (RV X.K) ((do
      let p ← CM.new (.ins c [])
      match ← quiet (cl f (p :: ds)) with
      | .non => pure p
      | _ => CM.fail : CM D) M) α H Q) :
    wpAny (model X.prog X.w) X.A (call (.ref (cad X.K c)) us) (EP X pins σ Q) X.xe s := by
  obtain ⟨fd, hf⟩ := gx.has c _ f hc
  obtain ⟨fa, F, -, hm⟩ := gx.fn f fd hf
  obtain ⟨cc, -, hmk⟩ := hm c _ hc
  obtain ⟨mk, -⟩ := hmk rfl
  obtain ⟨k, fdd, ps, fok, room, hps, hd⟩ := F.run
  have h' : Ho X.gd W (RV X.K) ((quiet (cl f (.ref M.length :: ds)) >>= fun r => (match r with | .non => pure (.ref M.length) | _ => CM.fail : CM D)) (M ++ [.ins c []])) α H Q := h
  rw [CM.bind_run] at h'
  cases e : quiet (cl f (.ref M.length :: ds)) (M ++ [.ins c []]) with
  | ok d M1 =>
    rw [e] at h'
    have e2 := quiet_ok e
    obtain ⟨a1, a2⟩ := F.ar _ _ (fun q => by rw [q] at e2; cases e2)
    obtain ⟨dv, dvs, hb, hvd, rd⟩ := hd ((D.ref M.length :: ds).length + fd.dfl.length - fd.pn) (by omega)
    refine run_make (E := fun _ _ _ => False) mk fok room hb hvd (passesQ fun _ _ _ q => q) I hv fun x dx n1 n2 ne => ?_
    have n3 : (upd H dx (.own x)) x = none := by rw [upd_ne (Ne.symm ne)]; exact n1
    have rh1 : RH X.gd α M (upd H dx (.own x)) := rh.move (nx_fresh n2) fun a m => upd_ne fun e => rh.fresh n2 (e ▸ m)
    have rh2 : RH X.gd (α ++ [x]) (M ++ [.ins c []]) (upd (upd H dx (.own x)) x (.ins (cad X.K c) dx [])) := rh1.new n3 ⟨dx, [], upd_same, .nil⟩
    have nx1 : Nx X.K α H (α ++ [x]) (upd (upd H dx (.own x)) x (.ins (cad X.K c) dx [])) := (nx_fresh (Γ := X.gd) n2).trans (nx_new (Γ := X.gd) n3)
    have rx : RV X.K (α ++ [x]) (upd (upd H dx (.own x)) x (.ins (cad X.K c) dx [])) (.ref M.length) (.ref x) := .ref (by rw [← rh.len, List.getElem?_append_right (Nat.le_refl _)]; simp)
    refine ⟨α ++ [x], M ++ [.ins c []], (D.ref M.length :: ds) ++ fd.dfl.drop ((D.ref M.length :: ds).length + fd.dfl.length - fd.pn), rh2, ?_, ?_, ?_⟩
    · exact RVs.append (ds := D.ref M.length :: ds) (vs := V.ref x :: vs) (.cons rx (rvs.mono nx1)) (rd _ _)
    · rw [List.length_append, List.length_drop]; omega
    · rw [← F.pad _ a1 a2, e2]
      intro α' v H' nx2 rh3 rv
      cases d with
      | non => cases rv; exact ⟨rfl, Ho.ok h' (nx1.trans nx2) rh3 (rx.mono nx2)⟩
      | _ => exact h'.elim
  | ex x M1 =>
    exfalso
    unfold quiet at e
    cases q : cl f (.ref M.length :: ds) (M ++ [.ins c []]) <;> rw [q] at e <;> cases e
  | no => rw [e] at h'; exact h'.elim
theorem se_make (gx : GX g cl X) {c f : String} {cs : CEs} {es : List PySem.Expr} {p pos : Pos} (hc : methOf g c "__init__" = some f) (hg : Gl X (Str.ofString c)) (hd : (Str.ofString c == Str.ofString "__debug__") = false) (hs : SA g cl X cs es) (h0 : es = [] → cs = .nil) (hst : es.all star0 = true) : SE g cl X (.make c cs) (.Call (.Name (Str.ofString c) p) es [] pos) := fun W tk => ⟨fun pins s σ H Q I z => by
  obtain ⟨fd, hf⟩ := gx.has c _ f hc
  obtain ⟨fa, F, -, hm⟩ := gx.fn f fd hf
  obtain ⟨cc, -, hmk⟩ := hm c _ hc
  obtain ⟨mk, hmg⟩ := hmk rfl
  obtain ⟨α, ρ, M, rl, rh, h⟩ := z
  rw [ev, hc] at h
  refine wpAny_Call_Name_kw (ld_glob I hg hmg ?_ hd)
  cases es with
  | nil =>
    have e := h0 rfl
    subst e
    exact PySem.W.callWith_K0 I.kIn mk.kp (run_make_at gx hc (ds := []) (W := fun x d H => W x d σ H) I rh .nil .nil h)
  | cons e es =>
    have hst' := hst
    simp only [List.all_cons, Bool.and_eq_true] at hst'
    refine PySem.W.callWith_K I.ok.mod.kin mk.kp (thn ((hs W tk).run pos pins s σ H (fun vs H1 => ∃ ds α1 M1, Nx X.K α H α1 H1 ∧ RH X.gd α1 M1 H1 ∧ RVs X.K α1 H1 ds vs ∧ Ho X.gd (fun x d H => W x d σ H) (RV X.K) _ α1 H1 Q) I (tAs.go rl rh h fun vs H1 α1 M1 ds nx rl rh rvs h => ⟨ds, α1, M1, nx, rh, rvs, h⟩)) ?_) (star_cons hst'.1) (no_stars hst'.2)
    rintro us s1 ⟨vs, H1, I1, hv, ds, α1, M1, nx, rh1, rvs, h1⟩
    exact ⟨I1.kIn, run_make_at gx hc (W := fun x d H => W x d σ H) I1 rh1 rvs hv h1⟩⟩
end
end Sb
end
section
set_option Elab.async false
set_option linter.all false
set_option maxRecDepth 100000
set_option maxHeartbeats 2000000
namespace Sb
open PySem PySem.Spec PyProof.Rows L2
section
variable {K : Frag} {α : List Addr} {H : Hp}
abbrev PK (K : Frag) (α : List Addr) (H : Hp) (p : D × D) (q : Key × V) : Prop := RK p.1 q.1 ∧ RV K α H p.2 q.2
theorem RK.iff {a b : D} {k l : Key} (x : RK a k) (y : RK b l) : a = b ↔ k = l := ⟨fun e => RK.fn x (e ▸ y), fun e => RK.inj x (e ▸ y)⟩
theorem any_rel {kvs : List (D × D)} {kws : List (Key × V)} {x : D} {k : Key} (r : Paired (PK K α H) kvs kws) (rx : RK x k) : (kvs.any fun p => decide (p.1 = x)) = kws.any fun q => decide (q.1 = k) := by
  induction r with
  | nil => rfl
  | cons h _ ih => rw [List.any_cons, List.any_cons, ih, decide_eq_decide.mpr (RK.iff h.1 rx)]
theorem Paired.app {A B : Type} {R : A → B → Prop} {l m : List A} {l' m' : List B} (a : Paired R l l') (b : Paired R m m') : Paired R (l ++ m) (l' ++ m') := by
  induction a with
  | nil => exact b
  | cons r _ ih => exact .cons r ih
theorem Paired.len {A B : Type} {R : A → B → Prop} {l : List A} {l' : List B} (a : Paired R l l') : l.length = l'.length := by
  induction a with
  | nil => rfl
  | cons r _ ih => rw [List.length_cons, List.length_cons, ih]
theorem putK_rel {kvs : List (D × D)} {kws : List (Key × V)} {x d : D} {k : Key} {v : V} (r : Paired (PK K α H) kvs kws) (rx : RK x k) (rv : RV K α H d v) : Paired (PK K α H) (Sb.putK x d kvs) (L2.putK kws k v) := by
  unfold Sb.putK L2.putK
  rw [any_rel r rx]
  by_cases e : (kws.any fun q => decide (q.1 = k)) = true
  · rw [if_pos e, if_pos e]
    clear e
    induction r with
    | nil => exact .nil
    | cons h _ ih =>
      rename_i p q _ _ _
      refine .cons ?_ ih
      by_cases z : p.1 = x
      · dsimp only; rw [if_pos z, if_pos ((RK.iff h.1 rx).mp z)]; exact ⟨h.1, rv⟩
      · dsimp only; rw [if_neg z, if_neg fun w => z ((RK.iff h.1 rx).mpr w)]; exact h
  · rw [if_neg e, if_neg e]
    exact Paired.app r (.cons ⟨rx, rv⟩ .nil)
theorem dropK_rel {kvs : List (D × D)} {kws : List (Key × V)} {x : D} {k : Key} (r : Paired (PK K α H) kvs kws) (rx : RK x k) : Paired (PK K α H) (Sb.dropK x kvs) (L2.dropK kws k) := by
  unfold Sb.dropK L2.dropK
  induction r with
  | nil => exact .nil
  | cons h _ ih =>
    rename_i p q _ _ _
    by_cases z : p.1 = x
    · have z2 := (RK.iff h.1 rx).mp z
      rw [List.filter_cons_of_neg (by simp [z]), List.filter_cons_of_neg (by simp [z2])]
      exact ih
    · have z2 : ¬ q.1 = k := fun w => z ((RK.iff h.1 rx).mpr w)
      rw [List.filter_cons_of_pos (by simp [z]), List.filter_cons_of_pos (by simp [z2])]
      exact .cons h ih
end
theorem dic_at {Γ : Gd} {α : List Addr} {M : List Ob} {H : Hp} (rh : RH Γ α M H) {i : Nat} {a : Addr} {t : Bool} {kvs : List (D × D)} (e : M[i]? = some (.dic t kvs)) (ha : α[i]? = some a) : t = false ∧ ∃ kws, H a = some (.dK kws) ∧ Paired (PK Γ.K α H) kvs kws := by
  obtain ⟨o, e1, rd⟩ := rh.ob _ _ _ e ha
  cases t with
  | true => exact rd.elim
  | false => obtain ⟨kws, rfl, pr⟩ := rd; exact ⟨rfl, kws, e1, pr⟩
theorem Ho.putDic {Γ : Gd} {W : XW} {A B : Type} {α : List Addr} {M : List Ob} {H : Hp} (rh : RH Γ α M H) {i : Nat} {a : Addr} {kvs : List (D × D)} {kws kws0 : List (Key × V)} (e0 : H a = some (.dK kws0)) (ha : α[i]? = some a) (pr : Paired (PK Γ.K α H) kvs kws) : Nx Γ.K α H α (upd H a (.dK kws)) ∧ RH Γ α (M.set i (.dic false kvs)) (upd H a (.dK kws)) := by
  have n : Nx Γ.K α H α (upd H a (.dK kws)) := nx_put e0 ⟨fun _ h => (by cases h), fun _ _ h => (by cases h)⟩
  exact ⟨n, rh.put ha n ⟨_, upd_same, kws, rfl, Paired.imp (fun _ _ z => ⟨z.1, z.2.mono n⟩) pr⟩⟩
theorem Ho.putLst {Γ : Gd} {α : List Addr} {M : List Ob} {H : Hp} (rh : RH Γ α M H) {i : Nat} {a : Addr} {ds : List D} {xs xs0 : List V} (e0 : H a = some (.lst xs0)) (ha : α[i]? = some a) (r : RVs Γ.K α H ds xs) : Nx Γ.K α H α (upd H a (.lst xs)) ∧ RH Γ α (M.set i (.lst ds)) (upd H a (.lst xs)) := by
  have n : Nx Γ.K α H α (upd H a (.lst xs)) := nx_put e0 ⟨fun _ h => (by cases h), fun _ _ h => (by cases h)⟩
  exact ⟨n, rh.put ha n ⟨_, upd_same, r.mono n⟩⟩
theorem seqIx_eq {n : Nat} {i : Int} {j : Nat} (h : ixOf n i = some j) : seqIndex? i n = some j := by
  unfold ixOf at h
  unfold seqIndex?
  by_cases h0 : 0 ≤ i
  · rw [if_pos h0] at h
    by_cases h1 : i < n
    · rw [if_pos h1] at h
      rw [if_neg (by omega : ¬ i < 0), if_pos (by simp; omega)]
      exact h
    · rw [if_neg h1] at h; cases h
  · rw [if_neg h0] at h
    by_cases h1 : -(n : Int) ≤ i
    · rw [if_pos h1] at h
      rw [if_pos (by omega : i < 0), if_pos (by simp; omega)]
      exact h
    · rw [if_neg h1] at h; cases h
def rMt (Γ : Gd) (W : XW) (m : String) : V → List V → Hp → VK → Prop := fun x vs H Q => ∃ α M i xs ds, RH Γ α M H ∧ RV Γ.K α H (.ref i) x ∧ M[i]? = some (.lst xs) ∧ RVs Γ.K α H ds vs ∧ Ho Γ W (RV Γ.K) (lstMeth i xs m ds M) α H Q
section
variable {X : Cx} {W : XW}
theorem mtc_append : MtR X "list.append" (rMt X.gd W "append") := by
  rintro pins s σ H x vs v us Q I rx rvs ⟨α, M, i, xs, ds, rh, r0, e, rd, h⟩
  obtain ⟨a, ys, rfl, ha, e1, as⟩ := RV.lst rh r0 e
  cases rd with
  | nil => exact h.elim
  | cons r1 rd =>
    cases rd with
    | cons _ _ => exact h.elim
    | nil =>
      obtain ⟨hl, h⟩ := ask_runD h
      rw [lim_eq, as.length] at hl
      obtain ⟨_, h⟩ := put_bind h
      obtain ⟨n, rh2⟩ := Ho.putLst rh e1 ha (as.append (.cons r1 .nil))
      exact mt_append pins s σ H _ _ v us Q I rx rvs ⟨a, ys, _, rfl, rfl, e1, hl, Ho.ok h n rh2 .non⟩
theorem mtc_extend : MtR X "list.extend" (rMt X.gd W "extend") := by
  rintro pins s σ H x vs v us Q I rx rvs ⟨α, M, i, xs, ds, rh, r0, e, rd, h⟩
  obtain ⟨a, ys, rfl, ha, e1, as⟩ := RV.lst rh r0 e
  cases rd with
  | nil => exact h.elim
  | cons r1 rd =>
    cases rd with
    | cons _ _ => cases r1 <;> exact h.elim
    | nil =>
      cases r1 with
      | ref hb =>
        obtain ⟨es, e2, h⟩ := lstIt_bind h
        obtain ⟨zs, e3, bs⟩ := rh.ob _ _ _ e2 hb
        obtain ⟨hl, h⟩ := ask_runD h
        rw [lim_eq, as.length, bs.length] at hl
        obtain ⟨_, h⟩ := put_bind h
        obtain ⟨n, rh2⟩ := Ho.putLst rh e1 ha (as.append bs)
        exact mt_extend pins s σ H _ _ v us Q I rx rvs ⟨a, _, ys, zs, rfl, rfl, e1, e3, hl, Ho.ok h n rh2 .non⟩
      | _ => exact h.elim
theorem mtc_insert : MtR X "list.insert" (rMt X.gd W "insert") := by
  rintro pins s σ H x vs v us Q I rx rvs ⟨α, M, i, xs, ds, rh, r0, e, rd, h⟩
  obtain ⟨a, ys, rfl, ha, e1, as⟩ := RV.lst rh r0 e
  cases rd with
  | nil => exact h.elim
  | cons r1 rd =>
    cases rd with
    | nil => cases r1 <;> exact h.elim
    | cons r2 rd =>
      cases rd with
      | cons _ _ => cases r1 <;> exact h.elim
      | nil =>
        cases r1 with
        | int k =>
          obtain ⟨⟨h1, h2, h3⟩, h⟩ := ask_runD h
          rw [lim_eq] at h3
          rw [as.length] at h2 h3
          obtain ⟨_, h⟩ := put_bind h
          obtain ⟨n, rh2⟩ := Ho.putLst rh e1 ha ((as.take k.toNat).append (.cons r2 (as.drop k.toNat)))
          have hz : (sizeLine : Nat) < 2 ^ 63 := by rw [sizeLine_eq]; decide
          refine mt_insert pins s σ H _ _ v us Q I rx rvs ⟨a, ys, k, _, rfl, rfl, e1, h3, h1, by omega, ?_⟩
          rw [List.append_assoc]
          exact Ho.ok h n rh2 .non
        | _ => exact h.elim
theorem mtc_clear : MtR X "list.clear" (rMt X.gd W "clear") := by
  rintro pins s σ H x vs v us Q I rx rvs ⟨α, M, i, xs, ds, rh, r0, e, rd, h⟩
  obtain ⟨a, ys, rfl, ha, e1, as⟩ := RV.lst rh r0 e
  cases rd with
  | cons _ _ => exact h.elim
  | nil =>
    obtain ⟨_, h⟩ := put_bind h
    obtain ⟨n, rh2⟩ := Ho.putLst rh e1 ha .nil
    exact mt_clear pins s σ H _ _ v us Q I rx rvs ⟨a, ys, rfl, rfl, e1, Ho.ok h n rh2 .non⟩
theorem mtc_pop : MtR X "list.pop" (rMt X.gd W "pop") := by
  rintro pins s σ H x vs v us Q I rx rvs ⟨α, M, i, xs, ds, rh, r0, e, rd, h⟩
  obtain ⟨a, ys, rfl, ha, e1, as⟩ := RV.lst rh r0 e
  cases rd with
  | nil =>
    have h' : Ho X.gd W (RV X.K) ((match xs.getLast? with
      | some d => do
        CM.put i (.lst xs.dropLast)
        pure d
      | none => CM.fail : CM D) M) α H Q := h
    cases q : xs.getLast? with
    | none => rw [q] at h'; exact h'.elim
    | some d =>
      rw [q] at h'
      obtain ⟨_, h⟩ := put_bind h'
      rw [List.getLast?_eq_getElem?] at q
      obtain ⟨y, q2, ry⟩ := as.get q
      rw [as.length] at q2
      obtain ⟨n, rh2⟩ := Ho.putLst rh e1 ha as.dropLast
      exact mt_pop pins s σ H _ _ v us Q I rx rvs ⟨a, ys, y, rfl, rfl, e1, q2, Ho.ok h n rh2 (ry.mono n)⟩
  | cons r1 rd =>
    cases rd with
    | cons _ _ => cases r1 <;> exact h.elim
    | nil =>
      cases r1 with
      | int k =>
        obtain ⟨⟨h1, h2⟩, h⟩ := ask_runD h
        obtain ⟨j, q1, h⟩ := opt_bind h
        obtain ⟨d, q2, h⟩ := opt_bind h
        obtain ⟨_, h⟩ := put_bind h
        obtain ⟨y, q3, ry⟩ := as.get q2
        rw [as.length] at q1
        obtain ⟨n, rh2⟩ := Ho.putLst rh e1 ha (as.eraseIdx j)
        exact mt_popAt pins s σ H _ _ v us Q I rx rvs ⟨a, ys, k, j, y, rfl, rfl, e1, by omega, by omega, seqIx_eq q1, q3, Ho.ok h n rh2 (ry.mono n)⟩
      | _ => exact h.elim
end
structure LMt (X : Cx) (m id : String) : Prop where
  slot : Slot "list" (Str.ofString m) id
  ty : typeOf (.builtin id) = pure (.type "method_descriptor")
  mt : ∀ W, MtR X id (rMt X.gd W m)
theorem lmt_ok {X : Cx} {m : String} (h : lmt m = true) : ∃ id, LMt X m id := by
  unfold lmt at h
  simp only [Bool.or_eq_true, beq_iff_eq] at h
  rcases h with (((rfl | rfl) | rfl) | rfl) | rfl
  · exact ⟨_, PySem.F.slot_list_append, PySem.F.type_list_append, fun W => mtc_append⟩
  · exact ⟨_, PySem.F.slot_list_extend, PySem.F.type_list_extend, fun W => mtc_extend⟩
  · exact ⟨_, PySem.F.slot_list_insert, PySem.F.type_list_insert, fun W => mtc_insert⟩
  · exact ⟨_, PySem.F.slot_list_clear, PySem.F.type_list_clear, fun W => mtc_clear⟩
  · exact ⟨_, PySem.F.slot_list_pop, PySem.F.type_list_pop, fun W => mtc_pop⟩
end Sb
end
section
set_option Elab.async false
set_option linter.all false
set_option maxRecDepth 100000
set_option maxHeartbeats 2000000
namespace Sb
open PySem PySem.Spec PyProof.Rows L2
def rMd (Γ : Gd) (W : XW) (m : String) : V → List V → Hp → VK → Prop := fun x vs H Q => ∃ α M i t kvs ds, RH Γ α M H ∧ RV Γ.K α H (.ref i) x ∧ M[i]? = some (.dic t kvs) ∧ RVs Γ.K α H ds vs ∧ Ho Γ W (RV Γ.K) (dicMeth i t kvs m ds M) α H Q
section
variable {X : Cx} {W : XW}
theorem RVs.two {K : Frag} {α : List Addr} {H : Hp} {ds : List D} {vs : List V} (r : RVs K α H ds vs) : (∃ a b u v, ds = [a, b] ∧ vs = [u, v] ∧ RV K α H a u ∧ RV K α H b v) ∨ ∀ a b, ds ≠ [a, b] := by
  cases r with
  | nil => exact .inr fun _ _ h => by cases h
  | cons r1 r =>
    cases r with
    | nil => exact .inr fun _ _ h => by cases h
    | cons r2 r =>
      cases r with
      | nil => exact .inl ⟨_, _, _, _, rfl, rfl, r1, r2⟩
      | cons _ _ => exact .inr fun _ _ h => by cases h
theorem dm_two {i : Nat} {t : Bool} {kvs : List (D × D)} {m : String} {ds : List D} {M : List Ob} (h : ∀ a b, ds ≠ [a, b]) : dicMeth i t kvs m ds M = .no := by
  unfold dicMeth
  split <;> first | rfl | exact absurd rfl (h _ _)
theorem mtc_dget (hu : X.A.units + 65 < cLine) : MtR X "dict.get" (rMd X.gd W "get") := by
  rintro pins s σ H x vs v us Q I rx rvs ⟨α, M, i, t, kvs, ds, rh, r0, e, rd, h⟩
  cases r0 with
  | ref ha =>
    rcases rd.two with ⟨k, d, u, w, rfl, rfl, rk, rdd⟩ | hn
    · cases rx
      obtain ⟨hk, h⟩ := ask_run h
      cases rvs with
      | cons v1 rvs =>
        cases rvs with
        | cons v2 rvs =>
          cases rvs
          rcases dic_get (pins := pins) (s := s) (σ := σ) rh (.inl e) ha rk hk with ⟨l1, g⟩ | ⟨d', z, l1, g, r⟩
          · rw [l1] at h
            exact d_get2 (by omega) I g v1 v2 fun w' s' I' r' => ⟨_, _, I', r', Ho.pure rh h rdd⟩
          · rw [l1] at h
            exact d_get2 (by omega) I g v1 v2 fun w' s' I' r' => ⟨_, _, I', r', Ho.pure rh h r⟩
    · rw [dm_two hn] at h; exact h.elim
theorem mtc_dsetd : MtR X "dict.setdefault" (rMd X.gd W "setdefault") := by
  rintro pins s σ H x vs v us Q I rx rvs ⟨α, M, i, t, kvs, ds, rh, r0, e, rd, h⟩
  cases r0 with
  | ref ha =>
    rcases rd.two with ⟨k, d, u, w, rfl, rfl, rk, rdd⟩ | hn
    · cases rx
      obtain ⟨hk, h⟩ := ask_run h
      rw [Bool.and_eq_true, decide_eq_true_eq] at hk
      obtain ⟨rfl, kws, e1, pr⟩ := dic_at rh e ha
      obtain ⟨ky, rky, rfl⟩ := RK.ofK rk hk.1
      have hl := hk.2
      rw [lim_eq, Paired.len pr] at hl
      cases rvs with
      | cons v1 rvs =>
        cases rvs with
        | cons v2 rvs =>
          cases rvs
          refine d_setd I e1 v1 v2 hl (fun y ey w' s' I' r' => ?_) (fun ey w' s' I' r' => ?_)
          · rcases look_rel (K := X.K) (α := α) (H := H) pr rky with ⟨l1, l2⟩ | ⟨d', z, l1, l2, r⟩
            · rw [l2] at ey; cases ey
            · rw [l2] at ey; cases ey
              rw [l1] at h
              exact ⟨_, _, I', r', Ho.pure rh h r⟩
          · rcases look_rel (K := X.K) (α := α) (H := H) pr rky with ⟨l1, l2⟩ | ⟨d', z, l1, l2, r⟩
            · rw [l1] at h
              obtain ⟨_, h⟩ := put_bind h
              obtain ⟨n, rh2⟩ := Ho.putDic (W := W) (A := Unit) (B := Unit) rh e1 ha (putK_rel pr rky rdd)
              exact ⟨_, _, I', r', Ho.ok h n rh2 (rdd.mono n)⟩
            · rw [l2] at ey; cases ey
    · rw [dm_two hn] at h; exact h.elim
end
structure DMt (X : Cx) (m id : String) : Prop where
  slot : Slot "dict" (Str.ofString m) id
  ty : typeOf (.builtin id) = pure (.type "method_descriptor")
  mt : ∀ W, MtR X id (rMd X.gd W m)
theorem dmt_ok {X : Cx} (hu : X.A.units + 65 < cLine) {m : String} (h : dmt m = true) : ∃ id, DMt X m id := by
  unfold dmt at h
  simp only [Bool.or_eq_true, beq_iff_eq] at h
  rcases h with rfl | rfl
  · exact ⟨_, PySem.F.slot_dict_get, PySem.F.type_dict_get, fun W => mtc_dget hu⟩
  · exact ⟨_, PySem.F.slot_dict_setdefault, PySem.F.type_dict_setdefault, fun W => mtc_dsetd⟩
theorem lst_fail {m : String} {i : Nat} {xs ds : List D} {M : List Ob} (h : lmt m = false) : lstMeth i xs m ds M = .no := by
  unfold lstMeth
  split <;> first | rfl | (exfalso; revert h; decide)
theorem dic_fail {m : String} {i : Nat} {t : Bool} {kvs : List (D × D)} {ds : List D} {M : List Ob} (h : dmt m = false) : dicMeth i t kvs m ds M = .no := by
  unfold dicMeth
  split <;> first | rfl | (exfalso; revert h; decide)
section
variable {g : G} {cl : Cls} {X : Cx}
theorem bm_go {W : WX} {T id : String} {r : V → List V → Hp → VK → Prop} {m : Str} {o : CE} {cs : CEs} {eo : PySem.Expr} {es : List PySem.Expr} {apos pos : Pos} (pa : PlainAttrs T) (slot : Slot T m id) (ty : typeOf (.builtin id) = pure (.type "method_descriptor")) (mt : MtR X id r) (ho : PE X eo (tE X.gd g cl W o)) (hs : PA X es (tAs X.gd g cl W cs)) (h0 : es = [] → cs = .nil) (hst : es.all star0 = true) (hn : es.length < 20) (hsup : nsup eo = true) (hl : (apos.endLine == pos.line) = true)
    {pins : List (Addr × Obj)} {s : Shared} {σ : L2.St} {H : Hp} {Q : VK} {α : List Addr} {ρ : Env} {M M1 : List Ob} {d : D} (I : L2.Inv X pins σ H s) (rl : RL X.K α H ρ σ) (rh : RH X.gd α M H) (q : ev g cl ρ o M = .ok d M1)
    (h : ∀ α1 v H1, Nx X.K α H α1 H1 → RH X.gd α1 M1 H1 → RV X.K α1 H1 d v → tyV X.K T v H1 ∧ Ho X.gd (fun x d H => W x d σ H) (RVs X.K) (evs g cl ρ cs M1) α1 H1 fun vs H2 => r v vs H2 Q) : wpAny (model X.prog X.w) X.A (eval ((eo.Attribute m apos).Call es [] pos) X.env) (EP X pins σ Q) X.xe s := by
  cases es with
  | nil =>
    have e := h0 rfl
    subst e
    refine (pe_bm0 pa slot ty mt ho (ab_nsup hsup) hl).run pins s σ H Q I ⟨α, ρ, M, rl, rh, ?_⟩
    rw [q]
    intro α1 v H1 nx rh1 rv
    obtain ⟨h1, h2⟩ := h α1 v H1 nx rh1 rv
    exact ⟨h1, Ho.pure (a := []) rh1 h2 .nil⟩
  | cons e es =>
    have hst' := hst
    simp only [List.all_cons, Bool.and_eq_true] at hst'
    refine (pe_bm pa slot ty mt ho hs (ab_nsup hsup) (mcf hst hn) hl (star_cons hst'.1) (no_stars hst'.2)).run pins s σ H Q I ⟨α, ρ, M, rl, rh, ?_⟩
    rw [q]
    intro α1 v H1 nx rh1 rv
    obtain ⟨h1, h2⟩ := h α1 v H1 nx rh1 rv
    exact ⟨h1, ⟨α1, ρ, M1, rl.mono nx, rh1, h2⟩⟩
theorem se_met (gx : GX g cl X) {o : CE} {m : String} {cs : CEs} {eo : PySem.Expr} {es : List PySem.Expr} {apos pos : Pos} (ho : SE g cl X o eo) (hs : SA g cl X cs es) (h0 : es = [] → cs = .nil) (hst : es.all star0 = true) (hn : es.length < 20) (hsup : nsup eo = true) (hl : (apos.endLine == pos.line) = true) : SE g cl X (.met o m cs) (.Call (.Attribute eo (Str.ofString m) apos) es [] pos) := fun W tk => ⟨fun pins s σ H Q I z => by
  obtain ⟨α, ρ, M, rl, rh, h⟩ := z
  rw [ev, CM.bind_run] at h
  cases q : ev g cl ρ o M with
  | no => rw [q] at h; exact h.elim
  | ex x M1 =>
    rw [q] at h
    exact PySem.W.methodCall_KW (thn ((ho W tk).run pins s σ H (fun _ _ => False) I ⟨α, ρ, M, rl, rh, by rw [q]; exact h⟩) (fun a s1 hh => by obtain ⟨_, _, _, _, hh⟩ := hh; exact hh.elim)) (meth_eq hsup hst hn hl)
  | ok d M1 =>
    rw [q] at h
    cases d with
    | str t => obtain ⟨hk, h⟩ := ask_run h; cases hk
    | ref i =>
      obtain ⟨ob, eo1, h⟩ := get_bind h
      cases ob with
      | ins c fs =>
        obtain ⟨hnf, h⟩ := ask_run h
        cases hm : methOf g c m with
        | none => rw [hm] at h; exact h.elim
        | some f =>
          rw [hm] at h
          obtain ⟨fd, hf⟩ := gx.has c _ f hm
          obtain ⟨fa, F, -, hmm⟩ := gx.fn f fd hf
          obtain ⟨cc, mt, -⟩ := hmm c _ hm
          refine methcall_of (ho W tk) I ⟨α, ρ, M, rl, rh, ?_⟩ (meth_eq hsup hst hn hl)
          rw [q]
          intro α1 v H1 nx rh1 rv
          cases rv with
          | ref ha =>
            obtain ⟨dx, gs, e1, rf⟩ := rh1.ob _ _ _ eo1 ha
            rcases getF_rel (f := m) rf with ⟨l1, l2⟩ | ⟨d', u, l1, l2, r⟩
            · exact ⟨_, _, dx, gs, fa, rfl, e1, cc, mt, l2, fun s1 I1 => callW F tk hs h0 hst I1 (rl.mono nx) rh1 (.cons (.ref ha) .nil) (.cons rfl .nil) (Ho.nx nx h)⟩
            · rw [l1] at hnf; cases hnf
      | lst xs =>
        obtain ⟨hlm, h⟩ := ask_run h
        obtain ⟨id, L⟩ := lmt_ok (X := X) hlm
        refine bm_go PySem.F.plainAttrs_list L.slot L.ty (L.mt (fun x d H => W x d σ H)) (ho W tk) (hs W tk) h0 hst hn hsup hl I rl rh q fun α1 v H1 nx rh1 rv => ?_
        cases rv with
        | ref ha =>
          obtain ⟨ys, e1, as⟩ := rh1.ob _ _ _ eo1 ha
          refine ⟨.inl ⟨rfl, ys, SqL.of e1⟩, ?_⟩
          refine (Ho.bind (Ho.nx nx h)).mono fun vs H2 z => ?_
          obtain ⟨ds, M2, α2, nx2, rh2, rvs, h⟩ := z
          obtain ⟨ob2, eo2, h⟩ := get_bind h
          cases ob2 with
          | lst xs2 => exact ⟨α2, M2, i, xs2, ds, rh2, .ref (nx2.get ha), eo2, rvs, h⟩
          | _ => exact h.elim
      | dic t kvs =>
        obtain ⟨hlm, h5⟩ := ask_run h
        obtain ⟨id, L⟩ := dmt_ok (X := X) gx.un hlm
        refine bm_go PySem.F.plainAttrs_dict L.slot L.ty (L.mt (fun x d H => W x d σ H)) (ho W tk) (hs W tk) h0 hst hn hsup hl I rl rh q fun α1 v H1 nx rh1 rv => ?_
        cases rv with
        | ref ha =>
          obtain ⟨rfl, kws, e1, pr⟩ := dic_at rh1 eo1 ha
          refine ⟨.inr (.inr (.inl ⟨rfl, .inl ⟨kws, e1⟩⟩)), ?_⟩
          refine (Ho.bind (Ho.nx nx h5)).mono fun vs H2 z => ?_
          obtain ⟨ds, M2, α2, nx2, rh2, rvs, h⟩ := z
          obtain ⟨ob2, eo2, h⟩ := get_bind h
          cases ob2 with
          | dic t2 kvs2 => exact ⟨α2, M2, i, t2, kvs2, ds, rh2, .ref (nx2.get ha), eo2, rvs, h⟩
          | _ => exact h.elim
      | _ => exact h.elim
    | _ => exact h.elim⟩
def rBl (Γ : Gd) (W : XW) (f : String) : List V → Hp → VK → Prop := fun vs H Q => ∃ α M ds, RH Γ α M H ∧ RVs Γ.K α H ds vs ∧ Ho Γ W (RV Γ.K) (blt f ds M) α H Q
theorem RVs.one {K : Frag} {α : List Addr} {H : Hp} {ds : List D} {vs : List V} (r : RVs K α H ds vs) : (∃ a u, ds = [a] ∧ vs = [u] ∧ RV K α H a u) ∨ ∀ a, ds ≠ [a] := by
  cases r with
  | nil => exact .inr fun _ h => by cases h
  | cons r1 r =>
    cases r with
    | nil => exact .inl ⟨_, _, rfl, rfl, r1⟩
    | cons _ _ => exact .inr fun _ h => by cases h
theorem blt_one {f : String} (hf : f = "len" ∨ f = "int" ∨ f = "abs" ∨ f = "list" ∨ f = "tuple") {ds : List D} {M : List Ob} (h : ∀ a, ds ≠ [a]) : blt f ds M = .no := by
  unfold blt
  split <;> first | rfl | exact absurd rfl (h _) | (exfalso; revert hf; decide)
theorem blt_two {f : String} (hf : f = "max" ∨ f = "min") {ds : List D} {M : List Ob} (h : ∀ a b, ds ≠ [a, b]) : blt f ds M = .no := by
  unfold blt
  split <;> first | rfl | exact absurd rfl (h _ _) | (exfalso; revert hf; decide)
section
variable {W : XW}
theorem cr_len : CallR X (.builtin "len") (rBl X.gd W "len") := by
  rintro pins s σ H vs us Q I hv ⟨α, M, ds, rh, rvs, h⟩
  rcases rvs.one with ⟨a, u, rfl, rfl, r⟩ | hn
  · cases r with
    | str ht z => exact call_len pins s σ H _ us Q I hv ⟨_, _, rfl, ⟨by rw [toS_len]; exact z, rfl⟩, by rw [toS_len]; exact Ho.pure rh h (.int _)⟩
    | tup hs rs => exact call_len pins s σ H _ us Q I hv ⟨_, _, rfl, .inr ⟨_, hs, rfl⟩, by rw [← rs.length]; exact Ho.pure rh h (.int _)⟩
    | rol hs rs => exact call_len pins s σ H _ us Q I hv ⟨_, _, rfl, .inl ⟨_, hs.sq, rfl⟩, by rw [← rs.length]; exact Ho.pure rh h (.int _)⟩
    | ref ha =>
      obtain ⟨ob, eo, h⟩ := get_bind h
      cases ob with
      | lst xs =>
        obtain ⟨ys, e1, as⟩ := rh.ob _ _ _ eo ha
        exact call_len pins s σ H _ us Q I hv ⟨_, _, rfl, .inl ⟨_, SqL.of e1, rfl⟩, by rw [← as.length]; exact Ho.pure rh h (.int _)⟩
      | frz xs =>
        obtain ⟨o, ys, e1, as⟩ := rh.ob _ _ _ eo ha
        exact call_len pins s σ H _ us Q I hv ⟨_, _, rfl, .inl ⟨_, .inl (.inr ⟨o, e1⟩), rfl⟩, by rw [← as.length]; exact Ho.pure rh h (.int _)⟩
      | dic t kvs =>
        obtain ⟨rfl, kws, e1, pr⟩ := dic_at rh eo ha
        exact call_lenD pins s σ H _ us Q I hv ⟨_, kws, rfl, e1, by rw [← Paired.len pr]; exact Ho.pure rh h (.int _)⟩
      | _ => exact h.elim
    | _ => exact h.elim
  · rw [blt_one (by simp) hn] at h; exact h.elim
theorem cr_int : CallR X (.type "int") (rBl X.gd W "int") := by
  rintro pins s σ H vs us Q I hv ⟨α, M, ds, rh, rvs, h⟩
  rcases rvs.one with ⟨a, u, rfl, rfl, r⟩ | hn
  · cases r with
    | int i => exact call_int1 pins s σ H _ us Q I hv (.inl ⟨i, rfl, Ho.pure rh h (.int _)⟩)
    | bl b => exact call_int1 pins s σ H _ us Q I hv (.inr ⟨b, rfl, Ho.pure rh h (.int _)⟩)
    | _ => exact h.elim
  · rw [blt_one (by simp) hn] at h; exact h.elim
theorem cr_abs : CallR X (.builtin "abs") (rBl X.gd W "abs") := by
  rintro pins s σ H vs us Q I hv ⟨α, M, ds, rh, rvs, h⟩
  rcases rvs.one with ⟨a, u, rfl, rfl, r⟩ | hn
  · cases r with
    | int i => exact call_abs pins s σ H _ us Q I hv ⟨i, rfl, Ho.pure rh h (.int _)⟩
    | _ => exact h.elim
  · rw [blt_one (by simp) hn] at h; exact h.elim
theorem cr_max (hc : X.calm = true) : CallR X (.builtin "max") (rBl X.gd W "max") := by
  rintro pins s σ H vs us Q I hv ⟨α, M, ds, rh, rvs, h⟩
  rcases rvs.two with ⟨a, b, u, v, rfl, rfl, r1, r2⟩ | hn
  · cases r1 with
    | int i =>
      cases r2 with
      | int j => exact call_max2 hc pins s σ H _ us Q I hv ⟨i, j, rfl, Ho.pure rh h (.int _)⟩
      | _ => exact h.elim
    | _ => exact h.elim
  · rw [blt_two (by simp) hn] at h; exact h.elim
theorem cr_min2 (hc : X.calm = true) : CallR X (.builtin "min") (rBl X.gd W "min") := by
  rintro pins s σ H vs us Q I hv ⟨α, M, ds, rh, rvs, h⟩
  rcases rvs.two with ⟨a, b, u, v, rfl, rfl, r1, r2⟩ | hn
  · cases r1 with
    | int i =>
      cases r2 with
      | int j => exact call_min2 hc pins s σ H _ us Q I hv ⟨i, j, rfl, Ho.pure rh h (.int _)⟩
      | _ => exact h.elim
    | _ => exact h.elim
  · rw [blt_two (by simp) hn] at h; exact h.elim
theorem cr_list : CallR X (.type "list") (rBl X.gd W "list") := by
  rintro pins s σ H vs us Q I hv ⟨α, M, ds, rh, rvs, h⟩
  rcases rvs.one with ⟨a, u, rfl, rfl, r⟩ | hn
  · cases r with
    | tup hs rs => exact call_list_of pins s σ H _ us Q I hv ⟨_, _, rfl, .inr hs, fun l n => Ho.newLst rh h rs n⟩
    | rol hs rs => exact call_list_of pins s σ H _ us Q I hv ⟨_, _, rfl, .inl hs.sq, fun l n => Ho.newLst rh h rs n⟩
    | ref ha =>
      obtain ⟨xs, eo, h⟩ := items_bind h
      obtain ⟨a, ys, e1, ha', sq, as⟩ := RV.seq rh (.ref ha) eo
      cases e1
      exact call_list_of pins s σ H _ us Q I hv ⟨_, _, rfl, .inl sq, fun l n => Ho.newLst rh h as n⟩
    | _ => exact h.elim
  · rw [blt_one (by simp) hn] at h; exact h.elim
theorem cr_tuple : CallR X (.type "tuple") (rBl X.gd W "tuple") := by
  rintro pins s σ H vs us Q I hv ⟨α, M, ds, rh, rvs, h⟩
  rcases rvs.one with ⟨a, u, rfl, rfl, r⟩ | hn
  · cases r with
    | tup hs rs => exact call_tuple_of pins s σ H _ us Q I hv ⟨_, _, rfl, .inr ⟨hs, Ho.pure rh h (.tup hs rs)⟩⟩
    | rol hs as => exact call_tuple_of pins s σ H _ us Q I hv ⟨_, _, rfl, .inl ⟨hs.sq, fun l n => Ho.ok (α' := α) h (nx_fresh n) (rh.tup n) (.tup (.inl (.inl upd_same)) (as.mono (nx_fresh n)))⟩⟩
    | ref ha =>
      obtain ⟨xs, eo, h⟩ := items_bind h
      obtain ⟨a, ys, e1, ha', sq, as⟩ := RV.seq rh (.ref ha) eo
      cases e1
      exact call_tuple_of pins s σ H _ us Q I hv ⟨_, _, rfl, .inl ⟨sq, fun l n => Ho.ok (α' := α) h (nx_fresh n) (rh.tup n) (.tup (.inl (.inl upd_same)) (as.mono (nx_fresh n)))⟩⟩
    | _ => exact h.elim
  · rw [blt_one (by simp) hn] at h; exact h.elim
end
inductive BF : Type where
  | fn (id : String) | ty (T : String)
def bfOf (f : String) : Option BF :=
  if f = "len" then some (.fn "len") else if f = "int" then some (.ty "int") else if f = "abs" then some (.fn "abs")
  else if f = "max" then some (.fn "max") else if f = "min" then some (.fn "min") else if f = "list" then some (.ty "list") else if f = "tuple" then some (.ty "tuple") else none
theorem boot_tuple' : bootBuiltins (Str.ofString "tuple") = some (.type "tuple") := by decide +kernel
theorem se_blt (gx : GX g cl X) {f : String} {cs : CEs} {e : PySem.Expr} {es : List PySem.Expr} {p pos : Pos} (hf : (bfOf f).isSome = true) (hg : Gl X (Str.ofString f)) (hs : SA g cl X cs (e :: es)) (hst : (e :: es).all star0 = true) : SE g cl X (.blt f cs) (.Call (.Name (Str.ofString f) p) (e :: es) [] pos) := fun W tk => ⟨fun pins s σ H Q I z => by
  have hst' := hst
  simp only [List.all_cons, Bool.and_eq_true] at hst'
  have rd : ∀ {σ H Q}, tE X.gd g cl W (.blt f cs) σ H Q → tCB (rBl X.gd (fun x d H => W x d σ H) f) (tAs X.gd g cl W cs) σ H Q := fun {σ H Q} z => by
    obtain ⟨α, ρ, M, rl, rh, h⟩ := z
    rw [ev] at h
    exact tAs.go rl rh h fun vs H1 α1 M1 ds nx rl rh rvs h => ⟨α1, M1, ds, rh, rvs, h⟩
  have s1 := star_cons (env := X.env) (es := es) hst'.1
  have s2 := no_stars (env := X.env) (pos := pos) hst'.2
  have one : ∀ {id : String}, CallR X (.builtin id) (rBl X.gd (fun x d H => W x d σ H) f) → bootBuiltins (Str.ofString f) = some (.builtin id) → X.mg (Str.ofString f) = none → Str.ofString f ≠ Str.ofString "__name__" → (Str.ofString f == Str.ofString "__debug__") = false → wpAny (model X.prog X.w) X.A (eval (.Call (.Name (Str.ofString f) p) (e :: es) [] pos) X.env) (EP X pins σ Q) X.xe s :=
    fun hc hb hm h1 h2 => (pe_callB hc hg hm hb (hs W tk) h1 h2 s1 s2).run pins s σ H Q I (rd z)
  have two : ∀ {T : String}, CallR X (.type T) (rBl X.gd (fun x d H => W x d σ H) f) → bootBuiltins (Str.ofString f) = some (.type T) → X.mg (Str.ofString f) = none → Str.ofString f ≠ Str.ofString "__name__" → (Str.ofString f == Str.ofString "__debug__") = false → wpAny (model X.prog X.w) X.A (eval (.Call (.Name (Str.ofString f) p) (e :: es) [] pos) X.env) (EP X pins σ Q) X.xe s :=
    fun hc hb hm h1 h2 => (pe_callTy hc hg hm hb (hs W tk) h1 h2 s1 s2).run pins s σ H Q I (rd z)
  unfold bfOf at hf
  split at hf
  · subst f; exact one cr_len PySem.boot_len (gx.nob _ (by decide)) (by decide) (by decide)
  split at hf
  · subst f; exact two cr_int boot_int (gx.nob _ (by decide)) (by decide) (by decide)
  split at hf
  · subst f; exact one cr_abs boot_abs (gx.nob _ (by decide)) (by decide) (by decide)
  split at hf
  · subst f; exact one (cr_max gx.calm) boot_max (gx.nob _ (by decide)) (by decide) (by decide)
  split at hf
  · subst f; exact one (cr_min2 gx.calm) boot_min (gx.nob _ (by decide)) (by decide) (by decide)
  split at hf
  · subst f; exact two cr_list boot_list (gx.nob _ (by decide)) (by decide) (by decide)
  split at hf
  · subst f; exact two cr_tuple boot_tuple' (gx.nob _ (by decide)) (by decide) (by decide)
  · cases hf⟩
end
end Sb
end
section
set_option Elab.async false
set_option linter.all false
set_option maxRecDepth 100000
set_option maxHeartbeats 2000000
namespace Sb
open PySem PySem.Spec PyProof.Rows L2
theorem kit_all : (["NoneType", "bool", "int", "str", "tuple", "list", "dict"].all fun a => tyNames.all fun b => kitB a b == some (a == b || (a == "bool" && b == "int"))) = true := by decide +kernel
theorem kit_at {a b : String} (ha : a ∈ ["NoneType", "bool", "int", "str", "tuple", "list", "dict"]) (hb : b ∈ tyNames) {K : Frag} : PySem.W.kitOne K (.type a) (.type b) = some (a == b || (a == "bool" && b == "int")) := by
  refine kit_ty ?_
  have h := List.all_eq_true.mp (List.all_eq_true.mp kit_all a ha) b hb
  exact eq_of_beq h
theorem ty_sub : ∀ T ∈ tyNames, T ∈ bnames := by decide
theorem boot_ty {T : String} (h : T ∈ tyNames) : bootBuiltins (Str.ofString T) = some (.type T) ∧ Str.ofString T ≠ Str.ofString "__name__" ∧ (Str.ofString T == Str.ofString "__debug__") = false := by
  have hh : (tyNames.all fun T => decide (bootBuiltins (Str.ofString T) = some (.type T)) && decide (Str.ofString T ≠ Str.ofString "__name__") && !(Str.ofString T == Str.ofString "__debug__")) = true := by decide +kernel
  have := List.all_eq_true.mp hh T h
  simp only [Bool.and_eq_true, decide_eq_true_eq, Bool.not_eq_true'] at this
  exact ⟨this.1.1, this.1.2, this.2⟩
theorem isInst_rel {Γ : Gd} {α : List Addr} {M : List Ob} {H : Hp} (rh : RH Γ α M H) {x : D} {v : V} (r : RV Γ.K α H x v) {T : String} (hT : T ∈ tyNames) {b : Bool} (h : isInst M x T = some b) : ∃ t, TyX Γ.K H v t ∧ PySem.W.kitOne Γ.K t (.type T) = some b := by
  cases r with
  | non =>
    refine ⟨_, .base .non, ?_⟩
    rw [kit_at (by decide) hT]
    cases h
    revert hT; revert T; decide
  | bl c =>
    refine ⟨_, .base (.bl c), ?_⟩
    rw [kit_at (by decide) hT]
    cases h
    revert hT; revert T; decide
  | int i =>
    refine ⟨_, .base (.int i), ?_⟩
    rw [kit_at (by decide) hT]
    cases h
    revert hT; revert T; decide
  | str ht z =>
    refine ⟨_, .base (.str _), ?_⟩
    rw [kit_at (by decide) hT]
    cases h
    revert hT; revert T; decide
  | tup hs rs =>
    rename_i ds a xs
    have hk : PySem.W.kitOne Γ.K (.type "tuple") (.type T) = some b := by
      rw [kit_at (by decide) hT]
      cases h
      revert hT; revert T; decide
    rcases hs with (e | ⟨ob, e⟩) | ⟨o, its, n, e, e2, _⟩
    · exact ⟨_, .base (.tup e), hk⟩
    · exact ⟨_, .fTuple e, hk⟩
    · exact ⟨_, .kTuple e e2, hk⟩
  | rol _ _ => cases h
  | ref ha =>
    rename_i i a
    simp only [isInst] at h
    cases eo : M[i]? with
    | none => rw [eo] at h; cases h
    | some ob =>
      rw [eo] at h
      cases ob with
      | lst ds =>
        obtain ⟨xs, e1, _⟩ := rh.ob _ _ _ eo ha
        refine ⟨_, .base (.lst e1), ?_⟩
        rw [kit_at (by decide) hT]
        cases h
        revert hT; revert T; decide
      | frz ds =>
        obtain ⟨ob, xs, e1, _⟩ := rh.ob _ _ _ eo ha
        refine ⟨_, .base (.frz e1), ?_⟩
        rw [kit_at (by decide) hT]
        cases h
        revert hT; revert T; decide
      | dic t kvs =>
        obtain ⟨rfl, kws, e1, _⟩ := dic_at rh eo ha
        refine ⟨_, .base (.dK e1), ?_⟩
        rw [kit_at (by decide) hT]
        cases h
        revert hT; revert T; decide
      | _ => cases h
section
variable {g : G} {cl : Cls} {X : Cx}
theorem boot_isi : bootBuiltins (Str.ofString "isinstance") = some (.builtin "isinstance") := boot_isinstance
theorem se_isi (gx : GX g cl X) {a : CE} {e : PySem.Expr} {T : String} {p p2 pos : Pos} (hT : T ∈ tyNames) (ha : SE g cl X a e) (hst : star0 e = true) (hg : Gl X (Str.ofString "isinstance")) (hg2 : Gl X (Str.ofString T)) : SE g cl X (.isi a T) (.Call (.Name (Str.ofString "isinstance") p) [e, .Name (Str.ofString T) p2] [] pos) := fun W tk => by
  obtain ⟨b1, b2, b3⟩ := boot_ty hT
  have hm2 : X.mg (Str.ofString T) = none := gx.nob T (ty_sub T hT)
  have hT2 : PE X (.Name (Str.ofString T) p2) (tC (.ty T)) := pe_bltn hg2 hm2 b1 rfl b2 b3
  refine (pe_callB call_isi hg (gx.nob _ (by decide)) boot_isi (pa_cons (ha W tk) (pa_cons hT2 pa_nil rfl) (star_cons hst)) (by decide) (by decide) (star_cons hst) (no_stars (by rfl))).imp fun σ H Q z => ?_
  obtain ⟨α, ρ, M, rl, rh, h⟩ := z
  rw [ev] at h
  refine tE.go rl rh h fun v H1 α1 M1 d nx rl rh rv h => ?_
  cases hi : isInst M1 d T with
  | none => rw [hi] at h; exact h.elim
  | some b =>
    rw [hi] at h
    obtain ⟨t, t1, t2⟩ := isInst_rel rh rv hT hi
    exact ⟨v, .ty T, t, .type T, b, rfl, .ty T, t1, t2, Ho.ok h .refl rh (.bl b)⟩
def ItOk (Γ : Gd) (α0 : List Addr) (H0 : Hp) (w : Wk) (J : It) : Prop := ∀ (i : Nat) (α : List Addr) (M : List Ob) (H : Hp), Nx Γ.K α0 H0 α H → RH Γ α M H → w.ok M = true →
  (i < w.its.length → J.go i H) ∧ (w.its.length ≤ i → J.stop i H) ∧ ∀ x H', J.yld i H x H' → Nx Γ.K α H α H' ∧ RH Γ α M H' ∧ ∀ d, w.its[i]? = some d → RV Γ.K α H' d x
def SI (g : G) (cl : Cls) (X : Cx) (tg : PySem.Expr) (ci : CI) (iter : PySem.Expr) : Prop := ∀ W, Takes X W → ∀ {σ : L2.St} {H : Hp} {α : List Addr} {ρ : Env} {M : List Ob}, RL X.K α H ρ σ → RH X.gd α M H → ∃ wi, PI X tg iter wi ∧ ∀ R : It → Hp → Prop, Ho X.gd (fun x d H => W x d σ H) (fun α1 H1 w J => ItOk X.gd α1 H1 w J) (evI g cl ρ ci M) α H R → wi σ H R
theorem itOk_list {Γ : Gd} {α : List Addr} {H : Hp} {i : Nat} {a : Addr} {ds : List D} (ha : α[i]? = some a) (f : Bool) : ItOk Γ α H ⟨ds, some (i, if f = true then .frz ds else .lst ds)⟩ (Itl Γ.K a) := by
  intro k α' M H' nx rh hok
  have e : M[i]? = some (if f = true then .frz ds else .lst ds) := of_decide_eq_true hok
  have ha' := nx.get ha
  have hs : ∃ xs, SqL Γ.K H' a xs ∧ RVs Γ.K α' H' ds xs := by
    cases f with
    | true => obtain ⟨ob, xs, e1, as⟩ := rh.ob _ _ _ e ha'; exact ⟨xs, .inl (.inr ⟨ob, e1⟩), as⟩
    | false => obtain ⟨xs, e1, as⟩ := rh.ob _ _ _ e ha'; exact ⟨xs, SqL.of e1, as⟩
  obtain ⟨xs, sq, as⟩ := hs
  refine ⟨fun hk => ?_, fun hk => ⟨xs, sq, by rw [← as.length]; exact hk⟩, fun x H2 hy => ?_⟩
  · obtain ⟨v, e2, _⟩ := as.get (i := k) (d := ds[k]) (by simp)
    exact ⟨xs, v, sq, e2⟩
  · obtain ⟨rfl, hx⟩ := hy
    refine ⟨.refl, rh, fun d hd => ?_⟩
    obtain ⟨v, e2, rv⟩ := as.get hd
    have := hx xs sq
    rw [e2] at this
    cases this
    exact rv
theorem itOk_tup {Γ : Gd} {α : List Addr} {H : Hp} {a : Addr} {ds : List D} {xs : List V} (sq : SqT Γ.K H a xs) (as : RVs Γ.K α H ds xs) : ItOk Γ α H ⟨ds, none⟩ (Itt Γ.K a) := by
  intro k α' M H' nx rh hok
  have sq' := nx.tup _ _ sq
  have as' := as.mono nx
  refine ⟨fun hk => ?_, fun hk => ⟨xs, sq', by rw [← as.length]; exact hk⟩, fun x H2 hy => ?_⟩
  · obtain ⟨v, e2, _⟩ := as'.get (i := k) (d := ds[k]) (by simp)
    exact ⟨xs, v, sq', e2⟩
  · obtain ⟨rfl, hx⟩ := hy
    refine ⟨.refl, rh, fun d hd => ?_⟩
    obtain ⟨v, e2, rv⟩ := as'.get hd
    have := hx xs sq'
    rw [e2] at this
    cases this
    exact rv
theorem itOk_rol {Γ : Gd} {α : List Addr} {H : Hp} {a : Addr} {ds : List D} {xs : List V} (sq : SqF Γ.K H a xs) (as : RVs Γ.K α H ds xs) : ItOk Γ α H ⟨ds, none⟩ (Itl Γ.K a) := by
  intro k α' M H' nx rh hok
  have sq' := (nx.rol sq).sq
  have as' := as.mono nx
  refine ⟨fun hk => ?_, fun hk => ⟨xs, sq', by rw [← as.length]; exact hk⟩, fun x H2 hy => ?_⟩
  · obtain ⟨v, e2, _⟩ := as'.get (i := k) (d := ds[k]) (by simp)
    exact ⟨xs, v, sq', e2⟩
  · obtain ⟨rfl, hx⟩ := hy
    refine ⟨.refl, rh, fun d hd => ?_⟩
    obtain ⟨v, e2, rv⟩ := as'.get hd
    have := hx xs sq'
    rw [e2] at this
    cases this
    exact rv
theorem itOk_str {Γ : Gd} {α : List Addr} {H : Hp} {s : Txt} (hs : okTxt s) : ItOk Γ α H ⟨s.map fun c => .str [c], none⟩ (Its (toS s)) := by
  intro k α' M H' nx rh hok
  have hsz : (toS s).cps.size = s.length := by simp [toS]
  refine ⟨fun hk => ?_, fun hk => ?_, fun x H2 hy => ?_⟩
  · show k < (toS s).cps.size
    rw [hsz]; simpa using hk
  · show (toS s).cps.size ≤ k
    rw [hsz]; simpa using hk
  · obtain ⟨rfl, c, e1, rfl⟩ := hy
    refine ⟨.refl, rh, fun d hd => ?_⟩
    rw [List.getElem?_map] at hd
    obtain ⟨c', e2, rfl⟩ := Option.map_eq_some_iff.mp hd
    have e3 : s[k]? = some c := by
      have : (toS s).cps[k]? = s[k]? := by simp [toS]
      rw [← this]; exact e1
    rw [e3] at e2; cases e2
    exact .str (hs.sub fun z m => by simp at m; rw [m]; exact List.mem_of_getElem? e3) line1
theorem itOk_rng {Γ : Gd} {α : List Addr} {H : Hp} {lo hi : Int} : ItOk Γ α H ⟨rangeD lo hi, none⟩ (Itr lo (hi - lo).toNat) := by
  intro k α' M H' nx rh hok
  have hl : (rangeD lo hi).length = (hi - lo).toNat := by simp [rangeD]
  refine ⟨fun hk => ?_, fun hk => ?_, fun x H2 hy => ?_⟩
  · show k < _; rw [← hl]; exact hk
  · show _ ≤ k; rw [← hl]; exact hk
  · obtain ⟨rfl, rfl⟩ := hy
    refine ⟨.refl, rh, fun d hd => ?_⟩
    unfold rangeD at hd
    rw [List.getElem?_map] at hd
    obtain ⟨c', e2, rfl⟩ := Option.map_eq_some_iff.mp hd
    obtain ⟨h1, h2⟩ := List.getElem?_eq_some_iff.mp e2
    simp at h2
    subst h2
    exact .int _
theorem si_seq {e : CE} {iter tg : PySem.Expr} (he : SE g cl X e iter) : SI g cl X tg (.seq e) iter := fun W tk {σ H α ρ M} rl rh => by
  cases q : ev g cl ρ e M with
  | no => exact ⟨_, pi_list (he W tk), fun R h => by rw [evI, CM.bind_run, q] at h; exact h.elim⟩
  | ex x M1 => exact ⟨_, pi_list (he W tk), fun R h => by rw [evI, CM.bind_run, q] at h; exact ⟨α, ρ, M, rl, rh, by rw [q]; exact h⟩⟩
  | ok d M1 =>
    cases d with
    | tup ds =>
      refine ⟨_, pi_tup (he W tk), fun R h => ?_⟩
      rw [evI, CM.bind_run, q] at h
      refine ⟨α, ρ, M, rl, rh, ?_⟩
      rw [q]
      intro α1 v H1 nx rh1 rv
      cases rv with
      | tup hs rs => exact ⟨_, rfl, ⟨_, hs⟩, Ho.pure rh1 (Ho.nx nx h) (itOk_tup hs rs)⟩
    | rol ds =>
      refine ⟨_, pi_list (he W tk), fun R h => ?_⟩
      rw [evI, CM.bind_run, q] at h
      refine ⟨α, ρ, M, rl, rh, ?_⟩
      rw [q]
      intro α1 v H1 nx rh1 rv
      cases rv with
      | rol hs rs => exact ⟨_, rfl, ⟨_, hs.sq⟩, Ho.pure rh1 (Ho.nx nx h) (itOk_rol hs rs)⟩
    | str s =>
      refine ⟨_, pi_str (he W tk), fun R h => ?_⟩
      rw [evI, CM.bind_run, q] at h
      refine ⟨α, ρ, M, rl, rh, ?_⟩
      rw [q]
      intro α1 v H1 nx rh1 rv
      cases rv with
      | str hs z => exact ⟨_, rfl, Ho.pure rh1 (Ho.nx nx h) (itOk_str hs)⟩
    | ref i =>
      refine ⟨_, pi_list (he W tk), fun R h => ?_⟩
      rw [evI, CM.bind_run, q] at h
      refine ⟨α, ρ, M, rl, rh, ?_⟩
      rw [q]
      intro α1 v H1 nx rh1 rv
      have h2 := Ho.nx nx h
      obtain ⟨ob, eo, h2⟩ := get_bind h2
      cases rv with
      | ref ha =>
        cases ob with
        | lst ds =>
          obtain ⟨xs, e1, as⟩ := rh1.ob _ _ _ eo ha
          exact ⟨_, rfl, ⟨xs, SqL.of e1⟩, Ho.pure rh1 h2 (itOk_list ha false)⟩
        | frz ds =>
          obtain ⟨o, xs, e1, as⟩ := rh1.ob _ _ _ eo ha
          exact ⟨_, rfl, ⟨xs, .inl (.inr ⟨o, e1⟩)⟩, Ho.pure rh1 h2 (itOk_list ha true)⟩
        | _ => exact h2.elim
    | _ => exact ⟨_, pi_list (he W tk), fun R h => by rw [evI, CM.bind_run, q] at h; exact h.elim⟩
theorem si_rng1 (gx : GX g cl X) {b : CE} {eb tg : PySem.Expr} {p pos : Pos} (hb : SE g cl X b eb) (hst : star0 eb = true) (hg : Gl X (Str.ofString "range")) : SI g cl X tg (.rng (.cst (.int 0)) b) (.Call (.Name (Str.ofString "range") p) [eb] [] pos) := fun W tk {σ H α ρ M} rl rh => by
  refine ⟨_, pi_range1 hg (gx.nob _ (by decide)) (pa_cons (hb W tk) pa_nil (star_cons hst)) (star_cons hst), fun R h => ?_⟩
  rw [evI] at h
  have h' : Ho X.gd (fun x d H => W x d σ H) (fun α1 H1 w J => ItOk X.gd α1 H1 w J) ((ev g cl ρ b >>= fun y => (match D.int 0, y with
    | .int i, .int j => do
      CM.ask (big62 i && big62 j)
      pure ⟨rangeD i j, none⟩
    | _, _ => CM.fail : CM Wk)) M) α H R := h
  refine tE.go rl rh h' fun v H1 α1 M1 d nx rl rh rv h => ?_
  cases d with
  | int j =>
    cases rv
    obtain ⟨hk, h⟩ := ask_run h
    simp only [big62, Bool.and_eq_true, decide_eq_true_eq] at hk
    refine ⟨j, rfl, by omega, by omega, ?_⟩
    have := Ho.pure rh h (itOk_rng (Γ := X.gd) (α := α1) (H := H1) (lo := 0) (hi := j))
    rw [Int.sub_zero] at this
    exact this
  | _ => exact h.elim
theorem si_rng2 (gx : GX g cl X) {a b : CE} {ea eb tg : PySem.Expr} {p pos : Pos} (ha : SE g cl X a ea) (hb : SE g cl X b eb) (hsa : star0 ea = true) (hst : star0 eb = true) (hg : Gl X (Str.ofString "range")) : SI g cl X tg (.rng a b) (.Call (.Name (Str.ofString "range") p) [ea, eb] [] pos) := fun W tk {σ H α ρ M} rl rh => by
  refine ⟨_, pi_range2 hg (gx.nob _ (by decide)) (pa_cons (ha W tk) (pa_cons (hb W tk) pa_nil (star_cons hst)) (star_cons hsa)) (by rw [star_cons hsa, star_cons hst]; rfl) (star_cons hst), fun R h => ?_⟩
  rw [evI] at h
  refine tE.go rl rh h fun u H1 α1 M1 x nx rl rh ru h => tE.go rl rh h fun v H2 α2 M2 d nx2 rl rh rv h => ?_
  cases x with
  | int i =>
    cases d with
    | int j =>
      cases rv; cases ru
      obtain ⟨hk, h⟩ := ask_run h
      simp only [big62, Bool.and_eq_true, decide_eq_true_eq] at hk
      exact ⟨i, j, rfl, by omega, Ho.pure rh h itOk_rng⟩
    | _ => exact h.elim
  | _ => exact h.elim
def gNs : List Nat → TGs
  | [] => gNil
  | i :: is => gCons (gName i) (gNs is)
def gT (K : Frag) : Tg → TG
  | .loc i => gName i
  | .tup is => gTup K is.length (gNs is)
def SG (X : Cx) (tg : Tg) (e : PySem.Expr) : Prop := PG X e (gT X.K tg)
theorem sg_loc (gx : GX g cl X) {i : Nat} {x : Str} {pos : Pos} (hN : X.N[i]? = some x) (hl : Loc X.env.scope x) (hf : X.fn x = true ∨ X.env.scope.names.lookup x = some .local) : SG X (.loc i) (.Name x pos) := pg_name gx.nd hN hl hf
inductive SGs (X : Cx) : List Nat → List PySem.Expr → Prop
  | nil : SGs X [] []
  | cons {i : Nat} {x : Str} {pos : Pos} {is : List Nat} {es : List PySem.Expr} (hN : X.N[i]? = some x) (hl : Loc X.env.scope x) (hf : X.fn x = true ∨ X.env.scope.names.lookup x = some .local) (t : SGs X is es) : SGs X (i :: is) (.Name x pos :: es)
theorem SGs.pgs (gx : GX g cl X) {is : List Nat} {es : List PySem.Expr} (h : SGs X is es) : PGs X es (gNs is) ∧ (assignEach es X.env).length = is.length ∧ (assignEach es X.env).findIdx? (fun x => x.1) = none := by
  induction h with
  | nil => exact ⟨pgs_nil, rfl, rfl⟩
  | cons hN hl hf _ ih =>
    rename_i i x pos is es _
    obtain ⟨i1, i2, i3⟩ := ih
    have e : assignEach (Expr.Name x pos :: es) X.env = (false, assign (.Name x pos) X.env) :: assignEach es X.env := rfl
    refine ⟨pgs_cons (pg_name gx.nd hN hl hf) i1 rfl, ?_, ?_⟩
    · rw [e, List.length_cons, i2]; rfl
    · rw [e, List.findIdx?_cons]
      simp [i3]
theorem sg_tup (gx : GX g cl X) {is : List Nat} {es : List PySem.Expr} {k : Nat} {pos : Pos} (h : SGs X is es) : SG X (.tup is) (.Tuple es k pos) := by
  obtain ⟨i1, i2, i3⟩ := h.pgs gx
  exact pg_tup gx.calm i1 i2 i3
end
theorem wipe_len (σ : L2.St) : ∀ ws : List Nat, (wipe σ ws).length = σ.length
  | [] => rfl
  | w :: ws => by show ((wipe σ ws).set w none).length = _; rw [List.length_set, wipe_len σ ws]
theorem wipe_at (σ : L2.St) (j : Nat) : ∀ ws : List Nat, (wipe σ ws)[j]? = if j ∈ ws then (σ[j]?.map fun _ => none) else σ[j]?
  | [] => by simp; rfl
  | w :: ws => by
    show ((wipe σ ws).set w none)[j]? = _
    have ih := wipe_at σ j ws
    by_cases e : j = w
    · subst e
      rw [if_pos (List.mem_cons_self ..)]
      by_cases hl : j < σ.length
      · rw [List.getElem?_set_self (by rw [wipe_len]; exact hl), List.getElem?_eq_getElem hl]; rfl
      · rw [List.getElem?_eq_none (by rw [List.length_set, wipe_len]; omega), List.getElem?_eq_none (by omega)]; rfl
    · rw [List.getElem?_set_ne (Ne.symm e), ih]
      simp [e]
theorem wipe_set (σ : L2.St) {i : Nat} {x : Option V} {ws : List Nat} (h : i ∈ ws) : wipe (σ.set i x) ws = wipe σ ws := by
  apply List.ext_getElem?
  intro j
  rw [wipe_at, wipe_at]
  by_cases e : j = i
  · subst e
    rw [if_pos h, if_pos h]
    by_cases hl : j < σ.length
    · rw [List.getElem?_set_self hl, List.getElem?_eq_getElem hl]; rfl
    · rw [List.getElem?_eq_none (by rw [List.length_set]; omega), List.getElem?_eq_none (by omega)]
  · rw [List.getElem?_set_ne (Ne.symm e)]
theorem wipeE_len (ρ : Env) : ∀ ws : List Nat, (wipeE ρ ws).length = ρ.length
  | [] => rfl
  | w :: ws => by show ((wipeE ρ ws).set w none).length = _; rw [List.length_set, wipeE_len ρ ws]
theorem RL.wipe {K : Frag} {α : List Addr} {H : Hp} {ρ : Env} {σ : L2.St} (h : RL K α H ρ σ) : ∀ ws : List Nat, RL K α H (wipeE ρ ws) (L2.wipe σ ws)
  | [] => h
  | w :: ws => by
    have ih := RL.wipe h ws
    refine ⟨?_, fun j d q => ?_⟩
    · rw [wipeE_len, wipe_len, h.len]
    · have q' : ((wipeE ρ ws).set w none)[j]? = some (some d) := q
      show ∃ v, ((L2.wipe σ ws).set w none)[j]? = some (some v) ∧ _
      by_cases e : j = w
      · subst e
        by_cases hl : j < (wipeE ρ ws).length
        · rw [List.getElem?_set_self hl] at q'; cases q'
        · rw [List.getElem?_eq_none (by rw [List.length_set]; omega)] at q'; cases q'
      · rw [List.getElem?_set_ne (Ne.symm e)] at q' ⊢
        exact ih.at_ j d q'
theorem setLoc_ok {ρ ρ1 : Env} {i : Nat} {d : D} {M M' : List Ob} (h : setLoc ρ i d M = .ok ρ1 M') : i < ρ.length ∧ ρ1 = ρ.set i (some d) ∧ M' = M := by
  unfold setLoc at h
  by_cases e : i < ρ.length
  · rw [if_pos e] at h; cases h; exact ⟨e, rfl, rfl⟩
  · rw [if_neg e] at h; cases h
theorem setLocs_rel {K : Frag} {α : List Addr} {H : Hp} : ∀ {is : List Nat} {ds : List D} {vs : List V} {ρ ρ1 : Env} {σ : L2.St} {M M' : List Ob} {Q : L2.St → Hp → Prop}, RL K α H ρ σ → RVs K α H ds vs → setLocs ρ is ds M = .ok ρ1 M' → M' = M ∧ is.length = vs.length ∧
    ((∀ σ2, RL K α H ρ1 σ2 → (∀ ws, (∀ i ∈ is, i ∈ ws) → L2.wipe σ2 ws = L2.wipe σ ws) → Q σ2 H) → gNs is vs σ H Q)
  | [], _, _, ρ, ρ1, σ, M, M', Q, rl, .nil, h => by cases h; exact ⟨rfl, rfl, fun k => ⟨rfl, k σ rl fun _ _ => rfl⟩⟩
  | [], _, _, ρ, ρ1, σ, M, M', Q, rl, .cons _ _, h => by cases h
  | i :: is, _, _, ρ, ρ1, σ, M, M', Q, rl, .nil, h => by cases h
  | i :: is, _, _, ρ, ρ1, σ, M, M', Q, rl, .cons (d := d) (v := v) (ds := ds) (vs := vs) r rs, h => by
    have h' : ((setLoc ρ i d >>= fun ρ' => setLocs ρ' is ds) M) = .ok ρ1 M' := h
    rw [CM.bind_run] at h'
    cases q : setLoc ρ i d M with
    | ok ρ2 M2 =>
      rw [q] at h'
      obtain ⟨hi, rfl, rfl⟩ := setLoc_ok q
      have step := fun Q => setLocs_rel (Q := Q) (rl.set hi r) rs h'
      refine ⟨(step Q).1, by rw [List.length_cons, List.length_cons, (step Q).2.1], fun k => ⟨v, vs, rfl, ?_⟩⟩
      refine (step Q).2.2 fun σ2 rl2 w2 => k σ2 rl2 fun ws hw => ?_
      rw [w2 ws fun j hj => hw j (List.mem_cons_of_mem _ hj), wipe_set _ (hw i (List.mem_cons_self ..))]
    | ex _ _ => rw [q] at h'; cases h'
    | no => rw [q] at h'; cases h'
theorem setTg_rel {K : Frag} {α : List Addr} {H : Hp} {tg : Tg} {d : D} {v : V} {ρ ρ1 : Env} {σ : L2.St} {M M' : List Ob} {Q : L2.St → Hp → Prop} (rl : RL K α H ρ σ) (r : RV K α H d v) (h : setTg ρ tg d M = .ok ρ1 M') : M' = M ∧ ((∀ σ2, RL K α H ρ1 σ2 → (∀ ws, (∀ i ∈ tg.slots, i ∈ ws) → L2.wipe σ2 ws = L2.wipe σ ws) → Q σ2 H) → gT K tg v σ H Q) := by
  cases tg with
  | loc i =>
    obtain ⟨hi, rfl, rfl⟩ := setLoc_ok h
    exact ⟨rfl, fun k => k _ (rl.set hi r) fun ws hw => wipe_set _ (hw i (List.mem_cons_self ..))⟩
  | tup is =>
    cases r with
    | tup hs rs =>
      obtain ⟨e1, e2, k2⟩ := setLocs_rel (Q := Q) rl rs h
      exact ⟨e1, fun k => ⟨_, _, rfl, hs, e2.symm, k2 k⟩⟩
    | _ => cases h
end Sb
end
section
set_option Elab.async false
set_option linter.all false
set_option maxRecDepth 100000
set_option maxHeartbeats 2000000
namespace Sb
open PySem PySem.Spec PyProof.Rows L2
section
variable {g : G} {cl : Cls} {X : Cx}
abbrev Bk (X : Cx) (scope : Scope) (s : Shared) (H : Hp) (C : Addr) (l : List (Str × Addr)) (fp : List Addr) : Cx := X.blk s H scope (compEnvC scope l C X.env) fp
theorem GX.blk (gx : GX g cl X) (scope : Scope) (s : Shared) (H : Hp) (C : Addr) (l : List (Str × Addr)) (fp : List Addr) : GX g cl (Bk X scope s H C l fp) where
  calm := gx.calm
  nd := gx.nd
  un := gx.un
  na := gx.na
  nob := gx.nob
  glb := gx.glb
  has := gx.has
  fn := fun f fd h => by
    obtain ⟨fa, F, h1, h2⟩ := gx.fn f fd h
    exact ⟨fa, ⟨F.run, F.kp, F.ar, F.pad⟩, h1, h2⟩
inductive IfsOk (X : Cx) (g : G) (cl : Cls) : CE → List PySem.Expr → Prop
  | none : IfsOk X g cl (.cst (.bl true)) []
  | one {c : CE} {e : PySem.Expr} : STt g cl X c e → IfsOk X g cl c [e]
theorem bindOk {A B : Type} {m : CM A} {f : A → CM B} {M M' : List Ob} {b : B} (h : (m >>= f) M = .ok b M') : ∃ a M1, m M = .ok a M1 ∧ f a M1 = .ok b M' := by
  rw [CM.bind_run] at h
  cases e : m M with
  | ok a M1 => rw [e] at h; exact ⟨a, M1, rfl, h⟩
  | ex _ _ => rw [e] at h; cases h
  | no => rw [e] at h; cases h
theorem checkOk {w : Wk} {M M' : List Ob} {u : Unit} (h : checkW w M = .ok u M') : w.ok M = true ∧ M' = M := by
  unfold checkW at h
  by_cases e : w.ok M = true
  · rw [if_pos e] at h; cases h; exact ⟨e, rfl⟩
  · rw [if_neg e] at h; cases h
theorem askOk {p : Bool} {M M' : List Ob} {u : Unit} (h : CM.ask p M = .ok u M') : p = true ∧ M' = M := by
  unfold CM.ask at h
  by_cases e : p = true
  · rw [if_pos e] at h; cases h; exact ⟨e, rfl⟩
  · rw [if_neg e] at h; cases h
theorem getOk {a : Nat} {M M' : List Ob} {o : Ob} (h : CM.get a M = .ok o M') : M[a]? = some o ∧ M' = M := by
  unfold CM.get at h
  cases e : M[a]? with
  | none => rw [e] at h; cases h
  | some u => rw [e] at h; cases h; exact ⟨rfl, rfl⟩
theorem putOk {a : Nat} {M M' : List Ob} {o : Ob} {u : Unit} (h : CM.put a o M = .ok u M') : M' = M.set a o := by
  unfold CM.put at h
  by_cases e : a < M.length
  · rw [if_pos e] at h; cases h; rfl
  · rw [if_neg e] at h; cases h
theorem comp_core (gx : GX g cl X) {W : WX} (tk : Takes X W) {tg : Tg} {ci : CI} {c e : CE} {wi : TI} {tt : TT} {te : TE} {σ : L2.St} {H : Hp} {Q : VK} {α : List Addr} {ρ : Env} {M : List Ob}
    (hw : ∀ R : It → Hp → Prop, Ho X.gd (fun x d H => W x d σ H) (fun α1 H1 w J => ItOk X.gd α1 H1 w J) (evI g cl ρ ci M) α H R → wi σ H R)
    (htt : ∀ {α ρ M σ H M1 b} {Q : Bool → Hp → Prop}, RL X.K α H ρ σ → RH X.gd α M H → evT g cl c ρ M = .ok b M1 → (∀ α1 H1, Nx X.K α H α1 H1 → RH X.gd α1 M1 H1 → Q b H1) → tt σ H Q)
    (hte : ∀ {α ρ M σ H M1 d} {Q : VK}, RL X.K α H ρ σ → RH X.gd α M H → ev g cl ρ e M = .ok d M1 → (∀ α1 H1 v, Nx X.K α H α1 H1 → RH X.gd α1 M1 H1 → RV X.K α1 H1 d v → Q v H1) → te σ H Q)
    (rl : RL X.K α H ρ σ) (rh : RH X.gd α M H) (h : Ho X.gd (fun x d H => W x d σ H) (RV X.K) (ev g cl ρ (.comp tg ci c e) M) α H Q) : tLc wi (gT X.K tg) tt te tg.slots σ H Q := by
  rw [ev] at h
  refine hw _ ((Ho.bind h).mono fun J H1 z => ?_)
  obtain ⟨w, M1, α1, nx1, rh1, hJ, h⟩ := z
  intro D hD
  have h' : Ho X.gd (fun x d H => W x d σ H) (RV X.K) ((quiet (compD w tg (wipeE ρ tg.slots) (fun ρ => do let x ← ev g cl ρ c; truth x) (fun ρ => ev g cl ρ e) M1.length w.its) >>= fun _ => (pure (.ref M1.length) : CM Sb.D)) (M1 ++ [.lst []])) α1 H1 Q := h
  rw [CM.bind_run] at h'
  cases q : quiet (compD w tg (wipeE ρ tg.slots) (fun ρ => do let x ← ev g cl ρ c; truth x) (fun ρ => ev g cl ρ e) M1.length w.its) (M1 ++ [.lst []]) with
  | no => rw [q] at h'; exact h'.elim
  | ex x M2 =>
    exfalso
    unfold quiet at q
    cases z : compD w tg (wipeE ρ tg.slots) (fun ρ => do let x ← ev g cl ρ c; truth x) (fun ρ => ev g cl ρ e) M1.length w.its (M1 ++ [.lst []]) <;> rw [z] at q <;> cases q
  | ok u Mf =>
    rw [q] at h'
    have q2 := quiet_ok q
    have n0 : Nx X.K α1 H1 (α1 ++ [D]) (upd H1 D (.lst [])) := nx_new (Γ := X.gd) hD
    have rh0 : RH X.gd (α1 ++ [D]) (M1 ++ [.lst []]) (upd H1 D (.lst [])) := rh1.new hD ⟨[], upd_same, .nil⟩
    have pD : (α1 ++ [D])[M1.length]? = some D := by rw [← rh1.len, List.getElem?_append_right (Nat.le_refl _)]; simp
    refine ⟨fun i m H => m = w.its.length - i ∧ i ≤ w.its.length ∧ ∃ α M, Nx X.K (α1 ++ [D]) (upd H1 D (.lst [])) α H ∧ RH X.gd α M H ∧ compD w tg (wipeE ρ tg.slots) (fun ρ => do let x ← ev g cl ρ c; truth x) (fun ρ => ev g cl ρ e) M1.length (w.its.drop i) M = .ok u Mf, ⟨_, rfl, Nat.zero_le _, _, _, .refl, rh0, q2⟩, ?_⟩
    rintro i m H2 ⟨rfl, hi, α2, M2, nx2, rh2, hc⟩
    have nx12 := n0.trans nx2
    by_cases hlt : i < w.its.length
    · right
      have hd : w.its.drop i = w.its[i] :: w.its.drop (i + 1) := List.drop_eq_getElem_cons hlt
      rw [hd, compD] at hc
      obtain ⟨_, M3, c1, hc⟩ := bindOk hc
      obtain ⟨hok, e0⟩ := checkOk c1
      rw [e0] at hc
      have hc' : ((setTg (wipeE ρ tg.slots) tg w.its[i] >>= fun ρ1 => (do let x ← ev g cl ρ1 c; truth x : CM Bool) >>= fun b => (match b with
        | false => compD w tg (wipeE ρ tg.slots) (fun ρ => do let x ← ev g cl ρ c; truth x) (fun ρ => ev g cl ρ e) M1.length (w.its.drop (i + 1))
        | true => do
          let v ← ev g cl ρ1 e
          match ← CM.get M1.length with
          | .lst xs => do
            CM.ask (decide (xs.length < lim))
            CM.put M1.length (.lst (xs ++ [v]))
            compD w tg (wipeE ρ tg.slots) (fun ρ => do let x ← ev g cl ρ c; truth x) (fun ρ => ev g cl ρ e) M1.length (w.its.drop (i + 1))
          | _ => CM.fail)) M2) = .ok u Mf := hc
      obtain ⟨ρ1, M4, c2, hc⟩ := bindOk hc'
      obtain ⟨b, M5, c3, hc⟩ := bindOk hc
      obtain ⟨i1, i2, i3⟩ := hJ i α2 M2 H2 nx12 rh2 hok
      refine ⟨i1 hlt, fun H' => ∃ α M, Nx X.K (α1 ++ [D]) (upd H1 D (.lst [])) α H' ∧ RH X.gd α M H' ∧ compD w tg (wipeE ρ tg.slots) (fun ρ => do let x ← ev g cl ρ c; truth x) (fun ρ => ev g cl ρ e) M1.length (w.its.drop (i + 1)) M = .ok u Mf, ?_, ?_⟩
      · rintro H' ⟨α, M, z1, z2, z3⟩
        exact ⟨w.its.length - (i + 1), by omega, rfl, by omega, α, M, z1, z2, z3⟩
      · intro x H' hy
        obtain ⟨nx3, rh3, hr⟩ := i3 x H' hy
        have rx := hr w.its[i] (by simp)
        have rlw : RL X.K α2 H' (wipeE ρ tg.slots) (L2.wipe σ tg.slots) := (((rl.mono nx1).mono nx12).mono nx3).wipe tg.slots
        obtain ⟨e1, kk⟩ := setTg_rel (Q := fun σ2 H2 => wipe σ2 tg.slots = wipe σ tg.slots ∧ tt σ2 H2 fun b H3 => if b = true then te σ2 H3 fun y H4 => ∃ acc, H4 D = some (HO.lst acc) ∧ acc.length < sizeLine ∧ (∃ α M, Nx X.K (α1 ++ [D]) (upd H1 D (.lst [])) α (upd H4 D (.lst (acc ++ [y]))) ∧ RH X.gd α M (upd H4 D (.lst (acc ++ [y]))) ∧ compD w tg (wipeE ρ tg.slots) (fun ρ => do let x ← ev g cl ρ c; truth x) (fun ρ => ev g cl ρ e) M1.length (w.its.drop (i + 1)) M = .ok u Mf) else (∃ α M, Nx X.K (α1 ++ [D]) (upd H1 D (.lst [])) α H3 ∧ RH X.gd α M H3 ∧ compD w tg (wipeE ρ tg.slots) (fun ρ => do let x ← ev g cl ρ c; truth x) (fun ρ => ev g cl ρ e) M1.length (w.its.drop (i + 1)) M = .ok u Mf)) rlw rx c2
        rw [e1] at c3
        refine kk fun σ2 rl2 w2 => ⟨?_, htt rl2 rh3 c3 fun α4 H4 nx4 rh4 => ?_⟩
        · have z := w2 tg.slots fun _ h => h
          rw [z]
          apply List.ext_getElem?
          intro j
          rw [wipe_at, wipe_at]
          split
          · cases σ[j]? <;> rfl
          · rfl
        · cases b with
          | false => rw [if_neg Bool.false_ne_true]; exact ⟨α4, M5, (nx2.trans nx3).trans nx4, rh4, hc⟩
          | true =>
            rw [if_pos rfl]
            obtain ⟨d, M6, c4, hc⟩ := bindOk hc
            refine hte (rl2.mono nx4) rh4 c4 fun α5 H5 v nx5 rh5 rv => ?_
            obtain ⟨o, M7, c5, hc⟩ := bindOk hc
            obtain ⟨c5, e5⟩ := getOk c5
            rw [e5] at hc
            cases o with
            | lst xs =>
              obtain ⟨_, M8, c6, hc⟩ := bindOk hc
              obtain ⟨c6, e6⟩ := askOk c6
              rw [e6] at hc
              obtain ⟨_, M9, c7, hc⟩ := bindOk hc
              have c7 := putOk c7
              subst c7
              have nxx := ((nx2.trans nx3).trans nx4).trans nx5
              have pD5 := nxx.get pD
              obtain ⟨ys, e1, as⟩ := rh5.ob _ _ _ c5 pD5
              have hl := of_decide_eq_true c6
              rw [lim_eq, as.length] at hl
              obtain ⟨n6, rh6⟩ := Ho.putLst rh5 e1 pD5 (as.append (.cons rv .nil))
              exact ⟨ys, e1, hl, α5, _, nxx.trans n6, rh6, hc⟩
            | _ => cases hc
    · left
      have hd : w.its.drop i = [] := List.drop_eq_nil_of_le (by omega)
      rw [hd, compD] at hc
      obtain ⟨hok, e9⟩ := checkOk hc
      rw [← e9] at rh2 hok
      obtain ⟨i1, i2, i3⟩ := hJ i α2 Mf H2 nx12 rh2 hok
      exact ⟨i2 (by omega), Ho.pure rh2 (Ho.nx nx12 h') (.ref (nx2.get pD))⟩
theorem ifs_tt {c : CE} {ifs : List PySem.Expr} {scope : Scope} (hc : ∀ s H C l fp, IfsOk (Bk X scope s H C l fp) g cl c ifs) (s : Shared) (H : Hp) : ∃ tt : TT, (∀ s H C l fp, PTs (Bk X scope s H C l fp) ifs tt) ∧ ∀ {α ρ M σ H M1 b} {Q : Bool → Hp → Prop}, RL X.K α H ρ σ → RH X.gd α M H → evT g cl c ρ M = .ok b M1 → (∀ α1 H1, Nx X.K α H α1 H1 → RH X.gd α1 M1 H1 → Q b H1) → tt σ H Q := by
  cases ifs with
  | nil =>
    refine ⟨tYes, fun _ _ _ _ _ => pts_nil, fun {α ρ M σ H M1 b Q} rl rh e k => ?_⟩
    have hcc := hc s H X.env.locals [] []
    cases hcc
    cases e
    exact k α H .refl rh
  | cons e1 es =>
    have hcc := hc s H X.env.locals [] []
    cases es with
    | cons _ _ => cases hcc
    | nil =>
      refine ⟨tT X.gd g cl (fun _ _ _ _ => False) c, fun s H C l fp => ?_, fun {α ρ M σ H M1 b Q} rl rh e k => ⟨α, ρ, M, rl, rh, ?_⟩⟩
      · have := hc s H C l fp
        cases this with
        | one hh => exact pts_one (hh _ takes0)
      · rw [e]
        intro α' b' H' nx rh' r
        rw [r]; exact k α' H' nx rh'
theorem se_comp (gx : GX g cl X) {tg : Tg} {ci : CI} {c e : CE} {tgE iter elt : PySem.Expr} {ifs : List PySem.Expr} {scope : Scope} {own : List (Str × Nat)} {pos : Pos} (hi : SI g cl X tgE ci iter) (hown : own.map (·.2) = tg.slots) (hb : blkC X.N X.env.scope scope own = true)
    (hg : ∀ s H C l fp, SG (Bk X scope s H C l fp) tg tgE) (hc : ∀ s H C l fp, IfsOk (Bk X scope s H C l fp) g cl c ifs) (he : ∀ s H C l fp, SE g cl (Bk X scope s H C l fp) e elt) (hf : ∀ x, foldedSetIterable iter X.env x = pure x) : SE g cl X (.comp tg ci c e) (.ListComp elt [⟨tgE, iter, ifs, 0⟩] scope pos) := fun W tk => ⟨fun pins s σ H Q I z => by
  obtain ⟨α, ρ, M, rl, rh, h⟩ := z
  obtain ⟨wi, pi, hw⟩ := hi W tk rl rh
  obtain ⟨tt, ptt, htt⟩ := ifs_tt hc s H
  refine (pe_lc (g := gT X.K tg) (te := tE X.gd g cl (fun _ _ _ _ => False) e) gx.calm gx.nd pi (blkOk_by hb) (fun s H C l fp => hg s H C l fp) ptt (fun s H C l fp => he s H C l fp (fun _ _ _ _ => False) takes0) hf).run pins s σ H Q I ?_
  rw [hown]
  refine comp_core gx tk hw htt (fun {α ρ M σ H M1 d Q} rl rh e k => ⟨α, ρ, M, rl, rh, ?_⟩) rl rh h
  show Ho X.gd _ _ _ _ _ _
  rw [e]
  exact fun α' v H' nx rh' rv => k α' H' v nx rh' rv⟩
end
end Sb
end
section
set_option Elab.async false
set_option linter.all false
set_option maxRecDepth 100000
set_option maxHeartbeats 2000000
namespace Sb
open PySem PySem.Spec PyProof.Rows L2
abbrev RPs (K : Frag) (α : List Addr) (H : Hp) : List (D × D) → List (V × V) → Prop := Paired fun p q => RV K α H p.1 q.1 ∧ RV K α H p.2 q.2
section
variable {g : G} {cl : Cls} {X : Cx}
def SD (g : G) (cl : Cls) (X : Cx) (pos : Pos) (cs : CEs) (keys : List (Option PySem.Expr)) (vals : List PySem.Expr) : Prop := ∀ W, Takes X W → ∃ trs, PPs X pos keys vals trs ∧ ∀ {σ H α ρ M Q}, RL X.K α H ρ σ → RH X.gd α M H → Ho X.gd (fun x d H => W x d σ H) (RPs X.K) (evKV g cl ρ cs M) α H Q → tPairs trs σ H Q
theorem sd_nil {pos : Pos} : SD g cl X pos .nil [] [] := fun W tk => ⟨_, pps_nil, fun {σ H α ρ M Q} rl rh h => Ho.pure (a := []) rh h .nil⟩
theorem sd_cons {pos : Pos} {k v : CE} {cs : CEs} {ek ev' : PySem.Expr} {keys : List (Option PySem.Expr)} {vals : List PySem.Expr} (hk : SE g cl X k ek) (hv : SE g cl X v ev') (hs : SD g cl X pos cs keys vals) : SD g cl X pos (.cons k (.cons v cs)) (some ek :: keys) (ev' :: vals) := fun W tk => by
  obtain ⟨trs, pp, kk⟩ := hs W tk
  refine ⟨_, pps_cons (hk W tk) (hv W tk) pp, fun {σ H α ρ M Q} rl rh h => ?_⟩
  rw [evKV] at h
  show tE X.gd g cl W k σ H fun x H1 => tE X.gd g cl W v σ H1 fun y H2 => tPairs trs σ H2 fun ps H3 => Q ((x, y) :: ps) H3
  refine tE.go rl rh h fun x H1 α1 M1 d nx rl rh rx h => tE.go rl rh h fun y H2 α2 M2 e nx2 rl rh ry h => kk rl rh ((Ho.bind h).mono fun ps H3 z => ?_)
  obtain ⟨qs, M3, α3, nx3, rh3, rps, h⟩ := z
  exact Ho.pure rh3 h (.cons ⟨(rx.mono nx2).mono nx3, ry.mono nx3⟩ rps)
theorem keys_rel {K : Frag} {α : List Addr} {H : Hp} {ps : List (D × D)} {qs : List (V × V)} (r : RPs K α H ps qs) (h : (ps.all fun q => q.1.isK false) = true) : ∃ kvs : List (Key × V), qs = kvs.map (fun kv => (kV kv.1, kv.2)) ∧ Paired (PK K α H) ps kvs := by
  induction r with
  | nil => exact ⟨[], rfl, .nil⟩
  | cons z _ ih =>
    rename_i p q _ _ _
    rw [List.all_cons, Bool.and_eq_true] at h
    obtain ⟨kvs, e, pr⟩ := ih h.2
    obtain ⟨k, rk, ek⟩ := RK.ofK z.1 h.1
    refine ⟨(k, q.2) :: kvs, ?_, .cons ⟨rk, z.2⟩ pr⟩
    rw [List.map_cons, ← e, ← ek]
theorem merge_rel {K : Frag} {α : List Addr} {H : Hp} {ps : List (D × D)} {kvs : List (Key × V)} (r : Paired (PK K α H) ps kvs) : ∀ {m : List (D × D)} {km : List (Key × V)}, Paired (PK K α H) m km → Paired (PK K α H) (ps.foldl (fun m q => Sb.putK q.1 q.2 m) m) (mergeK km kvs) := by
  induction r with
  | nil => exact fun z => z
  | cons h _ ih => exact fun z => ih (putK_rel z h.1 h.2)
theorem set_len_self {A : Type} (M : List A) (o : A) : (M ++ [o]).set M.length o = M ++ [o] := by simp
theorem upd_upd {H : Hp} {p : Addr} {a b : HO} : upd (upd H p a) p b = upd H p b := by
  funext q
  by_cases e : q = p
  · subst e; rw [upd_same, upd_same]
  · rw [upd_ne e, upd_ne e, upd_ne e]
theorem se_dic {cs : CEs} {k1 : Option PySem.Expr} {keys : List (Option PySem.Expr)} {vals : List PySem.Expr} {pos : Pos} (hs : SD g cl X pos cs (k1 :: keys) vals) (hall : ((k1 :: keys).all fun x => x.isSome) = true) (hlen : (k1 :: keys).length = vals.length) (h15 : (k1 :: keys).length ≤ 15) : SE g cl X (.dic false cs) (.Dict (k1 :: keys) vals pos) := fun W tk => by
  obtain ⟨trs, pp, kk⟩ := hs W tk
  refine (pe_disp pp hall hlen (fun h => by cases h) h15).imp fun σ H Q z => ?_
  obtain ⟨α, ρ, M, rl, rh, h⟩ := z
  rw [ev] at h
  intro p hp
  have n0 : Nx X.K α H (α ++ [p]) (upd H p (.dK [])) := nx_new (Γ := X.gd) hp
  have rh0 : RH X.gd (α ++ [p]) (M ++ [.dic false []]) (upd H p (.dK [])) := rh.new hp ⟨.dK [], upd_same, [], rfl, .nil⟩
  have pD : (α ++ [p])[M.length]? = some p := by rw [← rh.len, List.getElem?_append_right (Nat.le_refl _)]; simp
  have h' : Ho X.gd (fun x d H => W x d σ H) (RV X.K) ((evKV g cl ρ cs >>= fun ps => CM.get M.length >>= fun o => (match o with
    | .dic _ [] => do
      CM.ask (ps.all (fun q => q.1.isK false) && decide (ps.length ≤ 15))
      CM.put M.length (.dic false (ps.foldl (fun m q => Sb.putK q.1 q.2 m) []))
      pure (.ref M.length)
    | _ => CM.fail : CM Sb.D)) (M ++ [.dic false []])) (α ++ [p]) (upd H p (.dK [])) Q := Ho.nx n0 h
  refine kk (rl.mono n0) rh0 ((Ho.bind h').mono fun qs H2 z => ?_)
  obtain ⟨ps, M2, α2, nx2, rh2, rps, h⟩ := z
  obtain ⟨o, eo, h⟩ := get_bind h
  have pD2 := nx2.get pD
  cases o with
  | dic t kvs =>
    cases kvs with
    | cons _ _ => exact h.elim
    | nil =>
      obtain ⟨hk, h⟩ := ask_run h
      rw [Bool.and_eq_true, decide_eq_true_eq] at hk
      obtain ⟨_, h⟩ := put_bind h
      obtain ⟨ht, kws, e1, pr⟩ := dic_at rh2 eo pD2
      cases pr
      obtain ⟨kvs, e2, pr2⟩ := keys_rel rps hk.1
      obtain ⟨n3, rh3⟩ := Ho.putDic (W := fun _ _ _ => True) (A := Unit) (B := Unit) rh2 e1 pD2 (merge_rel pr2 .nil)
      exact ⟨e1, kvs, e2, by rw [← Paired.len pr2]; exact hk.2, Ho.ok h n3 rh3 (.ref pD2)⟩
  | _ => exact h.elim
theorem se_dic0 {pos : Pos} : SE g cl X (.dic false .nil) (.Dict [] [] pos) := fun W tk =>
  pe_dnewK.imp fun σ H Q z p hp => by
    obtain ⟨α, ρ, M, rl, rh, h⟩ := z
    have n0 : Nx X.K α H (α ++ [p]) (upd H p (.dK [])) := nx_new (Γ := X.gd) hp
    have rh0 : RH X.gd (α ++ [p]) (M ++ [.dic false []]) (upd H p (.dK [])) := rh.new hp ⟨.dK [], upd_same, [], rfl, .nil⟩
    have pD : (α ++ [p])[M.length]? = some p := by rw [← rh.len, List.getElem?_append_right (Nat.le_refl _)]; simp
    have h' : Ho X.gd (fun x d H => W x d σ H) (RV X.K) ((CM.get M.length >>= fun o => (match o with
      | .dic _ [] => do
        CM.ask true
        CM.put M.length (.dic false [])
        pure (.ref M.length)
      | _ => CM.fail : CM Sb.D)) (M ++ [.dic false []])) (α ++ [p]) (upd H p (.dK [])) Q := Ho.nx n0 h
    obtain ⟨o, eo, h⟩ := get_bind h'
    simp at eo
    subst eo
    obtain ⟨_, h⟩ := ask_run h
    obtain ⟨_, h⟩ := put_bind h
    rw [set_len_self] at h
    exact Ho.ok h .refl rh0 (.ref pD)
inductive FV where
  | nx (σ : L2.St) | rt (v : V) | bk (σ : L2.St) | ct (σ : L2.St)
inductive RFl (K : Frag) (α : List Addr) (H : Hp) : Fl → FV → Prop
  | nx {ρ σ} : RL K α H ρ σ → RFl K α H (.nx ρ) (.nx σ)
  | rt {d v} : RV K α H d v → RFl K α H (.rt d) (.rt v)
  | bk {ρ σ} : RL K α H ρ σ → RFl K α H (.bk ρ) (.bk σ)
  | ct {ρ σ} : RL K α H ρ σ → RFl K α H (.ct ρ) (.ct σ)
def endsQ (E : Ends) : FV → Hp → Prop
  | .nx σ, H => E.nx σ H
  | .rt v, H => E.rt v H
  | .bk σ, H => E.bk σ H
  | .ct σ, H => E.ct σ H
def tS (Γ : Gd) (g : G) (cl : Cls) (W : XW) (c : CS) : TS := fun E σ H => ∃ α ρ M, RL Γ.K α H ρ σ ∧ RH Γ α M H ∧ Ho Γ W (RFl Γ.K) (ex g cl ρ c M) α H (endsQ E)
def tSs (Γ : Gd) (g : G) (cl : Cls) (W : XW) (c : CSs) : TS := fun E σ H => ∃ α ρ M, RL Γ.K α H ρ σ ∧ RH Γ α M H ∧ Ho Γ W (RFl Γ.K) (exs g cl ρ c M) α H (endsQ E)
abbrev WxO (W : XW) : WX := fun x d _ H => W x d H
def SS (g : G) (cl : Cls) (X : Cx) (c : CS) (st : Stmt) : Prop := ∀ W : XW, Takes X (WxO W) → PS X st (tS X.gd g cl W c)
def SSs (g : G) (cl : Cls) (X : Cx) (c : CSs) (st : List Stmt) : Prop := ∀ W : XW, Takes X (WxO W) → PSs X st (tSs X.gd g cl W c)
theorem _root_.L2.PS.imp {X : Cx} {st : Stmt} {t t' : TS} (h : PS X st t) (i : ∀ D σ H, t' D σ H → t D σ H) : PS X st t' := ⟨fun pins s σ H D I q => h.run pins s σ H D I (i D σ H q)⟩
theorem _root_.L2.PSs.imp {X : Cx} {st : List Stmt} {t t' : TS} (h : PSs X st t) (i : ∀ D σ H, t' D σ H → t D σ H) : PSs X st t' := ⟨fun pins s σ H D I q => h.run pins s σ H D I (i D σ H q)⟩
theorem ss_nil : SSs g cl X .nil [] := fun W tk => pss_nil.imp fun D σ H z => by
  obtain ⟨α, ρ, M, rl, rh, h⟩ := z
  exact Ho.pure (a := Fl.nx ρ) (b := FV.nx σ) rh h (.nx rl)
theorem ss_cons {c : CS} {cs : CSs} {st : Stmt} {sts : List Stmt} (h1 : SS g cl X c st) (h2 : SSs g cl X cs sts) : SSs g cl X (.cons c cs) (st :: sts) := fun W tk => (pss_cons (h1 W tk) (h2 W tk)).imp fun D σ H z => by
  obtain ⟨α, ρ, M, rl, rh, h⟩ := z
  rw [exs] at h
  refine ⟨α, ρ, M, rl, rh, (Ho.bind h).mono fun fv H1 z => ?_⟩
  obtain ⟨fl, M1, α1, nx, rh1, r, h⟩ := z
  cases r with
  | nx rl1 => exact ⟨α1, _, M1, rl1, rh1, h⟩
  | rt rv => exact (Ho.ok (R := RFl X.K) h .refl rh1 (RFl.rt rv) : endsQ D (FV.rt _) H1)
  | bk rl1 => exact (Ho.ok (R := RFl X.K) h .refl rh1 (RFl.bk rl1) : endsQ D (FV.bk _) H1)
  | ct rl1 => exact (Ho.ok (R := RFl X.K) h .refl rh1 (RFl.ct rl1) : endsQ D (FV.ct _) H1)
theorem sE.go {W : XW} {A B : Type} {c : CE} {f : Sb.D → CM A} {R : List Addr → Hp → A → B → Prop} {Q : B → Hp → Prop} {Q' : VK} {α : List Addr} {ρ : Env} {M : List Ob} {σ : L2.St} {H : Hp} (rl : RL X.K α H ρ σ) (rh : RH X.gd α M H) (h : Ho X.gd W R ((ev g cl ρ c >>= f) M) α H Q)
    (k : ∀ v H1 α1 M1 d, Nx X.K α H α1 H1 → RL X.K α1 H1 ρ σ → RH X.gd α1 M1 H1 → RV X.K α1 H1 d v → Ho X.gd W R (f d M1) α1 H1 Q → Q' v H1) : tE X.gd g cl (WxO W) c σ H Q' := tE.go (W := WxO W) rl rh h k
theorem ss_exp {e : CE} {pe : PySem.Expr} {pos : Pos} (he : SE g cl X e pe) (hs : swapsWith pe none pos.line X.env = pure false) : SS g cl X (.exp e) (.Expr pe pos) := fun W tk => (ps_expr (he _ tk) hs).imp fun D σ H z => by
  obtain ⟨α, ρ, M, rl, rh, h⟩ := z
  rw [ex] at h
  exact sE.go rl rh h fun v H1 α1 M1 d nx rl rh rv h => Ho.pure (b := FV.nx σ) rh h (.nx rl)
theorem ss_doc {x : Str} {k : Nat} {p pos : Pos} : SS g cl X .pas (.Expr (.Constant (.str x) k p) pos) := fun W tk => (ps_expr pe_str rfl).imp fun D σ H z => by
  obtain ⟨α, ρ, M, rl, rh, h⟩ := z
  exact Ho.pure (b := FV.nx σ) rh h (.nx rl)
theorem ss_ret {e : CE} {pe : PySem.Expr} {pos : Pos} (he : SE g cl X e pe) : SS g cl X (.ret e) (.Return (some pe) pos) := fun W tk => (ps_ret (he _ tk)).imp fun D σ H z => by
  obtain ⟨α, ρ, M, rl, rh, h⟩ := z
  rw [ex] at h
  exact sE.go rl rh h fun v H1 α1 M1 d nx rl rh rv h => Ho.pure (b := FV.rt v) rh h (.rt rv)
theorem ss_ret0 {pos : Pos} : SS g cl X (.ret (.cst .non)) (.Return none pos) := fun W tk => ps_retN.imp fun D σ H z => by
  obtain ⟨α, ρ, M, rl, rh, h⟩ := z
  exact Ho.pure (a := Fl.rt .non) (b := FV.rt .non) rh h (.rt .non)
theorem ss_pas {pos : Pos} : SS g cl X .pas (.Pass pos) := fun W tk => ps_pass.imp fun D σ H z => by
  obtain ⟨α, ρ, M, rl, rh, h⟩ := z
  exact Ho.pure (a := Fl.nx ρ) (b := FV.nx σ) rh h (.nx rl)
theorem ss_brk {pos : Pos} : SS g cl X .brk (.Break pos) := fun W tk => ps_break.imp fun D σ H z => by
  obtain ⟨α, ρ, M, rl, rh, h⟩ := z
  exact Ho.pure (a := Fl.bk ρ) (b := FV.bk σ) rh h (.bk rl)
theorem ss_cnt {pos : Pos} : SS g cl X .cnt (.Continue pos) := fun W tk => ps_continue.imp fun D σ H z => by
  obtain ⟨α, ρ, M, rl, rh, h⟩ := z
  exact Ho.pure (a := Fl.ct ρ) (b := FV.ct σ) rh h (.ct rl)
theorem ss_iff {c : CE} {a b : CSs} {ec : PySem.Expr} {sa sb : List Stmt} {pos : Pos} (hc : STt g cl X c ec) (ha : SSs g cl X a sa) (hb : SSs g cl X b sb) : SS g cl X (.iff c a b) (.If ec sa sb pos) := fun W tk => (ps_if (hc _ tk) (ha W tk) (hb W tk)).imp fun D σ H z => by
  obtain ⟨α, ρ, M, rl, rh, h⟩ := z
  rw [ex] at h
  refine tT.go (W := WxO W) rl rh h fun k H1 α1 M1 nx rl rh h => ?_
  cases k with
  | true => rw [if_pos rfl]; exact ⟨α1, ρ, M1, rl, rh, h⟩
  | false => rw [if_neg Bool.false_ne_true]; exact ⟨α1, ρ, M1, rl, rh, h⟩
theorem setTg_cases {ρ : Env} {tg : Tg} {d : Sb.D} {M : List Ob} : setTg ρ tg d M = .no ∨ ∃ ρ1, setTg ρ tg d M = .ok ρ1 M := by
  have one : ∀ {ρ : Env} {i : Nat} {d : Sb.D}, setLoc ρ i d M = .no ∨ ∃ ρ1, setLoc ρ i d M = .ok ρ1 M := by
    intro ρ i d
    unfold setLoc
    by_cases e : i < ρ.length
    · rw [if_pos e]; exact .inr ⟨_, rfl⟩
    · rw [if_neg e]; exact .inl rfl
  cases tg with
  | loc i => exact one
  | tup is =>
    have many : ∀ (is : List Nat) (ds : List Sb.D) (ρ : Env), setLocs ρ is ds M = .no ∨ ∃ ρ1, setLocs ρ is ds M = .ok ρ1 M := by
      intro is
      induction is with
      | nil => intro ds ρ; cases ds with
        | nil => exact .inr ⟨_, rfl⟩
        | cons _ _ => exact .inl rfl
      | cons i is ih =>
        intro ds ρ
        cases ds with
        | nil => exact .inl rfl
        | cons d ds =>
          show ((setLoc ρ i d >>= fun ρ' => setLocs ρ' is ds) M) = .no ∨ ∃ ρ1, ((setLoc ρ i d >>= fun ρ' => setLocs ρ' is ds) M) = .ok ρ1 M
          rw [CM.bind_run]
          rcases one (ρ := ρ) (i := i) (d := d) with e | ⟨ρ1, e⟩
          · rw [e]; exact .inl rfl
          · rw [e]; exact ih ds ρ1
    cases d with
    | tup ds => exact many is ds ρ
    | _ => exact .inl rfl
theorem tg_go {W : XW} {A B : Type} {tg : Tg} {d : Sb.D} {v : V} {f : Env → CM A} {R : List Addr → Hp → A → B → Prop} {Q : B → Hp → Prop} {Q' : L2.St → Hp → Prop} {α : List Addr} {ρ : Env} {M : List Ob} {σ : L2.St} {H : Hp} (rl : RL X.K α H ρ σ) (r : RV X.K α H d v) (h : Ho X.gd W R ((setTg ρ tg d >>= f) M) α H Q)
    (k : ∀ ρ1 σ2, RL X.K α H ρ1 σ2 → Ho X.gd W R (f ρ1 M) α H Q → Q' σ2 H) : gT X.K tg v σ H Q' := by
  rw [CM.bind_run] at h
  rcases setTg_cases (ρ := ρ) (tg := tg) (d := d) (M := M) with e | ⟨ρ1, e⟩
  · rw [e] at h; exact h.elim
  · rw [e] at h
    exact (setTg_rel rl r e).2 fun σ2 rl2 _ => k ρ1 σ2 rl2 h
def Tt.tg : Tt → Option Tg
  | .loc i => some (.loc i)
  | .tup is => some (.tup is)
  | _ => none
theorem ss_asg {tt : Tt} {tg : Tg} {e : CE} {tE' pe : PySem.Expr} {pos : Pos} (ht : tt.tg = some tg) (hg : SG X tg tE') (he : SE g cl X e pe) (h1 : swapsWithSole [tE'] pe pos.line X.env = pure false) (h2 : swappedStores [tE'] pe X.env = pure none) (h3 : (assignEach [tE'] X.env).map (fun x => x.2) = [assign tE' X.env]) : SS g cl X (.asg tt e) (.Assign [tE'] pe pos) := fun W tk => (ps_asg (he _ tk) hg h1 h2 h3).imp fun D σ H z => by
  obtain ⟨α, ρ, M, rl, rh, h⟩ := z
  have h' : Ho X.gd W (RFl X.K) ((ev g cl ρ e >>= fun v => setTg ρ tg v >>= fun ρ' => (pure (.nx ρ') : CM Fl)) M) α H (endsQ D) := by
    cases tt with
    | loc i => cases ht; rw [ex] at h; exact h
    | tup is =>
      cases ht; rw [ex] at h
      have : (fun v => setTg ρ (.tup is) v >>= fun ρ' => (pure (.nx ρ') : CM Fl)) = (fun v => store g cl ρ v (.tup is) >>= fun ρ' => (pure (.nx ρ') : CM Fl)) := rfl
      rw [this]; exact h
    | _ => cases ht
  exact sE.go rl rh h' fun v H1 α1 M1 d nx rl rh rv h => tg_go rl rv h fun ρ1 σ2 rl2 h => Ho.pure (b := FV.nx σ2) rh h (.nx rl2)
theorem ss_asgLc (gx : GX g cl X) {i : Nat} {y : Str} {py : Pos} {tg : Tg} {ci : CI} {c e : CE} {tgE iter elt : PySem.Expr} {ifs : List PySem.Expr} {scope : Scope} {own : List (Str × Nat)} {pos spos : Pos} (hy : X.N[i]? = some y) (hyl : X.env.scope.names.lookup y = some .local) (hsw : swapsWith (.ListComp elt [⟨tgE, iter, ifs, 0⟩] scope pos) (some (.Name y py)) spos.line X.env = pure true) (hi : SI g cl X tgE ci iter) (hown : own.map (·.2) = tg.slots) (hb : blkC X.N X.env.scope scope own = true)
    (hg : ∀ s H C l fp, SG (Bk X scope s H C l fp) tg tgE) (hc : ∀ s H C l fp, IfsOk (Bk X scope s H C l fp) g cl c ifs) (he : ∀ s H C l fp, SE g cl (Bk X scope s H C l fp) e elt) (hf : ∀ x, foldedSetIterable iter X.env x = pure x) : SS g cl X (.asg (.loc i) (.comp tg ci c e)) (.Assign [.Name y py] (.ListComp elt [⟨tgE, iter, ifs, 0⟩] scope pos) spos) := fun W tk => ⟨fun pins s σ H D I z => by
  obtain ⟨α, ρ, M, rl, rh, h⟩ := z
  obtain ⟨wi, pi, hw⟩ := hi (WxO W) tk rl rh
  obtain ⟨tt, ptt, htt⟩ : ∃ tt : TT, (∀ s H C l fp, PTs (Bk X scope s H C l fp) ifs tt) ∧ ∀ {α ρ M σ H M1 b} {Q : Bool → Hp → Prop}, RL X.K α H ρ σ → RH X.gd α M H → evT g cl c ρ M = .ok b M1 → (∀ α1 H1, Nx X.K α H α1 H1 → RH X.gd α1 M1 H1 → Q b H1) → tt σ H Q := ifs_tt hc s H
  refine (ps_setLc (g := gT X.K tg) (te := tE X.gd g cl (fun _ _ _ _ => False) e) gx.calm gx.nd hy hyl hsw pi (blkOk_by hb) (fun s H C l fp => hg s H C l fp) ptt (fun s H C l fp => he s H C l fp (fun _ _ _ _ => False) takes0) hf).run pins s σ H D I ?_
  rw [hown]
  have h' : Ho X.gd W (RFl X.K) ((ev g cl ρ (.comp tg ci c e) >>= fun v => setTg ρ (.loc i) v >>= fun ρ' => (pure (.nx ρ') : CM Fl)) M) α H (endsQ D) := by rw [ex] at h; exact h
  refine comp_core (W := WxO W) gx tk hw htt (fun {α ρ M σ H M1 d Q} rl rh e k => ⟨α, ρ, M, rl, rh, ?_⟩) rl rh ((Ho.bind h').mono fun v H1 z => ?_)
  · show Ho X.gd _ _ _ _ _ _
    rw [e]
    exact fun α' v H' nx rh' rv => k α' H' v nx rh' rv
  · obtain ⟨d, M1, α1, nx, rh1, rv, h⟩ := z
    exact tg_go (tg := .loc i) (rl.mono nx) rv h fun ρ1 σ2 rl2 h => Ho.pure (b := FV.nx σ2) rh1 h (.nx rl2)⟩
end
end Sb
end
section
set_option Elab.async false
set_option linter.all false
set_option maxRecDepth 100000
set_option maxHeartbeats 2000000
namespace Sb
open PySem PySem.Spec PyProof.Rows L2
section
variable {g : G} {cl : Cls} {X : Cx}
theorem setAttr_bind {Γ : Gd} {W : XW} {A B : Type} {x w : Sb.D} {f : String} {k : Unit → CM A} {R : List Addr → Hp → A → B → Prop} {α : List Addr} {M : List Ob} {H : Hp} {Q : B → Hp → Prop} {v u : V} (na : NaOk g Γ.K) (rh : RH Γ α M H) (rv : RV Γ.K α H x v) (ru : RV Γ.K α H w u) (h : Ho Γ W R ((setAttr g.na x f w >>= k) M) α H Q) :
    ∃ a c dx gs M', v = .ref a ∧ H a = some (.ins (cad Γ.K c) dx gs) ∧ L2.Cls Γ.K (cad Γ.K c) ∧ NoAttr Γ.K (cad Γ.K c) (Str.ofString f) ∧ gs.length < 1000 ∧ Nx Γ.K α H α (upd H a (.ins (cad Γ.K c) dx (L2.putF (Str.ofString f) u gs))) ∧ RH Γ α M' (upd H a (.ins (cad Γ.K c) dx (L2.putF (Str.ofString f) u gs))) ∧ Ho Γ W R (k () M') α H Q := by
  cases x with
  | ref i =>
    unfold setAttr at h
    rw [bind_assoc] at h
    obtain ⟨o, eo, h⟩ := get_bind h
    cases o with
    | ins c fs =>
      dsimp only at h
      rw [bind_assoc] at h
      obtain ⟨hn, h⟩ := ask_run h
      rw [Bool.and_eq_true, decide_eq_true_eq] at hn
      obtain ⟨_, h⟩ := put_bind h
      cases rv with
      | ref ha =>
        obtain ⟨dx, gs, e1, rf⟩ := rh.ob _ _ _ eo ha
        have n : Nx Γ.K α H α (upd H _ (.ins (cad Γ.K c) dx (L2.putF (Str.ofString f) u gs))) := nx_put e1 ⟨fun _ h => (by cases h), fun _ _ h => (by cases h)⟩
        have hl : gs.length < 1000 := by
          have := Paired.len rf
          omega
        exact ⟨_, c, dx, gs, _, rfl, e1, (na c f hn.1).1, (na c f hn.1).2, hl, n, rh.put (o := .ins c (Sb.putF f w fs)) ha n ⟨dx, _, upd_same, RF.mono n (putF_rel ru rf)⟩, h⟩
    | _ => exact h.elim
  | _ => exact h.elim
theorem ss_att (na : NaOk g X.K) {o e : CE} {f : String} {eo pe : PySem.Expr} {p pos : Pos} (ho : SE g cl X o eo) (he : SE g cl X e pe) (h1 : swapsWith pe (some (.Attribute eo (Str.ofString f) p)) pos.line X.env = pure false) : SS g cl X (.asg (.att o f) e) (.Assign [.Attribute eo (Str.ofString f) p] pe pos) := fun W tk => (ps_fld (ho _ tk) (he _ tk) h1).imp fun D σ H z => by
  obtain ⟨α, ρ, M, rl, rh, h⟩ := z
  have h' : Ho X.gd W (RFl X.K) ((ev g cl ρ e >>= fun v => ev g cl ρ o >>= fun x => setAttr g.na x f v >>= fun _ => (pure (.nx ρ) : CM Fl)) M) α H (endsQ D) := by
    rw [ex] at h
    simp only [store, bind_assoc, pure_bind] at h
    exact h
  refine sE.go rl rh h' fun v H1 α1 M1 d nx rl rh rv h => sE.go rl rh h fun x H2 α2 M2 c nx2 rl rh rx h => ?_
  obtain ⟨a, c, dx, gs, M', e1, e2, cc, nn, hl, n, rh3, h⟩ := setAttr_bind na rh rx (rv.mono nx2) h
  exact ⟨a, _, dx, gs, e1, e2, cc, nn, hl, Ho.ok (R := RFl X.K) (b := FV.nx σ) h n rh3 (.nx (rl.mono n))⟩
def rSetC (Γ : Gd) (W : XW) : TSet := fun o i v H Q => ∃ α M x k d, RH Γ α M H ∧ RV Γ.K α H x o ∧ RV Γ.K α H k i ∧ RV Γ.K α H d v ∧ Ho Γ W (fun _ _ (_ : Unit) (_ : Unit) => True) (setItem x k d M) α H fun _ H' => Q H'
theorem set_core (hu : X.A.units + 65 < cLine) {W : XW} : PSet X (rSetC X.gd W) := by
  rintro pins s σ H o i v ov iv u Q I ro ri rv ⟨α, M, x, k, d, rh, rx, rk, rd, h⟩
  cases x with
  | ref j =>
    have h2 := h
    unfold setItem at h2
    obtain ⟨ob, eo, h2⟩ := get_bind h2
    cases rx with
    | ref ha =>
      cases ob with
      | lst ds =>
        cases k with
        | int z =>
          obtain ⟨jj, ej, h2⟩ := opt_bind h2
          rw [← bind_pure (CM.put _ _)] at h2
          obtain ⟨_, h2⟩ := put_bind h2
          obtain ⟨xs, e1, as⟩ := rh.ob _ _ _ eo ha
          cases rk
          rw [as.length] at ej
          obtain ⟨n, rh3⟩ := Ho.putLst rh e1 ha (as.set jj rd)
          exact set_list pins s σ H _ _ v ov iv u Q I ro ri rv ⟨_, xs, z, jj, rfl, rfl, e1, ej, Ho.ok (Q := fun _ H' => Q H') (b := ()) h2 n rh3 trivial⟩
        | _ => exact h2.elim
      | dic t kvs =>
        obtain ⟨hk, h2⟩ := ask_run h2
        rw [Bool.and_eq_true, decide_eq_true_eq] at hk
        rw [← bind_pure (CM.put _ _)] at h2
        obtain ⟨_, h2⟩ := put_bind h2
        obtain ⟨rfl, kws, e1, pr⟩ := dic_at rh eo ha
        obtain ⟨ky, rky, rfl⟩ := RK.ofK rk hk.1
        have hl := hk.2
        rw [lim_eq, Paired.len pr] at hl
        obtain ⟨n, rh3⟩ := Ho.putDic (W := W) (A := Unit) (B := Unit) rh e1 ha (putK_rel pr rky rd)
        cases ro
        exact d_setItem (by omega) I (DPut.k e1 hl) ri rv fun s' I' => ⟨_, I', Ho.ok (Q := fun _ H' => Q H') (b := ()) h2 n rh3 trivial⟩
      | _ => exact h2.elim
  | _ => exact h.elim
theorem ss_idx (gx : GX g cl X) {o i e : CE} {eo ei pe : PySem.Expr} {p pos : Pos} (ho : SE g cl X o eo) (hi : SE g cl X i ei) (he : SE g cl X e pe) (h0 : ∀ v, assign (.Subscript eo ei p) X.env v = (do
        let ov ← holding [v] (eval eo X.env)
        let iv ← holding [v, ov] (eval ei X.env)
        standAt p
        holding [v, ov, iv] (PySem.setItem ov iv v)
        release [v, ov, iv] [])) (h1 : swapsWithSole [.Subscript eo ei p] pe pos.line X.env = pure false) (h2 : swappedStores [.Subscript eo ei p] pe X.env = pure none) : SS g cl X (.asg (.idx o i) e) (.Assign [.Subscript eo ei p] pe pos) := fun W tk => (ps_asg (he _ tk) (pg_sub (ho _ tk) (hi _ tk) (set_core (W := W) gx.un) h0) h1 h2 rfl).imp fun D σ H z => by
  obtain ⟨α, ρ, M, rl, rh, h⟩ := z
  have h' : Ho X.gd W (RFl X.K) ((ev g cl ρ e >>= fun v => ev g cl ρ o >>= fun x => ev g cl ρ i >>= fun k => setItem x k v >>= fun _ => (pure (.nx ρ) : CM Fl)) M) α H (endsQ D) := by
    rw [ex] at h
    simp only [store, bind_assoc, pure_bind] at h
    exact h
  refine sE.go rl rh h' fun v H1 α1 M1 d nx rl rh rv h => sE.go rl rh h fun x H2 α2 M2 c nx2 rl rh rx h => sE.go rl rh h fun k H3 α3 M3 b nx3 rl rh rk h => ?_
  refine ⟨α3, M3, c, b, d, rh, rx.mono nx3, rk, (rv.mono nx2).mono nx3, (Ho.bind h).mono fun _ H4 z => ?_⟩
  obtain ⟨_, M4, α4, nx4, rh4, _, h⟩ := z
  exact Ho.pure (b := FV.nx σ) rh4 h (.nx (rl.mono nx4))
theorem ss_del (gx : GX g cl X) {o i : CE} {eo ei : PySem.Expr} {p pos : Pos} (ho : SE g cl X o eo) (hi : SE g cl X i ei) : SS g cl X (.del o i) (.Delete [.Subscript eo ei p] pos) := fun W tk => (ps_ddel (ho _ tk) (hi _ tk)).imp fun D σ H z => by
  obtain ⟨α, ρ, M, rl, rh, h⟩ := z
  rw [ex] at h
  refine sE.go rl rh h fun x H1 α1 M1 c nx rl rh rx h => sE.go rl rh h fun y H2 α2 M2 k nx2 rl rh ry h => ?_
  cases c with
  | ref j =>
    unfold delItem at h
    rw [bind_assoc] at h
    obtain ⟨ob, eo, h⟩ := get_bind h
    cases ob with
    | dic t kvs =>
      dsimp only at h
      rw [bind_assoc] at h
      obtain ⟨hk, h⟩ := ask_run h
      rw [Bool.and_eq_true] at hk
      obtain ⟨_, h⟩ := put_bind h
      cases rx with
      | ref ha =>
        have ha := nx2.get ha
        obtain ⟨rfl, kws, e1, pr⟩ := dic_at rh eo ha
        obtain ⟨ky, rky, rfl⟩ := RK.ofK ry hk.1
        obtain ⟨n, rh3⟩ := Ho.putDic (W := W) (A := Unit) (B := Unit) rh e1 ha (dropK_rel pr rky)
        have hs : (valV kws ky).isSome = true := by
          rcases look_rel (K := X.K) (α := α2) (H := H2) pr rky with ⟨l1, l2⟩ | ⟨d', z, l1, l2, r⟩
          · rw [l1] at hk; exact absurd hk.2 (by decide)
          · rw [l2]; rfl
        exact ⟨_, kws, ky, rfl, e1, rfl, hs, Ho.ok (R := RFl X.K) (b := FV.nx σ) h n rh3 (.nx (rl.mono n))⟩
    | _ => exact h.elim
  | _ => exact h.elim
def augF : BOp → Int → Int → Option Int
  | .add, a, b => some (a + b)
  | .sub, a, b => some (a - b)
  | _, _, _ => none
theorem in_core (op : BOp) : InOp X (bOp op) (fun x y H Q => ∃ i j z, x = .int i ∧ y = .int j ∧ augF op i j = some z ∧ Q (.int z) H) := by
  rintro pins s σ H x y u v Q I rx ry ⟨i, j, z, e1, e2, e3, q⟩
  cases op with
  | add => cases e3; exact in_add pins s σ H x y u v Q I rx ry ⟨i, j, e1, e2, q⟩
  | sub => cases e3; exact in_sub pins s σ H x y u v Q I rx ry ⟨i, j, e1, e2, q⟩
  | _ => cases e3
theorem ss_aug (gx : GX g cl X) {i : Nat} {x : Str} {op : BOp} {e : CE} {pe : PySem.Expr} {p pos : Pos} (hN : X.N[i]? = some x) (hl : Loc X.env.scope x) (hf : X.fn x = true ∨ X.env.scope.names.lookup x = some .local) (he : SE g cl X e pe) : SS g cl X (.aug i op e) (.AugAssign (.Name x p) (bOp op) pe pos) := fun W tk => (ps_aug gx.nd hN hl (he _ tk) (in_core op) hf).imp fun D σ H z => by
  obtain ⟨α, ρ, M, rl, rh, h⟩ := z
  rw [ex] at h
  obtain ⟨d0, e0, h⟩ := opt_bind h
  have e0' : ρ[i]? = some (some d0) := by
    cases q : ρ[i]? with
    | none => rw [q] at e0; cases e0
    | some o => rw [q] at e0; cases o with
      | none => cases e0
      | some u => cases e0; rfl
  obtain ⟨v0, e1, rv0⟩ := rl.at_ i d0 e0'
  refine ⟨v0, e1, sE.go rl rh h fun y H1 α1 M1 d nx rl rh ry h => ?_⟩
  cases op with
  | add =>
    cases d0 with
    | int a =>
      cases d with
      | int b =>
        cases rv0; cases ry
        exact ⟨a, b, _, rfl, rfl, rfl, tg_go (tg := .loc i) (Q' := D.nx) rl (.int (a + b)) h fun ρ1 σ2 rl2 h => Ho.pure (b := FV.nx σ2) rh h (.nx rl2)⟩
      | _ => exact h.elim
    | _ => exact h.elim
  | sub =>
    cases d0 with
    | int a =>
      cases d with
      | int b =>
        cases rv0; cases ry
        exact ⟨a, b, _, rfl, rfl, rfl, tg_go (tg := .loc i) (Q' := D.nx) rl (.int (a - b)) h fun ρ1 σ2 rl2 h => Ho.pure (b := FV.nx σ2) rh h (.nx rl2)⟩
      | _ => exact h.elim
    | _ => exact h.elim
  | _ => exact h.elim
theorem clsOf_bind {Γ : Gd} {W : XW} {A B : Type} {x : Sb.D} {k : String → CM A} {R : List Addr → Hp → A → B → Prop} {α : List Addr} {M : List Ob} {H : Hp} {Q : B → Hp → Prop} (h : Ho Γ W R ((clsOf x >>= k) M) α H Q) : ∃ i c fs, x = .ref i ∧ M[i]? = some (.ins c fs) ∧ Ho Γ W R (k c M) α H Q := by
  cases x with
  | ref i =>
    unfold clsOf at h
    rw [bind_assoc] at h
    obtain ⟨o, eo, h⟩ := get_bind h
    cases o with
    | ins c fs => exact ⟨i, c, fs, rfl, eo, h⟩
    | _ => exact h.elim
  | _ => exact h.elim
theorem ss_augA (na : NaOk g X.K) {o e : CE} {f : String} {op : BOp} {eo pe : PySem.Expr} {p pos : Pos} (ho : SE g cl X o eo) (he : SE g cl X e pe) : SS g cl X (.augA o f op e) (.AugAssign (.Attribute eo (Str.ofString f) p) (bOp op) pe pos) := fun W tk => (ps_fldaug (ho _ tk) (he _ tk) (in_core op)).imp fun D σ H z => by
  obtain ⟨α, ρ, M, rl, rh, h⟩ := z
  rw [ex] at h
  refine sE.go rl rh h fun x H1 α1 M1 c nx rl rh rx h => ?_
  obtain ⟨i0, c0, fs0, e00, e01, h⟩ := clsOf_bind h
  obtain ⟨a, c, dx, fs, gs, d, u, i, rfl, rfl, eo1, ha, e1, rf, cc, nn, l, r, h⟩ := attr_bind na rh rx h
  cases e00
  rw [e01] at eo1
  cases eo1
  refine ⟨a, _, dx, gs, u, rfl, e1, cc, nn, l, sE.go rl rh h fun y H2 α2 M2 d2 nx2 rl rh ry h => ?_⟩
  obtain ⟨i2, c2, fs2, e20, e21, h⟩ := clsOf_bind h
  cases e20
  obtain ⟨hcc, h7⟩ := ask_runD h
  subst hcc
  clear h
  have fin : ∀ z : Int, Ho X.gd W (RFl X.K) ((setAttr g.na (.ref i0) f (.int z) >>= fun _ => (pure (.nx ρ) : CM Fl)) M2) α2 H2 (endsQ D) → ∃ dx' fs', H2 a = some (HO.ins (cad X.K c0) dx' fs') ∧ fs'.length < 1000 ∧ D.nx σ (upd H2 a (HO.ins (cad X.K c0) dx' (L2.putF (Str.ofString f) (V.int z) fs'))) := by
    intro z h
    unfold setAttr at h
    rw [bind_assoc] at h
    obtain ⟨ob, eo, h⟩ := get_bind h
    rw [e21] at eo
    cases eo
    dsimp only at h
    rw [bind_assoc] at h
    obtain ⟨hn, h⟩ := ask_run h
    rw [Bool.and_eq_true, decide_eq_true_eq] at hn
    obtain ⟨_, h⟩ := put_bind h
    have ha2 := nx2.get ha
    obtain ⟨dx2, gs2, e5, rf2⟩ := rh.ob _ _ _ e21 ha2
    have n : Nx X.K α2 H2 α2 (upd H2 a (.ins (cad X.K c0) dx2 (L2.putF (Str.ofString f) (V.int z) gs2))) := nx_put (Γ := X.gd) e5 ⟨fun _ h => (by cases h), fun _ _ h => (by cases h)⟩
    have rh3 := rh.put (o := .ins c0 (Sb.putF f (.int z) fs2)) ha2 n ⟨dx2, _, upd_same, RF.mono n (putF_rel (.int z) rf2)⟩
    exact ⟨dx2, gs2, e5, by have := Paired.len rf2; omega, Ho.ok (R := RFl X.K) (b := FV.nx σ) h n rh3 (.nx (rl.mono n))⟩
  cases op with
  | add =>
    cases d with
    | int p =>
      cases d2 with
      | int q => cases r; cases ry; exact ⟨p, q, _, rfl, rfl, rfl, fin _ h7⟩
      | _ => exact h7.elim
    | _ => exact h7.elim
  | sub =>
    cases d with
    | int p =>
      cases d2 with
      | int q => cases r; cases ry; exact ⟨p, q, _, rfl, rfl, rfl, fin _ h7⟩
      | _ => exact h7.elim
    | _ => exact h7.elim
  | _ => exact h7.elim
abbrev PO (X : Cx) : Prop := PassesOwn (model X.prog X.w) X.A X.env X.xe
theorem ss_whl (po : PO X) {c : CE} {body : CSs} {ec : PySem.Expr} {sb : List Stmt} {pos : Pos} (hc : STt g cl X c ec) (hb : SSs g cl X body sb) : SS g cl X (.whl c body) (.While ec sb [] pos) := fun W tk => (ps_while po (hc _ tk) (hb W tk)).imp fun D σ H z => by
  obtain ⟨α, ρ, M, rl, rh, h⟩ := z
  rw [ex] at h
  refine ⟨fun m σ H => ∃ α ρ M, RL X.K α H ρ σ ∧ RH X.gd α M H ∧ Ho X.gd W (RFl X.K) (whileD (evT g cl c) (fun ρ => exs g cl ρ body) m ρ M) α H (endsQ D), ⟨wmax, α, ρ, M, rl, rh, h⟩, ?_⟩
  rintro m σ H ⟨α, ρ, M, rl, rh, h⟩
  cases m with
  | zero => exact h.elim
  | succ m =>
    rw [whileD] at h
    refine tT.go (W := WxO W) rl rh h fun k H1 α1 M1 nx rl rh h => ?_
    cases k with
    | false => rw [if_neg Bool.false_ne_true]; exact Ho.pure (b := FV.nx σ) rh h (.nx rl)
    | true =>
      rw [if_pos rfl]
      refine ⟨fun σ H => ∃ α ρ M, RL X.K α H ρ σ ∧ RH X.gd α M H ∧ Ho X.gd W (RFl X.K) (whileD (evT g cl c) (fun ρ => exs g cl ρ body) m ρ M) α H (endsQ D), fun σ' H' z => ⟨m, Nat.lt_succ_self m, z⟩, α1, ρ, M1, rl, rh, (Ho.bind h).mono fun fv H2 z => ?_⟩
      obtain ⟨fl, M2, α2, nx2, rh2, r, h⟩ := z
      cases r with
      | nx rl2 => exact ⟨α2, _, M2, rl2, rh2, h⟩
      | ct rl2 => exact ⟨α2, _, M2, rl2, rh2, h⟩
      | bk rl2 => exact (Ho.ok (R := RFl X.K) h .refl rh2 (RFl.nx rl2) : endsQ D (FV.nx _) H2)
      | rt rv => exact (Ho.ok (R := RFl X.K) h .refl rh2 (RFl.rt rv) : endsQ D (FV.rt _) H2)
theorem ss_for (gx : GX g cl X) (po : PO X) {tg : Tg} {ci : CI} {body : CSs} {tgE iter : PySem.Expr} {sb : List Stmt} {pos : Pos} (hi : SI g cl X tgE ci iter) (hg : SG X tg tgE) (hb : SSs g cl X body sb) (hf : ∀ x, foldedSetIterable iter X.env x = pure x) : SS g cl X (.for tg ci body) (.For tgE iter sb [] pos) := fun W tk => ⟨fun pins s σ H D I z => by
  obtain ⟨α, ρ, M, rl, rh, h⟩ := z
  obtain ⟨wi, pi, hw⟩ := hi (WxO W) tk rl rh
  refine (ps_for po gx.calm pi hg (hb W tk) hf).run pins s σ H D I ?_
  rw [ex] at h
  refine hw _ ((Ho.bind h).mono fun J H1 z => ?_)
  obtain ⟨w, M1, α1, nx1, rh1, hJ, h⟩ := z
  refine ⟨fun i m σ H => m = w.its.length - i ∧ i ≤ w.its.length ∧ ∃ α ρ M, Nx X.K α1 H1 α H ∧ RL X.K α H ρ σ ∧ RH X.gd α M H ∧ Ho X.gd W (RFl X.K) (forD w tg (fun ρ => exs g cl ρ body) (w.its.drop i) ρ M) α H (endsQ D), ⟨_, rfl, Nat.zero_le _, α1, ρ, M1, .refl, rl.mono nx1, rh1, h⟩, ?_⟩
  rintro i m σ H ⟨rfl, hi', α, ρ, M, nx, rl, rh, h⟩
  have chk : ∀ {f : Unit → CM Fl}, Ho X.gd W (RFl X.K) ((checkW w >>= f) M) α H (endsQ D) → w.ok M = true ∧ Ho X.gd W (RFl X.K) (f () M) α H (endsQ D) := fun {f} h => by
    rw [CM.bind_run] at h
    unfold checkW at h
    by_cases e : w.ok M = true
    · rw [if_pos e] at h; exact ⟨e, h⟩
    · rw [if_neg e] at h; exact h.elim
  by_cases hlt : i < w.its.length
  · right
    have hd : w.its.drop i = w.its[i] :: w.its.drop (i + 1) := List.drop_eq_getElem_cons hlt
    rw [hd, forD] at h
    obtain ⟨hok, h⟩ := chk h
    obtain ⟨i1, i2, i3⟩ := hJ i α M H nx rh hok
    refine ⟨i1 hlt, fun σ H => ∃ α ρ M, Nx X.K α1 H1 α H ∧ RL X.K α H ρ σ ∧ RH X.gd α M H ∧ Ho X.gd W (RFl X.K) (forD w tg (fun ρ => exs g cl ρ body) (w.its.drop (i + 1)) ρ M) α H (endsQ D), fun σ' H' z => ⟨w.its.length - (i + 1), by omega, rfl, by omega, z⟩, fun x H' hy => ?_⟩
    obtain ⟨nx3, rh3, hr⟩ := i3 x H' hy
    have rx := hr w.its[i] (by simp)
    refine tg_go (rl.mono nx3) rx (Ho.nx nx3 h) fun ρ1 σ2 rl2 h => ⟨α, ρ1, M, rl2, rh3, (Ho.bind h).mono fun fv H2 z => ?_⟩
    obtain ⟨fl, M2, α2, nx2, rh2, r, h⟩ := z
    have nxx := (nx.trans nx3).trans nx2
    cases r with
    | nx rl2 => exact ⟨α2, _, M2, nxx, rl2, rh2, h⟩
    | ct rl2 => exact ⟨α2, _, M2, nxx, rl2, rh2, h⟩
    | bk rl2 => exact (Ho.ok (R := RFl X.K) h .refl rh2 (RFl.nx rl2) : endsQ D (FV.nx _) H2)
    | rt rv => exact (Ho.ok (R := RFl X.K) h .refl rh2 (RFl.rt rv) : endsQ D (FV.rt _) H2)
  · left
    have hd : w.its.drop i = [] := List.drop_eq_nil_of_le (by omega)
    rw [hd, forD] at h
    obtain ⟨hok, h⟩ := chk h
    obtain ⟨i1, i2, i3⟩ := hJ i α M H nx rh hok
    exact ⟨i2 (by omega), Ho.pure (b := FV.nx σ) rh h (.nx rl)⟩⟩
end
end Sb
end
section
set_option Elab.async false
set_option linter.all false
set_option maxRecDepth 100000
set_option maxHeartbeats 4000000
namespace Sb
open PySem PySem.Spec PyProof.Rows L2
structure KX where
  N : List Str
  sc : Scope
  fn : Str → Bool
structure AtK (k : KX) (X : Cx) : Prop where
  n : X.N = k.N
  sc : X.env.scope = k.sc
  fn : X.fn = k.fn
def relS (scope sc : Scope) : Scope :=
  { kind := scope.kind
    names := scope.names.map fun x => match x with
      | (n, k) => if (k == NameKind.free && sc.kind == ScopeKind.function && sc.names.lookup n == some NameKind.cell) = true then (n, NameKind.cell) else (n, k)
    isGenerator := scope.isGenerator, isCoroutine := scope.isCoroutine, more := scope.more }
def KX.blk (k : KX) (scope : Scope) : KX := ⟨k.N, relS scope k.sc, fun x => scope.names.lookup x == some .cell⟩
theorem AtK.blk {k : KX} {X : Cx} (a : AtK k X) (scope : Scope) (s : Shared) (H : Hp) (C : Addr) (l : List (Str × Addr)) (fp : List Addr) : AtK (k.blk scope) (Bk X scope s H C l fp) := by
  refine ⟨a.n, ?_, rfl⟩
  show relabel scope X.env = relS scope k.sc
  rw [← a.sc]
  rfl
def KX.gl (k : KX) (x : Str) : Bool := k.sc.names.lookup x == some .globalImplicit
def KX.vis (k : KX) (x : Str) : Bool := k.sc.names.lookup x == some .local || k.sc.names.lookup x == some .cell || k.sc.names.lookup x == some .free
def KX.loc (k : KX) (x : Str) : Bool := k.sc.names.lookup x == some .local || (k.sc.names.lookup x == some .cell && k.fn x)
def okN (x : Str) : Bool := !(x == Str.ofString "__debug__") && !(x == Str.ofString "__classdict__")
section
variable {k : KX} {X : Cx} {x : Str}
theorem gl_ok (a : AtK k X) (h : k.gl x = true) : Gl X x := by
  show X.env.scope.names.lookup x = _
  rw [a.sc]; exact eq_of_beq h
theorem vis_ok (a : AtK k X) (h : k.vis x = true) : Vis X.env.scope x := by
  rw [a.sc]
  unfold KX.vis at h
  rw [Bool.or_eq_true, Bool.or_eq_true] at h
  rcases h with (h | h) | h
  · exact .inl (eq_of_beq h)
  · exact .inr (.inl (eq_of_beq h))
  · exact .inr (.inr (eq_of_beq h))
theorem loc_ok (a : AtK k X) (h : k.loc x = true) : Loc X.env.scope x ∧ (X.fn x = true ∨ X.env.scope.names.lookup x = some .local) := by
  rw [a.sc, a.fn]
  unfold KX.loc at h
  rw [Bool.or_eq_true, Bool.and_eq_true] at h
  rcases h with h | h
  · exact ⟨.inl (eq_of_beq h), .inr (eq_of_beq h)⟩
  · exact ⟨.inr (eq_of_beq h.1), .inl h.2⟩
theorem okN_ok (h : okN x = true) : (x == Str.ofString "__debug__") = false ∧ (x == Str.ofString "__classdict__") = false := by
  simpa [okN] using h
end
def plainB : PySem.Expr → Bool
  | .Slice _ _ _ _ => false
  | .Tuple _ _ _ => false
  | _ => true
def chkA (r : PySem.Expr → CE → Bool) : List PySem.Expr → CEs → Bool
  | [], .nil => true
  | e :: es, .cons c cs => star0 e && r e c && chkA r es cs
  | _, _ => false
def chkD (r : PySem.Expr → CE → Bool) : List (Option PySem.Expr) → List PySem.Expr → CEs → Bool
  | [], [], .nil => true
  | some a :: as, b :: bs, .cons x (.cons y cs) => r a x && r b y && chkD r as bs cs
  | _, _, _ => false
def chkO (r : PySem.Expr → CE → Bool) : Option PySem.Expr → CE → Bool
  | none, .cst .non => true
  | some e, c => !c.isNon && r e c
  | _, _ => false
def chkNs (k : KX) : List PySem.Expr → List Nat → Bool
  | [], [] => true
  | .Name x _ :: es, i :: is => decide (k.N[i]? = some x) && k.loc x && chkNs k es is
  | _, _ => false
def chkG (k : KX) : PySem.Expr → Tg → Bool
  | .Name x _, .loc i => decide (k.N[i]? = some x) && k.loc x
  | .Tuple es _ _, .tup is => chkNs k es is
  | _, _ => false
def notSetE : PySem.Expr → Bool
  | .Set _ _ _ => false
  | _ => true
def chkI (k : KX) (r : PySem.Expr → CE → Bool) (e : PySem.Expr) : CI → Bool
  | .seq c => r e c
  | .rng a b => match e with
    | .Call (.Name x _) [eb] [] _ => decide (x = Str.ofString "range") && k.gl x && star0 eb && r eb b && (match a with | .cst (.int 0) => true | _ => false)
    | .Call (.Name x _) [ea, eb] [] _ => decide (x = Str.ofString "range") && k.gl x && star0 ea && star0 eb && r ea a && r eb b
    | _ => false
  | _ => false
def chkIf (r : PySem.Expr → CE → Bool) : List PySem.Expr → CE → Bool
  | [], .cst (.bl true) => true
  | [e], c => r e c
  | _, _ => false
def ownOf (k : KX) (is : List Nat) : List (Str × Nat) := is.map fun i => ((k.N[i]?).getD (Str.ofString ""), i)
def valForm : PySem.Expr → Bool
  | .Name _ _ | .Call _ _ _ _ | .Attribute _ _ _ | .Subscript _ _ _ | .Constant _ _ _ => true
  | _ => false
def chkC (g : G) (k : KX) (r rt : PySem.Expr → CE → Bool) (rb : KX → PySem.Expr → CE → Bool) (rbt : KX → PySem.Expr → CE → Bool) (e : PySem.Expr) : CE → Bool
  | .loc i => match e with
    | .Name x _ => decide (k.N[i]? = some x) && k.vis x && okN x
    | _ => false
  | .glb f => match e with
    | .Name x _ => decide (x = Str.ofString f) && k.gl x && okN x && (g.glb f).isSome
    | _ => false
  | .cst d => match e with
    | .Constant .none _ _ => decide (d = .non)
    | .Constant (.bool b) _ _ => decide (d = .bl b)
    | .Constant (.int i) _ _ => decide (d = .int i)
    | .Constant (.str x) _ _ => match d with
      | .str s => decide (x = toS s) && s.all (fun c => decide (c < 1114112)) && decide (s.length ≤ 16777216)
      | _ => false
    | _ => false
  | .tup cs => match e with
    | .Tuple es _ _ => chkA r es cs
    | _ => false
  | .lst cs => match e with
    | .List es _ => chkA r es cs
    | _ => false
  | .dic t cs => match e with
    | .Dict keys vals _ => !t && chkD r keys vals cs && keys.all (fun x => x.isSome) && decide (keys.length = vals.length) && decide (keys.length ≤ 15)
    | _ => false
  | .bin o x y => match e with
    | .BinOp a op b _ => decide (op = bOp o) && r a x && r b y
    | _ => false
  | .neg x => match e with
    | .UnaryOp .USub a _ => r a x
    | _ => false
  | .not x => match e with
    | .UnaryOp .Not a _ => r a x
    | _ => false
  | .cmp o x y => match e with
    | .Compare a [op] [b] _ => decide (op = cOp o) && !behindInMarks op b && r a x && r b y
    | _ => false
  | .cmp2 o1 o2 x y z => match e with
    | .Compare a [p1, p2] [b, c] _ => decide (p1 = cOp o1) && decide (p2 = cOp o2) && !lastMarks [p1, p2] [b, c] && r a x && r b y && r c z
    | _ => false
  | .and x y => match e with
    | .BoolOp .And (a :: b :: es) p => r a x && r (.BoolOp .And (b :: es) p) y
    | _ => false
  | .or x y => match e with
    | .BoolOp .Or (a :: b :: es) p => r a x && r (.BoolOp .Or (b :: es) p) y
    | _ => false
  | .ite c x y => match e with
    | .IfExp t a b _ => rt t c && r a x && r b y
    | _ => false
  | .idx x y => match e with
    | .Subscript a b _ => r a x && r b y && plainB b
    | _ => false
  | .slc x l h => match e with
    | .Subscript a (.Slice lo hi none _) _ => r a x && chkO r lo l && chkO r hi h
    | _ => false
  | .att x f => match e with
    | .Attribute a f' _ => decide (f' = Str.ofString f) && nsup a && r a x
    | _ => false
  | .call f cs => match e with
    | .Call (.Name x _) es [] _ => decide (x = Str.ofString f) && k.gl x && okN x && (match g.fn f with | some fd => fd.glo | none => false) && chkA r es cs
    | _ => false
  | .make c cs => match e with
    | .Call (.Name x _) es [] _ => decide (x = Str.ofString c) && k.gl x && okN x && (methOf g c "__init__").isSome && chkA r es cs
    | _ => false
  | .blt f cs => match e with
    | .Call (.Name x _) (e1 :: es) [] _ => decide (x = Str.ofString f) && k.gl x && (bfOf f).isSome && chkA r (e1 :: es) cs
    | _ => false
  | .isi a T => match e with
    | .Call (.Name x _) [e1, .Name y _] [] _ => decide (x = Str.ofString "isinstance") && decide (y = Str.ofString T) && k.gl x && k.gl y && decide (T ∈ tyNames) && star0 e1 && r e1 a
    | _ => false
  | .met o m cs => match e with
    | .Call (.Attribute eo mm apos) es [] pos => decide (mm = Str.ofString m) && nsup eo && (apos.endLine == pos.line) && decide (es.length < 20) && r eo o && chkA r es cs
    | _ => false
  | .comp tg ci c e' => match e with
    | .ListComp elt [⟨tgE, iter, ifs, 0⟩] scope _ => chkI k r iter ci && blkC k.N k.sc scope (ownOf k tg.slots) && chkG (k.blk scope) tgE tg && chkIf (rbt (k.blk scope)) ifs c && rb (k.blk scope) elt e' && notSetE iter
    | _ => false
  | _ => false
def chk (g : G) : Nat → Bool → KX → PySem.Expr → CE → Bool
  | 0, _, _, _, _ => false
  | n + 1, false, k, e, c => match e with
    | .BoolOp _ [a] _ => chk g n false k a c
    | e => chkC g k (chk g n false k) (chk g n true k) (fun k' => chk g n false k') (fun k' => chk g n true k') e c
  | n + 1, true, k, e, c => match e with
    | .BoolOp _ [a] _ => chk g n true k a c
    | .BoolOp .And (a :: b :: es) p => match c with
      | .and x y => chk g n true k a x && chk g n true k (.BoolOp .And (b :: es) p) y
      | _ => false
    | .BoolOp .Or (a :: b :: es) p => match c with
      | .or x y => chk g n true k a x && chk g n true k (.BoolOp .Or (b :: es) p) y
      | _ => false
    | .UnaryOp .Not a _ => match c with
      | .not x => chk g n true k a x
      | _ => false
    | .Compare a [op] [b] _ => match c with
      | .cmp o x y => decide (op = cOp o) && !behindInMarks op b && chk g n false k a x && chk g n false k b y
      | _ => false
    | .Compare a [p1, p2] [b, c'] _ => match c with
      | .cmp2 o1 o2 x y z => decide (p1 = cOp o1) && decide (p2 = cOp o2) && !lastMarks [p1, p2] [b, c'] && chk g n false k a x && chk g n false k b y && chk g n false k c' z
      | _ => false
    | e => valForm e && chk g n false k e c
section
variable {g : G} {cl : Cls} {X : Cx}
theorem chkA_ok {r : PySem.Expr → CE → Bool} (hr : ∀ e c, r e c = true → SE g cl X c e) : ∀ {es : List PySem.Expr} {cs : CEs}, chkA r es cs = true → SA g cl X cs es ∧ es.all star0 = true ∧ (es = [] → cs = .nil)
  | [], .nil, _ => ⟨sa_nil, rfl, fun _ => rfl⟩
  | e :: es, .cons c cs, h => by
    simp only [chkA, Bool.and_eq_true] at h
    obtain ⟨i1, i2, _⟩ := chkA_ok hr h.2
    exact ⟨sa_cons (hr e c h.1.2) i1 (star_cons h.1.1), by simp [h.1.1]; simpa using i2, fun z => by cases z⟩
  | [], .cons _ _, h => by cases h
  | _ :: _, .nil, h => by cases h
theorem chkD_ok {r : PySem.Expr → CE → Bool} (hr : ∀ e c, r e c = true → SE g cl X c e) {pos : Pos} : ∀ {keys : List (Option PySem.Expr)} {vals : List PySem.Expr} {cs : CEs}, chkD r keys vals cs = true → SD g cl X pos cs keys vals
  | [], [], .nil, _ => sd_nil
  | some a :: as, b :: bs, .cons x (.cons y cs), h => by
    simp only [chkD, Bool.and_eq_true] at h
    exact sd_cons (hr _ _ h.1.1) (hr _ _ h.1.2) (chkD_ok hr h.2)
  | [], [], .cons _ _, h => by cases h
  | [], _ :: _, _, h => by cases h
  | some _ :: _, [], _, h => by cases h
  | none :: _, _, _, h => by cases h
  | some _ :: _, _ :: _, .nil, h => by cases h
  | some _ :: _, _ :: _, .cons _ .nil, h => by cases h
theorem chkO_ok {r : PySem.Expr → CE → Bool} (hr : ∀ e c, r e c = true → SE g cl X c e) {o : Option PySem.Expr} {c : CE} (h : chkO r o c = true) : SO g cl X c o := by
  cases o with
  | none =>
    unfold chkO at h
    split at h
    · exact so_none
    · rename_i z; cases z
    · cases h
  | some e =>
    have h' : (!c.isNon && r e c) = true := h
    simp only [Bool.and_eq_true, Bool.not_eq_true'] at h'
    exact so_some (hr e c h'.2) h'.1
theorem chkNs_ok {k : KX} (a : AtK k X) : ∀ {es : List PySem.Expr} {is : List Nat}, chkNs k es is = true → SGs X is es
  | [], [], _ => .nil
  | .Name x _ :: es, i :: is, h => by
    simp only [chkNs, Bool.and_eq_true, decide_eq_true_eq] at h
    exact .cons (by rw [a.n]; exact h.1.1) (loc_ok a h.1.2).1 (loc_ok a h.1.2).2 (chkNs_ok a h.2)
  | [], _ :: _, h => by cases h
  | e :: _, [], h => by cases e <;> cases h
  | e :: es, i :: is, h => by
    cases e with
    | Name x p =>
      simp only [chkNs, Bool.and_eq_true, decide_eq_true_eq] at h
      exact .cons (by rw [a.n]; exact h.1.1) (loc_ok a h.1.2).1 (loc_ok a h.1.2).2 (chkNs_ok a h.2)
    | _ => cases h
theorem chkG_ok (gx : GX g cl X) {k : KX} (a : AtK k X) {e : PySem.Expr} {tg : Tg} (h : chkG k e tg = true) : SG X tg e := by
  cases tg with
  | loc i =>
    cases e with
    | Name x p =>
      simp only [chkG, Bool.and_eq_true, decide_eq_true_eq] at h
      exact sg_loc gx (by rw [a.n]; exact h.1) (loc_ok a h.2).1 (loc_ok a h.2).2
    | _ => cases h
  | tup is =>
    cases e with
    | Tuple es _ _ => exact sg_tup gx (chkNs_ok a h)
    | _ => cases h
theorem fold_ok {e : PySem.Expr} {env : PySem.Env} (h : notSetE e = true) : ∀ x, foldedSetIterable e env x = pure x := by
  intro x
  cases e <;> first | rfl | cases h
theorem chkI_ok (gx : GX g cl X) {k : KX} (a : AtK k X) {r : PySem.Expr → CE → Bool} (hr : ∀ e c, r e c = true → SE g cl X c e) {e tgE : PySem.Expr} {ci : CI} (h : chkI k r e ci = true) : SI g cl X tgE ci e := by
  cases ci with
  | seq c => exact si_seq (hr _ _ h)
  | rng x y =>
    simp only [chkI] at h
    split at h
    · simp only [Bool.and_eq_true, decide_eq_true_eq] at h
      obtain ⟨⟨⟨⟨rfl, h2⟩, h3⟩, h4⟩, h5⟩ := h
      split at h5
      · exact si_rng1 gx (hr _ _ h4) h3 (gl_ok a h2)
      · cases h5
    · simp only [Bool.and_eq_true, decide_eq_true_eq] at h
      obtain ⟨⟨⟨⟨⟨rfl, h2⟩, h3⟩, h4⟩, h5⟩, h6⟩ := h
      exact si_rng2 gx (hr _ _ h5) (hr _ _ h6) h3 h4 (gl_ok a h2)
    · cases h
  | _ => cases h
theorem own_snd {k : KX} (is : List Nat) : (ownOf k is).map (·.2) = is := by
  unfold ownOf
  rw [List.map_map]
  simp [Function.comp_def]
theorem plain_ok {b : PySem.Expr} (h : plainB b = true) : PlainIx b := by
  intro o i
  cases b <;> first | rfl | cases h
structure RecOk (g : G) (cl : Cls) (k : KX) (r rt : PySem.Expr → CE → Bool) (rb rbt : KX → PySem.Expr → CE → Bool) (X : Cx) : Prop where
  e : ∀ e c, r e c = true → SE g cl X c e
  t : ∀ e c, rt e c = true → STt g cl X c e
  b : ∀ k' Y, AtK k' Y → GX g cl Y → ∀ e c, rb k' e c = true → SE g cl Y c e
  bt : ∀ k' Y, AtK k' Y → GX g cl Y → ∀ e c, rbt k' e c = true → STt g cl Y c e
theorem chkC_ok (gx : GX g cl X) {k : KX} (a : AtK k X) {r rt : PySem.Expr → CE → Bool} {rb rbt : KX → PySem.Expr → CE → Bool} (R : RecOk g cl k r rt rb rbt X) {e : PySem.Expr} {c : CE} (h : chkC g k r rt rb rbt e c = true) : SE g cl X c e := by
  cases c with
  | loc i =>
    simp only [chkC] at h
    split at h
    · simp only [Bool.and_eq_true, decide_eq_true_eq] at h
      exact se_loc (by rw [a.n]; exact h.1.1) (vis_ok a h.1.2) (okN_ok h.2).1 (okN_ok h.2).2
    · cases h
  | glb f =>
    simp only [chkC] at h
    split at h
    · simp only [Bool.and_eq_true, decide_eq_true_eq] at h
      obtain ⟨⟨⟨rfl, h2⟩, h3⟩, h4⟩ := h
      obtain ⟨d, hd⟩ := Option.isSome_iff_exists.mp h4
      obtain ⟨u, v, e1, e2, e3⟩ := gx.glb f d hd
      exact se_glb (gl_ok a h2) e1 e2 (okN_ok h3).1 hd e3
    · cases h
  | cst d =>
    simp only [chkC] at h
    split at h
    · rw [of_decide_eq_true h]; exact se_const pe_non fun _ _ => .non
    · rw [of_decide_eq_true h]; exact se_const pe_bl fun _ _ => .bl _
    · rw [of_decide_eq_true h]; exact se_const pe_int fun _ _ => .int _
    · split at h
      · simp only [Bool.and_eq_true, decide_eq_true_eq, List.all_eq_true] at h
        obtain ⟨⟨rfl, h2⟩, h3⟩ := h
        exact se_const pe_str fun _ _ => .str h2 (by rw [sizeLine_eq]; exact h3)
      · cases h
    · cases h
  | tup cs =>
    simp only [chkC] at h
    split at h
    · exact se_tup (chkA_ok R.e h).1
    · cases h
  | lst cs =>
    simp only [chkC] at h
    split at h
    · exact se_lst (chkA_ok R.e h).1
    · cases h
  | dic t cs =>
    simp only [chkC] at h
    split at h
    · rename_i keys vals pos
      simp only [Bool.and_eq_true, decide_eq_true_eq, Bool.not_eq_true'] at h
      obtain ⟨⟨⟨⟨rfl, h1⟩, h2⟩, h3⟩, h4⟩ := h
      cases keys with
      | nil =>
        cases vals with
        | nil =>
          cases cs with
          | nil => exact se_dic0
          | cons _ _ => cases h1
        | cons _ _ => cases h3
      | cons k1 ks => exact se_dic (chkD_ok R.e h1) h2 h3 h4
    · cases h
  | bin o x y =>
    simp only [chkC] at h
    split at h
    · simp only [Bool.and_eq_true, decide_eq_true_eq] at h
      obtain ⟨⟨rfl, h1⟩, h2⟩ := h
      exact se_bin (R.e _ _ h1) (R.e _ _ h2)
    · cases h
  | neg x =>
    simp only [chkC] at h
    split at h
    · exact se_neg (R.e _ _ h)
    · cases h
  | not x =>
    simp only [chkC] at h
    split at h
    · exact se_not (R.e _ _ h)
    · cases h
  | cmp o x y =>
    simp only [chkC] at h
    split at h
    · simp only [Bool.and_eq_true, decide_eq_true_eq, Bool.not_eq_true'] at h
      obtain ⟨⟨⟨rfl, h0⟩, h1⟩, h2⟩ := h
      exact se_cmp gx.un (R.e _ _ h1) (R.e _ _ h2) h0
    · cases h
  | cmp2 o1 o2 x y z =>
    simp only [chkC] at h
    split at h
    · simp only [Bool.and_eq_true, decide_eq_true_eq, Bool.not_eq_true'] at h
      obtain ⟨⟨⟨⟨⟨rfl, rfl⟩, h0⟩, h1⟩, h2⟩, h3⟩ := h
      exact se_cmp2 gx.un (R.e _ _ h1) (R.e _ _ h2) (R.e _ _ h3) h0
    · cases h
  | and x y =>
    simp only [chkC] at h
    split at h
    · simp only [Bool.and_eq_true] at h
      exact se_and (R.e _ _ h.1) (R.e _ _ h.2)
    · cases h
  | or x y =>
    simp only [chkC] at h
    split at h
    · simp only [Bool.and_eq_true] at h
      exact se_or (R.e _ _ h.1) (R.e _ _ h.2)
    · cases h
  | ite c x y =>
    simp only [chkC] at h
    split at h
    · simp only [Bool.and_eq_true] at h
      exact se_ite (R.t _ _ h.1.1) (R.e _ _ h.1.2) (R.e _ _ h.2)
    · cases h
  | idx x y =>
    simp only [chkC] at h
    split at h
    · simp only [Bool.and_eq_true] at h
      exact se_idx gx.un (R.e _ _ h.1.1) (R.e _ _ h.1.2) (plain_ok h.2)
    · cases h
  | slc x l hh =>
    simp only [chkC] at h
    split at h
    · simp only [Bool.and_eq_true] at h
      exact se_slc (R.e _ _ h.1.1) (chkO_ok R.e h.1.2) (chkO_ok R.e h.2)
    · cases h
  | att x f =>
    simp only [chkC] at h
    split at h
    · simp only [Bool.and_eq_true, decide_eq_true_eq] at h
      obtain ⟨⟨rfl, h1⟩, h2⟩ := h
      exact se_att gx.na (R.e _ _ h2) (ab_nsup h1)
    · cases h
  | call f cs =>
    simp only [chkC] at h
    split at h
    · simp only [Bool.and_eq_true, decide_eq_true_eq] at h
      obtain ⟨⟨⟨⟨rfl, h1⟩, h2⟩, h3⟩, h4⟩ := h
      obtain ⟨a1, a2, a3⟩ := chkA_ok R.e h4
      split at h3
      · rename_i fd hf
        exact se_call gx hf h3 (gl_ok a h1) (okN_ok h2).1 a1 a3 a2
      · cases h3
    · cases h
  | make c cs =>
    simp only [chkC] at h
    split at h
    · simp only [Bool.and_eq_true, decide_eq_true_eq] at h
      obtain ⟨⟨⟨⟨rfl, h1⟩, h2⟩, h3⟩, h4⟩ := h
      obtain ⟨a1, a2, a3⟩ := chkA_ok R.e h4
      obtain ⟨f, hf⟩ := Option.isSome_iff_exists.mp h3
      exact se_make gx hf (gl_ok a h1) (okN_ok h2).1 a1 a3 a2
    · cases h
  | blt f cs =>
    simp only [chkC] at h
    split at h
    · simp only [Bool.and_eq_true, decide_eq_true_eq] at h
      obtain ⟨⟨⟨rfl, h1⟩, h2⟩, h4⟩ := h
      obtain ⟨a1, a2, a3⟩ := chkA_ok R.e h4
      exact se_blt gx h2 (gl_ok a h1) a1 a2
    · cases h
  | isi x T =>
    simp only [chkC] at h
    split at h
    · simp only [Bool.and_eq_true, decide_eq_true_eq] at h
      obtain ⟨⟨⟨⟨⟨⟨rfl, rfl⟩, h1⟩, h2⟩, h3⟩, h4⟩, h5⟩ := h
      exact se_isi gx h3 (R.e _ _ h5) h4 (gl_ok a h1) (gl_ok a h2)
    · cases h
  | met o m cs =>
    simp only [chkC] at h
    split at h
    · simp only [Bool.and_eq_true, decide_eq_true_eq] at h
      obtain ⟨⟨⟨⟨⟨rfl, h1⟩, h2⟩, h3⟩, h4⟩, h5⟩ := h
      obtain ⟨a1, a2, a3⟩ := chkA_ok R.e h5
      exact se_met gx (R.e _ _ h4) a1 a3 a2 h3 h1 h2
    · cases h
  | comp tg ci c e' =>
    simp only [chkC] at h
    split at h
    · rename_i elt tgE iter ifs scope pos
      simp only [Bool.and_eq_true] at h
      obtain ⟨⟨⟨⟨⟨h1, h2⟩, h3⟩, h4⟩, h5⟩, h6⟩ := h
      rw [← a.n, ← a.sc] at h2
      refine se_comp gx (chkI_ok gx a R.e h1) (own_snd _) h2 (fun s H C l fp => chkG_ok (gx.blk scope s H C l fp) (a.blk scope s H C l fp) h3) (fun s H C l fp => ?_) (fun s H C l fp => R.b _ _ (a.blk scope s H C l fp) (gx.blk scope s H C l fp) _ _ h5) (fold_ok h6)
      cases ifs with
      | nil =>
        unfold chkIf at h4
        split at h4
        · exact .none
        · rename_i z; cases z
        · cases h4
      | cons e1 es =>
        cases es with
        | nil => exact .one (R.bt _ _ (a.blk scope s H C l fp) (gx.blk scope s H C l fp) _ _ h4)
        | cons _ _ =>
          unfold chkIf at h4
          split at h4
          · rename_i z; cases z
          · rename_i z; cases z
          · cases h4
    · cases h
  | _ => cases h
def isBoolOp : PySem.Expr → Bool
  | .BoolOp _ _ _ => true
  | _ => false
theorem chk_all (n : Nat) : ∀ {X : Cx}, GX g cl X → ∀ {k : KX}, AtK k X → ∀ e c, (chk g n false k e c = true → SE g cl X c e) ∧ (chk g n true k e c = true → STt g cl X c e ∧ (isBoolOp e = true → SW g cl X c e)) := by
  induction n with
  | zero =>
    intro X gx k a e c
    refine ⟨fun h => ?_, fun h => ?_⟩
    · unfold chk at h; cases h
    · unfold chk at h; cases h
  | succ n ih =>
    intro X gx k a e c
    have R : RecOk g cl k (chk g n false k) (chk g n true k) (fun k' => chk g n false k') (fun k' => chk g n true k') X :=
      ⟨fun e c => (ih gx a e c).1, fun e c h => ((ih gx a e c).2 h).1, fun k' Y ha hg e c => (ih hg ha e c).1, fun k' Y ha hg e c h => ((ih hg ha e c).2 h).1⟩
    refine ⟨fun h => ?_, fun h => ?_⟩
    · unfold chk at h
      split at h
      · exact se_one ((ih gx a _ _).1 h)
      · exact chkC_ok gx a R h
    · unfold chk at h
      split at h
      · rename_i op b p
        have h1 := ((ih gx a _ _).2 h).1
        cases op with
        | And => exact ⟨st_sw (sw_and1 h1), fun _ => sw_and1 h1⟩
        | Or => exact ⟨st_sw (sw_or1 h1), fun _ => sw_or1 h1⟩
      · split at h
        · rw [Bool.and_eq_true] at h
          have h1 := ((ih gx a _ _).2 h.1).1
          have h2 := ((ih gx a _ _).2 h.2).2 rfl
          exact ⟨st_sw (sw_and h1 h2), fun _ => sw_and h1 h2⟩
        · cases h
      · split at h
        · rw [Bool.and_eq_true] at h
          have h1 := ((ih gx a _ _).2 h.1).1
          have h2 := ((ih gx a _ _).2 h.2).2 rfl
          exact ⟨st_sw (sw_or h1 h2), fun _ => sw_or h1 h2⟩
        · cases h
      · split at h
        · exact ⟨st_not ((ih gx a _ _).2 h).1, fun z => by cases z⟩
        · cases h
      · split at h
        · simp only [Bool.and_eq_true, decide_eq_true_eq, Bool.not_eq_true'] at h
          obtain ⟨⟨⟨rfl, h0⟩, h1⟩, h2⟩ := h
          exact ⟨st_cmp gx.un (R.e _ _ h1) (R.e _ _ h2) h0, fun z => by cases z⟩
        · cases h
      · split at h
        · simp only [Bool.and_eq_true, decide_eq_true_eq, Bool.not_eq_true'] at h
          obtain ⟨⟨⟨⟨⟨rfl, rfl⟩, h0⟩, h1⟩, h2⟩, h3⟩ := h
          exact ⟨st_cmp2 gx.un (R.e _ _ h1) (R.e _ _ h2) (R.e _ _ h3) h0, fun z => by cases z⟩
        · cases h
      · rw [Bool.and_eq_true] at h
        have h1 := h.1
        refine ⟨st_val (R.e _ _ h.2) fun whole => ?_, fun z => ?_⟩
        · cases e <;> first | rfl | cases h1
        · cases e <;> first | (cases h1; done) | (cases z; done)
theorem chk_e (gx : GX g cl X) {k : KX} (a : AtK k X) {n : Nat} {e : PySem.Expr} {c : CE} (h : chk g n false k e c = true) : SE g cl X c e := (chk_all n gx a e c).1 h
theorem chk_t (gx : GX g cl X) {k : KX} (a : AtK k X) {n : Nat} {e : PySem.Expr} {c : CE} (h : chk g n true k e c = true) : STt g cl X c e := ((chk_all n gx a e c).2 h).1
theorem chk_b (gx : GX g cl X) {k : KX} (a : AtK k X) {n : Nat} (scope : Scope) (s : Shared) (H : Hp) (C : Addr) (l : List (Str × Addr)) (fp : List Addr) {e : PySem.Expr} {c : CE} (h : chk g n false (k.blk scope) e c = true) : SE g cl (Bk X scope s H C l fp) c e := chk_e (gx.blk scope s H C l fp) (a.blk scope s H C l fp) h
end
end Sb
end
section
set_option Elab.async false
set_option linter.all false
set_option maxRecDepth 100000
set_option maxHeartbeats 4000000
namespace Sb
open PySem PySem.Spec PyProof.Rows L2
def isCompE : PySem.Expr → Bool
  | .ListComp _ _ _ _ | .SetComp _ _ _ _ | .DictComp _ _ _ _ _ => true
  | _ => false
def isTupE : PySem.Expr → Bool
  | .Tuple _ _ _ => true
  | _ => false
theorem sw_no {e : PySem.Expr} {t : Option PySem.Expr} {l : Nat} {env : PySem.Env} (h : isCompE e = false) : swapsWith e t l env = pure false := by
  cases e <;> first | rfl | cases h
theorem sw_sub {e a b : PySem.Expr} {p : Pos} {l : Nat} {env : PySem.Env} : swapsWith e (some (.Subscript a b p)) l env = pure false := by
  cases e <;> rfl
theorem sw_attr {e a : PySem.Expr} {f : Str} {p : Pos} {l : Nat} {env : PySem.Env} : swapsWith e (some (.Attribute a f p)) l env = pure false := by
  cases e <;> rfl
theorem ss_name {e : PySem.Expr} {x : Str} {p : Pos} {env : PySem.Env} : swappedStores [.Name x p] e env = pure none := by
  cases e <;> rfl
theorem ss_subs {e a b : PySem.Expr} {p : Pos} {env : PySem.Env} : swappedStores [.Subscript a b p] e env = pure none := by
  cases e <;> rfl
theorem ss_tups {e : PySem.Expr} {es : List PySem.Expr} {k : Nat} {p : Pos} {env : PySem.Env} (h : isTupE e = false) : swappedStores [.Tuple es k p] e env = pure none := by
  cases e <;> first | rfl | cases h
theorem sw_cell {e : PySem.Expr} {x : Str} {p : Pos} {l : Nat} {env : PySem.Env} (h : env.scope.names.lookup x = some .cell) : swapsWith e (some (.Name x p)) l env = pure false := by
  have hk : env.kindOf x = some .cell := h
  have hz : (some NameKind.cell == some NameKind.local) = false := by decide
  cases e <;> first | rfl | (simp only [swapsWith, hk, hz, Bool.and_false, Bool.false_and])
def noSl : PySem.Expr → Bool
  | .Slice _ _ _ _ => false
  | _ => true
section
variable (g : G) (n : Nat) (k : KX)
def chkLc (i : Nat) (y : Str) (py : Pos) : PySem.Expr → CE → Bool
  | .ListComp elt [⟨tgE, iter, ifs, 0⟩] scope pos, .comp tg ci c e' => decide (k.N[i]? = some y) && k.sc.names.lookup y == some .local && k.sc.kind == .function && py.line == pos.line && !(scope.names.any fun x => match x with | (n, k) => n == y && (k == NameKind.local || k == NameKind.cell)) &&
      chkI k (chk g n false k) iter ci && blkC k.N k.sc scope (ownOf k tg.slots) && chkG (k.blk scope) tgE tg && chkIf (chk g n true (k.blk scope)) ifs c && chk g n false (k.blk scope) elt e' && notSetE iter
  | _, _ => false
def chkAs (tgE pe : PySem.Expr) (e : CE) : Tt → Bool
  | .loc i => match tgE with
    | .Name y py => if isCompE pe = true then (if k.sc.names.lookup y == some .cell then chkG k tgE (.loc i) && chk g n false k pe e else chkLc g n k i y py pe e) else chkG k tgE (.loc i) && chk g n false k pe e
    | _ => false
  | .tup is => match tgE with
    | .Tuple _ _ _ => !isCompE pe && !isTupE pe && chkG k tgE (.tup is) && chk g n false k pe e
    | _ => false
  | .att o f => match tgE with
    | .Attribute eo f' _ => decide (f' = Str.ofString f) && chk g n false k eo o && chk g n false k pe e
    | _ => false
  | .idx o i => match tgE with
    | .Subscript eo ei _ => noSl ei && chk g n false k eo o && chk g n false k ei i && chk g n false k pe e
    | _ => false
def chkS (r : List Stmt → CSs → Bool) (st : Stmt) : CS → Bool
  | .pas => match st with
    | .Pass _ => true
    | .Expr (.Constant (.str _) _ _) _ => true
    | _ => false
  | .brk => match st with
    | .Break _ => true
    | _ => false
  | .cnt => match st with
    | .Continue _ => true
    | _ => false
  | .asg tt e => match st with
    | .Assign [tgE] pe _ => chkAs g n k tgE pe e tt
    | _ => false
  | .aug i op e => match st with
    | .AugAssign (.Name x _) op' pe _ => decide (op' = bOp op) && decide (k.N[i]? = some x) && k.loc x && chk g n false k pe e
    | _ => false
  | .augA o f op e => match st with
    | .AugAssign (.Attribute eo f' _) op' pe _ => decide (op' = bOp op) && decide (f' = Str.ofString f) && chk g n false k eo o && chk g n false k pe e
    | _ => false
  | .exp e => match st with
    | .Expr pe _ => !isCompE pe && chk g n false k pe e
    | _ => false
  | .ret e => match st with
    | .Return (some pe) _ => chk g n false k pe e
    | .Return none _ => (match e with | .cst .non => true | _ => false)
    | _ => false
  | .iff c a b => match st with
    | .If ec sa sb _ => chk g n true k ec c && r sa a && r sb b
    | _ => false
  | .for tg ci body => match st with
    | .For tgE iter sb [] _ => chkI k (chk g n false k) iter ci && chkG k tgE tg && r sb body && notSetE iter
    | _ => false
  | .whl c body => match st with
    | .While ec sb [] _ => chk g n true k ec c && r sb body
    | _ => false
  | .del o i => match st with
    | .Delete [.Subscript eo ei _] _ => chk g n false k eo o && chk g n false k ei i
    | _ => false
  | _ => false
def chkSs : Nat → List Stmt → CSs → Bool
  | 0, _, _ => false
  | _ + 1, [], .nil => true
  | m + 1, s :: ss, .cons c cs => chkS g n k (chkSs m) s c && chkSs m ss cs
  | _ + 1, _, _ => false
end
section
variable {g : G} {cl : Cls} {X : Cx} {n : Nat} {k : KX}
theorem chkLc_ok (gx : GX g cl X) (a : AtK k X) {i : Nat} {y : Str} {py pos : Pos} {pe : PySem.Expr} {e : CE} (h : chkLc g n k i y py pe e = true) : SS g cl X (.asg (.loc i) e) (.Assign [.Name y py] pe pos) := by
  unfold chkLc at h
  split at h
  · rename_i elt tgE iter ifs scope p2 tg ci c e'
    simp only [Bool.and_eq_true, decide_eq_true_eq, Bool.not_eq_true', beq_iff_eq] at h
    obtain ⟨⟨⟨⟨⟨⟨⟨⟨⟨⟨h1, h2⟩, h3⟩, h4⟩, h5⟩, h6⟩, h7⟩, h8⟩, h9⟩, h10⟩, h11⟩ := h
    rw [← a.n, ← a.sc] at h7
    have hl : X.env.scope.names.lookup y = some .local := by rw [a.sc]; exact h2
    refine ss_asgLc gx (by rw [a.n]; exact h1) hl (sw_true (by rw [a.sc]; exact h3) hl (by rw [h4]; simp) h5) (chkI_ok gx a (fun e c => chk_e gx a) h6) (own_snd _) h7 (fun s H C l fp => chkG_ok (gx.blk scope s H C l fp) (a.blk scope s H C l fp) h8) (fun s H C l fp => ?_) (fun s H C l fp => chk_b gx a scope s H C l fp h10) (fold_ok h11)
    cases ifs with
    | nil =>
      unfold chkIf at h9
      split at h9
      · exact .none
      · rename_i z; cases z
      · cases h9
    | cons e1 es =>
      cases es with
      | nil => exact .one (chk_t (gx.blk scope s H C l fp) (a.blk scope s H C l fp) h9)
      | cons _ _ =>
        unfold chkIf at h9
        split at h9
        · rename_i z; cases z
        · rename_i z; cases z
        · cases h9
  · cases h
theorem chkAs_ok (gx : GX g cl X) (a : AtK k X) {tgE pe : PySem.Expr} {e : CE} {tt : Tt} {pos : Pos} (h : chkAs g n k tgE pe e tt = true) : SS g cl X (.asg tt e) (.Assign [tgE] pe pos) := by
  cases tt with
  | loc i =>
    simp only [chkAs] at h
    split at h
    · rename_i y py
      split at h
      · split at h
        · rename_i hc
          rw [Bool.and_eq_true] at h
          refine ss_asg (tg := .loc i) rfl (chkG_ok gx a h.1) (chk_e gx a h.2) ?_ ss_name rfl
          show swapsWith pe (some (.Name y py)) pos.line X.env = pure false
          exact sw_cell (by rw [a.sc]; exact eq_of_beq hc)
        · exact chkLc_ok gx a h
      · rename_i hc
        rw [Bool.and_eq_true] at h
        refine ss_asg (tg := .loc i) rfl (chkG_ok gx a h.1) (chk_e gx a h.2) ?_ ss_name rfl
        show swapsWith pe (some (.Name y py)) pos.line X.env = pure false
        exact sw_no (by simpa using hc)
    · cases h
  | tup is =>
    simp only [chkAs] at h
    split at h
    · rename_i es kk pp
      simp only [Bool.and_eq_true, Bool.not_eq_true'] at h
      obtain ⟨⟨⟨h1, h2⟩, h3⟩, h4⟩ := h
      refine ss_asg (tg := .tup is) rfl (chkG_ok gx a h3) (chk_e gx a h4) ?_ (ss_tups h2) rfl
      show swapsWith pe (some (.Tuple es kk pp)) pos.line X.env = pure false
      exact sw_no h1
    · cases h
  | att o f =>
    simp only [chkAs] at h
    split at h
    · simp only [Bool.and_eq_true, decide_eq_true_eq] at h
      obtain ⟨⟨rfl, h2⟩, h3⟩ := h
      exact ss_att gx.na (chk_e gx a h2) (chk_e gx a h3) sw_attr
    · cases h
  | idx o i =>
    simp only [chkAs] at h
    split at h
    · rename_i eo ei p
      simp only [Bool.and_eq_true] at h
      obtain ⟨⟨⟨h1, h2⟩, h3⟩, h4⟩ := h
      refine ss_idx gx (chk_e gx a h2) (chk_e gx a h3) (chk_e gx a h4) (fun v => ?_) ?_ ss_subs
      · cases ei <;> first | rfl | cases h1
      · show swapsWith pe (some (.Subscript eo ei p)) pos.line X.env = pure false
        exact sw_sub
    · cases h
theorem chkS_ok (gx : GX g cl X) (po : PO X) (a : AtK k X) {r : List Stmt → CSs → Bool} (hr : ∀ ss cs, r ss cs = true → SSs g cl X cs ss) {st : Stmt} {c : CS} (h : chkS g n k r st c = true) : SS g cl X c st := by
  cases c with
  | pas =>
    simp only [chkS] at h
    split at h
    · exact ss_pas
    · exact ss_doc
    · cases h
  | brk =>
    simp only [chkS] at h
    split at h
    · exact ss_brk
    · cases h
  | cnt =>
    simp only [chkS] at h
    split at h
    · exact ss_cnt
    · cases h
  | asg tt e =>
    simp only [chkS] at h
    split at h
    · exact chkAs_ok gx a h
    · cases h
  | aug i op e =>
    simp only [chkS] at h
    split at h
    · simp only [Bool.and_eq_true, decide_eq_true_eq] at h
      obtain ⟨⟨⟨rfl, h1⟩, h2⟩, h3⟩ := h
      exact ss_aug gx (by rw [a.n]; exact h1) (loc_ok a h2).1 (loc_ok a h2).2 (chk_e gx a h3)
    · cases h
  | augA o f op e =>
    simp only [chkS] at h
    split at h
    · simp only [Bool.and_eq_true, decide_eq_true_eq] at h
      obtain ⟨⟨⟨rfl, rfl⟩, h2⟩, h3⟩ := h
      exact ss_augA gx.na (chk_e gx a h2) (chk_e gx a h3)
    · cases h
  | exp e =>
    simp only [chkS] at h
    split at h
    · simp only [Bool.and_eq_true, Bool.not_eq_true'] at h
      exact ss_exp (chk_e gx a h.2) (sw_no h.1)
    · cases h
  | ret e =>
    simp only [chkS] at h
    split at h
    · exact ss_ret (chk_e gx a h)
    · split at h
      · exact ss_ret0
      · cases h
    · cases h
  | iff c x y =>
    simp only [chkS] at h
    split at h
    · simp only [Bool.and_eq_true] at h
      exact ss_iff (chk_t gx a h.1.1) (hr _ _ h.1.2) (hr _ _ h.2)
    · cases h
  | «for» tg ci body =>
    simp only [chkS] at h
    split at h
    · simp only [Bool.and_eq_true] at h
      exact ss_for gx po (chkI_ok gx a (fun e c => chk_e gx a) h.1.1.1) (chkG_ok gx a h.1.1.2) (hr _ _ h.1.2) (fold_ok h.2)
    · cases h
  | whl c body =>
    simp only [chkS] at h
    split at h
    · simp only [Bool.and_eq_true] at h
      exact ss_whl po (chk_t gx a h.1) (hr _ _ h.2)
    · cases h
  | del o i =>
    simp only [chkS] at h
    split at h
    · simp only [Bool.and_eq_true] at h
      exact ss_del gx (chk_e gx a h.1) (chk_e gx a h.2)
    · cases h
  | _ => cases h
theorem chkSs_ok (gx : GX g cl X) (po : PO X) (a : AtK k X) : ∀ (m : Nat) {ss : List Stmt} {cs : CSs}, chkSs g n k m ss cs = true → SSs g cl X cs ss := by
  intro m
  induction m with
  | zero => intro ss cs h; cases h
  | succ m ih =>
    intro ss cs h
    cases ss with
    | nil =>
      cases cs with
      | nil => exact ss_nil
      | cons _ _ => cases h
    | cons s ss =>
      cases cs with
      | nil => cases h
      | cons c cs =>
        have h' : (chkS g n k (chkSs g n k m) s c && chkSs g n k m ss cs) = true := h
        rw [Bool.and_eq_true] at h'
        exact ss_cons (chkS_ok gx po a (fun ss cs h => ih h) h'.1) (ih h'.2)
end
end Sb
end
section
set_option Elab.async false
set_option linter.all false
set_option maxRecDepth 100000
set_option maxHeartbeats 4000000
namespace Sb
open PySem PySem.Spec PyProof.Rows L2
structure DefAt (g : G) (K : Frag) (fd : Fn) (fa : Addr) : Prop where
  ex : ∃ x qual params body scope dvs0 kws fdd N ps, FunD K x qual params body scope dvs0 kws fa fdd ∧ FnScope N ps scope ∧ ps.length = fd.pn ∧ N.length = fd.n ∧ (∃ n m, chkSs g n ⟨N, scope, fun _ => true⟩ m body fd.body = true) ∧ ∀ j, j ≤ fd.dfl.length → ∃ ds dvs, L2.Binds K fdd ps ds ∧ Vals dvs ds ∧ ∀ α H, RVs K α H (fd.dfl.drop j) dvs
structure PGd (g : G) (K : Frag) (mg : Str → Option Value) : Prop where
  na : NaOk g K
  nob : ∀ b ∈ bnames, mg (Str.ofString b) = none
  glb : ∀ x d, g.glb x = some d → ∃ u v, mg (Str.ofString x) = some u ∧ L2.RelV v u ∧ ∀ α H, RV K α H d v
  has : ∀ c m f, methOf g c m = some f → ∃ fd, g.fn f = some fd
  fn : ∀ f fd, g.fn f = some fd → ∃ fa, DefAt g K fd fa ∧ (fd.glo = true → mg (Str.ofString f) = some (.ref fa)) ∧
    ∀ c m, methOf g c m = some f → L2.Cls K (cad K c) ∧ Meth K (cad K c) (Str.ofString m) fa ∧ (m = "__init__" → Mk K (cad K c) fa ∧ mg (Str.ofString c) = some (.ref (cad K c)))
section
variable {g : G}
theorem evCall_ar {n : Nat} {f : String} {fd : Fn} (hf : g.fn f = some fd) {ds : List Sb.D} {M : List Ob} (h : evCall g n f ds M ≠ .no) : ds.length ≤ fd.pn ∧ fd.pn ≤ ds.length + fd.dfl.length := by
  cases n with
  | zero => exact absurd rfl h
  | succ n =>
    unfold evCall at h
    rw [hf] at h
    dsimp only at h
    unfold runFn at h
    rw [CM.bind_run] at h
    unfold CM.ask at h
    by_cases e : decide (ds.length ≤ fd.pn ∧ fd.pn ≤ ds.length + fd.dfl.length ∧ fd.pn ≤ fd.n) = true
    · have := of_decide_eq_true e; exact ⟨this.1, this.2.1⟩
    · rw [if_neg e] at h; exact absurd rfl h
theorem evCall_pad {n : Nat} {f : String} {fd : Fn} (hf : g.fn f = some fd) {ds : List Sb.D} (h1 : ds.length ≤ fd.pn) (h2 : fd.pn ≤ ds.length + fd.dfl.length) : evCall g n f ds = evCall g n f (ds ++ fd.dfl.drop (ds.length + fd.dfl.length - fd.pn)) := by
  cases n with
  | zero => rfl
  | succ n =>
    unfold evCall
    rw [hf]
    dsimp only
    unfold runFn
    have hl : (ds ++ fd.dfl.drop (ds.length + fd.dfl.length - fd.pn)).length = fd.pn := by
      rw [List.length_append, List.length_drop]; omega
    rw [hl]
    have e1 : decide (fd.pn ≤ fd.pn ∧ fd.pn ≤ fd.pn + fd.dfl.length ∧ fd.pn ≤ fd.n) = decide (ds.length ≤ fd.pn ∧ fd.pn ≤ ds.length + fd.dfl.length ∧ fd.pn ≤ fd.n) := by
      apply decide_eq_decide.mpr
      constructor
      · rintro ⟨_, _, h⟩; exact ⟨h1, h2, h⟩
      · rintro ⟨_, _, h⟩; exact ⟨Nat.le_refl _, Nat.le_add_right _ _, h⟩
    rw [e1]
    have e2 : fd.pn + fd.dfl.length - fd.pn = fd.dfl.length := by omega
    rw [e2, List.drop_length, List.append_nil]
theorem start_rel {K : Frag} {α : List Addr} {H : Hp} {ds : List Sb.D} {vs : List V} (r : RVs K α H ds vs) {N : List Str} {n pn : Nat} (hN : N.length = n) (hp : ds.length = pn) : RL K α H (ds.map some ++ List.replicate (n - pn) none) (L2.start N vs) := by
  subst hN hp
  unfold L2.start
  refine ⟨by simp [r.length], fun i d e => ?_⟩
  by_cases hi : i < ds.length
  · rw [List.getElem?_append_left (by simpa using hi), List.getElem?_map] at e
    cases q : ds[i]? with
    | none => rw [q] at e; cases e
    | some d' =>
      rw [q] at e
      cases e
      obtain ⟨v, e1, rv⟩ := r.get q
      refine ⟨v, ?_, rv⟩
      rw [List.getElem?_append_left (by simp [← r.length]; exact hi), List.getElem?_map, e1]
      rfl
  · rw [List.getElem?_append_right (by simpa using hi), List.getElem?_replicate] at e
    split at e <;> cases e
def Ih (P : Program) (w : World) (K : Frag) (mg : Str → Option Value) (base : Heap) (g : G) (n : Nat) : Prop := ∀ f fd fa, g.fn f = some fd → DefAt g K fd fa → ∃ fdd ps, FnOk P w K mg base (L2.CX P w) (2 * n + 1) fa fdd ps (spF ⟨P, w, K⟩ (evCall g n) f fd.pn) ∧ ps.length = fd.pn ∧ PySem.W.keepIn K (.ref fa) = true ∧
    ∀ j, j ≤ fd.dfl.length → ∃ ds dvs, L2.Binds K fdd ps ds ∧ Vals dvs ds ∧ ∀ α H, RVs K α H (fd.dfl.drop j) dvs
theorem fnOk_zero {P : Program} {w : World} {K : Frag} {mg : Str → Option Value} {base : Heap} {f : String} {fd : Fn} {fa : Addr} {fdd : FuncData} {ps : List Str} : FnOk P w K mg base (L2.CX P w) (2 * 0 + 1) fa fdd ps (spF ⟨P, w, K⟩ (evCall g 0) f fd.pn) := by
  refine ⟨fun vs H Q E h => ?_, fun A outer s H args us vs Q E _ _ _ _ h => ?_⟩
  · obtain ⟨α, M, ds, _, _, _, h⟩ := h; exact h.elim
  · obtain ⟨α, M, ds, _, _, _, h⟩ := h; exact h.elim
theorem fnOk_step {P : Program} {w : World} {K : Frag} {mg : Str → Option Value} {base : Heap} (pg : PGd g K mg) {n : Nat} (ih : Ih P w K mg base g n) {f : String} {fd : Fn} {fa : Addr} {x qual : Str} {params : Arguments} {body : List Stmt} {scope : Scope} {dvs0 : List V} {kws : List (Str × V)} {fdd : FuncData} {N ps : List Str} (hf : g.fn f = some fd) (F : FunD K x qual params body scope dvs0 kws fa fdd) (S : FnScope N ps scope) (h1 : ps.length = fd.pn) (h2 : N.length = fd.n) (hk : ∃ n m, chkSs g n ⟨N, scope, fun _ => true⟩ m body fd.body = true) :
    FnOk P w K mg base (L2.CX P w) (2 * (n + 1) + 1) fa fdd ps (spF ⟨P, w, K⟩ (evCall g (n + 1)) f fd.pn) := by
  obtain ⟨cn, cm, h3⟩ := hk
  refine F.ok (k := 2 * n + 2) S (fun vs H Q E h => ?_) (fun cdv A outer s H vs Q E hr h => ?_)
  · obtain ⟨α, M, ds, _, r, hl, _⟩ := h
    rw [← r.length, hl, h1]
  · have gx : GX g (evCall g n) (cxOf (L2.CX P w) P w K mg base N qual scope fa cdv A outer s H E) := by
      refine ⟨rfl, S.nd, ?_, pg.na, pg.nob, pg.glb, fun f' fd' hf' => ?_, pg.has⟩
      · have := hr.un
        show (A.deeper (envOfC qual scope s.heap.objs.size fa cdv)).units + 65 < cLine
        omega
      · obtain ⟨fa', da, g1, g2⟩ := pg.fn f' fd' hf'
        obtain ⟨fdd', ps', i1, i2, i3, i4⟩ := ih f' fd' fa' hf' da
        exact ⟨fa', ⟨⟨2 * n + 1, fdd', ps', i1, hr, i2, i4⟩, i3, fun ds M h => evCall_ar hf' h, fun ds a b => evCall_pad hf' a b⟩, g1, g2⟩
    refine ⟨_, chkSs_ok gx PassesOwn.leaving ⟨rfl, rfl, rfl⟩ cm h3 E (takes_of rfl rfl rfl rfl), ?_⟩
    obtain ⟨α, M, ds, rh, r, hl, h⟩ := h
    refine ⟨α, ds.map some ++ List.replicate (fd.n - fd.pn) none, M, start_rel r h2 hl, rh, ?_⟩
    have h' : Ho ⟨P, w, K⟩ E (RV K) (runFn g (evCall g n) fd ds M) α H Q := by
      have e : evCall g (n + 1) f ds = runFn g (evCall g n) fd ds := by
        show (match g.fn f with | some fd => runFn g (evCall g n) fd ds | none => CM.fail) = _
        rw [hf]
      rw [← e]; exact h
    unfold runFn at h'
    obtain ⟨hk, h'⟩ := ask_runD h'
    have e3 : ds ++ fd.dfl.drop (ds.length + fd.dfl.length - fd.pn) = ds := by
      rw [hl, Nat.add_sub_cancel_left, List.drop_length, List.append_nil]
    rw [e3] at h'
    refine (Ho.bind h').mono fun fv H1 z => ?_
    obtain ⟨fl, M1, α1, nx, rh1, rr, hh⟩ := z
    cases rr with
    | nx _ => exact Ho.ok (R := RV K) hh .refl rh1 .non
    | rt rv => exact Ho.ok (R := RV K) hh .refl rh1 rv
    | bk _ => exact hh.elim
    | ct _ => exact hh.elim
theorem fnOk_all {P : Program} {w : World} {K : Frag} {mg : Str → Option Value} {base : Heap} (pg : PGd g K mg) : ∀ n, Ih P w K mg base g n := by
  intro n
  induction n with
  | zero =>
    intro f fd fa hf ⟨x, qual, params, body, scope, dvs0, kws, fdd, N, ps, F, S, h1, h2, h3, h4⟩
    exact ⟨fdd, ps, fnOk_zero, h1, F.kp, h4⟩
  | succ n ih =>
    intro f fd fa hf ⟨x, qual, params, body, scope, dvs0, kws, fdd, N, ps, F, S, h1, h2, h3, h4⟩
    exact ⟨fdd, ps, fnOk_step pg ih hf F S h1 h2 h3, h1, F.kp, h4⟩
theorem fnOk_at {P : Program} {w : World} {K : Frag} {mg : Str → Option Value} {base : Heap} (pg : PGd g K mg) (n : Nat) {f : String} {fd : Fn} {fa : Addr} {x qual : Str} {params : Arguments} {body : List Stmt} {scope : Scope} {dvs0 : List V} {kws : List (Str × V)} {fdd : FuncData} {N ps : List Str} (hf : g.fn f = some fd) (F : FunD K x qual params body scope dvs0 kws fa fdd) (S : FnScope N ps scope) (h1 : ps.length = fd.pn) (h2 : N.length = fd.n) (hk : ∃ n m, chkSs g n ⟨N, scope, fun _ => true⟩ m body fd.body = true) :
    FnOk P w K mg base (L2.CX P w) (2 * n + 1) fa fdd ps (spF ⟨P, w, K⟩ (evCall g n) f fd.pn) := by
  cases n with
  | zero => exact fnOk_zero
  | succ n => exact fnOk_step pg (fnOk_all pg n) hf F S h1 h2 hk
end
end Sb
end
section
set_option Elab.async false
set_option linter.all false
set_option maxRecDepth 100000
set_option maxHeartbeats 4000000
namespace Sb
open PySem PySem.Spec PyProof.Rows L2
def AllL {A B : Type} (P : A → B → Prop) : List (A × B) → Prop
  | [] => True
  | (a, b) :: r => P a b ∧ AllL P r
def AllS {A : Type} (P : A → Prop) : List A → Prop
  | [] => True
  | a :: r => P a ∧ AllS P r
theorem lookup_all {B : Type} {P : String → B → Prop} : ∀ {l : List (String × B)}, AllL P l → ∀ {a : String} {b : B}, l.lookup a = some b → P a b
  | [], _, _, _, h => by cases h
  | (x, y) :: r, ⟨h1, h2⟩, a, b, h => by
    rw [List.lookup_cons] at h
    by_cases e : a = x
    · subst e
      have : (a == a) = true := by simp
      rw [this] at h
      cases h
      exact h1
    · have : (a == x) = false := by simp [e]
      rw [this] at h
      exact lookup_all h2 h
theorem mem_all {A : Type} {P : A → Prop} : ∀ {l : List A}, AllS P l → ∀ {a : A}, a ∈ l → P a
  | [], _, _, h => by cases h
  | x :: r, ⟨h1, h2⟩, a, h => by
    rcases List.mem_cons.mp h with rfl | h
    · exact h1
    · exact mem_all h2 h
theorem pgd_of {fnT : List (String × Fn)} {clT : List (String × Cl)} {glT : List (String × Sb.D)} {K : Frag} {mg : Str → Option Value} (at_ : String → Addr)
    (hna : AllL (fun c k => AllS (fun f => L2.Cls K (cad K c) ∧ NoAttr K (cad K c) (Str.ofString f)) k.attrs) clT)
    (hnob : AllS (fun b => mg (Str.ofString b) = none) bnames)
    (hgl : AllL (fun x d => ∃ u v, mg (Str.ofString x) = some u ∧ L2.RelV v u ∧ ∀ α H, RV K α H d v) glT)
    (hfn : AllL (fun f fd => DefAt ⟨fun f => fnT.lookup f, fun c => clT.lookup c, fun x => glT.lookup x⟩ K fd (at_ f) ∧ (fd.glo = true → mg (Str.ofString f) = some (.ref (at_ f)))) fnT)
    (hcl : AllL (fun c k => AllL (fun m f => (fnT.lookup f).isSome = true ∧ L2.Cls K (cad K c) ∧ Meth K (cad K c) (Str.ofString m) (at_ f) ∧ (m = "__init__" → Mk K (cad K c) (at_ f) ∧ mg (Str.ofString c) = some (.ref (cad K c)))) k.meths) clT) :
    PGd ⟨fun f => fnT.lookup f, fun c => clT.lookup c, fun x => glT.lookup x⟩ K mg := by
  have hm : ∀ c m f, methOf ⟨fun f => fnT.lookup f, fun c => clT.lookup c, fun x => glT.lookup x⟩ c m = some f → (fnT.lookup f).isSome = true ∧ L2.Cls K (cad K c) ∧ Meth K (cad K c) (Str.ofString m) (at_ f) ∧ (m = "__init__" → Mk K (cad K c) (at_ f) ∧ mg (Str.ofString c) = some (.ref (cad K c))) := by
    intro c m f h
    unfold methOf at h
    obtain ⟨k, h1, h2⟩ := Option.bind_eq_some_iff.mp h
    exact lookup_all (lookup_all hcl h1) h2
  refine ⟨fun c f h => ?_, fun b hb => mem_all hnob hb, fun x d h => lookup_all hgl h, fun c m f h => Option.isSome_iff_exists.mp (hm c m f h).1, fun f fd h => ?_⟩
  · unfold G.na at h
    dsimp only at h
    cases e : clT.lookup c with
    | none => rw [e] at h; cases h
    | some k =>
      rw [e] at h
      have h' : k.attrs.contains f = true := h
      exact mem_all (lookup_all hna e) (by simpa using h')
  · obtain ⟨h1, h2⟩ := lookup_all hfn h
    exact ⟨at_ f, h1, h2, fun c m e => (hm c m f e).2⟩
def CXw (P : Program) : CXT := fun l H s E u s' => ∃ w, L2.CX P w l H s E u s'
theorem fnOk_w {P : Program} {w : World} {K : Frag} {mg : Str → Option Value} {base : Heap} {k : Nat} {f : Addr} {fd : FuncData} {ps : List Str} {sp : Sp} (F : FnOk P w K mg base (L2.CX P w) k f fd ps sp) : FnOk P w K mg base (CXw P) k f fd ps sp := by
  refine ⟨F.len, fun A outer s H args us vs Q E a b c d e => codeAny_mono (F.run A outer s H args us vs Q E a b c d e) fun r s' h => ?_⟩
  cases r with
  | ok fl => cases fl <;> exact h
  | error u => exact ⟨w, h⟩
theorem cxw_false {P : Program} : ∀ (H : Hp) (s : Shared) (e : Value) (s' : Shared), CXw P [] H s (fun _ _ _ => False) e s' → False := by
  rintro H s e s' ⟨w, a, B, H', cls, d, _, _, _, _, _, _, _, q⟩
  exact q
theorem ints_rel {K : Frag} {α : List Addr} {H : Hp} : ∀ ns : List Int, RVs K α H (ns.map .int) (ns.map V.int)
  | [] => .nil
  | n :: ns => .cons (.int n) (ints_rel ns)
theorem sp_law {Γ : Gd} {g : G} {n : Nat} {f : String} {H : Hp} {a : Addr} {ns : List Int} (ho : L2.Only H) (hs : SqL Γ.K H a (ns.map V.int)) (h : ∃ M', evCall g n f [.rol (ns.map .int)] [] = .ok (.bl true) M') : spF Γ (evCall g n) f 1 [.ref a] H (fun v x => v = V.bl true) fun _ _ _ => False := by
  have sq : SqF Γ.K H a (ns.map V.int) := by
    rcases hs with (e | ⟨ob, e⟩) | hk
    · rcases ho a with z | ⟨o, xs, z⟩
      · rw [z] at e; cases e
      · rw [z] at e; cases e
    · exact .inl ⟨ob, e⟩
    · exact .inr hk
  obtain ⟨M', e⟩ := h
  refine ⟨[], [], [.rol (ns.map .int)], ⟨rfl, .nil, fun i o a h => by cases h⟩, .cons (.rol sq (ints_rel ns)) .nil, rfl, ?_⟩
  rw [e]
  intro α' b H' _ _ r
  cases r
  rfl
theorem defAt_n {g : G} {K : Frag} {x qual : Str} {params : Arguments} {body : List Stmt} {scope : Scope} {kws : List (Str × V)} {fa : Addr} {fdd : FuncData} {fd : Fn} {N ps : List Str} (cn cm : Nat) (F : FunD K x qual params body scope [] kws fa fdd) (S : FnScope N ps scope) (h1 : ps.length = fd.pn) (h2 : N.length = fd.n) (h3 : chkSs g cn ⟨N, scope, fun _ => true⟩ cm body fd.body = true) (hd : fd.dfl = [])
    (hb : ∀ (kV doc pm : Value) (an : Option Addr) (cdv ct : Value) (us : List Value), us.length = ps.length → bindArgs (PySem.W.fnOf x qual params body scope Value.none kV doc pm an cdv ct) { pos := us } = pure (ps.zip us)) : DefAt g K fd fa := by
  refine ⟨x, qual, params, body, scope, [], kws, fdd, N, ps, F, S, h1, h2, ⟨cn, cm, h3⟩, fun j hj => ⟨[], [], F.bindsN hb, .nil, fun α H => ?_⟩⟩
  rw [hd, List.drop_nil]
  exact .nil
theorem defAt_d {g : G} {K : Frag} {x qual : Str} {params : Arguments} {body : List Stmt} {scope : Scope} {kws : List (Str × V)} {fa : Addr} {fdd : FuncData} {fd : Fn} {N ps : List Str} {dvs : List V} (cn cm : Nat) (F : FunD K x qual params body scope dvs kws fa fdd) (S : FnScope N ps scope) (h1 : ps.length = fd.pn) (h2 : N.length = fd.n) (h3 : chkSs g cn ⟨N, scope, fun _ => true⟩ cm body fd.body = true) (hd : ∀ α H, RVs K α H fd.dfl dvs) (hne : dvs ≠ []) (hle : fd.dfl.length ≤ fd.pn)
    (hb : ∀ j, j ≤ dvs.length → ∀ (T : Addr) (kV doc pm : Value) (an : Option Addr) (cdv ct : Value) (us its : List Value), us.length = ps.length - (dvs.length - j) → its.length = dvs.length →
      ∃ k, bindArgs (PySem.W.fnOf x qual params body scope (Value.ref T) kV doc pm an cdv ct) { pos := us } = seqItems? (Value.ref T) >>= k ∧ k (some its.toArray) = pure (ps.zip (us ++ List.drop j its))) : DefAt g K fd fa := by
  have hl : fd.dfl.length = dvs.length := (hd [] (fun _ => none)).length
  refine ⟨x, qual, params, body, scope, dvs, kws, fdd, N, ps, F, S, h1, h2, ⟨cn, cm, h3⟩, fun j hj => ?_⟩
  obtain ⟨ds, v, b⟩ := F.binds1 (ps := ps) (ps.length - (dvs.length - j)) j hne (by omega) (hb j (by omega))
  exact ⟨ds, dvs.drop j, b, v, fun α H => (hd α H).drop j⟩
end Sb
end
section
set_option autoImplicit false
set_option linter.all false
set_option maxRecDepth 100000
namespace Sb
def Wp {A : Type} (m : CM A) (M : List Ob) (Q : A → List Ob → Prop) : Prop := ∃ a M', m M = .ok a M' ∧ Q a M'
section
variable {A B : Type} {M : List Ob}
theorem Wp.mono {m : CM A} {Q Q' : A → List Ob → Prop} (h : Wp m M Q) (i : ∀ a M', Q a M' → Q' a M') : Wp m M Q' := by
  obtain ⟨a, M', e, q⟩ := h
  exact ⟨a, M', e, i _ _ q⟩
theorem Wp.bind {m : CM A} {f : A → CM B} {Q : B → List Ob → Prop} (h : Wp m M fun a M1 => Wp (f a) M1 Q) : Wp (m >>= f) M Q := by
  obtain ⟨a, M1, e, b, M2, e2, q⟩ := h
  refine ⟨b, M2, ?_, q⟩
  show CM.bind m f M = _
  unfold CM.bind
  rw [e]
  exact e2
theorem Wp.pure {a : A} {Q : A → List Ob → Prop} (h : Q a M) : Wp (Pure.pure a) M Q := ⟨a, M, rfl, h⟩
theorem Wp.ask {p : Prop} [Decidable p] {Q : Unit → List Ob → Prop} (hp : p) (h : Q () M) : Wp (CM.ask (decide p)) M Q := ⟨(), M, by unfold CM.ask; rw [if_pos (decide_eq_true hp)], h⟩
theorem Wp.askB {p : Bool} {Q : Unit → List Ob → Prop} (hp : p = true) (h : Q () M) : Wp (CM.ask p) M Q := ⟨(), M, by unfold CM.ask; rw [if_pos hp], h⟩
theorem Wp.get {a : Nat} {o : Ob} {Q : Ob → List Ob → Prop} (e : M[a]? = some o) (h : Q o M) : Wp (CM.get a) M Q := ⟨o, M, by unfold CM.get; rw [e], h⟩
theorem Wp.opt {o : Option A} {a : A} {Q : A → List Ob → Prop} (e : o = some a) (h : Q a M) : Wp (CM.opt o) M Q := ⟨a, M, by unfold CM.opt; rw [e], h⟩
theorem Wp.new {o : Ob} {Q : D → List Ob → Prop} (h : Q (.ref M.length) (M ++ [o])) : Wp (CM.new o) M Q := ⟨_, _, rfl, h⟩
theorem Wp.put {a : Nat} {o : Ob} {Q : Unit → List Ob → Prop} (e : a < M.length) (h : Q () (M.set a o)) : Wp (CM.put a o) M Q := ⟨(), _, by unfold CM.put; rw [if_pos e], h⟩
theorem Wp.quiet {m : CM A} {Q : A → List Ob → Prop} (h : Wp m M Q) : Wp (Sb.quiet m) M Q := by
  obtain ⟨a, M', e, q⟩ := h
  exact ⟨a, M', by unfold Sb.quiet; rw [e], q⟩
end
def Br (b : Bool) (P R : Prop) : Prop := (b = true → P) ∧ (b = false → R)
def wLoc (Q : D → Prop) : Env → Nat → Prop
  | [], _ => False
  | o :: r, n => match n with
    | 0 => (match o with
      | some d => Q d
      | none => False)
    | n + 1 => wLoc Q r n
def wSet (d : D) (Q : Env → Prop) : Env → Nat → Prop
  | _ :: r, 0 => Q (some d :: r)
  | o :: r, n + 1 => wSet d (fun r' => Q (o :: r')) r n
  | [], _ => False
def wSets (Q : Env → Prop) : Env → List Nat → List D → Prop
  | ρ, [], [] => Q ρ
  | ρ, i :: is, d :: ds => wSet d (fun ρ' => wSets Q ρ' is ds) ρ i
  | _, _, _ => False
def wTg (ρ : Env) (Q : Env → Prop) : Tg → D → Prop
  | .loc i, d => wSet d Q ρ i
  | .tup is, .tup ds => wSets Q ρ is ds
  | .tup _, _ => False
theorem wLoc_ok {Q : D → Prop} {M : List Ob} : ∀ {ρ : Env} {i : Nat}, wLoc Q ρ i → Wp (getLoc ρ i) M fun d M' => M' = M ∧ Q d
  | [], _, h => h.elim
  | some d :: _, 0, h => ⟨d, M, rfl, rfl, h⟩
  | none :: _, 0, h => h.elim
  | o :: r, n + 1, h => by
    have h' : wLoc Q r n := h
    obtain ⟨d, M', e, q⟩ := wLoc_ok (M := M) (ρ := r) (i := n) h'
    exact ⟨d, M', by rw [← e]; simp [getLoc], q⟩
theorem wSet_ok {d : D} {M : List Ob} : ∀ {ρ : Env} {i : Nat} {Q : Env → Prop}, wSet d Q ρ i → setLoc ρ i d M = .ok (ρ.set i (some d)) M ∧ Q (ρ.set i (some d))
  | _ :: r, 0, Q, h => ⟨by simp [setLoc], h⟩
  | o :: r, n + 1, Q, h => by
    obtain ⟨e, q⟩ := wSet_ok (M := M) (ρ := r) (i := n) h
    refine ⟨?_, q⟩
    unfold setLoc at e ⊢
    by_cases hl : n < r.length
    · rw [if_pos (by simpa using hl)]
      try rfl
    · rw [if_neg hl] at e; cases e
  | [], _, _, h => by cases h
theorem wSets_ok {M : List Ob} {Q : Env → Prop} : ∀ {is : List Nat} {ds : List D} {ρ : Env}, wSets Q ρ is ds → ∃ ρ', setLocs ρ is ds M = .ok ρ' M ∧ Q ρ'
  | [], [], ρ, h => ⟨ρ, rfl, h⟩
  | i :: is, d :: ds, ρ, h => by
    obtain ⟨e, q⟩ := wSet_ok (M := M) h
    obtain ⟨ρ', e2, q2⟩ := wSets_ok q
    refine ⟨ρ', ?_, q2⟩
    show CM.bind (setLoc ρ i d) (fun ρ' => setLocs ρ' is ds) M = _
    unfold CM.bind
    rw [e]
    exact e2
  | [], _ :: _, ρ, h => by cases h
  | _ :: _, [], ρ, h => by cases h
theorem wTg_ok {ρ : Env} {tg : Tg} {d : D} {M : List Ob} {Q : Env → Prop} (h : wTg ρ Q tg d) : ∃ ρ', setTg ρ tg d M = .ok ρ' M ∧ Q ρ' := by
  cases tg with
  | loc i => exact ⟨_, (wSet_ok (M := M) h).1, (wSet_ok (M := M) h).2⟩
  | tup is =>
    cases d with
    | tup ds => exact wSets_ok h
    | _ => exact h.elim
abbrev Post := D → List Ob → Prop
mutual
def wE (g : G) (cl : Cls) (ρ : Env) : CE → List Ob → Post → Prop
  | .loc i, M, Q => wLoc (fun d => Q d M) ρ i
  | .cst d, M, Q => Q d M
  | .glb x, M, Q => ∃ d, g.glb x = some d ∧ Q d M
  | .tup es, M, Q => wEs g cl ρ es M fun ds M1 => ds.length ≤ lim ∧ Q (.tup ds) M1
  | .lst es, M, Q => wEs g cl ρ es M fun ds M1 => ds.length ≤ lim ∧ Q (.ref M1.length) (M1 ++ [.lst ds])
  | .bin op a b, M, Q => wE g cl ρ a M fun x M1 => wE g cl ρ b M1 fun y M2 => Wp (bop op x y) M2 Q
  | .neg a, M, Q => wE g cl ρ a M fun x M1 => match x with
    | .int i => Q (.int (-i)) M1
    | _ => False
  | .cmp op a b, M, Q => wE g cl ρ a M fun x M1 => wE g cl ρ b M1 fun y M2 => Wp (cop op x y) M2 fun r M3 => Q (.bl r) M3
  | .cmp2 op1 op2 a b c, M, Q => wE g cl ρ a M fun x M1 => wE g cl ρ b M1 fun y M2 => Wp (cop op1 x y) M2 fun r M3 => Br r (wE g cl ρ c M3 fun z M4 => Wp (cop op2 y z) M4 fun r M5 => Q (.bl r) M5) (Q (.bl false) M3)
  | .and a b, M, Q => wE g cl ρ a M fun x M1 => match x with
    | .bl r => Br r (wE g cl ρ b M1 Q) (Q (.bl false) M1)
    | _ => False
  | .or a b, M, Q => wE g cl ρ a M fun x M1 => match x with
    | .bl r => Br r (Q (.bl true) M1) (wE g cl ρ b M1 Q)
    | _ => False
  | .not a, M, Q => wE g cl ρ a M fun x M1 => Wp (truth x) M1 fun r M2 => Q (.bl (!r)) M2
  | .ite c a b, M, Q => wE g cl ρ c M fun x M1 => Wp (truth x) M1 fun r M2 => Br r (wE g cl ρ a M2 Q) (wE g cl ρ b M2 Q)
  | .idx a b, M, Q => wE g cl ρ a M fun x M1 => wE g cl ρ b M1 fun y M2 => Wp (index x y) M2 Q
  | .slc a lo hi, M, Q => wE g cl ρ a M fun x M1 => wE g cl ρ lo M1 fun l M2 => Wp (part lo.isNon l) M2 fun l' M3 => wE g cl ρ hi M3 fun h M4 => Wp (part hi.isNon h) M4 fun h' M5 => Wp (slice x l' h') M5 Q
  | .att a f, M, Q => wE g cl ρ a M fun x M1 => Wp (attr g.na x f) M1 Q
  | .call f es, M, Q => wEs g cl ρ es M fun ds M1 => Wp (cl f ds) M1 Q
  | .blt f es, M, Q => wEs g cl ρ es M fun ds M1 => Wp (blt f ds) M1 Q
  | .isi a T, M, Q => wE g cl ρ a M fun x M1 => ∃ b, isInst M1 x T = some b ∧ Q (.bl b) M1
  | .met o m es, M, Q => Wp (ev g cl ρ (.met o m es)) M Q
  | .comp tg it c e, M, Q => Wp (ev g cl ρ (.comp tg it c e)) M Q
  | c, M, Q => Wp (ev g cl ρ c) M Q
def wEs (g : G) (cl : Cls) (ρ : Env) : CEs → List Ob → (List D → List Ob → Prop) → Prop
  | .nil, M, Q => Q [] M
  | .cons e es, M, Q => wE g cl ρ e M fun d M1 => wEs g cl ρ es M1 fun ds M2 => Q (d :: ds) M2
end
mutual
theorem wE_ok {g : G} {cl : Cls} {ρ : Env} : ∀ {c : CE} {M : List Ob} {Q : Post}, wE g cl ρ c M Q → Wp (ev g cl ρ c) M Q
  | .loc i, M, Q, h => by
    rw [ev]
    exact (wLoc_ok h).mono fun d M' z => by obtain ⟨rfl, q⟩ := z; exact q
  | .cst d, M, Q, h => by rw [ev]; exact .pure h
  | .glb x, M, Q, h => by rw [ev]; obtain ⟨d, e, q⟩ := h; exact .opt e q
  | .tup es, M, Q, h => by
    rw [ev]; exact .bind ((wEs_ok (c := es) h).mono fun ds M1 z => .bind (.ask z.1 (.pure z.2)))
  | .lst es, M, Q, h => by
    rw [ev]; exact .bind ((wEs_ok (c := es) h).mono fun ds M1 z => .bind (.ask z.1 (.new z.2)))
  | .bin op a b, M, Q, h => by
    rw [ev]; exact .bind ((wE_ok (c := a) h).mono fun x M1 h => .bind ((wE_ok (c := b) h).mono fun y M2 h => h))
  | .neg a, M, Q, h => by
    rw [ev]; exact .bind ((wE_ok (c := a) h).mono fun x M1 h => by
      cases x with
      | int i => exact .pure h
      | _ => exact h.elim)
  | .cmp op a b, M, Q, h => by
    rw [ev]; exact .bind ((wE_ok (c := a) h).mono fun x M1 h => .bind ((wE_ok (c := b) h).mono fun y M2 h => .bind (h.mono fun r M3 q => .pure q)))
  | .cmp2 op1 op2 a b c, M, Q, h => by
    rw [ev]; exact .bind ((wE_ok (c := a) h).mono fun x M1 h => .bind ((wE_ok (c := b) h).mono fun y M2 h => .bind (h.mono fun r M3 q => by
      cases r with
      | false => exact .pure (q.2 rfl)
      | true => exact .bind ((wE_ok (c := c) (q.1 rfl)).mono fun z M4 h => .bind (h.mono fun r M5 q => .pure q)))))
  | .and a b, M, Q, h => by
    rw [ev]; exact .bind ((wE_ok (c := a) h).mono fun x M1 h => by
      cases x with
      | bl r => cases r with
        | false => exact .pure (h.2 rfl)
        | true => exact wE_ok (c := b) (h.1 rfl)
      | _ => exact h.elim)
  | .or a b, M, Q, h => by
    rw [ev]; exact .bind ((wE_ok (c := a) h).mono fun x M1 h => by
      cases x with
      | bl r => cases r with
        | true => exact .pure (h.1 rfl)
        | false => exact wE_ok (c := b) (h.2 rfl)
      | _ => exact h.elim)
  | .not a, M, Q, h => by
    rw [ev]; exact .bind ((wE_ok (c := a) h).mono fun x M1 h => .bind (h.mono fun r M3 q => .pure q))
  | .ite c a b, M, Q, h => by
    rw [ev]; exact .bind ((wE_ok (c := c) h).mono fun x M1 h => .bind (h.mono fun r M3 q => by
      cases r with
      | true => exact wE_ok (c := a) (q.1 rfl)
      | false => exact wE_ok (c := b) (q.2 rfl)))
  | .idx a b, M, Q, h => by
    rw [ev]; exact .bind ((wE_ok (c := a) h).mono fun x M1 h => .bind ((wE_ok (c := b) h).mono fun y M2 h => h))
  | .slc a lo hi, M, Q, h => by
    rw [ev]; exact .bind ((wE_ok (c := a) h).mono fun x M1 h => .bind ((wE_ok (c := lo) h).mono fun l M2 h => .bind (h.mono fun l' M3 h => .bind ((wE_ok (c := hi) h).mono fun u M4 h => .bind (h.mono fun u' M5 h => h)))))
  | .att a f, M, Q, h => by
    rw [ev]; exact .bind ((wE_ok (c := a) h).mono fun x M1 h => h)
  | .call f es, M, Q, h => by
    rw [ev]; exact .bind ((wEs_ok (c := es) h).mono fun ds M1 h => h)
  | .blt f es, M, Q, h => by
    rw [ev]; exact .bind ((wEs_ok (c := es) h).mono fun ds M1 h => h)
  | .isi a T, M, Q, h => by
    rw [ev]; exact .bind ((wE_ok (c := a) h).mono fun x M1 h => by
      obtain ⟨b, e, q⟩ := h
      exact ⟨_, M1, by dsimp only; rw [e], q⟩)
  | .met o m es, M, Q, h => h
  | .comp tg it c e, M, Q, h => h
  | .dic _ _, M, Q, h => h
  | .rev _, M, Q, h => h
  | .make _ _, M, Q, h => h
  | .dcomp _ _ _ _ _, M, Q, h => h
  | .srt _ _ _, M, Q, h => h
theorem wEs_ok {g : G} {cl : Cls} {ρ : Env} : ∀ {c : CEs} {M : List Ob} {Q : List D → List Ob → Prop}, wEs g cl ρ c M Q → Wp (evs g cl ρ c) M Q
  | .nil, M, Q, h => by rw [evs]; exact .pure h
  | .cons e es, M, Q, h => by
    rw [evs]; exact .bind ((wE_ok (c := e) h).mono fun x M1 h => .bind ((wEs_ok (c := es) h).mono fun ds M2 h => .pure h))
end
abbrev PostF := Fl → List Ob → Prop
def wStore (g : G) (cl : Cls) (ρ : Env) (v : D) (M : List Ob) (K : Env → List Ob → Prop) : Tt → Prop
  | .loc i => wSet v (fun ρ' => K ρ' M) ρ i
  | .tup is => match v with
    | .tup ds => wSets (fun ρ' => K ρ' M) ρ is ds
    | _ => False
  | .att o f => wE g cl ρ o M fun x M1 => Wp (setAttr g.na x f v) M1 fun _ M2 => K ρ M2
  | .idx o i => wE g cl ρ o M fun x M1 => wE g cl ρ i M1 fun k M2 => Wp (setItem x k v) M2 fun _ M3 => K ρ M3
theorem wStore_ok {g : G} {cl : Cls} {ρ : Env} {v : D} {M : List Ob} {K : Env → List Ob → Prop} {tt : Tt} (h : wStore g cl ρ v M K tt) : Wp (store g cl ρ v tt) M K := by
  cases tt with
  | loc i => exact ⟨_, M, (wSet_ok (M := M) h).1, (wSet_ok (M := M) h).2⟩
  | tup is =>
    cases v with
    | tup ds => obtain ⟨ρ', e, q⟩ := wSets_ok (M := M) h; exact ⟨ρ', M, e, q⟩
    | _ => exact h.elim
  | att o f => exact .bind ((wE_ok h).mono fun x M1 h => .bind (h.mono fun _ M2 q => .pure q))
  | idx o i => exact .bind ((wE_ok h).mono fun x M1 h => .bind ((wE_ok h).mono fun k M2 h => .bind (h.mono fun _ M3 q => .pure q)))
def wAug (op : BOp) (x y : D) (K : D → Prop) : Prop := match op, x, y with
  | .add, .int p, .int q => K (.int (p + q))
  | .sub, .int p, .int q => K (.int (p - q))
  | _, _, _ => False
mutual
def wS (g : G) (cl : Cls) (ρ : Env) : CS → List Ob → PostF → Prop
  | .asg t e, M, Q => wE g cl ρ e M fun v M1 => wStore g cl ρ v M1 (fun ρ' M2 => Q (.nx ρ') M2) t
  | .aug i op e, M, Q => wLoc (fun x => wE g cl ρ e M fun y M1 => wAug op x y fun z => wSet z (fun ρ' => Q (.nx ρ') M1) ρ i) ρ i
  | .exp e, M, Q => wE g cl ρ e M fun _ M1 => Q (.nx ρ) M1
  | .ret e, M, Q => wE g cl ρ e M fun v M1 => Q (.rt v) M1
  | .iff c a b, M, Q => wE g cl ρ c M fun x M1 => Wp (truth x) M1 fun r M2 => Br r (wSs g cl ρ a M2 Q) (wSs g cl ρ b M2 Q)
  | .brk, M, Q => Q (.bk ρ) M
  | .cnt, M, Q => Q (.ct ρ) M
  | .pas, M, Q => Q (.nx ρ) M
  | s, M, Q => Wp (ex g cl ρ s) M Q
def wSs (g : G) (cl : Cls) (ρ : Env) : CSs → List Ob → PostF → Prop
  | .nil, M, Q => Q (.nx ρ) M
  | .cons s ss, M, Q => wS g cl ρ s M fun fl M1 => match fl with
    | .nx ρ' => wSs g cl ρ' ss M1 Q
    | f => Q f M1
end
mutual
theorem wS_ok {g : G} {cl : Cls} : ∀ {s : CS} {ρ : Env} {M : List Ob} {Q : PostF}, wS g cl ρ s M Q → Wp (ex g cl ρ s) M Q
  | .asg t e, ρ, M, Q, h => by
    rw [ex]; exact .bind ((wE_ok h).mono fun v M1 h => .bind ((wStore_ok h).mono fun ρ' M2 q => .pure q))
  | .aug i op e, ρ, M, Q, h => by
    rw [ex]
    refine .bind ((wLoc_ok (M := M) h).mono fun x M' z => ?_)
    obtain ⟨rfl, h⟩ := z
    refine .bind ((wE_ok h).mono fun y M1 h => ?_)
    cases op with
    | add =>
      cases x with
      | int p => cases y with
        | int q => exact .bind ⟨_, M1, (wSet_ok (M := M1) h).1, .pure (wSet_ok (M := M1) h).2⟩
        | _ => exact h.elim
      | _ => exact h.elim
    | sub =>
      cases x with
      | int p => cases y with
        | int q => exact .bind ⟨_, M1, (wSet_ok (M := M1) h).1, .pure (wSet_ok (M := M1) h).2⟩
        | _ => exact h.elim
      | _ => exact h.elim
    | _ => exact h.elim
  | .exp e, ρ, M, Q, h => by
    rw [ex]; exact .bind ((wE_ok h).mono fun v M1 h => .pure h)
  | .ret e, ρ, M, Q, h => by
    rw [ex]; exact .bind ((wE_ok h).mono fun v M1 h => .pure h)
  | .iff c a b, ρ, M, Q, h => by
    rw [ex]
    refine .bind (m := evT g cl c ρ) ?_
    unfold evT
    refine .bind ((wE_ok h).mono fun x M1 h => h.mono fun r M2 q => ?_)
    cases r with
    | true => exact wSs_ok (ss := a) (q.1 rfl)
    | false => exact wSs_ok (ss := b) (q.2 rfl)
  | .brk, ρ, M, Q, h => by rw [ex]; exact .pure h
  | .cnt, ρ, M, Q, h => by rw [ex]; exact .pure h
  | .pas, ρ, M, Q, h => by rw [ex]; exact .pure h
  | .par _ _ _ _, ρ, M, Q, h => h
  | .augA _ _ _ _, ρ, M, Q, h => h
  | .for _ _ _, ρ, M, Q, h => h
  | .whl _ _, ρ, M, Q, h => h
  | .del _ _, ρ, M, Q, h => h
  | .rais _ _, ρ, M, Q, h => h
  | .tri _ _ _ _, ρ, M, Q, h => h
theorem wSs_ok {g : G} {cl : Cls} : ∀ {ss : CSs} {ρ : Env} {M : List Ob} {Q : PostF}, wSs g cl ρ ss M Q → Wp (exs g cl ρ ss) M Q
  | .nil, ρ, M, Q, h => by rw [exs]; exact .pure h
  | .cons s ss, ρ, M, Q, h => by
    rw [exs]
    refine .bind ((wS_ok (s := s) h).mono fun fl M1 h => ?_)
    cases fl with
    | nx ρ' => exact wSs_ok (ss := ss) h
    | rt d => exact .pure h
    | bk ρ' => exact .pure h
    | ct ρ' => exact .pure h
end
theorem wT_ok {g : G} {cl : Cls} {c : CE} {ρ : Env} {M : List Ob} {Q : Bool → List Ob → Prop} (h : wE g cl ρ c M fun x M1 => Wp (truth x) M1 Q) : Wp (evT g cl c ρ) M Q := .bind ((wE_ok h).mono fun x M1 h => h)
theorem Wp.call {g : G} {n : Nat} {f : String} {fd : Fn} {ds : List D} {M : List Ob} {Q : Post} (hf : g.fn f = some fd) (ha : ds.length ≤ fd.pn ∧ fd.pn ≤ ds.length + fd.dfl.length ∧ fd.pn ≤ fd.n)
    (h : wSs g (evCall g n) (((ds ++ fd.dfl.drop (ds.length + fd.dfl.length - fd.pn)).map some) ++ List.replicate (fd.n - fd.pn) none) fd.body M fun fl M' => match fl with
      | .rt d => Q d M'
      | .nx _ => Q .non M'
      | _ => False) : Wp (evCall g (n + 1) f ds) M Q := by
  have e : evCall g (n + 1) f ds = runFn g (evCall g n) fd ds := by
    show (match g.fn f with | some fd => runFn g (evCall g n) fd ds | none => CM.fail) = _
    rw [hf]
  rw [e]
  unfold runFn
  refine .bind (.ask ha (.bind ((wSs_ok h).mono fun fl M' q => ?_)))
  cases fl with
  | rt d => exact .pure q
  | nx ρ => exact .pure q
  | _ => exact q.elim
theorem Wp.metI {g : G} {cl : Cls} {ρ : Env} {o : CE} {m f : String} {es : CEs} {M : List Ob} {Q : Post} (h : wE g cl ρ o M fun x M1 => ∃ i c fs, x = .ref i ∧ M1[i]? = some (.ins c fs) ∧ (getF m fs).isNone = true ∧ methOf g c m = some f ∧ wEs g cl ρ es M1 fun ds M2 => Wp (cl f (.ref i :: ds)) M2 Q) : Wp (ev g cl ρ (.met o m es)) M Q := by
  rw [ev]
  refine .bind ((wE_ok h).mono fun x M1 z => ?_)
  obtain ⟨i, c, fs, rfl, e, h1, h2, h3⟩ := z
  refine .bind (.get e (.bind (.askB h1 ?_)))
  rw [h2]
  exact .bind ((wEs_ok h3).mono fun ds M2 h => h)
theorem Wp.metL {g : G} {cl : Cls} {ρ : Env} {o : CE} {m : String} {es : CEs} {M : List Ob} {Q : Post} (hm : lmt m = true) (h : wE g cl ρ o M fun x M1 => ∃ i xs, x = .ref i ∧ M1[i]? = some (.lst xs) ∧ wEs g cl ρ es M1 fun ds M2 => ∃ ys, M2[i]? = some (.lst ys) ∧ Wp (lstMeth i ys m ds) M2 Q) : Wp (ev g cl ρ (.met o m es)) M Q := by
  rw [ev]
  refine .bind ((wE_ok h).mono fun x M1 z => ?_)
  obtain ⟨i, xs, rfl, e, h3⟩ := z
  refine .bind (.get e (.bind (.askB hm ?_)))
  refine .bind ((wEs_ok h3).mono fun ds M2 z => ?_)
  obtain ⟨ys, e2, h⟩ := z
  exact .bind (.get e2 h)
theorem Wp.make {g : G} {cl : Cls} {ρ : Env} {c f : String} {es : CEs} {M : List Ob} {Q : Post} (hf : methOf g c "__init__" = some f) (h : wEs g cl ρ es M fun ds M1 => Wp (cl f (.ref M1.length :: ds)) (M1 ++ [.ins c []]) fun r M2 => r = .non ∧ Q (.ref M1.length) M2) : Wp (ev g cl ρ (.make c es)) M Q := by
  rw [ev]
  refine .bind ((wEs_ok h).mono fun ds M1 h => ?_)
  rw [hf]
  refine .bind (.new (.bind ((Wp.quiet h).mono fun r M2 z => ?_)))
  obtain ⟨rfl, q⟩ := z
  exact .pure q
theorem Wp.attr {na : String → String → Bool} {i : Nat} {c f : String} {fs : List (String × D)} {d : D} {M : List Ob} {Q : Post} (e : M[i]? = some (.ins c fs)) (hn : na c f = true) (hf : getF f fs = some d) (h : Q d M) : Wp (Sb.attr na (.ref i) f) M Q := .bind (.get e (.bind (.askB hn (.opt hf h))))
theorem Wp.setAttr {na : String → String → Bool} {i : Nat} {c f : String} {fs : List (String × D)} {v : D} {M : List Ob} {Q : Unit → List Ob → Prop} (e : M[i]? = some (.ins c fs)) (hn : na c f = true) (hl : fs.length < 100) (h : Q () (M.set i (.ins c (putF f v fs)))) : Wp (Sb.setAttr na (.ref i) f v) M Q :=
  .bind (.get e (.bind (.askB (by rw [hn, decide_eq_true hl]; rfl) (.put (List.getElem?_eq_some_iff.mp e).1 h))))
theorem Wp.forN {w : Wk} {tg : Tg} {body : Env → CM Fl} {ρ : Env} {M : List Ob} {Q : PostF} (hw : w.ok M = true) (h : Q (.nx ρ) M) : Wp (forD w tg body [] ρ) M Q := by
  rw [forD]
  exact .bind ⟨(), M, by unfold checkW; rw [if_pos hw], .pure h⟩
theorem Wp.forC {w : Wk} {tg : Tg} {body : Env → CM Fl} {d : D} {ds : List D} {ρ : Env} {M : List Ob} {Q : PostF} (hw : w.ok M = true) (h : wTg ρ (fun ρ1 => Wp (body ρ1) M fun fl M1 => match fl with
    | .nx ρ2 => Wp (forD w tg body ds ρ2) M1 Q
    | .ct ρ2 => Wp (forD w tg body ds ρ2) M1 Q
    | .bk ρ2 => Q (.nx ρ2) M1
    | .rt v => Q (.rt v) M1) tg d) : Wp (forD w tg body (d :: ds) ρ) M Q := by
  rw [forD]
  refine .bind ⟨(), M, by unfold checkW; rw [if_pos hw], ?_⟩
  obtain ⟨ρ1, e, h⟩ := wTg_ok (M := M) h
  refine .bind ⟨ρ1, M, e, .bind (h.mono fun fl M1 z => ?_)⟩
  cases fl with
  | nx _ => exact z
  | ct _ => exact z
  | bk _ => exact .pure z
  | rt _ => exact .pure z
theorem Wp.for {g : G} {cl : Cls} {ρ : Env} {tg : Tg} {it : CI} {body : CSs} {M : List Ob} {Q : PostF} (h : Wp (evI g cl ρ it) M fun w M1 => Wp (forD w tg (fun ρ => exs g cl ρ body) w.its ρ) M1 Q) : Wp (ex g cl ρ (.for tg it body)) M Q := by
  rw [ex]; exact .bind h
theorem Wp.whl {c : Env → CM Bool} {body : Env → CM Fl} {Q : PostF} (I : Nat → Env → List Ob → Prop)
    (hs : ∀ k ρ M, I k ρ M → Wp (c ρ) M fun b M1 => Br b (Wp (body ρ) M1 fun fl M2 => match fl with
      | .nx ρ2 => ∃ j, j < k ∧ I j ρ2 M2
      | .ct ρ2 => ∃ j, j < k ∧ I j ρ2 M2
      | .bk ρ2 => Q (.nx ρ2) M2
      | .rt v => Q (.rt v) M2) (Q (.nx ρ) M1)) : ∀ n k ρ M, k < n → I k ρ M → Wp (whileD c body n ρ) M Q := by
  intro n
  induction n with
  | zero => intro k ρ M h; omega
  | succ n ih =>
    intro k ρ M hk hi
    rw [whileD]
    refine .bind ((hs k ρ M hi).mono fun b M1 h => ?_)
    cases b with
    | false => exact .pure (h.2 rfl)
    | true =>
      refine .bind ((h.1 rfl).mono fun fl M2 z => ?_)
      cases fl with
      | nx ρ2 => obtain ⟨j, hj, hI⟩ := z; exact ih j ρ2 M2 (by omega) hI
      | ct ρ2 => obtain ⟨j, hj, hI⟩ := z; exact ih j ρ2 M2 (by omega) hI
      | bk _ => exact .pure z
      | rt _ => exact .pure z
theorem Wp.while {g : G} {cl : Cls} {ρ : Env} {c : CE} {body : CSs} {M : List Ob} {Q : PostF} (I : Nat → Env → List Ob → Prop) (k : Nat) (hk : k < wmax) (hi : I k ρ M)
    (hs : ∀ k ρ M, I k ρ M → wE g cl ρ c M fun x M1 => Wp (truth x) M1 fun b M2 => Br b (wSs g cl ρ body M2 fun fl M3 => match fl with
      | .nx ρ2 => ∃ j, j < k ∧ I j ρ2 M3
      | .ct ρ2 => ∃ j, j < k ∧ I j ρ2 M3
      | .bk ρ2 => Q (.nx ρ2) M3
      | .rt v => Q (.rt v) M3) (Q (.nx ρ) M2)) : Wp (ex g cl ρ (.whl c body)) M Q := by
  rw [ex]
  exact Wp.whl I (fun k ρ M h => (wT_ok (hs k ρ M h)).mono fun b M2 z => ⟨fun e => wSs_ok (z.1 e), z.2⟩) wmax k ρ M hk hi
end Sb
end
section
set_option autoImplicit false
set_option linter.all false
set_option maxRecDepth 100000
namespace Sb
section
variable {M : List Ob}
theorem tree_of {x y : D} {a b : T} (e1 : tree M x = some a) (e2 : tree M y = some b) (h1 : T.dep a ≤ 64) (h2 : T.dep b ≤ 64) : tree2 x y M = .ok (a, b) M := by
  unfold tree2
  rw [e1, e2]
  dsimp only
  rw [if_pos ⟨h1, h2⟩]
theorem Wp.eq {x y : D} {a b : T} {Q : Bool → List Ob → Prop} (e1 : tree M x = some a) (e2 : tree M y = some b) (h1 : T.dep a ≤ 64) (h2 : T.dep b ≤ 64) (h : Q (a.eqv b) M) : Wp (cop .eq x y) M Q := .bind ⟨_, M, tree_of e1 e2 h1 h2, .pure h⟩
theorem Wp.ne {x y : D} {a b : T} {Q : Bool → List Ob → Prop} (e1 : tree M x = some a) (e2 : tree M y = some b) (h1 : T.dep a ≤ 64) (h2 : T.dep b ≤ 64) (h : Q (!a.eqv b) M) : Wp (cop .ne x y) M Q := .bind ⟨_, M, tree_of e1 e2 h1 h2, .pure h⟩
theorem cmp_of {x y : D} {a b : T} (e1 : tree M x = some a) (e2 : tree M y = some b) (h1 : T.dep a ≤ 64) (h2 : T.dep b ≤ 64) (h3 : a.alike b = true) : cmp2 x y M = .ok (a, b) M := by
  show CM.bind (tree2 x y) _ M = _
  unfold CM.bind
  rw [tree_of e1 e2 h1 h2]
  show CM.bind (CM.ask (a.alike b)) _ M = _
  unfold CM.bind CM.ask
  rw [if_pos h3]
  rfl
theorem Wp.eqI {i j : Int} {Q : Bool → List Ob → Prop} (h : Q (decide (i = j)) M) : Wp (cop .eq (.int i) (.int j)) M Q := Wp.eq (a := .int i) (b := .int j) rfl rfl (Nat.zero_le _) (Nat.zero_le _) h
theorem Wp.neI {i j : Int} {Q : Bool → List Ob → Prop} (h : Q (!decide (i = j)) M) : Wp (cop .ne (.int i) (.int j)) M Q := Wp.ne (a := .int i) (b := .int j) rfl rfl (Nat.zero_le _) (Nat.zero_le _) h
theorem Wp.ltI {i j : Int} {Q : Bool → List Ob → Prop} (h : Q (decide (i < j)) M) : Wp (cop .lt (.int i) (.int j)) M Q := .bind ⟨_, M, cmp_of (a := .int i) (b := .int j) rfl rfl (Nat.zero_le _) (Nat.zero_le _) rfl, .pure h⟩
theorem Wp.gtI {i j : Int} {Q : Bool → List Ob → Prop} (h : Q (decide (j < i)) M) : Wp (cop .gt (.int i) (.int j)) M Q := .bind ⟨_, M, cmp_of (a := .int i) (b := .int j) rfl rfl (Nat.zero_le _) (Nat.zero_le _) rfl, .pure h⟩
theorem Wp.leI {i j : Int} {Q : Bool → List Ob → Prop} (h : Q (decide (i ≤ j)) M) : Wp (cop .le (.int i) (.int j)) M Q := .bind ⟨_, M, cmp_of (a := .int i) (b := .int j) rfl rfl (Nat.zero_le _) (Nat.zero_le _) rfl, .pure (by
  have e : (!T.lt (.int j) (.int i)) = decide (i ≤ j) := by
    show (!decide (j < i)) = _
    rw [← decide_not]; exact decide_eq_decide.mpr (by omega)
  show Q (!T.lt (.int j) (.int i)) M
  rw [e]; exact h)⟩
theorem Wp.geI {i j : Int} {Q : Bool → List Ob → Prop} (h : Q (decide (j ≤ i)) M) : Wp (cop .ge (.int i) (.int j)) M Q := .bind ⟨_, M, cmp_of (a := .int i) (b := .int j) rfl rfl (Nat.zero_le _) (Nat.zero_le _) rfl, .pure (by
  have e : (!T.lt (.int i) (.int j)) = decide (j ≤ i) := by
    show (!decide (i < j)) = _
    rw [← decide_not]; exact decide_eq_decide.mpr (by omega)
  show Q (!T.lt (.int i) (.int j)) M
  rw [e]; exact h)⟩
theorem res_ints (dr : Nat → Option T) : ∀ xs : List Int, D.res dr (xs.map D.int) = some (xs.map T.int)
  | [] => rfl
  | x :: xs => by simp [D.res, D.re, res_ints dr xs]
theorem tree_ints {a : Nat} {xs : List Int} (h : M[a]? = some (.lst (xs.map .int))) : tree M (.ref a) = some (T.lst (xs.map T.int)) := by
  show drN M 8 a = _
  unfold drN
  rw [h]
  show (D.res (drN M 7) (xs.map D.int)).map T.lst = _
  rw [res_ints]; rfl
theorem deps_ints : ∀ xs : List Int, T.deps (xs.map T.int) = 0
  | [] => rfl
  | x :: xs => by simp [T.deps, T.dep, deps_ints xs]
theorem dep_ints (xs : List Int) : T.dep (T.lst (xs.map T.int)) ≤ 64 := by
  simp [T.dep, deps_ints]
theorem eqvs_ints : ∀ xs ys : List Int, T.eqvs (xs.map T.int) (ys.map T.int) = decide (xs = ys)
  | [], [] => rfl
  | [], _ :: _ => by simp [T.eqvs]
  | _ :: _, [] => by simp [T.eqvs]
  | x :: xs, y :: ys => by
    simp only [List.map_cons, T.eqvs, T.eqv, eqvs_ints xs ys, List.cons.injEq]
    by_cases h1 : x = y <;> by_cases h2 : xs = ys <;> simp [h1, h2]
theorem Wp.eqL {a b : Nat} {xs ys : List Int} {Q : Bool → List Ob → Prop} (h1 : M[a]? = some (.lst (xs.map .int))) (h2 : M[b]? = some (.lst (ys.map .int))) (h : Q (decide (xs = ys)) M) : Wp (cop .eq (.ref a) (.ref b)) M Q := Wp.eq (tree_ints h1) (tree_ints h2) (dep_ints xs) (dep_ints ys) (by rw [T.eqv, eqvs_ints]; exact h)
theorem Wp.neL {a b : Nat} {xs ys : List Int} {Q : Bool → List Ob → Prop} (h1 : M[a]? = some (.lst (xs.map .int))) (h2 : M[b]? = some (.lst (ys.map .int))) (h : Q (!decide (xs = ys)) M) : Wp (cop .ne (.ref a) (.ref b)) M Q := Wp.ne (tree_ints h1) (tree_ints h2) (dep_ints xs) (dep_ints ys) (by rw [T.eqv, eqvs_ints]; exact h)
end
end Sb
end
section
set_option Elab.async false
set_option linter.all false
set_option maxRecDepth 100000
set_option maxHeartbeats 0
namespace LawP
open PySem PySem.Spec PyProof.Rows L2 Sb
def f_fixed_tests : Sb.Fn := ⟨1, 3, [], (.cons (.iff (.cmp .eq (.idx (.loc 0) (.cst (.int 0))) (.cst (.str [116, 101, 115, 116]))) (.cons (.ret (.lst (.cons (.loc 0) .nil))) .nil) .nil) (.cons (.iff (.cmp .ne (.idx (.loc 0) (.cst (.int 0))) (.cst (.str [97, 110, 100]))) (.cons (.ret (.lst .nil)) .nil) .nil) (.cons (.asg (.loc 1) (.lst .nil)) (.cons (.for (.loc 2) (.seq (.idx (.loc 0) (.cst (.int 1)))) (.cons (.exp (.met (.loc 1) "extend" (.cons (.call "fixed_tests" (.cons (.loc 2) .nil)) .nil))) .nil)) (.cons (.ret (.loc 1)) .nil))))), true⟩
def f_times_path : Sb.Fn := ⟨2, 4, [], (.cons (.iff (.or (.not (.isi (.loc 1) "int")) (.cmp .eq (.loc 0) (.cst (.str [100, 105, 102, 102, 101, 114, 115])))) (.cons (.ret (.cst .non)) .nil) .nil) (.cons (.asg (.loc 2) (.cst (.int 0))) (.cons (.asg (.loc 3) (.glb "LAST_TIME")) (.cons (.iff (.cmp .ne (.loc 0) (.cst (.str [98, 101, 108, 111, 119]))) (.cons (.asg (.loc 2) (.blt "max" (.cons (.loc 2) (.cons (.ite (.cmp .eq (.loc 0) (.cst (.str [105, 115]))) (.loc 1) (.bin .add (.loc 1) (.cst (.int 1)))) .nil)))) .nil) .nil) (.cons (.iff (.cmp .ne (.loc 0) (.cst (.str [97, 98, 111, 118, 101]))) (.cons (.asg (.loc 3) (.blt "min" (.cons (.loc 3) (.cons (.ite (.cmp .eq (.loc 0) (.cst (.str [105, 115]))) (.loc 1) (.bin .sub (.loc 1) (.cst (.int 1)))) .nil)))) .nil) .nil) (.cons (.ret (.ite (.cmp .le (.loc 2) (.loc 3)) (.tup (.cons (.cst (.str [116, 105, 109, 101, 115])) (.cons (.loc 2) (.cons (.loc 3) .nil)))) (.tup (.cons (.cst (.str [116, 105, 109, 101, 115])) (.cons (.cst (.int 1)) (.cons (.cst (.int 0)) .nil)))))) .nil)))))), true⟩
def f_path_of : Sb.Fn := ⟨1, 5, [], (.cons (.asg (.tup [2, 3, 4]) (.slc (.loc 0) (.cst (.int 1)) (.cst .non))) (.cons (.iff (.or (.cmp .ne (.idx (.loc 2) (.cst (.int 0))) (.cst (.str [116, 104, 105, 115]))) (.or (.cmp .ne (.idx (.loc 4) (.cst (.int 0))) (.cst (.str [118, 97, 108, 117, 101]))) (.cmp .eq (.idx (.loc 2) (.cst (.int 1))) (.cst (.str [115, 101, 114, 105, 97, 108]))))) (.cons (.ret (.cst .non)) .nil) .nil) (.cons (.asg (.loc 1) (.idx (.loc 4) (.cst (.int 1)))) (.cons (.iff (.cmp .eq (.idx (.loc 2) (.cst (.int 1))) (.cst (.str [116, 105, 109, 101]))) (.cons (.ret (.call "times_path" (.cons (.loc 3) (.cons (.loc 1) .nil)))) .nil) .nil) (.cons (.iff (.cmp .ne (.loc 3) (.cst (.str [105, 115]))) (.cons (.ret (.cst .non)) .nil) .nil) (.cons (.iff (.cmp .eq (.idx (.loc 2) (.cst (.int 1))) (.cst (.str [115, 117, 98, 106, 101, 99, 116]))) (.cons (.ret (.ite (.isi (.loc 1) "int") (.cst .non) (.tup (.cons (.cst (.str [115, 117, 98, 106, 101, 99, 116])) (.cons (.loc 1) .nil))))) .nil) .nil) (.cons (.ret (.tup (.cons (.cst (.str [102, 105, 101, 108, 100])) (.cons (.idx (.loc 2) (.cst (.int 1))) (.cons (.loc 1) .nil))))) .nil))))))), true⟩
def f_paths : Sb.Fn := ⟨1, 4, [], (.cons (.asg (.loc 1) (.lst (.cons (.tup (.cons (.cst (.str [107, 105, 110, 100])) .nil)) .nil))) (.cons (.for (.loc 2) (.seq (.call "fixed_tests" (.cons (.idx (.loc 0) (.cst (.int 1))) .nil))) (.cons (.asg (.loc 3) (.call "path_of" (.cons (.loc 2) .nil))) (.cons (.iff (.and (.cmp .isnt (.loc 3) (.cst .non)) (.cmp .nin (.loc 3) (.loc 1))) (.cons (.exp (.met (.loc 1) "append" (.cons (.loc 3) .nil))) .nil) .nil) .nil))) (.cons (.ret (.loc 1)) .nil))), true⟩
def f__law_mix : Sb.Fn := ⟨1, 2, [], (.cons (.asg (.loc 1) (.bin .mod (.blt "int" (.cons (.bin .add (.bin .mul (.blt "int" (.cons (.loc 0) .nil)) (.cst (.int 48271))) (.cst (.int 11))) .nil)) (.cst (.int 2147483647)))) (.cons (.ret (.bin .mod (.blt "int" (.cons (.bin .add (.bin .add (.bin .mul (.loc 1) (.cst (.int 69621))) (.bin .mul (.bin .fdiv (.loc 1) (.cst (.int 127773))) (.cst (.int 7)))) (.cst (.int 12345))) .nil)) (.cst (.int 2147483629)))) .nil)), true⟩
def f__law_start : Sb.Fn := ⟨1, 1, [], (.cons (.ret (.lst (.cons (.blt "list" (.cons (.loc 0) .nil)) (.cons (.cst (.int 0)) (.cons (.cst (.int 0)) (.cons (.cst (.int 0)) (.cons (.cst (.int 0)) .nil))))))) .nil), true⟩
def f__law_draw : Sb.Fn := ⟨2, 3, [], (.cons (.asg (.idx (.loc 0) (.cst (.int 3))) (.bin .add (.idx (.loc 0) (.cst (.int 3))) (.cst (.int 1)))) (.cons (.iff (.cmp .eq (.idx (.loc 0) (.cst (.int 2))) (.cst (.int 0))) (.cons (.iff (.cmp .lt (.idx (.loc 0) (.cst (.int 1))) (.blt "len" (.cons (.idx (.loc 0) (.cst (.int 0))) .nil))) (.cons (.asg (.idx (.loc 0) (.cst (.int 4))) (.idx (.idx (.loc 0) (.cst (.int 0))) (.idx (.loc 0) (.cst (.int 1))))) (.cons (.asg (.idx (.loc 0) (.cst (.int 1))) (.bin .add (.idx (.loc 0) (.cst (.int 1))) (.cst (.int 1)))) (.cons (.iff (.cmp .ge (.idx (.loc 0) (.cst (.int 4))) (.bin .pow (.cst (.int 10)) (.cst (.int 18)))) (.cons (.asg (.idx (.loc 0) (.cst (.int 2))) (.idx (.loc 0) (.cst (.int 4)))) .nil) .nil) .nil))) .nil) .nil) .nil) (.cons (.iff (.cmp .gt (.idx (.loc 0) (.cst (.int 2))) (.cst (.int 0))) (.cons (.asg (.loc 2) (.bin .mod (.blt "int" (.cons (.idx (.loc 0) (.cst (.int 2))) .nil)) (.loc 1))) (.cons (.asg (.idx (.loc 0) (.cst (.int 2))) (.bin .fdiv (.idx (.loc 0) (.cst (.int 2))) (.loc 1))) (.cons (.ret (.loc 2)) .nil))) .nil) (.cons (.ret (.bin .mod (.blt "int" (.cons (.call "_law_mix" (.cons (.call "_law_mix" (.cons (.bin .add (.blt "int" (.cons (.idx (.loc 0) (.cst (.int 4))) .nil)) (.bin .mul (.cst (.int 7919)) (.idx (.loc 0) (.cst (.int 3))))) .nil)) .nil)) .nil)) (.loc 1))) .nil)))), true⟩
def f__law_word : Sb.Fn := ⟨2, 4, [], (.cons (.asg (.loc 2) (.loc 1)) (.cons (.for (.loc 3) (.rng (.cst (.int 0)) (.idx (.lst (.cons (.cst (.int 0)) (.cons (.cst (.int 1)) (.cons (.cst (.int 2)) (.cons (.cst (.int 3)) (.cons (.cst (.int 11)) .nil)))))) (.call "_law_draw" (.cons (.loc 0) (.cons (.cst (.int 5)) .nil))))) (.cons (.asg (.loc 2) (.bin .add (.idx (.cst (.str [97, 98, 99, 100, 101, 102, 103, 104, 105, 106, 107, 108, 109, 110, 111, 112, 113, 114, 115, 116, 117, 118, 119, 120, 121, 122])) (.call "_law_draw" (.cons (.loc 0) (.cons (.cst (.int 26)) .nil)))) (.loc 2))) .nil)) (.cons (.ret (.loc 2)) .nil))), true⟩
def f__law_words : Sb.Fn := ⟨2, 6, [], (.cons (.asg (.loc 2) (.cst (.str [103, 104, 107, 112, 113, 120, 122]))) (.cons (.iff (.cmp .eq (.call "_law_draw" (.cons (.loc 0) (.cons (.cst (.int 2)) .nil))) (.cst (.int 0))) (.cons (.ret (.comp (.loc 5) (.rng (.cst (.int 0)) (.loc 1)) (.cst (.bl true)) (.call "_law_word" (.cons (.loc 0) (.cons (.idx (.loc 2) (.loc 5)) .nil))))) .nil) .nil) (.cons (.asg (.loc 3) (.call "_law_word" (.cons (.loc 0) (.cons (.cst (.str [103])) .nil)))) (.cons (.asg (.loc 4) (.call "_law_draw" (.cons (.loc 0) (.cons (.blt "len" (.cons (.loc 3) .nil)) .nil)))) (.cons (.ret (.comp (.loc 5) (.rng (.cst (.int 0)) (.loc 1)) (.cst (.bl true)) (.bin .add (.bin .add (.slc (.loc 3) (.cst .non) (.loc 4)) (.idx (.loc 2) (.loc 5))) (.slc (.loc 3) (.bin .add (.loc 4) (.cst (.int 1))) (.cst .non))))) .nil))))), true⟩
def f__law_world : Sb.Fn := ⟨1, 2, [], (.cons (.asg (.loc 1) (.ite (.cmp .eq (.call "_law_draw" (.cons (.loc 0) (.cons (.cst (.int 8)) .nil))) (.cst (.int 1))) (.cst (.int 6)) (.cst (.int 3)))) (.cons (.ret (.lst (.cons (.call "_law_words" (.cons (.loc 0) (.cons (.cst (.int 3)) .nil))) (.cons (.call "_law_words" (.cons (.loc 0) (.cons (.cst (.int 3)) .nil))) (.cons (.call "_law_words" (.cons (.loc 0) (.cons (.loc 1) .nil))) (.cons (.call "_law_words" (.cons (.loc 0) (.cons (.cst (.int 3)) .nil))) .nil)))))) .nil)), true⟩
def f__law_value : Sb.Fn := ⟨2, 3, [], (.cons (.asg (.loc 2) (.call "_law_draw" (.cons (.loc 0) (.cons (.cst (.int 8)) .nil)))) (.cons (.iff (.cmp .lt (.loc 2) (.cst (.int 4))) (.cons (.ret (.call "_law_draw" (.cons (.loc 0) (.cons (.cst (.int 4)) .nil)))) .nil) .nil) (.cons (.iff (.cmp .eq (.loc 2) (.cst (.int 4))) (.cons (.ret (.bin .sub (.call "_law_draw" (.cons (.loc 0) (.cons (.cst (.int 1999999)) .nil))) (.cst (.int 999999)))) .nil) .nil) (.cons (.iff (.cmp .eq (.loc 2) (.cst (.int 5))) (.cons (.ret (.idx (.lst (.cons (.neg (.cst (.int 999999))) (.cons (.cst (.int 999999)) (.cons (.cst (.int 0)) (.cons (.neg (.cst (.int 1))) .nil))))) (.call "_law_draw" (.cons (.loc 0) (.cons (.cst (.int 4)) .nil))))) .nil) .nil) (.cons (.ret (.idx (.idx (.loc 1) (.cst (.int 3))) (.call "_law_draw" (.cons (.loc 0) (.cons (.cst (.int 3)) .nil))))) .nil))))), true⟩
def f__law_time : Sb.Fn := ⟨1, 2, [], (.cons (.asg (.loc 1) (.call "_law_draw" (.cons (.loc 0) (.cons (.cst (.int 8)) .nil)))) (.cons (.iff (.cmp .eq (.loc 1) (.cst (.int 1))) (.cons (.ret (.bin .sub (.cst (.int 9999)) (.call "_law_draw" (.cons (.loc 0) (.cons (.cst (.int 4)) .nil))))) .nil) .nil) (.cons (.iff (.cmp .eq (.loc 1) (.cst (.int 2))) (.cons (.ret (.call "_law_draw" (.cons (.loc 0) (.cons (.cst (.int 10000)) .nil)))) .nil) .nil) (.cons (.ret (.call "_law_draw" (.cons (.loc 0) (.cons (.cst (.int 7)) .nil)))) .nil)))), true⟩
def f__law_name : Sb.Fn := ⟨2, 4, [], (.cons (.asg (.loc 2) (.idx (.lst (.cons (.cst (.str [116, 104, 105, 115])) (.cons (.cst (.str [116, 104, 105, 115])) (.cons (.cst (.str [116, 104, 97, 116])) .nil)))) (.call "_law_draw" (.cons (.loc 0) (.cons (.cst (.int 3)) .nil))))) (.cons (.asg (.loc 3) (.call "_law_draw" (.cons (.loc 0) (.cons (.cst (.int 6)) .nil)))) (.cons (.iff (.cmp .lt (.loc 3) (.cst (.int 3))) (.cons (.ret (.tup (.cons (.loc 2) (.cons (.idx (.lst (.cons (.cst (.str [116, 105, 109, 101])) (.cons (.cst (.str [115, 101, 114, 105, 97, 108])) (.cons (.cst (.str [115, 117, 98, 106, 101, 99, 116])) .nil)))) (.loc 3)) .nil)))) .nil) .nil) (.cons (.ret (.tup (.cons (.loc 2) (.cons (.idx (.idx (.loc 1) (.cst (.int 2))) (.call "_law_draw" (.cons (.loc 0) (.cons (.blt "len" (.cons (.idx (.loc 1) (.cst (.int 2))) .nil)) .nil)))) .nil)))) .nil)))), true⟩
def f__law_operand : Sb.Fn := ⟨2, 3, [], (.cons (.asg (.loc 2) (.call "_law_draw" (.cons (.loc 0) (.cons (.cst (.int 4)) .nil)))) (.cons (.iff (.cmp .eq (.loc 2) (.cst (.int 0))) (.cons (.ret (.tup (.cons (.cst (.str [118, 97, 108, 117, 101])) (.cons (.idx (.idx (.loc 1) (.cst (.int 1))) (.call "_law_draw" (.cons (.loc 0) (.cons (.cst (.int 3)) .nil)))) .nil)))) .nil) .nil) (.cons (.iff (.cmp .eq (.loc 2) (.cst (.int 1))) (.cons (.ret (.call "_law_name" (.cons (.loc 0) (.cons (.loc 1) .nil)))) .nil) .nil) (.cons (.ret (.tup (.cons (.cst (.str [118, 97, 108, 117, 101])) (.cons (.call "_law_value" (.cons (.loc 0) (.cons (.loc 1) .nil))) .nil)))) .nil)))), true⟩
def f__law_test : Sb.Fn := ⟨2, 4, [], (.cons (.asg (.loc 2) (.idx (.lst (.cons (.cst (.str [105, 115])) (.cons (.cst (.str [105, 115])) (.cons (.cst (.str [100, 105, 102, 102, 101, 114, 115])) (.cons (.cst (.str [98, 101, 108, 111, 119])) (.cons (.cst (.str [97, 98, 111, 118, 101])) .nil)))))) (.call "_law_draw" (.cons (.loc 0) (.cons (.cst (.int 5)) .nil))))) (.cons (.asg (.loc 3) (.ite (.cmp .gt (.call "_law_draw" (.cons (.loc 0) (.cons (.cst (.int 6)) .nil))) (.cst (.int 0))) (.call "_law_name" (.cons (.loc 0) (.cons (.loc 1) .nil))) (.call "_law_operand" (.cons (.loc 0) (.cons (.loc 1) .nil))))) (.cons (.ret (.tup (.cons (.cst (.str [116, 101, 115, 116])) (.cons (.loc 3) (.cons (.loc 2) (.cons (.call "_law_operand" (.cons (.loc 0) (.cons (.loc 1) .nil))) .nil)))))) .nil))), true⟩
def f__law_tree : Sb.Fn := ⟨3, 6, [], (.cons (.asg (.loc 3) (.call "_law_draw" (.cons (.loc 0) (.cons (.cst (.int 6)) .nil)))) (.cons (.iff (.or (.cmp .lt (.loc 3) (.cst (.int 2))) (.cmp .eq (.loc 2) (.cst (.int 0)))) (.cons (.ret (.call "_law_test" (.cons (.loc 0) (.cons (.loc 1) .nil)))) .nil) .nil) (.cons (.iff (.cmp .eq (.loc 3) (.cst (.int 2))) (.cons (.ret (.tup (.cons (.cst (.str [110, 101, 103, 97, 116, 101])) (.cons (.call "_law_tree" (.cons (.loc 0) (.cons (.loc 1) (.cons (.bin .sub (.loc 2) (.cst (.int 1))) .nil)))) .nil)))) .nil) .nil) (.cons (.asg (.loc 4) (.comp (.loc 5) (.rng (.cst (.int 0)) (.bin .add (.cst (.int 2)) (.call "_law_draw" (.cons (.loc 0) (.cons (.cst (.int 2)) .nil))))) (.cst (.bl true)) (.call "_law_tree" (.cons (.loc 0) (.cons (.loc 1) (.cons (.bin .sub (.loc 2) (.cst (.int 1))) .nil)))))) (.cons (.ret (.tup (.cons (.idx (.lst (.cons (.cst (.str [97, 110, 100])) (.cons (.cst (.str [97, 110, 100])) (.cons (.cst (.str [111, 114])) .nil)))) (.bin .sub (.loc 3) (.cst (.int 3)))) (.cons (.blt "tuple" (.cons (.loc 4) .nil)) .nil)))) .nil))))), true⟩
def f__law_condition : Sb.Fn := ⟨2, 5, [], (.cons (.asg (.loc 2) (.call "_law_tree" (.cons (.loc 0) (.cons (.loc 1) (.cons (.cst (.int 2)) .nil))))) (.cons (.for (.loc 3) (.rng (.cst (.int 0)) (.call "_law_draw" (.cons (.loc 0) (.cons (.cst (.int 3)) .nil)))) (.cons (.asg (.loc 4) (.call "_law_draw" (.cons (.loc 0) (.cons (.cst (.int 3)) .nil)))) (.cons (.iff (.cmp .eq (.loc 4) (.cst (.int 0))) (.cons (.asg (.loc 2) (.tup (.cons (.cst (.str [110, 101, 103, 97, 116, 101])) (.cons (.loc 2) .nil)))) .nil) (.cons (.iff (.cmp .eq (.loc 4) (.cst (.int 1))) (.cons (.asg (.loc 2) (.tup (.cons (.cst (.str [97, 110, 100])) (.cons (.tup (.cons (.call "_law_test" (.cons (.loc 0) (.cons (.loc 1) .nil))) (.cons (.loc 2) .nil))) .nil)))) .nil) (.cons (.asg (.loc 2) (.tup (.cons (.cst (.str [111, 114])) (.cons (.tup (.cons (.loc 2) (.cons (.call "_law_test" (.cons (.loc 0) (.cons (.loc 1) .nil))) .nil))) .nil)))) .nil)) .nil)) .nil))) (.cons (.ret (.loc 2)) .nil))), true⟩
def f__law_source : Sb.Fn := ⟨2, 6, [], (.cons (.asg (.loc 2) (.call "_law_draw" (.cons (.loc 0) (.cons (.cst (.int 3)) .nil)))) (.cons (.asg (.loc 3) (.comp (.loc 5) (.rng (.cst (.int 0)) (.bin .add (.cst (.int 2)) (.call "_law_draw" (.cons (.loc 0) (.cons (.cst (.int 3)) .nil))))) (.cst (.bl true)) (.idx (.idx (.loc 1) (.cst (.int 0))) (.call "_law_draw" (.cons (.loc 0) (.cons (.cst (.int 3)) .nil)))))) (.cons (.asg (.loc 4) (.idx (.lst (.cons (.cst (.int 0)) (.cons (.cst (.int 1)) (.cons (.cst (.int 3)) (.cons (.cst (.int 9999)) (.cons (.call "_law_draw" (.cons (.loc 0) (.cons (.cst (.int 10000)) .nil))) .nil)))))) (.call "_law_draw" (.cons (.loc 0) (.cons (.cst (.int 5)) .nil))))) (.cons (.iff (.cmp .eq (.loc 2) (.cst (.int 0))) (.cons (.ret (.tup (.cons (.cst (.str [111, 102])) (.cons (.idx (.loc 3) (.cst (.int 0))) .nil)))) .nil) .nil) (.cons (.iff (.cmp .eq (.loc 2) (.cst (.int 1))) (.cons (.ret (.tup (.cons (.cst (.str [112, 97, 105, 114, 115])) (.cons (.idx (.loc 3) (.cst (.int 0))) (.cons (.idx (.loc 3) (.cst (.int 1))) (.cons (.loc 4) .nil)))))) .nil) .nil) (.cons (.ret (.tup (.cons (.cst (.str [99, 104, 97, 105, 110, 115])) (.cons (.blt "tuple" (.cons (.loc 3) .nil)) (.cons (.loc 4) .nil))))) .nil)))))), true⟩
def f__law_shape : Sb.Fn := ⟨2, 7, [], (.cons (.iff (.cmp .eq (.call "_law_draw" (.cons (.loc 0) (.cons (.cst (.int 2)) .nil))) (.cst (.int 0))) (.cons (.ret (.tup (.cons (.cst (.str [114, 111, 119, 115])) (.cons (.blt "tuple" (.cons (.comp (.loc 5) (.rng (.cst (.int 0)) (.bin .add (.cst (.int 1)) (.call "_law_draw" (.cons (.loc 0) (.cons (.cst (.int 6)) .nil))))) (.cst (.bl true)) (.call "_law_name" (.cons (.loc 0) (.cons (.loc 1) .nil)))) .nil)) .nil)))) .nil) .nil) (.cons (.asg (.loc 2) (.idx (.lst (.cons (.cst (.int 0)) (.cons (.cst (.int 0)) (.cons (.cst (.int 1)) (.cons (.cst (.int 2)) (.cons (.cst (.int 9999)) (.cons (.bin .add (.cst (.int 1)) (.call "_law_draw" (.cons (.loc 0) (.cons (.cst (.int 9999)) .nil)))) .nil))))))) (.call "_law_draw" (.cons (.loc 0) (.cons (.cst (.int 6)) .nil))))) (.cons (.asg (.loc 3) (.comp (.loc 5) (.rng (.cst (.int 0)) (.call "_law_draw" (.cons (.loc 0) (.cons (.cst (.int 5)) .nil)))) (.cst (.bl true)) (.call "_law_name" (.cons (.loc 0) (.cons (.loc 1) .nil))))) (.cons (.asg (.loc 4) (.lst .nil)) (.cons (.for (.loc 5) (.rng (.cst (.int 0)) (.bin .add (.cst (.int 1)) (.call "_law_draw" (.cons (.loc 0) (.cons (.cst (.int 6)) .nil))))) (.cons (.asg (.loc 6) (.idx (.lst (.cons (.cst (.str [99, 111, 117, 110, 116])) (.cons (.cst (.str [115, 117, 109])) (.cons (.cst (.str [108, 101, 97, 115, 116])) (.cons (.cst (.str [103, 114, 101, 97, 116, 101, 115, 116])) (.cons (.cst (.str [117, 110, 108, 105, 107, 101])) .nil)))))) (.call "_law_draw" (.cons (.loc 0) (.cons (.cst (.int 5)) .nil))))) (.cons (.iff (.cmp .eq (.loc 6) (.cst (.str [99, 111, 117, 110, 116]))) (.cons (.exp (.met (.loc 4) "append" (.cons (.tup (.cons (.cst (.str [99, 111, 117, 110, 116])) .nil)) .nil))) .nil) (.cons (.exp (.met (.loc 4) "append" (.cons (.tup (.cons (.loc 6) (.cons (.call "_law_name" (.cons (.loc 0) (.cons (.loc 1) .nil))) .nil))) .nil))) .nil)) .nil))) (.cons (.ret (.tup (.cons (.cst (.str [103, 114, 111, 117, 112, 115])) (.cons (.loc 2) (.cons (.blt "tuple" (.cons (.loc 3) .nil)) (.cons (.blt "tuple" (.cons (.loc 4) .nil)) .nil)))))) .nil)))))), true⟩
def f__law_columns_of : Sb.Fn := ⟨1, 1, [], (.cons (.iff (.cmp .eq (.idx (.loc 0) (.cst (.int 0))) (.cst (.str [114, 111, 119, 115]))) (.cons (.ret (.blt "len" (.cons (.idx (.loc 0) (.cst (.int 1))) .nil))) .nil) .nil) (.cons (.ret (.bin .add (.bin .add (.blt "int" (.cons (.cmp .gt (.idx (.loc 0) (.cst (.int 1))) (.cst (.int 0))) .nil)) (.blt "len" (.cons (.idx (.loc 0) (.cst (.int 2))) .nil))) (.blt "len" (.cons (.idx (.loc 0) (.cst (.int 3))) .nil)))) .nil)), true⟩
def f__law_question : Sb.Fn := ⟨2, 7, [], (.cons (.asg (.loc 2) (.call "_law_source" (.cons (.loc 0) (.cons (.loc 1) .nil)))) (.cons (.asg (.loc 3) (.tup (.cons (.cst (.str [97, 108, 108])) .nil))) (.cons (.iff (.cmp .gt (.call "_law_draw" (.cons (.loc 0) (.cons (.cst (.int 4)) .nil))) (.cst (.int 0))) (.cons (.asg (.loc 3) (.call "_law_condition" (.cons (.loc 0) (.cons (.loc 1) .nil)))) .nil) .nil) (.cons (.asg (.loc 4) (.call "_law_shape" (.cons (.loc 0) (.cons (.loc 1) .nil)))) (.cons (.asg (.loc 5) (.tup .nil)) (.cons (.iff (.cmp .eq (.call "_law_draw" (.cons (.loc 0) (.cons (.cst (.int 3)) .nil))) (.cst (.int 0))) (.cons (.asg (.loc 5) (.tup (.cons (.call "_law_draw" (.cons (.loc 0) (.cons (.call "_law_columns_of" (.cons (.loc 4) .nil)) .nil))) (.cons (.idx (.lst (.cons (.cst (.str [117, 112])) (.cons (.cst (.str [100, 111, 119, 110])) .nil))) (.call "_law_draw" (.cons (.loc 0) (.cons (.cst (.int 2)) .nil)))) .nil)))) .nil) .nil) (.cons (.asg (.loc 6) (.idx (.lst (.cons (.cst (.int 0)) (.cons (.cst (.int 0)) (.cons (.cst (.int 0)) (.cons (.cst (.int 1)) (.cons (.cst (.int 2)) (.cons (.cst (.int 999)) .nil))))))) (.call "_law_draw" (.cons (.loc 0) (.cons (.cst (.int 6)) .nil))))) (.cons (.ret (.tup (.cons (.loc 2) (.cons (.loc 3) (.cons (.loc 4) (.cons (.loc 5) (.cons (.loc 6) .nil))))))) .nil)))))))), true⟩
def f__law_same : Sb.Fn := ⟨2, 3, [], (.cons (.iff (.cmp .is (.loc 1) (.cst .non)) (.cons (.ret (.cmp .is (.loc 0) (.cst .non))) .nil) .nil) (.cons (.iff (.cmp .is (.loc 1) (.cst (.bl true))) (.cons (.ret (.cmp .is (.loc 0) (.cst (.bl true)))) .nil) .nil) (.cons (.iff (.cmp .is (.loc 1) (.cst (.bl false))) (.cons (.ret (.cmp .is (.loc 0) (.cst (.bl false)))) .nil) .nil) (.cons (.iff (.isi (.loc 1) "str") (.cons (.ret (.and (.isi (.loc 0) "str") (.cmp .eq (.loc 0) (.loc 1)))) .nil) .nil) (.cons (.iff (.isi (.loc 1) "int") (.cons (.ret (.and (.isi (.loc 0) "int") (.and (.not (.isi (.loc 0) "bool")) (.cmp .eq (.loc 0) (.loc 1))))) .nil) .nil) (.cons (.iff (.isi (.loc 1) "tuple") (.cons (.iff (.not (.isi (.loc 0) "tuple")) (.cons (.ret (.cst (.bl false))) .nil) .nil) .nil) (.cons (.iff (.not (.isi (.loc 0) "list")) (.cons (.ret (.cst (.bl false))) .nil) .nil) .nil)) (.cons (.iff (.cmp .ne (.blt "len" (.cons (.loc 0) .nil)) (.blt "len" (.cons (.loc 1) .nil))) (.cons (.ret (.cst (.bl false))) .nil) .nil) (.cons (.for (.loc 2) (.rng (.cst (.int 0)) (.blt "len" (.cons (.loc 1) .nil))) (.cons (.iff (.not (.call "_law_same" (.cons (.idx (.loc 0) (.loc 2)) (.cons (.idx (.loc 1) (.loc 2)) .nil)))) (.cons (.ret (.cst (.bl false))) .nil) .nil) .nil)) (.cons (.ret (.cst (.bl true))) .nil))))))))), true⟩
def f__law_fixed : Sb.Fn := ⟨1, 3, [], (.cons (.iff (.cmp .eq (.idx (.loc 0) (.cst (.int 0))) (.cst (.str [116, 101, 115, 116]))) (.cons (.ret (.lst (.cons (.loc 0) .nil))) .nil) .nil) (.cons (.asg (.loc 1) (.lst .nil)) (.cons (.iff (.cmp .eq (.idx (.loc 0) (.cst (.int 0))) (.cst (.str [97, 110, 100]))) (.cons (.for (.loc 2) (.seq (.idx (.loc 0) (.cst (.int 1)))) (.cons (.asg (.loc 1) (.bin .add (.loc 1) (.call "_law_fixed" (.cons (.loc 2) .nil)))) .nil)) .nil) .nil) (.cons (.ret (.loc 1)) .nil)))), true⟩
def f__law_path : Sb.Fn := ⟨1, 5, [], (.cons (.asg (.loc 1) (.idx (.loc 0) (.cst (.int 1)))) (.cons (.asg (.loc 2) (.idx (.loc 0) (.cst (.int 3)))) (.cons (.iff (.or (.cmp .ne (.idx (.loc 1) (.cst (.int 0))) (.cst (.str [116, 104, 105, 115]))) (.or (.cmp .ne (.idx (.loc 2) (.cst (.int 0))) (.cst (.str [118, 97, 108, 117, 101]))) (.or (.cmp .eq (.idx (.loc 1) (.cst (.int 1))) (.cst (.str [115, 101, 114, 105, 97, 108]))) (.cmp .eq (.idx (.loc 0) (.cst (.int 2))) (.cst (.str [100, 105, 102, 102, 101, 114, 115])))))) (.cons (.ret (.cst .non)) .nil) .nil) (.cons (.iff (.cmp .eq (.idx (.loc 1) (.cst (.int 1))) (.cst (.str [116, 105, 109, 101]))) (.cons (.iff (.not (.isi (.idx (.loc 2) (.cst (.int 1))) "int")) (.cons (.ret (.cst .non)) .nil) .nil) (.cons (.asg (.loc 3) (.idx (.dic false (.cons (.cst (.str [105, 115])) (.cons (.idx (.loc 2) (.cst (.int 1))) (.cons (.cst (.str [98, 101, 108, 111, 119])) (.cons (.cst (.int 0)) (.cons (.cst (.str [97, 98, 111, 118, 101])) (.cons (.bin .add (.idx (.loc 2) (.cst (.int 1))) (.cst (.int 1))) .nil))))))) (.idx (.loc 0) (.cst (.int 2))))) (.cons (.asg (.loc 4) (.idx (.dic false (.cons (.cst (.str [105, 115])) (.cons (.idx (.loc 2) (.cst (.int 1))) (.cons (.cst (.str [98, 101, 108, 111, 119])) (.cons (.bin .sub (.idx (.loc 2) (.cst (.int 1))) (.cst (.int 1))) (.cons (.cst (.str [97, 98, 111, 118, 101])) (.cons (.cst (.int 9999)) .nil))))))) (.idx (.loc 0) (.cst (.int 2))))) (.cons (.iff (.cmp .gt (.blt "max" (.cons (.loc 3) (.cons (.cst (.int 0)) .nil))) (.blt "min" (.cons (.loc 4) (.cons (.cst (.int 9999)) .nil)))) (.cons (.ret (.tup (.cons (.cst (.str [116, 105, 109, 101, 115])) (.cons (.cst (.int 1)) (.cons (.cst (.int 0)) .nil))))) .nil) .nil) (.cons (.ret (.tup (.cons (.cst (.str [116, 105, 109, 101, 115])) (.cons (.blt "max" (.cons (.loc 3) (.cons (.cst (.int 0)) .nil))) (.cons (.blt "min" (.cons (.loc 4) (.cons (.cst (.int 9999)) .nil))) .nil))))) .nil))))) .nil) (.cons (.iff (.cmp .ne (.idx (.loc 0) (.cst (.int 2))) (.cst (.str [105, 115]))) (.cons (.ret (.cst .non)) .nil) .nil) (.cons (.iff (.cmp .eq (.idx (.loc 1) (.cst (.int 1))) (.cst (.str [115, 117, 98, 106, 101, 99, 116]))) (.cons (.ret (.ite (.isi (.idx (.loc 2) (.cst (.int 1))) "int") (.cst .non) (.tup (.cons (.cst (.str [115, 117, 98, 106, 101, 99, 116])) (.cons (.idx (.loc 2) (.cst (.int 1))) .nil))))) .nil) .nil) (.cons (.ret (.tup (.cons (.cst (.str [102, 105, 101, 108, 100])) (.cons (.idx (.loc 1) (.cst (.int 1))) (.cons (.idx (.loc 2) (.cst (.int 1))) .nil))))) .nil))))))), true⟩
def f__law_plain_test : Sb.Fn := ⟨2, 5, [], (.cons (.asg (.loc 2) (.call "_law_draw" (.cons (.loc 0) (.cons (.cst (.int 4)) .nil)))) (.cons (.iff (.cmp .eq (.loc 2) (.cst (.int 0))) (.cons (.ret (.tup (.cons (.cst (.str [116, 101, 115, 116])) (.cons (.tup (.cons (.cst (.str [116, 104, 105, 115])) (.cons (.cst (.str [115, 117, 98, 106, 101, 99, 116])) .nil))) (.cons (.cst (.str [105, 115])) (.cons (.tup (.cons (.cst (.str [118, 97, 108, 117, 101])) (.cons (.idx (.idx (.loc 1) (.cst (.int 1))) (.call "_law_draw" (.cons (.loc 0) (.cons (.cst (.int 3)) .nil)))) .nil))) .nil)))))) .nil) .nil) (.cons (.iff (.cmp .eq (.loc 2) (.cst (.int 1))) (.cons (.asg (.loc 4) (.idx (.lst (.cons (.cst (.str [105, 115])) (.cons (.cst (.str [100, 105, 102, 102, 101, 114, 115])) (.cons (.cst (.str [98, 101, 108, 111, 119])) (.cons (.cst (.str [97, 98, 111, 118, 101])) .nil))))) (.call "_law_draw" (.cons (.loc 0) (.cons (.cst (.int 4)) .nil))))) (.cons (.ret (.tup (.cons (.cst (.str [116, 101, 115, 116])) (.cons (.tup (.cons (.cst (.str [116, 104, 105, 115])) (.cons (.cst (.str [116, 105, 109, 101])) .nil))) (.cons (.loc 4) (.cons (.tup (.cons (.cst (.str [118, 97, 108, 117, 101])) (.cons (.idx (.lst (.cons (.call "_law_time" (.cons (.loc 0) .nil)) (.cons (.neg (.cst (.int 5))) (.cons (.cst (.int 10000)) (.cons (.cst (.int 0)) (.cons (.cst (.int 9999)) .nil)))))) (.call "_law_draw" (.cons (.loc 0) (.cons (.cst (.int 5)) .nil)))) .nil))) .nil)))))) .nil)) .nil) (.cons (.asg (.loc 3) (.idx (.lst (.cons (.cst (.str [116, 104, 105, 115])) (.cons (.cst (.str [116, 104, 105, 115])) (.cons (.cst (.str [116, 104, 97, 116])) .nil)))) (.call "_law_draw" (.cons (.loc 0) (.cons (.cst (.int 3)) .nil))))) (.cons (.ret (.tup (.cons (.cst (.str [116, 101, 115, 116])) (.cons (.tup (.cons (.loc 3) (.cons (.idx (.idx (.loc 1) (.cst (.int 2))) (.call "_law_draw" (.cons (.loc 0) (.cons (.cst (.int 3)) .nil)))) .nil))) (.cons (.idx (.lst (.cons (.cst (.str [105, 115])) (.cons (.cst (.str [98, 101, 108, 111, 119])) .nil))) (.call "_law_draw" (.cons (.loc 0) (.cons (.cst (.int 2)) .nil)))) (.cons (.tup (.cons (.cst (.str [118, 97, 108, 117, 101])) (.cons (.call "_law_value" (.cons (.loc 0) (.cons (.loc 1) .nil))) .nil))) .nil)))))) .nil))))), true⟩
def f_law : Sb.Fn := ⟨1, 9, [], (.cons (.asg (.loc 1) (.call "_law_start" (.cons (.loc 0) .nil))) (.cons (.asg (.loc 2) (.call "_law_world" (.cons (.loc 1) .nil))) (.cons (.asg (.loc 3) (.call "_law_question" (.cons (.loc 1) (.cons (.loc 2) .nil)))) (.cons (.iff (.cmp .eq (.call "_law_draw" (.cons (.loc 1) (.cons (.cst (.int 2)) .nil))) (.cst (.int 0))) (.cons (.asg (.loc 6) (.comp (.loc 8) (.rng (.cst (.int 0)) (.bin .add (.cst (.int 2)) (.call "_law_draw" (.cons (.loc 1) (.cons (.cst (.int 3)) .nil))))) (.cst (.bl true)) (.call "_law_plain_test" (.cons (.loc 1) (.cons (.loc 2) .nil))))) (.cons (.exp (.met (.loc 6) "append" (.cons (.tup (.cons (.cst (.str [97, 110, 100])) (.cons (.tup (.cons (.call "_law_plain_test" (.cons (.loc 1) (.cons (.loc 2) .nil))) (.cons (.idx (.loc 6) (.cst (.int 0))) .nil))) .nil))) .nil))) (.cons (.asg (.loc 3) (.tup (.cons (.idx (.loc 3) (.cst (.int 0))) (.cons (.tup (.cons (.cst (.str [97, 110, 100])) (.cons (.blt "tuple" (.cons (.loc 6) .nil)) .nil))) (.cons (.idx (.loc 3) (.cst (.int 2))) (.cons (.idx (.loc 3) (.cst (.int 3))) (.cons (.idx (.loc 3) (.cst (.int 4))) .nil))))))) .nil))) .nil) (.cons (.asg (.loc 4) (.lst (.cons (.tup (.cons (.cst (.str [107, 105, 110, 100])) .nil)) .nil))) (.cons (.for (.loc 5) (.seq (.call "_law_fixed" (.cons (.idx (.loc 3) (.cst (.int 1))) .nil))) (.cons (.asg (.loc 7) (.call "_law_path" (.cons (.loc 5) .nil))) (.cons (.iff (.and (.cmp .isnt (.loc 7) (.cst .non)) (.cmp .nin (.loc 7) (.loc 4))) (.cons (.exp (.met (.loc 4) "append" (.cons (.loc 7) .nil))) .nil) .nil) .nil))) (.cons (.ret (.and (.call "_law_same" (.cons (.call "fixed_tests" (.cons (.idx (.loc 3) (.cst (.int 1))) .nil)) (.cons (.call "_law_fixed" (.cons (.idx (.loc 3) (.cst (.int 1))) .nil)) .nil))) (.call "_law_same" (.cons (.call "paths" (.cons (.loc 3) .nil)) (.cons (.loc 4) .nil))))) .nil))))))), true⟩
def fnT : List (String × Sb.Fn) := [("fixed_tests", f_fixed_tests), ("times_path", f_times_path), ("path_of", f_path_of), ("paths", f_paths), ("_law_mix", f__law_mix), ("_law_start", f__law_start), ("_law_draw", f__law_draw), ("_law_word", f__law_word), ("_law_words", f__law_words), ("_law_world", f__law_world), ("_law_value", f__law_value), ("_law_time", f__law_time), ("_law_name", f__law_name), ("_law_operand", f__law_operand), ("_law_test", f__law_test), ("_law_tree", f__law_tree), ("_law_condition", f__law_condition), ("_law_source", f__law_source), ("_law_shape", f__law_shape), ("_law_columns_of", f__law_columns_of), ("_law_question", f__law_question), ("_law_same", f__law_same), ("_law_fixed", f__law_fixed), ("_law_path", f__law_path), ("_law_plain_test", f__law_plain_test), ("law", f_law)]
def clT : List (String × Sb.Cl) := []
def glT : List (String × Sb.D) := [("LAST_TIME", .int 9999)]
def prog : Sb.G := ⟨fun f => fnT.lookup f, fun c => clT.lookup c, fun x => glT.lookup x⟩
def top (i : Nat) : Stmt := PySem.Challenge.pw_shedbook_k44_paths_of_questions.main.body.getD i (.Pass ⟨0, 0, 0, 0⟩)
def inC (i j : Nat) : Stmt := match top i with
  | .ClassDef _ _ _ body _ _ _ _ _ _ _ => body.getD j (.Pass ⟨0, 0, 0, 0⟩)
  | _ => .Pass ⟨0, 0, 0, 0⟩
abbrev s_fixed_tests : Stmt := top 2
def d_fixed_tests : He.DefD := ⟨("fixed_tests", none), "fixed_tests", "fixed_tests", defArgs s_fixed_tests, defBody s_fixed_tests, defScope s_fixed_tests, [], []⟩
abbrev s_times_path : Stmt := top 3
def d_times_path : He.DefD := ⟨("times_path", none), "times_path", "times_path", defArgs s_times_path, defBody s_times_path, defScope s_times_path, [], []⟩
abbrev s_path_of : Stmt := top 4
def d_path_of : He.DefD := ⟨("path_of", none), "path_of", "path_of", defArgs s_path_of, defBody s_path_of, defScope s_path_of, [], []⟩
abbrev s_paths : Stmt := top 5
def d_paths : He.DefD := ⟨("paths", none), "paths", "paths", defArgs s_paths, defBody s_paths, defScope s_paths, [], []⟩
abbrev s__law_mix : Stmt := top 7
def d__law_mix : He.DefD := ⟨("_law_mix", none), "_law_mix", "_law_mix", defArgs s__law_mix, defBody s__law_mix, defScope s__law_mix, [], []⟩
abbrev s__law_start : Stmt := top 8
def d__law_start : He.DefD := ⟨("_law_start", none), "_law_start", "_law_start", defArgs s__law_start, defBody s__law_start, defScope s__law_start, [], []⟩
abbrev s__law_draw : Stmt := top 9
def d__law_draw : He.DefD := ⟨("_law_draw", none), "_law_draw", "_law_draw", defArgs s__law_draw, defBody s__law_draw, defScope s__law_draw, [], []⟩
abbrev s__law_word : Stmt := top 10
def d__law_word : He.DefD := ⟨("_law_word", none), "_law_word", "_law_word", defArgs s__law_word, defBody s__law_word, defScope s__law_word, [], []⟩
abbrev s__law_words : Stmt := top 11
def d__law_words : He.DefD := ⟨("_law_words", none), "_law_words", "_law_words", defArgs s__law_words, defBody s__law_words, defScope s__law_words, [], []⟩
abbrev s__law_world : Stmt := top 12
def d__law_world : He.DefD := ⟨("_law_world", none), "_law_world", "_law_world", defArgs s__law_world, defBody s__law_world, defScope s__law_world, [], []⟩
abbrev s__law_value : Stmt := top 13
def d__law_value : He.DefD := ⟨("_law_value", none), "_law_value", "_law_value", defArgs s__law_value, defBody s__law_value, defScope s__law_value, [], []⟩
abbrev s__law_time : Stmt := top 14
def d__law_time : He.DefD := ⟨("_law_time", none), "_law_time", "_law_time", defArgs s__law_time, defBody s__law_time, defScope s__law_time, [], []⟩
abbrev s__law_name : Stmt := top 15
def d__law_name : He.DefD := ⟨("_law_name", none), "_law_name", "_law_name", defArgs s__law_name, defBody s__law_name, defScope s__law_name, [], []⟩
abbrev s__law_operand : Stmt := top 16
def d__law_operand : He.DefD := ⟨("_law_operand", none), "_law_operand", "_law_operand", defArgs s__law_operand, defBody s__law_operand, defScope s__law_operand, [], []⟩
abbrev s__law_test : Stmt := top 17
def d__law_test : He.DefD := ⟨("_law_test", none), "_law_test", "_law_test", defArgs s__law_test, defBody s__law_test, defScope s__law_test, [], []⟩
abbrev s__law_tree : Stmt := top 18
def d__law_tree : He.DefD := ⟨("_law_tree", none), "_law_tree", "_law_tree", defArgs s__law_tree, defBody s__law_tree, defScope s__law_tree, [], []⟩
abbrev s__law_condition : Stmt := top 19
def d__law_condition : He.DefD := ⟨("_law_condition", none), "_law_condition", "_law_condition", defArgs s__law_condition, defBody s__law_condition, defScope s__law_condition, [], []⟩
abbrev s__law_source : Stmt := top 20
def d__law_source : He.DefD := ⟨("_law_source", none), "_law_source", "_law_source", defArgs s__law_source, defBody s__law_source, defScope s__law_source, [], []⟩
abbrev s__law_shape : Stmt := top 21
def d__law_shape : He.DefD := ⟨("_law_shape", none), "_law_shape", "_law_shape", defArgs s__law_shape, defBody s__law_shape, defScope s__law_shape, [], []⟩
abbrev s__law_columns_of : Stmt := top 22
def d__law_columns_of : He.DefD := ⟨("_law_columns_of", none), "_law_columns_of", "_law_columns_of", defArgs s__law_columns_of, defBody s__law_columns_of, defScope s__law_columns_of, [], []⟩
abbrev s__law_question : Stmt := top 23
def d__law_question : He.DefD := ⟨("_law_question", none), "_law_question", "_law_question", defArgs s__law_question, defBody s__law_question, defScope s__law_question, [], []⟩
abbrev s__law_same : Stmt := top 24
def d__law_same : He.DefD := ⟨("_law_same", none), "_law_same", "_law_same", defArgs s__law_same, defBody s__law_same, defScope s__law_same, [], []⟩
abbrev s__law_fixed : Stmt := top 25
def d__law_fixed : He.DefD := ⟨("_law_fixed", none), "_law_fixed", "_law_fixed", defArgs s__law_fixed, defBody s__law_fixed, defScope s__law_fixed, [], []⟩
abbrev s__law_path : Stmt := top 26
def d__law_path : He.DefD := ⟨("_law_path", none), "_law_path", "_law_path", defArgs s__law_path, defBody s__law_path, defScope s__law_path, [], []⟩
abbrev s__law_plain_test : Stmt := top 27
def d__law_plain_test : He.DefD := ⟨("_law_plain_test", none), "_law_plain_test", "_law_plain_test", defArgs s__law_plain_test, defBody s__law_plain_test, defScope s__law_plain_test, [], []⟩
abbrev s_law : Stmt := top 28
def d_law : He.DefD := ⟨("law", none), "law", "law", defArgs s_law, defBody s_law, defScope s_law, [], []⟩
def fnD : List He.DefD := [d_fixed_tests, d_times_path, d_path_of, d_paths, d__law_mix, d__law_start, d__law_draw, d__law_word, d__law_words, d__law_world, d__law_value, d__law_time, d__law_name, d__law_operand, d__law_test, d__law_tree, d__law_condition, d__law_source, d__law_shape, d__law_columns_of, d__law_question, d__law_same, d__law_fixed, d__law_path, d__law_plain_test, d_law]
def faD : List He.Fa := [.glo "fixed_tests", .glo "times_path", .glo "path_of", .glo "paths", .glo "_law_mix", .glo "_law_start", .glo "_law_draw", .glo "_law_word", .glo "_law_words", .glo "_law_world", .glo "_law_value", .glo "_law_time", .glo "_law_name", .glo "_law_operand", .glo "_law_test", .glo "_law_tree", .glo "_law_condition", .glo "_law_source", .glo "_law_shape", .glo "_law_columns_of", .glo "_law_question", .glo "_law_same", .glo "_law_fixed", .glo "_law_path", .glo "_law_plain_test", .glo "law", .free "len", .free "int", .free "abs", .free "max", .free "min", .free "list", .free "tuple", .free "isinstance", .free "range", .free "enumerate", .free "str", .free "sorted", .free "set", .free "sum", .free "any", .free "all", .free "bool", .free "dict", .int "LAST_TIME" 9999]
abbrev R : PySem.W.OpenRow := PySem.W.OpenLaw.row PySem.Challenge.rw_shedbook_k44_paths_of_questions
abbrev hk : PySem.W.Hook := He.hookD 4 faD fnD
def ob (s : PySem.W.SharedT) : He.AlD := He.obsDG 4 faD fnD (HandSHeadRun.getT s)
theorem ob_eq (s : PySem.W.SharedT) : ob s = hk.obs s.abs := He.obsDG_eq (HandSHeadRun.getT_eq s)
def names0 : List PySem.Str := ["LAST_TIME", "fixed_tests", "times_path", "path_of", "paths", "_law_mix", "_law_start", "_law_draw", "_law_word", "_law_words", "_law_world", "_law_value", "_law_time", "_law_name", "_law_operand", "_law_test", "_law_tree", "_law_condition", "_law_source", "_law_shape", "_law_columns_of", "_law_question", "_law_same", "_law_fixed", "_law_path", "_law_plain_test"]
def names : List PySem.Str := names0
theorem run (w : World) : HandSHeadRun.RunEq R (PySem.W.view R.prog [28]) hk ob 4000 names w := by
  intro os
  kernel_rfl
theorem sc_fixed_tests : FnScope ["condition", "found", "part"] ["condition"] (defScope s_fixed_tests) := ⟨rfl, rfl, rfl, by decide +kernel, rfl, by decide +kernel, by decide +kernel⟩
theorem ck_fixed_tests : chkSs prog 60 ⟨["condition", "found", "part"], defScope s_fixed_tests, fun _ => true⟩ 60 (defBody s_fixed_tests) f_fixed_tests.body = true := by kernel_rfl
theorem sc_times_path : FnScope ["relation", "value", "low", "high"] ["relation", "value"] (defScope s_times_path) := ⟨rfl, rfl, rfl, by decide +kernel, rfl, by decide +kernel, by decide +kernel⟩
theorem ck_times_path : chkSs prog 60 ⟨["relation", "value", "low", "high"], defScope s_times_path, fun _ => true⟩ 60 (defBody s_times_path) f_times_path.body = true := by kernel_rfl
theorem sc_path_of : FnScope ["test", "value", "left", "relation", "right"] ["test"] (defScope s_path_of) := ⟨rfl, rfl, rfl, by decide +kernel, rfl, by decide +kernel, by decide +kernel⟩
theorem ck_path_of : chkSs prog 60 ⟨["test", "value", "left", "relation", "right"], defScope s_path_of, fun _ => true⟩ 60 (defBody s_path_of) f_path_of.body = true := by kernel_rfl
theorem sc_paths : FnScope ["question", "found", "test", "path"] ["question"] (defScope s_paths) := ⟨rfl, rfl, rfl, by decide +kernel, rfl, by decide +kernel, by decide +kernel⟩
theorem ck_paths : chkSs prog 60 ⟨["question", "found", "test", "path"], defScope s_paths, fun _ => true⟩ 60 (defBody s_paths) f_paths.body = true := by kernel_rfl
theorem sc__law_mix : FnScope ["_law_number", "_law_one"] ["_law_number"] (defScope s__law_mix) := ⟨rfl, rfl, rfl, by decide +kernel, rfl, by decide +kernel, by decide +kernel⟩
theorem ck__law_mix : chkSs prog 60 ⟨["_law_number", "_law_one"], defScope s__law_mix, fun _ => true⟩ 60 (defBody s__law_mix) f__law_mix.body = true := by kernel_rfl
theorem sc__law_start : FnScope ["_law_script"] ["_law_script"] (defScope s__law_start) := ⟨rfl, rfl, rfl, by decide +kernel, rfl, by decide +kernel, by decide +kernel⟩
theorem ck__law_start : chkSs prog 60 ⟨["_law_script"], defScope s__law_start, fun _ => true⟩ 60 (defBody s__law_start) f__law_start.body = true := by kernel_rfl
theorem sc__law_draw : FnScope ["_law_d", "_law_many", "_law_value_here"] ["_law_d", "_law_many"] (defScope s__law_draw) := ⟨rfl, rfl, rfl, by decide +kernel, rfl, by decide +kernel, by decide +kernel⟩
theorem ck__law_draw : chkSs prog 60 ⟨["_law_d", "_law_many", "_law_value_here"], defScope s__law_draw, fun _ => true⟩ 60 (defBody s__law_draw) f__law_draw.body = true := by kernel_rfl
theorem sc__law_word : FnScope ["_law_d", "_law_letter", "_law_word_here", "_law_k"] ["_law_d", "_law_letter"] (defScope s__law_word) := ⟨rfl, rfl, rfl, by decide +kernel, rfl, by decide +kernel, by decide +kernel⟩
theorem ck__law_word : chkSs prog 60 ⟨["_law_d", "_law_letter", "_law_word_here", "_law_k"], defScope s__law_word, fun _ => true⟩ 60 (defBody s__law_word) f__law_word.body = true := by kernel_rfl
theorem sc__law_words : FnScope ["_law_d", "_law_many", "_law_letters", "_law_base", "_law_at", "_law_k"] ["_law_d", "_law_many"] (defScope s__law_words) := ⟨rfl, rfl, rfl, by decide +kernel, rfl, by decide +kernel, by decide +kernel⟩
theorem ck__law_words : chkSs prog 60 ⟨["_law_d", "_law_many", "_law_letters", "_law_base", "_law_at", "_law_k"], defScope s__law_words, fun _ => true⟩ 60 (defBody s__law_words) f__law_words.body = true := by kernel_rfl
theorem sc__law_world : FnScope ["_law_d", "_law_names"] ["_law_d"] (defScope s__law_world) := ⟨rfl, rfl, rfl, by decide +kernel, rfl, by decide +kernel, by decide +kernel⟩
theorem ck__law_world : chkSs prog 60 ⟨["_law_d", "_law_names"], defScope s__law_world, fun _ => true⟩ 60 (defBody s__law_world) f__law_world.body = true := by kernel_rfl
theorem sc__law_value : FnScope ["_law_d", "_law_w", "_law_choice"] ["_law_d", "_law_w"] (defScope s__law_value) := ⟨rfl, rfl, rfl, by decide +kernel, rfl, by decide +kernel, by decide +kernel⟩
theorem ck__law_value : chkSs prog 60 ⟨["_law_d", "_law_w", "_law_choice"], defScope s__law_value, fun _ => true⟩ 60 (defBody s__law_value) f__law_value.body = true := by kernel_rfl
theorem sc__law_time : FnScope ["_law_d", "_law_choice"] ["_law_d"] (defScope s__law_time) := ⟨rfl, rfl, rfl, by decide +kernel, rfl, by decide +kernel, by decide +kernel⟩
theorem ck__law_time : chkSs prog 60 ⟨["_law_d", "_law_choice"], defScope s__law_time, fun _ => true⟩ 60 (defBody s__law_time) f__law_time.body = true := by kernel_rfl
theorem sc__law_name : FnScope ["_law_d", "_law_w", "_law_side", "_law_choice"] ["_law_d", "_law_w"] (defScope s__law_name) := ⟨rfl, rfl, rfl, by decide +kernel, rfl, by decide +kernel, by decide +kernel⟩
theorem ck__law_name : chkSs prog 60 ⟨["_law_d", "_law_w", "_law_side", "_law_choice"], defScope s__law_name, fun _ => true⟩ 60 (defBody s__law_name) f__law_name.body = true := by kernel_rfl
theorem sc__law_operand : FnScope ["_law_d", "_law_w", "_law_choice"] ["_law_d", "_law_w"] (defScope s__law_operand) := ⟨rfl, rfl, rfl, by decide +kernel, rfl, by decide +kernel, by decide +kernel⟩
theorem ck__law_operand : chkSs prog 60 ⟨["_law_d", "_law_w", "_law_choice"], defScope s__law_operand, fun _ => true⟩ 60 (defBody s__law_operand) f__law_operand.body = true := by kernel_rfl
theorem sc__law_test : FnScope ["_law_d", "_law_w", "_law_relation", "_law_left"] ["_law_d", "_law_w"] (defScope s__law_test) := ⟨rfl, rfl, rfl, by decide +kernel, rfl, by decide +kernel, by decide +kernel⟩
theorem ck__law_test : chkSs prog 60 ⟨["_law_d", "_law_w", "_law_relation", "_law_left"], defScope s__law_test, fun _ => true⟩ 60 (defBody s__law_test) f__law_test.body = true := by kernel_rfl
theorem sc__law_tree : FnScope ["_law_d", "_law_w", "_law_depth", "_law_choice", "_law_parts", "_law_k"] ["_law_d", "_law_w", "_law_depth"] (defScope s__law_tree) := ⟨rfl, rfl, rfl, by decide +kernel, rfl, by decide +kernel, by decide +kernel⟩
theorem ck__law_tree : chkSs prog 60 ⟨["_law_d", "_law_w", "_law_depth", "_law_choice", "_law_parts", "_law_k"], defScope s__law_tree, fun _ => true⟩ 60 (defBody s__law_tree) f__law_tree.body = true := by kernel_rfl
theorem sc__law_condition : FnScope ["_law_d", "_law_w", "_law_condition_here", "_law_k", "_law_choice"] ["_law_d", "_law_w"] (defScope s__law_condition) := ⟨rfl, rfl, rfl, by decide +kernel, rfl, by decide +kernel, by decide +kernel⟩
theorem ck__law_condition : chkSs prog 60 ⟨["_law_d", "_law_w", "_law_condition_here", "_law_k", "_law_choice"], defScope s__law_condition, fun _ => true⟩ 60 (defBody s__law_condition) f__law_condition.body = true := by kernel_rfl
theorem sc__law_source : FnScope ["_law_d", "_law_w", "_law_choice", "_law_kinds", "_law_span", "_law_k"] ["_law_d", "_law_w"] (defScope s__law_source) := ⟨rfl, rfl, rfl, by decide +kernel, rfl, by decide +kernel, by decide +kernel⟩
theorem ck__law_source : chkSs prog 60 ⟨["_law_d", "_law_w", "_law_choice", "_law_kinds", "_law_span", "_law_k"], defScope s__law_source, fun _ => true⟩ 60 (defBody s__law_source) f__law_source.body = true := by kernel_rfl
theorem sc__law_shape : FnScope ["_law_d", "_law_w", "_law_width", "_law_names", "_law_sums", "_law_k", "_law_word_here"] ["_law_d", "_law_w"] (defScope s__law_shape) := ⟨rfl, rfl, rfl, by decide +kernel, rfl, by decide +kernel, by decide +kernel⟩
theorem ck__law_shape : chkSs prog 60 ⟨["_law_d", "_law_w", "_law_width", "_law_names", "_law_sums", "_law_k", "_law_word_here"], defScope s__law_shape, fun _ => true⟩ 60 (defBody s__law_shape) f__law_shape.body = true := by kernel_rfl
theorem sc__law_columns_of : FnScope ["_law_shape_here"] ["_law_shape_here"] (defScope s__law_columns_of) := ⟨rfl, rfl, rfl, by decide +kernel, rfl, by decide +kernel, by decide +kernel⟩
theorem ck__law_columns_of : chkSs prog 60 ⟨["_law_shape_here"], defScope s__law_columns_of, fun _ => true⟩ 60 (defBody s__law_columns_of) f__law_columns_of.body = true := by kernel_rfl
theorem sc__law_question : FnScope ["_law_d", "_law_w", "_law_source_here", "_law_condition_here", "_law_shape_here", "_law_order", "_law_most"] ["_law_d", "_law_w"] (defScope s__law_question) := ⟨rfl, rfl, rfl, by decide +kernel, rfl, by decide +kernel, by decide +kernel⟩
theorem ck__law_question : chkSs prog 60 ⟨["_law_d", "_law_w", "_law_source_here", "_law_condition_here", "_law_shape_here", "_law_order", "_law_most"], defScope s__law_question, fun _ => true⟩ 60 (defBody s__law_question) f__law_question.body = true := by kernel_rfl
theorem sc__law_same : FnScope ["_law_actual", "_law_due", "_law_k"] ["_law_actual", "_law_due"] (defScope s__law_same) := ⟨rfl, rfl, rfl, by decide +kernel, rfl, by decide +kernel, by decide +kernel⟩
theorem ck__law_same : chkSs prog 60 ⟨["_law_actual", "_law_due", "_law_k"], defScope s__law_same, fun _ => true⟩ 60 (defBody s__law_same) f__law_same.body = true := by kernel_rfl
theorem sc__law_fixed : FnScope ["_law_condition_here", "_law_found", "_law_part"] ["_law_condition_here"] (defScope s__law_fixed) := ⟨rfl, rfl, rfl, by decide +kernel, rfl, by decide +kernel, by decide +kernel⟩
theorem ck__law_fixed : chkSs prog 60 ⟨["_law_condition_here", "_law_found", "_law_part"], defScope s__law_fixed, fun _ => true⟩ 60 (defBody s__law_fixed) f__law_fixed.body = true := by kernel_rfl
theorem sc__law_path : FnScope ["_law_test_here", "_law_left", "_law_right", "_law_low", "_law_high"] ["_law_test_here"] (defScope s__law_path) := ⟨rfl, rfl, rfl, by decide +kernel, rfl, by decide +kernel, by decide +kernel⟩
theorem ck__law_path : chkSs prog 60 ⟨["_law_test_here", "_law_left", "_law_right", "_law_low", "_law_high"], defScope s__law_path, fun _ => true⟩ 60 (defBody s__law_path) f__law_path.body = true := by kernel_rfl
theorem sc__law_plain_test : FnScope ["_law_d", "_law_w", "_law_choice", "_law_side", "_law_relation"] ["_law_d", "_law_w"] (defScope s__law_plain_test) := ⟨rfl, rfl, rfl, by decide +kernel, rfl, by decide +kernel, by decide +kernel⟩
theorem ck__law_plain_test : chkSs prog 60 ⟨["_law_d", "_law_w", "_law_choice", "_law_side", "_law_relation"], defScope s__law_plain_test, fun _ => true⟩ 60 (defBody s__law_plain_test) f__law_plain_test.body = true := by kernel_rfl
theorem sc_law : FnScope ["_law_script", "_law_d", "_law_w", "_law_question_here", "_law_due", "_law_test_here", "_law_parts", "_law_path_here", "_law_k"] ["_law_script"] (defScope s_law) := ⟨rfl, rfl, rfl, by decide +kernel, rfl, by decide +kernel, by decide +kernel⟩
theorem ck_law : chkSs prog 60 ⟨["_law_script", "_law_d", "_law_w", "_law_question_here", "_law_due", "_law_test_here", "_law_parts", "_law_path_here", "_law_k"], defScope s_law, fun _ => true⟩ 60 (defBody s_law) f_law.body = true := by kernel_rfl
def atT : List (String × (Str × Option Str)) := [("fixed_tests", ("fixed_tests", none)), ("times_path", ("times_path", none)), ("path_of", ("path_of", none)), ("paths", ("paths", none)), ("_law_mix", ("_law_mix", none)), ("_law_start", ("_law_start", none)), ("_law_draw", ("_law_draw", none)), ("_law_word", ("_law_word", none)), ("_law_words", ("_law_words", none)), ("_law_world", ("_law_world", none)), ("_law_value", ("_law_value", none)), ("_law_time", ("_law_time", none)), ("_law_name", ("_law_name", none)), ("_law_operand", ("_law_operand", none)), ("_law_test", ("_law_test", none)), ("_law_tree", ("_law_tree", none)), ("_law_condition", ("_law_condition", none)), ("_law_source", ("_law_source", none)), ("_law_shape", ("_law_shape", none)), ("_law_columns_of", ("_law_columns_of", none)), ("_law_question", ("_law_question", none)), ("_law_same", ("_law_same", none)), ("_law_fixed", ("_law_fixed", none)), ("_law_path", ("_law_path", none)), ("_law_plain_test", ("_law_plain_test", none)), ("law", ("law", none))]
def at_ (K : PySem.W.Frag) (f : String) : Addr := match atT.lookup f with
  | some p => He.fAd K p
  | none => 0
section
variable {K : PySem.W.Frag} {h : Heap} {mg : Str → Option Value}
theorem at_fixed_tests (X : K.In h) (G : h.Ns mainGlobals mg) (c : He.SaysD faD fnD K) : DefAt prog K f_fixed_tests (at_ K "fixed_tests") ∧ (f_fixed_tests.glo = true → mg (Str.ofString "fixed_tests") = some (.ref (at_ K "fixed_tests"))) := by
  obtain ⟨fd, F⟩ := c.def_ 0 (d := d_fixed_tests) rfl
  exact ⟨defAt_n 60 60 F sc_fixed_tests rfl rfl ck_fixed_tests rfl fun _ _ _ _ _ _ us hl => match us, hl with | [_], _ => rfl, fun _ => He.glo_ok X G (c.fact 0 (f := .glo "fixed_tests") rfl)⟩
theorem at_times_path (X : K.In h) (G : h.Ns mainGlobals mg) (c : He.SaysD faD fnD K) : DefAt prog K f_times_path (at_ K "times_path") ∧ (f_times_path.glo = true → mg (Str.ofString "times_path") = some (.ref (at_ K "times_path"))) := by
  obtain ⟨fd, F⟩ := c.def_ 1 (d := d_times_path) rfl
  exact ⟨defAt_n 60 60 F sc_times_path rfl rfl ck_times_path rfl fun _ _ _ _ _ _ us hl => match us, hl with | [_, _], _ => rfl, fun _ => He.glo_ok X G (c.fact 1 (f := .glo "times_path") rfl)⟩
theorem at_path_of (X : K.In h) (G : h.Ns mainGlobals mg) (c : He.SaysD faD fnD K) : DefAt prog K f_path_of (at_ K "path_of") ∧ (f_path_of.glo = true → mg (Str.ofString "path_of") = some (.ref (at_ K "path_of"))) := by
  obtain ⟨fd, F⟩ := c.def_ 2 (d := d_path_of) rfl
  exact ⟨defAt_n 60 60 F sc_path_of rfl rfl ck_path_of rfl fun _ _ _ _ _ _ us hl => match us, hl with | [_], _ => rfl, fun _ => He.glo_ok X G (c.fact 2 (f := .glo "path_of") rfl)⟩
theorem at_paths (X : K.In h) (G : h.Ns mainGlobals mg) (c : He.SaysD faD fnD K) : DefAt prog K f_paths (at_ K "paths") ∧ (f_paths.glo = true → mg (Str.ofString "paths") = some (.ref (at_ K "paths"))) := by
  obtain ⟨fd, F⟩ := c.def_ 3 (d := d_paths) rfl
  exact ⟨defAt_n 60 60 F sc_paths rfl rfl ck_paths rfl fun _ _ _ _ _ _ us hl => match us, hl with | [_], _ => rfl, fun _ => He.glo_ok X G (c.fact 3 (f := .glo "paths") rfl)⟩
theorem at__law_mix (X : K.In h) (G : h.Ns mainGlobals mg) (c : He.SaysD faD fnD K) : DefAt prog K f__law_mix (at_ K "_law_mix") ∧ (f__law_mix.glo = true → mg (Str.ofString "_law_mix") = some (.ref (at_ K "_law_mix"))) := by
  obtain ⟨fd, F⟩ := c.def_ 4 (d := d__law_mix) rfl
  exact ⟨defAt_n 60 60 F sc__law_mix rfl rfl ck__law_mix rfl fun _ _ _ _ _ _ us hl => match us, hl with | [_], _ => rfl, fun _ => He.glo_ok X G (c.fact 4 (f := .glo "_law_mix") rfl)⟩
theorem at__law_start (X : K.In h) (G : h.Ns mainGlobals mg) (c : He.SaysD faD fnD K) : DefAt prog K f__law_start (at_ K "_law_start") ∧ (f__law_start.glo = true → mg (Str.ofString "_law_start") = some (.ref (at_ K "_law_start"))) := by
  obtain ⟨fd, F⟩ := c.def_ 5 (d := d__law_start) rfl
  exact ⟨defAt_n 60 60 F sc__law_start rfl rfl ck__law_start rfl fun _ _ _ _ _ _ us hl => match us, hl with | [_], _ => rfl, fun _ => He.glo_ok X G (c.fact 5 (f := .glo "_law_start") rfl)⟩
theorem at__law_draw (X : K.In h) (G : h.Ns mainGlobals mg) (c : He.SaysD faD fnD K) : DefAt prog K f__law_draw (at_ K "_law_draw") ∧ (f__law_draw.glo = true → mg (Str.ofString "_law_draw") = some (.ref (at_ K "_law_draw"))) := by
  obtain ⟨fd, F⟩ := c.def_ 6 (d := d__law_draw) rfl
  exact ⟨defAt_n 60 60 F sc__law_draw rfl rfl ck__law_draw rfl fun _ _ _ _ _ _ us hl => match us, hl with | [_, _], _ => rfl, fun _ => He.glo_ok X G (c.fact 6 (f := .glo "_law_draw") rfl)⟩
theorem at__law_word (X : K.In h) (G : h.Ns mainGlobals mg) (c : He.SaysD faD fnD K) : DefAt prog K f__law_word (at_ K "_law_word") ∧ (f__law_word.glo = true → mg (Str.ofString "_law_word") = some (.ref (at_ K "_law_word"))) := by
  obtain ⟨fd, F⟩ := c.def_ 7 (d := d__law_word) rfl
  exact ⟨defAt_n 60 60 F sc__law_word rfl rfl ck__law_word rfl fun _ _ _ _ _ _ us hl => match us, hl with | [_, _], _ => rfl, fun _ => He.glo_ok X G (c.fact 7 (f := .glo "_law_word") rfl)⟩
theorem at__law_words (X : K.In h) (G : h.Ns mainGlobals mg) (c : He.SaysD faD fnD K) : DefAt prog K f__law_words (at_ K "_law_words") ∧ (f__law_words.glo = true → mg (Str.ofString "_law_words") = some (.ref (at_ K "_law_words"))) := by
  obtain ⟨fd, F⟩ := c.def_ 8 (d := d__law_words) rfl
  exact ⟨defAt_n 60 60 F sc__law_words rfl rfl ck__law_words rfl fun _ _ _ _ _ _ us hl => match us, hl with | [_, _], _ => rfl, fun _ => He.glo_ok X G (c.fact 8 (f := .glo "_law_words") rfl)⟩
theorem at__law_world (X : K.In h) (G : h.Ns mainGlobals mg) (c : He.SaysD faD fnD K) : DefAt prog K f__law_world (at_ K "_law_world") ∧ (f__law_world.glo = true → mg (Str.ofString "_law_world") = some (.ref (at_ K "_law_world"))) := by
  obtain ⟨fd, F⟩ := c.def_ 9 (d := d__law_world) rfl
  exact ⟨defAt_n 60 60 F sc__law_world rfl rfl ck__law_world rfl fun _ _ _ _ _ _ us hl => match us, hl with | [_], _ => rfl, fun _ => He.glo_ok X G (c.fact 9 (f := .glo "_law_world") rfl)⟩
theorem at__law_value (X : K.In h) (G : h.Ns mainGlobals mg) (c : He.SaysD faD fnD K) : DefAt prog K f__law_value (at_ K "_law_value") ∧ (f__law_value.glo = true → mg (Str.ofString "_law_value") = some (.ref (at_ K "_law_value"))) := by
  obtain ⟨fd, F⟩ := c.def_ 10 (d := d__law_value) rfl
  exact ⟨defAt_n 60 60 F sc__law_value rfl rfl ck__law_value rfl fun _ _ _ _ _ _ us hl => match us, hl with | [_, _], _ => rfl, fun _ => He.glo_ok X G (c.fact 10 (f := .glo "_law_value") rfl)⟩
theorem at__law_time (X : K.In h) (G : h.Ns mainGlobals mg) (c : He.SaysD faD fnD K) : DefAt prog K f__law_time (at_ K "_law_time") ∧ (f__law_time.glo = true → mg (Str.ofString "_law_time") = some (.ref (at_ K "_law_time"))) := by
  obtain ⟨fd, F⟩ := c.def_ 11 (d := d__law_time) rfl
  exact ⟨defAt_n 60 60 F sc__law_time rfl rfl ck__law_time rfl fun _ _ _ _ _ _ us hl => match us, hl with | [_], _ => rfl, fun _ => He.glo_ok X G (c.fact 11 (f := .glo "_law_time") rfl)⟩
theorem at__law_name (X : K.In h) (G : h.Ns mainGlobals mg) (c : He.SaysD faD fnD K) : DefAt prog K f__law_name (at_ K "_law_name") ∧ (f__law_name.glo = true → mg (Str.ofString "_law_name") = some (.ref (at_ K "_law_name"))) := by
  obtain ⟨fd, F⟩ := c.def_ 12 (d := d__law_name) rfl
  exact ⟨defAt_n 60 60 F sc__law_name rfl rfl ck__law_name rfl fun _ _ _ _ _ _ us hl => match us, hl with | [_, _], _ => rfl, fun _ => He.glo_ok X G (c.fact 12 (f := .glo "_law_name") rfl)⟩
theorem at__law_operand (X : K.In h) (G : h.Ns mainGlobals mg) (c : He.SaysD faD fnD K) : DefAt prog K f__law_operand (at_ K "_law_operand") ∧ (f__law_operand.glo = true → mg (Str.ofString "_law_operand") = some (.ref (at_ K "_law_operand"))) := by
  obtain ⟨fd, F⟩ := c.def_ 13 (d := d__law_operand) rfl
  exact ⟨defAt_n 60 60 F sc__law_operand rfl rfl ck__law_operand rfl fun _ _ _ _ _ _ us hl => match us, hl with | [_, _], _ => rfl, fun _ => He.glo_ok X G (c.fact 13 (f := .glo "_law_operand") rfl)⟩
theorem at__law_test (X : K.In h) (G : h.Ns mainGlobals mg) (c : He.SaysD faD fnD K) : DefAt prog K f__law_test (at_ K "_law_test") ∧ (f__law_test.glo = true → mg (Str.ofString "_law_test") = some (.ref (at_ K "_law_test"))) := by
  obtain ⟨fd, F⟩ := c.def_ 14 (d := d__law_test) rfl
  exact ⟨defAt_n 60 60 F sc__law_test rfl rfl ck__law_test rfl fun _ _ _ _ _ _ us hl => match us, hl with | [_, _], _ => rfl, fun _ => He.glo_ok X G (c.fact 14 (f := .glo "_law_test") rfl)⟩
theorem at__law_tree (X : K.In h) (G : h.Ns mainGlobals mg) (c : He.SaysD faD fnD K) : DefAt prog K f__law_tree (at_ K "_law_tree") ∧ (f__law_tree.glo = true → mg (Str.ofString "_law_tree") = some (.ref (at_ K "_law_tree"))) := by
  obtain ⟨fd, F⟩ := c.def_ 15 (d := d__law_tree) rfl
  exact ⟨defAt_n 60 60 F sc__law_tree rfl rfl ck__law_tree rfl fun _ _ _ _ _ _ us hl => match us, hl with | [_, _, _], _ => rfl, fun _ => He.glo_ok X G (c.fact 15 (f := .glo "_law_tree") rfl)⟩
theorem at__law_condition (X : K.In h) (G : h.Ns mainGlobals mg) (c : He.SaysD faD fnD K) : DefAt prog K f__law_condition (at_ K "_law_condition") ∧ (f__law_condition.glo = true → mg (Str.ofString "_law_condition") = some (.ref (at_ K "_law_condition"))) := by
  obtain ⟨fd, F⟩ := c.def_ 16 (d := d__law_condition) rfl
  exact ⟨defAt_n 60 60 F sc__law_condition rfl rfl ck__law_condition rfl fun _ _ _ _ _ _ us hl => match us, hl with | [_, _], _ => rfl, fun _ => He.glo_ok X G (c.fact 16 (f := .glo "_law_condition") rfl)⟩
theorem at__law_source (X : K.In h) (G : h.Ns mainGlobals mg) (c : He.SaysD faD fnD K) : DefAt prog K f__law_source (at_ K "_law_source") ∧ (f__law_source.glo = true → mg (Str.ofString "_law_source") = some (.ref (at_ K "_law_source"))) := by
  obtain ⟨fd, F⟩ := c.def_ 17 (d := d__law_source) rfl
  exact ⟨defAt_n 60 60 F sc__law_source rfl rfl ck__law_source rfl fun _ _ _ _ _ _ us hl => match us, hl with | [_, _], _ => rfl, fun _ => He.glo_ok X G (c.fact 17 (f := .glo "_law_source") rfl)⟩
theorem at__law_shape (X : K.In h) (G : h.Ns mainGlobals mg) (c : He.SaysD faD fnD K) : DefAt prog K f__law_shape (at_ K "_law_shape") ∧ (f__law_shape.glo = true → mg (Str.ofString "_law_shape") = some (.ref (at_ K "_law_shape"))) := by
  obtain ⟨fd, F⟩ := c.def_ 18 (d := d__law_shape) rfl
  exact ⟨defAt_n 60 60 F sc__law_shape rfl rfl ck__law_shape rfl fun _ _ _ _ _ _ us hl => match us, hl with | [_, _], _ => rfl, fun _ => He.glo_ok X G (c.fact 18 (f := .glo "_law_shape") rfl)⟩
theorem at__law_columns_of (X : K.In h) (G : h.Ns mainGlobals mg) (c : He.SaysD faD fnD K) : DefAt prog K f__law_columns_of (at_ K "_law_columns_of") ∧ (f__law_columns_of.glo = true → mg (Str.ofString "_law_columns_of") = some (.ref (at_ K "_law_columns_of"))) := by
  obtain ⟨fd, F⟩ := c.def_ 19 (d := d__law_columns_of) rfl
  exact ⟨defAt_n 60 60 F sc__law_columns_of rfl rfl ck__law_columns_of rfl fun _ _ _ _ _ _ us hl => match us, hl with | [_], _ => rfl, fun _ => He.glo_ok X G (c.fact 19 (f := .glo "_law_columns_of") rfl)⟩
theorem at__law_question (X : K.In h) (G : h.Ns mainGlobals mg) (c : He.SaysD faD fnD K) : DefAt prog K f__law_question (at_ K "_law_question") ∧ (f__law_question.glo = true → mg (Str.ofString "_law_question") = some (.ref (at_ K "_law_question"))) := by
  obtain ⟨fd, F⟩ := c.def_ 20 (d := d__law_question) rfl
  exact ⟨defAt_n 60 60 F sc__law_question rfl rfl ck__law_question rfl fun _ _ _ _ _ _ us hl => match us, hl with | [_, _], _ => rfl, fun _ => He.glo_ok X G (c.fact 20 (f := .glo "_law_question") rfl)⟩
theorem at__law_same (X : K.In h) (G : h.Ns mainGlobals mg) (c : He.SaysD faD fnD K) : DefAt prog K f__law_same (at_ K "_law_same") ∧ (f__law_same.glo = true → mg (Str.ofString "_law_same") = some (.ref (at_ K "_law_same"))) := by
  obtain ⟨fd, F⟩ := c.def_ 21 (d := d__law_same) rfl
  exact ⟨defAt_n 60 60 F sc__law_same rfl rfl ck__law_same rfl fun _ _ _ _ _ _ us hl => match us, hl with | [_, _], _ => rfl, fun _ => He.glo_ok X G (c.fact 21 (f := .glo "_law_same") rfl)⟩
theorem at__law_fixed (X : K.In h) (G : h.Ns mainGlobals mg) (c : He.SaysD faD fnD K) : DefAt prog K f__law_fixed (at_ K "_law_fixed") ∧ (f__law_fixed.glo = true → mg (Str.ofString "_law_fixed") = some (.ref (at_ K "_law_fixed"))) := by
  obtain ⟨fd, F⟩ := c.def_ 22 (d := d__law_fixed) rfl
  exact ⟨defAt_n 60 60 F sc__law_fixed rfl rfl ck__law_fixed rfl fun _ _ _ _ _ _ us hl => match us, hl with | [_], _ => rfl, fun _ => He.glo_ok X G (c.fact 22 (f := .glo "_law_fixed") rfl)⟩
theorem at__law_path (X : K.In h) (G : h.Ns mainGlobals mg) (c : He.SaysD faD fnD K) : DefAt prog K f__law_path (at_ K "_law_path") ∧ (f__law_path.glo = true → mg (Str.ofString "_law_path") = some (.ref (at_ K "_law_path"))) := by
  obtain ⟨fd, F⟩ := c.def_ 23 (d := d__law_path) rfl
  exact ⟨defAt_n 60 60 F sc__law_path rfl rfl ck__law_path rfl fun _ _ _ _ _ _ us hl => match us, hl with | [_], _ => rfl, fun _ => He.glo_ok X G (c.fact 23 (f := .glo "_law_path") rfl)⟩
theorem at__law_plain_test (X : K.In h) (G : h.Ns mainGlobals mg) (c : He.SaysD faD fnD K) : DefAt prog K f__law_plain_test (at_ K "_law_plain_test") ∧ (f__law_plain_test.glo = true → mg (Str.ofString "_law_plain_test") = some (.ref (at_ K "_law_plain_test"))) := by
  obtain ⟨fd, F⟩ := c.def_ 24 (d := d__law_plain_test) rfl
  exact ⟨defAt_n 60 60 F sc__law_plain_test rfl rfl ck__law_plain_test rfl fun _ _ _ _ _ _ us hl => match us, hl with | [_, _], _ => rfl, fun _ => He.glo_ok X G (c.fact 24 (f := .glo "_law_plain_test") rfl)⟩
theorem at_law (X : K.In h) (G : h.Ns mainGlobals mg) (c : He.SaysD faD fnD K) : DefAt prog K f_law (at_ K "law") ∧ (f_law.glo = true → mg (Str.ofString "law") = some (.ref (at_ K "law"))) := by
  obtain ⟨fd, F⟩ := c.def_ 25 (d := d_law) rfl
  exact ⟨defAt_n 60 60 F sc_law rfl rfl ck_law rfl fun _ _ _ _ _ _ us hl => match us, hl with | [_], _ => rfl, fun _ => He.glo_ok X G (c.fact 25 (f := .glo "law") rfl)⟩
theorem pgd (X : K.In h) (G : h.Ns mainGlobals mg) (c : He.SaysD faD fnD K) : PGd prog K mg := by
  exact pgd_of (at_ K) trivial ⟨He.free_ok X G (c.fact 26 (f := .free "len") rfl), He.free_ok X G (c.fact 27 (f := .free "int") rfl), He.free_ok X G (c.fact 28 (f := .free "abs") rfl), He.free_ok X G (c.fact 29 (f := .free "max") rfl), He.free_ok X G (c.fact 30 (f := .free "min") rfl), He.free_ok X G (c.fact 31 (f := .free "list") rfl), He.free_ok X G (c.fact 32 (f := .free "tuple") rfl), He.free_ok X G (c.fact 33 (f := .free "isinstance") rfl), He.free_ok X G (c.fact 34 (f := .free "range") rfl), He.free_ok X G (c.fact 35 (f := .free "enumerate") rfl), He.free_ok X G (c.fact 36 (f := .free "str") rfl), He.free_ok X G (c.fact 37 (f := .free "sorted") rfl), He.free_ok X G (c.fact 38 (f := .free "set") rfl), He.free_ok X G (c.fact 39 (f := .free "sum") rfl), He.free_ok X G (c.fact 40 (f := .free "any") rfl), He.free_ok X G (c.fact 41 (f := .free "all") rfl), He.free_ok X G (c.fact 42 (f := .free "bool") rfl), He.free_ok X G (c.fact 43 (f := .free "dict") rfl), trivial⟩ ⟨(let ⟨t, e⟩ := He.int_ok X G (c.fact 44 (f := .int "LAST_TIME" 9999) rfl); ⟨_, V.int 9999, e, ⟨t, rfl⟩, fun _ _ => .int _⟩), trivial⟩ ⟨at_fixed_tests X G c, at_times_path X G c, at_path_of X G c, at_paths X G c, at__law_mix X G c, at__law_start X G c, at__law_draw X G c, at__law_word X G c, at__law_words X G c, at__law_world X G c, at__law_value X G c, at__law_time X G c, at__law_name X G c, at__law_operand X G c, at__law_test X G c, at__law_tree X G c, at__law_condition X G c, at__law_source X G c, at__law_shape X G c, at__law_columns_of X G c, at__law_question X G c, at__law_same X G c, at__law_fixed X G c, at__law_path X G c, at__law_plain_test X G c, at_law X G c, trivial⟩ trivial
end
end LawP
namespace LawP
open PySem PySem.Spec PyProof.Rows L2 Sb
theorem facts {n : Nat} (spec : ∀ ns : List Int, ns.length ≤ 63 → ∃ M', evCall prog n "law" [.rol (ns.map .int)] [] = .ok (.bl true) M') {w : World} {K : PySem.W.Frag} {h : Heap} {mg : Str → Option Value} {f : Addr} (X : K.In h) (G : h.Ns mainGlobals mg) (hfa : mg (Str.ofString "law") = some (.ref f)) (c : He.SaysD faD fnD K) :
    ∃ K fd sp, K.In h ∧ (∀ (s : Shared) (u : Value), BindsTo s fd { pos := [u] } [(Str.ofString "_law_script", u)]) ∧
      (∀ (H : L2.Hp) (a : Addr) (ns : List Int), ns.length ≤ 63 → L2.Only H → L2.SqL K H a (List.map L2.V.int ns) → sp [L2.V.ref a] H (fun v x => v = L2.V.bl true) fun x x_1 x_2 => False) ∧
      ∀ (base : Heap), K.In base → base.Ns mainGlobals mg → L2.FnOk (PySem.Challenge.rw_shedbook_k44_paths_of_questions).prog w K mg base (CXw (PySem.Challenge.rw_shedbook_k44_paths_of_questions).prog) (2 * n + 1) f fd [Str.ofString "_law_script"] sp := by
  have pg := pgd X G c
  obtain ⟨fd, F⟩ := c.def_ 25 (d := d_law) rfl
  obtain ⟨da, hg⟩ := at_law X G c
  have e := hfa.symm.trans (hg rfl)
  cases e
  have hb : ∀ (s : Shared) (us : List Value), us.length = 1 → BindsTo s fd { pos := us } ([Str.ofString "_law_script"].zip us) := FunD.bindsA (ps := [Str.ofString "_law_script"]) F fun _ _ _ _ _ _ us hl => match us, hl with | [_], _ => rfl
  have lv : ∀ base : Heap, FnOk (PySem.Challenge.rw_shedbook_k44_paths_of_questions).prog w K mg base (L2.CX (PySem.Challenge.rw_shedbook_k44_paths_of_questions).prog w) (2 * n + 1) (at_ K "law") fd [Str.ofString "_law_script"] (spF ⟨(PySem.Challenge.rw_shedbook_k44_paths_of_questions).prog, w, K⟩ (evCall prog n) "law" 1) := fun base =>
    fnOk_at pg n (f := "law") (fd := f_law) rfl F sc_law rfl rfl ⟨60, 60, ck_law⟩
  exact ⟨K, fd, _, X, fun s u => hb s [u] rfl, fun H a ns hl ho hs => sp_law ho hs (spec ns hl), fun base _ _ => fnOk_w (lv base)⟩
end LawP
end
section
set_option linter.all false
set_option maxRecDepth 100000
namespace GenF
open Sb
def f__law_mix : Fn := ⟨1, 2, [], (.cons (.asg (.loc 1) (.bin .mod (.blt "int" (.cons (.bin .add (.bin .mul (.blt "int" (.cons (.loc 0) .nil)) (.cst (.int 48271))) (.cst (.int 11))) .nil)) (.cst (.int 2147483647)))) (.cons (.ret (.bin .mod (.blt "int" (.cons (.bin .add (.bin .add (.bin .mul (.loc 1) (.cst (.int 69621))) (.bin .mul (.bin .fdiv (.loc 1) (.cst (.int 127773))) (.cst (.int 7)))) (.cst (.int 12345))) .nil)) (.cst (.int 2147483629)))) .nil)), true⟩
def f__law_start : Fn := ⟨1, 1, [], (.cons (.ret (.lst (.cons (.blt "list" (.cons (.loc 0) .nil)) (.cons (.cst (.int 0)) (.cons (.cst (.int 0)) (.cons (.cst (.int 0)) (.cons (.cst (.int 0)) .nil))))))) .nil), true⟩
def f__law_draw : Fn := ⟨2, 3, [], (.cons (.asg (.idx (.loc 0) (.cst (.int 3))) (.bin .add (.idx (.loc 0) (.cst (.int 3))) (.cst (.int 1)))) (.cons (.iff (.cmp .eq (.idx (.loc 0) (.cst (.int 2))) (.cst (.int 0))) (.cons (.iff (.cmp .lt (.idx (.loc 0) (.cst (.int 1))) (.blt "len" (.cons (.idx (.loc 0) (.cst (.int 0))) .nil))) (.cons (.asg (.idx (.loc 0) (.cst (.int 4))) (.idx (.idx (.loc 0) (.cst (.int 0))) (.idx (.loc 0) (.cst (.int 1))))) (.cons (.asg (.idx (.loc 0) (.cst (.int 1))) (.bin .add (.idx (.loc 0) (.cst (.int 1))) (.cst (.int 1)))) (.cons (.iff (.cmp .ge (.idx (.loc 0) (.cst (.int 4))) (.bin .pow (.cst (.int 10)) (.cst (.int 18)))) (.cons (.asg (.idx (.loc 0) (.cst (.int 2))) (.idx (.loc 0) (.cst (.int 4)))) .nil) .nil) .nil))) .nil) .nil) .nil) (.cons (.iff (.cmp .gt (.idx (.loc 0) (.cst (.int 2))) (.cst (.int 0))) (.cons (.asg (.loc 2) (.bin .mod (.blt "int" (.cons (.idx (.loc 0) (.cst (.int 2))) .nil)) (.loc 1))) (.cons (.asg (.idx (.loc 0) (.cst (.int 2))) (.bin .fdiv (.idx (.loc 0) (.cst (.int 2))) (.loc 1))) (.cons (.ret (.loc 2)) .nil))) .nil) (.cons (.ret (.bin .mod (.blt "int" (.cons (.call "_law_mix" (.cons (.call "_law_mix" (.cons (.bin .add (.blt "int" (.cons (.idx (.loc 0) (.cst (.int 4))) .nil)) (.bin .mul (.cst (.int 7919)) (.idx (.loc 0) (.cst (.int 3))))) .nil)) .nil)) .nil)) (.loc 1))) .nil)))), true⟩
def f__law_word : Fn := ⟨2, 4, [], (.cons (.asg (.loc 2) (.loc 1)) (.cons (.for (.loc 3) (.rng (.cst (.int 0)) (.idx (.lst (.cons (.cst (.int 0)) (.cons (.cst (.int 1)) (.cons (.cst (.int 2)) (.cons (.cst (.int 3)) (.cons (.cst (.int 11)) .nil)))))) (.call "_law_draw" (.cons (.loc 0) (.cons (.cst (.int 5)) .nil))))) (.cons (.asg (.loc 2) (.bin .add (.idx (.cst (.str [97, 98, 99, 100, 101, 102, 103, 104, 105, 106, 107, 108, 109, 110, 111, 112, 113, 114, 115, 116, 117, 118, 119, 120, 121, 122])) (.call "_law_draw" (.cons (.loc 0) (.cons (.cst (.int 26)) .nil)))) (.loc 2))) .nil)) (.cons (.ret (.loc 2)) .nil))), true⟩
def f__law_words : Fn := ⟨2, 6, [], (.cons (.asg (.loc 2) (.cst (.str [103, 104, 107, 112, 113, 120, 122]))) (.cons (.iff (.cmp .eq (.call "_law_draw" (.cons (.loc 0) (.cons (.cst (.int 2)) .nil))) (.cst (.int 0))) (.cons (.ret (.comp (.loc 5) (.rng (.cst (.int 0)) (.loc 1)) (.cst (.bl true)) (.call "_law_word" (.cons (.loc 0) (.cons (.idx (.loc 2) (.loc 5)) .nil))))) .nil) .nil) (.cons (.asg (.loc 3) (.call "_law_word" (.cons (.loc 0) (.cons (.cst (.str [103])) .nil)))) (.cons (.asg (.loc 4) (.call "_law_draw" (.cons (.loc 0) (.cons (.blt "len" (.cons (.loc 3) .nil)) .nil)))) (.cons (.ret (.comp (.loc 5) (.rng (.cst (.int 0)) (.loc 1)) (.cst (.bl true)) (.bin .add (.bin .add (.slc (.loc 3) (.cst .non) (.loc 4)) (.idx (.loc 2) (.loc 5))) (.slc (.loc 3) (.bin .add (.loc 4) (.cst (.int 1))) (.cst .non))))) .nil))))), true⟩
def f__law_world : Fn := ⟨1, 2, [], (.cons (.asg (.loc 1) (.ite (.cmp .eq (.call "_law_draw" (.cons (.loc 0) (.cons (.cst (.int 8)) .nil))) (.cst (.int 1))) (.cst (.int 6)) (.cst (.int 3)))) (.cons (.ret (.lst (.cons (.call "_law_words" (.cons (.loc 0) (.cons (.cst (.int 3)) .nil))) (.cons (.call "_law_words" (.cons (.loc 0) (.cons (.cst (.int 3)) .nil))) (.cons (.call "_law_words" (.cons (.loc 0) (.cons (.loc 1) .nil))) (.cons (.call "_law_words" (.cons (.loc 0) (.cons (.cst (.int 3)) .nil))) .nil)))))) .nil)), true⟩
def f__law_value : Fn := ⟨2, 3, [], (.cons (.asg (.loc 2) (.call "_law_draw" (.cons (.loc 0) (.cons (.cst (.int 8)) .nil)))) (.cons (.iff (.cmp .lt (.loc 2) (.cst (.int 4))) (.cons (.ret (.call "_law_draw" (.cons (.loc 0) (.cons (.cst (.int 4)) .nil)))) .nil) .nil) (.cons (.iff (.cmp .eq (.loc 2) (.cst (.int 4))) (.cons (.ret (.bin .sub (.call "_law_draw" (.cons (.loc 0) (.cons (.cst (.int 1999999)) .nil))) (.cst (.int 999999)))) .nil) .nil) (.cons (.iff (.cmp .eq (.loc 2) (.cst (.int 5))) (.cons (.ret (.idx (.lst (.cons (.neg (.cst (.int 999999))) (.cons (.cst (.int 999999)) (.cons (.cst (.int 0)) (.cons (.neg (.cst (.int 1))) .nil))))) (.call "_law_draw" (.cons (.loc 0) (.cons (.cst (.int 4)) .nil))))) .nil) .nil) (.cons (.ret (.idx (.idx (.loc 1) (.cst (.int 3))) (.call "_law_draw" (.cons (.loc 0) (.cons (.cst (.int 3)) .nil))))) .nil))))), true⟩
def f__law_time : Fn := ⟨1, 2, [], (.cons (.asg (.loc 1) (.call "_law_draw" (.cons (.loc 0) (.cons (.cst (.int 8)) .nil)))) (.cons (.iff (.cmp .eq (.loc 1) (.cst (.int 1))) (.cons (.ret (.bin .sub (.cst (.int 9999)) (.call "_law_draw" (.cons (.loc 0) (.cons (.cst (.int 4)) .nil))))) .nil) .nil) (.cons (.iff (.cmp .eq (.loc 1) (.cst (.int 2))) (.cons (.ret (.call "_law_draw" (.cons (.loc 0) (.cons (.cst (.int 10000)) .nil)))) .nil) .nil) (.cons (.ret (.call "_law_draw" (.cons (.loc 0) (.cons (.cst (.int 7)) .nil)))) .nil)))), true⟩
def f__law_name : Fn := ⟨2, 4, [], (.cons (.asg (.loc 2) (.idx (.lst (.cons (.cst (.str [116, 104, 105, 115])) (.cons (.cst (.str [116, 104, 105, 115])) (.cons (.cst (.str [116, 104, 97, 116])) .nil)))) (.call "_law_draw" (.cons (.loc 0) (.cons (.cst (.int 3)) .nil))))) (.cons (.asg (.loc 3) (.call "_law_draw" (.cons (.loc 0) (.cons (.cst (.int 6)) .nil)))) (.cons (.iff (.cmp .lt (.loc 3) (.cst (.int 3))) (.cons (.ret (.tup (.cons (.loc 2) (.cons (.idx (.lst (.cons (.cst (.str [116, 105, 109, 101])) (.cons (.cst (.str [115, 101, 114, 105, 97, 108])) (.cons (.cst (.str [115, 117, 98, 106, 101, 99, 116])) .nil)))) (.loc 3)) .nil)))) .nil) .nil) (.cons (.ret (.tup (.cons (.loc 2) (.cons (.idx (.idx (.loc 1) (.cst (.int 2))) (.call "_law_draw" (.cons (.loc 0) (.cons (.blt "len" (.cons (.idx (.loc 1) (.cst (.int 2))) .nil)) .nil)))) .nil)))) .nil)))), true⟩
def f__law_operand : Fn := ⟨2, 3, [], (.cons (.asg (.loc 2) (.call "_law_draw" (.cons (.loc 0) (.cons (.cst (.int 4)) .nil)))) (.cons (.iff (.cmp .eq (.loc 2) (.cst (.int 0))) (.cons (.ret (.tup (.cons (.cst (.str [118, 97, 108, 117, 101])) (.cons (.idx (.idx (.loc 1) (.cst (.int 1))) (.call "_law_draw" (.cons (.loc 0) (.cons (.cst (.int 3)) .nil)))) .nil)))) .nil) .nil) (.cons (.iff (.cmp .eq (.loc 2) (.cst (.int 1))) (.cons (.ret (.call "_law_name" (.cons (.loc 0) (.cons (.loc 1) .nil)))) .nil) .nil) (.cons (.ret (.tup (.cons (.cst (.str [118, 97, 108, 117, 101])) (.cons (.call "_law_value" (.cons (.loc 0) (.cons (.loc 1) .nil))) .nil)))) .nil)))), true⟩
def f__law_test : Fn := ⟨2, 4, [], (.cons (.asg (.loc 2) (.idx (.lst (.cons (.cst (.str [105, 115])) (.cons (.cst (.str [105, 115])) (.cons (.cst (.str [100, 105, 102, 102, 101, 114, 115])) (.cons (.cst (.str [98, 101, 108, 111, 119])) (.cons (.cst (.str [97, 98, 111, 118, 101])) .nil)))))) (.call "_law_draw" (.cons (.loc 0) (.cons (.cst (.int 5)) .nil))))) (.cons (.asg (.loc 3) (.ite (.cmp .gt (.call "_law_draw" (.cons (.loc 0) (.cons (.cst (.int 6)) .nil))) (.cst (.int 0))) (.call "_law_name" (.cons (.loc 0) (.cons (.loc 1) .nil))) (.call "_law_operand" (.cons (.loc 0) (.cons (.loc 1) .nil))))) (.cons (.ret (.tup (.cons (.cst (.str [116, 101, 115, 116])) (.cons (.loc 3) (.cons (.loc 2) (.cons (.call "_law_operand" (.cons (.loc 0) (.cons (.loc 1) .nil))) .nil)))))) .nil))), true⟩
def f__law_tree : Fn := ⟨3, 6, [], (.cons (.asg (.loc 3) (.call "_law_draw" (.cons (.loc 0) (.cons (.cst (.int 6)) .nil)))) (.cons (.iff (.or (.cmp .lt (.loc 3) (.cst (.int 2))) (.cmp .eq (.loc 2) (.cst (.int 0)))) (.cons (.ret (.call "_law_test" (.cons (.loc 0) (.cons (.loc 1) .nil)))) .nil) .nil) (.cons (.iff (.cmp .eq (.loc 3) (.cst (.int 2))) (.cons (.ret (.tup (.cons (.cst (.str [110, 101, 103, 97, 116, 101])) (.cons (.call "_law_tree" (.cons (.loc 0) (.cons (.loc 1) (.cons (.bin .sub (.loc 2) (.cst (.int 1))) .nil)))) .nil)))) .nil) .nil) (.cons (.asg (.loc 4) (.comp (.loc 5) (.rng (.cst (.int 0)) (.bin .add (.cst (.int 2)) (.call "_law_draw" (.cons (.loc 0) (.cons (.cst (.int 2)) .nil))))) (.cst (.bl true)) (.call "_law_tree" (.cons (.loc 0) (.cons (.loc 1) (.cons (.bin .sub (.loc 2) (.cst (.int 1))) .nil)))))) (.cons (.ret (.tup (.cons (.idx (.lst (.cons (.cst (.str [97, 110, 100])) (.cons (.cst (.str [97, 110, 100])) (.cons (.cst (.str [111, 114])) .nil)))) (.bin .sub (.loc 3) (.cst (.int 3)))) (.cons (.blt "tuple" (.cons (.loc 4) .nil)) .nil)))) .nil))))), true⟩
def f__law_condition : Fn := ⟨2, 5, [], (.cons (.asg (.loc 2) (.call "_law_tree" (.cons (.loc 0) (.cons (.loc 1) (.cons (.cst (.int 2)) .nil))))) (.cons (.for (.loc 3) (.rng (.cst (.int 0)) (.call "_law_draw" (.cons (.loc 0) (.cons (.cst (.int 3)) .nil)))) (.cons (.asg (.loc 4) (.call "_law_draw" (.cons (.loc 0) (.cons (.cst (.int 3)) .nil)))) (.cons (.iff (.cmp .eq (.loc 4) (.cst (.int 0))) (.cons (.asg (.loc 2) (.tup (.cons (.cst (.str [110, 101, 103, 97, 116, 101])) (.cons (.loc 2) .nil)))) .nil) (.cons (.iff (.cmp .eq (.loc 4) (.cst (.int 1))) (.cons (.asg (.loc 2) (.tup (.cons (.cst (.str [97, 110, 100])) (.cons (.tup (.cons (.call "_law_test" (.cons (.loc 0) (.cons (.loc 1) .nil))) (.cons (.loc 2) .nil))) .nil)))) .nil) (.cons (.asg (.loc 2) (.tup (.cons (.cst (.str [111, 114])) (.cons (.tup (.cons (.loc 2) (.cons (.call "_law_test" (.cons (.loc 0) (.cons (.loc 1) .nil))) .nil))) .nil)))) .nil)) .nil)) .nil))) (.cons (.ret (.loc 2)) .nil))), true⟩
def f__law_source : Fn := ⟨2, 6, [], (.cons (.asg (.loc 2) (.call "_law_draw" (.cons (.loc 0) (.cons (.cst (.int 3)) .nil)))) (.cons (.asg (.loc 3) (.comp (.loc 5) (.rng (.cst (.int 0)) (.bin .add (.cst (.int 2)) (.call "_law_draw" (.cons (.loc 0) (.cons (.cst (.int 3)) .nil))))) (.cst (.bl true)) (.idx (.idx (.loc 1) (.cst (.int 0))) (.call "_law_draw" (.cons (.loc 0) (.cons (.cst (.int 3)) .nil)))))) (.cons (.asg (.loc 4) (.idx (.lst (.cons (.cst (.int 0)) (.cons (.cst (.int 1)) (.cons (.cst (.int 3)) (.cons (.cst (.int 9999)) (.cons (.call "_law_draw" (.cons (.loc 0) (.cons (.cst (.int 10000)) .nil))) .nil)))))) (.call "_law_draw" (.cons (.loc 0) (.cons (.cst (.int 5)) .nil))))) (.cons (.iff (.cmp .eq (.loc 2) (.cst (.int 0))) (.cons (.ret (.tup (.cons (.cst (.str [111, 102])) (.cons (.idx (.loc 3) (.cst (.int 0))) .nil)))) .nil) .nil) (.cons (.iff (.cmp .eq (.loc 2) (.cst (.int 1))) (.cons (.ret (.tup (.cons (.cst (.str [112, 97, 105, 114, 115])) (.cons (.idx (.loc 3) (.cst (.int 0))) (.cons (.idx (.loc 3) (.cst (.int 1))) (.cons (.loc 4) .nil)))))) .nil) .nil) (.cons (.ret (.tup (.cons (.cst (.str [99, 104, 97, 105, 110, 115])) (.cons (.blt "tuple" (.cons (.loc 3) .nil)) (.cons (.loc 4) .nil))))) .nil)))))), true⟩
def f__law_shape : Fn := ⟨2, 7, [], (.cons (.iff (.cmp .eq (.call "_law_draw" (.cons (.loc 0) (.cons (.cst (.int 2)) .nil))) (.cst (.int 0))) (.cons (.ret (.tup (.cons (.cst (.str [114, 111, 119, 115])) (.cons (.blt "tuple" (.cons (.comp (.loc 5) (.rng (.cst (.int 0)) (.bin .add (.cst (.int 1)) (.call "_law_draw" (.cons (.loc 0) (.cons (.cst (.int 6)) .nil))))) (.cst (.bl true)) (.call "_law_name" (.cons (.loc 0) (.cons (.loc 1) .nil)))) .nil)) .nil)))) .nil) .nil) (.cons (.asg (.loc 2) (.idx (.lst (.cons (.cst (.int 0)) (.cons (.cst (.int 0)) (.cons (.cst (.int 1)) (.cons (.cst (.int 2)) (.cons (.cst (.int 9999)) (.cons (.bin .add (.cst (.int 1)) (.call "_law_draw" (.cons (.loc 0) (.cons (.cst (.int 9999)) .nil)))) .nil))))))) (.call "_law_draw" (.cons (.loc 0) (.cons (.cst (.int 6)) .nil))))) (.cons (.asg (.loc 3) (.comp (.loc 5) (.rng (.cst (.int 0)) (.call "_law_draw" (.cons (.loc 0) (.cons (.cst (.int 5)) .nil)))) (.cst (.bl true)) (.call "_law_name" (.cons (.loc 0) (.cons (.loc 1) .nil))))) (.cons (.asg (.loc 4) (.lst .nil)) (.cons (.for (.loc 5) (.rng (.cst (.int 0)) (.bin .add (.cst (.int 1)) (.call "_law_draw" (.cons (.loc 0) (.cons (.cst (.int 6)) .nil))))) (.cons (.asg (.loc 6) (.idx (.lst (.cons (.cst (.str [99, 111, 117, 110, 116])) (.cons (.cst (.str [115, 117, 109])) (.cons (.cst (.str [108, 101, 97, 115, 116])) (.cons (.cst (.str [103, 114, 101, 97, 116, 101, 115, 116])) (.cons (.cst (.str [117, 110, 108, 105, 107, 101])) .nil)))))) (.call "_law_draw" (.cons (.loc 0) (.cons (.cst (.int 5)) .nil))))) (.cons (.iff (.cmp .eq (.loc 6) (.cst (.str [99, 111, 117, 110, 116]))) (.cons (.exp (.met (.loc 4) "append" (.cons (.tup (.cons (.cst (.str [99, 111, 117, 110, 116])) .nil)) .nil))) .nil) (.cons (.exp (.met (.loc 4) "append" (.cons (.tup (.cons (.loc 6) (.cons (.call "_law_name" (.cons (.loc 0) (.cons (.loc 1) .nil))) .nil))) .nil))) .nil)) .nil))) (.cons (.ret (.tup (.cons (.cst (.str [103, 114, 111, 117, 112, 115])) (.cons (.loc 2) (.cons (.blt "tuple" (.cons (.loc 3) .nil)) (.cons (.blt "tuple" (.cons (.loc 4) .nil)) .nil)))))) .nil)))))), true⟩
def f__law_columns_of : Fn := ⟨1, 1, [], (.cons (.iff (.cmp .eq (.idx (.loc 0) (.cst (.int 0))) (.cst (.str [114, 111, 119, 115]))) (.cons (.ret (.blt "len" (.cons (.idx (.loc 0) (.cst (.int 1))) .nil))) .nil) .nil) (.cons (.ret (.bin .add (.bin .add (.blt "int" (.cons (.cmp .gt (.idx (.loc 0) (.cst (.int 1))) (.cst (.int 0))) .nil)) (.blt "len" (.cons (.idx (.loc 0) (.cst (.int 2))) .nil))) (.blt "len" (.cons (.idx (.loc 0) (.cst (.int 3))) .nil)))) .nil)), true⟩
def f__law_question : Fn := ⟨2, 7, [], (.cons (.asg (.loc 2) (.call "_law_source" (.cons (.loc 0) (.cons (.loc 1) .nil)))) (.cons (.asg (.loc 3) (.tup (.cons (.cst (.str [97, 108, 108])) .nil))) (.cons (.iff (.cmp .gt (.call "_law_draw" (.cons (.loc 0) (.cons (.cst (.int 4)) .nil))) (.cst (.int 0))) (.cons (.asg (.loc 3) (.call "_law_condition" (.cons (.loc 0) (.cons (.loc 1) .nil)))) .nil) .nil) (.cons (.asg (.loc 4) (.call "_law_shape" (.cons (.loc 0) (.cons (.loc 1) .nil)))) (.cons (.asg (.loc 5) (.tup .nil)) (.cons (.iff (.cmp .eq (.call "_law_draw" (.cons (.loc 0) (.cons (.cst (.int 3)) .nil))) (.cst (.int 0))) (.cons (.asg (.loc 5) (.tup (.cons (.call "_law_draw" (.cons (.loc 0) (.cons (.call "_law_columns_of" (.cons (.loc 4) .nil)) .nil))) (.cons (.idx (.lst (.cons (.cst (.str [117, 112])) (.cons (.cst (.str [100, 111, 119, 110])) .nil))) (.call "_law_draw" (.cons (.loc 0) (.cons (.cst (.int 2)) .nil)))) .nil)))) .nil) .nil) (.cons (.asg (.loc 6) (.idx (.lst (.cons (.cst (.int 0)) (.cons (.cst (.int 0)) (.cons (.cst (.int 0)) (.cons (.cst (.int 1)) (.cons (.cst (.int 2)) (.cons (.cst (.int 999)) .nil))))))) (.call "_law_draw" (.cons (.loc 0) (.cons (.cst (.int 6)) .nil))))) (.cons (.ret (.tup (.cons (.loc 2) (.cons (.loc 3) (.cons (.loc 4) (.cons (.loc 5) (.cons (.loc 6) .nil))))))) .nil)))))))), true⟩
def f__law_same : Fn := ⟨2, 3, [], (.cons (.iff (.cmp .is (.loc 1) (.cst .non)) (.cons (.ret (.cmp .is (.loc 0) (.cst .non))) .nil) .nil) (.cons (.iff (.cmp .is (.loc 1) (.cst (.bl true))) (.cons (.ret (.cmp .is (.loc 0) (.cst (.bl true)))) .nil) .nil) (.cons (.iff (.cmp .is (.loc 1) (.cst (.bl false))) (.cons (.ret (.cmp .is (.loc 0) (.cst (.bl false)))) .nil) .nil) (.cons (.iff (.isi (.loc 1) "str") (.cons (.ret (.and (.isi (.loc 0) "str") (.cmp .eq (.loc 0) (.loc 1)))) .nil) .nil) (.cons (.iff (.isi (.loc 1) "int") (.cons (.ret (.and (.isi (.loc 0) "int") (.and (.not (.isi (.loc 0) "bool")) (.cmp .eq (.loc 0) (.loc 1))))) .nil) .nil) (.cons (.iff (.isi (.loc 1) "tuple") (.cons (.iff (.not (.isi (.loc 0) "tuple")) (.cons (.ret (.cst (.bl false))) .nil) .nil) .nil) (.cons (.iff (.not (.isi (.loc 0) "list")) (.cons (.ret (.cst (.bl false))) .nil) .nil) .nil)) (.cons (.iff (.cmp .ne (.blt "len" (.cons (.loc 0) .nil)) (.blt "len" (.cons (.loc 1) .nil))) (.cons (.ret (.cst (.bl false))) .nil) .nil) (.cons (.for (.loc 2) (.rng (.cst (.int 0)) (.blt "len" (.cons (.loc 1) .nil))) (.cons (.iff (.not (.call "_law_same" (.cons (.idx (.loc 0) (.loc 2)) (.cons (.idx (.loc 1) (.loc 2)) .nil)))) (.cons (.ret (.cst (.bl false))) .nil) .nil) .nil)) (.cons (.ret (.cst (.bl true))) .nil))))))))), true⟩
structure Has (g : G) : Prop where
  f__law_mix : g.fn "_law_mix" = some f__law_mix
  f__law_start : g.fn "_law_start" = some f__law_start
  f__law_draw : g.fn "_law_draw" = some f__law_draw
  f__law_word : g.fn "_law_word" = some f__law_word
  f__law_words : g.fn "_law_words" = some f__law_words
  f__law_world : g.fn "_law_world" = some f__law_world
  f__law_value : g.fn "_law_value" = some f__law_value
  f__law_time : g.fn "_law_time" = some f__law_time
  f__law_name : g.fn "_law_name" = some f__law_name
  f__law_operand : g.fn "_law_operand" = some f__law_operand
  f__law_test : g.fn "_law_test" = some f__law_test
  f__law_tree : g.fn "_law_tree" = some f__law_tree
  f__law_condition : g.fn "_law_condition" = some f__law_condition
  f__law_source : g.fn "_law_source" = some f__law_source
  f__law_shape : g.fn "_law_shape" = some f__law_shape
  f__law_columns_of : g.fn "_law_columns_of" = some f__law_columns_of
  f__law_question : g.fn "_law_question" = some f__law_question
  f__law_same : g.fn "_law_same" = some f__law_same
end GenF
end
section
set_option linter.all false
set_option maxRecDepth 100000
set_option maxHeartbeats 400000
namespace GenF
open Sb
theorem mulR {M : List Ob} {i j : Int} {Q : Post} (h : -pow64 < j ∧ j < pow64) (q : Q (.int (i * j)) M) : Wp (bop .mul (.int i) (.int j)) M Q := .bind (.ask (.inr h) (.pure q))
theorem mulL {M : List Ob} {i j : Int} {Q : Post} (h : -pow64 < i ∧ i < pow64) (q : Q (.int (i * j)) M) : Wp (bop .mul (.int i) (.int j)) M Q := .bind (.ask (.inl h) (.pure q))
theorem modI {M : List Ob} {i j : Int} {Q : Post} (h : 0 < j) (q : Q (.int (i % j)) M) : Wp (bop .mod (.int i) (.int j)) M Q := .bind (.ask h (.pure q))
theorem fdivI {M : List Ob} {i j : Int} {Q : Post} (h : 0 < j ∧ j < 1073741824) (q : Q (.int (i / j)) M) : Wp (bop .fdiv (.int i) (.int j)) M Q := .bind (.ask h (.pure q))
def il (xs : List Int) : Ob := .lst (xs.map .int)
theorem at_new {M : List Ob} {o : Ob} : (M ++ [o])[M.length]? = some o := by simp
theorem app_get {M N : List Ob} {i : Nat} {o : Ob} (h : M[i]? = some o) : (M ++ N)[i]? = some o := by
  rw [List.getElem?_append_left (List.getElem?_eq_some_iff.mp h).1]; exact h
theorem lt_of {M : List Ob} {i : Nat} {o : Ob} (h : M[i]? = some o) : i < M.length := (List.getElem?_eq_some_iff.mp h).1
structure Fx (d : Nat) (M M' : List Ob) : Prop where
  len : M.length ≤ M'.length
  at_ : ∀ i o, i ≠ d → M[i]? = some o → M'[i]? = some o
theorem Fx.refl {d : Nat} {M : List Ob} : Fx d M M := ⟨Nat.le_refl _, fun _ _ _ h => h⟩
theorem Fx.trans {d : Nat} {M M1 M2 : List Ob} (a : Fx d M M1) (b : Fx d M1 M2) : Fx d M M2 := ⟨Nat.le_trans a.len b.len, fun i o hi h => b.at_ i o hi (a.at_ i o hi h)⟩
theorem Fx.app {d : Nat} {M N : List Ob} : Fx d M (M ++ N) := ⟨by simp, fun _ _ _ h => app_get h⟩
theorem Fx.set {d : Nat} {M : List Ob} {o : Ob} : Fx d M (M.set d o) := ⟨by simp, fun i u hi h => by rw [List.getElem?_set_ne (Ne.symm hi)]; exact h⟩
structure En (d : Nat) (M : List Ob) : Prop where
  ex : ∃ (s : Nat) (xs : List Int) (a b c e : Int), M[d]? = some (.lst [.ref s, .int a, .int b, .int c, .int e]) ∧ M[s]? = some (il xs) ∧ s < d ∧ 0 ≤ a ∧ 0 ≤ b
theorem En.lt {d : Nat} {M : List Ob} (h : En d M) : d < M.length := by
  obtain ⟨s, xs, a, b, c, e, h, _⟩ := h.ex; exact lt_of h
theorem En.app {d : Nat} {M N : List Ob} (h : En d M) : En d (M ++ N) := by
  obtain ⟨s, xs, a, b, c, e, h1, h2, h3⟩ := h.ex
  exact ⟨s, xs, a, b, c, e, app_get h1, app_get h2, h3⟩
section
variable {g : G} (H : Has g) {n d : Nat} {M : List Ob}
include H
theorem mix_ok (x : Int) {Q : Post} (q : ∀ v : Int, Q (.int v) M) : Wp (evCall g (n + 1) "_law_mix" [.int x]) M Q := by
  refine Wp.call H.f__law_mix ⟨Nat.le_of_ble_eq_true rfl, Nat.le_of_ble_eq_true rfl, Nat.le_of_ble_eq_true rfl⟩ ?_
  refine Wp.pure (mulR (by decide) (Wp.pure (Wp.pure (modI (by decide) ?_))))
  refine mulR (by decide) (fdivI (by decide) (mulR (by decide) (Wp.pure (Wp.pure (Wp.pure (modI (by decide) ?_))))))
  exact q _
theorem start_ok (ns : List Int) {Q : Post} (q : En (M.length + 1) (M ++ [il ns] ++ [.lst [.ref M.length, .int 0, .int 0, .int 0, .int 0]]) → Q (.ref (M.length + 1)) (M ++ [il ns] ++ [.lst [.ref M.length, .int 0, .int 0, .int 0, .int 0]])) : Wp (evCall g (n + 1) "_law_start" [.rol (ns.map .int)]) M Q := by
  refine Wp.call H.f__law_start ⟨Nat.le_of_ble_eq_true rfl, Nat.le_of_ble_eq_true rfl, Nat.le_of_ble_eq_true rfl⟩ ?_
  refine Wp.bind (Wp.pure (Wp.new ?_))
  refine ⟨by show 5 ≤ lim; decide, ?_⟩
  have e : (M ++ [il ns]).length = M.length + 1 := by simp
  have := q ⟨M.length, ns, 0, 0, 0, 0, by rw [← e]; exact at_new, app_get at_new, by omega, Int.le_refl _, Int.le_refl _⟩
  rw [← e] at this
  exact this
omit H in
theorem idxL {d : Nat} {ds : List D} {i : Int} {v : D} {Q : Post} (h : M[d]? = some (.lst ds)) (e : atIx ds i = some v) (q : Q v M) : Wp (index (.ref d) (.int i)) M Q := .bind (.get h (.opt e q))
omit H in
theorem setL {d : Nat} {ds : List D} {i : Int} {j : Nat} {v : D} {Q : Unit → List Ob → Prop} (h : M[d]? = some (.lst ds)) (e : ixOf ds.length i = some j) (q : Q () (M.set d (.lst (ds.set j v)))) : Wp (setItem (.ref d) (.int i) v) M Q := .bind (.get h (.bind (.opt e (.put (lt_of h) q))))
def drt : CSs := match f__law_draw.body with
  | .cons _ (.cons _ t) => t
  | _ => .nil
omit H in
theorem set_self {M : List Ob} {d : Nat} {o : Ob} (h : d < M.length) : (M.set d o)[d]? = some o := List.getElem?_set_self h
theorem drt_ok {m : Int} (hm : 0 < m ∧ m < 1073741824) {s : Nat} {xs : List Int} {a b c e : Int} (h1 : M[d]? = some (.lst [.ref s, .int a, .int b, .int c, .int e])) (h2 : M[s]? = some (il xs)) (h3 : s < d) (ha : 0 ≤ a) (hb : 0 ≤ b) {Q : Post} (q : ∀ v M', 0 ≤ v → v < m → En d M' → Fx d M M' → Q (.int v) M') :
    wSs g (evCall g (n + 1)) [some (.ref d), some (.int m), none] drt M (fun fl M' => match fl with | .rt d => Q d M' | .nx _ => Q .non M' | _ => False) := by
  have hr : ∀ x : Int, 0 ≤ x % m ∧ x % m < m := fun x => ⟨Int.emod_nonneg _ (by omega), Int.emod_lt_of_pos _ hm.1⟩
  refine idxL h1 (v := .int b) rfl (Wp.gtI (Wp.pure ⟨fun _ => ?_, fun _ => ?_⟩))
  · refine idxL h1 (v := .int b) rfl (Wp.pure (modI hm.1 ?_))
    refine idxL h1 (v := .int b) rfl (fdivI hm ?_)
    refine setL h1 (j := 2) rfl ?_
    exact q _ _ (hr _).1 (hr _).2 ⟨s, xs, a, b / m, c, e, set_self (lt_of h1), by rw [List.getElem?_set_ne (by omega)]; exact h2, h3, ha, Int.ediv_nonneg hb (by omega)⟩ Fx.set
  · refine idxL h1 (v := .int e) rfl (Wp.pure ?_)
    refine idxL h1 (v := .int c) rfl (mulL (by decide) (Wp.pure ?_))
    refine mix_ok H _ fun v1 => mix_ok H _ fun v2 => Wp.pure (modI hm.1 ?_)
    exact q _ _ (hr _).1 (hr _).2 ⟨s, xs, a, b, c, e, h1, h2, h3, ha, hb⟩ Fx.refl
theorem draw_ok (h : En d M) {m : Int} (hm : 0 < m ∧ m < 1073741824) {Q : Post} (q : ∀ v M', 0 ≤ v → v < m → En d M' → Fx d M M' → Q (.int v) M') : Wp (evCall g (n + 2) "_law_draw" [.ref d, .int m]) M Q := by
  obtain ⟨s, xs, a, b, c, e, h1, h2, h3, ha, hb⟩ := h.ex
  refine Wp.call H.f__law_draw ⟨Nat.le_of_ble_eq_true rfl, Nat.le_of_ble_eq_true rfl, Nat.le_of_ble_eq_true rfl⟩ ?_
  refine idxL h1 (v := .int c) rfl (Wp.pure (setL h1 (j := 3) rfl ?_))
  have sets : ∀ {M : List Ob} {o o' : Ob}, d < M.length → M[s]? = some (il xs) → (M.set d o')[s]? = some (il xs) := fun {M o o'} _ h => by rw [List.getElem?_set_ne (by omega)]; exact h
  have g1 : (M.set d (.lst [.ref s, .int a, .int b, .int (c + 1), .int e]))[d]? = some (.lst [.ref s, .int a, .int b, .int (c + 1), .int e]) := set_self (lt_of h1)
  have g2 : (M.set d (.lst [.ref s, .int a, .int b, .int (c + 1), .int e]))[s]? = some (il xs) := sets (o := il xs) (lt_of h1) h2
  refine idxL g1 (v := .int b) rfl (Wp.eqI (Wp.pure ⟨fun c1 => ?_, fun c1 => ?_⟩))
  · refine idxL g1 (v := .int a) rfl ?_
    refine idxL g1 (v := .ref s) rfl ?_
    refine Wp.bind (Wp.get g2 (Wp.pure ?_))
    refine Wp.ltI (Wp.pure ⟨fun c2 => ?_, fun c2 => ?_⟩)
    · have hal : a < xs.length := by have := of_decide_eq_true c2; simpa using this
      obtain ⟨x, hx⟩ : ∃ x : Int, atIx (xs.map D.int) a = some (.int x) := by
        refine ⟨xs[a.toNat]'(by omega), ?_⟩
        unfold atIx ixOf
        rw [if_pos ha, if_pos (by simpa using hal)]
        show (xs.map D.int)[a.toNat]? = _
        rw [List.getElem?_map, List.getElem?_eq_getElem (by omega)]; rfl
      refine idxL g1 (v := .ref s) rfl ?_
      refine idxL g1 (v := .int a) rfl ?_
      refine idxL g2 hx ?_
      refine setL g1 (j := 4) rfl ?_
      rw [List.set_set]
      have k1 : (M.set d (.lst [.ref s, .int a, .int b, .int (c + 1), .int x]))[d]? = some (.lst [.ref s, .int a, .int b, .int (c + 1), .int x]) := set_self (lt_of h1)
      refine idxL k1 (v := .int a) rfl (Wp.pure (setL k1 (j := 1) rfl ?_))
      rw [List.set_set]
      have l1 : (M.set d (.lst [.ref s, .int (a + 1), .int b, .int (c + 1), .int x]))[d]? = some (.lst [.ref s, .int (a + 1), .int b, .int (c + 1), .int x]) := set_self (lt_of h1)
      have l2 : (M.set d (.lst [.ref s, .int (a + 1), .int b, .int (c + 1), .int x]))[s]? = some (il xs) := sets (o := il xs) (lt_of h1) h2
      refine idxL l1 (v := .int x) rfl ?_
      refine Wp.bind (Wp.ask (by decide) (Wp.pure ?_))
      refine Wp.geI (Wp.pure ⟨fun c3 => ?_, fun c3 => ?_⟩)
      · refine idxL l1 (v := .int x) rfl (setL l1 (j := 2) rfl ?_)
        rw [List.set_set]
        have hx0 : 0 ≤ x := by
          have := of_decide_eq_true c3
          have e10 : (10 : Int) ^ (18 : Int).toNat = 1000000000000000000 := by decide
          rw [e10] at this
          omega
        refine drt_ok H hm (set_self (lt_of h1)) (sets (o := il xs) (lt_of h1) h2) h3 (by omega) hx0 fun v M' a1 a2 a4 a5 => q v M' a1 a2 a4 (Fx.set.trans a5)
      · exact drt_ok H hm l1 l2 h3 (by omega) hb fun v M' a1 a2 a4 a5 => q v M' a1 a2 a4 (Fx.set.trans a5)
    · exact drt_ok H hm g1 g2 h3 ha hb fun v M' a1 a2 a4 a5 => q v M' a1 a2 a4 (Fx.set.trans a5)
  · exact drt_ok H hm g1 g2 h3 ha hb fun v M' a1 a2 a4 a5 => q v M' a1 a2 a4 (Fx.set.trans a5)
end
end GenF
end
section
set_option linter.all false
set_option maxRecDepth 100000
set_option maxHeartbeats 400000
namespace GenF
open Sb
theorem comp_range {g : G} {cl : Cls} {ρ : Env} {i d : Nat} {b e : CE} {M : List Ob} {Q : Post} (P : D → Prop)
    (hb : wE g cl (ρ) b M fun x M1 => ∃ v : Int, x = .int v ∧ -1000 ≤ v ∧ v < 1000 ∧ En d M1 ∧ Fx d M M1 ∧ i < ρ.length ∧
      (∀ (k : Int) M2, 0 ≤ k → k < v → En d M2 → Fx d M1 M2 → wE g cl ((wipeE ρ [i]).set i (some (.int k))) e M2 fun r M3 => P r ∧ En d M3 ∧ Fx d M2 M3) ∧
      ∀ (ds : List D) M2 (p : Nat), ds.length = v.toNat → (∀ x ∈ ds, P x) → En d M2 → Fx d M M2 → M.length ≤ p → M2[p]? = some (.lst ds) → Q (.ref p) M2) :
    Wp (ev g cl ρ (.comp (.loc i) (.rng (.cst (.int 0)) b) (.cst (.bl true)) e)) M Q := by
  rw [ev]
  refine Wp.bind (m := evI _ _ _ _) ?_
  rw [evI]
  refine Wp.bind (m := ev _ _ _ _) (wE_ok (c := .cst (.int 0)) ?_)
  refine Wp.bind (m := ev _ _ _ _) ((wE_ok hb).mono fun x M1 z => ?_)
  obtain ⟨v, rfl, v1, v2, en1, f1, hi, hel, q⟩ := z
  refine Wp.bind (Wp.askB (by simp [big62]; omega) (Wp.pure ?_))
  refine Wp.bind (Wp.new ?_)
  have dlt : d < M1.length := en1.lt
  have main : ∀ (es : List D) (acc : List D) (M2 : List Ob), (∀ x ∈ es, ∃ k : Int, x = .int k ∧ 0 ≤ k ∧ k < v) → (∀ x ∈ acc, P x) → es.length + acc.length = v.toNat → En d M2 → Fx d M1 M2 → M2[M1.length]? = some (.lst acc) →
      Wp (compD ⟨rangeD 0 v, none⟩ (.loc i) (wipeE ρ (Tg.loc i).slots) (fun ρ => do let x ← ev g cl ρ (.cst (.bl true)); truth x) (fun ρ => ev g cl ρ e) M1.length es) M2 fun _ M3 => ∃ ds, M3[M1.length]? = some (.lst ds) ∧ ds.length = v.toNat ∧ (∀ x ∈ ds, P x) ∧ En d M3 ∧ Fx d M1 M3 := by
    intro es
    induction es with
    | nil =>
      intro acc M2 _ ha hl en f hp
      rw [compD]
      exact ⟨(), _, rfl, acc, hp, by simpa using hl, ha, en, f⟩
    | cons x es ih =>
      intro acc M2 hes ha hl en f hp
      obtain ⟨k, rfl, k1, k2⟩ := hes x (List.mem_cons_self ..)
      rw [compD]
      refine Wp.bind ⟨(), _, rfl, ?_⟩
      refine Wp.bind (m := setTg _ _ _) ⟨(wipeE ρ [i]).set i (some (.int k)), M2, ?_, ?_⟩
      · show setLoc (wipeE ρ [i]) i (.int k) M2 = _
        unfold setLoc
        rw [if_pos]
        show i < ((wipeE ρ []).set i none).length
        rw [List.length_set]; exact hi
      refine Wp.bind ⟨true, _, rfl, ?_⟩
      refine Wp.bind ((wE_ok (hel k M2 k1 k2 en f)).mono fun r M3 z => ?_)
      obtain ⟨pr, en3, f3⟩ := z
      have hp3 := f3.at_ _ _ (by omega) hp
      refine Wp.bind (Wp.get hp3 ?_)
      refine Wp.bind (Wp.ask (by simp only [List.length_cons] at hl; unfold lim; omega) (Wp.bind (Wp.put (lt_of hp3) ?_)))
      have en4 : En d (M3.set M1.length (.lst (acc ++ [r]))) := by
        obtain ⟨s, xs, a, b, c, e, h1, h2, h3, h4⟩ := en3.ex
        exact ⟨s, xs, a, b, c, e, by rw [List.getElem?_set_ne (by omega)]; exact h1, by rw [List.getElem?_set_ne (by omega)]; exact h2, h3, h4⟩
      have f4 : Fx d M1 (M3.set M1.length (.lst (acc ++ [r]))) := by
        have f13 := f.trans f3
        refine ⟨by rw [List.length_set]; exact f13.len, fun j o hj h => ?_⟩
        rw [List.getElem?_set_ne (by have := lt_of h; omega)]
        exact f13.at_ j o hj h
      refine ih (acc ++ [r]) _ (fun x h => hes x (List.mem_cons_of_mem _ h)) ?_ (by simp only [List.length_append, List.length_cons, List.length_nil] at hl ⊢; omega) en4 f4 (set_self (lt_of hp3))
      intro y hy
      rcases List.mem_append.mp hy with h | h
      · exact ha y h
      · rw [List.mem_singleton.mp h]; exact pr
  refine Wp.bind (Wp.quiet ((main (rangeD 0 v) [] _ (fun x h => ?_) (fun x h => by cases h) ?_ en1.app Fx.app at_new).mono fun _ M3 z => ?_))
  · unfold rangeD at h
    obtain ⟨k, hk, rfl⟩ := List.mem_map.mp h
    have := List.mem_range.mp hk
    exact ⟨_, rfl, by omega, by omega⟩
  · simp [rangeD]
  · obtain ⟨ds, hp, hl, hpp, en3, f3⟩ := z
    exact Wp.pure (q ds M3 M1.length hl hpp en3 (f1.trans f3) f1.len hp)
def isW (n : Nat) (x : D) : Prop := ∃ s : Txt, x = .str s ∧ 1 ≤ s.length ∧ s.length ≤ n
section
variable {g : G} (H : Has g) {n d : Nat} {M : List Ob}
include H
theorem draw_of (h : En d M) {m : Int} (hm : 0 < m ∧ m < 1073741824) {Q : Post} (q : ∀ v M', 0 ≤ v → v < m → En d M' → Fx d M M' → Q (.int v) M') : Wp (evCall g (n + 2) "_law_draw" [.ref d, .int m]) M Q := draw_ok H h hm q
omit H in
theorem strcat {a b : Txt} {Q : Post} (h : a.length + b.length ≤ lim) (q : Q (.str (a ++ b)) M) : Wp (bop .add (.str a) (.str b)) M Q := .bind (.ask h (.pure q))
omit H in
theorem str_at {s : Txt} {v : Int} (h0 : 0 ≤ v) (h1 : v < s.length) {Q : Post} (q : ∀ c, Q (.str [c]) M) : Wp (index (.str s) (.int v)) M Q := by
  have : atIx s v = some (s[v.toNat]'(by omega)) := by
    unfold atIx ixOf
    rw [if_pos h0, if_pos h1]
    exact List.getElem?_eq_getElem _
  refine Wp.opt (a := .str [s[v.toNat]'(by omega)]) ?_ (q _)
  rw [this]; rfl
theorem word_ok (h : En d M) (c : Nat) {Q : Post} (q : ∀ x M', isW 12 x → En d M' → Fx d M M' → Q x M') : Wp (evCall g (n + 3) "_law_word" [.ref d, .str [c]]) M Q := by
  refine Wp.call H.f__law_word ⟨Nat.le_of_ble_eq_true rfl, Nat.le_of_ble_eq_true rfl, Nat.le_of_ble_eq_true rfl⟩ ?_
  refine Wp.for ?_
  refine Wp.bind (m := ev _ _ _ (.cst (.int 0))) (Wp.pure ?_)
  refine Wp.bind (m := ev _ _ _ (.idx _ _)) (wE_ok ?_)
  refine ⟨by show 5 ≤ lim; decide, ?_⟩
  refine draw_ok H (n := n) h.app (by decide) fun v M1 v0 v1 e1 f1 => ?_
  have hl : M1[M.length]? = some (.lst [.int 0, .int 1, .int 2, .int 3, .int 11]) := f1.at_ _ _ (by have := h.lt; omega) at_new
  obtain ⟨k, hk, hk0, hk1⟩ : ∃ k : Int, atIx [D.int 0, D.int 1, D.int 2, D.int 3, D.int 11] v = some (.int k) ∧ 0 ≤ k ∧ k ≤ 11 := by
    have : v = 0 ∨ v = 1 ∨ v = 2 ∨ v = 3 ∨ v = 4 := by omega
    rcases this with rfl | rfl | rfl | rfl | rfl <;> exact ⟨_, rfl, by decide, by decide⟩
  refine idxL hl hk ?_
  refine Wp.bind (Wp.askB (by simp [big62]; omega) (Wp.pure ?_))
  have main : ∀ (es : List D) (s : Txt) (o : Option D) (M2 : List Ob), 1 ≤ s.length → s.length + es.length ≤ 12 → En d M2 → Wp (forD ⟨rangeD 0 k, none⟩ (.loc 3) (fun ρ => exs g (evCall g (n + 2)) ρ (.cons (.asg (.loc 2) (.bin .add (.idx (.cst (.str [97, 98, 99, 100, 101, 102, 103, 104, 105, 106, 107, 108, 109, 110, 111, 112, 113, 114, 115, 116, 117, 118, 119, 120, 121, 122])) (.call "_law_draw" (.cons (.loc 0) (.cons (.cst (.int 26)) .nil)))) (.loc 2))) .nil)) es [some (.ref d), some (.str [c]), some (.str s), o]) M2 fun fl M3 => ∃ s2 o2, fl = .nx [some (.ref d), some (.str [c]), some (.str s2), o2] ∧ 1 ≤ s2.length ∧ s2.length ≤ 12 ∧ En d M3 ∧ Fx d M2 M3 := by
    intro es
    induction es with
    | nil => intro s o M2 a b en; exact Wp.forN rfl ⟨s, o, rfl, a, by simpa using b, en, Fx.refl⟩
    | cons x es ih =>
      intro s o M2 a b en
      refine Wp.forC rfl ?_
      refine wSs_ok ?_
      refine draw_ok H (n := n) en (by decide) fun v M3 v0 v1 e3 f3 => ?_
      refine str_at v0 (by simpa using v1) fun c2 => ?_
      simp only [List.length_cons] at b
      refine strcat (by simp only [List.length_cons, List.length_nil]; unfold lim; omega) ?_
      refine (ih ([c2] ++ s) _ M3 (by simp) (by simp only [List.length_append, List.length_cons, List.length_nil]; omega) e3).mono fun fl M4 z => ?_
      obtain ⟨s2, o2, rfl, z1, z2, z3, z4⟩ := z
      exact ⟨s2, o2, rfl, z1, z2, z3, f3.trans z4⟩
  refine (main (rangeD 0 k) [c] none M1 (by simp) (by simp [rangeD]; omega) e1).mono fun fl M4 z => ?_
  obtain ⟨s2, o2, rfl, z1, z2, z3, z4⟩ := z
  exact q _ _ ⟨s2, rfl, z1, z2⟩ z3 ((Fx.app.trans f1).trans z4)
structure Ws (m : Nat) (l : Nat) (M : List Ob) : Prop where
  ex : ∃ ds : List D, M[l]? = some (.lst ds) ∧ ds.length = m ∧ ∀ x ∈ ds, isW 30 x
omit H in
theorem Ws.fx {m l : Nat} {M' : List Ob} (h : Ws m l M) (f : Fx d M M') (hl : l ≠ d) : Ws m l M' := by
  obtain ⟨ds, h1, h2⟩ := h.ex
  exact ⟨ds, f.at_ _ _ hl h1, h2⟩
theorem words_ok (h : En d M) {m : Int} (hm : 0 ≤ m ∧ m ≤ 7) {Q : Post} (q : ∀ l M', Ws m.toNat l M' → M.length ≤ l → En d M' → Fx d M M' → Q (.ref l) M') : Wp (evCall g (n + 4) "_law_words" [.ref d, .int m]) M Q := by
  refine Wp.call H.f__law_words ⟨Nat.le_of_ble_eq_true rfl, Nat.le_of_ble_eq_true rfl, Nat.le_of_ble_eq_true rfl⟩ ?_
  refine draw_ok H (n := n + 1) h (by decide) fun v M1 _ _ e1 f1 => ?_
  refine Wp.eqI (Wp.pure ⟨fun _ => ?_, fun _ => ?_⟩)
  · refine comp_range (d := d) (isW 12) ?_
    refine ⟨m, rfl, by omega, by omega, e1, Fx.refl, by show 5 < 6; decide, fun k M2 k0 k1 e2 f2 => ?_, fun ds M2 p hl hp e2 f2 hle hg => ?_⟩
    · refine str_at k0 (by simp; omega) fun c => ?_
      exact word_ok H (n := n) e2 c fun x M3 hx e3 f3 => ⟨hx, e3, f3⟩
    · exact q p M2 ⟨ds, hg, hl, fun x hx => by obtain ⟨s, a, b, c⟩ := hp x hx; exact ⟨s, a, b, by omega⟩⟩ (Nat.le_trans f1.len hle) e2 (f1.trans f2)
  · refine word_ok H (n := n) e1 103 fun x M2 hx e2 f2 => ?_
    obtain ⟨s, rfl, s1, s2⟩ := hx
    refine Wp.pure ?_
    refine draw_ok H (n := n + 1) e2 (m := (s.length : Int)) (by omega) fun a M3 a0 a1 e3 f3 => ?_
    refine comp_range (d := d) (isW 30) ?_
    refine ⟨m, rfl, by omega, by omega, e3, Fx.refl, by show 5 < 6; decide, fun k M4 k0 k1 e4 f4 => ?_, fun ds M4 p hl hp e4 f4 hle hg => ?_⟩
    · refine Wp.pure (Wp.pure (Wp.pure ?_))
      refine str_at k0 (by simp; omega) fun c => ?_
      have c1 : (cut s none (some a)).length ≤ s.length := by unfold cut; rw [List.length_take, List.length_drop]; omega
      have c2 : (cut s (some (a + 1)) none).length ≤ s.length := by unfold cut; rw [List.length_take, List.length_drop]; omega
      refine strcat (by simp only [List.length_cons, List.length_nil]; unfold lim; omega) ?_
      refine Wp.pure (Wp.pure (Wp.pure (Wp.pure ?_)))
      refine strcat (by simp only [List.length_append, List.length_cons, List.length_nil]; unfold lim; omega) ?_
      refine ⟨⟨_, rfl, by simp only [List.length_append, List.length_cons, List.length_nil]; omega, ?_⟩, e4, Fx.refl⟩
      simp only [List.length_append, List.length_cons, List.length_nil]
      omega
    · exact q p M4 ⟨ds, hg, hl, hp⟩ (Nat.le_trans ((f1.trans f2).trans f3).len hle) e4 (((f1.trans f2).trans f3).trans f4)
end
end GenF
end
section
set_option linter.all false
set_option maxRecDepth 100000
set_option maxHeartbeats 400000
namespace GenF
open Sb
abbrev sThis : Txt := [116, 104, 105, 115]
abbrev sThat : Txt := [116, 104, 97, 116]
abbrev sValue : Txt := [118, 97, 108, 117, 101]
abbrev sTest : Txt := [116, 101, 115, 116]
abbrev sIs : Txt := [105, 115]
abbrev sDiffers : Txt := [100, 105, 102, 102, 101, 114, 115]
abbrev sBelow : Txt := [98, 101, 108, 111, 119]
abbrev sAbove : Txt := [97, 98, 111, 118, 101]
abbrev sAnd : Txt := [97, 110, 100]
abbrev sOr : Txt := [111, 114]
abbrev sNegate : Txt := [110, 101, 103, 97, 116, 101]
abbrev sAll : Txt := [97, 108, 108]
def isVal (x : D) : Prop := (∃ i : Int, x = .int i ∧ -1000000 ≤ i ∧ i ≤ 1000000) ∨ isW 30 x
def isName (x : D) : Prop := ∃ s w : Txt, x = .tup [.str s, .str w] ∧ (s = sThis ∨ s = sThat) ∧ w.length ≤ 30
def isOpd (x : D) : Prop := isName x ∨ ∃ v, x = .tup [.str sValue, v] ∧ isVal v
def isRel (s : Txt) : Prop := s = sIs ∨ s = sDiffers ∨ s = sBelow ∨ s = sAbove
def isTest (x : D) : Prop := ∃ l r s, x = .tup [.str sTest, l, .str s, r] ∧ isOpd l ∧ isRel s ∧ isOpd r
inductive isCnd : Nat → D → Prop
  | all (n : Nat) : isCnd n (.tup [.str sAll])
  | test (n : Nat) {x : D} : isTest x → isCnd n x
  | neg {n : Nat} {c : D} : isCnd n c → isCnd (n + 1) (.tup [.str sNegate, c])
  | jn {n : Nat} {s : Txt} {cs : List D} : (s = sAnd ∨ s = sOr) → (∀ c ∈ cs, isCnd n c) → cs.length ≤ 10 → isCnd (n + 1) (.tup [.str s, .tup cs])
theorem isCnd.up {n : Nat} {x : D} (h : isCnd n x) : isCnd (n + 1) x := by
  induction h with
  | all n => exact .all _
  | test n h => exact .test _ h
  | neg _ ih => exact .neg ih
  | jn hs _ hl ih => exact .jn hs ih hl
structure Wo (w d : Nat) (M : List Ob) : Prop where
  ex : ∃ a b c e : Nat, M[w]? = some (.lst [.ref a, .ref b, .ref c, .ref e]) ∧ Ws 3 a M ∧ Ws 3 b M ∧ (Ws 3 c M ∨ Ws 6 c M) ∧ Ws 3 e M ∧ w ≠ d ∧ a ≠ d ∧ b ≠ d ∧ c ≠ d ∧ e ≠ d
theorem Wo.fx {w d : Nat} {M M' : List Ob} (h : Wo w d M) (f : Fx d M M') : Wo w d M' := by
  obtain ⟨a, b, c, e, h0, h1, h2, h3, h4, n0, n1, n2, n3, n4⟩ := h.ex
  exact ⟨a, b, c, e, f.at_ _ _ n0 h0, h1.fx f n1, h2.fx f n2, h3.imp (·.fx f n3) (·.fx f n3), h4.fx f n4, n0, n1, n2, n3, n4⟩
theorem at_mem {ds : List D} {v : Int} (h0 : 0 ≤ v) (h1 : v < ds.length) : ∃ x ∈ ds, atIx ds v = some x := by
  refine ⟨ds[v.toNat]'(by omega), List.getElem_mem _, ?_⟩
  unfold atIx ixOf
  rw [if_pos h0, if_pos h1]
  exact List.getElem?_eq_getElem _
section
variable {g : G} (H : Has g) {n d w : Nat} {M : List Ob}
include H
omit H in
theorem ws_at {m l : Nat} (h : Ws m l M) {v : Int} (h0 : 0 ≤ v) (h1 : v < m) {Q : Post} (q : ∀ x, isW 30 x → Q x M) : Wp (index (.ref l) (.int v)) M Q := by
  obtain ⟨ds, e1, e2, e3⟩ := h.ex
  obtain ⟨x, hx, ex⟩ := at_mem (ds := ds) h0 (by omega)
  exact idxL e1 ex (q x (e3 x hx))
theorem world_ok (h : En d M) {Q : Post} (q : ∀ w M', Wo w d M' → En d M' → Fx d M M' → Q (.ref w) M') : Wp (evCall g (n + 5) "_law_world" [.ref d]) M Q := by
  refine Wp.call H.f__law_world ⟨Nat.le_of_ble_eq_true rfl, Nat.le_of_ble_eq_true rfl, Nat.le_of_ble_eq_true rfl⟩ ?_
  refine draw_ok H (n := n + 2) h (by decide) fun v M1 _ _ e1 f1 => ?_
  have dl : d < M1.length := e1.lt
  have tail : ∀ m : Int, (m = 6 ∨ m = 3) → wSs g (evCall g (n + 4)) [some (.ref d), some (.int m)] (match f__law_world.body with | .cons _ t => t | _ => .nil) M1 (fun fl M' => match fl with | .rt d => Q d M' | .nx _ => Q .non M' | _ => False) := by
    intro m hm
    refine words_ok H (n := n) e1 (m := 3) (by decide) fun a M2 wa la e2 f2 => ?_
    refine words_ok H (n := n) e2 (m := 3) (by decide) fun b M3 wb lb e3 f3 => ?_
    refine words_ok H (n := n) e3 (m := m) (by omega) fun c M4 wc lc e4 f4 => ?_
    refine words_ok H (n := n) e4 (m := 3) (by decide) fun e M5 we le e5 f5 => ?_
    refine ⟨by show 4 ≤ lim; decide, ?_⟩
    have l2 := f2.len
    have l3 := f3.len
    have l4 := f4.len
    have l5 := f5.len
    have na : a ≠ d := by omega
    have nb : b ≠ d := by omega
    have nc : c ≠ d := by omega
    have ne : e ≠ d := by omega
    have nw : M5.length ≠ d := by omega
    refine q _ _ ⟨a, b, c, e, at_new, (((wa.fx f3 na).fx f4 na).fx f5 na).fx Fx.app na, ((wb.fx f4 nb).fx f5 nb).fx Fx.app nb, ?_, we.fx Fx.app ne, nw, na, nb, nc, ne⟩ e5.app (((((f1.trans f2).trans f3).trans f4).trans f5).trans Fx.app)
    rcases hm with rfl | rfl
    · exact .inr ((wc.fx f5 nc).fx Fx.app nc)
    · exact .inl ((wc.fx f5 nc).fx Fx.app nc)
  refine Wp.eqI (Wp.pure ⟨fun _ => ?_, fun _ => ?_⟩)
  · exact tail 6 (.inl rfl)
  · exact tail 3 (.inr rfl)
theorem value_ok (h : En d M) (hw : Wo w d M) {Q : Post} (q : ∀ x M', isVal x → En d M' → Fx d M M' → Q x M') : Wp (evCall g (n + 3) "_law_value" [.ref d, .ref w]) M Q := by
  refine Wp.call H.f__law_value ⟨Nat.le_of_ble_eq_true rfl, Nat.le_of_ble_eq_true rfl, Nat.le_of_ble_eq_true rfl⟩ ?_
  refine draw_ok H (n := n) h (by decide) fun v M1 _ _ e1 f1 => ?_
  refine Wp.ltI (Wp.pure ⟨fun _ => ?_, fun _ => ?_⟩)
  · exact draw_ok H (n := n) e1 (by decide) fun v M2 a b e2 f2 => q _ _ (.inl ⟨v, rfl, by omega, by omega⟩) e2 (f1.trans f2)
  refine Wp.eqI (Wp.pure ⟨fun _ => ?_, fun _ => ?_⟩)
  · exact draw_ok H (n := n) e1 (by decide) fun v M2 a b e2 f2 => Wp.pure (q _ _ (.inl ⟨_, rfl, by omega, by omega⟩) e2 (f1.trans f2))
  refine Wp.eqI (Wp.pure ⟨fun _ => ?_, fun _ => ?_⟩)
  · refine ⟨by show 4 ≤ lim; decide, ?_⟩
    refine draw_ok H (n := n) e1.app (by decide) fun v M2 a b e2 f2 => ?_
    have hl := f2.at_ _ _ (by have := e1.lt; omega) (at_new (M := M1) (o := .lst [.int (-999999), .int 999999, .int 0, .int (-1)]))
    have : v = 0 ∨ v = 1 ∨ v = 2 ∨ v = 3 := by omega
    rcases this with rfl | rfl | rfl | rfl
    all_goals exact idxL hl rfl (q _ _ (.inl ⟨_, rfl, by decide, by decide⟩) e2 ((f1.trans Fx.app).trans f2))
  · have hw1 := hw.fx f1
    obtain ⟨a, b, c, e, h0, h1, h2, h3, h4, n0, n1, n2, n3, n4⟩ := hw1.ex
    refine idxL h0 (v := .ref e) rfl ?_
    refine draw_ok H (n := n) e1 (by decide) fun v M2 v0 v1 e2 f2 => ?_
    exact ws_at (h4.fx f2 n4) v0 v1 fun x hx => q _ _ (.inr hx) e2 (f1.trans f2)
theorem time_ok (h : En d M) {Q : Post} (q : ∀ i M', 0 ≤ i → i ≤ 9999 → En d M' → Fx d M M' → Q (.int i) M') : Wp (evCall g (n + 3) "_law_time" [.ref d]) M Q := by
  refine Wp.call H.f__law_time ⟨Nat.le_of_ble_eq_true rfl, Nat.le_of_ble_eq_true rfl, Nat.le_of_ble_eq_true rfl⟩ ?_
  refine draw_ok H (n := n) h (by decide) fun v M1 _ _ e1 f1 => ?_
  refine Wp.eqI (Wp.pure ⟨fun _ => ?_, fun _ => ?_⟩)
  · exact draw_ok H (n := n) e1 (by decide) fun v M2 a b e2 f2 => Wp.pure (q _ _ (by omega) (by omega) e2 (f1.trans f2))
  refine Wp.eqI (Wp.pure ⟨fun _ => ?_, fun _ => ?_⟩)
  · exact draw_ok H (n := n) e1 (by decide) fun v M2 a b e2 f2 => q _ _ (by omega) (by omega) e2 (f1.trans f2)
  · exact draw_ok H (n := n) e1 (by decide) fun v M2 a b e2 f2 => q _ _ (by omega) (by omega) e2 (f1.trans f2)
omit H in
theorem pick {M1 : List Ob} {ds : List D} {v : Int} {P : D → Prop} (h : M1[M.length]? = some (.lst ds)) (hp : ∀ x ∈ ds, P x) (h0 : 0 ≤ v) (h1 : v < ds.length) {Q : Post} (q : ∀ x, P x → Q x M1) : Wp (index (.ref M.length) (.int v)) M1 Q := by
  obtain ⟨x, hx, ex⟩ := at_mem h0 h1
  exact idxL h ex (q x (hp x hx))
theorem name_ok (h : En d M) (hw : Wo w d M) {Q : Post} (q : ∀ x M', isName x → En d M' → Fx d M M' → Q x M') : Wp (evCall g (n + 3) "_law_name" [.ref d, .ref w]) M Q := by
  refine Wp.call H.f__law_name ⟨Nat.le_of_ble_eq_true rfl, Nat.le_of_ble_eq_true rfl, Nat.le_of_ble_eq_true rfl⟩ ?_
  refine ⟨by show 3 ≤ lim; decide, ?_⟩
  refine draw_ok H (n := n) h.app (by decide) fun v M1 v0 v1 e1 f1 => ?_
  have hl := f1.at_ _ _ (by have := h.lt; omega) (at_new (M := M) (o := .lst [.str sThis, .str sThis, .str sThat]))
  refine pick (P := fun x => x = .str sThis ∨ x = .str sThat) hl (by simp) v0 (by simpa using v1) fun x hx => ?_
  obtain ⟨s, rfl, hs⟩ : ∃ s : Txt, x = .str s ∧ (s = sThis ∨ s = sThat) := by
    rcases hx with rfl | rfl
    · exact ⟨_, rfl, .inl rfl⟩
    · exact ⟨_, rfl, .inr rfl⟩
  have f01 : Fx d M M1 := Fx.app.trans f1
  refine draw_ok H (n := n) e1 (by decide) fun v2 M2 a b e2 f2 => ?_
  refine Wp.ltI (Wp.pure ⟨fun c => ?_, fun _ => ?_⟩)
  · have hv : v2 < 3 := of_decide_eq_true c
    refine ⟨by show 3 ≤ lim; decide, ?_⟩
    refine pick (M := M2) (P := fun x => ∃ w : Txt, x = .str w ∧ w.length ≤ 30) at_new (by simp) a (by simpa using hv) fun x hx => ?_
    obtain ⟨w', rfl, hw'⟩ := hx
    exact ⟨by show 2 ≤ lim; decide, q _ _ ⟨s, w', rfl, hs, hw'⟩ e2.app ((f01.trans f2).trans Fx.app)⟩
  · have hw2 := (hw.fx f01).fx f2
    obtain ⟨k0, k1, k2, k3, h0, h1, h2, h3, h4, n0, n1, n2, n3, n4⟩ := hw2.ex
    have main : ∀ m : Nat, Ws m k2 M2 → 0 < m → m ≤ 6 → wE g (evCall g (n + 2)) [some (.ref d), some (.ref w), some (.str s), some (.int v2)] (.tup (.cons (.loc 2) (.cons (.idx (.idx (.loc 1) (.cst (.int 2))) (.call "_law_draw" (.cons (.loc 0) (.cons (.blt "len" (.cons (.idx (.loc 1) (.cst (.int 2))) .nil)) .nil)))) .nil))) M2 Q := by
      intro m hm m0 m6
      obtain ⟨ds, e1', e2', e3'⟩ := hm.ex
      refine idxL h0 (v := .ref k2) rfl ?_
      refine idxL h0 (v := .ref k2) rfl ?_
      refine Wp.bind (Wp.get e1' (Wp.pure ?_))
      refine draw_ok H (n := n) e2 (by omega) fun v3 M3 c0 c1 e3 f3 => ?_
      refine ws_at (hm.fx f3 n3) c0 (by omega) fun x hx => ?_
      obtain ⟨w', rfl, _, hw'⟩ := hx
      exact ⟨by show 2 ≤ lim; decide, q _ _ ⟨s, w', rfl, hs, hw'⟩ e3 ((f01.trans f2).trans f3)⟩
    rcases h3 with h3 | h3
    · exact main 3 h3 (by decide) (by decide)
    · exact main 6 h3 (by decide) (by decide)
theorem operand_ok (h : En d M) (hw : Wo w d M) {Q : Post} (q : ∀ x M', isOpd x → En d M' → Fx d M M' → Q x M') : Wp (evCall g (n + 4) "_law_operand" [.ref d, .ref w]) M Q := by
  refine Wp.call H.f__law_operand ⟨Nat.le_of_ble_eq_true rfl, Nat.le_of_ble_eq_true rfl, Nat.le_of_ble_eq_true rfl⟩ ?_
  refine draw_ok H (n := n + 1) h (by decide) fun v M1 v0 v1 e1 f1 => ?_
  have hw1 := hw.fx f1
  refine Wp.eqI (Wp.pure ⟨fun _ => ?_, fun _ => ?_⟩)
  · obtain ⟨k0, k1, k2, k3, h0, h1, h2, h3, h4, n0, n1, n2, n3, n4⟩ := hw1.ex
    refine idxL h0 (v := .ref k1) rfl ?_
    refine draw_ok H (n := n + 1) e1 (by decide) fun v3 M3 c0 c1 e3 f3 => ?_
    refine ws_at (h2.fx f3 n2) c0 c1 fun x hx => ?_
    exact ⟨by show 2 ≤ lim; decide, q _ _ (.inr ⟨x, rfl, .inr hx⟩) e3 (f1.trans f3)⟩
  refine Wp.eqI (Wp.pure ⟨fun _ => ?_, fun _ => ?_⟩)
  · exact name_ok H (n := n) e1 hw1 fun x M2 hx e2 f2 => q _ _ (.inl hx) e2 (f1.trans f2)
  · refine value_ok H (n := n) e1 hw1 fun x M2 hx e2 f2 => ?_
    exact ⟨by show 2 ≤ lim; decide, q _ _ (.inr ⟨x, rfl, hx⟩) e2 (f1.trans f2)⟩
theorem test_ok (h : En d M) (hw : Wo w d M) {Q : Post} (q : ∀ x M', isTest x → En d M' → Fx d M M' → Q x M') : Wp (evCall g (n + 5) "_law_test" [.ref d, .ref w]) M Q := by
  refine Wp.call H.f__law_test ⟨Nat.le_of_ble_eq_true rfl, Nat.le_of_ble_eq_true rfl, Nat.le_of_ble_eq_true rfl⟩ ?_
  refine ⟨by show 5 ≤ lim; decide, ?_⟩
  refine draw_ok H (n := n + 2) h.app (by decide) fun v M1 v0 v1 e1 f1 => ?_
  have hl := f1.at_ _ _ (by have := h.lt; omega) (at_new (M := M) (o := .lst [.str sIs, .str sIs, .str sDiffers, .str sBelow, .str sAbove]))
  refine pick (P := fun x => ∃ s, x = .str s ∧ isRel s) hl (by simp [isRel]) v0 (by simpa using v1) fun x hx => ?_
  obtain ⟨s, rfl, hs⟩ := hx
  have f01 : Fx d M M1 := Fx.app.trans f1
  refine draw_ok H (n := n + 2) e1 (by decide) fun v2 M2 a b e2 f2 => ?_
  have hw2 := (hw.fx f01).fx f2
  have tail : ∀ l M3, isOpd l → En d M3 → Fx d M2 M3 → wSs g (evCall g (n + 4)) [some (.ref d), some (.ref w), some (.str s), some l] (match f__law_test.body with | .cons _ (.cons _ t) => t | _ => .nil) M3 (fun fl M' => match fl with | .rt d => Q d M' | .nx _ => Q .non M' | _ => False) := by
    intro l M3 hl e3 f3
    refine operand_ok H (n := n) e3 (hw2.fx f3) fun r M4 hr e4 f4 => ?_
    exact ⟨by show 4 ≤ lim; decide, q _ _ ⟨l, r, s, rfl, hl, hs, hr⟩ e4 (((f01.trans f2).trans f3).trans f4)⟩
  refine Wp.gtI (Wp.pure ⟨fun _ => ?_, fun _ => ?_⟩)
  · exact name_ok H (n := n + 1) e2 hw2 fun x M3 hx e3 f3 => tail x M3 (.inl hx) e3 f3
  · exact operand_ok H (n := n) e2 hw2 fun x M3 hx e3 f3 => tail x M3 hx e3 f3
end
end GenF
end
section
set_option linter.all false
set_option maxRecDepth 100000
set_option maxHeartbeats 400000
namespace GenF
open Sb
theorem eqS {M : List Ob} {a b : Txt} {Q : Bool → List Ob → Prop} (h : Q (decide (a = b)) M) : Wp (cop .eq (.str a) (.str b)) M Q := Wp.eq (a := .str a) (b := .str b) rfl rfl (Nat.zero_le _) (Nat.zero_le _) h
theorem neS {M : List Ob} {a b : Txt} {Q : Bool → List Ob → Prop} (h : Q (!decide (a = b)) M) : Wp (cop .ne (.str a) (.str b)) M Q := Wp.ne (a := .str a) (b := .str b) rfl rfl (Nat.zero_le _) (Nat.zero_le _) h
abbrev sOf : Txt := [111, 102]
abbrev sPairs : Txt := [112, 97, 105, 114, 115]
abbrev sChains : Txt := [99, 104, 97, 105, 110, 115]
abbrev sRows : Txt := [114, 111, 119, 115]
abbrev sGroups : Txt := [103, 114, 111, 117, 112, 115]
abbrev sCount : Txt := [99, 111, 117, 110, 116]
abbrev sSum : Txt := [115, 117, 109]
abbrev sLeast : Txt := [108, 101, 97, 115, 116]
abbrev sGreatest : Txt := [103, 114, 101, 97, 116, 101, 115, 116]
abbrev sUnlike : Txt := [117, 110, 108, 105, 107, 101]
abbrev sUp : Txt := [117, 112]
abbrev sDown : Txt := [100, 111, 119, 110]
def isSum (x : D) : Prop := x = .tup [.str sCount] ∨ ∃ s n, x = .tup [.str s, n] ∧ (s = sSum ∨ s = sLeast ∨ s = sGreatest ∨ s = sUnlike) ∧ isName n
inductive isShape : D → Nat → Prop
  | rows {ns : List D} : (∀ x ∈ ns, isName x) → 1 ≤ ns.length → ns.length ≤ 6 → isShape (.tup [.str sRows, .tup ns]) ns.length
  | groups {w : Int} {ns ss : List D} : 0 ≤ w → w ≤ 9999 → (∀ x ∈ ns, isName x) → ns.length ≤ 4 → (∀ x ∈ ss, isSum x) → 1 ≤ ss.length → ss.length ≤ 6 → isShape (.tup [.str sGroups, .int w, .tup ns, .tup ss]) ((if w > 0 then 1 else 0) + ns.length + ss.length)
inductive isSrc : D → Prop
  | of {k : D} : isW 30 k → isSrc (.tup [.str sOf, k])
  | pairs {k l : D} {s : Int} : isW 30 k → isW 30 l → 0 ≤ s → s ≤ 9999 → isSrc (.tup [.str sPairs, k, l, .int s])
  | chains {ks : List D} {s : Int} : (∀ x ∈ ks, isW 30 x) → 2 ≤ ks.length → ks.length ≤ 4 → 0 ≤ s → s ≤ 9999 → isSrc (.tup [.str sChains, .tup ks, .int s])
def isOrd (x : D) (n : Nat) : Prop := x = .tup [] ∨ ∃ (c : Int) (s : Txt), x = .tup [.int c, .str s] ∧ 0 ≤ c ∧ c < n ∧ (s = sUp ∨ s = sDown)
def isQ (k : Nat) (x : D) : Prop := ∃ s c sh o m n, x = .tup [s, c, sh, o, .int m] ∧ isSrc s ∧ isCnd k c ∧ isShape sh n ∧ isOrd o n ∧ (m = 0 ∨ m = 1 ∨ m = 2 ∨ m = 999)
section
variable {g : G} (H : Has g) {n d w : Nat} {M : List Ob}
include H
theorem tree_ok : ∀ (k : Nat) {n : Nat} {M : List Ob}, En d M → Wo w d M → ∀ {Q : Post}, (∀ x M', isCnd k x → En d M' → Fx d M M' → Q x M') → Wp (evCall g (n + 6 + k) "_law_tree" [.ref d, .ref w, .int (k : Int)]) M Q := by
  intro k
  induction k with
  | zero =>
    intro n M h hw Q q
    refine Wp.call H.f__law_tree ⟨Nat.le_of_ble_eq_true rfl, Nat.le_of_ble_eq_true rfl, Nat.le_of_ble_eq_true rfl⟩ ?_
    refine draw_ok H (n := n + 3) h (by decide) fun v M1 v0 v1 e1 f1 => ?_
    refine Wp.ltI ⟨fun _ => ?_, fun _ => ?_⟩
    · refine Wp.pure ⟨fun _ => ?_, fun z => (by cases z)⟩
      exact test_ok H (n := n) e1 (hw.fx f1) fun x M2 hx e2 f2 => q _ _ (.test _ hx) e2 (f1.trans f2)
    · refine Wp.eqI (Wp.pure ⟨fun _ => ?_, fun z => (by simp at z)⟩)
      exact test_ok H (n := n) e1 (hw.fx f1) fun x M2 hx e2 f2 => q _ _ (.test _ hx) e2 (f1.trans f2)
  | succ k ih =>
    intro n M h hw Q q
    have e0 : n + 6 + (k + 1) = (n + 6 + k) + 1 := by omega
    rw [e0]
    refine Wp.call H.f__law_tree ⟨Nat.le_of_ble_eq_true rfl, Nat.le_of_ble_eq_true rfl, Nat.le_of_ble_eq_true rfl⟩ ?_
    have e1' : n + 6 + k = (n + k + 4) + 2 := by omega
    have e5' : n + 6 + k = (n + k + 1) + 5 := by omega
    have ek : ((k + 1 : Nat) : Int) - 1 = (k : Int) := by omega
    have step : ∀ {M1 : List Ob} {P : Post}, En d M1 → Wo w d M1 → (∀ x M', isCnd k x → En d M' → Fx d M1 M' → P x M') → Wp (evCall g (n + 6 + k) "_law_tree" [.ref d, .ref w, .int (((k + 1 : Nat) : Int) - 1)]) M1 P := by
      intro M1 P h hw q
      rw [ek]
      exact ih h hw q
    have tst : ∀ {M1 : List Ob} {P : Post}, En d M1 → Wo w d M1 → (∀ x M', isTest x → En d M' → Fx d M1 M' → P x M') → Wp (evCall g (n + 6 + k) "_law_test" [.ref d, .ref w]) M1 P := by
      intro M1 P h hw q
      rw [e5']
      exact test_ok H h hw q
    have drw : ∀ {M1 : List Ob} {m : Int} {P : Post}, En d M1 → (0 < m ∧ m < 1073741824) → (∀ v M', 0 ≤ v → v < m → En d M' → Fx d M1 M' → P (.int v) M') → Wp (evCall g (n + 6 + k) "_law_draw" [.ref d, .int m]) M1 P := by
      intro M1 m P h hm q
      rw [e1']
      exact draw_ok H h hm q
    refine drw h (by decide) fun v M1 v0 v1 e1 f1 => ?_
    have hw1 := hw.fx f1
    refine Wp.ltI ⟨fun _ => ?_, fun c1 => ?_⟩
    · refine Wp.pure ⟨fun _ => ?_, fun z => (by cases z)⟩
      exact tst e1 hw1 fun x M2 hx e2 f2 => q _ _ (.test _ hx) e2 (f1.trans f2)
    · refine Wp.eqI (Wp.pure ⟨fun z => ?_, fun _ => ?_⟩)
      · have := of_decide_eq_true z; omega
      have hv2 : ¬ v < 2 := of_decide_eq_false c1
      refine Wp.eqI (Wp.pure ⟨fun _ => ?_, fun c2 => ?_⟩)
      · refine Wp.pure (step e1 hw1 fun x M2 hx e2 f2 => ?_)
        exact ⟨by show 2 ≤ lim; decide, q _ _ (.neg hx) e2 (f1.trans f2)⟩
      · have hv3 : ¬ v = 2 := of_decide_eq_false c2
        refine comp_range (d := d) (isCnd k) ?_
        refine drw e1 (by decide) fun v2 M2 a b e2 f2 => ?_
        refine Wp.pure ⟨2 + v2, rfl, by omega, by omega, e2, f2, by show 5 < 6; decide, fun j M3 j0 j1 e3 f3 => ?_, fun ds M3 p hl hp e3 f3 hle hg => ?_⟩
        · refine Wp.pure (step e3 ((hw1.fx f2).fx f3) fun x M4 hx e4 f4 => ⟨hx, e4, f4⟩)
        · refine ⟨by show 3 ≤ lim; decide, ?_⟩
          refine Wp.pure ?_
          refine pick (M := M3) (P := fun x => ∃ s : Txt, x = .str s ∧ (s = sAnd ∨ s = sOr)) at_new (by simp) (by omega) (by simp; omega) fun x hx => ?_
          obtain ⟨s, rfl, hs⟩ := hx
          refine Wp.bind (Wp.bind (Wp.get (app_get hg) (Wp.pure (Wp.pure ?_))))
          exact ⟨by show 2 ≤ lim; decide, q _ _ (.jn hs hp (by omega)) e3.app ((f1.trans f3).trans Fx.app)⟩
theorem condition_ok (h : En d M) (hw : Wo w d M) {Q : Post} (q : ∀ x M', isCnd 4 x → En d M' → Fx d M M' → Q x M') : Wp (evCall g (n + 9) "_law_condition" [.ref d, .ref w]) M Q := by
  refine Wp.call H.f__law_condition ⟨Nat.le_of_ble_eq_true rfl, Nat.le_of_ble_eq_true rfl, Nat.le_of_ble_eq_true rfl⟩ ?_
  refine tree_ok H (w := w) 2 (n := n) h hw fun x M1 hx e1 f1 => ?_
  refine Wp.for ?_
  refine Wp.bind (m := ev _ _ _ (.cst (.int 0))) (Wp.pure ?_)
  refine Wp.bind (m := ev _ _ _ (.call _ _)) (wE_ok ?_)
  refine draw_ok H (n := n + 6) e1 (by decide) fun v M2 v0 v1 e2 f2 => ?_
  refine Wp.bind (Wp.askB (by simp [big62]; omega) (Wp.pure ?_))
  have main : ∀ (es : List D) (j : Nat) (x : D) (o3 o4 : Option D) (M3 : List Ob), isCnd j x → es.length + j ≤ 4 → En d M3 → Wo w d M3 → Wp (forD ⟨rangeD 0 v, none⟩ (.loc 3) (fun ρ => exs g (evCall g (n + 8)) ρ (match f__law_condition.body with | .cons _ (.cons (.for _ _ b) _) => b | _ => .nil)) es [some (.ref d), some (.ref w), some x, o3, o4]) M3 fun fl M4 => ∃ y p3 p4, fl = .nx [some (.ref d), some (.ref w), some y, p3, p4] ∧ isCnd 4 y ∧ En d M4 ∧ Fx d M3 M4 := by
    intro es
    induction es with
    | nil =>
      intro j x o3 o4 M3 hx hj e3 _
      have up : ∀ i, isCnd (j + i) x := fun i => by
        induction i with
        | zero => exact hx
        | succ i ih => exact ih.up
      have := up (4 - j)
      rw [show j + (4 - j) = 4 by simp at hj; omega] at this
      exact Wp.forN rfl ⟨x, o3, o4, rfl, this, e3, Fx.refl⟩
    | cons t es ih =>
      intro j x o3 o4 M3 hx hj e3 hw3
      simp only [List.length_cons] at hj
      refine Wp.forC rfl ?_
      refine wSs_ok ?_
      refine draw_ok H (n := n + 6) e3 (by decide) fun v M4 v0 v1 e4 f4 => ?_
      have hw4 := hw3.fx f4
      refine Wp.eqI (Wp.pure ⟨fun _ => ?_, fun _ => ?_⟩)
      · refine ⟨by show 2 ≤ lim; decide, ?_⟩
        refine (ih (j + 1) _ _ _ M4 (.neg hx) (by omega) e4 hw4).mono fun fl M6 z => ?_
        obtain ⟨y, p3, p4, rfl, hy, e6, f6⟩ := z
        exact ⟨y, p3, p4, rfl, hy, e6, f4.trans f6⟩
      refine Wp.eqI (Wp.pure ⟨fun _ => ?_, fun _ => ?_⟩)
      · refine test_ok H (n := n + 3) e4 hw4 fun u M5 hu e5 f5 => ?_
        refine ⟨by show 2 ≤ lim; decide, by show 2 ≤ lim; decide, ?_⟩
        refine (ih (j + 1) _ _ _ M5 (.jn (.inl rfl) (by simp; exact ⟨.test _ hu, hx⟩) (by simp)) (by omega) e5 (hw4.fx f5)).mono fun fl M6 z => ?_
        obtain ⟨y, p3, p4, rfl, hy, e6, f6⟩ := z
        exact ⟨y, p3, p4, rfl, hy, e6, (f4.trans f5).trans f6⟩
      · refine test_ok H (n := n + 3) e4 hw4 fun u M5 hu e5 f5 => ?_
        refine ⟨by show 2 ≤ lim; decide, by show 2 ≤ lim; decide, ?_⟩
        refine (ih (j + 1) _ _ _ M5 (.jn (.inr rfl) (by simp; exact ⟨hx, .test _ hu⟩) (by simp)) (by omega) e5 (hw4.fx f5)).mono fun fl M6 z => ?_
        obtain ⟨y, p3, p4, rfl, hy, e6, f6⟩ := z
        exact ⟨y, p3, p4, rfl, hy, e6, (f4.trans f5).trans f6⟩
  refine (main (rangeD 0 v) 2 x none none M2 hx (by simp [rangeD]; omega) e2 ((hw.fx f1).fx f2)).mono fun fl M4 z => ?_
  obtain ⟨y, p3, p4, rfl, hy, e6, f6⟩ := z
  exact q _ _ hy e6 ((f1.trans f2).trans f6)
end
end GenF
end
section
set_option linter.all false
set_option maxRecDepth 100000
set_option maxHeartbeats 400000
namespace GenF
open Sb
section
variable {g : G} (H : Has g) {n d w : Nat} {M : List Ob}
include H
omit H in
theorem tupL {p : Nat} {ds : List D} {Q : Post} (h : M[p]? = some (.lst ds)) (q : Q (.tup ds) M) : Wp (blt "tuple" [.ref p]) M Q := .bind (.bind (.get h (.pure (.pure q))))
theorem source_ok (h : En d M) (hw : Wo w d M) {Q : Post} (q : ∀ x M', isSrc x → En d M' → Fx d M M' → Q x M') : Wp (evCall g (n + 3) "_law_source" [.ref d, .ref w]) M Q := by
  refine Wp.call H.f__law_source ⟨Nat.le_of_ble_eq_true rfl, Nat.le_of_ble_eq_true rfl, Nat.le_of_ble_eq_true rfl⟩ ?_
  refine draw_ok H (n := n) h (by decide) fun v M1 v0 v1 e1 f1 => ?_
  have hw1 := hw.fx f1
  refine comp_range (d := d) (isW 30) ?_
  refine draw_ok H (n := n) e1 (by decide) fun v2 M2 a b e2 f2 => ?_
  refine Wp.pure ⟨2 + v2, rfl, by omega, by omega, e2, f2, by show 5 < 6; decide, fun j M3 j0 j1 e3 f3 => ?_, fun ds M3 p hl hp e3 f3 hle hg => ?_⟩
  · have hw3 := (hw1.fx f2).fx f3
    obtain ⟨k0, k1, k2, k3, h0, h1, h2, h3, h4, n0, n1, n2, n3, n4⟩ := hw3.ex
    refine idxL h0 (v := .ref k0) rfl ?_
    refine draw_ok H (n := n) e3 (by decide) fun v4 M4 c0 c1 e4 f4 => ?_
    exact ws_at (h1.fx f4 n1) c0 c1 fun x hx => ⟨hx, e4, f4⟩
  · have pd : p ≠ d := by have := e1.lt; omega
    refine draw_ok H (n := n) e3 (by decide) fun s M4 s0 s1 e4 f4 => ?_
    refine ⟨by show 5 ≤ lim; decide, ?_⟩
    refine draw_ok H (n := n) e4.app (by decide) fun v5 M5 c0 c1 e5 f5 => ?_
    have hl5 := f5.at_ _ _ (by have := e4.lt; omega) (at_new (M := M4) (o := .lst [.int 0, .int 1, .int 3, .int 9999, .int s]))
    refine pick (P := fun x => ∃ i : Int, x = .int i ∧ 0 ≤ i ∧ i ≤ 9999) hl5 (by simp; omega) c0 (by simpa using c1) fun x hx => ?_
    obtain ⟨i, rfl, i0, i1⟩ := hx
    have hg5 := f5.at_ _ _ pd (app_get (f4.at_ _ _ pd hg))
    have fz : Fx d M M5 := (((f1.trans f3).trans f4).trans Fx.app).trans f5
    have at0 : ∃ x, isW 30 x ∧ atIx ds 0 = some x := by
      obtain ⟨x, hx, ex⟩ := at_mem (ds := ds) (v := 0) (by decide) (by omega)
      exact ⟨x, hp x hx, ex⟩
    have at1 : ∃ x, isW 30 x ∧ atIx ds 1 = some x := by
      obtain ⟨x, hx, ex⟩ := at_mem (ds := ds) (v := 1) (by decide) (by omega)
      exact ⟨x, hp x hx, ex⟩
    obtain ⟨x0, hx0, ex0⟩ := at0
    obtain ⟨x1, hx1, ex1⟩ := at1
    refine Wp.eqI (Wp.pure ⟨fun _ => ?_, fun _ => ?_⟩)
    · refine idxL hg5 ex0 ?_
      exact ⟨by show 2 ≤ lim; decide, q _ _ (.of hx0) e5 fz⟩
    refine Wp.eqI (Wp.pure ⟨fun _ => ?_, fun _ => ?_⟩)
    · refine idxL hg5 ex0 (idxL hg5 ex1 ?_)
      exact ⟨by show 4 ≤ lim; decide, q _ _ (.pairs hx0 hx1 i0 i1) e5 fz⟩
    · refine tupL hg5 ?_
      exact ⟨by show 3 ≤ lim; decide, q _ _ (.chains hp (by omega) (by omega) i0 i1) e5 fz⟩
theorem shape_ok (h : En d M) (hw : Wo w d M) {Q : Post} (q : ∀ x m M', isShape x m → En d M' → Fx d M M' → Q x M') : Wp (evCall g (n + 4) "_law_shape" [.ref d, .ref w]) M Q := by
  refine Wp.call H.f__law_shape ⟨Nat.le_of_ble_eq_true rfl, Nat.le_of_ble_eq_true rfl, Nat.le_of_ble_eq_true rfl⟩ ?_
  refine draw_ok H (n := n + 1) h (by decide) fun v M1 v0 v1 e1 f1 => ?_
  have hw1 := hw.fx f1
  refine Wp.eqI (Wp.pure ⟨fun _ => ?_, fun _ => ?_⟩)
  · refine comp_range (d := d) isName ?_
    refine draw_ok H (n := n + 1) e1 (by decide) fun v2 M2 a b e2 f2 => ?_
    refine Wp.pure ⟨1 + v2, rfl, by omega, by omega, e2, f2, by show 5 < 7; decide, fun j M3 j0 j1 e3 f3 => ?_, fun ds M3 p hl hp e3 f3 hle hg => ?_⟩
    · exact name_ok H (n := n) e3 ((hw1.fx f2).fx f3) fun x M4 hx e4 f4 => ⟨hx, e4, f4⟩
    · refine tupL hg ⟨by show 2 ≤ lim; decide, q _ _ _ (.rows hp (by omega) (by omega)) e3 (f1.trans f3)⟩
  · refine draw_ok H (n := n + 1) e1 (by decide) fun v2 M2 a b e2 f2 => ?_
    refine Wp.pure ⟨by show 6 ≤ lim; decide, ?_⟩
    refine draw_ok H (n := n + 1) e2.app (by decide) fun v3 M3 a3 b3 e3 f3 => ?_
    have hl3 := f3.at_ _ _ (by have := e2.lt; omega) (at_new (M := M2) (o := .lst [.int 0, .int 0, .int 1, .int 2, .int 9999, .int (1 + v2)]))
    refine pick (P := fun x => ∃ i : Int, x = .int i ∧ 0 ≤ i ∧ i ≤ 9999) hl3 (by simp; omega) a3 (by simpa using b3) fun x hx => ?_
    obtain ⟨i, rfl, i0, i1⟩ := hx
    have f03 : Fx d M M3 := ((f1.trans f2).trans Fx.app).trans f3
    have hw3 := hw.fx f03
    refine comp_range (d := d) isName ?_
    refine draw_ok H (n := n + 1) e3 (by decide) fun v4 M4 a4 b4 e4 f4 => ?_
    refine ⟨v4, rfl, by omega, by omega, e4, f4, by show 5 < 7; decide, fun j M5 j0 j1 e5 f5 => ?_, fun ns M5 p hl hp e5 f5 hle hg => ?_⟩
    · exact name_ok H (n := n) e5 ((hw3.fx f4).fx f5) fun x M6 hx e6 f6 => ⟨hx, e6, f6⟩
    · have pd : p ≠ d := by have := e3.lt; omega
      have hw5 := hw3.fx f5
      refine ⟨by show 0 ≤ lim; decide, ?_⟩
      have dl5 := e5.lt
      refine Wp.for ?_
      refine Wp.bind (m := ev _ _ _ (.cst (.int 0))) (Wp.pure ?_)
      refine Wp.bind (m := ev _ _ _ (.bin _ _ _)) (wE_ok ?_)
      refine draw_ok H (n := n + 1) e5.app (by decide) fun v6 M6 a6 b6 e6 f6 => ?_
      refine Wp.pure ?_
      refine Wp.bind (Wp.askB (by simp [big62]; omega) (Wp.pure ?_))
      have sd : M5.length ≠ d := by omega
      have main : ∀ (es : List D) (ss : List D) (o5 o6 : Option D) (M7 : List Ob), (∀ x ∈ ss, isSum x) → ss.length + es.length ≤ 6 → En d M7 → Fx d M5 M7 → M7[M5.length]? = some (.lst ss) →
          Wp (forD ⟨rangeD 0 (1 + v6), none⟩ (.loc 5) (fun ρ => exs g (evCall g (n + 3)) ρ (match f__law_shape.body with | .cons _ (.cons _ (.cons _ (.cons _ (.cons (.for _ _ b) _)))) => b | _ => .nil)) es [some (.ref d), some (.ref w), some (.int i), some (.ref p), some (.ref M5.length), o5, o6]) M7 fun fl M8 => ∃ ts p5 p6, fl = .nx [some (.ref d), some (.ref w), some (.int i), some (.ref p), some (.ref M5.length), p5, p6] ∧ ts.length = ss.length + es.length ∧ (∀ x ∈ ts, isSum x) ∧ En d M8 ∧ M8[M5.length]? = some (.lst ts) ∧ Fx d M5 M8 := by
        intro es
        induction es with
        | nil => intro ss o5 o6 M7 hs hl e7 f57 hg7; exact Wp.forN rfl ⟨ss, o5, o6, rfl, by simp, hs, e7, hg7, f57⟩
        | cons t es ih =>
          intro ss o5 o6 M7 hs hl e7 f57 hg7
          have hw7 := hw5.fx f57
          simp only [List.length_cons] at hl
          refine Wp.forC rfl ?_
          refine wSs_ok ?_
          refine ⟨by show 5 ≤ lim; decide, ?_⟩
          refine draw_ok H (n := n + 1) e7.app (by decide) fun v8 M8 a8 b8 e8 f8 => ?_
          have hl8 := f8.at_ _ _ (by have := e7.lt; omega) (at_new (M := M7) (o := .lst [.str sCount, .str sSum, .str sLeast, .str sGreatest, .str sUnlike]))
          refine pick (P := fun x => ∃ s : Txt, x = .str s ∧ (s = sCount ∨ s = sSum ∨ s = sLeast ∨ s = sGreatest ∨ s = sUnlike)) hl8 (by simp) a8 (by simpa using b8) fun x hx => ?_
          obtain ⟨s, rfl, hs'⟩ := hx
          have hg8 := f8.at_ _ _ sd (app_get hg7)
          have f78 : Fx d M7 M8 := Fx.app.trans f8
          have fin : ∀ (y : D) (M9 : List Ob), isSum y → En d M9 → Fx d M7 M9 → M9[M5.length]? = some (.lst ss) → Wp (lstMeth M5.length ss "append" [y]) M9 fun _ M10 => Wp (forD ⟨rangeD 0 (1 + v6), none⟩ (.loc 5) (fun ρ => exs g (evCall g (n + 3)) ρ (match f__law_shape.body with | .cons _ (.cons _ (.cons _ (.cons _ (.cons (.for _ _ b) _)))) => b | _ => .nil)) es [some (.ref d), some (.ref w), some (.int i), some (.ref p), some (.ref M5.length), some t, some (.str s)]) M10 fun fl M8 => ∃ ts p5 p6, fl = .nx [some (.ref d), some (.ref w), some (.int i), some (.ref p), some (.ref M5.length), p5, p6] ∧ ts.length = ss.length + (t :: es).length ∧ (∀ x ∈ ts, isSum x) ∧ En d M8 ∧ M8[M5.length]? = some (.lst ts) ∧ Fx d M5 M8 := by
            intro y M9 hy e9 f79 hg9
            refine Wp.bind (Wp.ask (by unfold lim; omega) (Wp.bind (Wp.put (lt_of hg9) (Wp.pure ?_))))
            have e10 : En d (M9.set M5.length (.lst (ss ++ [y]))) := by
              obtain ⟨s, xs, a, b, c, e, h1, h2, h3, h4⟩ := e9.ex
              exact ⟨s, xs, a, b, c, e, by rw [List.getElem?_set_ne sd]; exact h1, by rw [List.getElem?_set_ne (by omega)]; exact h2, h3, h4⟩
            have f59 := f57.trans f79
            have f10 : Fx d M5 (M9.set M5.length (.lst (ss ++ [y]))) := by
              refine ⟨by rw [List.length_set]; exact f59.len, fun k o k1 hk => ?_⟩
              rw [List.getElem?_set_ne (by have := lt_of hk; omega)]
              exact f59.at_ _ _ k1 hk
            refine (ih (ss ++ [y]) _ _ _ (fun x hx => ?_) (by simp; omega) e10 f10 (set_self (lt_of hg9))).mono fun fl M11 z => ?_
            · rcases List.mem_append.mp hx with h | h
              · exact hs x h
              · rw [List.mem_singleton.mp h]; exact hy
            · obtain ⟨ts, p5, p6, rfl, z1, z2, z3, z4, z5⟩ := z
              exact ⟨ts, p5, p6, rfl, by rw [z1]; simp; omega, z2, z3, z4, z5⟩
          refine eqS (Wp.pure ⟨fun c => ?_, fun c => ?_⟩)
          · refine Wp.metL rfl ⟨M5.length, ss, rfl, hg8, by show 1 ≤ lim; decide, ss, hg8, ?_⟩
            exact fin _ M8 (.inl rfl) e8 f78 hg8
          · have hne : ¬ s = sCount := of_decide_eq_false c
            refine Wp.metL rfl ⟨M5.length, ss, rfl, hg8, ?_⟩
            refine name_ok H (n := n) e8 (hw7.fx f78) fun x M9 hx e9 f9 => ?_
            refine ⟨by show 2 ≤ lim; decide, ss, f9.at_ _ _ sd hg8, ?_⟩
            refine fin _ M9 (.inr ⟨s, x, rfl, ?_, hx⟩) e9 (f78.trans f9) (f9.at_ _ _ sd hg8)
            rcases hs' with h | h | h | h | h
            · exact absurd h hne
            · exact .inl h
            · exact .inr (.inl h)
            · exact .inr (.inr (.inl h))
            · exact .inr (.inr (.inr h))
      have hg6 := f6.at_ _ _ sd (at_new (M := M5) (o := .lst []))
      refine (main (rangeD 0 (1 + v6)) [] none none M6 (fun x h => by cases h) (by simp [rangeD]; omega) e6 (Fx.app.trans f6) hg6).mono fun fl M8 z => ?_
      obtain ⟨ts, p5, p6, rfl, z1, z2, z3, z4, z5⟩ := z
      have hg8 := z5.at_ p _ pd hg
      have lts : ts.length = (1 + v6).toNat := by rw [z1]; simp [rangeD]
      refine tupL hg8 (tupL z4 ?_)
      exact ⟨by show 4 ≤ lim; decide, q _ _ _ (.groups i0 i1 hp (by omega) z2 (by omega) (by omega)) z3 ((f03.trans f5).trans z5)⟩
theorem cols_ok {x : D} {m : Nat} (hx : isShape x m) {Q : Post} (q : Q (.int m) M) : Wp (evCall g (n + 1) "_law_columns_of" [x]) M Q := by
  cases hx with
  | rows hn h1 h2 =>
    refine Wp.call H.f__law_columns_of ⟨Nat.le_of_ble_eq_true rfl, Nat.le_of_ble_eq_true rfl, Nat.le_of_ble_eq_true rfl⟩ ?_
    refine Wp.opt (a := D.str sRows) rfl (eqS (Wp.pure ⟨fun _ => ?_, fun z => (by simp at z)⟩))
    exact Wp.opt rfl (Wp.pure q)
  | groups w0 w1 hn h1 hs h2 h3 =>
    rename_i wd ns ss
    refine Wp.call H.f__law_columns_of ⟨Nat.le_of_ble_eq_true rfl, Nat.le_of_ble_eq_true rfl, Nat.le_of_ble_eq_true rfl⟩ ?_
    refine Wp.opt (a := D.str sGroups) rfl (eqS (Wp.pure ⟨fun z => (by simp at z), fun _ => ?_⟩))
    refine Wp.opt (a := D.int wd) rfl (Wp.gtI (Wp.pure ?_))
    refine Wp.opt (a := D.tup ns) rfl (Wp.pure (Wp.pure ?_))
    refine Wp.opt (a := D.tup ss) rfl (Wp.pure (Wp.pure ?_))
    have e : ((if decide (0 < wd) = true then (1 : Int) else 0) + (ns.length : Int) + (ss.length : Int)) = (((if wd > 0 then 1 else 0) + ns.length + ss.length : Nat) : Int) := by
      by_cases hw : 0 < wd
      · rw [if_pos (decide_eq_true hw), if_pos hw]; omega
      · rw [if_neg (by simpa using hw), if_neg hw]; omega
    rw [e]; exact q
omit H in
theorem shape_pos {x : D} {m : Nat} (hx : isShape x m) : 0 < m ∧ m ≤ 11 := by
  cases hx with
  | rows hn h1 h2 => omega
  | groups w0 w1 hn h1 hs h2 h3 => constructor <;> split <;> omega
theorem question_ok (h : En d M) (hw : Wo w d M) {Q : Post} (q : ∀ x M', isQ 4 x → En d M' → Fx d M M' → Q x M') : Wp (evCall g (n + 10) "_law_question" [.ref d, .ref w]) M Q := by
  refine Wp.call H.f__law_question ⟨Nat.le_of_ble_eq_true rfl, Nat.le_of_ble_eq_true rfl, Nat.le_of_ble_eq_true rfl⟩ ?_
  refine source_ok H (n := n + 6) h hw fun s M1 hs e1 f1 => ?_
  refine ⟨by show 1 ≤ lim; decide, ?_⟩
  refine draw_ok H (n := n + 7) e1 (by decide) fun v M2 _ _ e2 f2 => ?_
  have tail : ∀ (c : D) (M3 : List Ob), isCnd 4 c → En d M3 → Fx d M M3 → wSs g (evCall g (n + 9)) [some (.ref d), some (.ref w), some s, some c, none, none, none] (match f__law_question.body with | .cons _ (.cons _ (.cons _ t)) => t | _ => .nil) M3 (fun fl M' => match fl with | .rt d => Q d M' | .nx _ => Q .non M' | _ => False) := by
    intro c M3 hc e3 f3
    refine shape_ok H (n := n + 5) e3 (hw.fx f3) fun sh m M4 hsh e4 f4 => ?_
    refine ⟨by show 0 ≤ lim; decide, ?_⟩
    refine draw_ok H (n := n + 7) e4 (by decide) fun v M5 _ _ e5 f5 => ?_
    have tail2 : ∀ (o : D) (M6 : List Ob), isOrd o m → En d M6 → Fx d M M6 → wSs g (evCall g (n + 9)) [some (.ref d), some (.ref w), some s, some c, some sh, some o, none] (match f__law_question.body with | .cons _ (.cons _ (.cons _ (.cons _ (.cons _ (.cons _ t))))) => t | _ => .nil) M6 (fun fl M' => match fl with | .rt d => Q d M' | .nx _ => Q .non M' | _ => False) := by
      intro o M6 ho e6 f6
      refine ⟨by show 6 ≤ lim; decide, ?_⟩
      refine draw_ok H (n := n + 7) e6.app (by decide) fun v7 M7 a7 b7 e7 f7 => ?_
      have hl7 := f7.at_ _ _ (by have := e6.lt; omega) (at_new (M := M6) (o := .lst [.int 0, .int 0, .int 0, .int 1, .int 2, .int 999]))
      refine pick (P := fun x => ∃ i : Int, x = .int i ∧ (i = 0 ∨ i = 1 ∨ i = 2 ∨ i = 999)) hl7 (by simp) a7 (by simpa using b7) fun x hx => ?_
      obtain ⟨i, rfl, hi⟩ := hx
      exact ⟨by show 5 ≤ lim; decide, q _ _ ⟨s, c, sh, o, i, m, rfl, hs, hc, hsh, ho, hi⟩ e7 ((f6.trans Fx.app).trans f7)⟩
    have f05 := (f3.trans f4).trans f5
    refine Wp.eqI (Wp.pure ⟨fun _ => ?_, fun _ => ?_⟩)
    · have hp := shape_pos hsh
      refine cols_ok H (n := n + 8) hsh ?_
      refine draw_ok H (n := n + 7) e5 (by omega) fun v6 M6 a6 b6 e6 f6 => ?_
      refine ⟨by show 2 ≤ lim; decide, ?_⟩
      refine draw_ok H (n := n + 7) e6.app (by decide) fun v7 M7 a7 b7 e7 f7 => ?_
      have hl7 := f7.at_ _ _ (by have := e6.lt; omega) (at_new (M := M6) (o := .lst [.str sUp, .str sDown]))
      refine pick (P := fun x => ∃ t : Txt, x = .str t ∧ (t = sUp ∨ t = sDown)) hl7 (by simp) a7 (by simpa using b7) fun x hx => ?_
      obtain ⟨t, rfl, ht⟩ := hx
      refine ⟨by show 2 ≤ lim; decide, ?_⟩
      exact tail2 _ M7 (.inr ⟨v6, t, rfl, a6, b6, ht⟩) e7 (((f05.trans f6).trans Fx.app).trans f7)
    · exact tail2 _ M5 (.inl rfl) e5 f05
  refine Wp.gtI (Wp.pure ⟨fun _ => ?_, fun _ => ?_⟩)
  · exact condition_ok H (n := n) e2 ((hw.fx f1).fx f2) fun c M3 hc e3 f3 => tail c M3 hc e3 ((f1.trans f2).trans f3)
  · exact tail _ M2 (.all _) e2 (f1.trans f2)
end
end GenF
end
section
set_option linter.all false
set_option maxRecDepth 100000
namespace PlanF
open Sb
def f_fixed_tests : Fn := ⟨1, 3, [], (.cons (.iff (.cmp .eq (.idx (.loc 0) (.cst (.int 0))) (.cst (.str [116, 101, 115, 116]))) (.cons (.ret (.lst (.cons (.loc 0) .nil))) .nil) .nil) (.cons (.iff (.cmp .ne (.idx (.loc 0) (.cst (.int 0))) (.cst (.str [97, 110, 100]))) (.cons (.ret (.lst .nil)) .nil) .nil) (.cons (.asg (.loc 1) (.lst .nil)) (.cons (.for (.loc 2) (.seq (.idx (.loc 0) (.cst (.int 1)))) (.cons (.exp (.met (.loc 1) "extend" (.cons (.call "fixed_tests" (.cons (.loc 2) .nil)) .nil))) .nil)) (.cons (.ret (.loc 1)) .nil))))), true⟩
def f_times_path : Fn := ⟨2, 4, [], (.cons (.iff (.or (.not (.isi (.loc 1) "int")) (.cmp .eq (.loc 0) (.cst (.str [100, 105, 102, 102, 101, 114, 115])))) (.cons (.ret (.cst .non)) .nil) .nil) (.cons (.asg (.loc 2) (.cst (.int 0))) (.cons (.asg (.loc 3) (.glb "LAST_TIME")) (.cons (.iff (.cmp .ne (.loc 0) (.cst (.str [98, 101, 108, 111, 119]))) (.cons (.asg (.loc 2) (.blt "max" (.cons (.loc 2) (.cons (.ite (.cmp .eq (.loc 0) (.cst (.str [105, 115]))) (.loc 1) (.bin .add (.loc 1) (.cst (.int 1)))) .nil)))) .nil) .nil) (.cons (.iff (.cmp .ne (.loc 0) (.cst (.str [97, 98, 111, 118, 101]))) (.cons (.asg (.loc 3) (.blt "min" (.cons (.loc 3) (.cons (.ite (.cmp .eq (.loc 0) (.cst (.str [105, 115]))) (.loc 1) (.bin .sub (.loc 1) (.cst (.int 1)))) .nil)))) .nil) .nil) (.cons (.ret (.ite (.cmp .le (.loc 2) (.loc 3)) (.tup (.cons (.cst (.str [116, 105, 109, 101, 115])) (.cons (.loc 2) (.cons (.loc 3) .nil)))) (.tup (.cons (.cst (.str [116, 105, 109, 101, 115])) (.cons (.cst (.int 1)) (.cons (.cst (.int 0)) .nil)))))) .nil)))))), true⟩
def f_path_of : Fn := ⟨1, 5, [], (.cons (.asg (.tup [2, 3, 4]) (.slc (.loc 0) (.cst (.int 1)) (.cst .non))) (.cons (.iff (.or (.cmp .ne (.idx (.loc 2) (.cst (.int 0))) (.cst (.str [116, 104, 105, 115]))) (.or (.cmp .ne (.idx (.loc 4) (.cst (.int 0))) (.cst (.str [118, 97, 108, 117, 101]))) (.cmp .eq (.idx (.loc 2) (.cst (.int 1))) (.cst (.str [115, 101, 114, 105, 97, 108]))))) (.cons (.ret (.cst .non)) .nil) .nil) (.cons (.asg (.loc 1) (.idx (.loc 4) (.cst (.int 1)))) (.cons (.iff (.cmp .eq (.idx (.loc 2) (.cst (.int 1))) (.cst (.str [116, 105, 109, 101]))) (.cons (.ret (.call "times_path" (.cons (.loc 3) (.cons (.loc 1) .nil)))) .nil) .nil) (.cons (.iff (.cmp .ne (.loc 3) (.cst (.str [105, 115]))) (.cons (.ret (.cst .non)) .nil) .nil) (.cons (.iff (.cmp .eq (.idx (.loc 2) (.cst (.int 1))) (.cst (.str [115, 117, 98, 106, 101, 99, 116]))) (.cons (.ret (.ite (.isi (.loc 1) "int") (.cst .non) (.tup (.cons (.cst (.str [115, 117, 98, 106, 101, 99, 116])) (.cons (.loc 1) .nil))))) .nil) .nil) (.cons (.ret (.tup (.cons (.cst (.str [102, 105, 101, 108, 100])) (.cons (.idx (.loc 2) (.cst (.int 1))) (.cons (.loc 1) .nil))))) .nil))))))), true⟩
def f_paths : Fn := ⟨1, 4, [], (.cons (.asg (.loc 1) (.lst (.cons (.tup (.cons (.cst (.str [107, 105, 110, 100])) .nil)) .nil))) (.cons (.for (.loc 2) (.seq (.call "fixed_tests" (.cons (.idx (.loc 0) (.cst (.int 1))) .nil))) (.cons (.asg (.loc 3) (.call "path_of" (.cons (.loc 2) .nil))) (.cons (.iff (.and (.cmp .isnt (.loc 3) (.cst .non)) (.cmp .nin (.loc 3) (.loc 1))) (.cons (.exp (.met (.loc 1) "append" (.cons (.loc 3) .nil))) .nil) .nil) .nil))) (.cons (.ret (.loc 1)) .nil))), true⟩
structure Has (g : G) : Prop where
  f_fixed_tests : g.fn "fixed_tests" = some f_fixed_tests
  f_times_path : g.fn "times_path" = some f_times_path
  f_path_of : g.fn "path_of" = some f_path_of
  f_paths : g.fn "paths" = some f_paths
end PlanF
end
section
set_option linter.all false
set_option maxRecDepth 100000
set_option maxHeartbeats 400000
namespace PlanF
open Sb GenF
structure Xt (M M' : List Ob) : Prop where
  len : M.length ≤ M'.length
  at_ : ∀ (i : Nat) (o : Ob), M[i]? = some o → M'[i]? = some o
theorem Xt.refl {M : List Ob} : Xt M M := ⟨Nat.le_refl _, fun _ _ h => h⟩
theorem Xt.trans {M M1 M2 : List Ob} (a : Xt M M1) (b : Xt M1 M2) : Xt M M2 := ⟨Nat.le_trans a.len b.len, fun i o h => b.at_ i o (a.at_ i o h)⟩
theorem Xt.app {M N : List Ob} : Xt M (M ++ N) := ⟨by simp, fun _ _ h => app_get h⟩
theorem Xt.fx {d : Nat} {M M' : List Ob} (h : Xt M M') : Fx d M M' := ⟨h.len, fun i o _ e => h.at_ i o e⟩
theorem Xt.put {M M1 : List Ob} {p : Nat} {o : Ob} (h : Xt M M1) (hp : M.length ≤ p) : Xt M (M1.set p o) := ⟨by rw [List.length_set]; exact h.len, fun i u e => by
  rw [List.getElem?_set_ne (by have := lt_of e; omega)]; exact h.at_ i u e⟩
def fix : Nat → D → List D
  | _, .tup [.str s, a, b, c] => if s = sTest then [.tup [.str s, a, b, c]] else []
  | n + 1, .tup [.str s, .tup cs] => if s = sAnd then (cs.map (fix n)).flatten else []
  | _, _ => []
theorem fix_test {k : Nat} {x : D} (h : isTest x) : fix k x = [x] := by
  obtain ⟨l, r, s, rfl, _⟩ := h
  cases k <;> simp [fix]
theorem fix_len {k : Nat} {x : D} (h : isCnd k x) : (fix k x).length ≤ 10 ^ k := by
  induction h with
  | all n => cases n <;> simp [fix]
  | test n hx => rw [fix_test hx]; exact Nat.one_le_pow _ _ (by decide)
  | @neg n c hc ih =>
    have : fix (n + 1) (.tup [.str sNegate, c]) = [] := by
      cases c <;> simp [fix]
    rw [this]; simp
  | @jn n s cs hs hc hl ih =>
    simp only [fix]
    split
    · have : ∀ l : List D, (∀ c ∈ l, (fix n c).length ≤ 10 ^ n) → ((l.map (fix n)).flatten).length ≤ l.length * 10 ^ n := by
        intro l
        induction l with
        | nil => intro _; simp
        | cons a l ihl =>
          intro h
          have h1 := h a (List.mem_cons_self ..)
          have h2 := ihl fun c hc => h c (List.mem_cons_of_mem _ hc)
          simp only [List.map_cons, List.flatten_cons, List.length_append, List.length_cons]
          rw [Nat.add_mul]; omega
      refine Nat.le_trans (this cs ih) ?_
      rw [Nat.pow_succ, Nat.mul_comm]
      exact Nat.mul_le_mul_left _ hl
    · simp
section
variable {g : G} (H : Has g) {n : Nat}
include H
theorem fixed_ok : ∀ (k : Nat) {x : D} {M : List Ob}, isCnd k x → k ≤ 6 → ∀ {Q : Post}, (∀ p M', M'[p]? = some (.lst (fix k x)) → M.length ≤ p → Xt M M' → Q (.ref p) M') → Wp (evCall g (n + k + 1) "fixed_tests" [x]) M Q := by
  intro k
  have tst : ∀ (k : Nat) {x : D} {M : List Ob} {m : Nat}, isTest x → ∀ {Q : Post}, (∀ p M', M'[p]? = some (.lst (fix k x)) → M.length ≤ p → Xt M M' → Q (.ref p) M') → Wp (evCall g (m + 1) "fixed_tests" [x]) M Q := by
    intro k x M m hx Q q
    rw [fix_test hx] at q
    obtain ⟨l, r, s, rfl, _⟩ := hx
    refine Wp.call H.f_fixed_tests ⟨Nat.le_of_ble_eq_true rfl, Nat.le_of_ble_eq_true rfl, Nat.le_of_ble_eq_true rfl⟩ ?_
    refine Wp.opt (a := D.str sTest) rfl (eqS (Wp.pure ⟨fun _ => ?_, fun z => (by simp at z)⟩))
    exact ⟨by show 1 ≤ lim; decide, q _ _ at_new (Nat.le_refl _) Xt.app⟩
  have nne : ∀ (k : Nat) {s : Txt} {r : List D} {M : List Ob} {m : Nat}, s ≠ sTest → s ≠ sAnd → fix k (.tup (.str s :: r)) = [] → ∀ {Q : Post}, (∀ p M', M'[p]? = some (.lst (fix k (.tup (.str s :: r)))) → M.length ≤ p → Xt M M' → Q (.ref p) M') → Wp (evCall g (m + 1) "fixed_tests" [.tup (.str s :: r)]) M Q := by
    intro k s r M m h1 h2 e Q q
    rw [e] at q
    refine Wp.call H.f_fixed_tests ⟨Nat.le_of_ble_eq_true rfl, Nat.le_of_ble_eq_true rfl, Nat.le_of_ble_eq_true rfl⟩ ?_
    have e0 : atIx (D.str s :: r) (0 : Int) = some (D.str s) := by simp [atIx, ixOf]
    refine Wp.opt e0 (eqS (Wp.pure ⟨fun z => absurd (of_decide_eq_true z) h1, fun _ => ?_⟩))
    refine Wp.opt e0 (neS (Wp.pure ⟨fun _ => ?_, fun z => (by simp [h2] at z)⟩))
    exact ⟨by show 0 ≤ lim; decide, q _ _ at_new (Nat.le_refl _) Xt.app⟩
  induction k with
  | zero =>
    intro x M hx _ Q q
    cases hx with
    | all => exact nne 0 (by decide) (by decide) rfl q
    | test _ h => exact tst 0 h q
  | succ k ih =>
    intro x M hx hk Q q
    cases hx with
    | all => exact nne (k + 1) (by decide) (by decide) rfl q
    | test _ h => exact tst (k + 1) h q
    | neg hc =>
      rename_i c
      refine nne (k + 1) (by decide) (by decide) ?_ q
      cases c <;> simp [fix]
    | jn hs hc hl =>
      rename_i s cs
      rcases hs with rfl | rfl
      · refine Wp.call H.f_fixed_tests ⟨Nat.le_of_ble_eq_true rfl, Nat.le_of_ble_eq_true rfl, Nat.le_of_ble_eq_true rfl⟩ ?_
        refine Wp.opt (a := D.str sAnd) rfl (eqS (Wp.pure ⟨fun z => (by simp at z), fun _ => ?_⟩))
        refine Wp.opt (a := D.str sAnd) rfl (neS (Wp.pure ⟨fun z => (by simp at z), fun _ => ?_⟩))
        refine ⟨by show 0 ≤ lim; decide, ?_⟩
        refine Wp.for ?_
        refine Wp.bind (m := ev _ _ _ (.idx _ _)) (wE_ok (c := .idx (.loc 0) (.cst (.int 1))) ?_)
        refine Wp.opt (a := D.tup cs) rfl (Wp.pure ?_)
        have tot : ∀ l : List D, (∀ c ∈ l, isCnd k c) → ((l.map (fix k)).flatten).length ≤ l.length * 10 ^ k := by
          intro l
          induction l with
          | nil => intro _; simp
          | cons a l ihl =>
            intro h
            have h1 := fix_len (h a (List.mem_cons_self ..))
            have h2 := ihl fun c hc => h c (List.mem_cons_of_mem _ hc)
            simp only [List.map_cons, List.flatten_cons, List.length_append, List.length_cons]
            rw [Nat.add_mul]; omega
        have p6 : 10 ^ k ≤ 1000000 := Nat.le_trans (Nat.pow_le_pow_right (by decide) (by omega : k ≤ 6)) (by decide)
        have main : ∀ (es : List D) (acc : List D) (o : Option D) (M1 : List Ob), (∀ c ∈ es, isCnd k c) → acc.length + es.length * 10 ^ k ≤ 10 * 10 ^ k → M1[M.length]? = some (.lst acc) → Xt M M1 →
            Wp (forD ⟨cs, none⟩ (.loc 2) (fun ρ => exs g (evCall g (n + (k + 1))) ρ (match f_fixed_tests.body with | .cons _ (.cons _ (.cons _ (.cons (.for _ _ b) _))) => b | _ => .nil)) es [some (.tup [.str sAnd, .tup cs]), some (.ref M.length), o]) M1 fun fl M2 => ∃ o2, fl = .nx [some (.tup [.str sAnd, .tup cs]), some (.ref M.length), o2] ∧ M2[M.length]? = some (.lst (acc ++ (es.map (fix k)).flatten)) ∧ Xt M M2 := by
          intro es
          induction es with
          | nil => intro acc o M1 _ _ hg hx; exact Wp.forN rfl ⟨o, rfl, by simpa using hg, hx⟩
          | cons e es ihe =>
            intro acc o M1 hes hle hg hx
            simp only [List.length_cons] at hle
            rw [Nat.add_mul, Nat.one_mul] at hle
            refine Wp.forC rfl ?_
            refine wSs_ok ?_
            refine Wp.metL rfl ⟨M.length, acc, rfl, hg, ?_⟩
            have hek := hes e (List.mem_cons_self ..)
            refine ih hek (by omega) fun p M2 hp hle2 hx2 => ?_
            refine ⟨acc, hx2.at_ _ _ hg, ?_⟩
            have fl := fix_len hek
            refine Wp.bind (Wp.bind (Wp.get hp (Wp.pure ?_)))
            refine Wp.bind (Wp.ask (by unfold lim; omega) (Wp.bind (Wp.put (lt_of (hx2.at_ _ _ hg)) (Wp.pure ?_))))
            refine (ihe (acc ++ fix k e) _ _ (fun c hc => hes c (List.mem_cons_of_mem _ hc)) (by rw [List.length_append]; omega) (set_self (lt_of (hx2.at_ _ _ hg))) ((hx.trans hx2).put (Nat.le_refl _))).mono fun fl M3 z => ?_
            obtain ⟨o2, rfl, z1, z2⟩ := z
            exact ⟨o2, rfl, by rw [z1]; simp, z2⟩
        refine (main cs [] none (M ++ [.lst []]) hc (by simp; exact Nat.mul_le_mul_right _ hl) at_new Xt.app).mono fun fl M2 z => ?_
        obtain ⟨o2, rfl, z1, z2⟩ := z
        refine q _ _ ?_ (Nat.le_refl _) z2
        rw [z1]
        simp [fix]
      · refine nne (k + 1) (by decide) (by decide) ?_ q
        simp [fix]
end
end PlanF
end
section
set_option linter.all false
set_option maxRecDepth 100000
set_option maxHeartbeats 400000
namespace PlanF
open Sb GenF
abbrev sTimes : Txt := [116, 105, 109, 101, 115]
abbrev sTime : Txt := [116, 105, 109, 101]
abbrev sSerial : Txt := [115, 101, 114, 105, 97, 108]
abbrev sSubject : Txt := [115, 117, 98, 106, 101, 99, 116]
abbrev sField : Txt := [102, 105, 101, 108, 100]
abbrev sKind : Txt := [107, 105, 110, 100]
def lowOf (s : Txt) (v : Int) : Int := if s = sBelow then 0 else if (if s = sIs then v else v + 1) > 0 then (if s = sIs then v else v + 1) else 0
def highOf (s : Txt) (v : Int) : Int := if s = sAbove then 9999 else if (if s = sIs then v else v - 1) < 9999 then (if s = sIs then v else v - 1) else 9999
def times (s : Txt) (v : Int) : D := if lowOf s v ≤ highOf s v then .tup [.str sTimes, .int (lowOf s v), .int (highOf s v)] else .tup [.str sTimes, .int 1, .int 0]
def timeV (s : Txt) : D → D
  | .int v => if s = sDiffers then .non else times s v
  | _ => .non
def pathD : D → D
  | .tup [_, .tup [.str a, .str l], .str s, .tup [.str b, r]] =>
    if a = sThis ∧ b = sValue ∧ l ≠ sSerial then
      (if l = sTime then timeV s r
      else if s = sIs then
        (if l = sSubject then (match r with
          | .int _ => .non
          | _ => .tup [.str sSubject, r])
        else .tup [.str sField, .str l, r])
      else .non)
    else .non
  | _ => .non
section
variable {g : G} (H : Has g) (hT : g.glb "LAST_TIME" = some (.int 9999)) {n : Nat} {M : List Ob}
include H hT
theorem times_ok {s : Txt} {r : D} (hr : isVal r ∨ ∃ t, r = .str t) {Q : Post} (q : Q (timeV s r) M) : Wp (evCall g (n + 1) "times_path" [.str s, r]) M Q := by
  refine Wp.call H.f_times_path ⟨Nat.le_of_ble_eq_true rfl, Nat.le_of_ble_eq_true rfl, Nat.le_of_ble_eq_true rfl⟩ ?_
  have str : ∀ t : Txt, r = .str t → wSs g (evCall g n) [some (.str s), some r, none, none] f_times_path.body M (fun fl M' => match fl with | .rt d => Q d M' | .nx _ => Q .non M' | _ => False) := by
    rintro t rfl
    exact ⟨false, rfl, Wp.pure ⟨fun _ => Wp.pure ⟨fun _ => q, fun z => by cases z⟩, fun z => by cases z⟩⟩
  rcases hr with (⟨v, rfl, v0, v1⟩ | ⟨t, rfl, _⟩) | ⟨t, rfl⟩
  · refine ⟨true, rfl, Wp.pure ⟨fun z => (by cases z), fun _ => ?_⟩⟩
    refine eqS (Wp.pure ⟨fun c => ?_, fun c => ?_⟩)
    · have e := of_decide_eq_true c
      simp only [timeV] at q
      rw [if_pos e] at q
      exact q
    have e : ¬ s = sDiffers := of_decide_eq_false c
    simp only [timeV] at q
    rw [if_neg e] at q
    refine ⟨_, hT, ?_⟩
    have fin : ∀ lo hi : Int, lo = lowOf s v → hi = highOf s v → wSs g (evCall g n) [some (.str s), some (.int v), some (.int lo), some (.int hi)] (match f_times_path.body with | .cons _ (.cons _ (.cons _ (.cons _ (.cons _ t)))) => t | _ => .nil) M (fun fl M' => match fl with | .rt d => Q d M' | .nx _ => Q .non M' | _ => False) := by
      rintro lo hi rfl rfl
      refine Wp.leI (Wp.pure ⟨fun c => ?_, fun c => ?_⟩)
      · refine ⟨by show 3 ≤ lim; decide, ?_⟩
        unfold times at q
        rw [if_pos (of_decide_eq_true c)] at q
        exact q
      · refine ⟨by show 3 ≤ lim; decide, ?_⟩
        unfold times at q
        rw [if_neg (of_decide_eq_false c)] at q
        exact q
    have second : ∀ lo : Int, lo = lowOf s v → wSs g (evCall g n) [some (.str s), some (.int v), some (.int lo), some (.int 9999)] (match f_times_path.body with | .cons _ (.cons _ (.cons _ (.cons _ t))) => t | _ => .nil) M (fun fl M' => match fl with | .rt d => Q d M' | .nx _ => Q .non M' | _ => False) := by
      intro lo hlo
      refine neS (Wp.pure ⟨fun c => ?_, fun c => ?_⟩)
      · have ea : ¬ s = sAbove := by simpa using c
        refine eqS (Wp.pure ⟨fun c2 => ?_, fun c2 => ?_⟩)
        · refine Wp.pure (fin lo _ hlo ?_)
          unfold highOf
          rw [if_neg ea, if_pos (of_decide_eq_true c2)]
        · refine Wp.pure (Wp.pure (fin lo _ hlo ?_))
          unfold highOf
          rw [if_neg ea, if_neg (of_decide_eq_false c2)]
      · have ea : s = sAbove := by simpa using c
        refine fin lo _ hlo ?_
        unfold highOf
        rw [if_pos ea]
    refine neS (Wp.pure ⟨fun c => ?_, fun c => ?_⟩)
    · have ea : ¬ s = sBelow := by simpa using c
      refine eqS (Wp.pure ⟨fun c2 => ?_, fun c2 => ?_⟩)
      · refine Wp.pure (second _ ?_)
        unfold lowOf
        rw [if_neg ea, if_pos (of_decide_eq_true c2)]
      · refine Wp.pure (Wp.pure (second _ ?_))
        unfold lowOf
        rw [if_neg ea, if_neg (of_decide_eq_false c2)]
    · have ea : s = sBelow := by simpa using c
      refine second _ ?_
      unfold lowOf
      rw [if_pos ea]
  · exact str t rfl
  · exact str t rfl
theorem path_ok {x : D} (hx : isTest x) {Q : Post} (q : Q (pathD x) M) : Wp (evCall g (n + 2) "path_of" [x]) M Q := by
  obtain ⟨l, r, s, rfl, hl, hs, hr⟩ := hx
  refine Wp.call H.f_path_of ⟨Nat.le_of_ble_eq_true rfl, Nat.le_of_ble_eq_true rfl, Nat.le_of_ble_eq_true rfl⟩ ?_
  refine Wp.pure (Wp.pure (Wp.pure ?_))
  have hr2 : ∃ b v, r = .tup [.str b, v] ∧ (isVal v ∨ ∃ t, v = .str t) := by
    rcases hr with ⟨b, t, rfl, _⟩ | ⟨v, rfl, hv⟩
    · exact ⟨b, _, rfl, .inr ⟨t, rfl⟩⟩
    · exact ⟨_, v, rfl, .inl hv⟩
  obtain ⟨b, v, rfl, hv⟩ := hr2
  rcases hl with ⟨a, t, rfl, _⟩ | ⟨lv, rfl, hlv⟩
  · refine Wp.opt (a := D.str a) rfl (neS ⟨fun c => ?_, fun c => ?_⟩)
    · have e : ¬ a = sThis := by simpa using c
      have : pathD (.tup [.str sTest, .tup [.str a, .str t], .str s, .tup [.str b, v]]) = .non := by
        simp only [pathD]; rw [if_neg (fun h => e h.1)]
      rw [this] at q
      exact Wp.pure ⟨fun _ => q, fun z => by cases z⟩
    have ea : a = sThis := by simpa using c
    refine Wp.opt (a := D.str b) rfl (neS ⟨fun c => ?_, fun c => ?_⟩)
    · have e : ¬ b = sValue := by simpa using c
      have : pathD (.tup [.str sTest, .tup [.str a, .str t], .str s, .tup [.str b, v]]) = .non := by
        simp only [pathD]; rw [if_neg (fun h => e h.2.1)]
      rw [this] at q
      exact Wp.pure ⟨fun _ => q, fun z => by cases z⟩
    have eb : b = sValue := by simpa using c
    refine Wp.opt (a := D.str t) rfl (eqS (Wp.pure ⟨fun c => ?_, fun c => ?_⟩))
    · have e : t = sSerial := of_decide_eq_true c
      have : pathD (.tup [.str sTest, .tup [.str a, .str t], .str s, .tup [.str b, v]]) = .non := by
        simp only [pathD]; rw [if_neg (fun h => h.2.2 e)]
      rw [this] at q
      exact q
    have et : ¬ t = sSerial := of_decide_eq_false c
    simp only [pathD] at q
    rw [if_pos ⟨ea, eb, et⟩] at q
    refine Wp.opt rfl ?_
    refine Wp.opt (a := D.str t) rfl (eqS (Wp.pure ⟨fun c => ?_, fun c => ?_⟩))
    · rw [if_pos (of_decide_eq_true c)] at q
      exact times_ok H hT (n := n) hv q
    rw [if_neg (of_decide_eq_false c)] at q
    refine neS (Wp.pure ⟨fun c => ?_, fun c => ?_⟩)
    · rw [if_neg (by simpa using c)] at q
      exact q
    rw [if_pos (by simpa using c)] at q
    refine Wp.opt (a := D.str t) rfl (eqS (Wp.pure ⟨fun c => ?_, fun c => ?_⟩))
    · rw [if_pos (of_decide_eq_true c)] at q
      rcases hv with (⟨i, rfl, _⟩ | ⟨u, rfl, _⟩) | ⟨u, rfl⟩
      · exact ⟨true, rfl, Wp.pure ⟨fun _ => q, fun z => by cases z⟩⟩
      · exact ⟨false, rfl, Wp.pure ⟨fun z => (by cases z), fun _ => ⟨by show 2 ≤ lim; decide, q⟩⟩⟩
      · exact ⟨false, rfl, Wp.pure ⟨fun z => (by cases z), fun _ => ⟨by show 2 ≤ lim; decide, q⟩⟩⟩
    · rw [if_neg (of_decide_eq_false c)] at q
      exact Wp.opt (a := D.str t) rfl ⟨by show 3 ≤ lim; decide, q⟩
  · refine Wp.opt (a := D.str sValue) rfl (neS ⟨fun _ => ?_, fun c => (by simp at c)⟩)
    have : pathD (.tup [.str sTest, .tup [.str sValue, lv], .str s, .tup [.str b, v]]) = .non := by
      cases lv <;> simp [pathD]
    rw [this] at q
    exact Wp.pure ⟨fun _ => q, fun z => by cases z⟩
end
end PlanF
end
section
set_option linter.all false
set_option maxRecDepth 100000
set_option maxHeartbeats 400000
namespace PlanF
open Sb GenF
inductive isP : Nat → D → Prop
  | int (k : Nat) (i : Int) : isP k (.int i)
  | str (k : Nat) (s : Txt) : isP k (.str s)
  | tup {k : Nat} {ds : List D} : (∀ x ∈ ds, isP k x) → ds.length ≤ 1000000 → isP (k + 1) (.tup ds)
theorem isP.up {k : Nat} {x : D} (h : isP k x) : isP (k + 1) x := by
  induction h with
  | int k i => exact .int _ _
  | str k s => exact .str _ _
  | tup _ hl ih => exact .tup ih hl
mutual
def tr : D → T
  | .non => .non
  | .bl b => .bl b
  | .int i => .int i
  | .str s => .str s
  | .tup ds => .tup (trs ds)
  | .ref _ => .non
  | .rol _ => .non
def trs : List D → List T
  | [] => []
  | d :: ds => tr d :: trs ds
end
theorem tree_res {dr : Nat → Option T} {ds : List D} (h : ∀ x ∈ ds, D.re dr x = some (tr x)) : D.res dr ds = some (trs ds) := by
  induction ds with
  | nil => rfl
  | cons d ds ih =>
    have h1 := h d (List.mem_cons_self ..)
    have h2 := ih fun x hx => h x (List.mem_cons_of_mem _ hx)
    simp [D.res, h1, h2, trs]
theorem tree_re {dr : Nat → Option T} {k : Nat} {x : D} (h : isP k x) : D.re dr x = some (tr x) := by
  induction h with
  | int k i => rfl
  | str k s => rfl
  | tup _ _ ih => simp [D.re, tr, tree_res ih]
theorem tree_p {k : Nat} {x : D} {M : List Ob} (h : isP k x) : tree M x = some (tr x) := tree_re h
theorem tree_lst {k p : Nat} {ds : List D} {M : List Ob} (hp : M[p]? = some (.lst ds)) (h : ∀ x ∈ ds, isP k x) : tree M (.ref p) = some (T.lst (trs ds)) := by
  show drN M 8 p = _
  unfold drN
  rw [hp]
  show (D.res (drN M 7) ds).map T.lst = _
  rw [tree_res fun x hx => tree_re (h x hx)]; rfl
theorem deps_le {ds : List D} {k : Nat} (h : ∀ x ∈ ds, T.dep (tr x) ≤ k) : T.deps (trs ds) ≤ k := by
  induction ds with
  | nil => simp [trs, T.deps]
  | cons d ds ih =>
    simp only [trs, T.deps]
    exact Nat.max_le.mpr ⟨h d (List.mem_cons_self ..), ih fun x hx => h x (List.mem_cons_of_mem _ hx)⟩
theorem dep_p {k : Nat} {x : D} (h : isP k x) : T.dep (tr x) ≤ k := by
  induction h with
  | int k i => simp [tr, T.dep]
  | str k s => simp [tr, T.dep]
  | tup _ _ ih => simp only [tr, T.dep]; exact Nat.succ_le_succ (deps_le ih)
mutual
theorem eqv_p : ∀ {x y : D} {k : Nat}, isP k x → isP k y → T.eqv (tr x) (tr y) = decide (x = y)
  | .int i, y, k, _, hy => by cases hy <;> simp [tr, T.eqv]
  | .str s, y, k, _, hy => by cases hy <;> simp [tr, T.eqv]
  | .tup ds, y, k, hx, hy => by
    cases hx with
    | tup hx _ =>
      cases hy with
      | int => simp [tr, T.eqv]
      | str => simp [tr, T.eqv]
      | tup hy _ =>
        simp only [tr, T.eqv, D.tup.injEq]
        exact eqvs_p hx hy
  | .non, _, _, hx, _ => by cases hx
  | .bl _, _, _, hx, _ => by cases hx
  | .ref _, _, _, hx, _ => by cases hx
  | .rol _, _, _, hx, _ => by cases hx
theorem eqvs_p : ∀ {xs ys : List D} {k : Nat}, (∀ x ∈ xs, isP k x) → (∀ y ∈ ys, isP k y) → T.eqvs (trs xs) (trs ys) = decide (xs = ys)
  | [], [], _, _, _ => rfl
  | [], _ :: _, _, _, _ => by simp [trs, T.eqvs]
  | _ :: _, [], _, _, _ => by simp [trs, T.eqvs]
  | x :: xs, y :: ys, k, hx, hy => by
    simp only [trs, T.eqvs, List.cons.injEq]
    rw [eqv_p (hx x (List.mem_cons_self ..)) (hy y (List.mem_cons_self ..)), eqvs_p (fun z hz => hx z (List.mem_cons_of_mem _ hz)) (fun z hz => hy z (List.mem_cons_of_mem _ hz))]
    by_cases h1 : x = y <;> by_cases h2 : xs = ys <;> simp [h1, h2]
end
theorem any_p {x : D} {k : Nat} (hx : isP k x) : ∀ {ys : List D}, (∀ y ∈ ys, isP k y) → ((trs ys).any fun t => t.eqv (tr x)) = decide (x ∈ ys)
  | [], _ => by simp [trs]
  | y :: ys, hy => by
    simp only [trs, List.any_cons]
    rw [any_p hx fun z hz => hy z (List.mem_cons_of_mem _ hz), eqv_p (hy y (List.mem_cons_self ..)) hx]
    by_cases h1 : x = y
    · subst h1; simp
    · have : ¬ y = x := fun e => h1 e.symm
      simp [h1, this]
section
variable {M : List Ob}
theorem inL {k p : Nat} {x : D} {ys : List D} (hx : isP k x) (hk : k ≤ 60) (hp : M[p]? = some (.lst ys)) (hy : ∀ y ∈ ys, isP k y) {Q : Bool → List Ob → Prop} (q : Q (decide (x ∈ ys)) M) : Wp (cop .inn x (.ref p)) M Q := by
  refine Wp.bind (Wp.get hp ?_)
  have d1 := dep_p hx
  have d2 : T.dep (T.lst (trs ys)) ≤ 64 := by
    simp only [T.dep]
    have := deps_le fun y hy' => dep_p (hy y hy')
    omega
  refine Wp.bind ⟨_, M, tree_of (tree_p hx) (tree_lst hp hy) (by omega) d2, ?_⟩
  refine Wp.pure ?_
  rw [any_p hx hy]; exact q
theorem ninL {k p : Nat} {x : D} {ys : List D} (hx : isP k x) (hk : k ≤ 60) (hp : M[p]? = some (.lst ys)) (hy : ∀ y ∈ ys, isP k y) {Q : Bool → List Ob → Prop} (q : Q (!decide (x ∈ ys)) M) : Wp (cop .nin x (.ref p)) M Q := by
  refine Wp.bind ((inL hx hk hp hy (Q := fun b M' => b = decide (x ∈ ys) ∧ M' = M) ⟨rfl, rfl⟩).mono fun b M' z => ?_)
  obtain ⟨rfl, rfl⟩ := z
  exact Wp.pure q
theorem eqP {k : Nat} {x y : D} (hx : isP k x) (hy : isP k y) (hk : k ≤ 60) {Q : Bool → List Ob → Prop} (q : Q (decide (x = y)) M) : Wp (cop .eq x y) M Q := Wp.eq (tree_p hx) (tree_p hy) (Nat.le_trans (dep_p hx) (by omega)) (Nat.le_trans (dep_p hy) (by omega)) (by rw [eqv_p hx hy]; exact q)
theorem neP {k : Nat} {x y : D} (hx : isP k x) (hy : isP k y) (hk : k ≤ 60) {Q : Bool → List Ob → Prop} (q : Q (!decide (x = y)) M) : Wp (cop .ne x y) M Q := Wp.ne (tree_p hx) (tree_p hy) (Nat.le_trans (dep_p hx) (by omega)) (Nat.le_trans (dep_p hy) (by omega)) (by rw [eqv_p hx hy]; exact q)
end
theorem _root_.GenF.isW.p {n : Nat} {x : D} (h : isW n x) (k : Nat) : isP k x := by obtain ⟨s, rfl, _⟩ := h; exact .str _ _
theorem _root_.GenF.isVal.p {x : D} (h : isVal x) (k : Nat) : isP k x := by
  rcases h with ⟨i, rfl, _⟩ | h
  · exact .int _ _
  · exact h.p k
theorem _root_.GenF.isOpd.p {x : D} (h : isOpd x) : isP 1 x := by
  rcases h with ⟨s, w, rfl, _⟩ | ⟨v, rfl, hv⟩
  · exact .tup (by simp; exact ⟨.str _ _, .str _ _⟩) (by simp)
  · exact .tup (by simp; exact ⟨.str _ _, hv.p 0⟩) (by simp)
theorem _root_.GenF.isTest.p {x : D} (h : isTest x) : isP 2 x := by
  obtain ⟨l, r, s, rfl, hl, _, hr⟩ := h
  exact .tup (by simp; exact ⟨.str _ _, hl.p, .str _ _, hr.p⟩) (by simp)
theorem times_p (s : Txt) (v : Int) : isP 1 (times s v) := by
  unfold times
  split
  · exact .tup (by simp; exact ⟨.str _ _, .int _ _, .int _ _⟩) (by simp)
  · exact .tup (by simp; exact ⟨.str _ _, .int _ _, .int _ _⟩) (by simp)
theorem path_p {x : D} (h : isTest x) : pathD x = .non ∨ isP 1 (pathD x) := by
  obtain ⟨l, r, s, rfl, hl, _, hr⟩ := h
  have hr2 : ∃ b v, r = .tup [.str b, v] ∧ isP 0 v := by
    rcases hr with ⟨b, t, rfl, _⟩ | ⟨v, rfl, hv⟩
    · exact ⟨b, _, rfl, .str _ _⟩
    · exact ⟨_, v, rfl, hv.p 0⟩
  obtain ⟨b, v, rfl, hv⟩ := hr2
  rcases hl with ⟨a, t, rfl, _⟩ | ⟨lv, rfl, hlv⟩
  · simp only [pathD]
    split
    · split
      · cases hv with
        | int _ i =>
          simp only [timeV]
          split
          · exact .inl rfl
          · exact .inr (times_p _ _)
        | str => exact .inl rfl
      · split
        · split
          · cases hv with
            | int => exact .inl rfl
            | str => exact .inr (.tup (by simp; exact ⟨.str _ _, .str _ _⟩) (by simp))
          · exact .inr (.tup (by simp; exact ⟨.str _ _, .str _ _, hv⟩) (by simp))
        · exact .inl rfl
    · exact .inl rfl
  · left
    cases lv <;> simp [pathD]
theorem fix_mem {k : Nat} {x y : D} (h : isCnd k x) (hy : y ∈ fix k x) : isTest y := by
  induction h with
  | all n => cases n <;> simp [fix] at hy
  | test n hx => rw [fix_test hx] at hy; rw [List.mem_singleton.mp hy]; exact hx
  | @neg n c hc ih =>
    have : fix (n + 1) (.tup [.str sNegate, c]) = [] := by cases c <;> simp [fix]
    rw [this] at hy; cases hy
  | @jn n s cs hs hc hl ih =>
    simp only [fix] at hy
    split at hy
    · obtain ⟨l, hl, hm⟩ := List.mem_flatten.mp hy
      obtain ⟨c, hc', rfl⟩ := List.mem_map.mp hl
      exact ih c hc' hm
    · cases hy
end PlanF
end
section
set_option linter.all false
set_option maxRecDepth 100000
set_option maxHeartbeats 400000
namespace PlanF
open Sb GenF
def addP (acc : List D) (p : D) : List D := if p = .non then acc else if p ∈ acc then acc else acc ++ [p]
def pathsOf (ts : List D) : List D := ts.foldl (fun acc t => addP acc (pathD t)) [.tup [.str sKind]]
theorem addP_len (acc : List D) (p : D) : (addP acc p).length ≤ acc.length + 1 := by
  unfold addP
  split
  · omega
  · split
    · omega
    · simp
theorem addP_p {acc : List D} {t : D} (ht : isTest t) (ha : ∀ y ∈ acc, isP 1 y) : ∀ y ∈ addP acc (pathD t), isP 1 y := by
  intro y hy
  unfold addP at hy
  split at hy
  · exact ha y hy
  · rename_i h
    split at hy
    · exact ha y hy
    · rcases List.mem_append.mp hy with h1 | h1
      · exact ha y h1
      · rw [List.mem_singleton.mp h1]
        rcases path_p ht with h2 | h2
        · exact absurd h2 h
        · exact h2
theorem kind_p : ∀ y ∈ [D.tup [.str sKind]], isP 1 y := by
  intro y hy
  rw [List.mem_singleton.mp hy]
  exact .tup (by simp; exact .str _ _) (by simp)
theorem isntNon {M : List Ob} {x : D} {Q : Bool → List Ob → Prop} (q : Q (!decide (x = .non)) M) : Wp (cop .isnt x .non) M Q := Wp.bind (Wp.pure (Wp.pure q))
theorem isNon {M : List Ob} {x : D} {Q : Bool → List Ob → Prop} (q : Q (decide (x = .non)) M) : Wp (cop .is x .non) M Q := Wp.pure q
section
variable {g : G} (H : Has g) (hT : g.glb "LAST_TIME" = some (.int 9999)) {n : Nat}
include H hT
theorem paths_ok {k : Nat} (hk : k ≤ 6) {s c sh o m : D} {M : List Ob} (hc : isCnd k c) {Q : Post} (q : ∀ p M', M'[p]? = some (.lst (pathsOf (fix k c))) → M.length ≤ p → Xt M M' → Q (.ref p) M') : Wp (evCall g (n + k + 3) "paths" [.tup [s, c, sh, o, m]]) M Q := by
  refine Wp.call H.f_paths ⟨Nat.le_of_ble_eq_true rfl, Nat.le_of_ble_eq_true rfl, Nat.le_of_ble_eq_true rfl⟩ ?_
  refine ⟨by show 1 ≤ lim; decide, by show 1 ≤ lim; decide, ?_⟩
  refine Wp.for ?_
  refine Wp.bind (m := ev _ _ _ (.call _ _)) (wE_ok (c := .call "fixed_tests" (.cons (.idx (.loc 0) (.cst (.int 1))) .nil)) ?_)
  refine Wp.opt (a := c) rfl ?_
  have e0 : n + k + 2 = (n + 1) + k + 1 := by omega
  have fx := fun {Q : Post} q => fixed_ok H (n := n + 1) k (M := M ++ [.lst [.tup [.str sKind]]]) hc hk (Q := Q) q
  rw [← e0] at fx
  refine fx fun p2 M2 hp2 hle2 x2 => ?_
  rw [List.length_append, List.length_cons, List.length_nil] at hle2
  refine Wp.bind (Wp.get hp2 (Wp.pure ?_))
  have p6 : 10 ^ k ≤ 1000000 := Nat.le_trans (Nat.pow_le_pow_right (by decide) hk) (by decide)
  have fl := fix_len hc
  have main : ∀ (ts : List D) (acc : List D) (o2 o3 : Option D) (M3 : List Ob), (∀ t ∈ ts, isTest t) → (∀ y ∈ acc, isP 1 y) → acc.length + ts.length ≤ 1000001 → M3[M.length]? = some (.lst acc) → M3[p2]? = some (.lst (fix k c)) → Xt M M3 →
      Wp (forD ⟨fix k c, some (p2, .lst (fix k c))⟩ (.loc 2) (fun ρ => exs g (evCall g (n + k + 2)) ρ (match f_paths.body with | .cons _ (.cons (.for _ _ b) _) => b | _ => .nil)) ts [some (.tup [s, c, sh, o, m]), some (.ref M.length), o2, o3]) M3 fun fl M4 => ∃ p2 p3, fl = .nx [some (.tup [s, c, sh, o, m]), some (.ref M.length), p2, p3] ∧ M4[M.length]? = some (.lst (ts.foldl (fun acc t => addP acc (pathD t)) acc)) ∧ Xt M M4 := by
    intro ts
    induction ts with
    | nil => intro acc o2 o3 M3 _ _ _ h1 h2 hx; exact Wp.forN (decide_eq_true h2) ⟨o2, o3, rfl, h1, hx⟩
    | cons t ts ih =>
      intro acc o2 o3 M3 ht ha hle h1 h2 hx
      simp only [List.length_cons] at hle
      have htt := ht t (List.mem_cons_self ..)
      refine Wp.forC (decide_eq_true h2) ?_
      refine wSs_ok ?_
      have e1 : n + k + 2 = (n + k) + 2 := rfl
      refine path_ok H hT (n := n + k) htt ?_
      have same : addP acc (pathD t) = acc → Wp (forD ⟨fix k c, some (p2, .lst (fix k c))⟩ (.loc 2) (fun ρ => exs g (evCall g (n + k + 2)) ρ (match f_paths.body with | .cons _ (.cons (.for _ _ b) _) => b | _ => .nil)) ts [some (.tup [s, c, sh, o, m]), some (.ref M.length), some t, some (pathD t)]) M3 fun fl M4 => ∃ p2 p3, fl = .nx [some (.tup [s, c, sh, o, m]), some (.ref M.length), p2, p3] ∧ M4[M.length]? = some (.lst ((t :: ts).foldl (fun acc t => addP acc (pathD t)) acc)) ∧ Xt M M4 := by
        intro e
        rw [List.foldl_cons, e]
        exact ih acc _ _ M3 (fun t h => ht t (List.mem_cons_of_mem _ h)) ha (by omega) h1 h2 hx
      refine isntNon ⟨fun z => ?_, fun z => ?_⟩
      · have hn : ¬ pathD t = .non := by simpa using z
        have hp : isP 1 (pathD t) := (path_p htt).resolve_left hn
        refine ninL hp (by decide) h1 ha (Wp.pure ⟨fun z => ?_, fun z => ?_⟩)
        · have hm : ¬ pathD t ∈ acc := by simpa using z
          have e : addP acc (pathD t) = acc ++ [pathD t] := by unfold addP; rw [if_neg hn, if_neg hm]
          refine Wp.metL rfl ⟨M.length, acc, rfl, h1, acc, h1, ?_⟩
          refine Wp.bind (Wp.ask (by unfold lim; omega) (Wp.bind (Wp.put (lt_of h1) (Wp.pure ?_))))
          rw [List.foldl_cons, e]
          refine ih (acc ++ [pathD t]) _ _ _ (fun t h => ht t (List.mem_cons_of_mem _ h)) ?_ (by simp; omega) (set_self (lt_of h1)) (by rw [List.getElem?_set_ne (by omega)]; exact h2) (hx.put (Nat.le_refl _))
          rw [← e]; exact addP_p htt ha
        · have hm : pathD t ∈ acc := by simpa using z
          exact same (by unfold addP; rw [if_neg hn, if_pos hm])
      · have hn : pathD t = .non := by simpa using z
        exact Wp.pure ⟨fun z => (by cases z), fun _ => same (by unfold addP; rw [if_pos hn])⟩
  refine (main (fix k c) [.tup [.str sKind]] none none M2 (fun t ht => fix_mem hc ht) kind_p (by simp; omega) (x2.at_ _ _ at_new) hp2 (Xt.app.trans x2)).mono fun fl M4 z => ?_
  obtain ⟨p3, p4, rfl, z1, z2⟩ := z
  exact q _ _ z1 (Nat.le_refl _) z2
end
end PlanF
end
section
set_option linter.all false
set_option maxRecDepth 100000
set_option maxHeartbeats 400000
namespace PlanF
open Sb GenF
theorem isBl {M : List Ob} {x : D} {b : Bool} {Q : Bool → List Ob → Prop} (q : Q (decide (x = .bl b)) M) : Wp (cop .is x (.bl b)) M Q := Wp.pure q
theorem mem_at {ds : List D} {k : Int} (h0 : 0 ≤ k) (h1 : k < ds.length) : ∃ x ∈ ds, atIx ds k = some x := at_mem h0 h1
section
variable {g : G} (H : GenF.Has g) {n : Nat}
include H
theorem same_loop {ρ0 ρ1 : Option D} {ds : List D} {M : List Ob} {cl : Cls} (hcl : ∀ x ∈ ds, Wp (cl "_law_same" [x, x]) M fun r M' => r = .bl true ∧ M' = M) (a b : D) (ha : ∀ (k : Int) x, atIx ds k = some x → ∀ {Q : Post}, Q x M → Wp (index a (.int k)) M Q) (hb : ∀ (k : Int) x, atIx ds k = some x → ∀ {Q : Post}, Q x M → Wp (index b (.int k)) M Q) :
    ∀ (es : List D) (o : Option D), (∀ e ∈ es, ∃ k : Int, e = .int k ∧ 0 ≤ k ∧ k < ds.length) → Wp (forD ⟨rangeD 0 ds.length, none⟩ (.loc 2) (fun ρ => exs g cl ρ (.cons (.iff (.not (.call "_law_same" (.cons (.idx (.loc 0) (.loc 2)) (.cons (.idx (.loc 1) (.loc 2)) .nil)))) (.cons (.ret (.cst (.bl false))) .nil) .nil) .nil)) es [some a, some b, o]) M fun fl M' => (∃ o2, fl = .nx [some a, some b, o2]) ∧ M' = M := by
  intro es
  induction es with
  | nil => intro o _; exact Wp.forN rfl ⟨⟨o, rfl⟩, rfl⟩
  | cons e es ih =>
    intro o he
    obtain ⟨k, rfl, k0, k1⟩ := he e (List.mem_cons_self ..)
    obtain ⟨x, hx, ex⟩ := at_mem k0 k1
    refine Wp.forC rfl ?_
    refine wSs_ok ?_
    refine ha k x ex (hb k x ex ?_)
    refine (hcl x hx).mono fun r M' z => ?_
    obtain ⟨rfl, rfl⟩ := z
    refine Wp.pure (Wp.pure ⟨fun z => (by cases z), fun _ => ?_⟩)
    exact ih _ fun e h => he e (List.mem_cons_of_mem _ h)
theorem range_in (m : Nat) : ∀ e ∈ rangeD 0 (m : Int), ∃ k : Int, e = .int k ∧ 0 ≤ k ∧ k < m := by
  intro e h
  unfold rangeD at h
  obtain ⟨k, hk, rfl⟩ := List.mem_map.mp h
  have := List.mem_range.mp hk
  exact ⟨_, rfl, by omega, by omega⟩
theorem sameP : ∀ (k : Nat) {x : D} {M : List Ob}, isP k x → Wp (evCall g (n + k + 1) "_law_same" [x, x]) M fun r M' => r = .bl true ∧ M' = M := by
  intro k
  have base : ∀ {m : Nat} {x : D} {M : List Ob}, ((∃ i : Int, x = .int i) ∨ ∃ s : Txt, x = .str s) → Wp (evCall g (m + 1) "_law_same" [x, x]) M fun r M' => r = .bl true ∧ M' = M := by
    intro m x M hx
    refine Wp.call H.f__law_same ⟨Nat.le_of_ble_eq_true rfl, Nat.le_of_ble_eq_true rfl, Nat.le_of_ble_eq_true rfl⟩ ?_
    rcases hx with ⟨i, rfl⟩ | ⟨s, rfl⟩
    · refine isNon (Wp.pure ⟨fun z => (by simp at z), fun _ => ?_⟩)
      refine isBl (Wp.pure ⟨fun z => (by simp at z), fun _ => ?_⟩)
      refine isBl (Wp.pure ⟨fun z => (by simp at z), fun _ => ?_⟩)
      refine ⟨false, rfl, Wp.pure ⟨fun z => (by cases z), fun _ => ?_⟩⟩
      refine ⟨true, rfl, Wp.pure ⟨fun _ => ?_, fun z => (by cases z)⟩⟩
      refine ⟨true, rfl, ⟨fun _ => ?_, fun z => (by cases z)⟩⟩
      refine ⟨false, rfl, Wp.pure ⟨fun _ => ?_, fun z => (by cases z)⟩⟩
      exact Wp.eqI ⟨by simp, rfl⟩
    · refine isNon (Wp.pure ⟨fun z => (by simp at z), fun _ => ?_⟩)
      refine isBl (Wp.pure ⟨fun z => (by simp at z), fun _ => ?_⟩)
      refine isBl (Wp.pure ⟨fun z => (by simp at z), fun _ => ?_⟩)
      refine ⟨true, rfl, Wp.pure ⟨fun _ => ?_, fun z => (by cases z)⟩⟩
      refine ⟨true, rfl, ⟨fun _ => ?_, fun z => (by cases z)⟩⟩
      exact eqS ⟨by simp, rfl⟩
  induction k with
  | zero =>
    intro x M hx
    cases hx with
    | int _ i => exact base (.inl ⟨i, rfl⟩)
    | str _ s => exact base (.inr ⟨s, rfl⟩)
  | succ k ih =>
    intro x M hx
    cases hx with
    | int _ i => exact base (.inl ⟨i, rfl⟩)
    | str _ s => exact base (.inr ⟨s, rfl⟩)
    | tup hd hl =>
      rename_i ds
      refine Wp.call H.f__law_same ⟨Nat.le_of_ble_eq_true rfl, Nat.le_of_ble_eq_true rfl, Nat.le_of_ble_eq_true rfl⟩ ?_
      refine isNon (Wp.pure ⟨fun z => (by simp at z), fun _ => ?_⟩)
      refine isBl (Wp.pure ⟨fun z => (by simp at z), fun _ => ?_⟩)
      refine isBl (Wp.pure ⟨fun z => (by simp at z), fun _ => ?_⟩)
      refine ⟨false, rfl, Wp.pure ⟨fun z => (by cases z), fun _ => ?_⟩⟩
      refine ⟨false, rfl, Wp.pure ⟨fun z => (by cases z), fun _ => ?_⟩⟩
      refine ⟨true, rfl, Wp.pure ⟨fun _ => ?_, fun z => (by cases z)⟩⟩
      refine ⟨true, rfl, Wp.pure (Wp.pure ⟨fun z => (by cases z), fun _ => ?_⟩)⟩
      refine Wp.pure (Wp.pure (Wp.neI (Wp.pure ⟨fun z => (by simp at z), fun _ => ?_⟩)))
      refine Wp.for ?_
      refine Wp.bind (m := ev _ _ _ (.cst (.int 0))) (Wp.pure ?_)
      refine Wp.bind (m := ev _ _ _ (.blt _ _)) (wE_ok (c := .blt "len" (.cons (.loc 1) .nil)) ?_)
      refine Wp.pure (Wp.bind (Wp.askB (by simp [big62]; omega) (Wp.pure ?_)))
      refine (same_loop H (ρ0 := none) (ρ1 := none) (ds := ds) (M := M) (fun x hx => ih (hd x hx)) (.tup ds) (.tup ds) (fun k x e Q q => Wp.opt e q) (fun k x e Q q => Wp.opt e q) _ none (range_in H ds.length)).mono fun fl M' z => ?_
      obtain ⟨⟨o2, rfl⟩, rfl⟩ := z
      exact ⟨rfl, rfl⟩
theorem sameL (k : Nat) {a b : Nat} {ds : List D} {M : List Ob} (h1 : M[a]? = some (.lst ds)) (h2 : M[b]? = some (.lst ds)) (hd : ∀ x ∈ ds, isP k x) (hl : ds.length ≤ 100000000) : Wp (evCall g (n + k + 2) "_law_same" [.ref a, .ref b]) M fun r M' => r = .bl true ∧ M' = M := by
  have i1 : ∀ {T : String} {c : Nat}, M[c]? = some (.lst ds) → isInst M (.ref c) T = some (T == "list") := fun {T c} h => by
    show (match M[c]? with | some (.lst _) => some (T == "list") | some (.frz _) => some (T == "list") | some (.dic _ _) => some (T == "dict") | _ => none) = _
    rw [h]
  refine Wp.call H.f__law_same ⟨Nat.le_of_ble_eq_true rfl, Nat.le_of_ble_eq_true rfl, Nat.le_of_ble_eq_true rfl⟩ ?_
  refine isNon (Wp.pure ⟨fun z => (by simp at z), fun _ => ?_⟩)
  refine isBl (Wp.pure ⟨fun z => (by simp at z), fun _ => ?_⟩)
  refine isBl (Wp.pure ⟨fun z => (by simp at z), fun _ => ?_⟩)
  refine ⟨false, i1 h2, Wp.pure ⟨fun z => (by cases z), fun _ => ?_⟩⟩
  refine ⟨false, i1 h2, Wp.pure ⟨fun z => (by cases z), fun _ => ?_⟩⟩
  refine ⟨false, i1 h2, Wp.pure ⟨fun z => (by cases z), fun _ => ?_⟩⟩
  refine ⟨true, i1 h1, Wp.pure (Wp.pure ⟨fun z => (by cases z), fun _ => ?_⟩)⟩
  refine Wp.bind (Wp.get h1 (Wp.pure (Wp.bind (Wp.get h2 (Wp.pure (Wp.neI (Wp.pure ⟨fun z => (by simp at z), fun _ => ?_⟩)))))))
  refine Wp.for ?_
  refine Wp.bind (m := ev _ _ _ (.cst (.int 0))) (Wp.pure ?_)
  refine Wp.bind (m := ev _ _ _ (.blt _ _)) (wE_ok (c := .blt "len" (.cons (.loc 1) .nil)) ?_)
  refine Wp.bind (Wp.get h2 (Wp.pure (Wp.bind (Wp.askB (by simp [big62]; omega) (Wp.pure ?_)))))
  refine (same_loop H (ρ0 := none) (ρ1 := none) (ds := ds) (M := M) (fun x hx => sameP H k (hd x hx)) (.ref a) (.ref b) (fun k x e Q q => idxL h1 e q) (fun k x e Q q => idxL h2 e q) _ none (range_in H ds.length)).mono fun fl M' z => ?_
  obtain ⟨⟨o2, rfl⟩, rfl⟩ := z
  exact ⟨rfl, rfl⟩
end
end PlanF
end
section
set_option autoImplicit false
set_option linter.all false
set_option maxRecDepth 100000
namespace Sb
def wKV (g : G) (cl : Cls) (ρ : Env) : CEs → List Ob → (List (D × D) → List Ob → Prop) → Prop
  | .nil, M, Q => Q [] M
  | .cons k (.cons v r), M, Q => wE g cl ρ k M fun kd M1 => wE g cl ρ v M1 fun vd M2 => wKV g cl ρ r M2 fun ps M3 => Q ((kd, vd) :: ps) M3
  | .cons _ .nil, _, _ => False
theorem wKV_ok {g : G} {cl : Cls} {ρ : Env} : ∀ {c : CEs} {M : List Ob} {Q : List (D × D) → List Ob → Prop}, wKV g cl ρ c M Q → Wp (evKV g cl ρ c) M Q
  | .nil, M, Q, h => by rw [evKV]; exact .pure h
  | .cons k (.cons v r), M, Q, h => by
    rw [evKV]
    exact .bind ((wE_ok h).mono fun kd M1 h => .bind ((wE_ok h).mono fun vd M2 h => .bind ((wKV_ok h).mono fun ps M3 h => .pure h)))
  | .cons _ .nil, _, _, h => h.elim
theorem Wp.dic {g : G} {cl : Cls} {ρ : Env} {t : Bool} {cs : CEs} {M : List Ob} {Q : Post} (h : wKV g cl ρ cs (M ++ [.dic t []]) fun ps M1 => M1[M.length]? = some (.dic t []) ∧ (ps.all (fun q => q.1.isK t) && decide (ps.length ≤ 15)) = true ∧ Q (.ref M.length) (M1.set M.length (.dic t (ps.foldl (fun m q => Sb.putK q.1 q.2 m) [])))) : Wp (ev g cl ρ (.dic t cs)) M Q := by
  rw [ev]
  refine .bind (.new (.bind ((wKV_ok h).mono fun ps M1 z => ?_)))
  obtain ⟨e, hk, q⟩ := z
  exact .bind (.get e (.bind (.askB hk (.bind (.put (List.getElem?_eq_some_iff.mp e).1 (.pure q))))))
theorem set_last {M : List Ob} {o p : Ob} : (M ++ [o]).set M.length p = M ++ [p] := by simp
theorem Wp.idxD {p : Nat} {t : Bool} {kvs : List (D × D)} {k v : D} {M : List Ob} {Q : Post} (h : M[p]? = some (.dic t kvs)) (hk : k.isK t = true) (hl : look k kvs = some v) (q : Q v M) : Wp (index (.ref p) k) M Q := .bind (.get h (.bind (.askB hk (.opt hl q))))
end Sb
end
section
set_option linter.all false
set_option maxRecDepth 100000
set_option maxHeartbeats 400000
namespace LawP
open Sb GenF PlanF
theorem hG : GenF.Has prog := ⟨rfl, rfl, rfl, rfl, rfl, rfl, rfl, rfl, rfl, rfl, rfl, rfl, rfl, rfl, rfl, rfl, rfl, rfl⟩
theorem hP : PlanF.Has prog := ⟨rfl, rfl, rfl, rfl⟩
theorem hT : prog.glb "LAST_TIME" = some (.int 9999) := rfl
section
variable {n d w : Nat} {M : List Ob}
theorem lfixed_ok : ∀ (k : Nat) {x : D} {M : List Ob}, isCnd k x → k ≤ 6 → ∀ {Q : Post}, (∀ p M', M'[p]? = some (.lst (fix k x)) → M.length ≤ p → Xt M M' → Q (.ref p) M') → Wp (evCall prog (n + k + 1) "_law_fixed" [x]) M Q := by
  intro k
  have tst : ∀ (k : Nat) {x : D} {M : List Ob} {m : Nat}, isTest x → ∀ {Q : Post}, (∀ p M', M'[p]? = some (.lst (fix k x)) → M.length ≤ p → Xt M M' → Q (.ref p) M') → Wp (evCall prog (m + 1) "_law_fixed" [x]) M Q := by
    intro k x M m hx Q q
    rw [fix_test hx] at q
    obtain ⟨l, r, s, rfl, _⟩ := hx
    refine Wp.call (fd := f__law_fixed) rfl ⟨Nat.le_of_ble_eq_true rfl, Nat.le_of_ble_eq_true rfl, Nat.le_of_ble_eq_true rfl⟩ ?_
    refine Wp.opt (a := D.str sTest) rfl (eqS (Wp.pure ⟨fun _ => ?_, fun z => (by simp at z)⟩))
    exact ⟨by show 1 ≤ lim; decide, q _ _ at_new (Nat.le_refl _) Xt.app⟩
  have nne : ∀ (k : Nat) {s : Txt} {r : List D} {M : List Ob} {m : Nat}, s ≠ sTest → s ≠ sAnd → fix k (.tup (.str s :: r)) = [] → ∀ {Q : Post}, (∀ p M', M'[p]? = some (.lst (fix k (.tup (.str s :: r)))) → M.length ≤ p → Xt M M' → Q (.ref p) M') → Wp (evCall prog (m + 1) "_law_fixed" [.tup (.str s :: r)]) M Q := by
    intro k s r M m h1 h2 e Q q
    rw [e] at q
    refine Wp.call (fd := f__law_fixed) rfl ⟨Nat.le_of_ble_eq_true rfl, Nat.le_of_ble_eq_true rfl, Nat.le_of_ble_eq_true rfl⟩ ?_
    have e0 : atIx (D.str s :: r) (0 : Int) = some (D.str s) := by simp [atIx, ixOf]
    refine Wp.opt e0 (eqS (Wp.pure ⟨fun z => absurd (of_decide_eq_true z) h1, fun _ => ?_⟩))
    refine ⟨by show 0 ≤ lim; decide, ?_⟩
    refine Wp.opt e0 (eqS (Wp.pure ⟨fun z => absurd (of_decide_eq_true z) h2, fun _ => ?_⟩))
    exact q _ _ at_new (Nat.le_refl _) Xt.app
  induction k with
  | zero =>
    intro x M hx _ Q q
    cases hx with
    | all => exact nne 0 (by decide) (by decide) rfl q
    | test _ h => exact tst 0 h q
  | succ k ih =>
    intro x M hx hk Q q
    cases hx with
    | all => exact nne (k + 1) (by decide) (by decide) rfl q
    | test _ h => exact tst (k + 1) h q
    | neg hc =>
      rename_i c
      refine nne (k + 1) (by decide) (by decide) ?_ q
      cases c <;> simp [fix]
    | jn hs hc hl =>
      rename_i s cs
      rcases hs with rfl | rfl
      · refine Wp.call (fd := f__law_fixed) rfl ⟨Nat.le_of_ble_eq_true rfl, Nat.le_of_ble_eq_true rfl, Nat.le_of_ble_eq_true rfl⟩ ?_
        refine Wp.opt (a := D.str sAnd) rfl (eqS (Wp.pure ⟨fun z => (by simp at z), fun _ => ?_⟩))
        refine ⟨by show 0 ≤ lim; decide, ?_⟩
        refine Wp.opt (a := D.str sAnd) rfl (eqS (Wp.pure ⟨fun _ => ?_, fun z => (by simp at z)⟩))
        refine Wp.for ?_
        refine Wp.bind (m := ev _ _ _ (.idx _ _)) (wE_ok (c := .idx (.loc 0) (.cst (.int 1))) ?_)
        refine Wp.opt (a := D.tup cs) rfl (Wp.pure ?_)
        have p6 : 10 ^ k ≤ 1000000 := Nat.le_trans (Nat.pow_le_pow_right (by decide) (by omega : k ≤ 6)) (by decide)
        have main : ∀ (es : List D) (acc : List D) (a : Nat) (o : Option D) (M1 : List Ob), (∀ c ∈ es, isCnd k c) → acc.length + es.length * 10 ^ k ≤ 10 * 10 ^ k → M.length ≤ a → M1[a]? = some (.lst acc) → Xt M M1 →
            Wp (forD ⟨cs, none⟩ (.loc 2) (fun ρ => exs prog (evCall prog (n + (k + 1))) ρ (.cons (.asg (.loc 1) (.bin .add (.loc 1) (.call "_law_fixed" (.cons (.loc 2) .nil)))) .nil)) es [some (.tup [.str sAnd, .tup cs]), some (.ref a), o]) M1 fun fl M2 => ∃ a2 o2, fl = .nx [some (.tup [.str sAnd, .tup cs]), some (.ref a2), o2] ∧ M2[a2]? = some (.lst (acc ++ (es.map (fix k)).flatten)) ∧ Xt M M2 ∧ M.length ≤ a2 := by
          intro es
          induction es with
          | nil => intro acc a o M1 _ _ ha hg hx; exact Wp.forN rfl ⟨a, o, rfl, by simpa using hg, hx, ha⟩
          | cons e es ihe =>
            intro acc a o M1 hes hle ha hg hx
            simp only [List.length_cons] at hle
            rw [Nat.add_mul, Nat.one_mul] at hle
            refine Wp.forC rfl ?_
            refine wSs_ok ?_
            have hek := hes e (List.mem_cons_self ..)
            refine ih hek (by omega) fun p M2 hp hle2 hx2 => ?_
            have fl := fix_len hek
            have hg2 := hx2.at_ _ _ hg
            refine Wp.bind (Wp.bind (Wp.get hg2 (Wp.pure (Wp.bind (Wp.bind (Wp.get hp (Wp.pure (Wp.bind (Wp.ask (by unfold lim; omega) (Wp.new ?_))))))))))
            refine (ihe (acc ++ fix k e) M2.length _ _ (fun c hc => hes c (List.mem_cons_of_mem _ hc)) (by rw [List.length_append]; omega) (hx.trans hx2).len at_new ((hx.trans hx2).trans Xt.app)).mono fun fl M3 z => ?_
            obtain ⟨a2, o2, rfl, z1, z2, z3⟩ := z
            exact ⟨a2, o2, rfl, by rw [z1]; simp, z2, z3⟩
        refine (main cs [] M.length none (M ++ [.lst []]) hc (by simp; exact Nat.mul_le_mul_right _ hl) (Nat.le_refl _) at_new Xt.app).mono fun fl M2 z => ?_
        obtain ⟨a2, o2, rfl, z1, z2, z3⟩ := z
        refine q _ _ ?_ z3 z2
        rw [z1]
        simp [fix]
      · refine nne (k + 1) (by decide) (by decide) ?_ q
        simp [fix]
end
end LawP
end
section
set_option linter.all false
set_option maxRecDepth 100000
set_option maxHeartbeats 400000
namespace LawP
open Sb GenF PlanF
section
variable {n d w : Nat} {M : List Ob}
theorem max0' {i j : Int} {Q : Post} (q : Q (.int (if j > i then j else i)) M) : Wp (blt "max" [.int i, .int j]) M Q := Wp.pure q
theorem lpath_ok {x : D} (hx : isTest x) {Q : Post} (q : ∀ M', Xt M M' → Q (pathD x) M') : Wp (evCall prog (n + 1) "_law_path" [x]) M Q := by
  obtain ⟨l, r, s, rfl, hl, hs, hr⟩ := hx
  refine Wp.call (fd := f__law_path) rfl ⟨Nat.le_of_ble_eq_true rfl, Nat.le_of_ble_eq_true rfl, Nat.le_of_ble_eq_true rfl⟩ ?_
  refine Wp.opt (a := l) rfl (Wp.opt (a := r) rfl ?_)
  have hr2 : ∃ b v, r = .tup [.str b, v] ∧ (isVal v ∨ ∃ t, v = .str t) := by
    rcases hr with ⟨b, t, rfl, _⟩ | ⟨v, rfl, hv⟩
    · exact ⟨b, _, rfl, .inr ⟨t, rfl⟩⟩
    · exact ⟨_, v, rfl, .inl hv⟩
  obtain ⟨b, v, rfl, hv⟩ := hr2
  rcases hl with ⟨a, t, rfl, _⟩ | ⟨lv, rfl, hlv⟩
  · refine Wp.opt (a := D.str a) rfl (neS ⟨fun c => ?_, fun c => ?_⟩)
    · have e : ¬ a = sThis := by simpa using c
      have : pathD (.tup [.str sTest, .tup [.str a, .str t], .str s, .tup [.str b, v]]) = .non := by
        simp only [pathD]; rw [if_neg (fun h => e h.1)]
      rw [this] at q
      exact Wp.pure ⟨fun _ => q _ Xt.refl, fun z => by cases z⟩
    have ea : a = sThis := by simpa using c
    refine Wp.opt (a := D.str b) rfl (neS ⟨fun c => ?_, fun c => ?_⟩)
    · have e : ¬ b = sValue := by simpa using c
      have : pathD (.tup [.str sTest, .tup [.str a, .str t], .str s, .tup [.str b, v]]) = .non := by
        simp only [pathD]; rw [if_neg (fun h => e h.2.1)]
      rw [this] at q
      exact Wp.pure ⟨fun _ => q _ Xt.refl, fun z => by cases z⟩
    have eb : b = sValue := by simpa using c
    refine Wp.opt (a := D.str t) rfl (eqS ⟨fun c => ?_, fun c => ?_⟩)
    · have e : t = sSerial := of_decide_eq_true c
      have : pathD (.tup [.str sTest, .tup [.str a, .str t], .str s, .tup [.str b, v]]) = .non := by
        simp only [pathD]; rw [if_neg (fun h => h.2.2 e)]
      rw [this] at q
      exact Wp.pure ⟨fun _ => q _ Xt.refl, fun z => by cases z⟩
    have et : ¬ t = sSerial := of_decide_eq_false c
    simp only [pathD] at q
    rw [if_pos ⟨ea, eb, et⟩] at q
    refine Wp.opt (a := D.str s) rfl (eqS (Wp.pure ⟨fun c => ?_, fun c => ?_⟩))
    · have e : s = sDiffers := of_decide_eq_true c
      subst e
      have q1 := q M Xt.refl
      by_cases h2 : t = sTime
      · rw [if_pos h2] at q1
        have q2 : Q .non M := by cases v <;> simpa [timeV] using q1
        exact q2
      · rw [if_neg h2, if_neg (by decide)] at q1
        exact q1
    have hd : ¬ s = sDiffers := of_decide_eq_false c
    refine Wp.opt (a := D.str t) rfl (eqS (Wp.pure ⟨fun c => ?_, fun c => ?_⟩))
    · rw [if_pos (of_decide_eq_true c)] at q
      rcases hv with (⟨i, rfl, _⟩ | ⟨u, rfl, _⟩) | ⟨u, rfl⟩
      · refine Wp.opt (a := D.int i) rfl ⟨true, rfl, Wp.pure (Wp.pure ⟨fun z => (by cases z), fun _ => ?_⟩)⟩
        simp only [timeV] at q
        rw [if_neg hd] at q
        obtain ⟨lo, hlo, elo⟩ : ∃ lo : Int, look (.str s) ([(D.str sIs, D.int i), (.str sBelow, .int 0), (.str sAbove, .int (i + 1))].foldl (fun m q => Sb.putK q.1 q.2 m) []) = some (.int lo) ∧ (if 0 > lo then 0 else lo) = lowOf s i := by
          rcases hs with rfl | rfl | rfl | rfl
          · refine ⟨i, rfl, ?_⟩
            rw [show lowOf sIs i = (if i > 0 then i else 0) by simp [lowOf]]; split <;> split <;> omega
          · exact absurd rfl hd
          · refine ⟨0, rfl, ?_⟩
            simp [lowOf]
          · refine ⟨i + 1, rfl, ?_⟩
            rw [show lowOf sAbove i = (if i + 1 > 0 then i + 1 else 0) by simp [lowOf]]; split <;> split <;> omega
        obtain ⟨hi, hhi, ehi⟩ : ∃ hi : Int, look (.str s) ([(D.str sIs, D.int i), (.str sBelow, .int (i - 1)), (.str sAbove, .int 9999)].foldl (fun m q => Sb.putK q.1 q.2 m) []) = some (.int hi) ∧ (if 9999 < hi then 9999 else hi) = highOf s i := by
          rcases hs with rfl | rfl | rfl | rfl
          · refine ⟨i, rfl, ?_⟩
            rw [show highOf sIs i = (if i < 9999 then i else 9999) by simp [highOf]]; split <;> split <;> omega
          · exact absurd rfl hd
          · refine ⟨i - 1, rfl, ?_⟩
            rw [show highOf sBelow i = (if i - 1 < 9999 then i - 1 else 9999) by simp [highOf]]; split <;> split <;> omega
          · refine ⟨9999, rfl, ?_⟩
            simp [highOf]
        refine Wp.dic ?_
        refine Wp.opt (a := D.int i) rfl (Wp.opt (a := D.int i) rfl (Wp.pure ⟨at_new, rfl, ?_⟩))
        rw [set_last]
        refine Wp.opt (a := D.str s) rfl (Wp.idxD at_new rfl hlo ?_)
        refine Wp.dic ?_
        refine Wp.opt (a := D.int i) rfl (Wp.opt (a := D.int i) rfl (Wp.pure ⟨at_new, rfl, ?_⟩))
        rw [set_last]
        refine Wp.opt (a := D.str s) rfl (Wp.idxD at_new rfl hhi ?_)
        refine Wp.pure (Wp.pure (Wp.gtI ?_))
        rw [elo, ehi]
        refine Wp.pure ⟨fun c => ?_, fun c => ?_⟩
        · have hc := of_decide_eq_true c
          refine ⟨by show 3 ≤ lim; decide, ?_⟩
          unfold times at q
          rw [if_neg (by omega)] at q
          exact q _ (Xt.app.trans Xt.app)
        · have hc := of_decide_eq_false c
          refine Wp.pure (Wp.pure ?_)
          rw [elo, ehi]
          refine ⟨by show 3 ≤ lim; decide, ?_⟩
          unfold times at q
          rw [if_pos (by omega)] at q
          exact q _ (Xt.app.trans Xt.app)
      · exact Wp.opt (a := D.str u) rfl ⟨false, rfl, Wp.pure (Wp.pure ⟨fun _ => q _ Xt.refl, fun z => by cases z⟩)⟩
      · exact Wp.opt (a := D.str u) rfl ⟨false, rfl, Wp.pure (Wp.pure ⟨fun _ => q _ Xt.refl, fun z => by cases z⟩)⟩
    rw [if_neg (of_decide_eq_false c)] at q
    refine Wp.opt (a := D.str s) rfl (neS (Wp.pure ⟨fun c => ?_, fun c => ?_⟩))
    · rw [if_neg (by simpa using c)] at q
      exact q _ Xt.refl
    rw [if_pos (by simpa using c)] at q
    refine Wp.opt (a := D.str t) rfl (eqS (Wp.pure ⟨fun c => ?_, fun c => ?_⟩))
    · rw [if_pos (of_decide_eq_true c)] at q
      rcases hv with (⟨i, rfl, _⟩ | ⟨u, rfl, _⟩) | ⟨u, rfl⟩
      · exact Wp.opt (a := D.int i) rfl ⟨true, rfl, Wp.pure ⟨fun _ => q _ Xt.refl, fun z => by cases z⟩⟩
      · exact Wp.opt (a := D.str u) rfl ⟨false, rfl, Wp.pure ⟨fun z => (by cases z), fun _ => Wp.opt (a := D.str u) rfl ⟨by show 2 ≤ lim; decide, q _ Xt.refl⟩⟩⟩
      · exact Wp.opt (a := D.str u) rfl ⟨false, rfl, Wp.pure ⟨fun z => (by cases z), fun _ => Wp.opt (a := D.str u) rfl ⟨by show 2 ≤ lim; decide, q _ Xt.refl⟩⟩⟩
    · rw [if_neg (of_decide_eq_false c)] at q
      exact Wp.opt (a := D.str t) rfl (Wp.opt (a := v) rfl ⟨by show 3 ≤ lim; decide, q _ Xt.refl⟩)
  · refine Wp.opt (a := D.str sValue) rfl (neS ⟨fun _ => ?_, fun c => (by simp at c)⟩)
    have : pathD (.tup [.str sTest, .tup [.str sValue, lv], .str s, .tup [.str b, v]]) = .non := by
      cases lv <;> simp [pathD]
    rw [this] at q
    exact Wp.pure ⟨fun _ => q _ Xt.refl, fun z => by cases z⟩
end
end LawP
end
section
set_option linter.all false
set_option maxRecDepth 100000
set_option maxHeartbeats 400000
namespace LawP
open Sb GenF PlanF
section
variable {n d w : Nat} {M : List Ob}
theorem plain_ok (h : En d M) (hw : Wo w d M) {Q : Post} (q : ∀ x M', isTest x → En d M' → Fx d M M' → Q x M') : Wp (evCall prog (n + 5) "_law_plain_test" [.ref d, .ref w]) M Q := by
  refine Wp.call (fd := f__law_plain_test) rfl ⟨Nat.le_of_ble_eq_true rfl, Nat.le_of_ble_eq_true rfl, Nat.le_of_ble_eq_true rfl⟩ ?_
  refine draw_ok hG (n := n + 2) h (by decide) fun v M1 v0 v1 e1 f1 => ?_
  have hw1 := hw.fx f1
  refine Wp.eqI (Wp.pure ⟨fun _ => ?_, fun _ => ?_⟩)
  · obtain ⟨k0, k1, k2, k3, h0, h1, h2, h3, h4, n0, n1, n2, n3, n4⟩ := hw1.ex
    refine ⟨by show 2 ≤ lim; decide, ?_⟩
    refine idxL h0 (v := .ref k1) rfl ?_
    refine draw_ok hG (n := n + 2) e1 (by decide) fun v3 M3 c0 c1 e3 f3 => ?_
    refine ws_at (h2.fx f3 n2) c0 c1 fun x hx => ?_
    refine ⟨by show 2 ≤ lim; decide, by show 4 ≤ lim; decide, ?_⟩
    exact q _ _ ⟨_, _, _, rfl, .inl ⟨_, _, rfl, .inl rfl, by decide⟩, .inl rfl, .inr ⟨x, rfl, .inr hx⟩⟩ e3 (f1.trans f3)
  refine Wp.eqI (Wp.pure ⟨fun _ => ?_, fun _ => ?_⟩)
  · refine ⟨by show 4 ≤ lim; decide, ?_⟩
    refine draw_ok hG (n := n + 2) e1.app (by decide) fun v3 M3 c0 c1 e3 f3 => ?_
    have hl := f3.at_ _ _ (by have := e1.lt; omega) (at_new (M := M1) (o := .lst [.str sIs, .str sDiffers, .str sBelow, .str sAbove]))
    refine pick (P := fun x => ∃ s, x = .str s ∧ isRel s) hl (by simp [isRel]) c0 (by simpa using c1) fun x hx => ?_
    obtain ⟨s, rfl, hs⟩ := hx
    refine ⟨by show 2 ≤ lim; decide, ?_⟩
    refine time_ok hG (n := n + 1) e3 fun i M4 i0 i1 e4 f4 => ?_
    refine ⟨by show 5 ≤ lim; decide, ?_⟩
    refine draw_ok hG (n := n + 2) e4.app (by decide) fun v5 M5 c0 c1 e5 f5 => ?_
    have hl5 := f5.at_ _ _ (by have := e4.lt; omega) (at_new (M := M4) (o := .lst [.int i, .int (-5), .int 10000, .int 0, .int 9999]))
    refine pick (P := isVal) hl5 (by
      intro x hx
      simp only [List.mem_cons, List.not_mem_nil, or_false] at hx
      rcases hx with rfl | rfl | rfl | rfl | rfl <;> exact .inl ⟨_, rfl, by omega, by omega⟩) c0 (by simpa using c1) fun x hx => ?_
    refine ⟨by show 2 ≤ lim; decide, by show 4 ≤ lim; decide, ?_⟩
    exact q _ _ ⟨_, _, _, rfl, .inl ⟨_, _, rfl, .inl rfl, by decide⟩, hs, .inr ⟨x, rfl, hx⟩⟩ e5 ((((f1.trans Fx.app).trans f3).trans f4).trans (Fx.app.trans f5))
  · refine ⟨by show 3 ≤ lim; decide, ?_⟩
    refine draw_ok hG (n := n + 2) e1.app (by decide) fun v3 M3 c0 c1 e3 f3 => ?_
    have hl := f3.at_ _ _ (by have := e1.lt; omega) (at_new (M := M1) (o := .lst [.str sThis, .str sThis, .str sThat]))
    refine pick (P := fun x => ∃ s : Txt, x = .str s ∧ (s = sThis ∨ s = sThat)) hl (by simp) c0 (by simpa using c1) fun x hx => ?_
    obtain ⟨s, rfl, hs⟩ := hx
    have f13 : Fx d M1 M3 := Fx.app.trans f3
    have hw3 := hw1.fx f13
    obtain ⟨k0, k1, k2, k3, h0, h1, h2, h3, h4, n0, n1, n2, n3, n4⟩ := hw3.ex
    refine idxL h0 (v := .ref k2) rfl ?_
    refine draw_ok hG (n := n + 2) e3 (by decide) fun v4 M4 c0 c1 e4 f4 => ?_
    have wat : ∀ {Q : Post}, (∀ x, isW 30 x → Q x M4) → Wp (index (.ref k2) (.int v4)) M4 Q := by
      intro Q q
      rcases h3 with h3 | h3
      · exact ws_at (h3.fx f4 n3) c0 (by omega) q
      · exact ws_at (h3.fx f4 n3) c0 (by omega) q
    refine wat fun x hx => ?_
    obtain ⟨t, rfl, _, ht⟩ := hx
    refine ⟨by show 2 ≤ lim; decide, by show 2 ≤ lim; decide, ?_⟩
    refine draw_ok hG (n := n + 2) e4.app (by decide) fun v5 M5 c0 c1 e5 f5 => ?_
    have hl5 := f5.at_ _ _ (by have := e4.lt; omega) (at_new (M := M4) (o := .lst [.str sIs, .str sBelow]))
    refine pick (P := fun x => ∃ s, x = .str s ∧ isRel s) hl5 (by simp [isRel]) c0 (by simpa using c1) fun x hx => ?_
    obtain ⟨r, rfl, hr⟩ := hx
    have f45 : Fx d M4 M5 := Fx.app.trans f5
    refine value_ok hG (n := n + 1) e5 ((hw3.fx f4).fx f45) fun x M6 hx e6 f6 => ?_
    refine ⟨by show 2 ≤ lim; decide, by show 4 ≤ lim; decide, ?_⟩
    exact q _ _ ⟨_, _, _, rfl, .inl ⟨_, _, rfl, hs, ht⟩, hr, .inr ⟨x, rfl, hx⟩⟩ e6 ((((f1.trans f13).trans f4).trans f45).trans f6)
def lawt : CSs := match f_law.body with
  | .cons _ (.cons _ (.cons _ (.cons _ t))) => t
  | _ => .nil
theorem lawt_ok {s c sh o m : D} (hc : isCnd 4 c) {s0 o1 o2 o4 o5 o6 o7 o8 : Option D} : wSs prog (evCall prog (n + 20)) [s0, o1, o2, some (.tup [s, c, sh, o, m]), o4, o5, o6, o7, o8] lawt M (fun fl M' => match fl with | .rt d => d = .bl true | .nx _ => (D.non : D) = .bl true | _ => False) := by
  refine ⟨by show 1 ≤ lim; decide, by show 1 ≤ lim; decide, ?_⟩
  refine Wp.for ?_
  refine Wp.bind (m := ev _ _ _ (.call _ _)) (wE_ok (c := .call "_law_fixed" (.cons (.idx (.loc 3) (.cst (.int 1))) .nil)) ?_)
  refine Wp.opt (a := c) rfl ?_
  refine lfixed_ok (n := n + 15) 4 hc (by decide) fun p2 M2 hp2 hle2 x2 => ?_
  rw [List.length_append, List.length_cons, List.length_nil] at hle2
  refine Wp.bind (Wp.get hp2 (Wp.pure ?_))
  have fl4 := fix_len hc
  have main : ∀ (ts : List D) (acc : List D) (p5 p7 : Option D) (M3 : List Ob), (∀ t ∈ ts, isTest t) → (∀ y ∈ acc, isP 1 y) → acc.length + ts.length ≤ 1000001 → M3[M.length]? = some (.lst acc) → M3[p2]? = some (.lst (fix 4 c)) →
      Wp (forD ⟨fix 4 c, some (p2, .lst (fix 4 c))⟩ (.loc 5) (fun ρ => exs prog (evCall prog (n + 20)) ρ (match lawt with | .cons _ (.cons (.for _ _ b) _) => b | _ => .nil)) ts [s0, o1, o2, some (.tup [s, c, sh, o, m]), some (.ref M.length), p5, o6, p7, o8]) M3 fun fl M4 => ∃ p5 p7, fl = .nx [s0, o1, o2, some (.tup [s, c, sh, o, m]), some (.ref M.length), p5, o6, p7, o8] ∧ M4[M.length]? = some (.lst (ts.foldl (fun acc t => addP acc (pathD t)) acc)) := by
    intro ts
    induction ts with
    | nil => intro acc p5 p7 M3 _ _ _ h1 h2; exact Wp.forN (decide_eq_true h2) ⟨p5, p7, rfl, h1⟩
    | cons t ts ih =>
      intro acc p5 p7 M3 ht ha hle h1 h2
      simp only [List.length_cons] at hle
      have htt := ht t (List.mem_cons_self ..)
      refine Wp.forC (decide_eq_true h2) ?_
      refine wSs_ok ?_
      refine lpath_ok (n := n + 19) htt fun M4 x4 => ?_
      have h1' := x4.at_ _ _ h1
      have h2' := x4.at_ _ _ h2
      have same : addP acc (pathD t) = acc → Wp (forD ⟨fix 4 c, some (p2, .lst (fix 4 c))⟩ (.loc 5) (fun ρ => exs prog (evCall prog (n + 20)) ρ (match lawt with | .cons _ (.cons (.for _ _ b) _) => b | _ => .nil)) ts [s0, o1, o2, some (.tup [s, c, sh, o, m]), some (.ref M.length), some t, o6, some (pathD t), o8]) M4 fun fl M4 => ∃ p5 p7, fl = .nx [s0, o1, o2, some (.tup [s, c, sh, o, m]), some (.ref M.length), p5, o6, p7, o8] ∧ M4[M.length]? = some (.lst ((t :: ts).foldl (fun acc t => addP acc (pathD t)) acc)) := by
        intro e
        rw [List.foldl_cons, e]
        exact ih acc _ _ M4 (fun t h => ht t (List.mem_cons_of_mem _ h)) ha (by omega) h1' h2'
      refine isntNon ⟨fun z => ?_, fun z => ?_⟩
      · have hn : ¬ pathD t = .non := by simpa using z
        have hp : isP 1 (pathD t) := (path_p htt).resolve_left hn
        refine ninL hp (by decide) h1' ha (Wp.pure ⟨fun z => ?_, fun z => ?_⟩)
        · have hm : ¬ pathD t ∈ acc := by simpa using z
          have e : addP acc (pathD t) = acc ++ [pathD t] := by unfold addP; rw [if_neg hn, if_neg hm]
          refine Wp.metL rfl ⟨M.length, acc, rfl, h1', acc, h1', ?_⟩
          refine Wp.bind (Wp.ask (by unfold lim; omega) (Wp.bind (Wp.put (lt_of h1') (Wp.pure ?_))))
          rw [List.foldl_cons, e]
          refine ih (acc ++ [pathD t]) _ _ _ (fun t h => ht t (List.mem_cons_of_mem _ h)) ?_ (by simp; omega) (set_self (lt_of h1')) (by rw [List.getElem?_set_ne (by omega)]; exact h2')
          rw [← e]; exact addP_p htt ha
        · have hm : pathD t ∈ acc := by simpa using z
          exact same (by unfold addP; rw [if_neg hn, if_pos hm])
      · have hn : pathD t = .non := by simpa using z
        exact Wp.pure ⟨fun z => (by cases z), fun _ => same (by unfold addP; rw [if_pos hn])⟩
  refine (main (fix 4 c) [.tup [.str sKind]] _ _ M2 (fun t ht => fix_mem hc ht) kind_p (by simp; omega) (x2.at_ _ _ at_new) hp2).mono fun fl M4 z => ?_
  obtain ⟨p5, p7, rfl, z1⟩ := z
  have plen : (pathsOf (fix 4 c)).length ≤ 1 + (fix 4 c).length := by
    have : ∀ (ts acc : List D), (ts.foldl (fun acc t => addP acc (pathD t)) acc).length ≤ acc.length + ts.length := by
      intro ts
      induction ts with
      | nil => intro acc; simp
      | cons t ts ih =>
        intro acc
        rw [List.foldl_cons, List.length_cons]
        have := ih (addP acc (pathD t))
        have := addP_len acc (pathD t)
        omega
    have := this (fix 4 c) [.tup [.str sKind]]
    simpa [pathsOf] using this
  have pp : ∀ y ∈ pathsOf (fix 4 c), isP 1 y := by
    have : ∀ (ts acc : List D), (∀ t ∈ ts, isTest t) → (∀ y ∈ acc, isP 1 y) → ∀ y ∈ ts.foldl (fun acc t => addP acc (pathD t)) acc, isP 1 y := by
      intro ts
      induction ts with
      | nil => intro acc _ h; exact h
      | cons t ts ih =>
        intro acc ht h
        rw [List.foldl_cons]
        exact ih _ (fun t h => ht t (List.mem_cons_of_mem _ h)) (addP_p (ht t (List.mem_cons_self ..)) h)
    exact this _ _ (fun t ht => fix_mem hc ht) kind_p
  refine Wp.opt (a := c) rfl ?_
  refine fixed_ok hP (n := n + 15) 4 hc (by decide) fun pa M5 ha _ x5 => ?_
  refine Wp.opt (a := c) rfl ?_
  refine lfixed_ok (n := n + 15) 4 hc (by decide) fun pb M6 hb _ x6 => ?_
  refine (sameL hG (n := n + 16) 2 (x6.at_ _ _ ha) hb (fun t ht => (fix_mem hc ht).p) (by omega)).mono fun r M7 z => ?_
  obtain ⟨rfl, rfl⟩ := z
  refine ⟨fun _ => ?_, fun z => (by cases z)⟩
  refine paths_ok hP hT (n := n + 13) (k := 4) (by decide) hc fun pc M8 h8 _ x8 => ?_
  have z8 := x8.at_ _ _ (x6.at_ _ _ (x5.at_ _ _ z1))
  refine (sameL hG (n := n + 17) 1 h8 z8 pp (by omega)).mono fun r M9 z => ?_
  obtain ⟨rfl, rfl⟩ := z
  exact rfl
end
end LawP
end
section
set_option linter.all false
set_option maxRecDepth 100000
set_option maxHeartbeats 400000
namespace LawP
open Sb GenF PlanF
theorem lawt_end {n : Nat} {M : List Ob} {s c sh o m : D} (hc : isCnd 4 c) {s0 o1 o2 o4 o5 o6 o7 o8 : Option D} : wSs prog (evCall prog (n + 20)) [s0, o1, o2, some (.tup [s, c, sh, o, m]), o4, o5, o6, o7, o8] lawt M (fun fl M' => match fl with | .rt d => d = .bl true | .nx _ => (D.non : D) = .bl true | _ => False) := by
  exact lawt_ok (n := n) (M := M) (s := s) (sh := sh) (o := o) (m := m) hc (s0 := s0) (o1 := o1) (o2 := o2) (o4 := o4) (o5 := o5) (o6 := o6) (o7 := o7) (o8 := o8)
theorem spec (ns : List Int) : ∃ M', evCall prog 21 "law" [.rol (ns.map .int)] [] = .ok (.bl true) M' := by
  have main : Wp (evCall prog 21 "law" [.rol (ns.map .int)]) [] fun r M' => r = .bl true := by
    refine Wp.call (fd := f_law) rfl ⟨Nat.le_of_ble_eq_true rfl, Nat.le_of_ble_eq_true rfl, Nat.le_of_ble_eq_true rfl⟩ ?_
    refine start_ok hG (n := 19) ns fun e0 => ?_
    refine world_ok hG (n := 15) e0 fun w M1 hw e1 f1 => ?_
    refine question_ok hG (n := 10) e1 hw fun x M2 hx e2 f2 => ?_
    obtain ⟨s, c, sh, o, m, k, rfl, hs, hc, hsh, ho, hm⟩ := hx
    refine draw_ok hG (n := 18) e2 (by decide) fun v M3 _ _ e3 f3 => ?_
    have hw3 := (hw.fx f2).fx f3
    refine Wp.eqI (Wp.pure ⟨fun _ => ?_, fun _ => ?_⟩)
    · refine comp_range (d := 1) isTest ?_
      refine draw_ok hG (n := 18) e3 (by decide) fun v4 M4 a4 b4 e4 f4 => ?_
      refine Wp.pure ⟨2 + v4, rfl, by omega, by omega, e4, f4, by show 8 < 9; decide, fun j M5 j0 j1 e5 f5 => ?_, fun ds M5 p hl hp e5 f5 hle hg => ?_⟩
      · exact plain_ok (n := 15) e5 ((hw3.fx f4).fx f5) fun x M6 hx e6 f6 => ⟨hx, e6, f6⟩
      · have pd : p ≠ 1 := by have := e3.lt; omega
        refine Wp.metL rfl ⟨p, ds, rfl, hg, ?_⟩
        refine plain_ok (n := 15) e5 (hw3.fx f5) fun x6 M6 hx6 e6 f6 => ?_
        have hg6 := f6.at_ _ _ pd hg
        obtain ⟨x0, hx0, ex0⟩ := at_mem (ds := ds) (v := 0) (by decide) (by omega)
        refine idxL hg6 ex0 ?_
        refine ⟨by show 2 ≤ lim; decide, by show 2 ≤ lim; decide, ds, hg6, ?_⟩
        refine Wp.bind (Wp.ask (by unfold lim; omega) (Wp.bind (Wp.put (lt_of hg6) (Wp.pure ?_))))
        refine Wp.opt (a := s) rfl ?_
        refine tupL (set_self (lt_of hg6)) ?_
        refine ⟨by show 2 ≤ lim; decide, ?_⟩
        refine Wp.opt (a := sh) rfl (Wp.opt (a := o) rfl (Wp.opt (a := D.int m) rfl ?_))
        refine ⟨by show 5 ≤ lim; decide, ?_⟩
        have hc2 : isCnd 1 (.tup [.str sAnd, .tup [x6, x0]]) := .jn (.inl rfl) (by simp; exact ⟨.test _ hx6, .test _ (hp x0 hx0)⟩) (by simp)
        have hc3 : isCnd 2 (.tup [.str sAnd, .tup (ds ++ [.tup [.str sAnd, .tup [x6, x0]]])]) := by
          refine .jn (.inl rfl) ?_ (by simp; omega)
          intro y hy
          rcases List.mem_append.mp hy with h | h
          · exact .test _ (hp y h)
          · rw [List.mem_singleton.mp h]; exact hc2
        exact lawt_end (n := 0) hc3.up.up
    · exact lawt_end (n := 0) hc
  obtain ⟨r, M', e, rfl⟩ := main
  exact ⟨M', e⟩
end LawP
end
set_option maxRecDepth 100000
set_option maxHeartbeats 0
open PySem PySem.W PySem.Calls PyProof.Rows
theorem holds_of {n : Nat} (hn : L2.Room (2 * n + 1) callerA) (spec : ∀ ns : List Int, ns.length ≤ 63 → ∃ M', Sb.evCall LawP.prog n "law" [.rol (ns.map .int)] [] = .ok (.bl true) M') : PySem.Challenge.rw_shedbook_k44_paths_of_questions.Holds := by
  w_on; o_law
  refine HandSHeadRun.head_any (r := OpenLaw.row PySem.Challenge.rw_shedbook_k44_paths_of_questions) (q := view (OpenLaw.row PySem.Challenge.rw_shedbook_k44_paths_of_questions).prog [28]) (H := LawP.hk) (ob := LawP.ob) (M := 4000) (loose := LawP.names) (d := HandSHeadRun.topDef (OpenLaw.row PySem.Challenge.rw_shedbook_k44_paths_of_questions).prog 28) (kwd := []) LawP.ob_eq
    (by kernel_rfl) (fun s => by kernel_rfl) LawP.run (by kernel_rfl) (by kernel_rfl) (by kernel_rfl) (by rfl) (by first | assumption | decide +kernel) (by decide +kernel) ⟨rfl, rfl, rfl, rfl, rfl, by decide +kernel⟩ ?hw ?hc
  case hw => w_witness2
  case hc =>
    refine L2.walk_ofE (l := PySem.Challenge.rw_shedbook_k44_paths_of_questions) (n := 63) (k := 2 * n + 1) (x := PySem.Str.ofString "_law_script") (CX := Sb.CXw (PySem.Challenge.rw_shedbook_k44_paths_of_questions).prog) rfl (by decide) (by kernel_rfl) hn ?F Sb.cxw_false
    intro w mg fa h Y G hmg0
    obtain ⟨K, KX, c⟩ := Y
    have hmg : mg (PySem.Str.ofString "law") = some (.ref fa) := by
      have e : (HandSHeadRun.topDef (OpenLaw.row PySem.Challenge.rw_shedbook_k44_paths_of_questions).prog 28).name = PySem.Str.ofString "law" := by kernel_rfl
      rw [← e]
      exact hmg0
    exact LawP.facts spec KX G hmg c
theorem PySem.Challenge.cw_shedbook_k44_paths_of_questions_holds : PySem.Challenge.rw_shedbook_k44_paths_of_questions.Holds := by
  exact holds_of (n := 21) ⟨rfl, by decide, by decide⟩ fun ns _ => LawP.spec ns
