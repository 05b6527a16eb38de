import PyProof.Rows.All
import Wide.All
import OpenK.AllK
import Wide.FinOn
import KE.KStateDown
import Lean
import HandS.Head0
import HandS.Head1
import HandS.Head2
import PySem.Challenge.RW_shedbook_k69_disks_can_be_cut
import HandS.ForMost
import HandS.ForExc
import HandS.HeadHook2
import HandS.Style
import HandS.TupAny
import HandS.TupLe
import KE.DataCmp
import HandS.CallSlots
import HandS.Flow
import HandS.IsInst
import HandS.More
import HandS.Records
import HandS.SetKeys
import HandS.Defaults
import HandS.WordsExc
import HandS.HeadEnd
import HandS.HeadHook1
section
set_option autoImplicit false
set_option linter.all false
namespace Sb
def lim : Nat := 16777216
abbrev Txt := List Nat
inductive D where
  | non | bl (b : Bool) | int (i : Int) | str (s : Txt) | tup (ds : List D) | ref (a : Nat) | rol (ds : List D)
deriving Inhabited
mutual
def D.beq : D → D → Bool
  | .non, .non => true
  | .bl a, .bl b => a == b
  | .int a, .int b => decide (a = b)
  | .str a, .str b => decide (a = b)
  | .tup a, .tup b => D.beqs a b
  | .rol a, .rol b => D.beqs a b
  | .ref a, .ref b => decide (a = b)
  | _, _ => false
def D.beqs : List D → List D → Bool
  | [], [] => true
  | a :: as, b :: bs => D.beq a b && D.beqs as bs
  | _, _ => false
end
mutual
theorem D.beq_iff : ∀ {a b : D}, D.beq a b = true ↔ a = b
  | .non, b => by cases b <;> simp [D.beq]
  | .bl a, b => by cases b <;> simp [D.beq]
  | .int a, b => by cases b <;> simp [D.beq]
  | .str a, b => by cases b <;> simp [D.beq]
  | .ref a, b => by cases b <;> simp [D.beq]
  | .tup a, b => by
    cases b with
    | tup b => simp only [D.beq, D.tup.injEq]; exact D.beqs_iff
    | _ => simp [D.beq]
  | .rol a, b => by
    cases b with
    | rol b => simp only [D.beq, D.rol.injEq]; exact D.beqs_iff
    | _ => simp [D.beq]
theorem D.beqs_iff : ∀ {a b : List D}, D.beqs a b = true ↔ a = b
  | [], b => by cases b <;> simp [D.beqs]
  | a :: as, b => by
    cases b with
    | nil => simp [D.beqs]
    | cons b bs => simp only [D.beqs, Bool.and_eq_true, List.cons.injEq, D.beq_iff, D.beqs_iff]
end
instance : DecidableEq D := fun a b => decidable_of_iff (D.beq a b = true) D.beq_iff
inductive Ob where
  | lst (ds : List D)
  | frz (ds : List D)
  | dic (t : Bool) (kvs : List (D × D))
  | lok (t : Bool) (kvs : List (D × D))
  | set (ds : List D)
  | ins (c : String) (fs : List (String × D))
deriving DecidableEq, Inhabited
structure Ex where
  cls : String
  fs : List (String × D)
deriving DecidableEq, Inhabited
inductive Res (α : Type) where
  | ok (a : α) (M : List Ob)
  | ex (e : Ex) (M : List Ob)
  | no
deriving Inhabited
def CM (α : Type) : Type := List Ob → Res α
def CM.ret {α : Type} (a : α) : CM α := fun M => .ok a M
def CM.bind {α β : Type} (m : CM α) (f : α → CM β) : CM β := fun M => match m M with
  | .ok a M' => f a M'
  | .ex e M' => .ex e M'
  | .no => .no
instance : Monad CM where
  pure := CM.ret
  bind := CM.bind
def CM.fail {α : Type} : CM α := fun _ => .no
def CM.opt {α : Type} (o : Option α) : CM α := fun M => match o with
  | some a => .ok a M
  | none => .no
def CM.new (o : Ob) : CM D := fun M => .ok (.ref M.length) (M ++ [o])
def CM.raise {α : Type} (e : Ex) : CM α := fun M => .ex e M
def CM.get (a : Nat) : CM Ob := fun M => match M[a]? with
  | some o => .ok o M
  | none => .no
def CM.put (a : Nat) (o : Ob) : CM Unit := fun M => if a < M.length then .ok () (M.set a o) else .no
def CM.ask (p : Bool) : CM Unit := fun M => if p = true then .ok () M else .no
inductive T where
  | non | bl (b : Bool) | int (i : Int) | str (s : Txt) | tup (ts : List T) | lst (ts : List T)
deriving Inhabited
mutual
def D.re (dr : Nat → Option T) : D → Option T
  | .non => some .non
  | .bl b => some (.bl b)
  | .int i => some (.int i)
  | .str s => some (.str s)
  | .tup ds => (D.res dr ds).map .tup
  | .ref a => dr a
  | .rol _ => none
def D.res (dr : Nat → Option T) : List D → Option (List T)
  | [] => some []
  | d :: ds => (D.re dr d).bind fun t => (D.res dr ds).map fun ts => t :: ts
end
def drN (M : List Ob) : Nat → Nat → Option T
  | 0, _ => none
  | n + 1, a => match M[a]? with
    | some (.lst ds) => (D.res (drN M n) ds).map .lst
    | some (.frz ds) => (D.res (drN M n) ds).map .lst
    | _ => none
def tree (M : List Ob) (d : D) : Option T := D.re (drN M 8) d
mutual
def T.eqv : T → T → Bool
  | .non, .non => true
  | .bl a, .bl b => a == b
  | .bl a, .int j => decide ((if a then 1 else 0) = j)
  | .int i, .bl b => decide (i = (if b then 1 else 0))
  | .int i, .int j => decide (i = j)
  | .str a, .str b => decide (a = b)
  | .tup a, .tup b => T.eqvs a b
  | .lst a, .lst b => T.eqvs a b
  | _, _ => false
def T.eqvs : List T → List T → Bool
  | [], [] => true
  | a :: as, b :: bs => T.eqv a b && T.eqvs as bs
  | _, _ => false
end
def ltxt : Txt → Txt → Bool
  | [], [] => false
  | [], _ :: _ => true
  | _ :: _, [] => false
  | a :: as, b :: bs => if a = b then ltxt as bs else decide (a < b)
mutual
def T.lt : T → T → Bool
  | .int i, .int j => decide (i < j)
  | .str a, .str b => ltxt a b
  | .tup a, .tup b => T.lts a b
  | .lst a, .lst b => T.lts a b
  | _, _ => false
def T.lts : List T → List T → Bool
  | [], [] => false
  | [], _ :: _ => true
  | _ :: _, [] => false
  | a :: as, b :: bs => if T.eqv a b = true then T.lts as bs else T.lt a b
end
mutual
def T.alike : T → T → Bool
  | .int _, .int _ => true
  | .str _, .str _ => true
  | .tup a, .tup b => T.alikes a b
  | .lst a, .lst b => T.alikes a b
  | _, _ => false
def T.alikes : List T → List T → Bool
  | a :: as, b :: bs => T.alike a b && T.alikes as bs
  | [], _ => true
  | _ :: _, [] => true
end
mutual
def T.dep : T → Nat
  | .tup ts => T.deps ts + 1
  | .lst ts => T.deps ts + 1
  | _ => 0
def T.deps : List T → Nat
  | [] => 0
  | t :: ts => max (T.dep t) (T.deps ts)
end
def tree2 (x y : D) : CM (T × T) := fun M => match tree M x, tree M y with
  | some a, some b => if T.dep a ≤ 64 ∧ T.dep b ≤ 64 then .ok (a, b) M else .no
  | _, _ => .no
def cmp2 (x y : D) : CM (T × T) := do
  let p ← tree2 x y
  CM.ask (p.1.alike p.2)
  pure p
inductive BOp where | add | sub | mul | fdiv | mod | pow
deriving DecidableEq
inductive COp where | eq | ne | lt | le | gt | ge | is | isnt | inn | nin
deriving DecidableEq
inductive Tg where | loc (i : Nat) | tup (is : List Nat)
deriving DecidableEq
mutual
inductive CE where
  | loc (i : Nat) | cst (d : D) | glb (x : String)
  | tup (es : CEs) | lst (es : CEs) | dic (t : Bool) (kvs : CEs)
  | bin (op : BOp) (a b : CE) | neg (a : CE)
  | cmp (op : COp) (a b : CE) | cmp2 (op1 op2 : COp) (a b c : CE)
  | and (a b : CE) | or (a b : CE) | not (a : CE)
  | ite (c a b : CE)
  | idx (a b : CE) | slc (a lo hi : CE) | rev (a : CE)
  | att (a : CE) (f : String)
  | call (f : String) (es : CEs) | make (c : String) (es : CEs)
  | blt (f : String) (es : CEs) | isi (a : CE) (T : String)
  | met (o : CE) (m : String) (es : CEs)
  | comp (tg : Tg) (it : CI) (c e : CE)
  | dcomp (t : Bool) (tg : Tg) (it : CI) (k v : CE)
  | srt (a : CE) (f : String) (rev : Bool)
inductive CEs where | nil | cons (e : CE) (es : CEs)
inductive CI where
  | seq (e : CE) | rng (a b : CE) | items (e : CE) | values (e : CE) | enum (e : CE)
end
def CE.isNon : CE → Bool
  | .cst .non => true
  | _ => false
inductive Tt where | loc (i : Nat) | tup (is : List Nat) | att (o : CE) (f : String) | idx (o i : CE)
mutual
inductive CS where
  | asg (t : Tt) (e : CE) | par (i j : Nat) (a b : CE)
  | aug (i : Nat) (op : BOp) (e : CE) | augA (o : CE) (f : String) (op : BOp) (e : CE)
  | exp (e : CE) | ret (e : CE)
  | iff (c : CE) (a b : CSs)
  | for (tg : Tg) (it : CI) (body : CSs)
  | whl (c : CE) (body : CSs)
  | brk | cnt | pas
  | del (o i : CE)
  | rais (c : String) (es : CEs)
  | tri (body : CSs) (c : String) (n : Option Nat) (h : CSs)
inductive CSs where | nil | cons (s : CS) (ss : CSs)
end
def truth : D → CM Bool
  | .non => pure false
  | .bl b => pure b
  | .int i => pure (decide (i ≠ 0))
  | .str s => pure (!s.isEmpty)
  | .tup ds => pure (!ds.isEmpty)
  | .rol _ => CM.fail
  | .ref a => do
    match ← CM.get a with
    | .lst ds => pure (!ds.isEmpty)
    | .frz ds => pure (!ds.isEmpty)
    | .dic _ kvs => pure (!kvs.isEmpty)
    | _ => CM.fail
def items (a : Nat) : CM (List D) := do
  match ← CM.get a with
  | .lst ds => pure ds
  | .frz ds => pure ds
  | _ => CM.fail
def lstIt (a : Nat) : CM (List D) := do
  match ← CM.get a with
  | .lst ds => pure ds
  | _ => CM.fail
def pow64 : Int := 18446744073709551616
def bop : BOp → D → D → CM D
  | .add, .int i, .int j => pure (.int (i + j))
  | .sub, .int i, .int j => pure (.int (i - j))
  | .mul, .int i, .int j => do
    CM.ask (decide ((-pow64 < i ∧ i < pow64) ∨ (-pow64 < j ∧ j < pow64)))
    pure (.int (i * j))
  | .fdiv, .int i, .int j => do
    CM.ask (decide (0 < j ∧ j < 1073741824))
    pure (.int (i / j))
  | .mod, .int i, .int j => do
    CM.ask (decide (0 < j))
    pure (.int (i % j))
  | .pow, .int i, .int j => do
    CM.ask (decide (0 ≤ j ∧ j ≤ 1000000 ∧ i.natAbs < 18446744073709551616))
    pure (.int (i ^ j.toNat))
  | .add, .str a, .str b => do
    CM.ask (decide (a.length + b.length ≤ lim))
    pure (.str (a ++ b))
  | .add, .tup a, .tup b => do
    CM.ask (decide (a.length + b.length ≤ lim))
    pure (.tup (a ++ b))
  | .add, .ref a, .ref b => do
    let xs ← lstIt a
    let ys ← lstIt b
    CM.ask (decide (xs.length + ys.length ≤ lim))
    CM.new (.lst (xs ++ ys))
  | .mul, .ref a, .int n => do
    let xs ← lstIt a
    CM.ask (decide (xs.length * n.toNat ≤ lim ∧ -16777216 ≤ n ∧ n ≤ 16777216))
    CM.new (.lst (List.replicate n.toNat xs).flatten)
  | _, _, _ => CM.fail
def treeIn (x y : D) : CM Bool := do
  let p ← tree2 x y
  match p.2 with
  | .tup ts => pure (ts.any fun t => t.eqv p.1)
  | .lst ts => pure (ts.any fun t => t.eqv p.1)
  | _ => CM.fail
def look (k : D) : List (D × D) → Option D
  | [] => none
  | (a, v) :: r => if a = k then some v else look k r
def putK (k v : D) (kvs : List (D × D)) : List (D × D) := if (kvs.any fun p => decide (p.1 = k)) = true then kvs.map (fun p => if p.1 = k then (p.1, v) else p) else kvs ++ [(k, v)]
def dropK (k : D) (kvs : List (D × D)) : List (D × D) := kvs.filter fun p => decide (p.1 ≠ k)
mutual
def D.isKey : D → Bool
  | .int _ => true
  | .str _ => true
  | .tup ds => D.areKeys ds
  | _ => false
def D.areKeys : List D → Bool
  | [] => true
  | d :: ds => D.isKey d && D.areKeys ds
end
def D.isK (t : Bool) : D → Bool
  | .int _ => !t
  | .str _ => !t
  | .tup ds => t && D.areKeys ds
  | _ => false
def entries (a : Nat) : CM (List (D × D)) := do
  match ← CM.get a with
  | .dic _ kvs => pure kvs
  | .lok _ kvs => pure kvs
  | _ => CM.fail
def isIn (x y : D) : CM Bool :=
  match y with
  | .str b => (match x with
    | .str [c] => pure (decide (c ∈ b))
    | _ => CM.fail)
  | .tup _ => treeIn x y
  | .ref a => do
    match ← CM.get a with
    | .lst _ => treeIn x y
    | .frz _ => treeIn x y
    | .dic t kvs => do
      CM.ask (x.isK t)
      pure (look x kvs).isSome
    | .lok t kvs => do
      CM.ask (x.isK t)
      pure (look x kvs).isSome
    | _ => CM.fail
  | _ => CM.fail
def isThe (x y : D) : CM Bool :=
  match y with
  | .non => pure (decide (x = .non))
  | .bl b => pure (decide (x = .bl b))
  | _ => CM.fail
def cop : COp → D → D → CM Bool
  | .eq, x, y => do
    let p ← tree2 x y
    pure (p.1.eqv p.2)
  | .ne, x, y => do
    let p ← tree2 x y
    pure (!p.1.eqv p.2)
  | .lt, x, y => do
    let p ← cmp2 x y
    pure (p.1.lt p.2)
  | .gt, x, y => do
    let p ← cmp2 x y
    pure (p.2.lt p.1)
  | .le, x, y => do
    let p ← cmp2 x y
    pure (!p.2.lt p.1)
  | .ge, x, y => do
    let p ← cmp2 x y
    pure (!p.1.lt p.2)
  | .is, x, y => isThe x y
  | .isnt, x, y => do
    let r ← isThe x y
    pure (!r)
  | .inn, x, y => isIn x y
  | .nin, x, y => do
    let r ← isIn x y
    pure (!r)
def ixOf (n : Nat) (i : Int) : Option Nat :=
  if 0 ≤ i then (if i < n then some i.toNat else none) else if -(n : Int) ≤ i then some (i + n).toNat else none
def atIx {α : Type} (xs : List α) (i : Int) : Option α := (ixOf xs.length i).bind fun j => xs[j]?
def clip (n d : Nat) : Option Int → Nat
  | none => d
  | some v => if v < 0 then (v + (n : Int)).toNat else min v.toNat n
def cut {α : Type} (xs : List α) (lo hi : Option Int) : List α := (xs.drop (clip xs.length 0 lo)).take (clip xs.length xs.length hi - clip xs.length 0 lo)
def part (b : Bool) : D → CM (Option Int)
  | .non => if b = true then pure none else CM.fail
  | .int i => pure (some i)
  | _ => CM.fail
def index : D → D → CM D
  | .tup ds, .int i => CM.opt (atIx ds i)
  | .rol ds, .int i => CM.opt (atIx ds i)
  | .str s, .int i => CM.opt ((atIx s i).map fun c => .str [c])
  | .ref a, k => do
    match ← CM.get a with
    | .lst ds => (match k with
      | .int i => CM.opt (atIx ds i)
      | _ => CM.fail)
    | .frz ds => (match k with
      | .int i => CM.opt (atIx ds i)
      | _ => CM.fail)
    | .dic t kvs => do
      CM.ask (k.isK t)
      CM.opt (look k kvs)
    | .lok t kvs => do
      CM.ask (k.isK t)
      CM.opt (look k kvs)
    | _ => CM.fail
  | _, _ => CM.fail
def slice : D → Option Int → Option Int → CM D
  | .tup ds, lo, hi => pure (.tup (cut ds lo hi))
  | .rol ds, lo, hi => CM.new (.lst (cut ds lo hi))
  | .str s, lo, hi => pure (.str (cut s lo hi))
  | .ref a, lo, hi => do
    let ds ← items a
    CM.new (.lst (cut ds lo hi))
  | _, _, _ => CM.fail
def getF (f : String) : List (String × D) → Option D
  | [] => none
  | (g, v) :: r => if g = f then some v else getF f r
def putF (f : String) (v : D) : List (String × D) → List (String × D)
  | [] => [(f, v)]
  | (g, u) :: r => if g = f then (g, v) :: r else (g, u) :: putF f v r
def attr (na : String → String → Bool) (o : D) (f : String) : CM D :=
  match o with
  | .ref a => do
    match ← CM.get a with
    | .ins c fs => do
      CM.ask (na c f)
      CM.opt (getF f fs)
    | _ => CM.fail
  | _ => CM.fail
def setAttr (na : String → String → Bool) (o : D) (f : String) (v : D) : CM Unit :=
  match o with
  | .ref a => do
    match ← CM.get a with
    | .ins c fs => do
      CM.ask (na c f && decide (fs.length < 100))
      CM.put a (.ins c (putF f v fs))
    | _ => CM.fail
  | _ => CM.fail
def clsOf (o : D) : CM String :=
  match o with
  | .ref a => do
    match ← CM.get a with
    | .ins c _ => pure c
    | _ => CM.fail
  | _ => CM.fail
def setItem (o i v : D) : CM Unit :=
  match o with
  | .ref a => do
    match ← CM.get a with
    | .lst ds => (match i with
      | .int k => do
        let j ← CM.opt (ixOf ds.length k)
        CM.put a (.lst (ds.set j v))
      | _ => CM.fail)
    | .dic t kvs => do
      CM.ask (i.isK t && decide (kvs.length < lim))
      CM.put a (.dic t (putK i v kvs))
    | _ => CM.fail
  | _ => CM.fail
def delItem (o i : D) : CM Unit :=
  match o with
  | .ref a => do
    match ← CM.get a with
    | .dic t kvs => do
      CM.ask (i.isK t && (look i kvs).isSome)
      CM.put a (.dic t (dropK i kvs))
    | _ => CM.fail
  | _ => CM.fail
def natTxtAux : Nat → Nat → Txt → Txt
  | 0, _, acc => acc
  | f + 1, n, acc => if n < 10 then (48 + n) :: acc else natTxtAux f (n / 10) ((48 + n % 10) :: acc)
def natTxt (n : Nat) : Txt := natTxtAux (n + 1) n []
def intTxt (i : Int) : Txt := if i < 0 then 45 :: natTxt i.natAbs else natTxt i.toNat
def canLt (ts : List T) : Bool := ts.all fun a => ts.all fun b => a.alike b
def T.firm : T → Bool
  | .tup [] => false
  | _ => true
def trees (ds : List D) : CM (List T) := fun M => match D.res (drN M 8) ds with
  | some ts => if ts.all (fun t => decide (T.dep t ≤ 60)) then .ok ts M else .no
  | none => .no
def leT (rev : Bool) (a b : T) : Bool := if rev then !a.lt b else !b.lt a
def sortKV (rev : Bool) (ps : List (T × D)) : List D := (ps.mergeSort fun a b => leT rev a.1 b.1).map (·.2)
def sorted (rev : Bool) (ks ds : List D) : CM D := do
  let ts ← trees ks
  CM.ask (canLt ts && ts.all T.firm && decide (ds.length ≤ lim))
  CM.new (.lst (sortKV rev (ts.zip ds)))
def dedup : List D → List D
  | [] => []
  | d :: ds => d :: (dedup ds).filter fun e => decide (e ≠ d)
def allItems : D → CM (List D)
  | .tup ds => pure ds
  | .str s => pure (s.map fun c => .str [c])
  | .ref a => do
    match ← CM.get a with
    | .lst ds => pure ds
    | .frz ds => pure ds
    | .dic _ kvs => pure (kvs.map (·.1))
    | .set ds => pure ds
    | _ => CM.fail
  | _ => CM.fail
def boolsOf : List D → Option (List Bool)
  | [] => some []
  | .bl b :: ds => (boolsOf ds).map fun bs => b :: bs
  | _ :: _ => none
def intsOf : List D → Option (List Int)
  | [] => some []
  | .int i :: ds => (intsOf ds).map fun is => i :: is
  | _ :: _ => none
def pyMax (i : Int) : List Int → Int
  | [] => i
  | j :: r => pyMax (if j > i then j else i) r
def pyMin (i : Int) : List Int → Int
  | [] => i
  | j :: r => pyMin (if j < i then j else i) r
def seqItems : D → CM (List D)
  | .tup ds => pure ds
  | .rol ds => pure ds
  | .ref a => items a
  | _ => CM.fail
def blt : String → List D → CM D
  | "len", [.str s] => pure (.int s.length)
  | "len", [.tup ds] => pure (.int ds.length)
  | "len", [.rol ds] => pure (.int ds.length)
  | "len", [.ref a] => do
    match ← CM.get a with
    | .lst ds => pure (.int ds.length)
    | .frz ds => pure (.int ds.length)
    | .dic _ kvs => pure (.int kvs.length)
    | _ => CM.fail
  | "int", [.int i] => pure (.int i)
  | "int", [.bl b] => pure (.int (if b = true then 1 else 0))
  | "abs", [.int i] => pure (.int (if i < 0 then -i else i))
  | "max", [.int i, .int j] => pure (.int (if j > i then j else i))
  | "min", [.int i, .int j] => pure (.int (if j < i then j else i))
  | "list", [d] => do
    let ds ← seqItems d
    CM.new (.lst ds)
  | "tuple", [d] => do
    let ds ← seqItems d
    pure (.tup ds)
  | _, _ => CM.fail
def isInst (M : List Ob) : D → String → Option Bool
  | .non, _ => some false
  | .bl _, T => some (T == "bool" || T == "int")
  | .int _, T => some (T == "int")
  | .str _, T => some (T == "str")
  | .tup _, T => some (T == "tuple")
  | .rol _, _ => none
  | .ref a, T => match M[a]? with
    | some (.lst _) => some (T == "list")
    | some (.frz _) => some (T == "list")
    | some (.dic _ _) => some (T == "dict")
    | _ => none
def tyNames : List String := ["bool", "int", "str", "tuple", "list", "dict"]
def splitOn (c : Nat) : Txt → List Txt
  | [] => [[]]
  | x :: xs => if x = c then [] :: splitOn c xs else match splitOn c xs with
    | [] => [[x]]
    | w :: ws => (x :: w) :: ws
def joinTxt (sep : Txt) : List Txt → Txt
  | [] => []
  | [a] => a
  | a :: b :: r => a ++ sep ++ joinTxt sep (b :: r)
def strsOf : List D → Option (List Txt)
  | [] => some []
  | .str s :: ds => (strsOf ds).map fun ss => s :: ss
  | _ :: _ => none
def findFrom (c : Nat) (s : Txt) (i : Nat) : Int := match (s.drop i).findIdx? (· == c) with
  | some j => ((i + j : Nat) : Int)
  | none => -1
def rfindC (c : Nat) (s : Txt) : Int := match s.reverse.findIdx? (· == c) with
  | some j => ((s.length - 1 - j : Nat) : Int)
  | none => -1
def rstripC (c : Nat) (s : Txt) : Txt := (s.reverse.dropWhile (· == c)).reverse
def strMeth (s : Txt) : String → List D → CM D
  | "join", [d] => do
    let ds ← allItems d
    match strsOf ds with
    | some ws => do
      CM.ask (decide ((joinTxt s ws).length ≤ lim ∧ ws.length ≤ lim))
      pure (.str (joinTxt s ws))
    | none => CM.fail
  | "startswith", [.str p] => pure (.bl (p.isPrefixOf s))
  | "find", [.str [c], .int i] => do
    CM.ask (decide (0 ≤ i ∧ i ≤ s.length))
    pure (.int (findFrom c s i.toNat))
  | "rfind", [.str [c]] => pure (.int (rfindC c s))
  | "rstrip", [.str [c]] => pure (.str (rstripC c s))
  | "split", [.str [c]] => do
    CM.ask (decide (s.length + 2 ≤ lim))
    CM.new (.lst ((splitOn c s).map .str))
  | "index", [.str [c]] => match s.findIdx? (· == c) with
    | some j => pure (.int j)
    | none => CM.fail
  | _, _ => CM.fail
def lstMeth (a : Nat) (ds : List D) : String → List D → CM D
  | "append", [d] => do
    CM.ask (decide (ds.length < lim))
    CM.put a (.lst (ds ++ [d]))
    pure .non
  | "extend", [.ref b] => do
    let es ← lstIt b
    CM.ask (decide (ds.length + es.length ≤ lim))
    CM.put a (.lst (ds ++ es))
    pure .non
  | "insert", [.int i, d] => do
    CM.ask (decide (0 ≤ i ∧ i ≤ ds.length ∧ ds.length < lim))
    CM.put a (.lst (ds.take i.toNat ++ d :: ds.drop i.toNat))
    pure .non
  | "pop", [] => match ds.getLast? with
    | some d => do
      CM.put a (.lst ds.dropLast)
      pure d
    | none => CM.fail
  | "pop", [.int i] => do
    CM.ask (decide (-16777216 ≤ i ∧ i ≤ 16777216))
    let j ← CM.opt (ixOf ds.length i)
    let d ← CM.opt ds[j]?
    CM.put a (.lst (ds.eraseIdx j))
    pure d
  | "clear", [] => do
    CM.put a (.lst [])
    pure .non
  | _, _ => CM.fail
def dicMeth (a : Nat) (t : Bool) (kvs : List (D × D)) : String → List D → CM D
  | "get", [k, d] => do
    CM.ask (k.isK t)
    pure ((look k kvs).getD d)
  | "setdefault", [k, d] => do
    CM.ask (k.isK t && decide (kvs.length < lim))
    match look k kvs with
    | some v => pure v
    | none => do
      CM.put a (.dic t (putK k d kvs))
      pure d
  | _, _ => CM.fail
def lmt (m : String) : Bool := m == "append" || m == "extend" || m == "insert" || m == "clear" || m == "pop"
def dmt (m : String) : Bool := m == "get" || m == "setdefault"
def smt (m : String) : Bool := false
structure Fn where
  pn : Nat
  n : Nat
  dfl : List D
  body : CSs
  glo : Bool
structure Cl where
  meths : List (String × String)
  sup : List String
  attrs : List String
structure G where
  fn : String → Option Fn
  cls : String → Option Cl
  glb : String → Option D
def G.na (g : G) (c f : String) : Bool := ((g.cls c).map fun k => k.attrs.contains f).getD false
abbrev Env := List (Option D)
abbrev Cls := String → List D → CM D
inductive Fl where
  | nx (ρ : Env) | rt (d : D) | bk (ρ : Env) | ct (ρ : Env)
deriving Inhabited
def getLoc (ρ : Env) (i : Nat) : CM D := CM.opt (ρ[i]?.join)
def setLoc (ρ : Env) (i : Nat) (d : D) : CM Env := fun M => if i < ρ.length then .ok (ρ.set i (some d)) M else .no
def setLocs (ρ : Env) : List Nat → List D → CM Env
  | [], [] => pure ρ
  | i :: is, d :: ds => do
    let ρ' ← setLoc ρ i d
    setLocs ρ' is ds
  | _, _ => CM.fail
def unpack : D → CM (List D)
  | .tup ds => pure ds
  | _ => CM.fail
def setTg (ρ : Env) : Tg → D → CM Env
  | .loc i, d => setLoc ρ i d
  | .tup is, d => do
    let ds ← unpack d
    setLocs ρ is ds
def Tg.slots : Tg → List Nat
  | .loc i => [i]
  | .tup is => is
structure Wk where
  its : List D
  same : Option (Nat × Ob)
def Wk.ok (w : Wk) (M : List Ob) : Bool := match w.same with
  | some (a, o) => decide (M[a]? = some o)
  | none => true
def checkW (w : Wk) : CM Unit := fun M => if w.ok M = true then .ok () M else .no
def wipeE (ρ : Env) : List Nat → Env
  | [] => ρ
  | i :: is => (wipeE ρ is).set i none
def forD (w : Wk) (tg : Tg) (body : Env → CM Fl) : List D → Env → CM Fl
  | [], ρ => do
    checkW w
    pure (.nx ρ)
  | d :: ds, ρ => do
    checkW w
    let ρ1 ← setTg ρ tg d
    match ← body ρ1 with
    | .nx ρ2 => forD w tg body ds ρ2
    | .ct ρ2 => forD w tg body ds ρ2
    | .bk ρ2 => pure (.nx ρ2)
    | .rt v => pure (.rt v)
def wmax : Nat := 10 ^ 40
def whileD (c : Env → CM Bool) (body : Env → CM Fl) : Nat → Env → CM Fl
  | 0, _ => CM.fail
  | n + 1, ρ => do
    match ← c ρ with
    | false => pure (.nx ρ)
    | true => do
      match ← body ρ with
      | .nx ρ2 => whileD c body n ρ2
      | .ct ρ2 => whileD c body n ρ2
      | .bk ρ2 => pure (.nx ρ2)
      | .rt v => pure (.rt v)
def compD (w : Wk) (tg : Tg) (ρ : Env) (c : Env → CM Bool) (e : Env → CM D) (p : Nat) : List D → CM Unit
  | [] => checkW w
  | d :: ds => do
    checkW w
    let ρ1 ← setTg ρ tg d
    match ← c ρ1 with
    | false => compD w tg ρ c e p ds
    | true => do
      let v ← e ρ1
      match ← CM.get p with
      | .lst xs => do
        CM.ask (decide (xs.length < lim))
        CM.put p (.lst (xs ++ [v]))
        compD w tg ρ c e p ds
      | _ => CM.fail
def dcompD (w : Wk) (tg : Tg) (ρ : Env) (k v : Env → CM D) (p : Nat) : List D → CM Unit
  | [] => checkW w
  | d :: ds => do
    checkW w
    let ρ1 ← setTg ρ tg d
    let kd ← k ρ1
    let vd ← v ρ1
    match ← CM.get p with
    | .dic t kvs => do
      CM.ask (kd.isK t && decide (kvs.length < lim))
      CM.put p (.dic t (putK kd vd kvs))
      dcompD w tg ρ k v p ds
    | _ => CM.fail
def quiet {α : Type} (m : CM α) : CM α := fun M => match m M with
  | .ok a M' => .ok a M'
  | _ => .no
def keysOf (cl : Cls) (f : String) : List D → CM (List D)
  | [] => pure []
  | d :: ds => do
    let k ← cl f [d]
    let ks ← keysOf cl f ds
    pure (k :: ks)
def rangeD (lo hi : Int) : List D := (List.range (hi - lo).toNat).map fun k : Nat => D.int (lo + (k : Int))
def big62 (i : Int) : Bool := decide (-4611686018427387904 ≤ i ∧ i < 4611686018427387904)
def enumD : Nat → List D → List D
  | _, [] => []
  | n, d :: ds => .tup [.int n, d] :: enumD (n + 1) ds
def seqWk : D → CM Wk
  | .tup ds => pure ⟨ds, none⟩
  | .rol ds => pure ⟨ds, none⟩
  | .str s => pure ⟨s.map fun c => .str [c], none⟩
  | .ref a => do
    match ← CM.get a with
    | .lst ds => pure ⟨ds, some (a, .lst ds)⟩
    | .frz ds => pure ⟨ds, some (a, .frz ds)⟩
    | _ => CM.fail
  | _ => CM.fail
def methOf (g : G) (c m : String) : Option String := (g.cls c).bind fun k => k.meths.lookup m
mutual
def ev (g : G) (cl : Cls) (ρ : Env) : CE → CM D
  | .loc i => getLoc ρ i
  | .cst d => pure d
  | .glb x => CM.opt (g.glb x)
  | .tup es => do
    let ds ← evs g cl ρ es
    CM.ask (decide (ds.length ≤ lim))
    pure (.tup ds)
  | .lst es => do
    let ds ← evs g cl ρ es
    CM.ask (decide (ds.length ≤ lim))
    CM.new (.lst ds)
  | .dic t kvs => do
    match ← CM.new (.dic t []) with
    | .ref p => do
      let ps ← evKV g cl ρ kvs
      match ← CM.get p with
      | .dic _ [] => do
        CM.ask (ps.all (fun q => q.1.isK t) && decide (ps.length ≤ 15))
        CM.put p (.dic t (ps.foldl (fun m q => Sb.putK q.1 q.2 m) []))
        pure (.ref p)
      | _ => CM.fail
    | _ => CM.fail
  | .bin op a b => do
    let x ← ev g cl ρ a
    let y ← ev g cl ρ b
    bop op x y
  | .neg a => do
    match ← ev g cl ρ a with
    | .int i => pure (.int (-i))
    | _ => CM.fail
  | .cmp op a b => do
    let x ← ev g cl ρ a
    let y ← ev g cl ρ b
    let r ← cop op x y
    pure (.bl r)
  | .cmp2 op1 op2 a b c => do
    let x ← ev g cl ρ a
    let y ← ev g cl ρ b
    match ← cop op1 x y with
    | false => pure (.bl false)
    | true => do
      let z ← ev g cl ρ c
      let r ← cop op2 y z
      pure (.bl r)
  | .and a b => do
    match ← ev g cl ρ a with
    | .bl false => pure (.bl false)
    | .bl true => ev g cl ρ b
    | _ => CM.fail
  | .or a b => do
    match ← ev g cl ρ a with
    | .bl true => pure (.bl true)
    | .bl false => ev g cl ρ b
    | _ => CM.fail
  | .not a => do
    let x ← ev g cl ρ a
    let r ← truth x
    pure (.bl (!r))
  | .ite c a b => do
    let x ← ev g cl ρ c
    match ← truth x with
    | true => ev g cl ρ a
    | false => ev g cl ρ b
  | .idx a b => do
    let x ← ev g cl ρ a
    let y ← ev g cl ρ b
    index x y
  | .slc a lo hi => do
    let x ← ev g cl ρ a
    let l ← ev g cl ρ lo
    let l' ← part lo.isNon l
    let h ← ev g cl ρ hi
    let h' ← part hi.isNon h
    slice x l' h'
  | .rev a => do
    match ← ev g cl ρ a with
    | .ref p => do
      let ds ← items p
      CM.new (.lst ds.reverse)
    | _ => CM.fail
  | .att a f => do
    let x ← ev g cl ρ a
    attr g.na x f
  | .call f es => do
    let ds ← evs g cl ρ es
    cl f ds
  | .make c es => do
    let ds ← evs g cl ρ es
    match methOf g c "__init__" with
    | some f => do
      let p ← CM.new (.ins c [])
      match ← quiet (cl f (p :: ds)) with
      | .non => pure p
      | _ => CM.fail
    | none => CM.fail
  | .blt f es => do
    let ds ← evs g cl ρ es
    blt f ds
  | .isi a T => do
    let x ← ev g cl ρ a
    fun M => match isInst M x T with
      | some b => .ok (.bl b) M
      | none => .no
  | .met o m es => do
    let x ← ev g cl ρ o
    match x with
    | .str s => do
      CM.ask (smt m)
      let ds ← evs g cl ρ es
      strMeth s m ds
    | .ref a => do
      match ← CM.get a with
      | .ins c fs => do
        CM.ask (getF m fs).isNone
        match methOf g c m with
        | some f => do
          let ds ← evs g cl ρ es
          cl f (x :: ds)
        | none => CM.fail
      | .lst _ => do
        CM.ask (lmt m)
        let ds ← evs g cl ρ es
        match ← CM.get a with
        | .lst xs => lstMeth a xs m ds
        | _ => CM.fail
      | .dic _ _ => do
        CM.ask (dmt m)
        let ds ← evs g cl ρ es
        match ← CM.get a with
        | .dic t kvs => dicMeth a t kvs m ds
        | _ => CM.fail
      | _ => CM.fail
    | _ => CM.fail
  | .comp tg it c e => do
    let w ← evI g cl ρ it
    match ← CM.new (.lst []) with
    | .ref p => do
      quiet (compD w tg (wipeE ρ tg.slots) (fun ρ => do let x ← ev g cl ρ c; truth x) (fun ρ => ev g cl ρ e) p w.its)
      pure (.ref p)
    | _ => CM.fail
  | .dcomp t tg it k v => do
    let w ← evI g cl ρ it
    match ← CM.new (.dic t []) with
    | .ref p => do
      quiet (dcompD w tg (wipeE ρ tg.slots) (fun ρ => ev g cl ρ k) (fun ρ => ev g cl ρ v) p w.its)
      pure (.ref p)
    | _ => CM.fail
  | .srt a f rev => do
    match ← ev g cl ρ a with
    | .ref p => do
      let ds ← allItems (.ref p)
      let ks ← quiet (keysOf cl f ds)
      sorted rev ks ds
    | _ => CM.fail
def evs (g : G) (cl : Cls) (ρ : Env) : CEs → CM (List D)
  | .nil => pure []
  | .cons e es => do
    let d ← ev g cl ρ e
    let ds ← evs g cl ρ es
    pure (d :: ds)
def evKV (g : G) (cl : Cls) (ρ : Env) : CEs → CM (List (D × D))
  | .nil => pure []
  | .cons k (.cons v r) => do
    let kd ← ev g cl ρ k
    let vd ← ev g cl ρ v
    let ps ← evKV g cl ρ r
    pure ((kd, vd) :: ps)
  | .cons _ .nil => CM.fail
def evI (g : G) (cl : Cls) (ρ : Env) : CI → CM Wk
  | .seq e => do
    let x ← ev g cl ρ e
    seqWk x
  | .rng a b => do
    let x ← ev g cl ρ a
    let y ← ev g cl ρ b
    match x, y with
    | .int i, .int j => do
      CM.ask (big62 i && big62 j)
      pure ⟨rangeD i j, none⟩
    | _, _ => CM.fail
  | .items e => CM.fail
  | .values e => CM.fail
  | .enum e => do
    match ← ev g cl ρ e with
    | .ref a => do
      match ← CM.get a with
      | .lst ds => pure ⟨enumD 0 ds, some (a, .lst ds)⟩
      | .frz ds => pure ⟨enumD 0 ds, some (a, .frz ds)⟩
      | _ => CM.fail
    | _ => CM.fail
end
def evT (g : G) (cl : Cls) (e : CE) (ρ : Env) : CM Bool := do
  let x ← ev g cl ρ e
  truth x
def store (g : G) (cl : Cls) (ρ : Env) (v : D) : Tt → CM Env
  | .loc i => setLoc ρ i v
  | .tup is => do
    let ds ← unpack v
    setLocs ρ is ds
  | .att o f => do
    let x ← ev g cl ρ o
    setAttr g.na x f v
    pure ρ
  | .idx o i => do
    let x ← ev g cl ρ o
    let k ← ev g cl ρ i
    setItem x k v
    pure ρ
def isSub (g : G) (c d : String) : Bool := c == d || ((g.cls c).map fun k => k.sup.contains d).getD false
def exOf (g : G) (c : String) (ds : List D) : Option Ex := (g.cls c).bind fun k => match k.meths.lookup "__fields__" with
  | none => if ds.isEmpty then some ⟨c, []⟩ else none
  | some fs => let names := fs.splitOn ","; if names.length = ds.length then some ⟨c, names.zip ds⟩ else none
mutual
def ex (g : G) (cl : Cls) (ρ : Env) : CS → CM Fl
  | .asg t e => do
    let v ← ev g cl ρ e
    let ρ' ← store g cl ρ v t
    pure (.nx ρ')
  | .par i j a b => do
    let x ← ev g cl ρ a
    let y ← ev g cl ρ b
    let ρ' ← setLocs ρ [i, j] [x, y]
    pure (.nx ρ')
  | .aug i op e => do
    let x ← getLoc ρ i
    let y ← ev g cl ρ e
    match op, x, y with
    | .add, .int p, .int q => do
      let ρ' ← setLoc ρ i (.int (p + q))
      pure (.nx ρ')
    | .sub, .int p, .int q => do
      let ρ' ← setLoc ρ i (.int (p - q))
      pure (.nx ρ')
    | _, _, _ => CM.fail
  | .augA o f op e => do
    let p ← ev g cl ρ o
    let c1 ← clsOf p
    let x ← attr g.na p f
    let y ← ev g cl ρ e
    let c2 ← clsOf p
    CM.ask (decide (c1 = c2))
    match op, x, y with
    | .add, .int a, .int b => do
      setAttr g.na p f (.int (a + b))
      pure (.nx ρ)
    | .sub, .int a, .int b => do
      setAttr g.na p f (.int (a - b))
      pure (.nx ρ)
    | _, _, _ => CM.fail
  | .exp e => do
    let _ ← ev g cl ρ e
    pure (.nx ρ)
  | .ret e => do
    let v ← ev g cl ρ e
    pure (.rt v)
  | .iff c a b => do
    match ← evT g cl c ρ with
    | true => exs g cl ρ a
    | false => exs g cl ρ b
  | .for tg it body => do
    let w ← evI g cl ρ it
    forD w tg (fun ρ => exs g cl ρ body) w.its ρ
  | .whl c body => whileD (evT g cl c) (fun ρ => exs g cl ρ body) wmax ρ
  | .brk => pure (.bk ρ)
  | .cnt => pure (.ct ρ)
  | .pas => pure (.nx ρ)
  | .del o i => do
    let x ← ev g cl ρ o
    let k ← ev g cl ρ i
    delItem x k
    pure (.nx ρ)
  | .rais c es => do
    let ds ← evs g cl ρ es
    match exOf g c ds with
    | some e => CM.raise e
    | none => CM.fail
  | .tri body c n h => fun M => match exs g cl ρ body M with
    | .ex e M' => if isSub g e.cls c = true then (match n with
      | none => exs g cl ρ h M'
      | some i => .no) else .ex e M'
    | r => r
def exs (g : G) (cl : Cls) (ρ : Env) : CSs → CM Fl
  | .nil => pure (.nx ρ)
  | .cons s ss => do
    match ← ex g cl ρ s with
    | .nx ρ' => exs g cl ρ' ss
    | f => pure f
end
def runFn (g : G) (cl : Cls) (f : Fn) (ds : List D) : CM D := do
  CM.ask (decide (ds.length ≤ f.pn ∧ f.pn ≤ ds.length + f.dfl.length ∧ f.pn ≤ f.n))
  match ← exs g cl (((ds ++ f.dfl.drop (ds.length + f.dfl.length - f.pn)).map some) ++ List.replicate (f.n - f.pn) none) f.body with
  | .rt d => pure d
  | .nx _ => pure .non
  | _ => CM.fail
def evCall (g : G) : Nat → Cls
  | 0 => fun _ _ => CM.fail
  | k + 1 => fun f ds => match g.fn f with
    | some fd => runFn g (evCall g k) fd ds
    | none => CM.fail
end Sb
end
section
set_option Elab.async false
set_option linter.all false
set_option maxRecDepth 100000
namespace Sb
open PySem PySem.Spec PyProof.Rows L2
abbrev Frag := PySem.W.Frag
structure Gd where
  P : Program
  w : World
  K : Frag
abbrev _root_.L2.Cx.gd (X : Cx) : Gd := ⟨X.prog, X.w, X.K⟩
def toS (s : Txt) : Str := ⟨s.toArray⟩
def okTxt (s : Txt) : Prop := ∀ c ∈ s, c < 1114112
theorem toS_inj {a b : Txt} (h : toS a = toS b) : a = b := by
  have h1 : a.toArray = b.toArray := congrArg Str.cps h
  simpa using congrArg Array.toList h1
theorem toS_cps (s : Txt) : (toS s).cps.toList = s := by simp [toS]
def SqF (K : Frag) (H : Hp) (a : Addr) (xs : List V) : Prop :=
  (∃ ob, H a = some (.frz ob (.lst xs))) ∨ ∃ o its n, List.lookup a K = some o ∧ o.cls = Value.type "list" ∧ o.dict = none ∧ o.data = Data.seq its n ∧ its.size ≤ sizeLine ∧ Vals xs its.toList
theorem SqF.sq {K : Frag} {H : Hp} {a : Addr} {xs : List V} (h : SqF K H a xs) : SqL K H a xs := h.imp (fun z => .inr z) id
mutual
inductive RV (K : Frag) (α : List Addr) (H : Hp) : D → V → Prop
  | non : RV K α H .non .non
  | bl (b : Bool) : RV K α H (.bl b) (.bl b)
  | int (i : Int) : RV K α H (.int i) (.int i)
  | str {s : Txt} : okTxt s → s.length ≤ sizeLine → RV K α H (.str s) (.str (toS s))
  | tup {ds : List D} {a : Addr} {xs : List V} : SqT K H a xs → RVs K α H ds xs → RV K α H (.tup ds) (.ref a)
  | ref {i : Nat} {a : Addr} : α[i]? = some a → RV K α H (.ref i) (.ref a)
  | rol {ds : List D} {a : Addr} {xs : List V} : SqF K H a xs → RVs K α H ds xs → RV K α H (.rol ds) (.ref a)
inductive RVs (K : Frag) (α : List Addr) (H : Hp) : List D → List V → Prop
  | nil : RVs K α H [] []
  | cons {d : D} {v : V} {ds : List D} {vs : List V} : RV K α H d v → RVs K α H ds vs → RVs K α H (d :: ds) (v :: vs)
end
structure Nx (K : Frag) (α : List Addr) (H : Hp) (α' : List Addr) (H' : Hp) : Prop where
  pre : ∃ β, α' = α ++ β
  tup : ∀ a xs, SqT K H a xs → SqT K H' a xs
  frz : ∀ a ob u, H a = some (.frz ob u) → H' a = some (.frz ob u)
theorem Nx.refl {K : Frag} {α : List Addr} {H : Hp} : Nx K α H α H := ⟨⟨[], by simp⟩, fun _ _ h => h, fun _ _ _ h => h⟩
theorem Nx.trans {K : Frag} {α α1 α2 : List Addr} {H H1 H2 : Hp} (a : Nx K α H α1 H1) (b : Nx K α1 H1 α2 H2) : Nx K α H α2 H2 := by
  obtain ⟨⟨β, rfl⟩, t, f⟩ := a
  obtain ⟨⟨γ, rfl⟩, u, k⟩ := b
  exact ⟨⟨β ++ γ, by simp⟩, fun a xs h => u a xs (t a xs h), fun a o z h => k a o z (f a o z h)⟩
theorem Nx.get {K : Frag} {α α' : List Addr} {H H' : Hp} (n : Nx K α H α' H') {i : Nat} {a : Addr} (h : α[i]? = some a) : α'[i]? = some a := by
  obtain ⟨⟨β, rfl⟩, _, _⟩ := n
  rw [List.getElem?_append_left (List.getElem?_eq_some_iff.mp h).1]
  exact h
theorem Nx.rol {K : Frag} {α α' : List Addr} {H H' : Hp} (n : Nx K α H α' H') {a : Addr} {xs : List V} (h : SqF K H a xs) : SqF K H' a xs := h.imp (fun ⟨ob, e⟩ => ⟨ob, n.frz _ _ _ e⟩) id
mutual
theorem RV.mono {K : Frag} {α α' : List Addr} {H H' : Hp} (n : Nx K α H α' H') : ∀ {d : D} {v : V}, RV K α H d v → RV K α' H' d v
  | _, _, .non => .non
  | _, _, .bl b => .bl b
  | _, _, .int i => .int i
  | _, _, .str h z => .str h z
  | _, _, .tup h hs => .tup (n.tup _ _ h) (RVs.mono n hs)
  | _, _, .ref h => .ref (n.get h)
  | _, _, .rol h hs => .rol (n.rol h) (RVs.mono n hs)
theorem RVs.mono {K : Frag} {α α' : List Addr} {H H' : Hp} (n : Nx K α H α' H') : ∀ {ds : List D} {vs : List V}, RVs K α H ds vs → RVs K α' H' ds vs
  | _, _, .nil => .nil
  | _, _, .cons h hs => .cons (RV.mono n h) (RVs.mono n hs)
end
section
variable {K : Frag} {α : List Addr} {H : Hp}
theorem RVs.length : ∀ {ds : List D} {vs : List V}, RVs K α H ds vs → ds.length = vs.length
  | _, _, .nil => rfl
  | _, _, .cons _ hs => congrArg (· + 1) hs.length
theorem RVs.get : ∀ {ds : List D} {vs : List V} {i : Nat} {d : D}, RVs K α H ds vs → ds[i]? = some d → ∃ v, vs[i]? = some v ∧ RV K α H d v
  | _, _, 0, d, .cons h _, e => by simp at e; subst e; exact ⟨_, rfl, h⟩
  | _, _, i + 1, d, .cons _ t, e => by
    obtain ⟨v, h1, h2⟩ := RVs.get (i := i) t (by simpa using e)
    exact ⟨v, by simpa using h1, h2⟩
theorem RVs.append : ∀ {ds es : List D} {vs ws : List V}, RVs K α H ds vs → RVs K α H es ws → RVs K α H (ds ++ es) (vs ++ ws)
  | _, _, _, _, .nil, s => s
  | _, _, _, _, .cons h t, s => .cons h (RVs.append t s)
theorem RVs.take : ∀ {ds : List D} {vs : List V} (n : Nat), RVs K α H ds vs → RVs K α H (ds.take n) (vs.take n)
  | _, _, 0, _ => .nil
  | _, _, _ + 1, .nil => .nil
  | _, _, n + 1, .cons h t => .cons h (RVs.take n t)
theorem RVs.drop : ∀ {ds : List D} {vs : List V} (n : Nat), RVs K α H ds vs → RVs K α H (ds.drop n) (vs.drop n)
  | _, _, 0, h => h
  | _, _, _ + 1, .nil => .nil
  | _, _, n + 1, .cons _ t => RVs.drop n t
theorem RVs.set : ∀ {ds : List D} {vs : List V} (i : Nat) {d : D} {v : V}, RVs K α H ds vs → RV K α H d v → RVs K α H (ds.set i d) (vs.set i v)
  | _, _, _, _, _, .nil, _ => .nil
  | _, _, 0, _, _, .cons _ t, r => .cons r t
  | _, _, i + 1, _, _, .cons h t, r => .cons h (RVs.set i t r)
theorem RVs.dropLast {ds : List D} {vs : List V} (h : RVs K α H ds vs) : RVs K α H ds.dropLast vs.dropLast := by
  rw [List.dropLast_eq_take, List.dropLast_eq_take, h.length]
  exact h.take _
theorem RVs.eraseIdx : ∀ {ds : List D} {vs : List V} (i : Nat), RVs K α H ds vs → RVs K α H (ds.eraseIdx i) (vs.eraseIdx i)
  | _, _, _, .nil => .nil
  | _, _, 0, .cons _ t => t
  | _, _, i + 1, .cons h t => .cons h (RVs.eraseIdx i t)
theorem RVs.reverse {ds : List D} {vs : List V} (h : RVs K α H ds vs) : RVs K α H ds.reverse vs.reverse := by
  induction ds generalizing vs with
  | nil => cases h; exact .nil
  | cons d ds ih =>
    cases h with
    | cons h t => simpa using (ih t).append (.cons h .nil)
theorem RVs.of_mem {ds : List D} {vs : List V} (h : RVs K α H ds vs) {d : D} (m : d ∈ ds) : ∃ v ∈ vs, RV K α H d v := by
  obtain ⟨i, hi, e⟩ := List.mem_iff_getElem.mp m
  obtain ⟨v, e1, r⟩ := h.get (i := i) (d := d) (by rw [List.getElem?_eq_getElem hi, e])
  exact ⟨v, List.mem_of_getElem? e1, r⟩
end
def cad (K : Frag) (c : String) : Addr := He.ga K (Str.ofString c)
inductive RK : D → Key → Prop
  | int (i : Int) : RK (.int i) (.inl i)
  | str {s : Txt} : okTxt s → s.length ≤ sizeLine → RK (.str s) (.inr (toS s))
theorem RK.inj {a b : D} {k : Key} (x : RK a k) (y : RK b k) : a = b := by
  cases x with
  | int i => cases y; rfl
  | str h z =>
    rename_i s
    generalize hk : (Sum.inr (toS s) : Key) = k at y
    cases y with
    | int => cases hk
    | str h' z' => rw [toS_inj (Sum.inr.inj hk)]
theorem RK.fn {a : D} {k l : Key} (x : RK a k) (y : RK a l) : k = l := by
  cases x <;> cases y <;> rfl
def RDk (Γ : Gd) (α : List Addr) (H : Hp) (kvs : List (D × D)) (o : HO) : Prop :=
  ∃ kws, o = .dK kws ∧ Paired (fun (p : D × D) (q : Key × V) => RK p.1 q.1 ∧ RV Γ.K α H p.2 q.2) kvs kws
def RDt (Γ : Gd) (α : List Addr) (H : Hp) (a : Addr) (kvs : List (D × D)) (o : HO) : Prop := False
def RD (Γ : Gd) (α : List Addr) (H : Hp) (a : Addr) : Bool → List (D × D) → HO → Prop
  | false, kvs, o => RDk Γ α H kvs o
  | true, kvs, o => RDt Γ α H a kvs o
def RF (K : Frag) (α : List Addr) (H : Hp) : List (String × D) → List (Str × V) → Prop := Paired fun p q => Str.ofString p.1 = q.1 ∧ RV K α H p.2 q.2
def RO (Γ : Gd) (α : List Addr) (H : Hp) (a : Addr) : Ob → Prop
  | .lst ds => ∃ xs, H a = some (.lst xs) ∧ RVs Γ.K α H ds xs
  | .frz ds => ∃ ob xs, H a = some (.frz ob (.lst xs)) ∧ RVs Γ.K α H ds xs
  | .dic t kvs => ∃ o, H a = some o ∧ RD Γ α H a t kvs o
  | .lok t kvs => ∃ ob o, H a = some (.frz ob o) ∧ RD Γ α H a t kvs o
  | .set ds => False
  | .ins c fs => ∃ dx gs, H a = some (.ins (cad Γ.K c) dx gs) ∧ RF Γ.K α H fs gs
theorem Paired.imp {α β : Type} {F G : α → β → Prop} (f : ∀ a b, F a b → G a b) : ∀ {l₁ : List α} {l₂ : List β}, Paired F l₁ l₂ → Paired G l₁ l₂
  | _, _, .nil => .nil
  | _, _, .cons r t => .cons (f _ _ r) (Paired.imp f t)
theorem RD.mono {Γ : Gd} {α α' : List Addr} {H H' : Hp} (n : Nx Γ.K α H α' H') {a : Addr} : ∀ {t : Bool} {kvs : List (D × D)} {o : HO}, RD Γ α H a t kvs o → RD Γ α' H' a t kvs o
  | false, _, _, h => by
    obtain ⟨kws, e, p⟩ := h
    exact ⟨kws, e, Paired.imp (fun _ _ z => ⟨z.1, z.2.mono n⟩) p⟩
  | true, _, _, h => h.elim
theorem RF.mono {K : Frag} {α α' : List Addr} {H H' : Hp} (n : Nx K α H α' H') {fs : List (String × D)} {gs : List (Str × V)} (h : RF K α H fs gs) : RF K α' H' fs gs := Paired.imp (fun _ _ z => ⟨z.1, z.2.mono n⟩) h
theorem RO.there {Γ : Gd} {α : List Addr} {H : Hp} {a : Addr} {o : Ob} (h : RO Γ α H a o) : ∃ u, H a = some u := by
  cases o with
  | lst ds => obtain ⟨xs, e, _⟩ := h; exact ⟨_, e⟩
  | frz ds => obtain ⟨_, xs, e, _⟩ := h; exact ⟨_, e⟩
  | dic t kvs => obtain ⟨_, e, _⟩ := h; exact ⟨_, e⟩
  | lok t kvs => obtain ⟨_, _, e, _⟩ := h; exact ⟨_, e⟩
  | set ds => exact h.elim
  | ins c fs => obtain ⟨_, _, e, _⟩ := h; exact ⟨_, e⟩
theorem RO.mono {Γ : Gd} {α α' : List Addr} {H H' : Hp} {a : Addr} {o : Ob} (n : Nx Γ.K α H α' H') (e : H' a = H a) (h : RO Γ α H a o) : RO Γ α' H' a o := by
  cases o with
  | lst ds => obtain ⟨xs, q, r⟩ := h; exact ⟨xs, e.trans q, r.mono n⟩
  | frz ds => obtain ⟨ob, xs, q, r⟩ := h; exact ⟨ob, xs, e.trans q, r.mono n⟩
  | dic t kvs => obtain ⟨o, q, r⟩ := h; exact ⟨o, e.trans q, r.mono n⟩
  | lok t kvs => obtain ⟨ob, o, q, r⟩ := h; exact ⟨ob, o, e.trans q, r.mono n⟩
  | set ds => exact h.elim
  | ins c fs => obtain ⟨dx, gs, q, r⟩ := h; exact ⟨dx, gs, e.trans q, r.mono n⟩
structure RH (Γ : Gd) (α : List Addr) (M : List Ob) (H : Hp) : Prop where
  len : α.length = M.length
  nd : α.Nodup
  ob : ∀ (i : Nat) (o : Ob) (a : Addr), M[i]? = some o → α[i]? = some a → RO Γ α H a o
section
variable {Γ : Gd} {α : List Addr} {M : List Ob} {H H' : Hp}
theorem RH.at (h : RH Γ α M H) {i : Nat} {o : Ob} (e : M[i]? = some o) : ∃ a, α[i]? = some a ∧ RO Γ α H a o := by
  have hi : i < α.length := by rw [h.len]; exact (List.getElem?_eq_some_iff.mp e).1
  exact ⟨α[i], by simp [hi], h.ob i o _ e (by simp [hi])⟩
theorem RH.there (h : RH Γ α M H) {i : Nat} {a : Addr} (e : α[i]? = some a) : ∃ u, H a = some u := by
  have hi : i < M.length := by rw [← h.len]; exact (List.getElem?_eq_some_iff.mp e).1
  exact (h.ob i M[i] a (by simp [hi]) e).there
theorem RH.fresh (h : RH Γ α M H) {p : Addr} (n : H p = none) : p ∉ α := fun m => by
  obtain ⟨i, hi, e⟩ := List.mem_iff_getElem.mp m
  obtain ⟨u, q⟩ := h.there (i := i) (a := p) (by rw [List.getElem?_eq_getElem hi, e])
  rw [n] at q; cases q
theorem SqT.upd {a p : Addr} {xs : List V} {o : HO} (h : SqT Γ.K H a xs) (n : ∀ u, H p = some u → (∀ ys, u ≠ .tup ys) ∧ ∀ ob ys, u ≠ .frz ob (.tup ys)) : SqT Γ.K (upd H p o) a xs := by
  rcases h with (h | ⟨ob, h⟩) | h
  · exact .inl (.inl (by rw [upd_ne]; exact h; rintro rfl; exact (n _ h).1 _ rfl))
  · exact .inl (.inr ⟨ob, by rw [upd_ne]; exact h; rintro rfl; exact (n _ h).2 _ _ rfl⟩)
  · exact .inr h
theorem nx_fresh {p : Addr} {o : HO} (n : H p = none) : Nx Γ.K α H α (upd H p o) := ⟨⟨[], by simp⟩, fun a xs h => SqT.upd h fun u e => by (rw [n] at e; cases e), fun a ob u h => by
  rw [upd_ne]; exact h; rintro rfl; rw [n] at h; cases h⟩
theorem nx_new {p : Addr} {o : HO} (n : H p = none) : Nx Γ.K α H (α ++ [p]) (upd H p o) := ⟨⟨[p], rfl⟩, fun a xs h => SqT.upd h fun u e => by (rw [n] at e; cases e), fun a ob u h => by
  rw [upd_ne]; exact h; rintro rfl; rw [n] at h; cases h⟩
theorem RH.move (h : RH Γ α M H) (n : Nx Γ.K α H α H') (e : ∀ a ∈ α, H' a = H a) : RH Γ α M H' :=
  ⟨h.len, h.nd, fun i o a e1 e2 => (h.ob i o a e1 e2).mono n (e a (List.mem_of_getElem? e2))⟩
theorem RH.tup {p : Addr} {xs : List V} (h : RH Γ α M H) (n : H p = none) : RH Γ α M (upd H p (.tup xs)) :=
  h.move (nx_fresh n) fun a m => upd_ne fun e => h.fresh n (e ▸ m)
theorem RH.new {p : Addr} {o : Ob} {u : HO} (h : RH Γ α M H) (n : H p = none) (r : RO Γ (α ++ [p]) (upd H p u) p o) : RH Γ (α ++ [p]) (M ++ [o]) (upd H p u) := by
  have hf := h.fresh n
  refine ⟨by simp [h.len], ?_, fun i o' a e1 e2 => ?_⟩
  · rw [List.nodup_append]
    exact ⟨h.nd, by simp, fun a m b mb => by
      rw [List.mem_singleton] at mb
      rintro rfl
      exact hf (mb ▸ m)⟩
  · by_cases hi : i < M.length
    · rw [List.getElem?_append_left hi] at e1
      rw [List.getElem?_append_left (by rw [h.len]; exact hi)] at e2
      exact (h.ob i o' a e1 e2).mono (nx_new n) (upd_ne fun e => hf (e ▸ List.mem_of_getElem? e2))
    · have hi2 : i = M.length := by
        have := (List.getElem?_eq_some_iff.mp e1).1
        simp at this; omega
      subst hi2
      rw [List.getElem?_append_right (Nat.le_refl _)] at e1
      rw [← h.len, List.getElem?_append_right (Nat.le_refl _)] at e2
      simp at e1 e2
      rw [← e1, ← e2]; exact r
theorem RH.put {i : Nat} {a : Addr} {o : Ob} {u : HO} (h : RH Γ α M H) (e : α[i]? = some a) (n : Nx Γ.K α H α (upd H a u)) (r : RO Γ α (upd H a u) a o) : RH Γ α (M.set i o) (upd H a u) := by
  refine ⟨by simp [h.len], h.nd, fun j o' b e1 e2 => ?_⟩
  by_cases hj : j = i
  · subst hj
    rw [e] at e2; cases e2
    have hl : j < M.length := by rw [← h.len]; exact (List.getElem?_eq_some_iff.mp e).1
    rw [List.getElem?_set_self hl] at e1
    cases e1
    exact r
  · rw [List.getElem?_set_ne (Ne.symm hj)] at e1
    refine (h.ob j o' b e1 e2).mono n (upd_ne ?_)
    rintro rfl
    exact hj (nodup_ix' h.nd e2 e)
where
  nodup_ix' {N : List Addr} (hN : N.Nodup) {i j : Nat} {x : Addr} (a : N[i]? = Option.some x) (b : N[j]? = Option.some x) : i = j := by
    obtain ⟨h1, e1⟩ := List.getElem?_eq_some_iff.mp a
    obtain ⟨h2, e2⟩ := List.getElem?_eq_some_iff.mp b
    exact (List.getElem_inj hN).mp (e1.trans e2.symm)
theorem nx_put {a : Addr} {u w : HO} (e : H a = some w) (h : (∀ ys, w ≠ .tup ys) ∧ ∀ ob ys, w ≠ .frz ob ys) : Nx Γ.K α H α (upd H a u) :=
  ⟨⟨[], by simp⟩, fun b xs q => SqT.upd q fun v z => by (rw [e] at z; cases z; exact ⟨h.1, fun ob ys => h.2 ob _⟩), fun b ob z q => by
    rw [upd_ne]; exact q; rintro rfl; rw [e] at q; cases q; exact (h.2 _ _ rfl).elim⟩
end
def RX (K : Frag) (α : List Addr) (H : Hp) (e : Ex) (cls : Value) (d : Option Addr) : Prop :=
  cls = .ref (cad K e.cls) ∧ ((e.fs = [] ∧ d = none) ∨ ∃ dx gs, d = some dx ∧ H dx = some (.xd gs) ∧ RF K α H e.fs gs)
abbrev XW := Value → Option Addr → Hp → Prop
def Ho {A B : Type} (Γ : Gd) (W : XW) (R : List Addr → Hp → A → B → Prop) (r : Res A) (α : List Addr) (H : Hp) (Q : B → Hp → Prop) : Prop :=
  match r with
  | .ok a M' => ∀ α' b H', Nx Γ.K α H α' H' → RH Γ α' M' H' → R α' H' a b → Q b H'
  | .ex e M' => ∀ α' cls d H', Nx Γ.K α H α' H' → RH Γ α' M' H' → RX Γ.K α' H' e cls d → W cls d H'
  | .no => False
theorem Ho.nx {A B : Type} {Γ : Gd} {W : XW} {R : List Addr → Hp → A → B → Prop} {r : Res A} {α α1 : List Addr} {H H1 : Hp} {Q : B → Hp → Prop} (n : Nx Γ.K α H α1 H1) (h : Ho Γ W R r α H Q) : Ho Γ W R r α1 H1 Q := by
  cases r with
  | ok a M' => exact fun α' b H' n' => h α' b H' (n.trans n')
  | ex e M' => exact fun α' c d H' n' => h α' c d H' (n.trans n')
  | no => exact h
end Sb
end
section
set_option Elab.async false
set_option linter.all false
set_option maxRecDepth 100000
set_option maxHeartbeats 2000000
namespace Sb
open PySem PySem.Spec PyProof.Rows L2
theorem lim_eq : lim = sizeLine := by rw [sizeLine_eq]; rfl
section
variable {Γ : Gd} {A B C : Type} {W : XW} {α : List Addr} {H : Hp}
@[simp] theorem CM.pure_run {A : Type} (a : A) (M : List Ob) : (pure a : CM A) M = .ok a M := rfl
theorem CM.bind_run {A B : Type} (m : CM A) (f : A → CM B) (M : List Ob) : (m >>= f) M = match m M with
  | .ok a M' => f a M'
  | .ex e M' => .ex e M'
  | .no => .no := rfl
theorem Ho.pure {R : List Addr → Hp → A → B → Prop} {a : A} {b : B} {M : List Ob} {Q : B → Hp → Prop} (rh : RH Γ α M H) (h : Ho Γ W R ((Pure.pure a : CM A) M) α H Q) (r : R α H a b) : Q b H := h α b H .refl rh r
theorem Ho.ok {R : List Addr → Hp → A → B → Prop} {a : A} {b : B} {M' : List Ob} {α' : List Addr} {H' : Hp} {Q : B → Hp → Prop} (h : Ho Γ W R (.ok a M') α H Q) (n : Nx Γ.K α H α' H') (rh : RH Γ α' M' H') (r : R α' H' a b) : Q b H' := h α' b H' n rh r
theorem Ho.bind {A' : Type} {R : List Addr → Hp → A → A' → Prop} {R' : List Addr → Hp → B → C → Prop} {m : CM A} {f : A → CM B} {M : List Ob} {Q : C → Hp → Prop} (h : Ho Γ W R' ((m >>= f) M) α H Q) :
    Ho Γ W R (m M) α H (fun b H1 => ∃ a M1 α1, Nx Γ.K α H α1 H1 ∧ RH Γ α1 M1 H1 ∧ R α1 H1 a b ∧ Ho Γ W R' (f a M1) α1 H1 Q) := by
  rw [CM.bind_run] at h
  cases e : m M with
  | ok a M' =>
    rw [e] at h
    exact fun α' b H' n rh r => ⟨a, M', α', n, rh, r, Ho.nx n h⟩
  | ex x M' =>
    rw [e] at h
    exact h
  | no =>
    rw [e] at h
    exact h.elim
theorem Ho.bind0 {R' : List Addr → Hp → B → C → Prop} {m : CM A} {f : A → CM B} {M : List Ob} {Q : C → Hp → Prop} {a : A} {M1 : List Ob} (e : m M = .ok a M1) (h : Ho Γ W R' ((m >>= f) M) α H Q) : Ho Γ W R' (f a M1) α H Q := by
  rw [CM.bind_run, e] at h
  exact h
theorem ask_run {p : Bool} {f : Unit → CM A} {R : List Addr → Hp → A → B → Prop} {M : List Ob} {Q : B → Hp → Prop} (h : Ho Γ W R ((CM.ask p >>= f) M) α H Q) : p = true ∧ Ho Γ W R (f () M) α H Q := by
  rw [CM.bind_run] at h
  unfold CM.ask at h
  by_cases hp : p = true
  · rw [if_pos hp] at h; exact ⟨hp, h⟩
  · rw [if_neg hp] at h; exact h.elim
theorem ask_runD {p : Prop} [Decidable p] {f : Unit → CM A} {R : List Addr → Hp → A → B → Prop} {M : List Ob} {Q : B → Hp → Prop} (h : Ho Γ W R ((CM.ask (decide p) >>= f) M) α H Q) : p ∧ Ho Γ W R (f () M) α H Q := by
  obtain ⟨h1, h2⟩ := ask_run h
  exact ⟨of_decide_eq_true h1, h2⟩
theorem opt_run {o : Option A} {R : List Addr → Hp → A → B → Prop} {M : List Ob} {Q : B → Hp → Prop} (h : Ho Γ W R (CM.opt o M) α H Q) : ∃ a, o = some a ∧ Ho Γ W R (.ok a M) α H Q := by
  cases o with
  | none => exact h.elim
  | some a => exact ⟨a, rfl, h⟩
theorem opt_bind {o : Option A} {f : A → CM B} {R : List Addr → Hp → B → C → Prop} {M : List Ob} {Q : C → Hp → Prop} (h : Ho Γ W R ((CM.opt o >>= f) M) α H Q) : ∃ a, o = some a ∧ Ho Γ W R (f a M) α H Q := by
  cases o with
  | none => exact h.elim
  | some a => exact ⟨a, rfl, h⟩
theorem fail_run {R : List Addr → Hp → A → B → Prop} {M : List Ob} {Q : B → Hp → Prop} (h : Ho Γ W R ((CM.fail : CM A) M) α H Q) : False := h
theorem get_bind {i : Nat} {f : Ob → CM A} {R : List Addr → Hp → A → B → Prop} {M : List Ob} {Q : B → Hp → Prop} (h : Ho Γ W R ((CM.get i >>= f) M) α H Q) : ∃ o, M[i]? = some o ∧ Ho Γ W R (f o M) α H Q := by
  rw [CM.bind_run] at h
  unfold CM.get at h
  cases e : M[i]? with
  | none => rw [e] at h; exact h.elim
  | some o => rw [e] at h; exact ⟨o, rfl, h⟩
theorem items_bind {i : Nat} {f : List D → CM A} {R : List Addr → Hp → A → B → Prop} {M : List Ob} {Q : B → Hp → Prop} (h : Ho Γ W R ((items i >>= f) M) α H Q) : ∃ ds, (M[i]? = some (.lst ds) ∨ M[i]? = some (.frz ds)) ∧ Ho Γ W R (f ds M) α H Q := by
  unfold items at h
  rw [CM.bind_run, CM.bind_run] at h
  unfold CM.get at h
  cases e : M[i]? with
  | none => rw [e] at h; exact h.elim
  | some o =>
    rw [e] at h
    cases o with
    | lst ds => exact ⟨ds, .inl rfl, h⟩
    | frz ds => exact ⟨ds, .inr rfl, h⟩
    | _ => exact h.elim
theorem lstIt_bind {i : Nat} {f : List D → CM A} {R : List Addr → Hp → A → B → Prop} {M : List Ob} {Q : B → Hp → Prop} (h : Ho Γ W R ((lstIt i >>= f) M) α H Q) : ∃ ds, M[i]? = some (.lst ds) ∧ Ho Γ W R (f ds M) α H Q := by
  unfold lstIt at h
  rw [CM.bind_run, CM.bind_run] at h
  unfold CM.get at h
  cases e : M[i]? with
  | none => rw [e] at h; exact h.elim
  | some o =>
    rw [e] at h
    cases o with
    | lst ds => exact ⟨ds, rfl, h⟩
    | _ => exact h.elim
theorem put_bind {i : Nat} {o : Ob} {f : Unit → CM A} {R : List Addr → Hp → A → B → Prop} {M : List Ob} {Q : B → Hp → Prop} (h : Ho Γ W R ((CM.put i o >>= f) M) α H Q) : i < M.length ∧ Ho Γ W R (f () (M.set i o)) α H Q := by
  rw [CM.bind_run] at h
  unfold CM.put at h
  by_cases hp : i < M.length
  · rw [if_pos hp] at h; exact ⟨hp, h⟩
  · rw [if_neg hp] at h; exact h.elim
theorem tree2_bind {x y : D} {f : T × T → CM A} {R : List Addr → Hp → A → B → Prop} {M : List Ob} {Q : B → Hp → Prop} (h : Ho Γ W R ((tree2 x y >>= f) M) α H Q) : ∃ a b, tree M x = some a ∧ tree M y = some b ∧ T.dep a ≤ 64 ∧ T.dep b ≤ 64 ∧ Ho Γ W R (f (a, b) M) α H Q := by
  rw [CM.bind_run] at h
  unfold tree2 at h
  cases e1 : tree M x with
  | none => rw [e1] at h; exact h.elim
  | some a =>
    cases e2 : tree M y with
    | none => rw [e1, e2] at h; exact h.elim
    | some b =>
      rw [e1, e2] at h
      dsimp only at h
      by_cases hd : T.dep a ≤ 64 ∧ T.dep b ≤ 64
      · rw [if_pos hd] at h; exact ⟨a, b, rfl, rfl, hd.1, hd.2, h⟩
      · rw [if_neg hd] at h; exact h.elim
end
def rB (Γ : Gd) (W : XW) (op : D → D → CM D) : R2 := fun v u H Q => ∃ α M x y, RH Γ α M H ∧ RV Γ.K α H x v ∧ RV Γ.K α H y u ∧ Ho Γ W (RV Γ.K) (op x y M) α H Q
def RB {Γ : Gd} (_α : List Addr) (_H : Hp) (b : Bool) (v : V) : Prop := v = .bl b
def rC (Γ : Gd) (W : XW) (op : D → D → CM Bool) : R2 := fun v u H Q => ∃ α M x y, RH Γ α M H ∧ RV Γ.K α H x v ∧ RV Γ.K α H y u ∧ Ho Γ W (fun _ _ b v => v = V.bl b) (op x y M) α H Q
section
variable {Γ : Gd} {α : List Addr} {M : List Ob} {H : Hp} {W : XW}
theorem RV.lst (rh : RH Γ α M H) {i : Nat} {v : V} {ds : List D} (r : RV Γ.K α H (.ref i) v) (e : M[i]? = some (.lst ds)) : ∃ a xs, v = .ref a ∧ α[i]? = some a ∧ H a = some (.lst xs) ∧ RVs Γ.K α H ds xs := by
  cases r with
  | ref h =>
    obtain ⟨xs, h1, h2⟩ := rh.ob i _ _ e h
    exact ⟨_, xs, rfl, h, h1, h2⟩
theorem RV.frz (rh : RH Γ α M H) {i : Nat} {v : V} {ds : List D} (r : RV Γ.K α H (.ref i) v) (e : M[i]? = some (.frz ds)) : ∃ a xs, v = .ref a ∧ α[i]? = some a ∧ SqL Γ.K H a xs ∧ RVs Γ.K α H ds xs := by
  cases r with
  | ref h =>
    obtain ⟨ob, xs, h1, h2⟩ := rh.ob i _ _ e h
    exact ⟨_, xs, rfl, h, .inl (.inr ⟨ob, h1⟩), h2⟩
theorem RV.seq (rh : RH Γ α M H) {i : Nat} {v : V} {ds : List D} (r : RV Γ.K α H (.ref i) v) (e : M[i]? = some (.lst ds) ∨ M[i]? = some (.frz ds)) : ∃ a xs, v = .ref a ∧ α[i]? = some a ∧ SqL Γ.K H a xs ∧ RVs Γ.K α H ds xs := by
  rcases e with e | e
  · obtain ⟨a, xs, h1, h2, h3, h4⟩ := RV.lst rh r e
    exact ⟨a, xs, h1, h2, SqL.of h3, h4⟩
  · exact RV.frz rh r e
theorem Ho.newLst {ds : List D} {xs : List V} {p : Addr} {Q : V → Hp → Prop} (rh : RH Γ α M H) (h : Ho Γ W (RV Γ.K) (CM.new (.lst ds) M) α H Q) (r : RVs Γ.K α H ds xs) (n : H p = none) : Q (.ref p) (upd H p (.lst xs)) := by
  refine Ho.ok (α' := α ++ [p]) h (nx_new n) (rh.new n ⟨xs, upd_same, r.mono (nx_new n)⟩) ?_
  exact .ref (by rw [← rh.len, List.getElem?_append_right (Nat.le_refl _)]; simp)
theorem okTxt.app {a b : Txt} (ha : okTxt a) (hb : okTxt b) : okTxt (a ++ b) := fun c m => (List.mem_append.mp m).elim (ha c) (hb c)
theorem toS_app (a b : Txt) : toS a ++ toS b = toS (a ++ b) := by
  show (⟨(toS a).cps ++ (toS b).cps⟩ : Str) = _
  simp [toS]
theorem toS_len (s : Txt) : (toS s).length = s.length := by
  show (toS s).cps.size = _
  simp [toS]
end
section
variable {X : Cx} {W : XW}
theorem mulOk {i j : Int} (h : (-pow64 < i ∧ i < pow64) ∨ (-pow64 < j ∧ j < pow64)) : CMul i j := by
  have e : pow64 = 2 ^ 64 := by decide
  rw [e] at h
  exact h
theorem op_bop_add : OpR X (binaryOp .Add) (rB X.gd W (bop .add)) := by
  rintro pins s σ H v u ov ou Q I rv ru ⟨α, M, x, y, rh, rx, ry, h⟩
  cases rx with
  | int i =>
    cases ry with
    | int j => exact op_add pins s σ H _ _ ov ou Q I rv ru ⟨i, j, rfl, rfl, Ho.pure rh h (.int _)⟩
    | _ => exact h.elim
  | str ha za =>
    cases ry with
    | str hb zb =>
      obtain ⟨hl, h⟩ := ask_runD h
      rw [lim_eq] at hl
      refine op_add_str pins s σ H _ _ ov ou Q I rv ru ⟨_, _, rfl, rfl, by rw [toS_len, toS_len]; exact hl, ?_⟩
      rw [toS_app]
      exact Ho.pure rh h (.str (ha.app hb) (by rw [List.length_append]; exact hl))
    | _ => exact h.elim
  | tup ha as =>
    cases ry with
    | tup hb bs =>
      obtain ⟨hl, h⟩ := ask_runD h
      rw [lim_eq, as.length, bs.length] at hl
      refine op_catA pins s σ H _ _ ov ou Q I rv ru ⟨_, _, _, _, rfl, rfl, ha, hb, hl, fun e => ?_, fun e1 e => ?_, fun e1 e2 p n => ?_⟩
      · subst e; cases as; exact Ho.pure rh h (.tup hb bs)
      · subst e; cases bs; rw [List.append_nil] at h; exact Ho.pure rh h (.tup ha as)
      · exact Ho.ok (α' := α) h (nx_fresh n) (rh.tup n) (.tup (.inl (.inl upd_same)) ((as.append bs).mono (nx_fresh n)))
    | _ => exact h.elim
  | ref ha =>
    cases ry with
    | ref hb =>
      obtain ⟨xs, ex, h⟩ := lstIt_bind h
      obtain ⟨ys, ey, h⟩ := lstIt_bind h
      obtain ⟨hl, h⟩ := ask_runD h
      obtain ⟨xa, h1, r1⟩ := rh.ob _ _ _ ex ha
      obtain ⟨xb, h2, r2⟩ := rh.ob _ _ _ ey hb
      rw [lim_eq, r1.length, r2.length] at hl
      exact op_cat pins s σ H _ _ ov ou Q I rv ru ⟨_, _, _, _, rfl, rfl, h1, h2, hl, fun p n => Ho.newLst rh h (r1.append r2) n⟩
    | _ => exact h.elim
  | non => cases ry <;> exact h.elim
  | bl b => cases ry <;> exact h.elim
  | rol _ _ => cases ry <;> exact h.elim
theorem op_bop_sub : OpR X (binaryOp .Sub) (rB X.gd W (bop .sub)) := by
  rintro pins s σ H v u ov ou Q I rv ru ⟨α, M, x, y, rh, rx, ry, h⟩
  cases rx with
  | int i =>
    cases ry with
    | int j => exact op_sub pins s σ H _ _ ov ou Q I rv ru ⟨i, j, rfl, rfl, Ho.pure rh h (.int _)⟩
    | _ => exact h.elim
  | _ => cases ry <;> exact h.elim
theorem op_bop_fdiv : OpR X (binaryOp .FloorDiv) (rB X.gd W (bop .fdiv)) := by
  rintro pins s σ H v u ov ou Q I rv ru ⟨α, M, x, y, rh, rx, ry, h⟩
  cases rx with
  | int i =>
    cases ry with
    | int j =>
      obtain ⟨hl, h⟩ := ask_runD h
      exact op_fdiv pins s σ H _ _ ov ou Q I rv ru ⟨i, j, rfl, rfl, hl, Ho.pure rh h (.int _)⟩
    | _ => exact h.elim
  | _ => cases ry <;> exact h.elim
theorem op_bop_mod : OpR X (binaryOp .Mod) (rB X.gd W (bop .mod)) := by
  rintro pins s σ H v u ov ou Q I rv ru ⟨α, M, x, y, rh, rx, ry, h⟩
  cases rx with
  | int i =>
    cases ry with
    | int j =>
      obtain ⟨hl, h⟩ := ask_runD h
      exact op_mod pins s σ H _ _ ov ou Q I rv ru ⟨i, j, rfl, rfl, hl, Ho.pure rh h (.int _)⟩
    | _ => exact h.elim
  | _ => cases ry <;> exact h.elim
theorem op_bop_pow : OpR X (binaryOp .Pow) (rB X.gd W (bop .pow)) := by
  rintro pins s σ H v u ov ou Q I rv ru ⟨α, M, x, y, rh, rx, ry, h⟩
  cases rx with
  | int i =>
    cases ry with
    | int j =>
      obtain ⟨hl, h⟩ := ask_runD h
      exact op_pow pins s σ H _ _ ov ou Q I rv ru ⟨i, j, rfl, rfl, ⟨hl.1, hl.2.1, Nat.lt_of_lt_of_le hl.2.2 (by decide)⟩, Ho.pure rh h (.int _)⟩
    | _ => exact h.elim
  | _ => cases ry <;> exact h.elim
end
end Sb
end
section
set_option Elab.async false
set_option linter.all false
set_option maxRecDepth 100000
set_option maxHeartbeats 2000000
namespace Sb
open PySem PySem.Spec PyProof.Rows L2
mutual
def T.pd : T → PyData
  | .non => .none
  | .bl b => .bool b
  | .int i => .int i
  | .str s => .str (toS s)
  | .tup ts => .tuple (T.pds ts)
  | .lst ts => .list (T.pds ts)
def T.pds : List T → List PyData
  | [] => []
  | t :: ts => T.pd t :: T.pds ts
end
mutual
theorem T.dep_pd : ∀ t : T, t.pd.depth = T.dep t
  | .non => by simp [T.pd, T.dep, PyData.depth]
  | .bl _ => by simp [T.pd, T.dep, PyData.depth]
  | .int _ => by simp [T.pd, T.dep, PyData.depth]
  | .str _ => by simp [T.pd, T.dep, PyData.depth]
  | .tup ts => by simp [T.pd, T.dep, PyData.depth, T.deps_pd ts]
  | .lst ts => by simp [T.pd, T.dep, PyData.depth, T.deps_pd ts]
theorem T.deps_pd : ∀ ts : List T, PyData.depthAll (T.pds ts) = T.deps ts
  | [] => by simp [T.pds, T.deps, PyData.depthAll]
  | t :: ts => by simp [T.pds, T.deps, PyData.depthAll, T.dep_pd t, T.deps_pd ts]
end
theorem toS_beq (a b : Txt) : (toS a == toS b) = decide (a = b) := by
  by_cases h : a = b
  · subst h; simp
  · rw [decide_eq_false h]
    exact beq_eq_false_iff_ne.mpr fun e => h (toS_inj e)
mutual
theorem T.eqv_pd : ∀ a b : T, PyData.eqv a.pd b.pd = T.eqv a b
  | .non, b => by cases b <;> simp [T.pd, T.eqv, PyData.eqv]
  | .bl _, b => by cases b <;> simp [T.pd, T.eqv, PyData.eqv] <;> rfl
  | .int _, b => by cases b <;> simp [T.pd, T.eqv, PyData.eqv] <;> rfl
  | .str _, b => by cases b <;> simp [T.pd, T.eqv, PyData.eqv, toS_beq]
  | .tup ts, b => by cases b <;> simp [T.pd, T.eqv, PyData.eqv, T.eqvs_pd ts]
  | .lst ts, b => by cases b <;> simp [T.pd, T.eqv, PyData.eqv, T.eqvs_pd ts]
theorem T.eqvs_pd : ∀ a b : List T, PyData.eqvAll (T.pds a) (T.pds b) = T.eqvs a b
  | [], b => by cases b <;> simp [T.pds, T.eqvs, PyData.eqvAll]
  | t :: ts, b => by cases b <;> simp [T.pds, T.eqvs, PyData.eqvAll, T.eqv_pd t, T.eqvs_pd ts]
end
mutual
theorem T.alike_pd : ∀ a b : T, T.alike a b = true → PySem.W.alike a.pd b.pd = true
  | .non, b, h => by cases b <;> simp [T.alike] at h
  | .bl _, b, h => by cases b <;> simp [T.alike] at h
  | .int _, b, h => by cases b <;> simp [T.alike] at h <;> simp [T.pd, PySem.W.alike]
  | .str _, b, h => by cases b <;> simp [T.alike] at h <;> simp [T.pd, PySem.W.alike]
  | .tup ts, b, h => by
    cases b with
    | tup us => simp only [T.pd, PySem.W.alike]; exact T.alikes_pd ts us (by simpa [T.alike] using h)
    | _ => simp [T.alike] at h
  | .lst ts, b, h => by
    cases b with
    | lst us => simp only [T.pd, PySem.W.alike]; exact T.alikes_pd ts us (by simpa [T.alike] using h)
    | _ => simp [T.alike] at h
theorem T.alikes_pd : ∀ a b : List T, T.alikes a b = true → PySem.W.alikeAll (T.pds a) (T.pds b) = true
  | [], b, _ => by simp [T.pds, PySem.W.alikeAll]
  | t :: ts, [], _ => by simp [T.pds, PySem.W.alikeAll]
  | t :: ts, u :: us, h => by
    simp only [T.alikes, Bool.and_eq_true] at h
    simp only [T.pds, PySem.W.alikeAll, Bool.and_eq_true]
    exact ⟨T.alike_pd t u h.1, T.alikes_pd ts us h.2⟩
end
theorem ltxt_eq : ∀ a b : Txt, decide (a < b) = ltxt a b
  | [], [] => by simp [ltxt]
  | [], _ :: _ => by simp [ltxt]
  | _ :: _, [] => by simp [ltxt]
  | a :: as, b :: bs => by
    simp only [ltxt]
    by_cases h : a = b
    · subst h; rw [if_pos rfl, ← ltxt_eq as bs]; simp
    · rw [if_neg h]
      congr 1
      rw [List.cons_lt_cons_iff]
      simp [h]
mutual
theorem T.lt_pd : ∀ a b : T, T.alike a b = true → PySem.W.dataLt a.pd b.pd = T.lt a b
  | .non, b, h => by cases b <;> simp [T.alike] at h
  | .bl _, b, h => by cases b <;> simp [T.alike] at h
  | .int i, b, h => by
    cases b with
    | int j => simp only [T.pd, T.lt]; exact PySem.W.dataLt_int i j
    | _ => simp [T.alike] at h
  | .str i, b, h => by
    cases b with
    | str j => simp only [T.pd, T.lt]; rw [PySem.W.dataLt_str, toS_cps, toS_cps]; exact ltxt_eq i j
    | _ => simp [T.alike] at h
  | .tup ts, b, h => by
    cases b with
    | tup us => simp only [T.pd, T.lt]; rw [PySem.W.dataLt_tuple]; exact T.lts_pd ts us (by simpa [T.alike] using h)
    | _ => simp [T.alike] at h
  | .lst ts, b, h => by
    cases b with
    | lst us => simp only [T.pd, T.lt]; rw [PySem.W.dataLt_list]; exact T.lts_pd ts us (by simpa [T.alike] using h)
    | _ => simp [T.alike] at h
theorem T.lts_pd : ∀ a b : List T, T.alikes a b = true → PyProof.Rows.lexLt itemOrd (PySem.W.keyToksAll (T.pds a)) (PySem.W.keyToksAll (T.pds b)) = T.lts a b
  | [], [], _ => by simp only [T.pds, T.lts]; exact PyProof.Rows.lex_irrefl _
  | [], u :: us, _ => by
    simp only [T.pds, T.lts, PySem.W.keyToksAll]
    rw [lex_diff (O := itemOrd) (by simp)]
    simp [itemOrd, itemLt]
  | t :: ts, [], _ => by
    simp only [T.pds, T.lts, PySem.W.keyToksAll]
    rw [lex_diff (O := itemOrd) (by simp)]
    simp [itemOrd, itemLt]
  | t :: ts, u :: us, h => by
    simp only [T.alikes, Bool.and_eq_true] at h
    have ha := T.alike_pd t u h.1
    simp only [T.pds, T.lts]
    cases e : T.eqv t u with
    | true =>
      rw [if_pos rfl, PySem.W.dataLt_all_yes ha (by rw [T.eqv_pd, e])]
      exact T.lts_pd ts us h.2
    | false =>
      rw [if_neg (by simp), PySem.W.dataLt_all_no ha (by rw [T.eqv_pd, e])]
      exact T.lt_pd t u h.1
end
theorem strOk_toS {s : Txt} (h : okTxt s) : PyData.strOk (toS s) = true := by
  unfold PyData.strOk
  rw [Array.all_eq_true']
  intro c m
  have : c ∈ s := by simpa [toS] using m
  simpa using h c this
section
variable {Γ : Gd} {α : List Addr} {M : List Ob} {H : Hp}
mutual
theorem re_dp (dr : Nat → Option T) (hd : ∀ (i : Nat) (a : Addr) (t : T), α[i]? = some a → dr i = some t → Dp Γ.K H (.ref a) t.pd ∧ t.pd.canLay0 = true) : ∀ (x : D) (v : V) (t : T), RV Γ.K α H x v → D.re dr x = some t → Dp Γ.K H v t.pd ∧ t.pd.canLay0 = true
  | .non, v, t, r, e => by cases r; simp [D.re] at e; subst e; exact ⟨.non, by simp [T.pd, PyData.canLay0]⟩
  | .bl b, v, t, r, e => by cases r; simp [D.re] at e; subst e; exact ⟨.bl b, by simp [T.pd, PyData.canLay0]⟩
  | .int i, v, t, r, e => by cases r; simp [D.re] at e; subst e; exact ⟨.int i, by simp [T.pd, PyData.canLay0]⟩
  | .str s, v, t, r, e => by
    cases r with
    | str h z => simp [D.re] at e; subst e; exact ⟨.str _, by simp only [T.pd, PyData.canLay0]; exact strOk_toS h⟩
  | .ref i, v, t, r, e => by
    cases r with
    | ref h => exact hd i _ t h (by simpa [D.re] using e)
  | .tup ds, v, t, r, e => by
    cases r with
    | tup h hs =>
      simp only [D.re, Option.map_eq_some_iff] at e
      obtain ⟨ts, e1, rfl⟩ := e
      obtain ⟨h1, h2⟩ := res_dp dr hd ds _ ts hs e1
      exact ⟨.tup h h1, by simpa only [T.pd, PyData.canLay0] using h2⟩
theorem res_dp (dr : Nat → Option T) (hd : ∀ (i : Nat) (a : Addr) (t : T), α[i]? = some a → dr i = some t → Dp Γ.K H (.ref a) t.pd ∧ t.pd.canLay0 = true) : ∀ (ds : List D) (vs : List V) (ts : List T), RVs Γ.K α H ds vs → D.res dr ds = some ts → DpAll Γ.K H vs (T.pds ts) ∧ PyData.canLayAll0 (T.pds ts) = true
  | [], vs, ts, r, e => by cases r; simp [D.res] at e; subst e; exact ⟨.nil, by simp [T.pds, PyData.canLayAll0]⟩
  | d :: ds, vs, ts, r, e => by
    cases r with
    | cons r1 r2 =>
      simp only [D.res, Option.bind_eq_some_iff, Option.map_eq_some_iff] at e
      obtain ⟨t, e1, ts', e2, rfl⟩ := e
      obtain ⟨h1, h2⟩ := re_dp dr hd d _ t r1 e1
      obtain ⟨h3, h4⟩ := res_dp dr hd ds _ ts' r2 e2
      exact ⟨.cons h1 h3, by simp only [T.pds, PyData.canLayAll0, Bool.and_eq_true]; exact ⟨h2, h4⟩⟩
end
theorem drN_dp (rh : RH Γ α M H) : ∀ (n i : Nat) (a : Addr) (t : T), α[i]? = some a → drN M n i = some t → Dp Γ.K H (.ref a) t.pd ∧ t.pd.canLay0 = true
  | 0, _, _, _, _, e => by simp [drN] at e
  | n + 1, i, a, t, h, e => by
    unfold drN at e
    cases q : M[i]? with
    | none => rw [q] at e; cases e
    | some o =>
      rw [q] at e
      cases o with
      | lst ds =>
        simp only [Option.map_eq_some_iff] at e
        obtain ⟨ts, e1, rfl⟩ := e
        obtain ⟨xs, h1, h2⟩ := rh.ob i _ a q h
        obtain ⟨h3, h4⟩ := res_dp (drN M n) (drN_dp rh n) ds xs ts h2 e1
        exact ⟨.lst (SqL.of h1) h3, by simpa only [T.pd, PyData.canLay0] using h4⟩
      | frz ds =>
        simp only [Option.map_eq_some_iff] at e
        obtain ⟨ts, e1, rfl⟩ := e
        obtain ⟨ob, xs, h1, h2⟩ := rh.ob i _ a q h
        obtain ⟨h3, h4⟩ := res_dp (drN M n) (drN_dp rh n) ds xs ts h2 e1
        exact ⟨.lst (.inl (.inr ⟨ob, h1⟩)) h3, by simpa only [T.pd, PyData.canLay0] using h4⟩
      | _ => cases e
theorem tree_dp (rh : RH Γ α M H) {x : D} {v : V} {t : T} (r : RV Γ.K α H x v) (e : tree M x = some t) : Dp Γ.K H v t.pd ∧ t.pd.canLay0 = true := re_dp _ (drN_dp rh 8) x v t r e
theorem shaped_of {t : T} (h : t.pd.canLay0 = true) (d : T.dep t ≤ 64) : SeqAt.shaped t.pd = true := by
  unfold SeqAt.shaped
  rw [h, T.dep_pd]
  simpa using d
theorem ne_none_alike {a b : T} (h : T.alike a b = true) : a.pd ≠ .none := by
  cases a with
  | non => cases b <;> simp [T.alike] at h
  | _ => simp [T.pd]
end
section
variable {Γ : Gd} {A : Type} {B : Type} {W : XW} {α : List Addr} {H : Hp}
theorem cmp2_bind {x y : D} {f : T × T → CM A} {R : List Addr → Hp → A → B → Prop} {M : List Ob} {Q : B → Hp → Prop} (h : Ho Γ W R ((cmp2 x y >>= f) M) α H Q) :
    ∃ a b, tree M x = some a ∧ tree M y = some b ∧ T.dep a ≤ 64 ∧ T.dep b ≤ 64 ∧ T.alike a b = true ∧ Ho Γ W R (f (a, b) M) α H Q := by
  rw [CM.bind_run] at h
  unfold cmp2 at h
  rw [CM.bind_run] at h
  unfold tree2 at h
  cases e1 : tree M x with
  | none => rw [e1] at h; exact h.elim
  | some a =>
    cases e2 : tree M y with
    | none => rw [e1, e2] at h; exact h.elim
    | some b =>
      rw [e1, e2] at h
      dsimp only at h
      by_cases hd : T.dep a ≤ 64 ∧ T.dep b ≤ 64
      · rw [if_pos hd] at h
        dsimp only at h
        rw [CM.bind_run] at h
        unfold CM.ask at h
        by_cases hl : T.alike a b = true
        · rw [if_pos hl] at h; exact ⟨a, b, rfl, rfl, hd.1, hd.2, hl, h⟩
        · rw [if_neg hl] at h; exact h.elim
      · rw [if_neg hd] at h; exact h.elim
end
section
variable {X : Cx} {W : XW}
theorem op_cop_eq (hu : X.A.units + 64 < cLine) : OpR X (compareOp .Eq) (rC X.gd W (cop .eq)) := by
  rintro pins s σ H v u ov ou Q I rv ru ⟨α, M, x, y, rh, rx, ry, h⟩
  obtain ⟨a, b, ea, eb, da, db, h⟩ := tree2_bind h
  obtain ⟨p1, c1⟩ := tree_dp rh rx ea
  obtain ⟨p2, c2⟩ := tree_dp rh ry eb
  refine op_eqD hu pins s σ H _ _ ov ou Q I rv ru ⟨_, _, p1, p2, shaped_of c1 da, shaped_of c2 db, ?_⟩
  rw [T.eqv_pd]
  exact Ho.pure rh h rfl
theorem op_cop_ne (hu : X.A.units + 64 < cLine) : OpR X (compareOp .NotEq) (rC X.gd W (cop .ne)) := by
  rintro pins s σ H v u ov ou Q I rv ru ⟨α, M, x, y, rh, rx, ry, h⟩
  obtain ⟨a, b, ea, eb, da, db, h⟩ := tree2_bind h
  obtain ⟨p1, c1⟩ := tree_dp rh rx ea
  obtain ⟨p2, c2⟩ := tree_dp rh ry eb
  refine op_neD hu pins s σ H _ _ ov ou Q I rv ru ⟨_, _, p1, p2, shaped_of c1 da, shaped_of c2 db, ?_⟩
  rw [T.eqv_pd]
  exact Ho.pure rh h rfl
theorem ord_room {a b : T} (hu : X.A.units + 64 < cLine) (da : T.dep a ≤ 64) : X.A.units + min a.pd.depth b.pd.depth < cLine := by
  have h := T.dep_pd a
  have h2 : min a.pd.depth b.pd.depth ≤ a.pd.depth := Nat.min_le_left _ _
  omega
theorem op_cop_lt (hu : X.A.units + 64 < cLine) : OpR X (compareOp .Lt) (rC X.gd W (cop .lt)) := by
  rintro pins s σ H v u ov ou Q I rv ru ⟨α, M, x, y, rh, rx, ry, h⟩
  obtain ⟨a, b, ea, eb, da, db, hl, h⟩ := cmp2_bind h
  obtain ⟨p1, c1⟩ := tree_dp rh rx ea
  obtain ⟨p2, c2⟩ := tree_dp rh ry eb
  obtain ⟨as, r1⟩ := Dp.reads I a.pd v ov p1 rv
  obtain ⟨bs, r2⟩ := Dp.reads I b.pd u ou p2 ru
  refine PySem.W.lt_data r1 r2 (T.alike_pd a b hl) (ne_none_alike hl) (ord_room hu da) (fin_bl I ?_ rfl)
  rw [T.lt_pd a b hl]
  exact Ho.pure rh h rfl
end
mutual
theorem T.alike_comm : ∀ a b : T, T.alike a b = true → T.alike b a = true
  | .non, b, h => by cases b <;> simp [T.alike] at h
  | .bl _, b, h => by cases b <;> simp [T.alike] at h
  | .int _, b, h => by cases b <;> simp [T.alike] at h <;> simp [T.alike]
  | .str _, b, h => by cases b <;> simp [T.alike] at h <;> simp [T.alike]
  | .tup ts, b, h => by
    cases b with
    | tup us => simp only [T.alike]; exact T.alikes_comm ts us (by simpa [T.alike] using h)
    | _ => simp [T.alike] at h
  | .lst ts, b, h => by
    cases b with
    | lst us => simp only [T.alike]; exact T.alikes_comm ts us (by simpa [T.alike] using h)
    | _ => simp [T.alike] at h
theorem T.alikes_comm : ∀ a b : List T, T.alikes a b = true → T.alikes b a = true
  | [], [], _ => by simp [T.alikes]
  | [], u :: us, _ => by simp [T.alikes]
  | t :: ts, [], _ => by simp [T.alikes]
  | t :: ts, u :: us, h => by
    simp only [T.alikes, Bool.and_eq_true] at h ⊢
    exact ⟨T.alike_comm t u h.1, T.alikes_comm ts us h.2⟩
end
section
variable {X : Cx} {W : XW}
theorem op_cop_gt (hu : X.A.units + 64 < cLine) : OpR X (compareOp .Gt) (rC X.gd W (cop .gt)) := by
  rintro pins s σ H v u ov ou Q I rv ru ⟨α, M, x, y, rh, rx, ry, h⟩
  obtain ⟨a, b, ea, eb, da, db, hl, h⟩ := cmp2_bind h
  obtain ⟨p1, c1⟩ := tree_dp rh rx ea
  obtain ⟨p2, c2⟩ := tree_dp rh ry eb
  obtain ⟨as, r1⟩ := Dp.reads I a.pd v ov p1 rv
  obtain ⟨bs, r2⟩ := Dp.reads I b.pd u ou p2 ru
  refine PySem.W.gt_data r1 r2 (T.alike_pd a b hl) (ne_none_alike hl) (ord_room hu da) (fin_bl I ?_ rfl)
  rw [T.lt_pd b a (T.alike_comm a b hl)]
  exact Ho.pure rh h rfl
theorem op_cop_le (hu : X.A.units + 64 < cLine) : OpR X (compareOp .LtE) (rC X.gd W (cop .le)) := by
  rintro pins s σ H v u ov ou Q I rv ru ⟨α, M, x, y, rh, rx, ry, h⟩
  obtain ⟨a, b, ea, eb, da, db, hl, h⟩ := cmp2_bind h
  obtain ⟨p1, c1⟩ := tree_dp rh rx ea
  obtain ⟨p2, c2⟩ := tree_dp rh ry eb
  obtain ⟨as, r1⟩ := Dp.reads I a.pd v ov p1 rv
  obtain ⟨bs, r2⟩ := Dp.reads I b.pd u ou p2 ru
  refine PySem.W.le_data r1 r2 (T.alike_pd a b hl) (ne_none_alike hl) (ord_room hu da) (fin_bl I ?_ rfl)
  rw [T.lt_pd b a (T.alike_comm a b hl)]
  exact Ho.pure rh h rfl
theorem op_cop_ge (hu : X.A.units + 64 < cLine) : OpR X (compareOp .GtE) (rC X.gd W (cop .ge)) := by
  rintro pins s σ H v u ov ou Q I rv ru ⟨α, M, x, y, rh, rx, ry, h⟩
  obtain ⟨a, b, ea, eb, da, db, hl, h⟩ := cmp2_bind h
  obtain ⟨p1, c1⟩ := tree_dp rh rx ea
  obtain ⟨p2, c2⟩ := tree_dp rh ry eb
  obtain ⟨as, r1⟩ := Dp.reads I a.pd v ov p1 rv
  obtain ⟨bs, r2⟩ := Dp.reads I b.pd u ou p2 ru
  refine PySem.W.ge_data r1 r2 (T.alike_pd a b hl) (ne_none_alike hl) (ord_room hu da) (fin_bl I ?_ rfl)
  rw [T.lt_pd a b hl]
  exact Ho.pure rh h rfl
theorem is_of {Γ : Gd} {α : List Addr} {H : Hp} {x : D} {v : V} {ov : Value} (rx : RV Γ.K α H x v) (rv : RelV v ov) : (PySem.plainIs ov .none = true ∧ (ov == Value.none) = decide (x = .non)) ∧ ∀ b, PySem.plainIs ov (.bool b) = true ∧ (ov == Value.bool b) = decide (x = .bl b) := by
  cases rx with
  | non => cases rv; exact ⟨⟨rfl, by simp⟩, fun b => ⟨rfl, by simp⟩⟩
  | bl c => cases rv; exact ⟨⟨rfl, by simp⟩, fun b => ⟨rfl, by by_cases e : c = b <;> simp [e]⟩⟩
  | int i => obtain ⟨t, rfl⟩ := rv; exact ⟨⟨rfl, by simp⟩, fun b => ⟨rfl, by simp⟩⟩
  | str h => obtain ⟨t, rfl⟩ := rv; exact ⟨⟨rfl, by simp⟩, fun b => ⟨rfl, by simp⟩⟩
  | tup h hs => cases rv; exact ⟨⟨rfl, by simp⟩, fun b => ⟨rfl, by simp⟩⟩
  | ref h => cases rv; exact ⟨⟨rfl, by simp⟩, fun b => ⟨rfl, by simp⟩⟩
  | rol h hs => cases rv; exact ⟨⟨rfl, by simp⟩, fun b => ⟨rfl, by simp⟩⟩
theorem op_cop_is : OpR X (compareOp .Is) (rC X.gd W (cop .is)) := by
  rintro pins s σ H v u ov ou Q I rv ru ⟨α, M, x, y, rh, rx, ry, h⟩
  obtain ⟨⟨h1, h2⟩, h3⟩ := is_of rx rv
  cases ry with
  | non =>
    cases ru
    exact wpAny_is_plain h1 (fin_bl I (Ho.pure rh h rfl) h2.symm)
  | bl b =>
    cases ru
    exact wpAny_is_plain (h3 b).1 (fin_bl I (Ho.pure rh h rfl) (h3 b).2.symm)
  | _ => exact h.elim
theorem op_cop_isnt : OpR X (compareOp .IsNot) (rC X.gd W (cop .isnt)) := by
  rintro pins s σ H v u ov ou Q I rv ru ⟨α, M, x, y, rh, rx, ry, h⟩
  obtain ⟨⟨h1, h2⟩, h3⟩ := is_of rx rv
  cases ry with
  | non =>
    cases ru
    exact wpAny_isNot_plain h1 (fin_bl I (Ho.pure rh h rfl) (by rw [h2]))
  | bl b =>
    cases ru
    exact wpAny_isNot_plain (h3 b).1 (fin_bl I (Ho.pure rh h rfl) (by rw [(h3 b).2]))
  | _ => exact h.elim
end
section
variable {Γ : Gd} {A B : Type} {W : XW} {α : List Addr} {H : Hp} {M : List Ob}
theorem any_pd (p : T) : ∀ ts : List T, ((T.pds ts).any fun z => PyData.eqv z p.pd) = ts.any fun t => t.eqv p
  | [] => rfl
  | t :: ts => by simp only [T.pds, List.any_cons, T.eqv_pd, any_pd p ts]
theorem canLay_tup {ts : List T} (h : (T.tup ts).pd.canLay0 = true) : PyData.canLayAll0 (T.pds ts) = true := by simpa only [T.pd, PyData.canLay0] using h
theorem canLay_lst {ts : List T} (h : (T.lst ts).pd.canLay0 = true) : PyData.canLayAll0 (T.pds ts) = true := by simpa only [T.pd, PyData.canLay0] using h
theorem look_rel {K : Frag} : ∀ {kvs : List (D × D)} {kws : List (Key × V)} {x : D} {k : Key}, Paired (fun (p : D × D) (q : Key × V) => RK p.1 q.1 ∧ RV K α H p.2 q.2) kvs kws → RK x k →
    (look x kvs = none ∧ valV kws k = none) ∨ ∃ d v, look x kvs = some d ∧ valV kws k = some v ∧ RV K α H d v
  | [], _, x, k, .nil, _ => .inl ⟨rfl, rfl⟩
  | p :: kvs, q :: kws, x, k, .cons r t, rx => by
    by_cases e : p.1 = x
    · have e2 : q.1 = k := RK.fn (e ▸ r.1) rx
      refine .inr ⟨p.2, q.2, ?_, valV_pos e2, r.2⟩
      simp [look, e]
    · have e2 : ¬ q.1 = k := fun z => e (RK.inj (z ▸ r.1) rx)
      rw [valV_neg e2]
      have : look x (p :: kvs) = look x kvs := by simp [look, e]
      rw [this]
      exact look_rel t rx
end
theorem RK.ofK {K : Frag} {α : List Addr} {H : Hp} {x : D} {v : V} (r : RV K α H x v) (h : x.isK false = true) : ∃ k, RK x k ∧ v = kV k := by
  cases r with
  | int i => exact ⟨_, .int _, rfl⟩
  | str a b => exact ⟨_, .str a b, rfl⟩
  | non => simp [D.isK] at h
  | bl b => simp [D.isK] at h
  | tup _ _ => simp [D.isK] at h
  | ref _ => simp [D.isK] at h
  | rol _ _ => simp [D.isK] at h
section
variable {X : Cx} {W : XW}
theorem dic_get {α : List Addr} {M : List Ob} {H : Hp} {pins : List (Addr × Obj)} {s : Shared} {σ : L2.St} (rh : RH X.gd α M H) {i : Nat} {a : Addr} {t : Bool} {kvs : List (D × D)} (e : M[i]? = some (.dic t kvs) ∨ M[i]? = some (.lok t kvs)) (ha : α[i]? = some a)
    {x : D} {v : V} (rx : RV X.K α H x v) (hk : x.isK t = true) : (look x kvs = none ∧ DGet H a v none) ∨ ∃ d y, look x kvs = some d ∧ DGet H a v (some y) ∧ RV X.K α H d y := by
  cases t with
  | false =>
    have main : ∀ kws, Rd H a (.dK kws) → Paired (fun (p : D × D) (q : Key × V) => RK p.1 q.1 ∧ RV X.K α H p.2 q.2) kvs kws → (look x kvs = none ∧ DGet H a v none) ∨ ∃ d y, look x kvs = some d ∧ DGet H a v (some y) ∧ RV X.K α H d y := fun kws rd pr => by
      obtain ⟨k, rk, rfl⟩ := RK.ofK rx hk
      rcases look_rel pr rk with ⟨l1, l2⟩ | ⟨d, y, l1, l2, r⟩
      · exact .inl ⟨l1, .inl ⟨kws, k, rd, rfl, l2.symm⟩⟩
      · exact .inr ⟨d, y, l1, .inl ⟨kws, k, rd, rfl, l2.symm⟩, r⟩
    rcases e with e | e
    · obtain ⟨o, e1, kws, rfl, pr⟩ := rh.ob _ _ _ e ha
      exact main kws (.inl e1) pr
    · obtain ⟨ob, o, e1, kws, rfl, pr⟩ := rh.ob _ _ _ e ha
      exact main kws (.inr ⟨ob, e1⟩) pr
  | true =>
    rcases e with e | e
    · obtain ⟨o, e1, h⟩ := rh.ob _ _ _ e ha
      exact h.elim
    · obtain ⟨ob, o, e1, h⟩ := rh.ob _ _ _ e ha
      exact h.elim
theorem isIn_run (neg : Bool) (hu : X.A.units + 65 < cLine) {α : List Addr} {M : List Ob} {H : Hp} {pins : List (Addr × Obj)} {s : Shared} {σ : L2.St} {x y : D} {v u : V} {ov ou : Value} {Q : VK} (I : Inv X pins σ H s) (rv : RelV v ov) (ru : RelV u ou) (rh : RH X.gd α M H)
    (rx : RV X.K α H x v) (ry : RV X.K α H y u) (h : Ho X.gd W (fun _ _ b v => v = V.bl (if neg then !b else b)) (isIn x y M) α H Q) : wpAny (model X.prog X.w) X.A (compareOp (if neg then .NotIn else .In) ov ou) (EP X pins σ Q) X.xe s := by
  have viaTree : ∀ {y : D} {u : V} {ou : Value}, RV X.K α H y u → RelV u ou → Ho X.gd W (fun _ _ b v => v = V.bl (if neg then !b else b)) (treeIn x y M) α H Q → wpAny (model X.prog X.w) X.A (compareOp (if neg then .NotIn else .In) ov ou) (EP X pins σ Q) X.xe s := by
    intro y u ou ry ru h
    obtain ⟨a, b, ea, eb, da, db, h⟩ := tree2_bind h
    obtain ⟨p1, c1⟩ := tree_dp rh rx ea
    obtain ⟨p2, c2⟩ := tree_dp rh ry eb
    obtain ⟨as, r1⟩ := Dp.reads I a.pd v ov p1 rv
    obtain ⟨bs, r2⟩ := Dp.reads I b.pd u ou p2 ru
    cases b with
    | tup ts =>
      have q := Ho.pure rh h rfl
      cases neg with
      | false => exact SeqAt.in_tuple_reads r2 r1 (canLay_tup c2) c1 (PyProof.Rows.room_in_shaped (shaped_of c1 da) hu) (fin_bl I q (any_pd a ts).symm)
      | true => exact SeqAt.notIn_tuple_reads r2 r1 (canLay_tup c2) c1 (PyProof.Rows.room_in_shaped (shaped_of c1 da) hu) (fin_bl I q (congrArg not (any_pd a ts).symm))
    | lst ts =>
      have q := Ho.pure rh h rfl
      cases neg with
      | false => exact SeqAt.in_list_reads r2 r1 (canLay_lst c2) c1 (PyProof.Rows.room_in_shaped (shaped_of c1 da) hu) (fin_bl I q (any_pd a ts).symm)
      | true => exact SeqAt.notIn_list_reads r2 r1 (canLay_lst c2) c1 (PyProof.Rows.room_in_shaped (shaped_of c1 da) hu) (fin_bl I q (congrArg not (any_pd a ts).symm))
    | _ => exact h.elim
  have viaDict : ∀ {i : Nat} {t : Bool} {kvs : List (D × D)}, y = .ref i → (M[i]? = some (.dic t kvs) ∨ M[i]? = some (.lok t kvs)) → Ho X.gd W (fun _ _ b v => v = V.bl (if neg then !b else b)) ((do CM.ask (x.isK t); pure (look x kvs).isSome : CM Bool) M) α H Q →
      wpAny (model X.prog X.w) X.A (compareOp (if neg then .NotIn else .In) ov ou) (EP X pins σ Q) X.xe s := by
    intro i t kvs ey e hh
    subst ey
    obtain ⟨hk, hh⟩ := ask_run hh
    have q := Ho.pure rh hh rfl
    cases ry with
    | ref ha =>
      cases ru
      rcases dic_get (pins := pins) (s := s) (σ := σ) rh e ha rx hk with ⟨l1, g⟩ | ⟨d, z, l1, g, _⟩
      · rw [l1] at q
        cases neg with
        | false => exact d_in (by omega) I g rv fun s' I' => fin_bl I' q rfl
        | true => exact d_notIn (by omega) I g rv fun s' I' => fin_bl I' q rfl
      · rw [l1] at q
        cases neg with
        | false => exact d_in (by omega) I g rv fun s' I' => fin_bl I' q rfl
        | true => exact d_notIn (by omega) I g rv fun s' I' => fin_bl I' q rfl
  cases y with
  | str b =>
    cases ry with
    | str hb zb =>
      cases x with
      | str a =>
        cases rx with
        | str ha za =>
          match a, h with
          | [c], h =>
            have q := Ho.pure rh h rfl
            cases neg with
            | false =>
              refine op_in_sign pins s σ H _ _ ov ou Q I rv ru ⟨c, _, rfl, rfl, ?_⟩
              rw [toS_cps]
              exact q
            | true =>
              refine op_notIn_sign pins s σ H _ _ ov ou Q I rv ru ⟨c, _, rfl, rfl, ?_⟩
              rw [toS_cps]
              exact q
          | [], h => exact h.elim
          | _ :: _ :: _, h => exact h.elim
      | _ => exact h.elim
  | tup ds => exact viaTree ry ru h
  | ref i =>
    obtain ⟨o, eo, h⟩ := get_bind h
    cases o with
    | lst ds => exact viaTree ry ru h
    | frz ds => exact viaTree ry ru h
    | dic t kvs => exact viaDict rfl (.inl eo) h
    | lok t kvs => exact viaDict rfl (.inr eo) h
    | _ => exact h.elim
  | _ => exact h.elim
theorem op_cop_in (hu : X.A.units + 65 < cLine) : OpR X (compareOp .In) (rC X.gd W (cop .inn)) := by
  rintro pins s σ H v u ov ou Q I rv ru ⟨α, M, x, y, rh, rx, ry, h⟩
  exact isIn_run (W := W) false hu I rv ru rh rx ry h
theorem Ho.neg {Γ : Gd} {α : List Addr} {H : Hp} {M : List Ob} {m : CM Bool} {Q : VK} (h : Ho Γ W (fun _ _ b v => v = V.bl b) ((m >>= fun r => Pure.pure (!r)) M) α H Q) : Ho Γ W (fun _ _ b v => v = V.bl (!b)) (m M) α H Q := by
  rw [CM.bind_run] at h
  cases e : m M with
  | ok b M' => rw [e] at h; exact fun α' v H' n rh r => h α' v H' n rh r
  | ex x M' => rw [e] at h; exact h
  | no => rw [e] at h; exact h
theorem op_cop_nin (hu : X.A.units + 65 < cLine) : OpR X (compareOp .NotIn) (rC X.gd W (cop .nin)) := by
  rintro pins s σ H v u ov ou Q I rv ru ⟨α, M, x, y, rh, rx, ry, h⟩
  exact isIn_run (W := W) true hu I rv ru rh rx ry (Ho.neg h)
end
end Sb
end
section
set_option Elab.async false
set_option linter.all false
set_option maxRecDepth 100000
set_option maxHeartbeats 2000000
namespace Sb
open PySem PySem.Spec PyProof.Rows L2
theorem ixOf_eq : @ixOf = @ixN := rfl
theorem atIx_rel {K : Frag} {α : List Addr} {H : Hp} {ds : List D} {vs : List V} (r : RVs K α H ds vs) {i : Int} {d : D} (h : atIx ds i = some d) : ∃ v, atI vs i = some v ∧ RV K α H d v := by
  unfold atIx at h
  rw [r.length] at h
  obtain ⟨j, h1, h2⟩ := Option.bind_eq_some_iff.mp h
  obtain ⟨v, h3, h4⟩ := r.get h2
  exact ⟨v, by unfold atI; rw [show ixN vs.length i = some j from h1]; exact h3, h4⟩
theorem atIx_str {s : Txt} {i : Int} {c : Nat} (h : atIx s i = some c) : atI (toS s).cps.toList i = some c ∧ c ∈ s := by
  unfold atIx at h
  obtain ⟨j, h1, h2⟩ := Option.bind_eq_some_iff.mp h
  refine ⟨?_, List.mem_of_getElem? h2⟩
  rw [toS_cps]
  unfold atI
  rw [show ixN s.length i = some j from h1]
  exact h2
theorem sIx_eq : @clip = @HT.sIx := by
  funext n d o
  cases o <;> rfl
theorem cut_rel {K : Frag} {α : List Addr} {H : Hp} {ds : List D} {vs : List V} (r : RVs K α H ds vs) (lo hi : Option Int) : RVs K α H (cut ds lo hi) (cutV vs lo hi) := by
  unfold cut cutV
  rw [sIx_eq, r.length]
  exact (r.drop _).take _
theorem cut_str (s : Txt) (lo hi : Option Int) : cutS (toS s) lo hi = toS (cut s lo hi) := by
  unfold cutS cut
  rw [toS_len, toS_cps, sIx_eq]
  rfl
theorem okTxt.cut {s : Txt} (h : okTxt s) (lo hi : Option Int) : okTxt (Sb.cut s lo hi) := fun c m => h c (List.mem_of_mem_drop (List.mem_of_mem_take m))
theorem cut_len {α : Type} (s : List α) (lo hi : Option Int) : (cut s lo hi).length ≤ s.length := by
  unfold cut
  rw [List.length_take, List.length_drop]
  omega
theorem okTxt.sub {s t : Txt} (h : okTxt s) (m : ∀ c ∈ t, c ∈ s) : okTxt t := fun c q => h c (m c q)
theorem line1 : 1 ≤ (sizeLine : Nat) := by rw [sizeLine_eq]; decide
section
variable {X : Cx} {W : XW}
theorem ix_dictV (hu : X.A.units + 1 < cLine) : IxR X (fun x y H Q => ∃ a v, x = V.ref a ∧ DGet H a y (some v) ∧ Q v H) := by
  intro value slice pins s σ H x y v u Q I rx ry h hs
  obtain ⟨a, z, rfl, g, q⟩ := h
  cases rx
  have hT := dict_typeIs I g
  unfold subscriptTail
  refine wpAny_bind ?_
  rw [getitemInPython_of_ne hT.not_modules]
  refine wpAny_bind (wpAny_specialOf hT PySem.F.slot_dict_getitem.lookup ?_)
  have fin : wpAny (model X.prog X.w) X.A (subscripted slice false (.ref a) u) (fun r s₃ => wpAny (model X.prog X.w) X.A (letTemporaryGo value (.ref a) r >>= fun _ => pure r) (EP X pins σ Q) X.xe s₃) X.xe s := by
    rw [hs]
    exact wpAny_operating (d_getItem hu I g ry fun w' s' I' r' => wpAny_bind (wpAny_letTemporaryGo (wpAny_pure ⟨z, H, I', r', q⟩)))
  first
    | exact wpAny_pure (wpAny_bind fin)
    | exact wpAny_bind (wpAny_pure (wpAny_bind fin))
    | exact wpAny_bind fin
def rIxC (Γ : Gd) (W : XW) : R2 := fun v u H Q => ∃ α M x y, RH Γ α M H ∧ RV Γ.K α H x v ∧ RV Γ.K α H y u ∧ Ho Γ W (RV Γ.K) (index x y M) α H Q
theorem ix_core (hu : X.A.units + 1 < cLine) : IxR X (rIxC X.gd W) := by
  rintro value slice pins s σ H v u ov ou Q I rv ru ⟨α, M, x, y, rh, rx, ry, h⟩ hs
  cases x with
  | tup ds =>
    cases y with
    | int i =>
      obtain ⟨d, e, h⟩ := opt_run h
      cases rx with
      | tup ha as =>
        cases ry
        obtain ⟨w, e2, rw'⟩ := atIx_rel as e
        exact ix_tup value slice pins s σ H _ _ ov ou Q I rv ru ⟨_, _, _, w, rfl, rfl, ha, e2, Ho.ok h .refl rh rw'⟩ hs
    | _ => exact h.elim
  | rol ds =>
    cases y with
    | int i =>
      obtain ⟨d, e, h⟩ := opt_run h
      cases rx with
      | rol ha as =>
        cases ry
        obtain ⟨w, e2, rw'⟩ := atIx_rel as e
        exact ix_list value slice pins s σ H _ _ ov ou Q I rv ru ⟨_, _, _, w, rfl, rfl, ha.sq, e2, Ho.ok h .refl rh rw'⟩ hs
    | _ => exact h.elim
  | str t =>
    cases y with
    | int i =>
      obtain ⟨d, e, h⟩ := opt_run h
      obtain ⟨c, e1, rfl⟩ := Option.map_eq_some_iff.mp e
      obtain ⟨e2, e3⟩ := atIx_str e1
      cases rx with
      | str ha za =>
        cases ry
        refine ix_str value slice pins s σ H _ _ ov ou Q I rv ru ⟨_, _, c, rfl, rfl, by rw [toS_len]; exact za, e2, ?_⟩ hs
        exact Ho.ok h .refl rh (.str (ha.sub fun z m => by simp at m; rw [m]; exact e3) line1)
    | _ => exact h.elim
  | ref i =>
    obtain ⟨o, eo, h⟩ := get_bind h
    cases rx with
    | ref ha =>
      have viaDict : ∀ {t : Bool} {kvs : List (D × D)}, (M[i]? = some (.dic t kvs) ∨ M[i]? = some (.lok t kvs)) → Ho X.gd W (RV X.K) ((do CM.ask (y.isK t); CM.opt (look y kvs) : CM D) M) α H Q → wpAny (model X.prog X.w) X.A (subscriptTail value slice ov ou) (EP X pins σ Q) X.xe s := by
        intro t kvs e hh
        obtain ⟨hk, hh⟩ := ask_run hh
        obtain ⟨d, ed, hh⟩ := opt_run hh
        rcases dic_get (pins := pins) (s := s) (σ := σ) rh e ha ry hk with ⟨l1, g⟩ | ⟨d', z, l1, g, r⟩
        · rw [l1] at ed; cases ed
        · rw [l1] at ed; cases ed
          exact ix_dictV hu value slice pins s σ H _ _ ov ou Q I rv ru ⟨_, z, rfl, g, Ho.ok hh .refl rh r⟩ hs
      cases o with
      | lst ds =>
        cases y with
        | int k =>
          obtain ⟨d, e, h⟩ := opt_run h
          obtain ⟨xs, e1, as⟩ := rh.ob _ _ _ eo ha
          cases ry
          obtain ⟨w, e2, rw'⟩ := atIx_rel as e
          exact ix_list value slice pins s σ H _ _ ov ou Q I rv ru ⟨_, _, _, w, rfl, rfl, SqL.of e1, e2, Ho.ok h .refl rh rw'⟩ hs
        | _ => exact h.elim
      | frz ds =>
        cases y with
        | int k =>
          obtain ⟨d, e, h⟩ := opt_run h
          obtain ⟨ob, xs, e1, as⟩ := rh.ob _ _ _ eo ha
          cases ry
          obtain ⟨w, e2, rw'⟩ := atIx_rel as e
          exact ix_list value slice pins s σ H _ _ ov ou Q I rv ru ⟨_, _, _, w, rfl, rfl, .inl (.inr ⟨ob, e1⟩), e2, Ho.ok h .refl rh rw'⟩ hs
        | _ => exact h.elim
      | dic t kvs => exact viaDict (.inl eo) h
      | lok t kvs => exact viaDict (.inr eo) h
      | _ => exact h.elim
  | _ => exact h.elim
def rSlC (Γ : Gd) (W : XW) : V → Option Int → Option Int → Hp → VK → Prop := fun v lo hi H Q => ∃ α M x, RH Γ α M H ∧ RV Γ.K α H x v ∧ Ho Γ W (RV Γ.K) (slice x lo hi M) α H Q
theorem sl_core : SlR X (rSlC X.gd W) := by
  rintro pins s σ H v ov vl vu lo hi sl Q I rv hsl pl pu ⟨α, M, x, rh, rx, h⟩
  cases x with
  | tup ds =>
    cases rx with
    | tup ha as =>
      refine sl_tupA pins s σ H _ ov vl vu lo hi sl Q I rv hsl pl pu ⟨_, _, rfl, ha, fun hw => ?_, fun hw p n => ?_⟩
      · have e : cut ds lo hi = ds := by
          unfold cut
          rw [sIx_eq, as.length, hw.1, hw.2, ← as.length]
          simp
        rw [show slice (.tup ds) lo hi M = .ok (.tup (cut ds lo hi)) M from rfl, e] at h
        exact Ho.ok h .refl rh (.tup ha as)
      · exact Ho.ok (α' := α) h (nx_fresh n) (rh.tup n) (.tup (.inl (.inl upd_same)) ((cut_rel as lo hi).mono (nx_fresh n)))
  | str t =>
    cases rx with
    | str ha za =>
      refine sl_str pins s σ H _ ov vl vu lo hi sl Q I rv hsl pl pu ⟨_, rfl, by rw [toS_len]; exact za, ?_⟩
      rw [cut_str]
      exact Ho.ok h .refl rh (.str (ha.cut lo hi) (Nat.le_trans (cut_len _ _ _) za))
  | rol ds =>
    cases rx with
    | rol ha as => exact sl_list pins s σ H _ ov vl vu lo hi sl Q I rv hsl pl pu ⟨_, _, rfl, ha.sq, fun p n => Ho.newLst rh h (cut_rel as lo hi) n⟩
  | ref i =>
    obtain ⟨ds, eo, h⟩ := items_bind h
    obtain ⟨a, xs, rfl, ha, sq, as⟩ := RV.seq rh rx eo
    exact sl_list pins s σ H _ ov vl vu lo hi sl Q I rv hsl pl pu ⟨_, _, rfl, sq, fun p n => Ho.newLst rh h (cut_rel as lo hi) n⟩
  | _ => exact h.elim
theorem ofs_inj {a b : String} (h : Str.ofString a = Str.ofString b) : a = b := by
  rw [Str.ofString_eq_toList, Str.ofString_eq_toList] at h
  have h1 : (a.toList.map Char.toNat).toArray = (b.toList.map Char.toNat).toArray := congrArg Str.cps h
  have h2 : a.toList.map Char.toNat = b.toList.map Char.toNat := by simpa using congrArg Array.toList h1
  have h3 : a.toList = b.toList := by
    have inj : ∀ {l m : List Char}, l.map Char.toNat = m.map Char.toNat → l = m := by
      intro l
      induction l with
      | nil => intro m h; cases m with
        | nil => rfl
        | cons _ _ => simp at h
      | cons x l ih =>
        intro m h
        cases m with
        | nil => simp at h
        | cons y m =>
          simp only [List.map_cons, List.cons.injEq] at h
          have : x = y := by
            have := h.1
            exact Char.ext (UInt32.toNat_inj.mp this)
          rw [this, ih h.2]
    exact inj h2
  exact String.toList_inj.mp h3
theorem getF_rel {K : Frag} {α : List Addr} {H : Hp} {f : String} : ∀ {fs : List (String × D)} {gs : List (Str × V)}, RF K α H fs gs → (getF f fs = none ∧ gs.lookup (Str.ofString f) = none) ∨ ∃ d v, getF f fs = some d ∧ gs.lookup (Str.ofString f) = some v ∧ RV K α H d v
  | _, _, .nil => .inl ⟨rfl, rfl⟩
  | (n, d) :: fs, (m, v) :: gs, .cons r t => by
    obtain ⟨r1, r2⟩ := r
    by_cases e : n = f
    · subst e
      refine .inr ⟨d, v, by simp [getF], ?_, r2⟩
      have e2 : (Str.ofString n == m) = true := by
        have : Str.ofString n = m := r1
        rw [this]; simp
      rw [List.lookup_cons, e2]
    · have e2 : (Str.ofString f == m) = false := beq_eq_false_iff_ne.mpr fun z => e (ofs_inj (r1.trans z.symm))
      rw [List.lookup_cons, e2]
      simp only [getF, if_neg e]
      exact getF_rel t
theorem putF_rel {K : Frag} {α : List Addr} {H : Hp} {f : String} {d : D} {v : V} (r : RV K α H d v) : ∀ {fs : List (String × D)} {gs : List (Str × V)}, RF K α H fs gs → RF K α H (Sb.putF f d fs) (L2.putF (Str.ofString f) v gs)
  | _, _, .nil => .cons ⟨rfl, r⟩ .nil
  | (n, u) :: fs, (m, w) :: gs, .cons q t => by
    obtain ⟨q1, q2⟩ := q
    by_cases e : n = f
    · subst e
      have e2 : m = Str.ofString n := q1.symm
      simp only [Sb.putF, L2.putF, if_pos e2, if_true]
      exact .cons ⟨q1, r⟩ t
    · have e2 : ¬ m = Str.ofString f := fun z => e (ofs_inj (q1.trans z))
      simp only [Sb.putF, L2.putF, if_neg e, if_neg e2]
      exact .cons ⟨q1, q2⟩ (putF_rel r t)
end
end Sb
end
section
set_option Elab.async false
set_option linter.all false
set_option maxRecDepth 100000
set_option maxHeartbeats 2000000
namespace Sb
open PySem PySem.Spec PyProof.Rows L2
theorem Ho.mono {A B : Type} {Γ : Gd} {W : XW} {R : List Addr → Hp → A → B → Prop} {r : Res A} {α : List Addr} {H : Hp} {Q Q' : B → Hp → Prop} (h : Ho Γ W R r α H Q) (i : ∀ b H, Q b H → Q' b H) : Ho Γ W R r α H Q' := by
  cases r with
  | ok a M' => exact fun α' b H' n rh r => i _ _ (h α' b H' n rh r)
  | ex e M' => exact h
  | no => exact h.elim
instance : LawfulMonad CM := LawfulMonad.mk'
  (id_map := fun x => by funext M; show CM.bind x _ M = _; unfold CM.bind; cases h : x M <;> rfl)
  (pure_bind := fun a f => rfl)
  (bind_assoc := fun x f k => by funext M; show CM.bind (CM.bind x f) k M = CM.bind x _ M; unfold CM.bind; cases h : x M <;> rfl)
theorem _root_.L2.PE.imp {X : Cx} {e : PySem.Expr} {t t' : TE} (h : PE X e t) (i : ∀ σ H Q, t' σ H Q → t σ H Q) : PE X e t' := ⟨fun pins s σ H Q I q => h.run pins s σ H Q I (i σ H Q q)⟩
structure RL (K : Frag) (α : List Addr) (H : Hp) (ρ : Env) (σ : L2.St) : Prop where
  len : ρ.length = σ.length
  at_ : ∀ (i : Nat) (d : D), ρ[i]? = some (some d) → ∃ v, σ[i]? = some (some v) ∧ RV K α H d v
theorem RL.mono {K : Frag} {α α' : List Addr} {H H' : Hp} {ρ : Env} {σ : L2.St} (h : RL K α H ρ σ) (n : Nx K α H α' H') : RL K α' H' ρ σ :=
  ⟨h.len, fun i d e => (h.at_ i d e).imp fun v z => ⟨z.1, z.2.mono n⟩⟩
theorem RL.set {K : Frag} {α : List Addr} {H : Hp} {ρ : Env} {σ : L2.St} (h : RL K α H ρ σ) {i : Nat} {d : D} {v : V} (hi : i < ρ.length) (r : RV K α H d v) : RL K α H (ρ.set i (some d)) (σ.set i (some v)) := by
  refine ⟨by simp [h.len], fun j e q => ?_⟩
  by_cases hj : j = i
  · subst hj
    rw [List.getElem?_set_self hi] at q
    cases q
    exact ⟨v, List.getElem?_set_self (by rw [← h.len]; exact hi), r⟩
  · rw [List.getElem?_set_ne (Ne.symm hj)] at q
    obtain ⟨u, h1, h2⟩ := h.at_ j e q
    exact ⟨u, by rw [List.getElem?_set_ne (Ne.symm hj)]; exact h1, h2⟩
section
variable (Γ : Gd) (g : G) (cl : Cls) (W : WX)
def tE (c : CE) : TE := fun σ H Q => ∃ α ρ M, RL Γ.K α H ρ σ ∧ RH Γ α M H ∧ Ho Γ (fun x d H => W x d σ H) (RV Γ.K) (ev g cl ρ c M) α H Q
def tAs (cs : CEs) : TA := fun σ H Q => ∃ α ρ M, RL Γ.K α H ρ σ ∧ RH Γ α M H ∧ Ho Γ (fun x d H => W x d σ H) (RVs Γ.K) (evs g cl ρ cs M) α H Q
def tT (c : CE) : TT := fun σ H Q => ∃ α ρ M, RL Γ.K α H ρ σ ∧ RH Γ α M H ∧ Ho Γ (fun x d H => W x d σ H) (fun _ _ b v => v = b) (evT g cl c ρ M) α H Q
end
section
variable {Γ : Gd} {g : G} {cl : Cls} {W : WX} {α : List Addr} {ρ : Env} {M : List Ob} {σ : L2.St} {H : Hp} {A B : Type}
theorem tE.go {c : CE} {f : D → CM A} {R : List Addr → Hp → A → B → Prop} {Q : B → Hp → Prop} {Q' : VK} (rl : RL Γ.K α H ρ σ) (rh : RH Γ α M H) (h : Ho Γ (fun x d H => W x d σ H) R ((ev g cl ρ c >>= f) M) α H Q)
    (k : ∀ v H1 α1 M1 d, Nx Γ.K α H α1 H1 → RL Γ.K α1 H1 ρ σ → RH Γ α1 M1 H1 → RV Γ.K α1 H1 d v → Ho Γ (fun x d H => W x d σ H) R (f d M1) α1 H1 Q → Q' v H1) : tE Γ g cl W c σ H Q' :=
  ⟨α, ρ, M, rl, rh, (Ho.bind h).mono fun v H1 z => by
    obtain ⟨d, M1, α1, nx, rh1, rv, h1⟩ := z
    exact k v H1 α1 M1 d nx (rl.mono nx) rh1 rv h1⟩
theorem tAs.go {cs : CEs} {f : List D → CM A} {R : List Addr → Hp → A → B → Prop} {Q : B → Hp → Prop} {Q' : List V → Hp → Prop} (rl : RL Γ.K α H ρ σ) (rh : RH Γ α M H) (h : Ho Γ (fun x d H => W x d σ H) R ((evs g cl ρ cs >>= f) M) α H Q)
    (k : ∀ v H1 α1 M1 d, Nx Γ.K α H α1 H1 → RL Γ.K α1 H1 ρ σ → RH Γ α1 M1 H1 → RVs Γ.K α1 H1 d v → Ho Γ (fun x d H => W x d σ H) R (f d M1) α1 H1 Q → Q' v H1) : tAs Γ g cl W cs σ H Q' :=
  ⟨α, ρ, M, rl, rh, (Ho.bind h).mono fun v H1 z => by
    obtain ⟨d, M1, α1, nx, rh1, rv, h1⟩ := z
    exact k v H1 α1 M1 d nx (rl.mono nx) rh1 rv h1⟩
theorem tT.go {c : CE} {f : Bool → CM A} {R : List Addr → Hp → A → B → Prop} {Q : B → Hp → Prop} {Q' : Bool → Hp → Prop} (rl : RL Γ.K α H ρ σ) (rh : RH Γ α M H) (h : Ho Γ (fun x d H => W x d σ H) R ((evT g cl c ρ >>= f) M) α H Q)
    (k : ∀ b H1 α1 M1, Nx Γ.K α H α1 H1 → RL Γ.K α1 H1 ρ σ → RH Γ α1 M1 H1 → Ho Γ (fun x d H => W x d σ H) R (f b M1) α1 H1 Q → Q' b H1) : tT Γ g cl W c σ H Q' :=
  ⟨α, ρ, M, rl, rh, (Ho.bind h).mono fun v H1 z => by
    obtain ⟨d, M1, α1, nx, rh1, rfl, h1⟩ := z
    exact k _ H1 α1 M1 nx (rl.mono nx) rh1 h1⟩
end
def SE (g : G) (cl : Cls) (X : Cx) (c : CE) (e : PySem.Expr) : Prop := ∀ W, Takes X W → PE X e (tE X.gd g cl W c)
def SA (g : G) (cl : Cls) (X : Cx) (cs : CEs) (es : List PySem.Expr) : Prop := ∀ W, Takes X W → PA X es (tAs X.gd g cl W cs)
def STt (g : G) (cl : Cls) (X : Cx) (c : CE) (e : PySem.Expr) : Prop := ∀ W, Takes X W → PT X e (tT X.gd g cl W c)
def SW (g : G) (cl : Cls) (X : Cx) (c : CE) (e : PySem.Expr) : Prop := ∀ W, Takes X W → PW X e (tT X.gd g cl W c)
def bOp : BOp → Operator
  | .add => .Add | .sub => .Sub | .mul => .Mult | .fdiv => .FloorDiv | .mod => .Mod | .pow => .Pow
def cOp : COp → CmpOp
  | .eq => .Eq | .ne => .NotEq | .lt => .Lt | .le => .LtE | .gt => .Gt | .ge => .GtE | .is => .Is | .isnt => .IsNot | .inn => .In | .nin => .NotIn
section
variable {X : Cx} {W : XW}
theorem replicate_rel {K : Frag} {α : List Addr} {H : Hp} {ds : List D} {vs : List V} (r : RVs K α H ds vs) : ∀ n : Nat, RVs K α H (List.replicate n ds).flatten (List.replicate n vs).flatten
  | 0 => .nil
  | n + 1 => by
    rw [List.replicate_succ, List.replicate_succ, List.flatten_cons, List.flatten_cons]
    exact r.append (replicate_rel r n)
theorem op_bop_mul : OpR X (binaryOp .Mult) (rB X.gd W (bop .mul)) := by
  rintro pins s σ H v u ov ou Q I rv ru ⟨α, M, x, y, rh, rx, ry, h⟩
  cases rx with
  | int i =>
    cases ry with
    | int j =>
      obtain ⟨hl, h⟩ := ask_runD h
      exact op_mul pins s σ H _ _ ov ou Q I rv ru ⟨i, j, rfl, rfl, mulOk hl, Ho.pure rh h (.int _)⟩
    | _ => exact h.elim
  | ref ha =>
    cases ry with
    | int n =>
      obtain ⟨xs, ex, h⟩ := lstIt_bind h
      obtain ⟨hl, h⟩ := ask_runD h
      obtain ⟨xa, h1, r1⟩ := rh.ob _ _ _ ex ha
      obtain ⟨h2, h3, h4⟩ := hl
      rw [lim_eq, r1.length] at h2
      exact op_rep pins s σ H _ _ ov ou Q I rv ru ⟨_, _, _, rfl, rfl, h1, by omega, by omega, h2, fun p n => Ho.newLst rh h (replicate_rel r1 _) n⟩
    | _ => exact h.elim
  | _ => cases ry <;> exact h.elim
theorem opR_bop (op : BOp) : OpR X (binaryOp (bOp op)) (rB X.gd W (bop op)) := by
  cases op
  · exact op_bop_add
  · exact op_bop_sub
  · exact op_bop_mul
  · exact op_bop_fdiv
  · exact op_bop_mod
  · exact op_bop_pow
theorem opR_cop (hu : X.A.units + 65 < cLine) (op : COp) : OpR X (compareOp (cOp op)) (rC X.gd W (cop op)) := by
  cases op
  · exact op_cop_eq (by omega)
  · exact op_cop_ne (by omega)
  · exact op_cop_lt (by omega)
  · exact op_cop_le (by omega)
  · exact op_cop_gt (by omega)
  · exact op_cop_ge (by omega)
  · exact op_cop_is
  · exact op_cop_isnt
  · exact op_cop_in hu
  · exact op_cop_nin hu
theorem truV_of {Γ : Gd} {α : List Addr} {M : List Ob} {H : Hp} {x : D} {v : V} {Q : Bool → Hp → Prop} (rh : RH Γ α M H) (rv : RV Γ.K α H x v) (h : Ho Γ W (fun _ _ b c => c = b) (truth x M) α H Q) : ∃ k, TruV Γ.K v H k ∧ Q k H := by
  cases rv with
  | non => exact ⟨false, rfl, Ho.pure rh h rfl⟩
  | bl b => exact ⟨b, rfl, Ho.pure rh h rfl⟩
  | int i => exact ⟨decide (i ≠ 0), by show decide (i ≠ 0) = (i != 0); by_cases e : i = 0 <;> simp [e], Ho.pure rh h rfl⟩
  | str ht z =>
    rename_i s
    refine ⟨!s.isEmpty, ⟨by rw [toS_len]; exact z, ?_⟩, Ho.pure rh h rfl⟩
    rw [toS_len]
    cases s with
    | nil => rfl
    | cons a s =>
      show true = (((s.length + 1 : Nat) : Int) != 0)
      symm
      rw [bne_iff_ne]
      omega
  | tup hs rs =>
    rename_i ds a xs
    refine ⟨!ds.isEmpty, .inr (.inl ⟨xs, hs, ?_⟩), Ho.pure rh h rfl⟩
    cases rs <;> rfl
  | rol _ _ => exact h.elim
  | ref ha =>
    obtain ⟨o, eo, h⟩ := get_bind h
    cases o with
    | lst ds =>
      obtain ⟨xs, e1, as⟩ := rh.ob _ _ _ eo ha
      refine ⟨!ds.isEmpty, .inl ⟨xs, SqL.of e1, ?_⟩, Ho.pure rh h rfl⟩
      cases as <;> rfl
    | frz ds =>
      obtain ⟨ob, xs, e1, as⟩ := rh.ob _ _ _ eo ha
      refine ⟨!ds.isEmpty, .inl ⟨xs, .inl (.inr ⟨ob, e1⟩), ?_⟩, Ho.pure rh h rfl⟩
      cases as <;> rfl
    | dic t kvs =>
      obtain ⟨o, e1, rd⟩ := rh.ob _ _ _ eo ha
      cases t with
      | false =>
        obtain ⟨kws, rfl, pr⟩ := rd
        refine ⟨!kvs.isEmpty, .inr (.inr ⟨kws, e1, ?_⟩), Ho.pure rh h rfl⟩
        cases pr <;> rfl
      | true => exact rd.elim
    | _ => exact h.elim
end
section
variable {g : G} {cl : Cls} {X : Cx}
theorem se_loc {i : Nat} {x : Str} {pos : Pos} (hN : X.N[i]? = some x) (hv : Vis X.env.scope x) (h1 : (x == Str.ofString "__debug__") = false) (h2 : (x == Str.ofString "__classdict__") = false) : SE g cl X (.loc i) (.Name x pos) := fun W tk =>
  (pe_var hN hv h1 h2).imp fun σ H Q z => by
    obtain ⟨α, ρ, M, rl, rh, h⟩ := z
    obtain ⟨d, e, h⟩ := opt_run h
    obtain ⟨v, e1, rv⟩ := rl.at_ i d (by cases q : ρ[i]? with | none => rw [q] at e; cases e | some o => rw [q] at e; cases o with | none => cases e | some u => cases e; rfl)
    exact ⟨v, e1, Ho.ok h .refl rh rv⟩
theorem se_const {d : D} {v : V} {e : PySem.Expr} (hp : PE X e (tC v)) (hr : ∀ α H, RV X.K α H d v) : SE g cl X (.cst d) e := fun W tk =>
  hp.imp fun σ H Q z => by
    obtain ⟨α, ρ, M, rl, rh, h⟩ := z
    exact Ho.ok h .refl rh (hr α H)
theorem se_glb {x : Str} {f : String} {u : Value} {v : V} {d : D} {pos : Pos} (hg : Gl X x) (hm : X.mg x = some u) (hr : RelV v u) (hd : (x == Str.ofString "__debug__") = false) (hf : g.glb f = some d) (rv : ∀ α H, RV X.K α H d v) : SE g cl X (.glb f) (.Name x pos) := fun W tk =>
  (pe_glob hg hm hr hd).imp fun σ H Q z => by
    obtain ⟨α, ρ, M, rl, rh, h⟩ := z
    have h' : Ho X.gd (fun x d H => W x d σ H) (RV X.K) (CM.opt (g.glb f) M) α H Q := h
    obtain ⟨d', e, h⟩ := opt_run h'
    rw [hf] at e; cases e
    exact Ho.ok h .refl rh (rv α H)
theorem sa_nil : SA g cl X .nil [] := fun W tk => ⟨fun pos pins s σ H Q I z => by
  obtain ⟨α, ρ, M, rl, rh, h⟩ := z
  exact pa_nil.run pos pins s σ H Q I (Ho.pure (a := []) rh h .nil)⟩
theorem sa_cons {c : CE} {cs : CEs} {e : PySem.Expr} {es : List PySem.Expr} (he : SE g cl X c e) (hs : SA g cl X cs es) (hst : starEach (e :: es) X.env = (false, eval e X.env) :: starEach es X.env) : SA g cl X (.cons c cs) (e :: es) := fun W tk => ⟨fun pos pins s σ H Q I z => by
  obtain ⟨α, ρ, M, rl, rh, h⟩ := z
  refine (pa_cons (he W tk) (hs W tk) hst).run pos pins s σ H Q I ?_
  rw [evs] at h
  exact tE.go rl rh h fun v H1 α1 M1 d nx rl rh rv h => tAs.go rl rh h fun vs H2 α2 M2 ds nx2 rl rh rvs h => Ho.pure rh h (.cons (rv.mono nx2) rvs)⟩
theorem se_tup {cs : CEs} {es : List PySem.Expr} {x1 : Nat} {pos : Pos} (hs : SA g cl X cs es) : SE g cl X (.tup cs) (.Tuple es x1 pos) := fun W tk =>
  (pe_tup (hs W tk)).imp fun σ H Q z => by
    obtain ⟨α, ρ, M, rl, rh, h⟩ := z
    rw [ev] at h
    refine tAs.go rl rh h fun vs H2 α2 M2 ds nx2 rl rh rvs h => ?_
    obtain ⟨hl, h⟩ := ask_runD h
    rw [lim_eq, rvs.length] at hl
    exact ⟨hl, fun p n => Ho.ok (α' := α2) h (nx_fresh n) (rh.tup n) (.tup (.inl (.inl upd_same)) (rvs.mono (nx_fresh n)))⟩
theorem se_lst {cs : CEs} {es : List PySem.Expr} {pos : Pos} (hs : SA g cl X cs es) : SE g cl X (.lst cs) (.List es pos) := fun W tk =>
  (pe_lst (hs W tk)).imp fun σ H Q z => by
    obtain ⟨α, ρ, M, rl, rh, h⟩ := z
    rw [ev] at h
    refine tAs.go rl rh h fun vs H2 α2 M2 ds nx2 rl rh rvs h => ?_
    obtain ⟨hl, h⟩ := ask_runD h
    rw [lim_eq, rvs.length] at hl
    exact ⟨hl, fun p n => Ho.newLst rh h rvs n⟩
theorem se_bin {op : BOp} {a b : CE} {ea eb : PySem.Expr} {pos : Pos} (ha : SE g cl X a ea) (hb : SE g cl X b eb) : SE g cl X (.bin op a b) (.BinOp ea (bOp op) eb pos) := fun W tk => ⟨fun pins s σ H Q I z => by
  refine (pe_op (opR_bop (W := fun x d H => W x d σ H) op) (ha W tk) (hb W tk)).run pins s σ H Q I ?_
  obtain ⟨α, ρ, M, rl, rh, h⟩ := z
  rw [ev] at h
  exact tE.go rl rh h fun v H1 α1 M1 d nx rl rh rv h => tE.go rl rh h fun u H2 α2 M2 e nx2 rl rh ru h => ⟨α2, M2, d, e, rh, rv.mono nx2, ru, h⟩⟩
theorem se_neg {a : CE} {ea : PySem.Expr} {pos : Pos} (ha : SE g cl X a ea) : SE g cl X (.neg a) (.UnaryOp .USub ea pos) := fun W tk =>
  (pe_un un_neg (ha W tk)).imp fun σ H Q z => by
    obtain ⟨α, ρ, M, rl, rh, h⟩ := z
    rw [ev] at h
    refine tE.go rl rh h fun v H1 α1 M1 d nx rl rh rv h => ?_
    cases d with
    | int i => cases rv; exact ⟨i, rfl, Ho.pure rh h (.int _)⟩
    | _ => exact h.elim
theorem se_cmp (hu : X.A.units + 65 < cLine) {op : COp} {a b : CE} {ea eb : PySem.Expr} {pos : Pos} (ha : SE g cl X a ea) (hb : SE g cl X b eb) (hm : behindInMarks (cOp op) eb = false) : SE g cl X (.cmp op a b) (.Compare ea [cOp op] [eb] pos) := fun W tk => ⟨fun pins s σ H Q I z => by
  refine (pe_cmpR (opR_cop (W := fun x d H => W x d σ H) hu op) (ha W tk) (hb W tk) hm).run pins s σ H Q I ?_
  obtain ⟨α, ρ, M, rl, rh, h⟩ := z
  rw [ev] at h
  refine tE.go rl rh h fun v H1 α1 M1 d nx rl rh rv h => tE.go rl rh h fun u H2 α2 M2 e nx2 rl rh ru h => ⟨α2, M2, d, e, rh, rv.mono nx2, ru, ?_⟩
  exact (Ho.bind (R := fun _ _ b v => v = V.bl b) h).mono fun v H3 z => by
    obtain ⟨b, M3, α3, nx3, rh3, rfl, h3⟩ := z
    exact Ho.pure rh3 h3 (.bl _)⟩
theorem st_cmp (hu : X.A.units + 65 < cLine) {op : COp} {a b : CE} {ea eb : PySem.Expr} {pos : Pos} (ha : SE g cl X a ea) (hb : SE g cl X b eb) (hm : behindInMarks (cOp op) eb = false) : STt g cl X (.cmp op a b) (.Compare ea [cOp op] [eb] pos) := fun W tk => ⟨fun pins s σ H Q I z => by
  refine (pt_cmpR (opR_cop (W := fun x d H => W x d σ H) hu op) (ha W tk) (hb W tk) hm).run pins s σ H Q I ?_
  obtain ⟨α, ρ, M, rl, rh, h⟩ := z
  rw [evT, ev] at h
  simp only [bind_assoc, tTest] at h ⊢
  refine tE.go rl rh h fun v H1 α1 M1 d nx rl rh rv h => tE.go rl rh h fun u H2 α2 M2 e nx2 rl rh ru h => ⟨α2, M2, d, e, rh, rv.mono nx2, ru, ?_⟩
  exact (Ho.bind (R := fun _ _ b v => v = V.bl b) h).mono fun v H3 z => by
    obtain ⟨b, M3, α3, nx3, rh3, rfl, h3⟩ := z
    exact ⟨b, rfl, Ho.pure rh3 h3 rfl⟩⟩
end
end Sb
end
section
set_option Elab.async false
set_option linter.all false
set_option maxRecDepth 100000
set_option maxHeartbeats 2000000
namespace Sb
open PySem PySem.Spec PyProof.Rows L2
section
variable {g : G} {cl : Cls} {X : Cx}
theorem chain_of (hu : X.A.units + 65 < cLine) {op1 op2 : COp} {a b c : CE} {ea eb ec : PySem.Expr} (ha : SE g cl X a ea) (hb : SE g cl X b eb) (hc : SE g cl X c ec) (W : WX) (tk : Takes X W) {σ : L2.St} {H : Hp} {Q : VK} {Q2 : D → VK}
    {α : List Addr} {ρ : Env} {M : List Ob} (rl : RL X.K α H ρ σ) (rh : RH X.gd α M H) (h : Ho X.gd (fun x d H => W x d σ H) (RV X.K) (ev g cl ρ (.cmp2 op1 op2 a b c) M) α H Q) :
    tChain (rC X.gd (fun x d H => W x d σ H) (cop op1)) (rC X.gd (fun x d H => W x d σ H) (cop op2)) (tE X.gd g cl W a) (tE X.gd g cl W b) (tE X.gd g cl W c) σ H Q := by
  rw [ev] at h
  refine tE.go rl rh h fun v H1 α1 M1 d nx rl rh rv h => tE.go rl rh h fun u H2 α2 M2 e nx2 rl rh ru h => ⟨α2, M2, d, e, rh, rv.mono nx2, ru, ?_⟩
  refine (Ho.bind (R := fun _ _ b v => v = V.bl b) h).mono fun v H3 z => ?_
  obtain ⟨k, M3, α3, nx3, rh, rfl, h⟩ := z
  refine ⟨k, rfl, ?_⟩
  cases k with
  | false => exact Ho.pure rh h (.bl _)
  | true =>
    rw [if_pos rfl]
    refine tE.go (rl.mono nx3) rh h fun w H4 α4 M4 f nx4 rl rh rw' h => ⟨α4, M4, e, f, rh, (ru.mono nx3).mono nx4, rw', ?_⟩
    exact (Ho.bind (R := fun _ _ b v => v = V.bl b) h).mono fun v H3 z => by
      obtain ⟨b, M3, α3, nx3, rh3, rfl, h3⟩ := z
      exact Ho.pure rh3 h3 (.bl _)
theorem se_cmp2 (hu : X.A.units + 65 < cLine) {op1 op2 : COp} {a b c : CE} {ea eb ec : PySem.Expr} {pos : Pos} (ha : SE g cl X a ea) (hb : SE g cl X b eb) (hc : SE g cl X c ec) (hm : lastMarks [cOp op1, cOp op2] [eb, ec] = false) : SE g cl X (.cmp2 op1 op2 a b c) (.Compare ea [cOp op1, cOp op2] [eb, ec] pos) := fun W tk => ⟨fun pins s σ H Q I z => by
  obtain ⟨α, ρ, M, rl, rh, h⟩ := z
  exact (pe_chain (opR_cop (W := fun x d H => W x d σ H) hu op1) (opR_cop (W := fun x d H => W x d σ H) hu op2) (ha W tk) (hb W tk) (hc W tk) hm).run pins s σ H Q I (chain_of (Q2 := fun _ => Q) hu ha hb hc W tk rl rh h)⟩
theorem ho_test {σ : L2.St} {W : WX} {c : CE} {α : List Addr} {ρ : Env} {M : List Ob} {H : Hp} {Q : Bool → Hp → Prop} (hb : ∀ d M', ev g cl ρ c M = .ok d M' → ∃ b, d = .bl b) (h : Ho X.gd (fun x d H => W x d σ H) (fun _ _ b v => v = b) (evT g cl c ρ M) α H Q) : Ho X.gd (fun x d H => W x d σ H) (RV X.K) (ev g cl ρ c M) α H (fun v H1 => ∃ b, v = .bl b ∧ Q b H1) := by
  rw [evT, CM.bind_run] at h
  cases e : ev g cl ρ c M with
  | ok d M' =>
    rw [e] at h
    obtain ⟨b, rfl⟩ := hb d M' e
    intro α' v H' nx rh rv
    cases rv
    exact ⟨b, rfl, h α' b H' nx rh rfl⟩
  | ex x M' => rw [e] at h; exact h
  | no => rw [e] at h; exact h.elim
theorem st_cmp2 (hu : X.A.units + 65 < cLine) {op1 op2 : COp} {a b c : CE} {ea eb ec : PySem.Expr} {pos : Pos} (ha : SE g cl X a ea) (hb : SE g cl X b eb) (hc : SE g cl X c ec) (hm : lastMarks [cOp op1, cOp op2] [eb, ec] = false) : STt g cl X (.cmp2 op1 op2 a b c) (.Compare ea [cOp op1, cOp op2] [eb, ec] pos) := fun W tk => ⟨fun pins s σ H Q I z => by
  obtain ⟨α, ρ, M, rl, rh, h⟩ := z
  refine (pt_chain (opR_cop (W := fun x d H => W x d σ H) hu op1) (opR_cop (W := fun x d H => W x d σ H) hu op2) (ha W tk) (hb W tk) (hc W tk) hm).run pins s σ H Q I ?_
  refine chain_of (Q2 := fun _ _ _ => True) hu ha hb hc W tk rl rh (ho_test ?_ h)
  intro d M' e
  have bl2 : ∀ {op : COp} {x y : D} {M : List Ob}, ((cop op x y >>= fun r => (pure (.bl r) : CM D)) M) = .ok d M' → ∃ b, d = .bl b := by
    intro op x y M e
    rw [CM.bind_run] at e
    cases q : cop op x y M with
    | ok b M1 => rw [q] at e; cases e; exact ⟨b, rfl⟩
    | ex _ _ => rw [q] at e; cases e
    | no => rw [q] at e; cases e
  rw [ev, CM.bind_run] at e
  cases q1 : ev g cl ρ a M with
  | ok x M1 =>
    rw [q1] at e; dsimp only at e
    rw [CM.bind_run] at e
    cases q2 : ev g cl ρ b M1 with
    | ok y M2 =>
      rw [q2] at e; dsimp only at e
      rw [CM.bind_run] at e
      cases q3 : cop op1 x y M2 with
      | ok k M3 =>
        rw [q3] at e; dsimp only at e
        cases k with
        | false => cases e; exact ⟨_, rfl⟩
        | true =>
          dsimp only at e
          rw [CM.bind_run] at e
          cases q4 : ev g cl ρ c M3 with
          | ok w M4 => rw [q4] at e; exact bl2 e
          | ex _ _ => rw [q4] at e; cases e
          | no => rw [q4] at e; cases e
      | ex _ _ => rw [q3] at e; cases e
      | no => rw [q3] at e; cases e
    | ex _ _ => rw [q2] at e; cases e
    | no => rw [q2] at e; cases e
  | ex _ _ => rw [q1] at e; cases e
  | no => rw [q1] at e; cases e⟩
theorem se_and {a b : CE} {ea e1 : PySem.Expr} {es : List PySem.Expr} {pos : Pos} (ha : SE g cl X a ea) (hb : SE g cl X b (.BoolOp .And (e1 :: es) pos)) : SE g cl X (.and a b) (.BoolOp .And (ea :: e1 :: es) pos) := fun W tk =>
  (pe_and (ha W tk) (hb W tk)).imp fun σ H Q z => by
    obtain ⟨α, ρ, M, rl, rh, h⟩ := z
    rw [ev] at h
    refine tE.go rl rh h fun v H1 α1 M1 d nx rl rh rv h => ?_
    cases d with
    | bl c =>
      cases rv
      refine ⟨c, rfl, ?_⟩
      cases c with
      | false => exact Ho.pure rh h (.bl _)
      | true => rw [if_pos rfl]; exact ⟨α1, ρ, M1, rl, rh, h⟩
    | _ => exact h.elim
theorem se_or {a b : CE} {ea e1 : PySem.Expr} {es : List PySem.Expr} {pos : Pos} (ha : SE g cl X a ea) (hb : SE g cl X b (.BoolOp .Or (e1 :: es) pos)) : SE g cl X (.or a b) (.BoolOp .Or (ea :: e1 :: es) pos) := fun W tk =>
  (pe_or (ha W tk) (hb W tk)).imp fun σ H Q z => by
    obtain ⟨α, ρ, M, rl, rh, h⟩ := z
    rw [ev] at h
    refine tE.go rl rh h fun v H1 α1 M1 d nx rl rh rv h => ?_
    cases d with
    | bl c =>
      cases rv
      refine ⟨c, rfl, ?_⟩
      cases c with
      | true => rw [if_pos rfl]; exact Ho.pure rh h (.bl _)
      | false => exact ⟨α1, ρ, M1, rl, rh, h⟩
    | _ => exact h.elim
theorem se_one {op : BoolOp} {a : CE} {e : PySem.Expr} {pos : Pos} (ha : SE g cl X a e) : SE g cl X a (.BoolOp op [e] pos) := fun W tk => pe_one (ha W tk)
theorem se_not {a : CE} {e : PySem.Expr} {pos : Pos} (ha : SE g cl X a e) : SE g cl X (.not a) (.UnaryOp .Not e pos) := fun W tk =>
  (pe_notT (ha W tk)).imp fun σ H Q z => by
    obtain ⟨α, ρ, M, rl, rh, h⟩ := z
    rw [ev] at h
    refine tE.go rl rh h fun v H1 α1 M1 d nx rl rh rv h => ?_
    refine truV_of (W := fun x d H => W x d σ H) rh rv ((Ho.bind (R := fun _ _ b v => v = b) h).mono fun b H2 z => ?_)
    obtain ⟨b, M2, α2, nx2, rh2, rfl, h2⟩ := z
    exact Ho.pure rh2 h2 (.bl _)
theorem se_ite {c a b : CE} {ec ea eb : PySem.Expr} {pos : Pos} (hc : STt g cl X c ec) (ha : SE g cl X a ea) (hb : SE g cl X b eb) : SE g cl X (.ite c a b) (.IfExp ec ea eb pos) := fun W tk =>
  (pe_ifExp (hc W tk) (ha W tk) (hb W tk)).imp fun σ H Q z => by
    obtain ⟨α, ρ, M, rl, rh, h⟩ := z
    rw [ev] at h
    have h' : Ho X.gd (fun x d H => W x d σ H) (RV X.K) ((evT g cl c ρ >>= fun t => match t with | true => ev g cl ρ a | false => ev g cl ρ b) M) α H Q := by
      unfold evT
      rw [bind_assoc]
      exact h
    refine tT.go rl rh h' fun k H1 α1 M1 nx rl rh h => ?_
    cases k with
    | true => rw [if_pos rfl]; exact ⟨α1, ρ, M1, rl, rh, h⟩
    | false => rw [if_neg Bool.false_ne_true]; exact ⟨α1, ρ, M1, rl, rh, h⟩
theorem se_idx (hu : X.A.units + 65 < cLine) {a b : CE} {ea eb : PySem.Expr} {pos : Pos} (ha : SE g cl X a ea) (hb : SE g cl X b eb) (hs : PlainIx eb) : SE g cl X (.idx a b) (.Subscript ea eb pos) := fun W tk => ⟨fun pins s σ H Q I z => by
  refine (pe_ix (ix_core (W := fun x d H => W x d σ H) (by omega)) (ha W tk) (hb W tk) hs).run pins s σ H Q I ?_
  obtain ⟨α, ρ, M, rl, rh, h⟩ := z
  rw [ev] at h
  exact tE.go rl rh h fun v H1 α1 M1 d nx rl rh rv h => tE.go rl rh h fun u H2 α2 M2 e nx2 rl rh ru h => ⟨α2, M2, d, e, rh, rv.mono nx2, ru, h⟩⟩
def SO (g : G) (cl : Cls) (X : Cx) (c : CE) (e : Option PySem.Expr) : Prop := ∀ W, Takes X W → ∃ t, PO X e t ∧ ∀ {σ H α ρ M} {A B : Type} {f : Option Int → CM A} {R : List Addr → Hp → A → B → Prop} {Q : B → Hp → Prop} {Q' : Option Int → Hp → Prop}, RL X.K α H ρ σ → RH X.gd α M H → Ho X.gd (fun x d H => W x d σ H) R ((ev g cl ρ c >>= fun l => part c.isNon l >>= f) M) α H Q →
  (∀ o H1 α1 M1, Nx X.K α H α1 H1 → RL X.K α1 H1 ρ σ → RH X.gd α1 M1 H1 → Ho X.gd (fun x d H => W x d σ H) R (f o M1) α1 H1 Q → Q' o H1) → t σ H Q'
theorem so_none : SO g cl X (.cst .non) none := fun W tk => ⟨_, po_none, fun {σ H α ρ M A B f R Q Q'} rl rh h k => by
  exact k none H α M .refl rl rh h⟩
theorem so_some {c : CE} {e : PySem.Expr} (he : SE g cl X c e) (hn : c.isNon = false) : SO g cl X c (some e) := fun W tk => ⟨_, po_some (he W tk), fun {σ H α ρ M A B f R Q Q'} rl rh h k => by
  refine tE.go rl rh h fun v H1 α1 M1 d nx rl rh rv h => ?_
  rw [hn] at h
  cases d with
  | int i => cases rv; exact ⟨i, rfl, k _ _ _ _ nx rl rh h⟩
  | _ => exact h.elim⟩
theorem se_slc {a lo hi : CE} {e : PySem.Expr} {elo ehi : Option PySem.Expr} {pos p2 : Pos} (ha : SE g cl X a e) (hl : SO g cl X lo elo) (hh : SO g cl X hi ehi) : SE g cl X (.slc a lo hi) (.Subscript e (.Slice elo ehi none p2) pos) := fun W tk => ⟨fun pins s σ H Q I z => by
  obtain ⟨tl, pl, kl⟩ := hl W tk
  obtain ⟨th, ph, kh⟩ := hh W tk
  refine (pe_slice (sl_core (W := fun x d H => W x d σ H)) (ha W tk) pl ph).run pins s σ H Q I ?_
  obtain ⟨α, ρ, M, rl, rh, h⟩ := z
  rw [ev] at h
  exact tE.go rl rh h fun v H1 α1 M1 d nx rl rh rv h => kl rl rh h fun l H2 α2 M2 nx2 rl rh h => kh rl rh h fun u H3 α3 M3 nx3 rl rh h => ⟨α3, M3, d, rh, (rv.mono nx2).mono nx3, h⟩⟩
def NaOk (g : G) (K : Frag) : Prop := ∀ c f, g.na c f = true → L2.Cls K (cad K c) ∧ NoAttr K (cad K c) (Str.ofString f)
theorem attr_bind {Γ : Gd} {W : XW} {A B : Type} {x : D} {f : String} {k : D → CM A} {R : List Addr → Hp → A → B → Prop} {α : List Addr} {M : List Ob} {H : Hp} {Q : B → Hp → Prop} {v : V} (na : NaOk g Γ.K) (rh : RH Γ α M H) (rv : RV Γ.K α H x v) (h : Ho Γ W R ((attr g.na x f >>= k) M) α H Q) :
    ∃ a c dx fs gs d u i, x = .ref i ∧ v = .ref a ∧ M[i]? = some (.ins c fs) ∧ α[i]? = some a ∧ H a = some (.ins (cad Γ.K c) dx gs) ∧ RF Γ.K α H fs gs ∧ L2.Cls Γ.K (cad Γ.K c) ∧ NoAttr Γ.K (cad Γ.K c) (Str.ofString f) ∧ gs.lookup (Str.ofString f) = some u ∧ RV Γ.K α H d u ∧ Ho Γ W R (k d M) α H Q := by
  cases x with
  | ref i =>
    unfold attr at h
    rw [bind_assoc] at h
    obtain ⟨o, eo, h⟩ := get_bind h
    cases o with
    | ins c fs =>
      dsimp only at h
      rw [bind_assoc] at h
      obtain ⟨hn, h⟩ := ask_run h
      obtain ⟨d, ed, h⟩ := opt_bind h
      cases rv with
      | ref ha =>
        obtain ⟨dx, gs, e1, rf⟩ := rh.ob _ _ _ eo ha
        rcases getF_rel (f := f) rf with ⟨l1, _⟩ | ⟨d', u, l1, l2, r⟩
        · rw [l1] at ed; cases ed
        · rw [l1] at ed; cases ed
          exact ⟨_, c, dx, fs, gs, _, u, i, rfl, rfl, eo, ha, e1, rf, (na c f hn).1, (na c f hn).2, l2, r, h⟩
    | _ => exact h.elim
  | _ => exact h.elim
theorem se_att (na : NaOk g X.K) {a : CE} {e : PySem.Expr} {f : String} {pos : Pos} (ha : SE g cl X a e) (hb : attributeBase e (Str.ofString f) X.env (eval e X.env) = eval e X.env) : SE g cl X (.att a f) (.Attribute e (Str.ofString f) pos) := fun W tk =>
  (pe_fld (ha W tk) hb).imp fun σ H Q z => by
    obtain ⟨α, ρ, M, rl, rh, h⟩ := z
    rw [ev] at h
    refine tE.go rl rh h fun v H1 α1 M1 d nx rl rh rv h => ?_
    rw [← bind_pure (attr g.na d f)] at h
    obtain ⟨a, c, dx, fs, gs, d, u, i, -, rfl, -, -, e1, -, cc, nn, l, r, h⟩ := attr_bind na rh rv h
    exact ⟨a, _, dx, gs, u, rfl, e1, cc, nn, l, Ho.pure rh h r⟩
theorem tru_core {W : XW} : TruR X (fun v H Q => ∃ α M x, RH X.gd α M H ∧ RV X.K α H x v ∧ Ho X.gd W (fun _ _ b c => c = b) (truth x M) α H Q) := by
  rintro pins s σ H v ov Q I rv ⟨α, M, x, rh, rx, h⟩
  exact tru_ok pins s σ H v ov Q I rv (truV_of rh rx h)
theorem st_val {c : CE} {e : PySem.Expr} (hc : SE g cl X c e) (he : ∀ whole, PySem.isTrue e X.env whole = (do let v ← whole; standAt e.pos; holding [v] (truthy v))) : STt g cl X c e := fun W tk => ⟨fun pins s σ H Q I z => by
  refine (pt_truthR (hc W tk) (tru_core (W := fun x d H => W x d σ H)) he).run pins s σ H Q I ?_
  obtain ⟨α, ρ, M, rl, rh, h⟩ := z
  rw [evT] at h
  exact tE.go rl rh h fun v H1 α1 M1 d nx rl rh rv h => ⟨α1, M1, d, rh, rv, h⟩⟩
theorem PT.imp {X : Cx} {e : PySem.Expr} {t t' : TT} (h : PT X e t) (i : ∀ σ H Q, t' σ H Q → t σ H Q) : PT X e t' := ⟨fun pins s σ H Q I q => h.run pins s σ H Q I (i σ H Q q)⟩
theorem PW.imp {X : Cx} {e : PySem.Expr} {t t' : TT} (h : PW X e t) (i : ∀ σ H Q, t' σ H Q → t σ H Q) : PW X e t' := ⟨fun w pins s σ H Q I q => h.run w pins s σ H Q I (i σ H Q q)⟩
theorem st_not {a : CE} {e : PySem.Expr} {pos : Pos} (ha : STt g cl X a e) : STt g cl X (.not a) (.UnaryOp .Not e pos) := fun W tk =>
  PT.imp (pt_not (ha W tk)) fun σ H Q z => by
    obtain ⟨α, ρ, M, rl, rh, h⟩ := z
    rw [evT, ev] at h
    have h' : Ho X.gd (fun x d H => W x d σ H) (fun _ _ b v => v = b) ((evT g cl a ρ >>= fun r => (pure (!r) : CM Bool)) M) α H Q := by
      unfold evT
      rw [bind_assoc]
      rw [bind_assoc] at h
      simp only [bind_assoc, pure_bind] at h
      exact h
    exact tT.go rl rh h' fun k H1 α1 M1 nx rl rh h => Ho.pure rh h rfl
theorem sw_and1 {a : CE} {e : PySem.Expr} {pos : Pos} (ha : STt g cl X a e) : SW g cl X a (.BoolOp .And [e] pos) := fun W tk => pw_and1 (ha W tk)
theorem sw_or1 {a : CE} {e : PySem.Expr} {pos : Pos} (ha : STt g cl X a e) : SW g cl X a (.BoolOp .Or [e] pos) := fun W tk => pw_or1 (ha W tk)
theorem evT_and {ρ : Env} {a b : CE} {α : List Addr} {M : List Ob} {H : Hp} {W : XW} {Q : Bool → Hp → Prop} (h : Ho X.gd W (fun _ _ b v => v = b) (evT g cl (.and a b) ρ M) α H Q) : Ho X.gd W (fun _ _ b v => v = b) ((evT g cl a ρ >>= fun k => if k = true then evT g cl b ρ else pure false) M) α H Q := by
  unfold evT at h ⊢
  rw [ev] at h
  simp only [bind_assoc] at h ⊢
  rw [CM.bind_run] at h ⊢
  cases q : ev g cl ρ a M with
  | ok d M1 =>
    rw [q] at h; dsimp only at h ⊢
    cases d with
    | bl c => cases c <;> exact h
    | _ => exact h.elim
  | ex x M1 => rw [q] at h; exact h
  | no => rw [q] at h; exact h
theorem evT_or {ρ : Env} {a b : CE} {α : List Addr} {M : List Ob} {H : Hp} {W : XW} {Q : Bool → Hp → Prop} (h : Ho X.gd W (fun _ _ b v => v = b) (evT g cl (.or a b) ρ M) α H Q) : Ho X.gd W (fun _ _ b v => v = b) ((evT g cl a ρ >>= fun k => if k = true then pure true else evT g cl b ρ) M) α H Q := by
  unfold evT at h ⊢
  rw [ev] at h
  simp only [bind_assoc] at h ⊢
  rw [CM.bind_run] at h ⊢
  cases q : ev g cl ρ a M with
  | ok d M1 =>
    rw [q] at h; dsimp only at h ⊢
    cases d with
    | bl c => cases c <;> exact h
    | _ => exact h.elim
  | ex x M1 => rw [q] at h; exact h
  | no => rw [q] at h; exact h
theorem sw_and {a b : CE} {ea e1 : PySem.Expr} {es : List PySem.Expr} {pos : Pos} (ha : STt g cl X a ea) (hb : SW g cl X b (.BoolOp .And (e1 :: es) pos)) : SW g cl X (.and a b) (.BoolOp .And (ea :: e1 :: es) pos) := fun W tk =>
  PW.imp (pw_and (ha W tk) (hb W tk)) fun σ H Q z => by
    obtain ⟨α, ρ, M, rl, rh, h⟩ := z
    refine tT.go rl rh (evT_and h) fun k H1 α1 M1 nx rl rh h => ?_
    cases k with
    | true => rw [if_pos rfl] at h ⊢; exact ⟨α1, ρ, M1, rl, rh, h⟩
    | false => rw [if_neg Bool.false_ne_true] at h ⊢; exact Ho.pure rh h rfl
theorem sw_or {a b : CE} {ea e1 : PySem.Expr} {es : List PySem.Expr} {pos : Pos} (ha : STt g cl X a ea) (hb : SW g cl X b (.BoolOp .Or (e1 :: es) pos)) : SW g cl X (.or a b) (.BoolOp .Or (ea :: e1 :: es) pos) := fun W tk =>
  PW.imp (pw_or (ha W tk) (hb W tk)) fun σ H Q z => by
    obtain ⟨α, ρ, M, rl, rh, h⟩ := z
    refine tT.go rl rh (evT_or h) fun k H1 α1 M1 nx rl rh h => ?_
    cases k with
    | true => rw [if_pos rfl] at h ⊢; exact Ho.pure rh h rfl
    | false => rw [if_neg Bool.false_ne_true] at h ⊢; exact ⟨α1, ρ, M1, rl, rh, h⟩
theorem st_sw {c : CE} {e : PySem.Expr} (h : SW g cl X c e) : STt g cl X c e := fun W tk => (h W tk).pt
end
end Sb
end
section
set_option Elab.async false
set_option linter.all false
set_option maxRecDepth 100000
set_option maxHeartbeats 2000000
namespace Sb
open PySem PySem.Spec PyProof.Rows L2
def nsup : PySem.Expr → Bool
  | .Call (.Name id _) [] [] _ => id != Str.ofString "super"
  | _ => true
theorem ab_nsup {o : PySem.Expr} {f : Str} {env : PySem.Env} {w : Sem Value} (h : nsup o = true) : attributeBase o f env w = w := by
  unfold attributeBase
  split
  · rw [if_pos]; simp [nsup] at h; simp [h]
  · rfl
def star0 : PySem.Expr → Bool
  | .Starred _ _ => false
  | _ => true
theorem star_cons {e : PySem.Expr} {es : List PySem.Expr} {env : PySem.Env} (h : star0 e = true) : starEach (e :: es) env = (false, eval e env) :: starEach es env := by
  cases e <;> first | rfl | cases h
theorem backTo_stars {es : List PySem.Expr} {env : PySem.Env} {pos : Pos} (h : es.all star0 = true) : backTo pos (starEach es env) = starEach es env ∧ ((starEach es env).any fun x => x.1) = false ∧ ((starEach es env).all fun x => !x.1) = true := by
  induction es with
  | nil => exact ⟨rfl, rfl, rfl⟩
  | cons e es ih =>
    simp only [List.all_cons, Bool.and_eq_true] at h
    obtain ⟨i1, i2, i3⟩ := ih h.2
    rw [star_cons h.1]
    refine ⟨?_, ?_, ?_⟩
    · unfold backTo at i1 ⊢
      rw [List.map_cons, i1]
      rfl
    · rw [List.any_cons, i2]; rfl
    · rw [List.all_cons, i3]; rfl
theorem no_stars {es : List PySem.Expr} {env : PySem.Env} {pos : Pos} (h : es.all star0 = true) : ((backTo pos (starEach es env)).any fun x => x.1) = false := by
  rw [(backTo_stars h).1]; exact (backTo_stars (pos := pos) h).2.1
theorem mcf {args : List PySem.Expr} {env : PySem.Env} {pos : Pos} (h : args.all star0 = true) (hl : args.length < 20) : methodCallForm args.length (backTo pos (starEach args env)) [] = true := by
  unfold methodCallForm
  rw [(backTo_stars h).1, (backTo_stars (pos := pos) h).2.2]
  simp; omega
theorem meth_eq {o : PySem.Expr} (h : nsup o = true) {name : Str} {apos pos : Pos} {args : List PySem.Expr} {env : PySem.Env} (hf : args.all star0 = true) (hn : args.length < 20) (hl : (apos.endLine == pos.line) = true) : (eval ((o.Attribute name apos).Call args [] pos) env = (do
          let ov ← eval o env
          standAt apos.atName
          let __x ← holding [ov] (getMethod ov name (do
             let __do_lift ← importBound o env
             pure (__do_lift.getD true)))
          match __x with
            | (f, first) => callWith pos f first (backTo pos (starEach args env)) (backToKw pos (keywordEach [] env)))) := by
  conv => lhs; unfold eval
  have e2 : methodCallForm (args.length + [].length (α := Keyword)) (backTo pos (starEach args env)) (backToKw pos (keywordEach [] env)) = true := mcf hf hn
  simp only [ab_nsup h, methodCall, e2, calleeOf, methodCallPos, if_true, hl]
  rfl
theorem m2_of {X : Cx} {o e f : PySem.Expr} {m : Str} {apos cpos : Pos} (h : nsup o = true) (hs : star0 e = true) (hf : star0 f = true) (hl : (apos.endLine == cpos.line) = true) : M2 X o m apos e f cpos := by
  have h2 : [e, f].all star0 = true := by simp [hs, hf]
  refine ⟨ab_nsup h, ?_, hl, ?_⟩
  · rw [(backTo_stars h2).1, (backTo_stars (pos := cpos) h2).2.2]; rfl
  · rw [(backTo_stars h2).1, star_cons hs, star_cons hf]; rfl
def bnames : List String := ["len", "int", "abs", "max", "min", "list", "tuple", "isinstance", "range", "enumerate", "str", "sorted", "set", "sum", "any", "all", "bool", "dict"]
def spF (Γ : Gd) (cl : Cls) (f : String) (pn : Nat) : Sp := fun vs H Q E => ∃ α M ds, RH Γ α M H ∧ RVs Γ.K α H ds vs ∧ ds.length = pn ∧ Ho Γ E (RV Γ.K) (cl f ds M) α H Q
structure FnAt (cl : Cls) (X : Cx) (f : String) (fd : Fn) (fa : Addr) : Prop where
  run : ∃ k fdd ps, FnOk X.prog X.w X.K X.mg X.base (L2.CX X.prog X.w) k fa fdd ps (spF X.gd cl f fd.pn) ∧ Room (k + 1) X.A ∧ ps.length = fd.pn ∧ ∀ j, j ≤ fd.dfl.length → ∃ ds dvs, L2.Binds X.K fdd ps ds ∧ Vals dvs ds ∧ ∀ α H, RVs X.K α H (fd.dfl.drop j) dvs
  kp : PySem.W.keepIn X.K (.ref fa) = true
  ar : ∀ ds M, cl f ds M ≠ .no → ds.length ≤ fd.pn ∧ fd.pn ≤ ds.length + fd.dfl.length
  pad : ∀ ds, ds.length ≤ fd.pn → fd.pn ≤ ds.length + fd.dfl.length → cl f ds = cl f (ds ++ fd.dfl.drop (ds.length + fd.dfl.length - fd.pn))
structure GX (g : G) (cl : Cls) (X : Cx) : Prop where
  calm : X.calm = true
  nd : X.N.Nodup
  un : X.A.units + 65 < cLine
  na : NaOk g X.K
  nob : ∀ b ∈ bnames, X.mg (Str.ofString b) = none
  glb : ∀ x d, g.glb x = some d → ∃ u v, X.mg (Str.ofString x) = some u ∧ L2.RelV v u ∧ ∀ α H, RV X.K α H d v
  fn : ∀ f fd, g.fn f = some fd → ∃ fa, FnAt cl X f fd fa ∧ (fd.glo = true → X.mg (Str.ofString f) = some (.ref fa)) ∧
    ∀ c m, methOf g c m = some f → L2.Cls X.K (cad X.K c) ∧ Meth X.K (cad X.K c) (Str.ofString m) fa ∧ (m = "__init__" → Mk X.K (cad X.K c) fa ∧ X.mg (Str.ofString c) = some (.ref (cad X.K c)))
  has : ∀ c m f, methOf g c m = some f → ∃ fd, g.fn f = some fd
section
variable {g : G} {cl : Cls} {X : Cx} {W : WX}
theorem vals_app {vs ws : List V} {us xs : List Value} (a : Vals vs us) (b : Vals ws xs) : Vals (vs ++ ws) (us ++ xs) := by
  induction a with
  | nil => exact b
  | cons r _ ih => exact .cons r ih
theorem run_at {f : String} {fd : Fn} {fa : Addr} (F : FnAt cl X f fd fa) (tk : Takes X W) {pins : List (Addr × Obj)} {s : Shared} {σ : L2.St} {H : Hp} {Q : VK} {ds : List D} {vs : List V} {us : List Value} {α : List Addr} {M : List Ob} (I : L2.Inv X pins σ H s) (rh : RH X.gd α M H) (rvs : RVs X.K α H ds vs) (hv : Vals vs us) (h : Ho X.gd (fun x d H => W x d σ H) (RV X.K) (cl f ds M) α H Q) :
    wpAny (model X.prog X.w) X.A (call (.ref fa) us) (EP X pins σ Q) X.xe s := by
  obtain ⟨k, fdd, ps, fok, room, hps, hd⟩ := F.run
  have hno : cl f ds M ≠ .no := fun e => by rw [e] at h; exact h
  obtain ⟨a1, a2⟩ := F.ar ds M hno
  obtain ⟨dv, dvs, hb, hvd, rd⟩ := hd (ds.length + fd.dfl.length - fd.pn) (by omega)
  refine run_fnSD (E := fun σ => fun x d H => W x d σ H) fok ⟨room.hd, by have := room.dp; omega, by have := room.un; omega⟩ hb hvd (passAt tk σ) I hv ?_
  refine ⟨α, M, ds ++ fd.dfl.drop (ds.length + fd.dfl.length - fd.pn), rh, rvs.append (rd α H), ?_, ?_⟩
  · rw [List.length_append, List.length_drop]; omega
  · rw [← F.pad ds a1 a2]; exact h
theorem callW {f : String} {fd : Fn} {fa : Addr} (F : FnAt cl X f fd fa) (tk : Takes X W) {cs : CEs} {es : List PySem.Expr} (hs : SA g cl X cs es) (h0 : es = [] → cs = .nil) (hst : es.all star0 = true) {pos : Pos} {pins : List (Addr × Obj)} {s : Shared} {σ : L2.St} {H : Hp} {Q : VK} {ds0 : List D} {vs0 : List V} {us0 : List Value} {α : List Addr} {ρ : Env} {M : List Ob}
    (I : L2.Inv X pins σ H s) (rl : RL X.K α H ρ σ) (rh : RH X.gd α M H) (rvs0 : RVs X.K α H ds0 vs0) (hv0 : Vals vs0 us0) (h : Ho X.gd (fun x d H => W x d σ H) (RV X.K) ((evs g cl ρ cs >>= fun ds => cl f (ds0 ++ ds)) M) α H Q) :
    wpAny (model X.prog X.w) X.A (callWith pos (.ref fa) us0 (backTo pos (starEach es X.env)) []) (EP X pins σ Q) X.xe s := by
  cases es with
  | nil =>
    have e := h0 rfl
    subst e
    refine PySem.W.callWith_K0 I.kIn F.kp ?_
    have h' : Ho X.gd (fun x d H => W x d σ H) (RV X.K) (cl f (ds0 ++ []) M) α H Q := h
    rw [List.append_nil] at h' ⊢
    exact run_at F tk I rh rvs0 hv0 h'
  | cons e es =>
    have hst' := hst
    simp only [List.all_cons, Bool.and_eq_true] at hst'
    refine PySem.W.callWith_K I.ok.mod.kin F.kp (thn ((hs W tk).run pos pins s σ H (fun vs H1 => ∃ ds α1 M1, Nx X.K α H α1 H1 ∧ RH X.gd α1 M1 H1 ∧ RVs X.K α1 H1 ds vs ∧ Ho X.gd (fun x d H => W x d σ H) (RV X.K) (cl f (ds0 ++ ds) M1) α1 H1 Q) I (tAs.go rl rh h fun vs H1 α1 M1 ds nx rl rh rvs h => ⟨ds, α1, M1, nx, rh, rvs, h⟩)) ?_) (star_cons hst'.1) (no_stars hst'.2)
    rintro us s1 ⟨vs, H1, I1, hv, ds, α1, M1, nx, rh1, rvs, h1⟩
    exact ⟨I1.kIn, run_at F tk I1 rh1 ((rvs0.mono nx).append rvs) (vals_app hv0 hv) h1⟩
theorem se_call (gx : GX g cl X) {f : String} {fd : Fn} {cs : CEs} {es : List PySem.Expr} {p pos : Pos} (hf : g.fn f = some fd) (hglo : fd.glo = true) (hg : Gl X (Str.ofString f)) (hd : (Str.ofString f == Str.ofString "__debug__") = false) (hs : SA g cl X cs es) (h0 : es = [] → cs = .nil) (hst : es.all star0 = true) : SE g cl X (.call f cs) (.Call (.Name (Str.ofString f) p) es [] pos) := fun W tk => ⟨fun pins s σ H Q I z => by
  obtain ⟨fa, F, hm, -⟩ := gx.fn f fd hf
  obtain ⟨α, ρ, M, rl, rh, h⟩ := z
  rw [ev] at h
  exact wpAny_Call_Name_kw (ld_glob I hg (hm hglo) (callW F tk hs h0 hst (ds0 := []) I rl rh .nil .nil h) hd)⟩
theorem passesQ {E : XK} (h : ∀ c d H, ¬ E c d H) : Passes (L2.CX X.prog X.w) X E := fun pins σ H s e s' I q => by
  obtain ⟨a, B, H', cls, d, _, _, _, _, _, _, _, q⟩ := q
  exact (h _ _ _ q).elim
theorem quiet_ok {A : Type} {m : CM A} {M M' : List Ob} {a : A} (h : quiet m M = .ok a M') : m M = .ok a M' := by
  unfold quiet at h
  cases e : m M with
  | ok b M1 => rw [e] at h; cases h; rfl
  | ex _ _ => rw [e] at h; cases h
  | no => rw [e] at h; cases h
theorem run_make_at (gx : GX g cl X) {c f : String} (hc : methOf g c "__init__" = some f) {pins : List (Addr × Obj)} {s : Shared} {σ : L2.St} {H : Hp} {Q : VK} {ds : List D} {vs : List V} {us : List Value} {α : List Addr} {M : List Ob} {W : XW} (I : L2.Inv X pins σ H s) (rh : RH X.gd α M H) (rvs : RVs X.K α H ds vs) (hv : Vals vs us)
    (h : Ho X.gd W (RV X.K) ((do
      let p ← CM.new (.ins c [])
      match ← quiet (cl f (p :: ds)) with
      | .non => pure p
      | _ => CM.fail : CM D) M) α H Q) :
    wpAny (model X.prog X.w) X.A (call (.ref (cad X.K c)) us) (EP X pins σ Q) X.xe s := by
  obtain ⟨fd, hf⟩ := gx.has c _ f hc
  obtain ⟨fa, F, -, hm⟩ := gx.fn f fd hf
  obtain ⟨cc, -, hmk⟩ := hm c _ hc
  obtain ⟨mk, -⟩ := hmk rfl
  obtain ⟨k, fdd, ps, fok, room, hps, hd⟩ := F.run
  have h' : Ho X.gd W (RV X.K) ((quiet (cl f (.ref M.length :: ds)) >>= fun r => (match r with | .non => pure (.ref M.length) | _ => CM.fail : CM D)) (M ++ [.ins c []])) α H Q := h
  rw [CM.bind_run] at h'
  cases e : quiet (cl f (.ref M.length :: ds)) (M ++ [.ins c []]) with
  | ok d M1 =>
    rw [e] at h'
    have e2 := quiet_ok e
    obtain ⟨a1, a2⟩ := F.ar _ _ (fun q => by rw [q] at e2; cases e2)
    obtain ⟨dv, dvs, hb, hvd, rd⟩ := hd ((D.ref M.length :: ds).length + fd.dfl.length - fd.pn) (by omega)
    refine run_make (E := fun _ _ _ => False) mk fok room hb hvd (passesQ fun _ _ _ q => q) I hv fun x dx n1 n2 ne => ?_
    have n3 : (upd H dx (.own x)) x = none := by rw [upd_ne (Ne.symm ne)]; exact n1
    have rh1 : RH X.gd α M (upd H dx (.own x)) := rh.move (nx_fresh n2) fun a m => upd_ne fun e => rh.fresh n2 (e ▸ m)
    have rh2 : RH X.gd (α ++ [x]) (M ++ [.ins c []]) (upd (upd H dx (.own x)) x (.ins (cad X.K c) dx [])) := rh1.new n3 ⟨dx, [], upd_same, .nil⟩
    have nx1 : Nx X.K α H (α ++ [x]) (upd (upd H dx (.own x)) x (.ins (cad X.K c) dx [])) := (nx_fresh (Γ := X.gd) n2).trans (nx_new (Γ := X.gd) n3)
    have rx : RV X.K (α ++ [x]) (upd (upd H dx (.own x)) x (.ins (cad X.K c) dx [])) (.ref M.length) (.ref x) := .ref (by rw [← rh.len, List.getElem?_append_right (Nat.le_refl _)]; simp)
    refine ⟨α ++ [x], M ++ [.ins c []], (D.ref M.length :: ds) ++ fd.dfl.drop ((D.ref M.length :: ds).length + fd.dfl.length - fd.pn), rh2, ?_, ?_, ?_⟩
    · exact RVs.append (ds := D.ref M.length :: ds) (vs := V.ref x :: vs) (.cons rx (rvs.mono nx1)) (rd _ _)
    · rw [List.length_append, List.length_drop]; omega
    · rw [← F.pad _ a1 a2, e2]
      intro α' v H' nx2 rh3 rv
      cases d with
      | non => cases rv; exact ⟨rfl, Ho.ok h' (nx1.trans nx2) rh3 (rx.mono nx2)⟩
      | _ => exact h'.elim
  | ex x M1 =>
    exfalso
    unfold quiet at e
    cases q : cl f (.ref M.length :: ds) (M ++ [.ins c []]) <;> rw [q] at e <;> cases e
  | no => rw [e] at h'; exact h'.elim
theorem se_make (gx : GX g cl X) {c f : String} {cs : CEs} {es : List PySem.Expr} {p pos : Pos} (hc : methOf g c "__init__" = some f) (hg : Gl X (Str.ofString c)) (hd : (Str.ofString c == Str.ofString "__debug__") = false) (hs : SA g cl X cs es) (h0 : es = [] → cs = .nil) (hst : es.all star0 = true) : SE g cl X (.make c cs) (.Call (.Name (Str.ofString c) p) es [] pos) := fun W tk => ⟨fun pins s σ H Q I z => by
  obtain ⟨fd, hf⟩ := gx.has c _ f hc
  obtain ⟨fa, F, -, hm⟩ := gx.fn f fd hf
  obtain ⟨cc, -, hmk⟩ := hm c _ hc
  obtain ⟨mk, hmg⟩ := hmk rfl
  obtain ⟨α, ρ, M, rl, rh, h⟩ := z
  rw [ev, hc] at h
  refine wpAny_Call_Name_kw (ld_glob I hg hmg ?_ hd)
  cases es with
  | nil =>
    have e := h0 rfl
    subst e
    exact PySem.W.callWith_K0 I.kIn mk.kp (run_make_at gx hc (ds := []) (W := fun x d H => W x d σ H) I rh .nil .nil h)
  | cons e es =>
    have hst' := hst
    simp only [List.all_cons, Bool.and_eq_true] at hst'
    refine PySem.W.callWith_K I.ok.mod.kin mk.kp (thn ((hs W tk).run pos pins s σ H (fun vs H1 => ∃ ds α1 M1, Nx X.K α H α1 H1 ∧ RH X.gd α1 M1 H1 ∧ RVs X.K α1 H1 ds vs ∧ Ho X.gd (fun x d H => W x d σ H) (RV X.K) _ α1 H1 Q) I (tAs.go rl rh h fun vs H1 α1 M1 ds nx rl rh rvs h => ⟨ds, α1, M1, nx, rh, rvs, h⟩)) ?_) (star_cons hst'.1) (no_stars hst'.2)
    rintro us s1 ⟨vs, H1, I1, hv, ds, α1, M1, nx, rh1, rvs, h1⟩
    exact ⟨I1.kIn, run_make_at gx hc (W := fun x d H => W x d σ H) I1 rh1 rvs hv h1⟩⟩
end
end Sb
end
section
set_option Elab.async false
set_option linter.all false
set_option maxRecDepth 100000
set_option maxHeartbeats 2000000
namespace Sb
open PySem PySem.Spec PyProof.Rows L2
section
variable {K : Frag} {α : List Addr} {H : Hp}
abbrev PK (K : Frag) (α : List Addr) (H : Hp) (p : D × D) (q : Key × V) : Prop := RK p.1 q.1 ∧ RV K α H p.2 q.2
theorem RK.iff {a b : D} {k l : Key} (x : RK a k) (y : RK b l) : a = b ↔ k = l := ⟨fun e => RK.fn x (e ▸ y), fun e => RK.inj x (e ▸ y)⟩
theorem any_rel {kvs : List (D × D)} {kws : List (Key × V)} {x : D} {k : Key} (r : Paired (PK K α H) kvs kws) (rx : RK x k) : (kvs.any fun p => decide (p.1 = x)) = kws.any fun q => decide (q.1 = k) := by
  induction r with
  | nil => rfl
  | cons h _ ih => rw [List.any_cons, List.any_cons, ih, decide_eq_decide.mpr (RK.iff h.1 rx)]
theorem Paired.app {A B : Type} {R : A → B → Prop} {l m : List A} {l' m' : List B} (a : Paired R l l') (b : Paired R m m') : Paired R (l ++ m) (l' ++ m') := by
  induction a with
  | nil => exact b
  | cons r _ ih => exact .cons r ih
theorem Paired.len {A B : Type} {R : A → B → Prop} {l : List A} {l' : List B} (a : Paired R l l') : l.length = l'.length := by
  induction a with
  | nil => rfl
  | cons r _ ih => rw [List.length_cons, List.length_cons, ih]
theorem putK_rel {kvs : List (D × D)} {kws : List (Key × V)} {x d : D} {k : Key} {v : V} (r : Paired (PK K α H) kvs kws) (rx : RK x k) (rv : RV K α H d v) : Paired (PK K α H) (Sb.putK x d kvs) (L2.putK kws k v) := by
  unfold Sb.putK L2.putK
  rw [any_rel r rx]
  by_cases e : (kws.any fun q => decide (q.1 = k)) = true
  · rw [if_pos e, if_pos e]
    clear e
    induction r with
    | nil => exact .nil
    | cons h _ ih =>
      rename_i p q _ _ _
      refine .cons ?_ ih
      by_cases z : p.1 = x
      · dsimp only; rw [if_pos z, if_pos ((RK.iff h.1 rx).mp z)]; exact ⟨h.1, rv⟩
      · dsimp only; rw [if_neg z, if_neg fun w => z ((RK.iff h.1 rx).mpr w)]; exact h
  · rw [if_neg e, if_neg e]
    exact Paired.app r (.cons ⟨rx, rv⟩ .nil)
theorem dropK_rel {kvs : List (D × D)} {kws : List (Key × V)} {x : D} {k : Key} (r : Paired (PK K α H) kvs kws) (rx : RK x k) : Paired (PK K α H) (Sb.dropK x kvs) (L2.dropK kws k) := by
  unfold Sb.dropK L2.dropK
  induction r with
  | nil => exact .nil
  | cons h _ ih =>
    rename_i p q _ _ _
    by_cases z : p.1 = x
    · have z2 := (RK.iff h.1 rx).mp z
      rw [List.filter_cons_of_neg (by simp [z]), List.filter_cons_of_neg (by simp [z2])]
      exact ih
    · have z2 : ¬ q.1 = k := fun w => z ((RK.iff h.1 rx).mpr w)
      rw [List.filter_cons_of_pos (by simp [z]), List.filter_cons_of_pos (by simp [z2])]
      exact .cons h ih
end
theorem dic_at {Γ : Gd} {α : List Addr} {M : List Ob} {H : Hp} (rh : RH Γ α M H) {i : Nat} {a : Addr} {t : Bool} {kvs : List (D × D)} (e : M[i]? = some (.dic t kvs)) (ha : α[i]? = some a) : t = false ∧ ∃ kws, H a = some (.dK kws) ∧ Paired (PK Γ.K α H) kvs kws := by
  obtain ⟨o, e1, rd⟩ := rh.ob _ _ _ e ha
  cases t with
  | true => exact rd.elim
  | false => obtain ⟨kws, rfl, pr⟩ := rd; exact ⟨rfl, kws, e1, pr⟩
theorem Ho.putDic {Γ : Gd} {W : XW} {A B : Type} {α : List Addr} {M : List Ob} {H : Hp} (rh : RH Γ α M H) {i : Nat} {a : Addr} {kvs : List (D × D)} {kws kws0 : List (Key × V)} (e0 : H a = some (.dK kws0)) (ha : α[i]? = some a) (pr : Paired (PK Γ.K α H) kvs kws) : Nx Γ.K α H α (upd H a (.dK kws)) ∧ RH Γ α (M.set i (.dic false kvs)) (upd H a (.dK kws)) := by
  have n : Nx Γ.K α H α (upd H a (.dK kws)) := nx_put e0 ⟨fun _ h => (by cases h), fun _ _ h => (by cases h)⟩
  exact ⟨n, rh.put ha n ⟨_, upd_same, kws, rfl, Paired.imp (fun _ _ z => ⟨z.1, z.2.mono n⟩) pr⟩⟩
theorem Ho.putLst {Γ : Gd} {α : List Addr} {M : List Ob} {H : Hp} (rh : RH Γ α M H) {i : Nat} {a : Addr} {ds : List D} {xs xs0 : List V} (e0 : H a = some (.lst xs0)) (ha : α[i]? = some a) (r : RVs Γ.K α H ds xs) : Nx Γ.K α H α (upd H a (.lst xs)) ∧ RH Γ α (M.set i (.lst ds)) (upd H a (.lst xs)) := by
  have n : Nx Γ.K α H α (upd H a (.lst xs)) := nx_put e0 ⟨fun _ h => (by cases h), fun _ _ h => (by cases h)⟩
  exact ⟨n, rh.put ha n ⟨_, upd_same, r.mono n⟩⟩
theorem seqIx_eq {n : Nat} {i : Int} {j : Nat} (h : ixOf n i = some j) : seqIndex? i n = some j := by
  unfold ixOf at h
  unfold seqIndex?
  by_cases h0 : 0 ≤ i
  · rw [if_pos h0] at h
    by_cases h1 : i < n
    · rw [if_pos h1] at h
      rw [if_neg (by omega : ¬ i < 0), if_pos (by simp; omega)]
      exact h
    · rw [if_neg h1] at h; cases h
  · rw [if_neg h0] at h
    by_cases h1 : -(n : Int) ≤ i
    · rw [if_pos h1] at h
      rw [if_pos (by omega : i < 0), if_pos (by simp; omega)]
      exact h
    · rw [if_neg h1] at h; cases h
def rMt (Γ : Gd) (W : XW) (m : String) : V → List V → Hp → VK → Prop := fun x vs H Q => ∃ α M i xs ds, RH Γ α M H ∧ RV Γ.K α H (.ref i) x ∧ M[i]? = some (.lst xs) ∧ RVs Γ.K α H ds vs ∧ Ho Γ W (RV Γ.K) (lstMeth i xs m ds M) α H Q
section
variable {X : Cx} {W : XW}
theorem mtc_append : MtR X "list.append" (rMt X.gd W "append") := by
  rintro pins s σ H x vs v us Q I rx rvs ⟨α, M, i, xs, ds, rh, r0, e, rd, h⟩
  obtain ⟨a, ys, rfl, ha, e1, as⟩ := RV.lst rh r0 e
  cases rd with
  | nil => exact h.elim
  | cons r1 rd =>
    cases rd with
    | cons _ _ => exact h.elim
    | nil =>
      obtain ⟨hl, h⟩ := ask_runD h
      rw [lim_eq, as.length] at hl
      obtain ⟨_, h⟩ := put_bind h
      obtain ⟨n, rh2⟩ := Ho.putLst rh e1 ha (as.append (.cons r1 .nil))
      exact mt_append pins s σ H _ _ v us Q I rx rvs ⟨a, ys, _, rfl, rfl, e1, hl, Ho.ok h n rh2 .non⟩
theorem mtc_extend : MtR X "list.extend" (rMt X.gd W "extend") := by
  rintro pins s σ H x vs v us Q I rx rvs ⟨α, M, i, xs, ds, rh, r0, e, rd, h⟩
  obtain ⟨a, ys, rfl, ha, e1, as⟩ := RV.lst rh r0 e
  cases rd with
  | nil => exact h.elim
  | cons r1 rd =>
    cases rd with
    | cons _ _ => cases r1 <;> exact h.elim
    | nil =>
      cases r1 with
      | ref hb =>
        obtain ⟨es, e2, h⟩ := lstIt_bind h
        obtain ⟨zs, e3, bs⟩ := rh.ob _ _ _ e2 hb
        obtain ⟨hl, h⟩ := ask_runD h
        rw [lim_eq, as.length, bs.length] at hl
        obtain ⟨_, h⟩ := put_bind h
        obtain ⟨n, rh2⟩ := Ho.putLst rh e1 ha (as.append bs)
        exact mt_extend pins s σ H _ _ v us Q I rx rvs ⟨a, _, ys, zs, rfl, rfl, e1, e3, hl, Ho.ok h n rh2 .non⟩
      | _ => exact h.elim
theorem mtc_insert : MtR X "list.insert" (rMt X.gd W "insert") := by
  rintro pins s σ H x vs v us Q I rx rvs ⟨α, M, i, xs, ds, rh, r0, e, rd, h⟩
  obtain ⟨a, ys, rfl, ha, e1, as⟩ := RV.lst rh r0 e
  cases rd with
  | nil => exact h.elim
  | cons r1 rd =>
    cases rd with
    | nil => cases r1 <;> exact h.elim
    | cons r2 rd =>
      cases rd with
      | cons _ _ => cases r1 <;> exact h.elim
      | nil =>
        cases r1 with
        | int k =>
          obtain ⟨⟨h1, h2, h3⟩, h⟩ := ask_runD h
          rw [lim_eq] at h3
          rw [as.length] at h2 h3
          obtain ⟨_, h⟩ := put_bind h
          obtain ⟨n, rh2⟩ := Ho.putLst rh e1 ha ((as.take k.toNat).append (.cons r2 (as.drop k.toNat)))
          have hz : (sizeLine : Nat) < 2 ^ 63 := by rw [sizeLine_eq]; decide
          refine mt_insert pins s σ H _ _ v us Q I rx rvs ⟨a, ys, k, _, rfl, rfl, e1, h3, h1, by omega, ?_⟩
          rw [List.append_assoc]
          exact Ho.ok h n rh2 .non
        | _ => exact h.elim
theorem mtc_clear : MtR X "list.clear" (rMt X.gd W "clear") := by
  rintro pins s σ H x vs v us Q I rx rvs ⟨α, M, i, xs, ds, rh, r0, e, rd, h⟩
  obtain ⟨a, ys, rfl, ha, e1, as⟩ := RV.lst rh r0 e
  cases rd with
  | cons _ _ => exact h.elim
  | nil =>
    obtain ⟨_, h⟩ := put_bind h
    obtain ⟨n, rh2⟩ := Ho.putLst rh e1 ha .nil
    exact mt_clear pins s σ H _ _ v us Q I rx rvs ⟨a, ys, rfl, rfl, e1, Ho.ok h n rh2 .non⟩
theorem mtc_pop : MtR X "list.pop" (rMt X.gd W "pop") := by
  rintro pins s σ H x vs v us Q I rx rvs ⟨α, M, i, xs, ds, rh, r0, e, rd, h⟩
  obtain ⟨a, ys, rfl, ha, e1, as⟩ := RV.lst rh r0 e
  cases rd with
  | nil =>
    have h' : Ho X.gd W (RV X.K) ((match xs.getLast? with
      | some d => do
        CM.put i (.lst xs.dropLast)
        pure d
      | none => CM.fail : CM D) M) α H Q := h
    cases q : xs.getLast? with
    | none => rw [q] at h'; exact h'.elim
    | some d =>
      rw [q] at h'
      obtain ⟨_, h⟩ := put_bind h'
      rw [List.getLast?_eq_getElem?] at q
      obtain ⟨y, q2, ry⟩ := as.get q
      rw [as.length] at q2
      obtain ⟨n, rh2⟩ := Ho.putLst rh e1 ha as.dropLast
      exact mt_pop pins s σ H _ _ v us Q I rx rvs ⟨a, ys, y, rfl, rfl, e1, q2, Ho.ok h n rh2 (ry.mono n)⟩
  | cons r1 rd =>
    cases rd with
    | cons _ _ => cases r1 <;> exact h.elim
    | nil =>
      cases r1 with
      | int k =>
        obtain ⟨⟨h1, h2⟩, h⟩ := ask_runD h
        obtain ⟨j, q1, h⟩ := opt_bind h
        obtain ⟨d, q2, h⟩ := opt_bind h
        obtain ⟨_, h⟩ := put_bind h
        obtain ⟨y, q3, ry⟩ := as.get q2
        rw [as.length] at q1
        obtain ⟨n, rh2⟩ := Ho.putLst rh e1 ha (as.eraseIdx j)
        exact mt_popAt pins s σ H _ _ v us Q I rx rvs ⟨a, ys, k, j, y, rfl, rfl, e1, by omega, by omega, seqIx_eq q1, q3, Ho.ok h n rh2 (ry.mono n)⟩
      | _ => exact h.elim
end
structure LMt (X : Cx) (m id : String) : Prop where
  slot : Slot "list" (Str.ofString m) id
  ty : typeOf (.builtin id) = pure (.type "method_descriptor")
  mt : ∀ W, MtR X id (rMt X.gd W m)
theorem lmt_ok {X : Cx} {m : String} (h : lmt m = true) : ∃ id, LMt X m id := by
  unfold lmt at h
  simp only [Bool.or_eq_true, beq_iff_eq] at h
  rcases h with (((rfl | rfl) | rfl) | rfl) | rfl
  · exact ⟨_, PySem.F.slot_list_append, PySem.F.type_list_append, fun W => mtc_append⟩
  · exact ⟨_, PySem.F.slot_list_extend, PySem.F.type_list_extend, fun W => mtc_extend⟩
  · exact ⟨_, PySem.F.slot_list_insert, PySem.F.type_list_insert, fun W => mtc_insert⟩
  · exact ⟨_, PySem.F.slot_list_clear, PySem.F.type_list_clear, fun W => mtc_clear⟩
  · exact ⟨_, PySem.F.slot_list_pop, PySem.F.type_list_pop, fun W => mtc_pop⟩
end Sb
end
section
set_option Elab.async false
set_option linter.all false
set_option maxRecDepth 100000
set_option maxHeartbeats 2000000
namespace Sb
open PySem PySem.Spec PyProof.Rows L2
def rMd (Γ : Gd) (W : XW) (m : String) : V → List V → Hp → VK → Prop := fun x vs H Q => ∃ α M i t kvs ds, RH Γ α M H ∧ RV Γ.K α H (.ref i) x ∧ M[i]? = some (.dic t kvs) ∧ RVs Γ.K α H ds vs ∧ Ho Γ W (RV Γ.K) (dicMeth i t kvs m ds M) α H Q
section
variable {X : Cx} {W : XW}
theorem RVs.two {K : Frag} {α : List Addr} {H : Hp} {ds : List D} {vs : List V} (r : RVs K α H ds vs) : (∃ a b u v, ds = [a, b] ∧ vs = [u, v] ∧ RV K α H a u ∧ RV K α H b v) ∨ ∀ a b, ds ≠ [a, b] := by
  cases r with
  | nil => exact .inr fun _ _ h => by cases h
  | cons r1 r =>
    cases r with
    | nil => exact .inr fun _ _ h => by cases h
    | cons r2 r =>
      cases r with
      | nil => exact .inl ⟨_, _, _, _, rfl, rfl, r1, r2⟩
      | cons _ _ => exact .inr fun _ _ h => by cases h
theorem dm_two {i : Nat} {t : Bool} {kvs : List (D × D)} {m : String} {ds : List D} {M : List Ob} (h : ∀ a b, ds ≠ [a, b]) : dicMeth i t kvs m ds M = .no := by
  unfold dicMeth
  split <;> first | rfl | exact absurd rfl (h _ _)
theorem mtc_dget (hu : X.A.units + 65 < cLine) : MtR X "dict.get" (rMd X.gd W "get") := by
  rintro pins s σ H x vs v us Q I rx rvs ⟨α, M, i, t, kvs, ds, rh, r0, e, rd, h⟩
  cases r0 with
  | ref ha =>
    rcases rd.two with ⟨k, d, u, w, rfl, rfl, rk, rdd⟩ | hn
    · cases rx
      obtain ⟨hk, h⟩ := ask_run h
      cases rvs with
      | cons v1 rvs =>
        cases rvs with
        | cons v2 rvs =>
          cases rvs
          rcases dic_get (pins := pins) (s := s) (σ := σ) rh (.inl e) ha rk hk with ⟨l1, g⟩ | ⟨d', z, l1, g, r⟩
          · rw [l1] at h
            exact d_get2 (by omega) I g v1 v2 fun w' s' I' r' => ⟨_, _, I', r', Ho.pure rh h rdd⟩
          · rw [l1] at h
            exact d_get2 (by omega) I g v1 v2 fun w' s' I' r' => ⟨_, _, I', r', Ho.pure rh h r⟩
    · rw [dm_two hn] at h; exact h.elim
theorem mtc_dsetd : MtR X "dict.setdefault" (rMd X.gd W "setdefault") := by
  rintro pins s σ H x vs v us Q I rx rvs ⟨α, M, i, t, kvs, ds, rh, r0, e, rd, h⟩
  cases r0 with
  | ref ha =>
    rcases rd.two with ⟨k, d, u, w, rfl, rfl, rk, rdd⟩ | hn
    · cases rx
      obtain ⟨hk, h⟩ := ask_run h
      rw [Bool.and_eq_true, decide_eq_true_eq] at hk
      obtain ⟨rfl, kws, e1, pr⟩ := dic_at rh e ha
      obtain ⟨ky, rky, rfl⟩ := RK.ofK rk hk.1
      have hl := hk.2
      rw [lim_eq, Paired.len pr] at hl
      cases rvs with
      | cons v1 rvs =>
        cases rvs with
        | cons v2 rvs =>
          cases rvs
          refine d_setd I e1 v1 v2 hl (fun y ey w' s' I' r' => ?_) (fun ey w' s' I' r' => ?_)
          · rcases look_rel (K := X.K) (α := α) (H := H) pr rky with ⟨l1, l2⟩ | ⟨d', z, l1, l2, r⟩
            · rw [l2] at ey; cases ey
            · rw [l2] at ey; cases ey
              rw [l1] at h
              exact ⟨_, _, I', r', Ho.pure rh h r⟩
          · rcases look_rel (K := X.K) (α := α) (H := H) pr rky with ⟨l1, l2⟩ | ⟨d', z, l1, l2, r⟩
            · rw [l1] at h
              obtain ⟨_, h⟩ := put_bind h
              obtain ⟨n, rh2⟩ := Ho.putDic (W := W) (A := Unit) (B := Unit) rh e1 ha (putK_rel pr rky rdd)
              exact ⟨_, _, I', r', Ho.ok h n rh2 (rdd.mono n)⟩
            · rw [l2] at ey; cases ey
    · rw [dm_two hn] at h; exact h.elim
end
structure DMt (X : Cx) (m id : String) : Prop where
  slot : Slot "dict" (Str.ofString m) id
  ty : typeOf (.builtin id) = pure (.type "method_descriptor")
  mt : ∀ W, MtR X id (rMd X.gd W m)
theorem dmt_ok {X : Cx} (hu : X.A.units + 65 < cLine) {m : String} (h : dmt m = true) : ∃ id, DMt X m id := by
  unfold dmt at h
  simp only [Bool.or_eq_true, beq_iff_eq] at h
  rcases h with rfl | rfl
  · exact ⟨_, PySem.F.slot_dict_get, PySem.F.type_dict_get, fun W => mtc_dget hu⟩
  · exact ⟨_, PySem.F.slot_dict_setdefault, PySem.F.type_dict_setdefault, fun W => mtc_dsetd⟩
theorem lst_fail {m : String} {i : Nat} {xs ds : List D} {M : List Ob} (h : lmt m = false) : lstMeth i xs m ds M = .no := by
  unfold lstMeth
  split <;> first | rfl | (exfalso; revert h; decide)
theorem dic_fail {m : String} {i : Nat} {t : Bool} {kvs : List (D × D)} {ds : List D} {M : List Ob} (h : dmt m = false) : dicMeth i t kvs m ds M = .no := by
  unfold dicMeth
  split <;> first | rfl | (exfalso; revert h; decide)
section
variable {g : G} {cl : Cls} {X : Cx}
theorem bm_go {W : WX} {T id : String} {r : V → List V → Hp → VK → Prop} {m : Str} {o : CE} {cs : CEs} {eo : PySem.Expr} {es : List PySem.Expr} {apos pos : Pos} (pa : PlainAttrs T) (slot : Slot T m id) (ty : typeOf (.builtin id) = pure (.type "method_descriptor")) (mt : MtR X id r) (ho : PE X eo (tE X.gd g cl W o)) (hs : PA X es (tAs X.gd g cl W cs)) (h0 : es = [] → cs = .nil) (hst : es.all star0 = true) (hn : es.length < 20) (hsup : nsup eo = true) (hl : (apos.endLine == pos.line) = true)
    {pins : List (Addr × Obj)} {s : Shared} {σ : L2.St} {H : Hp} {Q : VK} {α : List Addr} {ρ : Env} {M M1 : List Ob} {d : D} (I : L2.Inv X pins σ H s) (rl : RL X.K α H ρ σ) (rh : RH X.gd α M H) (q : ev g cl ρ o M = .ok d M1)
    (h : ∀ α1 v H1, Nx X.K α H α1 H1 → RH X.gd α1 M1 H1 → RV X.K α1 H1 d v → tyV X.K T v H1 ∧ Ho X.gd (fun x d H => W x d σ H) (RVs X.K) (evs g cl ρ cs M1) α1 H1 fun vs H2 => r v vs H2 Q) : wpAny (model X.prog X.w) X.A (eval ((eo.Attribute m apos).Call es [] pos) X.env) (EP X pins σ Q) X.xe s := by
  cases es with
  | nil =>
    have e := h0 rfl
    subst e
    refine (pe_bm0 pa slot ty mt ho (ab_nsup hsup) hl).run pins s σ H Q I ⟨α, ρ, M, rl, rh, ?_⟩
    rw [q]
    intro α1 v H1 nx rh1 rv
    obtain ⟨h1, h2⟩ := h α1 v H1 nx rh1 rv
    exact ⟨h1, Ho.pure (a := []) rh1 h2 .nil⟩
  | cons e es =>
    have hst' := hst
    simp only [List.all_cons, Bool.and_eq_true] at hst'
    refine (pe_bm pa slot ty mt ho hs (ab_nsup hsup) (mcf hst hn) hl (star_cons hst'.1) (no_stars hst'.2)).run pins s σ H Q I ⟨α, ρ, M, rl, rh, ?_⟩
    rw [q]
    intro α1 v H1 nx rh1 rv
    obtain ⟨h1, h2⟩ := h α1 v H1 nx rh1 rv
    exact ⟨h1, ⟨α1, ρ, M1, rl.mono nx, rh1, h2⟩⟩
theorem se_met (gx : GX g cl X) {o : CE} {m : String} {cs : CEs} {eo : PySem.Expr} {es : List PySem.Expr} {apos pos : Pos} (ho : SE g cl X o eo) (hs : SA g cl X cs es) (h0 : es = [] → cs = .nil) (hst : es.all star0 = true) (hn : es.length < 20) (hsup : nsup eo = true) (hl : (apos.endLine == pos.line) = true) : SE g cl X (.met o m cs) (.Call (.Attribute eo (Str.ofString m) apos) es [] pos) := fun W tk => ⟨fun pins s σ H Q I z => by
  obtain ⟨α, ρ, M, rl, rh, h⟩ := z
  rw [ev, CM.bind_run] at h
  cases q : ev g cl ρ o M with
  | no => rw [q] at h; exact h.elim
  | ex x M1 =>
    rw [q] at h
    exact PySem.W.methodCall_KW (thn ((ho W tk).run pins s σ H (fun _ _ => False) I ⟨α, ρ, M, rl, rh, by rw [q]; exact h⟩) (fun a s1 hh => by obtain ⟨_, _, _, _, hh⟩ := hh; exact hh.elim)) (meth_eq hsup hst hn hl)
  | ok d M1 =>
    rw [q] at h
    cases d with
    | str t => obtain ⟨hk, h⟩ := ask_run h; cases hk
    | ref i =>
      obtain ⟨ob, eo1, h⟩ := get_bind h
      cases ob with
      | ins c fs =>
        obtain ⟨hnf, h⟩ := ask_run h
        cases hm : methOf g c m with
        | none => rw [hm] at h; exact h.elim
        | some f =>
          rw [hm] at h
          obtain ⟨fd, hf⟩ := gx.has c _ f hm
          obtain ⟨fa, F, -, hmm⟩ := gx.fn f fd hf
          obtain ⟨cc, mt, -⟩ := hmm c _ hm
          refine methcall_of (ho W tk) I ⟨α, ρ, M, rl, rh, ?_⟩ (meth_eq hsup hst hn hl)
          rw [q]
          intro α1 v H1 nx rh1 rv
          cases rv with
          | ref ha =>
            obtain ⟨dx, gs, e1, rf⟩ := rh1.ob _ _ _ eo1 ha
            rcases getF_rel (f := m) rf with ⟨l1, l2⟩ | ⟨d', u, l1, l2, r⟩
            · exact ⟨_, _, dx, gs, fa, rfl, e1, cc, mt, l2, fun s1 I1 => callW F tk hs h0 hst I1 (rl.mono nx) rh1 (.cons (.ref ha) .nil) (.cons rfl .nil) (Ho.nx nx h)⟩
            · rw [l1] at hnf; cases hnf
      | lst xs =>
        obtain ⟨hlm, h⟩ := ask_run h
        obtain ⟨id, L⟩ := lmt_ok (X := X) hlm
        refine bm_go PySem.F.plainAttrs_list L.slot L.ty (L.mt (fun x d H => W x d σ H)) (ho W tk) (hs W tk) h0 hst hn hsup hl I rl rh q fun α1 v H1 nx rh1 rv => ?_
        cases rv with
        | ref ha =>
          obtain ⟨ys, e1, as⟩ := rh1.ob _ _ _ eo1 ha
          refine ⟨.inl ⟨rfl, ys, SqL.of e1⟩, ?_⟩
          refine (Ho.bind (Ho.nx nx h)).mono fun vs H2 z => ?_
          obtain ⟨ds, M2, α2, nx2, rh2, rvs, h⟩ := z
          obtain ⟨ob2, eo2, h⟩ := get_bind h
          cases ob2 with
          | lst xs2 => exact ⟨α2, M2, i, xs2, ds, rh2, .ref (nx2.get ha), eo2, rvs, h⟩
          | _ => exact h.elim
      | dic t kvs =>
        obtain ⟨hlm, h5⟩ := ask_run h
        obtain ⟨id, L⟩ := dmt_ok (X := X) gx.un hlm
        refine bm_go PySem.F.plainAttrs_dict L.slot L.ty (L.mt (fun x d H => W x d σ H)) (ho W tk) (hs W tk) h0 hst hn hsup hl I rl rh q fun α1 v H1 nx rh1 rv => ?_
        cases rv with
        | ref ha =>
          obtain ⟨rfl, kws, e1, pr⟩ := dic_at rh1 eo1 ha
          refine ⟨.inr (.inr (.inl ⟨rfl, .inl ⟨kws, e1⟩⟩)), ?_⟩
          refine (Ho.bind (Ho.nx nx h5)).mono fun vs H2 z => ?_
          obtain ⟨ds, M2, α2, nx2, rh2, rvs, h⟩ := z
          obtain ⟨ob2, eo2, h⟩ := get_bind h
          cases ob2 with
          | dic t2 kvs2 => exact ⟨α2, M2, i, t2, kvs2, ds, rh2, .ref (nx2.get ha), eo2, rvs, h⟩
          | _ => exact h.elim
      | _ => exact h.elim
    | _ => exact h.elim⟩
def rBl (Γ : Gd) (W : XW) (f : String) : List V → Hp → VK → Prop := fun vs H Q => ∃ α M ds, RH Γ α M H ∧ RVs Γ.K α H ds vs ∧ Ho Γ W (RV Γ.K) (blt f ds M) α H Q
theorem RVs.one {K : Frag} {α : List Addr} {H : Hp} {ds : List D} {vs : List V} (r : RVs K α H ds vs) : (∃ a u, ds = [a] ∧ vs = [u] ∧ RV K α H a u) ∨ ∀ a, ds ≠ [a] := by
  cases r with
  | nil => exact .inr fun _ h => by cases h
  | cons r1 r =>
    cases r with
    | nil => exact .inl ⟨_, _, rfl, rfl, r1⟩
    | cons _ _ => exact .inr fun _ h => by cases h
theorem blt_one {f : String} (hf : f = "len" ∨ f = "int" ∨ f = "abs" ∨ f = "list" ∨ f = "tuple") {ds : List D} {M : List Ob} (h : ∀ a, ds ≠ [a]) : blt f ds M = .no := by
  unfold blt
  split <;> first | rfl | exact absurd rfl (h _) | (exfalso; revert hf; decide)
theorem blt_two {f : String} (hf : f = "max" ∨ f = "min") {ds : List D} {M : List Ob} (h : ∀ a b, ds ≠ [a, b]) : blt f ds M = .no := by
  unfold blt
  split <;> first | rfl | exact absurd rfl (h _ _) | (exfalso; revert hf; decide)
section
variable {W : XW}
theorem cr_len : CallR X (.builtin "len") (rBl X.gd W "len") := by
  rintro pins s σ H vs us Q I hv ⟨α, M, ds, rh, rvs, h⟩
  rcases rvs.one with ⟨a, u, rfl, rfl, r⟩ | hn
  · cases r with
    | str ht z => exact call_len pins s σ H _ us Q I hv ⟨_, _, rfl, ⟨by rw [toS_len]; exact z, rfl⟩, by rw [toS_len]; exact Ho.pure rh h (.int _)⟩
    | tup hs rs => exact call_len pins s σ H _ us Q I hv ⟨_, _, rfl, .inr ⟨_, hs, rfl⟩, by rw [← rs.length]; exact Ho.pure rh h (.int _)⟩
    | rol hs rs => exact call_len pins s σ H _ us Q I hv ⟨_, _, rfl, .inl ⟨_, hs.sq, rfl⟩, by rw [← rs.length]; exact Ho.pure rh h (.int _)⟩
    | ref ha =>
      obtain ⟨ob, eo, h⟩ := get_bind h
      cases ob with
      | lst xs =>
        obtain ⟨ys, e1, as⟩ := rh.ob _ _ _ eo ha
        exact call_len pins s σ H _ us Q I hv ⟨_, _, rfl, .inl ⟨_, SqL.of e1, rfl⟩, by rw [← as.length]; exact Ho.pure rh h (.int _)⟩
      | frz xs =>
        obtain ⟨o, ys, e1, as⟩ := rh.ob _ _ _ eo ha
        exact call_len pins s σ H _ us Q I hv ⟨_, _, rfl, .inl ⟨_, .inl (.inr ⟨o, e1⟩), rfl⟩, by rw [← as.length]; exact Ho.pure rh h (.int _)⟩
      | dic t kvs =>
        obtain ⟨rfl, kws, e1, pr⟩ := dic_at rh eo ha
        exact call_lenD pins s σ H _ us Q I hv ⟨_, kws, rfl, e1, by rw [← Paired.len pr]; exact Ho.pure rh h (.int _)⟩
      | _ => exact h.elim
    | _ => exact h.elim
  · rw [blt_one (by simp) hn] at h; exact h.elim
theorem cr_int : CallR X (.type "int") (rBl X.gd W "int") := by
  rintro pins s σ H vs us Q I hv ⟨α, M, ds, rh, rvs, h⟩
  rcases rvs.one with ⟨a, u, rfl, rfl, r⟩ | hn
  · cases r with
    | int i => exact call_int1 pins s σ H _ us Q I hv (.inl ⟨i, rfl, Ho.pure rh h (.int _)⟩)
    | bl b => exact call_int1 pins s σ H _ us Q I hv (.inr ⟨b, rfl, Ho.pure rh h (.int _)⟩)
    | _ => exact h.elim
  · rw [blt_one (by simp) hn] at h; exact h.elim
theorem cr_abs : CallR X (.builtin "abs") (rBl X.gd W "abs") := by
  rintro pins s σ H vs us Q I hv ⟨α, M, ds, rh, rvs, h⟩
  rcases rvs.one with ⟨a, u, rfl, rfl, r⟩ | hn
  · cases r with
    | int i => exact call_abs pins s σ H _ us Q I hv ⟨i, rfl, Ho.pure rh h (.int _)⟩
    | _ => exact h.elim
  · rw [blt_one (by simp) hn] at h; exact h.elim
theorem cr_max (hc : X.calm = true) : CallR X (.builtin "max") (rBl X.gd W "max") := by
  rintro pins s σ H vs us Q I hv ⟨α, M, ds, rh, rvs, h⟩
  rcases rvs.two with ⟨a, b, u, v, rfl, rfl, r1, r2⟩ | hn
  · cases r1 with
    | int i =>
      cases r2 with
      | int j => exact call_max2 hc pins s σ H _ us Q I hv ⟨i, j, rfl, Ho.pure rh h (.int _)⟩
      | _ => exact h.elim
    | _ => exact h.elim
  · rw [blt_two (by simp) hn] at h; exact h.elim
theorem cr_min2 (hc : X.calm = true) : CallR X (.builtin "min") (rBl X.gd W "min") := by
  rintro pins s σ H vs us Q I hv ⟨α, M, ds, rh, rvs, h⟩
  rcases rvs.two with ⟨a, b, u, v, rfl, rfl, r1, r2⟩ | hn
  · cases r1 with
    | int i =>
      cases r2 with
      | int j => exact call_min2 hc pins s σ H _ us Q I hv ⟨i, j, rfl, Ho.pure rh h (.int _)⟩
      | _ => exact h.elim
    | _ => exact h.elim
  · rw [blt_two (by simp) hn] at h; exact h.elim
theorem cr_list : CallR X (.type "list") (rBl X.gd W "list") := by
  rintro pins s σ H vs us Q I hv ⟨α, M, ds, rh, rvs, h⟩
  rcases rvs.one with ⟨a, u, rfl, rfl, r⟩ | hn
  · cases r with
    | tup hs rs => exact call_list_of pins s σ H _ us Q I hv ⟨_, _, rfl, .inr hs, fun l n => Ho.newLst rh h rs n⟩
    | rol hs rs => exact call_list_of pins s σ H _ us Q I hv ⟨_, _, rfl, .inl hs.sq, fun l n => Ho.newLst rh h rs n⟩
    | ref ha =>
      obtain ⟨xs, eo, h⟩ := items_bind h
      obtain ⟨a, ys, e1, ha', sq, as⟩ := RV.seq rh (.ref ha) eo
      cases e1
      exact call_list_of pins s σ H _ us Q I hv ⟨_, _, rfl, .inl sq, fun l n => Ho.newLst rh h as n⟩
    | _ => exact h.elim
  · rw [blt_one (by simp) hn] at h; exact h.elim
theorem cr_tuple : CallR X (.type "tuple") (rBl X.gd W "tuple") := by
  rintro pins s σ H vs us Q I hv ⟨α, M, ds, rh, rvs, h⟩
  rcases rvs.one with ⟨a, u, rfl, rfl, r⟩ | hn
  · cases r with
    | tup hs rs => exact call_tuple_of pins s σ H _ us Q I hv ⟨_, _, rfl, .inr ⟨hs, Ho.pure rh h (.tup hs rs)⟩⟩
    | rol hs as => exact call_tuple_of pins s σ H _ us Q I hv ⟨_, _, rfl, .inl ⟨hs.sq, fun l n => Ho.ok (α' := α) h (nx_fresh n) (rh.tup n) (.tup (.inl (.inl upd_same)) (as.mono (nx_fresh n)))⟩⟩
    | ref ha =>
      obtain ⟨xs, eo, h⟩ := items_bind h
      obtain ⟨a, ys, e1, ha', sq, as⟩ := RV.seq rh (.ref ha) eo
      cases e1
      exact call_tuple_of pins s σ H _ us Q I hv ⟨_, _, rfl, .inl ⟨sq, fun l n => Ho.ok (α' := α) h (nx_fresh n) (rh.tup n) (.tup (.inl (.inl upd_same)) (as.mono (nx_fresh n)))⟩⟩
    | _ => exact h.elim
  · rw [blt_one (by simp) hn] at h; exact h.elim
end
inductive BF : Type where
  | fn (id : String) | ty (T : String)
def bfOf (f : String) : Option BF :=
  if f = "len" then some (.fn "len") else if f = "int" then some (.ty "int") else if f = "abs" then some (.fn "abs")
  else if f = "max" then some (.fn "max") else if f = "min" then some (.fn "min") else if f = "list" then some (.ty "list") else if f = "tuple" then some (.ty "tuple") else none
theorem boot_tuple' : bootBuiltins (Str.ofString "tuple") = some (.type "tuple") := by decide +kernel
theorem se_blt (gx : GX g cl X) {f : String} {cs : CEs} {e : PySem.Expr} {es : List PySem.Expr} {p pos : Pos} (hf : (bfOf f).isSome = true) (hg : Gl X (Str.ofString f)) (hs : SA g cl X cs (e :: es)) (hst : (e :: es).all star0 = true) : SE g cl X (.blt f cs) (.Call (.Name (Str.ofString f) p) (e :: es) [] pos) := fun W tk => ⟨fun pins s σ H Q I z => by
  have hst' := hst
  simp only [List.all_cons, Bool.and_eq_true] at hst'
  have rd : ∀ {σ H Q}, tE X.gd g cl W (.blt f cs) σ H Q → tCB (rBl X.gd (fun x d H => W x d σ H) f) (tAs X.gd g cl W cs) σ H Q := fun {σ H Q} z => by
    obtain ⟨α, ρ, M, rl, rh, h⟩ := z
    rw [ev] at h
    exact tAs.go rl rh h fun vs H1 α1 M1 ds nx rl rh rvs h => ⟨α1, M1, ds, rh, rvs, h⟩
  have s1 := star_cons (env := X.env) (es := es) hst'.1
  have s2 := no_stars (env := X.env) (pos := pos) hst'.2
  have one : ∀ {id : String}, CallR X (.builtin id) (rBl X.gd (fun x d H => W x d σ H) f) → bootBuiltins (Str.ofString f) = some (.builtin id) → X.mg (Str.ofString f) = none → Str.ofString f ≠ Str.ofString "__name__" → (Str.ofString f == Str.ofString "__debug__") = false → wpAny (model X.prog X.w) X.A (eval (.Call (.Name (Str.ofString f) p) (e :: es) [] pos) X.env) (EP X pins σ Q) X.xe s :=
    fun hc hb hm h1 h2 => (pe_callB hc hg hm hb (hs W tk) h1 h2 s1 s2).run pins s σ H Q I (rd z)
  have two : ∀ {T : String}, CallR X (.type T) (rBl X.gd (fun x d H => W x d σ H) f) → bootBuiltins (Str.ofString f) = some (.type T) → X.mg (Str.ofString f) = none → Str.ofString f ≠ Str.ofString "__name__" → (Str.ofString f == Str.ofString "__debug__") = false → wpAny (model X.prog X.w) X.A (eval (.Call (.Name (Str.ofString f) p) (e :: es) [] pos) X.env) (EP X pins σ Q) X.xe s :=
    fun hc hb hm h1 h2 => (pe_callTy hc hg hm hb (hs W tk) h1 h2 s1 s2).run pins s σ H Q I (rd z)
  unfold bfOf at hf
  split at hf
  · subst f; exact one cr_len PySem.boot_len (gx.nob _ (by decide)) (by decide) (by decide)
  split at hf
  · subst f; exact two cr_int boot_int (gx.nob _ (by decide)) (by decide) (by decide)
  split at hf
  · subst f; exact one cr_abs boot_abs (gx.nob _ (by decide)) (by decide) (by decide)
  split at hf
  · subst f; exact one (cr_max gx.calm) boot_max (gx.nob _ (by decide)) (by decide) (by decide)
  split at hf
  · subst f; exact one (cr_min2 gx.calm) boot_min (gx.nob _ (by decide)) (by decide) (by decide)
  split at hf
  · subst f; exact two cr_list boot_list (gx.nob _ (by decide)) (by decide) (by decide)
  split at hf
  · subst f; exact two cr_tuple boot_tuple' (gx.nob _ (by decide)) (by decide) (by decide)
  · cases hf⟩
end
end Sb
end
section
set_option Elab.async false
set_option linter.all false
set_option maxRecDepth 100000
set_option maxHeartbeats 2000000
namespace Sb
open PySem PySem.Spec PyProof.Rows L2
theorem kit_all : (["NoneType", "bool", "int", "str", "tuple", "list", "dict"].all fun a => tyNames.all fun b => kitB a b == some (a == b || (a == "bool" && b == "int"))) = true := by decide +kernel
theorem kit_at {a b : String} (ha : a ∈ ["NoneType", "bool", "int", "str", "tuple", "list", "dict"]) (hb : b ∈ tyNames) {K : Frag} : PySem.W.kitOne K (.type a) (.type b) = some (a == b || (a == "bool" && b == "int")) := by
  refine kit_ty ?_
  have h := List.all_eq_true.mp (List.all_eq_true.mp kit_all a ha) b hb
  exact eq_of_beq h
theorem ty_sub : ∀ T ∈ tyNames, T ∈ bnames := by decide
theorem boot_ty {T : String} (h : T ∈ tyNames) : bootBuiltins (Str.ofString T) = some (.type T) ∧ Str.ofString T ≠ Str.ofString "__name__" ∧ (Str.ofString T == Str.ofString "__debug__") = false := by
  have hh : (tyNames.all fun T => decide (bootBuiltins (Str.ofString T) = some (.type T)) && decide (Str.ofString T ≠ Str.ofString "__name__") && !(Str.ofString T == Str.ofString "__debug__")) = true := by decide +kernel
  have := List.all_eq_true.mp hh T h
  simp only [Bool.and_eq_true, decide_eq_true_eq, Bool.not_eq_true'] at this
  exact ⟨this.1.1, this.1.2, this.2⟩
theorem isInst_rel {Γ : Gd} {α : List Addr} {M : List Ob} {H : Hp} (rh : RH Γ α M H) {x : D} {v : V} (r : RV Γ.K α H x v) {T : String} (hT : T ∈ tyNames) {b : Bool} (h : isInst M x T = some b) : ∃ t, TyX Γ.K H v t ∧ PySem.W.kitOne Γ.K t (.type T) = some b := by
  cases r with
  | non =>
    refine ⟨_, .base .non, ?_⟩
    rw [kit_at (by decide) hT]
    cases h
    revert hT; revert T; decide
  | bl c =>
    refine ⟨_, .base (.bl c), ?_⟩
    rw [kit_at (by decide) hT]
    cases h
    revert hT; revert T; decide
  | int i =>
    refine ⟨_, .base (.int i), ?_⟩
    rw [kit_at (by decide) hT]
    cases h
    revert hT; revert T; decide
  | str ht z =>
    refine ⟨_, .base (.str _), ?_⟩
    rw [kit_at (by decide) hT]
    cases h
    revert hT; revert T; decide
  | tup hs rs =>
    rename_i ds a xs
    have hk : PySem.W.kitOne Γ.K (.type "tuple") (.type T) = some b := by
      rw [kit_at (by decide) hT]
      cases h
      revert hT; revert T; decide
    rcases hs with (e | ⟨ob, e⟩) | ⟨o, its, n, e, e2, _⟩
    · exact ⟨_, .base (.tup e), hk⟩
    · exact ⟨_, .fTuple e, hk⟩
    · exact ⟨_, .kTuple e e2, hk⟩
  | rol _ _ => cases h
  | ref ha =>
    rename_i i a
    simp only [isInst] at h
    cases eo : M[i]? with
    | none => rw [eo] at h; cases h
    | some ob =>
      rw [eo] at h
      cases ob with
      | lst ds =>
        obtain ⟨xs, e1, _⟩ := rh.ob _ _ _ eo ha
        refine ⟨_, .base (.lst e1), ?_⟩
        rw [kit_at (by decide) hT]
        cases h
        revert hT; revert T; decide
      | frz ds =>
        obtain ⟨ob, xs, e1, _⟩ := rh.ob _ _ _ eo ha
        refine ⟨_, .base (.frz e1), ?_⟩
        rw [kit_at (by decide) hT]
        cases h
        revert hT; revert T; decide
      | dic t kvs =>
        obtain ⟨rfl, kws, e1, _⟩ := dic_at rh eo ha
        refine ⟨_, .base (.dK e1), ?_⟩
        rw [kit_at (by decide) hT]
        cases h
        revert hT; revert T; decide
      | _ => cases h
section
variable {g : G} {cl : Cls} {X : Cx}
theorem boot_isi : bootBuiltins (Str.ofString "isinstance") = some (.builtin "isinstance") := boot_isinstance
theorem se_isi (gx : GX g cl X) {a : CE} {e : PySem.Expr} {T : String} {p p2 pos : Pos} (hT : T ∈ tyNames) (ha : SE g cl X a e) (hst : star0 e = true) (hg : Gl X (Str.ofString "isinstance")) (hg2 : Gl X (Str.ofString T)) : SE g cl X (.isi a T) (.Call (.Name (Str.ofString "isinstance") p) [e, .Name (Str.ofString T) p2] [] pos) := fun W tk => by
  obtain ⟨b1, b2, b3⟩ := boot_ty hT
  have hm2 : X.mg (Str.ofString T) = none := gx.nob T (ty_sub T hT)
  have hT2 : PE X (.Name (Str.ofString T) p2) (tC (.ty T)) := pe_bltn hg2 hm2 b1 rfl b2 b3
  refine (pe_callB call_isi hg (gx.nob _ (by decide)) boot_isi (pa_cons (ha W tk) (pa_cons hT2 pa_nil rfl) (star_cons hst)) (by decide) (by decide) (star_cons hst) (no_stars (by rfl))).imp fun σ H Q z => ?_
  obtain ⟨α, ρ, M, rl, rh, h⟩ := z
  rw [ev] at h
  refine tE.go rl rh h fun v H1 α1 M1 d nx rl rh rv h => ?_
  cases hi : isInst M1 d T with
  | none => rw [hi] at h; exact h.elim
  | some b =>
    rw [hi] at h
    obtain ⟨t, t1, t2⟩ := isInst_rel rh rv hT hi
    exact ⟨v, .ty T, t, .type T, b, rfl, .ty T, t1, t2, Ho.ok h .refl rh (.bl b)⟩
def ItOk (Γ : Gd) (α0 : List Addr) (H0 : Hp) (w : Wk) (J : It) : Prop := ∀ (i : Nat) (α : List Addr) (M : List Ob) (H : Hp), Nx Γ.K α0 H0 α H → RH Γ α M H → w.ok M = true →
  (i < w.its.length → J.go i H) ∧ (w.its.length ≤ i → J.stop i H) ∧ ∀ x H', J.yld i H x H' → Nx Γ.K α H α H' ∧ RH Γ α M H' ∧ ∀ d, w.its[i]? = some d → RV Γ.K α H' d x
def SI (g : G) (cl : Cls) (X : Cx) (tg : PySem.Expr) (ci : CI) (iter : PySem.Expr) : Prop := ∀ W, Takes X W → ∀ {σ : L2.St} {H : Hp} {α : List Addr} {ρ : Env} {M : List Ob}, RL X.K α H ρ σ → RH X.gd α M H → ∃ wi, PI X tg iter wi ∧ ∀ R : It → Hp → Prop, Ho X.gd (fun x d H => W x d σ H) (fun α1 H1 w J => ItOk X.gd α1 H1 w J) (evI g cl ρ ci M) α H R → wi σ H R
theorem itOk_list {Γ : Gd} {α : List Addr} {H : Hp} {i : Nat} {a : Addr} {ds : List D} (ha : α[i]? = some a) (f : Bool) : ItOk Γ α H ⟨ds, some (i, if f = true then .frz ds else .lst ds)⟩ (Itl Γ.K a) := by
  intro k α' M H' nx rh hok
  have e : M[i]? = some (if f = true then .frz ds else .lst ds) := of_decide_eq_true hok
  have ha' := nx.get ha
  have hs : ∃ xs, SqL Γ.K H' a xs ∧ RVs Γ.K α' H' ds xs := by
    cases f with
    | true => obtain ⟨ob, xs, e1, as⟩ := rh.ob _ _ _ e ha'; exact ⟨xs, .inl (.inr ⟨ob, e1⟩), as⟩
    | false => obtain ⟨xs, e1, as⟩ := rh.ob _ _ _ e ha'; exact ⟨xs, SqL.of e1, as⟩
  obtain ⟨xs, sq, as⟩ := hs
  refine ⟨fun hk => ?_, fun hk => ⟨xs, sq, by rw [← as.length]; exact hk⟩, fun x H2 hy => ?_⟩
  · obtain ⟨v, e2, _⟩ := as.get (i := k) (d := ds[k]) (by simp)
    exact ⟨xs, v, sq, e2⟩
  · obtain ⟨rfl, hx⟩ := hy
    refine ⟨.refl, rh, fun d hd => ?_⟩
    obtain ⟨v, e2, rv⟩ := as.get hd
    have := hx xs sq
    rw [e2] at this
    cases this
    exact rv
theorem itOk_tup {Γ : Gd} {α : List Addr} {H : Hp} {a : Addr} {ds : List D} {xs : List V} (sq : SqT Γ.K H a xs) (as : RVs Γ.K α H ds xs) : ItOk Γ α H ⟨ds, none⟩ (Itt Γ.K a) := by
  intro k α' M H' nx rh hok
  have sq' := nx.tup _ _ sq
  have as' := as.mono nx
  refine ⟨fun hk => ?_, fun hk => ⟨xs, sq', by rw [← as.length]; exact hk⟩, fun x H2 hy => ?_⟩
  · obtain ⟨v, e2, _⟩ := as'.get (i := k) (d := ds[k]) (by simp)
    exact ⟨xs, v, sq', e2⟩
  · obtain ⟨rfl, hx⟩ := hy
    refine ⟨.refl, rh, fun d hd => ?_⟩
    obtain ⟨v, e2, rv⟩ := as'.get hd
    have := hx xs sq'
    rw [e2] at this
    cases this
    exact rv
theorem itOk_rol {Γ : Gd} {α : List Addr} {H : Hp} {a : Addr} {ds : List D} {xs : List V} (sq : SqF Γ.K H a xs) (as : RVs Γ.K α H ds xs) : ItOk Γ α H ⟨ds, none⟩ (Itl Γ.K a) := by
  intro k α' M H' nx rh hok
  have sq' := (nx.rol sq).sq
  have as' := as.mono nx
  refine ⟨fun hk => ?_, fun hk => ⟨xs, sq', by rw [← as.length]; exact hk⟩, fun x H2 hy => ?_⟩
  · obtain ⟨v, e2, _⟩ := as'.get (i := k) (d := ds[k]) (by simp)
    exact ⟨xs, v, sq', e2⟩
  · obtain ⟨rfl, hx⟩ := hy
    refine ⟨.refl, rh, fun d hd => ?_⟩
    obtain ⟨v, e2, rv⟩ := as'.get hd
    have := hx xs sq'
    rw [e2] at this
    cases this
    exact rv
theorem itOk_str {Γ : Gd} {α : List Addr} {H : Hp} {s : Txt} (hs : okTxt s) : ItOk Γ α H ⟨s.map fun c => .str [c], none⟩ (Its (toS s)) := by
  intro k α' M H' nx rh hok
  have hsz : (toS s).cps.size = s.length := by simp [toS]
  refine ⟨fun hk => ?_, fun hk => ?_, fun x H2 hy => ?_⟩
  · show k < (toS s).cps.size
    rw [hsz]; simpa using hk
  · show (toS s).cps.size ≤ k
    rw [hsz]; simpa using hk
  · obtain ⟨rfl, c, e1, rfl⟩ := hy
    refine ⟨.refl, rh, fun d hd => ?_⟩
    rw [List.getElem?_map] at hd
    obtain ⟨c', e2, rfl⟩ := Option.map_eq_some_iff.mp hd
    have e3 : s[k]? = some c := by
      have : (toS s).cps[k]? = s[k]? := by simp [toS]
      rw [← this]; exact e1
    rw [e3] at e2; cases e2
    exact .str (hs.sub fun z m => by simp at m; rw [m]; exact List.mem_of_getElem? e3) line1
theorem itOk_rng {Γ : Gd} {α : List Addr} {H : Hp} {lo hi : Int} : ItOk Γ α H ⟨rangeD lo hi, none⟩ (Itr lo (hi - lo).toNat) := by
  intro k α' M H' nx rh hok
  have hl : (rangeD lo hi).length = (hi - lo).toNat := by simp [rangeD]
  refine ⟨fun hk => ?_, fun hk => ?_, fun x H2 hy => ?_⟩
  · show k < _; rw [← hl]; exact hk
  · show _ ≤ k; rw [← hl]; exact hk
  · obtain ⟨rfl, rfl⟩ := hy
    refine ⟨.refl, rh, fun d hd => ?_⟩
    unfold rangeD at hd
    rw [List.getElem?_map] at hd
    obtain ⟨c', e2, rfl⟩ := Option.map_eq_some_iff.mp hd
    obtain ⟨h1, h2⟩ := List.getElem?_eq_some_iff.mp e2
    simp at h2
    subst h2
    exact .int _
theorem si_seq {e : CE} {iter tg : PySem.Expr} (he : SE g cl X e iter) : SI g cl X tg (.seq e) iter := fun W tk {σ H α ρ M} rl rh => by
  cases q : ev g cl ρ e M with
  | no => exact ⟨_, pi_list (he W tk), fun R h => by rw [evI, CM.bind_run, q] at h; exact h.elim⟩
  | ex x M1 => exact ⟨_, pi_list (he W tk), fun R h => by rw [evI, CM.bind_run, q] at h; exact ⟨α, ρ, M, rl, rh, by rw [q]; exact h⟩⟩
  | ok d M1 =>
    cases d with
    | tup ds =>
      refine ⟨_, pi_tup (he W tk), fun R h => ?_⟩
      rw [evI, CM.bind_run, q] at h
      refine ⟨α, ρ, M, rl, rh, ?_⟩
      rw [q]
      intro α1 v H1 nx rh1 rv
      cases rv with
      | tup hs rs => exact ⟨_, rfl, ⟨_, hs⟩, Ho.pure rh1 (Ho.nx nx h) (itOk_tup hs rs)⟩
    | rol ds =>
      refine ⟨_, pi_list (he W tk), fun R h => ?_⟩
      rw [evI, CM.bind_run, q] at h
      refine ⟨α, ρ, M, rl, rh, ?_⟩
      rw [q]
      intro α1 v H1 nx rh1 rv
      cases rv with
      | rol hs rs => exact ⟨_, rfl, ⟨_, hs.sq⟩, Ho.pure rh1 (Ho.nx nx h) (itOk_rol hs rs)⟩
    | str s =>
      refine ⟨_, pi_str (he W tk), fun R h => ?_⟩
      rw [evI, CM.bind_run, q] at h
      refine ⟨α, ρ, M, rl, rh, ?_⟩
      rw [q]
      intro α1 v H1 nx rh1 rv
      cases rv with
      | str hs z => exact ⟨_, rfl, Ho.pure rh1 (Ho.nx nx h) (itOk_str hs)⟩
    | ref i =>
      refine ⟨_, pi_list (he W tk), fun R h => ?_⟩
      rw [evI, CM.bind_run, q] at h
      refine ⟨α, ρ, M, rl, rh, ?_⟩
      rw [q]
      intro α1 v H1 nx rh1 rv
      have h2 := Ho.nx nx h
      obtain ⟨ob, eo, h2⟩ := get_bind h2
      cases rv with
      | ref ha =>
        cases ob with
        | lst ds =>
          obtain ⟨xs, e1, as⟩ := rh1.ob _ _ _ eo ha
          exact ⟨_, rfl, ⟨xs, SqL.of e1⟩, Ho.pure rh1 h2 (itOk_list ha false)⟩
        | frz ds =>
          obtain ⟨o, xs, e1, as⟩ := rh1.ob _ _ _ eo ha
          exact ⟨_, rfl, ⟨xs, .inl (.inr ⟨o, e1⟩)⟩, Ho.pure rh1 h2 (itOk_list ha true)⟩
        | _ => exact h2.elim
    | _ => exact ⟨_, pi_list (he W tk), fun R h => by rw [evI, CM.bind_run, q] at h; exact h.elim⟩
theorem si_rng1 (gx : GX g cl X) {b : CE} {eb tg : PySem.Expr} {p pos : Pos} (hb : SE g cl X b eb) (hst : star0 eb = true) (hg : Gl X (Str.ofString "range")) : SI g cl X tg (.rng (.cst (.int 0)) b) (.Call (.Name (Str.ofString "range") p) [eb] [] pos) := fun W tk {σ H α ρ M} rl rh => by
  refine ⟨_, pi_range1 hg (gx.nob _ (by decide)) (pa_cons (hb W tk) pa_nil (star_cons hst)) (star_cons hst), fun R h => ?_⟩
  rw [evI] at h
  have h' : Ho X.gd (fun x d H => W x d σ H) (fun α1 H1 w J => ItOk X.gd α1 H1 w J) ((ev g cl ρ b >>= fun y => (match D.int 0, y with
    | .int i, .int j => do
      CM.ask (big62 i && big62 j)
      pure ⟨rangeD i j, none⟩
    | _, _ => CM.fail : CM Wk)) M) α H R := h
  refine tE.go rl rh h' fun v H1 α1 M1 d nx rl rh rv h => ?_
  cases d with
  | int j =>
    cases rv
    obtain ⟨hk, h⟩ := ask_run h
    simp only [big62, Bool.and_eq_true, decide_eq_true_eq] at hk
    refine ⟨j, rfl, by omega, by omega, ?_⟩
    have := Ho.pure rh h (itOk_rng (Γ := X.gd) (α := α1) (H := H1) (lo := 0) (hi := j))
    rw [Int.sub_zero] at this
    exact this
  | _ => exact h.elim
theorem si_rng2 (gx : GX g cl X) {a b : CE} {ea eb tg : PySem.Expr} {p pos : Pos} (ha : SE g cl X a ea) (hb : SE g cl X b eb) (hsa : star0 ea = true) (hst : star0 eb = true) (hg : Gl X (Str.ofString "range")) : SI g cl X tg (.rng a b) (.Call (.Name (Str.ofString "range") p) [ea, eb] [] pos) := fun W tk {σ H α ρ M} rl rh => by
  refine ⟨_, pi_range2 hg (gx.nob _ (by decide)) (pa_cons (ha W tk) (pa_cons (hb W tk) pa_nil (star_cons hst)) (star_cons hsa)) (by rw [star_cons hsa, star_cons hst]; rfl) (star_cons hst), fun R h => ?_⟩
  rw [evI] at h
  refine tE.go rl rh h fun u H1 α1 M1 x nx rl rh ru h => tE.go rl rh h fun v H2 α2 M2 d nx2 rl rh rv h => ?_
  cases x with
  | int i =>
    cases d with
    | int j =>
      cases rv; cases ru
      obtain ⟨hk, h⟩ := ask_run h
      simp only [big62, Bool.and_eq_true, decide_eq_true_eq] at hk
      exact ⟨i, j, rfl, by omega, Ho.pure rh h itOk_rng⟩
    | _ => exact h.elim
  | _ => exact h.elim
def gNs : List Nat → TGs
  | [] => gNil
  | i :: is => gCons (gName i) (gNs is)
def gT (K : Frag) : Tg → TG
  | .loc i => gName i
  | .tup is => gTup K is.length (gNs is)
def SG (X : Cx) (tg : Tg) (e : PySem.Expr) : Prop := PG X e (gT X.K tg)
theorem sg_loc (gx : GX g cl X) {i : Nat} {x : Str} {pos : Pos} (hN : X.N[i]? = some x) (hl : Loc X.env.scope x) (hf : X.fn x = true ∨ X.env.scope.names.lookup x = some .local) : SG X (.loc i) (.Name x pos) := pg_name gx.nd hN hl hf
inductive SGs (X : Cx) : List Nat → List PySem.Expr → Prop
  | nil : SGs X [] []
  | cons {i : Nat} {x : Str} {pos : Pos} {is : List Nat} {es : List PySem.Expr} (hN : X.N[i]? = some x) (hl : Loc X.env.scope x) (hf : X.fn x = true ∨ X.env.scope.names.lookup x = some .local) (t : SGs X is es) : SGs X (i :: is) (.Name x pos :: es)
theorem SGs.pgs (gx : GX g cl X) {is : List Nat} {es : List PySem.Expr} (h : SGs X is es) : PGs X es (gNs is) ∧ (assignEach es X.env).length = is.length ∧ (assignEach es X.env).findIdx? (fun x => x.1) = none := by
  induction h with
  | nil => exact ⟨pgs_nil, rfl, rfl⟩
  | cons hN hl hf _ ih =>
    rename_i i x pos is es _
    obtain ⟨i1, i2, i3⟩ := ih
    have e : assignEach (Expr.Name x pos :: es) X.env = (false, assign (.Name x pos) X.env) :: assignEach es X.env := rfl
    refine ⟨pgs_cons (pg_name gx.nd hN hl hf) i1 rfl, ?_, ?_⟩
    · rw [e, List.length_cons, i2]; rfl
    · rw [e, List.findIdx?_cons]
      simp [i3]
theorem sg_tup (gx : GX g cl X) {is : List Nat} {es : List PySem.Expr} {k : Nat} {pos : Pos} (h : SGs X is es) : SG X (.tup is) (.Tuple es k pos) := by
  obtain ⟨i1, i2, i3⟩ := h.pgs gx
  exact pg_tup gx.calm i1 i2 i3
end
theorem wipe_len (σ : L2.St) : ∀ ws : List Nat, (wipe σ ws).length = σ.length
  | [] => rfl
  | w :: ws => by show ((wipe σ ws).set w none).length = _; rw [List.length_set, wipe_len σ ws]
theorem wipe_at (σ : L2.St) (j : Nat) : ∀ ws : List Nat, (wipe σ ws)[j]? = if j ∈ ws then (σ[j]?.map fun _ => none) else σ[j]?
  | [] => by simp; rfl
  | w :: ws => by
    show ((wipe σ ws).set w none)[j]? = _
    have ih := wipe_at σ j ws
    by_cases e : j = w
    · subst e
      rw [if_pos (List.mem_cons_self ..)]
      by_cases hl : j < σ.length
      · rw [List.getElem?_set_self (by rw [wipe_len]; exact hl), List.getElem?_eq_getElem hl]; rfl
      · rw [List.getElem?_eq_none (by rw [List.length_set, wipe_len]; omega), List.getElem?_eq_none (by omega)]; rfl
    · rw [List.getElem?_set_ne (Ne.symm e), ih]
      simp [e]
theorem wipe_set (σ : L2.St) {i : Nat} {x : Option V} {ws : List Nat} (h : i ∈ ws) : wipe (σ.set i x) ws = wipe σ ws := by
  apply List.ext_getElem?
  intro j
  rw [wipe_at, wipe_at]
  by_cases e : j = i
  · subst e
    rw [if_pos h, if_pos h]
    by_cases hl : j < σ.length
    · rw [List.getElem?_set_self hl, List.getElem?_eq_getElem hl]; rfl
    · rw [List.getElem?_eq_none (by rw [List.length_set]; omega), List.getElem?_eq_none (by omega)]
  · rw [List.getElem?_set_ne (Ne.symm e)]
theorem wipeE_len (ρ : Env) : ∀ ws : List Nat, (wipeE ρ ws).length = ρ.length
  | [] => rfl
  | w :: ws => by show ((wipeE ρ ws).set w none).length = _; rw [List.length_set, wipeE_len ρ ws]
theorem RL.wipe {K : Frag} {α : List Addr} {H : Hp} {ρ : Env} {σ : L2.St} (h : RL K α H ρ σ) : ∀ ws : List Nat, RL K α H (wipeE ρ ws) (L2.wipe σ ws)
  | [] => h
  | w :: ws => by
    have ih := RL.wipe h ws
    refine ⟨?_, fun j d q => ?_⟩
    · rw [wipeE_len, wipe_len, h.len]
    · have q' : ((wipeE ρ ws).set w none)[j]? = some (some d) := q
      show ∃ v, ((L2.wipe σ ws).set w none)[j]? = some (some v) ∧ _
      by_cases e : j = w
      · subst e
        by_cases hl : j < (wipeE ρ ws).length
        · rw [List.getElem?_set_self hl] at q'; cases q'
        · rw [List.getElem?_eq_none (by rw [List.length_set]; omega)] at q'; cases q'
      · rw [List.getElem?_set_ne (Ne.symm e)] at q' ⊢
        exact ih.at_ j d q'
theorem setLoc_ok {ρ ρ1 : Env} {i : Nat} {d : D} {M M' : List Ob} (h : setLoc ρ i d M = .ok ρ1 M') : i < ρ.length ∧ ρ1 = ρ.set i (some d) ∧ M' = M := by
  unfold setLoc at h
  by_cases e : i < ρ.length
  · rw [if_pos e] at h; cases h; exact ⟨e, rfl, rfl⟩
  · rw [if_neg e] at h; cases h
theorem setLocs_rel {K : Frag} {α : List Addr} {H : Hp} : ∀ {is : List Nat} {ds : List D} {vs : List V} {ρ ρ1 : Env} {σ : L2.St} {M M' : List Ob} {Q : L2.St → Hp → Prop}, RL K α H ρ σ → RVs K α H ds vs → setLocs ρ is ds M = .ok ρ1 M' → M' = M ∧ is.length = vs.length ∧
    ((∀ σ2, RL K α H ρ1 σ2 → (∀ ws, (∀ i ∈ is, i ∈ ws) → L2.wipe σ2 ws = L2.wipe σ ws) → Q σ2 H) → gNs is vs σ H Q)
  | [], _, _, ρ, ρ1, σ, M, M', Q, rl, .nil, h => by cases h; exact ⟨rfl, rfl, fun k => ⟨rfl, k σ rl fun _ _ => rfl⟩⟩
  | [], _, _, ρ, ρ1, σ, M, M', Q, rl, .cons _ _, h => by cases h
  | i :: is, _, _, ρ, ρ1, σ, M, M', Q, rl, .nil, h => by cases h
  | i :: is, _, _, ρ, ρ1, σ, M, M', Q, rl, .cons (d := d) (v := v) (ds := ds) (vs := vs) r rs, h => by
    have h' : ((setLoc ρ i d >>= fun ρ' => setLocs ρ' is ds) M) = .ok ρ1 M' := h
    rw [CM.bind_run] at h'
    cases q : setLoc ρ i d M with
    | ok ρ2 M2 =>
      rw [q] at h'
      obtain ⟨hi, rfl, rfl⟩ := setLoc_ok q
      have step := fun Q => setLocs_rel (Q := Q) (rl.set hi r) rs h'
      refine ⟨(step Q).1, by rw [List.length_cons, List.length_cons, (step Q).2.1], fun k => ⟨v, vs, rfl, ?_⟩⟩
      refine (step Q).2.2 fun σ2 rl2 w2 => k σ2 rl2 fun ws hw => ?_
      rw [w2 ws fun j hj => hw j (List.mem_cons_of_mem _ hj), wipe_set _ (hw i (List.mem_cons_self ..))]
    | ex _ _ => rw [q] at h'; cases h'
    | no => rw [q] at h'; cases h'
theorem setTg_rel {K : Frag} {α : List Addr} {H : Hp} {tg : Tg} {d : D} {v : V} {ρ ρ1 : Env} {σ : L2.St} {M M' : List Ob} {Q : L2.St → Hp → Prop} (rl : RL K α H ρ σ) (r : RV K α H d v) (h : setTg ρ tg d M = .ok ρ1 M') : M' = M ∧ ((∀ σ2, RL K α H ρ1 σ2 → (∀ ws, (∀ i ∈ tg.slots, i ∈ ws) → L2.wipe σ2 ws = L2.wipe σ ws) → Q σ2 H) → gT K tg v σ H Q) := by
  cases tg with
  | loc i =>
    obtain ⟨hi, rfl, rfl⟩ := setLoc_ok h
    exact ⟨rfl, fun k => k _ (rl.set hi r) fun ws hw => wipe_set _ (hw i (List.mem_cons_self ..))⟩
  | tup is =>
    cases r with
    | tup hs rs =>
      obtain ⟨e1, e2, k2⟩ := setLocs_rel (Q := Q) rl rs h
      exact ⟨e1, fun k => ⟨_, _, rfl, hs, e2.symm, k2 k⟩⟩
    | _ => cases h
end Sb
end
section
set_option Elab.async false
set_option linter.all false
set_option maxRecDepth 100000
set_option maxHeartbeats 2000000
namespace Sb
open PySem PySem.Spec PyProof.Rows L2
section
variable {g : G} {cl : Cls} {X : Cx}
abbrev Bk (X : Cx) (scope : Scope) (s : Shared) (H : Hp) (C : Addr) (l : List (Str × Addr)) (fp : List Addr) : Cx := X.blk s H scope (compEnvC scope l C X.env) fp
theorem GX.blk (gx : GX g cl X) (scope : Scope) (s : Shared) (H : Hp) (C : Addr) (l : List (Str × Addr)) (fp : List Addr) : GX g cl (Bk X scope s H C l fp) where
  calm := gx.calm
  nd := gx.nd
  un := gx.un
  na := gx.na
  nob := gx.nob
  glb := gx.glb
  has := gx.has
  fn := fun f fd h => by
    obtain ⟨fa, F, h1, h2⟩ := gx.fn f fd h
    exact ⟨fa, ⟨F.run, F.kp, F.ar, F.pad⟩, h1, h2⟩
inductive IfsOk (X : Cx) (g : G) (cl : Cls) : CE → List PySem.Expr → Prop
  | none : IfsOk X g cl (.cst (.bl true)) []
  | one {c : CE} {e : PySem.Expr} : STt g cl X c e → IfsOk X g cl c [e]
theorem bindOk {A B : Type} {m : CM A} {f : A → CM B} {M M' : List Ob} {b : B} (h : (m >>= f) M = .ok b M') : ∃ a M1, m M = .ok a M1 ∧ f a M1 = .ok b M' := by
  rw [CM.bind_run] at h
  cases e : m M with
  | ok a M1 => rw [e] at h; exact ⟨a, M1, rfl, h⟩
  | ex _ _ => rw [e] at h; cases h
  | no => rw [e] at h; cases h
theorem checkOk {w : Wk} {M M' : List Ob} {u : Unit} (h : checkW w M = .ok u M') : w.ok M = true ∧ M' = M := by
  unfold checkW at h
  by_cases e : w.ok M = true
  · rw [if_pos e] at h; cases h; exact ⟨e, rfl⟩
  · rw [if_neg e] at h; cases h
theorem askOk {p : Bool} {M M' : List Ob} {u : Unit} (h : CM.ask p M = .ok u M') : p = true ∧ M' = M := by
  unfold CM.ask at h
  by_cases e : p = true
  · rw [if_pos e] at h; cases h; exact ⟨e, rfl⟩
  · rw [if_neg e] at h; cases h
theorem getOk {a : Nat} {M M' : List Ob} {o : Ob} (h : CM.get a M = .ok o M') : M[a]? = some o ∧ M' = M := by
  unfold CM.get at h
  cases e : M[a]? with
  | none => rw [e] at h; cases h
  | some u => rw [e] at h; cases h; exact ⟨rfl, rfl⟩
theorem putOk {a : Nat} {M M' : List Ob} {o : Ob} {u : Unit} (h : CM.put a o M = .ok u M') : M' = M.set a o := by
  unfold CM.put at h
  by_cases e : a < M.length
  · rw [if_pos e] at h; cases h; rfl
  · rw [if_neg e] at h; cases h
theorem comp_core (gx : GX g cl X) {W : WX} (tk : Takes X W) {tg : Tg} {ci : CI} {c e : CE} {wi : TI} {tt : TT} {te : TE} {σ : L2.St} {H : Hp} {Q : VK} {α : List Addr} {ρ : Env} {M : List Ob}
    (hw : ∀ R : It → Hp → Prop, Ho X.gd (fun x d H => W x d σ H) (fun α1 H1 w J => ItOk X.gd α1 H1 w J) (evI g cl ρ ci M) α H R → wi σ H R)
    (htt : ∀ {α ρ M σ H M1 b} {Q : Bool → Hp → Prop}, RL X.K α H ρ σ → RH X.gd α M H → evT g cl c ρ M = .ok b M1 → (∀ α1 H1, Nx X.K α H α1 H1 → RH X.gd α1 M1 H1 → Q b H1) → tt σ H Q)
    (hte : ∀ {α ρ M σ H M1 d} {Q : VK}, RL X.K α H ρ σ → RH X.gd α M H → ev g cl ρ e M = .ok d M1 → (∀ α1 H1 v, Nx X.K α H α1 H1 → RH X.gd α1 M1 H1 → RV X.K α1 H1 d v → Q v H1) → te σ H Q)
    (rl : RL X.K α H ρ σ) (rh : RH X.gd α M H) (h : Ho X.gd (fun x d H => W x d σ H) (RV X.K) (ev g cl ρ (.comp tg ci c e) M) α H Q) : tLc wi (gT X.K tg) tt te tg.slots σ H Q := by
  rw [ev] at h
  refine hw _ ((Ho.bind h).mono fun J H1 z => ?_)
  obtain ⟨w, M1, α1, nx1, rh1, hJ, h⟩ := z
  intro D hD
  have h' : Ho X.gd (fun x d H => W x d σ H) (RV X.K) ((quiet (compD w tg (wipeE ρ tg.slots) (fun ρ => do let x ← ev g cl ρ c; truth x) (fun ρ => ev g cl ρ e) M1.length w.its) >>= fun _ => (pure (.ref M1.length) : CM Sb.D)) (M1 ++ [.lst []])) α1 H1 Q := h
  rw [CM.bind_run] at h'
  cases q : quiet (compD w tg (wipeE ρ tg.slots) (fun ρ => do let x ← ev g cl ρ c; truth x) (fun ρ => ev g cl ρ e) M1.length w.its) (M1 ++ [.lst []]) with
  | no => rw [q] at h'; exact h'.elim
  | ex x M2 =>
    exfalso
    unfold quiet at q
    cases z : compD w tg (wipeE ρ tg.slots) (fun ρ => do let x ← ev g cl ρ c; truth x) (fun ρ => ev g cl ρ e) M1.length w.its (M1 ++ [.lst []]) <;> rw [z] at q <;> cases q
  | ok u Mf =>
    rw [q] at h'
    have q2 := quiet_ok q
    have n0 : Nx X.K α1 H1 (α1 ++ [D]) (upd H1 D (.lst [])) := nx_new (Γ := X.gd) hD
    have rh0 : RH X.gd (α1 ++ [D]) (M1 ++ [.lst []]) (upd H1 D (.lst [])) := rh1.new hD ⟨[], upd_same, .nil⟩
    have pD : (α1 ++ [D])[M1.length]? = some D := by rw [← rh1.len, List.getElem?_append_right (Nat.le_refl _)]; simp
    refine ⟨fun i m H => m = w.its.length - i ∧ i ≤ w.its.length ∧ ∃ α M, Nx X.K (α1 ++ [D]) (upd H1 D (.lst [])) α H ∧ RH X.gd α M H ∧ compD w tg (wipeE ρ tg.slots) (fun ρ => do let x ← ev g cl ρ c; truth x) (fun ρ => ev g cl ρ e) M1.length (w.its.drop i) M = .ok u Mf, ⟨_, rfl, Nat.zero_le _, _, _, .refl, rh0, q2⟩, ?_⟩
    rintro i m H2 ⟨rfl, hi, α2, M2, nx2, rh2, hc⟩
    have nx12 := n0.trans nx2
    by_cases hlt : i < w.its.length
    · right
      have hd : w.its.drop i = w.its[i] :: w.its.drop (i + 1) := List.drop_eq_getElem_cons hlt
      rw [hd, compD] at hc
      obtain ⟨_, M3, c1, hc⟩ := bindOk hc
      obtain ⟨hok, e0⟩ := checkOk c1
      rw [e0] at hc
      have hc' : ((setTg (wipeE ρ tg.slots) tg w.its[i] >>= fun ρ1 => (do let x ← ev g cl ρ1 c; truth x : CM Bool) >>= fun b => (match b with
        | false => compD w tg (wipeE ρ tg.slots) (fun ρ => do let x ← ev g cl ρ c; truth x) (fun ρ => ev g cl ρ e) M1.length (w.its.drop (i + 1))
        | true => do
          let v ← ev g cl ρ1 e
          match ← CM.get M1.length with
          | .lst xs => do
            CM.ask (decide (xs.length < lim))
            CM.put M1.length (.lst (xs ++ [v]))
            compD w tg (wipeE ρ tg.slots) (fun ρ => do let x ← ev g cl ρ c; truth x) (fun ρ => ev g cl ρ e) M1.length (w.its.drop (i + 1))
          | _ => CM.fail)) M2) = .ok u Mf := hc
      obtain ⟨ρ1, M4, c2, hc⟩ := bindOk hc'
      obtain ⟨b, M5, c3, hc⟩ := bindOk hc
      obtain ⟨i1, i2, i3⟩ := hJ i α2 M2 H2 nx12 rh2 hok
      refine ⟨i1 hlt, fun H' => ∃ α M, Nx X.K (α1 ++ [D]) (upd H1 D (.lst [])) α H' ∧ RH X.gd α M H' ∧ compD w tg (wipeE ρ tg.slots) (fun ρ => do let x ← ev g cl ρ c; truth x) (fun ρ => ev g cl ρ e) M1.length (w.its.drop (i + 1)) M = .ok u Mf, ?_, ?_⟩
      · rintro H' ⟨α, M, z1, z2, z3⟩
        exact ⟨w.its.length - (i + 1), by omega, rfl, by omega, α, M, z1, z2, z3⟩
      · intro x H' hy
        obtain ⟨nx3, rh3, hr⟩ := i3 x H' hy
        have rx := hr w.its[i] (by simp)
        have rlw : RL X.K α2 H' (wipeE ρ tg.slots) (L2.wipe σ tg.slots) := (((rl.mono nx1).mono nx12).mono nx3).wipe tg.slots
        obtain ⟨e1, kk⟩ := setTg_rel (Q := fun σ2 H2 => wipe σ2 tg.slots = wipe σ tg.slots ∧ tt σ2 H2 fun b H3 => if b = true then te σ2 H3 fun y H4 => ∃ acc, H4 D = some (HO.lst acc) ∧ acc.length < sizeLine ∧ (∃ α M, Nx X.K (α1 ++ [D]) (upd H1 D (.lst [])) α (upd H4 D (.lst (acc ++ [y]))) ∧ RH X.gd α M (upd H4 D (.lst (acc ++ [y]))) ∧ compD w tg (wipeE ρ tg.slots) (fun ρ => do let x ← ev g cl ρ c; truth x) (fun ρ => ev g cl ρ e) M1.length (w.its.drop (i + 1)) M = .ok u Mf) else (∃ α M, Nx X.K (α1 ++ [D]) (upd H1 D (.lst [])) α H3 ∧ RH X.gd α M H3 ∧ compD w tg (wipeE ρ tg.slots) (fun ρ => do let x ← ev g cl ρ c; truth x) (fun ρ => ev g cl ρ e) M1.length (w.its.drop (i + 1)) M = .ok u Mf)) rlw rx c2
        rw [e1] at c3
        refine kk fun σ2 rl2 w2 => ⟨?_, htt rl2 rh3 c3 fun α4 H4 nx4 rh4 => ?_⟩
        · have z := w2 tg.slots fun _ h => h
          rw [z]
          apply List.ext_getElem?
          intro j
          rw [wipe_at, wipe_at]
          split
          · cases σ[j]? <;> rfl
          · rfl
        · cases b with
          | false => rw [if_neg Bool.false_ne_true]; exact ⟨α4, M5, (nx2.trans nx3).trans nx4, rh4, hc⟩
          | true =>
            rw [if_pos rfl]
            obtain ⟨d, M6, c4, hc⟩ := bindOk hc
            refine hte (rl2.mono nx4) rh4 c4 fun α5 H5 v nx5 rh5 rv => ?_
            obtain ⟨o, M7, c5, hc⟩ := bindOk hc
            obtain ⟨c5, e5⟩ := getOk c5
            rw [e5] at hc
            cases o with
            | lst xs =>
              obtain ⟨_, M8, c6, hc⟩ := bindOk hc
              obtain ⟨c6, e6⟩ := askOk c6
              rw [e6] at hc
              obtain ⟨_, M9, c7, hc⟩ := bindOk hc
              have c7 := putOk c7
              subst c7
              have nxx := ((nx2.trans nx3).trans nx4).trans nx5
              have pD5 := nxx.get pD
              obtain ⟨ys, e1, as⟩ := rh5.ob _ _ _ c5 pD5
              have hl := of_decide_eq_true c6
              rw [lim_eq, as.length] at hl
              obtain ⟨n6, rh6⟩ := Ho.putLst rh5 e1 pD5 (as.append (.cons rv .nil))
              exact ⟨ys, e1, hl, α5, _, nxx.trans n6, rh6, hc⟩
            | _ => cases hc
    · left
      have hd : w.its.drop i = [] := List.drop_eq_nil_of_le (by omega)
      rw [hd, compD] at hc
      obtain ⟨hok, e9⟩ := checkOk hc
      rw [← e9] at rh2 hok
      obtain ⟨i1, i2, i3⟩ := hJ i α2 Mf H2 nx12 rh2 hok
      exact ⟨i2 (by omega), Ho.pure rh2 (Ho.nx nx12 h') (.ref (nx2.get pD))⟩
theorem ifs_tt {c : CE} {ifs : List PySem.Expr} {scope : Scope} (hc : ∀ s H C l fp, IfsOk (Bk X scope s H C l fp) g cl c ifs) (s : Shared) (H : Hp) : ∃ tt : TT, (∀ s H C l fp, PTs (Bk X scope s H C l fp) ifs tt) ∧ ∀ {α ρ M σ H M1 b} {Q : Bool → Hp → Prop}, RL X.K α H ρ σ → RH X.gd α M H → evT g cl c ρ M = .ok b M1 → (∀ α1 H1, Nx X.K α H α1 H1 → RH X.gd α1 M1 H1 → Q b H1) → tt σ H Q := by
  cases ifs with
  | nil =>
    refine ⟨tYes, fun _ _ _ _ _ => pts_nil, fun {α ρ M σ H M1 b Q} rl rh e k => ?_⟩
    have hcc := hc s H X.env.locals [] []
    cases hcc
    cases e
    exact k α H .refl rh
  | cons e1 es =>
    have hcc := hc s H X.env.locals [] []
    cases es with
    | cons _ _ => cases hcc
    | nil =>
      refine ⟨tT X.gd g cl (fun _ _ _ _ => False) c, fun s H C l fp => ?_, fun {α ρ M σ H M1 b Q} rl rh e k => ⟨α, ρ, M, rl, rh, ?_⟩⟩
      · have := hc s H C l fp
        cases this with
        | one hh => exact pts_one (hh _ takes0)
      · rw [e]
        intro α' b' H' nx rh' r
        rw [r]; exact k α' H' nx rh'
theorem se_comp (gx : GX g cl X) {tg : Tg} {ci : CI} {c e : CE} {tgE iter elt : PySem.Expr} {ifs : List PySem.Expr} {scope : Scope} {own : List (Str × Nat)} {pos : Pos} (hi : SI g cl X tgE ci iter) (hown : own.map (·.2) = tg.slots) (hb : blkC X.N X.env.scope scope own = true)
    (hg : ∀ s H C l fp, SG (Bk X scope s H C l fp) tg tgE) (hc : ∀ s H C l fp, IfsOk (Bk X scope s H C l fp) g cl c ifs) (he : ∀ s H C l fp, SE g cl (Bk X scope s H C l fp) e elt) (hf : ∀ x, foldedSetIterable iter X.env x = pure x) : SE g cl X (.comp tg ci c e) (.ListComp elt [⟨tgE, iter, ifs, 0⟩] scope pos) := fun W tk => ⟨fun pins s σ H Q I z => by
  obtain ⟨α, ρ, M, rl, rh, h⟩ := z
  obtain ⟨wi, pi, hw⟩ := hi W tk rl rh
  obtain ⟨tt, ptt, htt⟩ := ifs_tt hc s H
  refine (pe_lc (g := gT X.K tg) (te := tE X.gd g cl (fun _ _ _ _ => False) e) gx.calm gx.nd pi (blkOk_by hb) (fun s H C l fp => hg s H C l fp) ptt (fun s H C l fp => he s H C l fp (fun _ _ _ _ => False) takes0) hf).run pins s σ H Q I ?_
  rw [hown]
  refine comp_core gx tk hw htt (fun {α ρ M σ H M1 d Q} rl rh e k => ⟨α, ρ, M, rl, rh, ?_⟩) rl rh h
  show Ho X.gd _ _ _ _ _ _
  rw [e]
  exact fun α' v H' nx rh' rv => k α' H' v nx rh' rv⟩
end
end Sb
end
section
set_option Elab.async false
set_option linter.all false
set_option maxRecDepth 100000
set_option maxHeartbeats 2000000
namespace Sb
open PySem PySem.Spec PyProof.Rows L2
abbrev RPs (K : Frag) (α : List Addr) (H : Hp) : List (D × D) → List (V × V) → Prop := Paired fun p q => RV K α H p.1 q.1 ∧ RV K α H p.2 q.2
section
variable {g : G} {cl : Cls} {X : Cx}
def SD (g : G) (cl : Cls) (X : Cx) (pos : Pos) (cs : CEs) (keys : List (Option PySem.Expr)) (vals : List PySem.Expr) : Prop := ∀ W, Takes X W → ∃ trs, PPs X pos keys vals trs ∧ ∀ {σ H α ρ M Q}, RL X.K α H ρ σ → RH X.gd α M H → Ho X.gd (fun x d H => W x d σ H) (RPs X.K) (evKV g cl ρ cs M) α H Q → tPairs trs σ H Q
theorem sd_nil {pos : Pos} : SD g cl X pos .nil [] [] := fun W tk => ⟨_, pps_nil, fun {σ H α ρ M Q} rl rh h => Ho.pure (a := []) rh h .nil⟩
theorem sd_cons {pos : Pos} {k v : CE} {cs : CEs} {ek ev' : PySem.Expr} {keys : List (Option PySem.Expr)} {vals : List PySem.Expr} (hk : SE g cl X k ek) (hv : SE g cl X v ev') (hs : SD g cl X pos cs keys vals) : SD g cl X pos (.cons k (.cons v cs)) (some ek :: keys) (ev' :: vals) := fun W tk => by
  obtain ⟨trs, pp, kk⟩ := hs W tk
  refine ⟨_, pps_cons (hk W tk) (hv W tk) pp, fun {σ H α ρ M Q} rl rh h => ?_⟩
  rw [evKV] at h
  show tE X.gd g cl W k σ H fun x H1 => tE X.gd g cl W v σ H1 fun y H2 => tPairs trs σ H2 fun ps H3 => Q ((x, y) :: ps) H3
  refine tE.go rl rh h fun x H1 α1 M1 d nx rl rh rx h => tE.go rl rh h fun y H2 α2 M2 e nx2 rl rh ry h => kk rl rh ((Ho.bind h).mono fun ps H3 z => ?_)
  obtain ⟨qs, M3, α3, nx3, rh3, rps, h⟩ := z
  exact Ho.pure rh3 h (.cons ⟨(rx.mono nx2).mono nx3, ry.mono nx3⟩ rps)
theorem keys_rel {K : Frag} {α : List Addr} {H : Hp} {ps : List (D × D)} {qs : List (V × V)} (r : RPs K α H ps qs) (h : (ps.all fun q => q.1.isK false) = true) : ∃ kvs : List (Key × V), qs = kvs.map (fun kv => (kV kv.1, kv.2)) ∧ Paired (PK K α H) ps kvs := by
  induction r with
  | nil => exact ⟨[], rfl, .nil⟩
  | cons z _ ih =>
    rename_i p q _ _ _
    rw [List.all_cons, Bool.and_eq_true] at h
    obtain ⟨kvs, e, pr⟩ := ih h.2
    obtain ⟨k, rk, ek⟩ := RK.ofK z.1 h.1
    refine ⟨(k, q.2) :: kvs, ?_, .cons ⟨rk, z.2⟩ pr⟩
    rw [List.map_cons, ← e, ← ek]
theorem merge_rel {K : Frag} {α : List Addr} {H : Hp} {ps : List (D × D)} {kvs : List (Key × V)} (r : Paired (PK K α H) ps kvs) : ∀ {m : List (D × D)} {km : List (Key × V)}, Paired (PK K α H) m km → Paired (PK K α H) (ps.foldl (fun m q => Sb.putK q.1 q.2 m) m) (mergeK km kvs) := by
  induction r with
  | nil => exact fun z => z
  | cons h _ ih => exact fun z => ih (putK_rel z h.1 h.2)
theorem set_len_self {A : Type} (M : List A) (o : A) : (M ++ [o]).set M.length o = M ++ [o] := by simp
theorem upd_upd {H : Hp} {p : Addr} {a b : HO} : upd (upd H p a) p b = upd H p b := by
  funext q
  by_cases e : q = p
  · subst e; rw [upd_same, upd_same]
  · rw [upd_ne e, upd_ne e, upd_ne e]
theorem se_dic {cs : CEs} {k1 : Option PySem.Expr} {keys : List (Option PySem.Expr)} {vals : List PySem.Expr} {pos : Pos} (hs : SD g cl X pos cs (k1 :: keys) vals) (hall : ((k1 :: keys).all fun x => x.isSome) = true) (hlen : (k1 :: keys).length = vals.length) (h15 : (k1 :: keys).length ≤ 15) : SE g cl X (.dic false cs) (.Dict (k1 :: keys) vals pos) := fun W tk => by
  obtain ⟨trs, pp, kk⟩ := hs W tk
  refine (pe_disp pp hall hlen (fun h => by cases h) h15).imp fun σ H Q z => ?_
  obtain ⟨α, ρ, M, rl, rh, h⟩ := z
  rw [ev] at h
  intro p hp
  have n0 : Nx X.K α H (α ++ [p]) (upd H p (.dK [])) := nx_new (Γ := X.gd) hp
  have rh0 : RH X.gd (α ++ [p]) (M ++ [.dic false []]) (upd H p (.dK [])) := rh.new hp ⟨.dK [], upd_same, [], rfl, .nil⟩
  have pD : (α ++ [p])[M.length]? = some p := by rw [← rh.len, List.getElem?_append_right (Nat.le_refl _)]; simp
  have h' : Ho X.gd (fun x d H => W x d σ H) (RV X.K) ((evKV g cl ρ cs >>= fun ps => CM.get M.length >>= fun o => (match o with
    | .dic _ [] => do
      CM.ask (ps.all (fun q => q.1.isK false) && decide (ps.length ≤ 15))
      CM.put M.length (.dic false (ps.foldl (fun m q => Sb.putK q.1 q.2 m) []))
      pure (.ref M.length)
    | _ => CM.fail : CM Sb.D)) (M ++ [.dic false []])) (α ++ [p]) (upd H p (.dK [])) Q := Ho.nx n0 h
  refine kk (rl.mono n0) rh0 ((Ho.bind h').mono fun qs H2 z => ?_)
  obtain ⟨ps, M2, α2, nx2, rh2, rps, h⟩ := z
  obtain ⟨o, eo, h⟩ := get_bind h
  have pD2 := nx2.get pD
  cases o with
  | dic t kvs =>
    cases kvs with
    | cons _ _ => exact h.elim
    | nil =>
      obtain ⟨hk, h⟩ := ask_run h
      rw [Bool.and_eq_true, decide_eq_true_eq] at hk
      obtain ⟨_, h⟩ := put_bind h
      obtain ⟨ht, kws, e1, pr⟩ := dic_at rh2 eo pD2
      cases pr
      obtain ⟨kvs, e2, pr2⟩ := keys_rel rps hk.1
      obtain ⟨n3, rh3⟩ := Ho.putDic (W := fun _ _ _ => True) (A := Unit) (B := Unit) rh2 e1 pD2 (merge_rel pr2 .nil)
      exact ⟨e1, kvs, e2, by rw [← Paired.len pr2]; exact hk.2, Ho.ok h n3 rh3 (.ref pD2)⟩
  | _ => exact h.elim
theorem se_dic0 {pos : Pos} : SE g cl X (.dic false .nil) (.Dict [] [] pos) := fun W tk =>
  pe_dnewK.imp fun σ H Q z p hp => by
    obtain ⟨α, ρ, M, rl, rh, h⟩ := z
    have n0 : Nx X.K α H (α ++ [p]) (upd H p (.dK [])) := nx_new (Γ := X.gd) hp
    have rh0 : RH X.gd (α ++ [p]) (M ++ [.dic false []]) (upd H p (.dK [])) := rh.new hp ⟨.dK [], upd_same, [], rfl, .nil⟩
    have pD : (α ++ [p])[M.length]? = some p := by rw [← rh.len, List.getElem?_append_right (Nat.le_refl _)]; simp
    have h' : Ho X.gd (fun x d H => W x d σ H) (RV X.K) ((CM.get M.length >>= fun o => (match o with
      | .dic _ [] => do
        CM.ask true
        CM.put M.length (.dic false [])
        pure (.ref M.length)
      | _ => CM.fail : CM Sb.D)) (M ++ [.dic false []])) (α ++ [p]) (upd H p (.dK [])) Q := Ho.nx n0 h
    obtain ⟨o, eo, h⟩ := get_bind h'
    simp at eo
    subst eo
    obtain ⟨_, h⟩ := ask_run h
    obtain ⟨_, h⟩ := put_bind h
    rw [set_len_self] at h
    exact Ho.ok h .refl rh0 (.ref pD)
inductive FV where
  | nx (σ : L2.St) | rt (v : V) | bk (σ : L2.St) | ct (σ : L2.St)
inductive RFl (K : Frag) (α : List Addr) (H : Hp) : Fl → FV → Prop
  | nx {ρ σ} : RL K α H ρ σ → RFl K α H (.nx ρ) (.nx σ)
  | rt {d v} : RV K α H d v → RFl K α H (.rt d) (.rt v)
  | bk {ρ σ} : RL K α H ρ σ → RFl K α H (.bk ρ) (.bk σ)
  | ct {ρ σ} : RL K α H ρ σ → RFl K α H (.ct ρ) (.ct σ)
def endsQ (E : Ends) : FV → Hp → Prop
  | .nx σ, H => E.nx σ H
  | .rt v, H => E.rt v H
  | .bk σ, H => E.bk σ H
  | .ct σ, H => E.ct σ H
def tS (Γ : Gd) (g : G) (cl : Cls) (W : XW) (c : CS) : TS := fun E σ H => ∃ α ρ M, RL Γ.K α H ρ σ ∧ RH Γ α M H ∧ Ho Γ W (RFl Γ.K) (ex g cl ρ c M) α H (endsQ E)
def tSs (Γ : Gd) (g : G) (cl : Cls) (W : XW) (c : CSs) : TS := fun E σ H => ∃ α ρ M, RL Γ.K α H ρ σ ∧ RH Γ α M H ∧ Ho Γ W (RFl Γ.K) (exs g cl ρ c M) α H (endsQ E)
abbrev WxO (W : XW) : WX := fun x d _ H => W x d H
def SS (g : G) (cl : Cls) (X : Cx) (c : CS) (st : Stmt) : Prop := ∀ W : XW, Takes X (WxO W) → PS X st (tS X.gd g cl W c)
def SSs (g : G) (cl : Cls) (X : Cx) (c : CSs) (st : List Stmt) : Prop := ∀ W : XW, Takes X (WxO W) → PSs X st (tSs X.gd g cl W c)
theorem _root_.L2.PS.imp {X : Cx} {st : Stmt} {t t' : TS} (h : PS X st t) (i : ∀ D σ H, t' D σ H → t D σ H) : PS X st t' := ⟨fun pins s σ H D I q => h.run pins s σ H D I (i D σ H q)⟩
theorem _root_.L2.PSs.imp {X : Cx} {st : List Stmt} {t t' : TS} (h : PSs X st t) (i : ∀ D σ H, t' D σ H → t D σ H) : PSs X st t' := ⟨fun pins s σ H D I q => h.run pins s σ H D I (i D σ H q)⟩
theorem ss_nil : SSs g cl X .nil [] := fun W tk => pss_nil.imp fun D σ H z => by
  obtain ⟨α, ρ, M, rl, rh, h⟩ := z
  exact Ho.pure (a := Fl.nx ρ) (b := FV.nx σ) rh h (.nx rl)
theorem ss_cons {c : CS} {cs : CSs} {st : Stmt} {sts : List Stmt} (h1 : SS g cl X c st) (h2 : SSs g cl X cs sts) : SSs g cl X (.cons c cs) (st :: sts) := fun W tk => (pss_cons (h1 W tk) (h2 W tk)).imp fun D σ H z => by
  obtain ⟨α, ρ, M, rl, rh, h⟩ := z
  rw [exs] at h
  refine ⟨α, ρ, M, rl, rh, (Ho.bind h).mono fun fv H1 z => ?_⟩
  obtain ⟨fl, M1, α1, nx, rh1, r, h⟩ := z
  cases r with
  | nx rl1 => exact ⟨α1, _, M1, rl1, rh1, h⟩
  | rt rv => exact (Ho.ok (R := RFl X.K) h .refl rh1 (RFl.rt rv) : endsQ D (FV.rt _) H1)
  | bk rl1 => exact (Ho.ok (R := RFl X.K) h .refl rh1 (RFl.bk rl1) : endsQ D (FV.bk _) H1)
  | ct rl1 => exact (Ho.ok (R := RFl X.K) h .refl rh1 (RFl.ct rl1) : endsQ D (FV.ct _) H1)
theorem sE.go {W : XW} {A B : Type} {c : CE} {f : Sb.D → CM A} {R : List Addr → Hp → A → B → Prop} {Q : B → Hp → Prop} {Q' : VK} {α : List Addr} {ρ : Env} {M : List Ob} {σ : L2.St} {H : Hp} (rl : RL X.K α H ρ σ) (rh : RH X.gd α M H) (h : Ho X.gd W R ((ev g cl ρ c >>= f) M) α H Q)
    (k : ∀ v H1 α1 M1 d, Nx X.K α H α1 H1 → RL X.K α1 H1 ρ σ → RH X.gd α1 M1 H1 → RV X.K α1 H1 d v → Ho X.gd W R (f d M1) α1 H1 Q → Q' v H1) : tE X.gd g cl (WxO W) c σ H Q' := tE.go (W := WxO W) rl rh h k
theorem ss_exp {e : CE} {pe : PySem.Expr} {pos : Pos} (he : SE g cl X e pe) (hs : swapsWith pe none pos.line X.env = pure false) : SS g cl X (.exp e) (.Expr pe pos) := fun W tk => (ps_expr (he _ tk) hs).imp fun D σ H z => by
  obtain ⟨α, ρ, M, rl, rh, h⟩ := z
  rw [ex] at h
  exact sE.go rl rh h fun v H1 α1 M1 d nx rl rh rv h => Ho.pure (b := FV.nx σ) rh h (.nx rl)
theorem ss_doc {x : Str} {k : Nat} {p pos : Pos} : SS g cl X .pas (.Expr (.Constant (.str x) k p) pos) := fun W tk => (ps_expr pe_str rfl).imp fun D σ H z => by
  obtain ⟨α, ρ, M, rl, rh, h⟩ := z
  exact Ho.pure (b := FV.nx σ) rh h (.nx rl)
theorem ss_ret {e : CE} {pe : PySem.Expr} {pos : Pos} (he : SE g cl X e pe) : SS g cl X (.ret e) (.Return (some pe) pos) := fun W tk => (ps_ret (he _ tk)).imp fun D σ H z => by
  obtain ⟨α, ρ, M, rl, rh, h⟩ := z
  rw [ex] at h
  exact sE.go rl rh h fun v H1 α1 M1 d nx rl rh rv h => Ho.pure (b := FV.rt v) rh h (.rt rv)
theorem ss_ret0 {pos : Pos} : SS g cl X (.ret (.cst .non)) (.Return none pos) := fun W tk => ps_retN.imp fun D σ H z => by
  obtain ⟨α, ρ, M, rl, rh, h⟩ := z
  exact Ho.pure (a := Fl.rt .non) (b := FV.rt .non) rh h (.rt .non)
theorem ss_pas {pos : Pos} : SS g cl X .pas (.Pass pos) := fun W tk => ps_pass.imp fun D σ H z => by
  obtain ⟨α, ρ, M, rl, rh, h⟩ := z
  exact Ho.pure (a := Fl.nx ρ) (b := FV.nx σ) rh h (.nx rl)
theorem ss_brk {pos : Pos} : SS g cl X .brk (.Break pos) := fun W tk => ps_break.imp fun D σ H z => by
  obtain ⟨α, ρ, M, rl, rh, h⟩ := z
  exact Ho.pure (a := Fl.bk ρ) (b := FV.bk σ) rh h (.bk rl)
theorem ss_cnt {pos : Pos} : SS g cl X .cnt (.Continue pos) := fun W tk => ps_continue.imp fun D σ H z => by
  obtain ⟨α, ρ, M, rl, rh, h⟩ := z
  exact Ho.pure (a := Fl.ct ρ) (b := FV.ct σ) rh h (.ct rl)
theorem ss_iff {c : CE} {a b : CSs} {ec : PySem.Expr} {sa sb : List Stmt} {pos : Pos} (hc : STt g cl X c ec) (ha : SSs g cl X a sa) (hb : SSs g cl X b sb) : SS g cl X (.iff c a b) (.If ec sa sb pos) := fun W tk => (ps_if (hc _ tk) (ha W tk) (hb W tk)).imp fun D σ H z => by
  obtain ⟨α, ρ, M, rl, rh, h⟩ := z
  rw [ex] at h
  refine tT.go (W := WxO W) rl rh h fun k H1 α1 M1 nx rl rh h => ?_
  cases k with
  | true => rw [if_pos rfl]; exact ⟨α1, ρ, M1, rl, rh, h⟩
  | false => rw [if_neg Bool.false_ne_true]; exact ⟨α1, ρ, M1, rl, rh, h⟩
theorem setTg_cases {ρ : Env} {tg : Tg} {d : Sb.D} {M : List Ob} : setTg ρ tg d M = .no ∨ ∃ ρ1, setTg ρ tg d M = .ok ρ1 M := by
  have one : ∀ {ρ : Env} {i : Nat} {d : Sb.D}, setLoc ρ i d M = .no ∨ ∃ ρ1, setLoc ρ i d M = .ok ρ1 M := by
    intro ρ i d
    unfold setLoc
    by_cases e : i < ρ.length
    · rw [if_pos e]; exact .inr ⟨_, rfl⟩
    · rw [if_neg e]; exact .inl rfl
  cases tg with
  | loc i => exact one
  | tup is =>
    have many : ∀ (is : List Nat) (ds : List Sb.D) (ρ : Env), setLocs ρ is ds M = .no ∨ ∃ ρ1, setLocs ρ is ds M = .ok ρ1 M := by
      intro is
      induction is with
      | nil => intro ds ρ; cases ds with
        | nil => exact .inr ⟨_, rfl⟩
        | cons _ _ => exact .inl rfl
      | cons i is ih =>
        intro ds ρ
        cases ds with
        | nil => exact .inl rfl
        | cons d ds =>
          show ((setLoc ρ i d >>= fun ρ' => setLocs ρ' is ds) M) = .no ∨ ∃ ρ1, ((setLoc ρ i d >>= fun ρ' => setLocs ρ' is ds) M) = .ok ρ1 M
          rw [CM.bind_run]
          rcases one (ρ := ρ) (i := i) (d := d) with e | ⟨ρ1, e⟩
          · rw [e]; exact .inl rfl
          · rw [e]; exact ih ds ρ1
    cases d with
    | tup ds => exact many is ds ρ
    | _ => exact .inl rfl
theorem tg_go {W : XW} {A B : Type} {tg : Tg} {d : Sb.D} {v : V} {f : Env → CM A} {R : List Addr → Hp → A → B → Prop} {Q : B → Hp → Prop} {Q' : L2.St → Hp → Prop} {α : List Addr} {ρ : Env} {M : List Ob} {σ : L2.St} {H : Hp} (rl : RL X.K α H ρ σ) (r : RV X.K α H d v) (h : Ho X.gd W R ((setTg ρ tg d >>= f) M) α H Q)
    (k : ∀ ρ1 σ2, RL X.K α H ρ1 σ2 → Ho X.gd W R (f ρ1 M) α H Q → Q' σ2 H) : gT X.K tg v σ H Q' := by
  rw [CM.bind_run] at h
  rcases setTg_cases (ρ := ρ) (tg := tg) (d := d) (M := M) with e | ⟨ρ1, e⟩
  · rw [e] at h; exact h.elim
  · rw [e] at h
    exact (setTg_rel rl r e).2 fun σ2 rl2 _ => k ρ1 σ2 rl2 h
def Tt.tg : Tt → Option Tg
  | .loc i => some (.loc i)
  | .tup is => some (.tup is)
  | _ => none
theorem ss_asg {tt : Tt} {tg : Tg} {e : CE} {tE' pe : PySem.Expr} {pos : Pos} (ht : tt.tg = some tg) (hg : SG X tg tE') (he : SE g cl X e pe) (h1 : swapsWithSole [tE'] pe pos.line X.env = pure false) (h2 : swappedStores [tE'] pe X.env = pure none) (h3 : (assignEach [tE'] X.env).map (fun x => x.2) = [assign tE' X.env]) : SS g cl X (.asg tt e) (.Assign [tE'] pe pos) := fun W tk => (ps_asg (he _ tk) hg h1 h2 h3).imp fun D σ H z => by
  obtain ⟨α, ρ, M, rl, rh, h⟩ := z
  have h' : Ho X.gd W (RFl X.K) ((ev g cl ρ e >>= fun v => setTg ρ tg v >>= fun ρ' => (pure (.nx ρ') : CM Fl)) M) α H (endsQ D) := by
    cases tt with
    | loc i => cases ht; rw [ex] at h; exact h
    | tup is =>
      cases ht; rw [ex] at h
      have : (fun v => setTg ρ (.tup is) v >>= fun ρ' => (pure (.nx ρ') : CM Fl)) = (fun v => store g cl ρ v (.tup is) >>= fun ρ' => (pure (.nx ρ') : CM Fl)) := rfl
      rw [this]; exact h
    | _ => cases ht
  exact sE.go rl rh h' fun v H1 α1 M1 d nx rl rh rv h => tg_go rl rv h fun ρ1 σ2 rl2 h => Ho.pure (b := FV.nx σ2) rh h (.nx rl2)
theorem ss_asgLc (gx : GX g cl X) {i : Nat} {y : Str} {py : Pos} {tg : Tg} {ci : CI} {c e : CE} {tgE iter elt : PySem.Expr} {ifs : List PySem.Expr} {scope : Scope} {own : List (Str × Nat)} {pos spos : Pos} (hy : X.N[i]? = some y) (hyl : X.env.scope.names.lookup y = some .local) (hsw : swapsWith (.ListComp elt [⟨tgE, iter, ifs, 0⟩] scope pos) (some (.Name y py)) spos.line X.env = pure true) (hi : SI g cl X tgE ci iter) (hown : own.map (·.2) = tg.slots) (hb : blkC X.N X.env.scope scope own = true)
    (hg : ∀ s H C l fp, SG (Bk X scope s H C l fp) tg tgE) (hc : ∀ s H C l fp, IfsOk (Bk X scope s H C l fp) g cl c ifs) (he : ∀ s H C l fp, SE g cl (Bk X scope s H C l fp) e elt) (hf : ∀ x, foldedSetIterable iter X.env x = pure x) : SS g cl X (.asg (.loc i) (.comp tg ci c e)) (.Assign [.Name y py] (.ListComp elt [⟨tgE, iter, ifs, 0⟩] scope pos) spos) := fun W tk => ⟨fun pins s σ H D I z => by
  obtain ⟨α, ρ, M, rl, rh, h⟩ := z
  obtain ⟨wi, pi, hw⟩ := hi (WxO W) tk rl rh
  obtain ⟨tt, ptt, htt⟩ : ∃ tt : TT, (∀ s H C l fp, PTs (Bk X scope s H C l fp) ifs tt) ∧ ∀ {α ρ M σ H M1 b} {Q : Bool → Hp → Prop}, RL X.K α H ρ σ → RH X.gd α M H → evT g cl c ρ M = .ok b M1 → (∀ α1 H1, Nx X.K α H α1 H1 → RH X.gd α1 M1 H1 → Q b H1) → tt σ H Q := ifs_tt hc s H
  refine (ps_setLc (g := gT X.K tg) (te := tE X.gd g cl (fun _ _ _ _ => False) e) gx.calm gx.nd hy hyl hsw pi (blkOk_by hb) (fun s H C l fp => hg s H C l fp) ptt (fun s H C l fp => he s H C l fp (fun _ _ _ _ => False) takes0) hf).run pins s σ H D I ?_
  rw [hown]
  have h' : Ho X.gd W (RFl X.K) ((ev g cl ρ (.comp tg ci c e) >>= fun v => setTg ρ (.loc i) v >>= fun ρ' => (pure (.nx ρ') : CM Fl)) M) α H (endsQ D) := by rw [ex] at h; exact h
  refine comp_core (W := WxO W) gx tk hw htt (fun {α ρ M σ H M1 d Q} rl rh e k => ⟨α, ρ, M, rl, rh, ?_⟩) rl rh ((Ho.bind h').mono fun v H1 z => ?_)
  · show Ho X.gd _ _ _ _ _ _
    rw [e]
    exact fun α' v H' nx rh' rv => k α' H' v nx rh' rv
  · obtain ⟨d, M1, α1, nx, rh1, rv, h⟩ := z
    exact tg_go (tg := .loc i) (rl.mono nx) rv h fun ρ1 σ2 rl2 h => Ho.pure (b := FV.nx σ2) rh1 h (.nx rl2)⟩
end
end Sb
end
section
set_option Elab.async false
set_option linter.all false
set_option maxRecDepth 100000
set_option maxHeartbeats 2000000
namespace Sb
open PySem PySem.Spec PyProof.Rows L2
section
variable {g : G} {cl : Cls} {X : Cx}
theorem setAttr_bind {Γ : Gd} {W : XW} {A B : Type} {x w : Sb.D} {f : String} {k : Unit → CM A} {R : List Addr → Hp → A → B → Prop} {α : List Addr} {M : List Ob} {H : Hp} {Q : B → Hp → Prop} {v u : V} (na : NaOk g Γ.K) (rh : RH Γ α M H) (rv : RV Γ.K α H x v) (ru : RV Γ.K α H w u) (h : Ho Γ W R ((setAttr g.na x f w >>= k) M) α H Q) :
    ∃ a c dx gs M', v = .ref a ∧ H a = some (.ins (cad Γ.K c) dx gs) ∧ L2.Cls Γ.K (cad Γ.K c) ∧ NoAttr Γ.K (cad Γ.K c) (Str.ofString f) ∧ gs.length < 1000 ∧ Nx Γ.K α H α (upd H a (.ins (cad Γ.K c) dx (L2.putF (Str.ofString f) u gs))) ∧ RH Γ α M' (upd H a (.ins (cad Γ.K c) dx (L2.putF (Str.ofString f) u gs))) ∧ Ho Γ W R (k () M') α H Q := by
  cases x with
  | ref i =>
    unfold setAttr at h
    rw [bind_assoc] at h
    obtain ⟨o, eo, h⟩ := get_bind h
    cases o with
    | ins c fs =>
      dsimp only at h
      rw [bind_assoc] at h
      obtain ⟨hn, h⟩ := ask_run h
      rw [Bool.and_eq_true, decide_eq_true_eq] at hn
      obtain ⟨_, h⟩ := put_bind h
      cases rv with
      | ref ha =>
        obtain ⟨dx, gs, e1, rf⟩ := rh.ob _ _ _ eo ha
        have n : Nx Γ.K α H α (upd H _ (.ins (cad Γ.K c) dx (L2.putF (Str.ofString f) u gs))) := nx_put e1 ⟨fun _ h => (by cases h), fun _ _ h => (by cases h)⟩
        have hl : gs.length < 1000 := by
          have := Paired.len rf
          omega
        exact ⟨_, c, dx, gs, _, rfl, e1, (na c f hn.1).1, (na c f hn.1).2, hl, n, rh.put (o := .ins c (Sb.putF f w fs)) ha n ⟨dx, _, upd_same, RF.mono n (putF_rel ru rf)⟩, h⟩
    | _ => exact h.elim
  | _ => exact h.elim
theorem ss_att (na : NaOk g X.K) {o e : CE} {f : String} {eo pe : PySem.Expr} {p pos : Pos} (ho : SE g cl X o eo) (he : SE g cl X e pe) (h1 : swapsWith pe (some (.Attribute eo (Str.ofString f) p)) pos.line X.env = pure false) : SS g cl X (.asg (.att o f) e) (.Assign [.Attribute eo (Str.ofString f) p] pe pos) := fun W tk => (ps_fld (ho _ tk) (he _ tk) h1).imp fun D σ H z => by
  obtain ⟨α, ρ, M, rl, rh, h⟩ := z
  have h' : Ho X.gd W (RFl X.K) ((ev g cl ρ e >>= fun v => ev g cl ρ o >>= fun x => setAttr g.na x f v >>= fun _ => (pure (.nx ρ) : CM Fl)) M) α H (endsQ D) := by
    rw [ex] at h
    simp only [store, bind_assoc, pure_bind] at h
    exact h
  refine sE.go rl rh h' fun v H1 α1 M1 d nx rl rh rv h => sE.go rl rh h fun x H2 α2 M2 c nx2 rl rh rx h => ?_
  obtain ⟨a, c, dx, gs, M', e1, e2, cc, nn, hl, n, rh3, h⟩ := setAttr_bind na rh rx (rv.mono nx2) h
  exact ⟨a, _, dx, gs, e1, e2, cc, nn, hl, Ho.ok (R := RFl X.K) (b := FV.nx σ) h n rh3 (.nx (rl.mono n))⟩
def rSetC (Γ : Gd) (W : XW) : TSet := fun o i v H Q => ∃ α M x k d, RH Γ α M H ∧ RV Γ.K α H x o ∧ RV Γ.K α H k i ∧ RV Γ.K α H d v ∧ Ho Γ W (fun _ _ (_ : Unit) (_ : Unit) => True) (setItem x k d M) α H fun _ H' => Q H'
theorem set_core (hu : X.A.units + 65 < cLine) {W : XW} : PSet X (rSetC X.gd W) := by
  rintro pins s σ H o i v ov iv u Q I ro ri rv ⟨α, M, x, k, d, rh, rx, rk, rd, h⟩
  cases x with
  | ref j =>
    have h2 := h
    unfold setItem at h2
    obtain ⟨ob, eo, h2⟩ := get_bind h2
    cases rx with
    | ref ha =>
      cases ob with
      | lst ds =>
        cases k with
        | int z =>
          obtain ⟨jj, ej, h2⟩ := opt_bind h2
          rw [← bind_pure (CM.put _ _)] at h2
          obtain ⟨_, h2⟩ := put_bind h2
          obtain ⟨xs, e1, as⟩ := rh.ob _ _ _ eo ha
          cases rk
          rw [as.length] at ej
          obtain ⟨n, rh3⟩ := Ho.putLst rh e1 ha (as.set jj rd)
          exact set_list pins s σ H _ _ v ov iv u Q I ro ri rv ⟨_, xs, z, jj, rfl, rfl, e1, ej, Ho.ok (Q := fun _ H' => Q H') (b := ()) h2 n rh3 trivial⟩
        | _ => exact h2.elim
      | dic t kvs =>
        obtain ⟨hk, h2⟩ := ask_run h2
        rw [Bool.and_eq_true, decide_eq_true_eq] at hk
        rw [← bind_pure (CM.put _ _)] at h2
        obtain ⟨_, h2⟩ := put_bind h2
        obtain ⟨rfl, kws, e1, pr⟩ := dic_at rh eo ha
        obtain ⟨ky, rky, rfl⟩ := RK.ofK rk hk.1
        have hl := hk.2
        rw [lim_eq, Paired.len pr] at hl
        obtain ⟨n, rh3⟩ := Ho.putDic (W := W) (A := Unit) (B := Unit) rh e1 ha (putK_rel pr rky rd)
        cases ro
        exact d_setItem (by omega) I (DPut.k e1 hl) ri rv fun s' I' => ⟨_, I', Ho.ok (Q := fun _ H' => Q H') (b := ()) h2 n rh3 trivial⟩
      | _ => exact h2.elim
  | _ => exact h.elim
theorem ss_idx (gx : GX g cl X) {o i e : CE} {eo ei pe : PySem.Expr} {p pos : Pos} (ho : SE g cl X o eo) (hi : SE g cl X i ei) (he : SE g cl X e pe) (h0 : ∀ v, assign (.Subscript eo ei p) X.env v = (do
        let ov ← holding [v] (eval eo X.env)
        let iv ← holding [v, ov] (eval ei X.env)
        standAt p
        holding [v, ov, iv] (PySem.setItem ov iv v)
        release [v, ov, iv] [])) (h1 : swapsWithSole [.Subscript eo ei p] pe pos.line X.env = pure false) (h2 : swappedStores [.Subscript eo ei p] pe X.env = pure none) : SS g cl X (.asg (.idx o i) e) (.Assign [.Subscript eo ei p] pe pos) := fun W tk => (ps_asg (he _ tk) (pg_sub (ho _ tk) (hi _ tk) (set_core (W := W) gx.un) h0) h1 h2 rfl).imp fun D σ H z => by
  obtain ⟨α, ρ, M, rl, rh, h⟩ := z
  have h' : Ho X.gd W (RFl X.K) ((ev g cl ρ e >>= fun v => ev g cl ρ o >>= fun x => ev g cl ρ i >>= fun k => setItem x k v >>= fun _ => (pure (.nx ρ) : CM Fl)) M) α H (endsQ D) := by
    rw [ex] at h
    simp only [store, bind_assoc, pure_bind] at h
    exact h
  refine sE.go rl rh h' fun v H1 α1 M1 d nx rl rh rv h => sE.go rl rh h fun x H2 α2 M2 c nx2 rl rh rx h => sE.go rl rh h fun k H3 α3 M3 b nx3 rl rh rk h => ?_
  refine ⟨α3, M3, c, b, d, rh, rx.mono nx3, rk, (rv.mono nx2).mono nx3, (Ho.bind h).mono fun _ H4 z => ?_⟩
  obtain ⟨_, M4, α4, nx4, rh4, _, h⟩ := z
  exact Ho.pure (b := FV.nx σ) rh4 h (.nx (rl.mono nx4))
theorem ss_del (gx : GX g cl X) {o i : CE} {eo ei : PySem.Expr} {p pos : Pos} (ho : SE g cl X o eo) (hi : SE g cl X i ei) : SS g cl X (.del o i) (.Delete [.Subscript eo ei p] pos) := fun W tk => (ps_ddel (ho _ tk) (hi _ tk)).imp fun D σ H z => by
  obtain ⟨α, ρ, M, rl, rh, h⟩ := z
  rw [ex] at h
  refine sE.go rl rh h fun x H1 α1 M1 c nx rl rh rx h => sE.go rl rh h fun y H2 α2 M2 k nx2 rl rh ry h => ?_
  cases c with
  | ref j =>
    unfold delItem at h
    rw [bind_assoc] at h
    obtain ⟨ob, eo, h⟩ := get_bind h
    cases ob with
    | dic t kvs =>
      dsimp only at h
      rw [bind_assoc] at h
      obtain ⟨hk, h⟩ := ask_run h
      rw [Bool.and_eq_true] at hk
      obtain ⟨_, h⟩ := put_bind h
      cases rx with
      | ref ha =>
        have ha := nx2.get ha
        obtain ⟨rfl, kws, e1, pr⟩ := dic_at rh eo ha
        obtain ⟨ky, rky, rfl⟩ := RK.ofK ry hk.1
        obtain ⟨n, rh3⟩ := Ho.putDic (W := W) (A := Unit) (B := Unit) rh e1 ha (dropK_rel pr rky)
        have hs : (valV kws ky).isSome = true := by
          rcases look_rel (K := X.K) (α := α2) (H := H2) pr rky with ⟨l1, l2⟩ | ⟨d', z, l1, l2, r⟩
          · rw [l1] at hk; exact absurd hk.2 (by decide)
          · rw [l2]; rfl
        exact ⟨_, kws, ky, rfl, e1, rfl, hs, Ho.ok (R := RFl X.K) (b := FV.nx σ) h n rh3 (.nx (rl.mono n))⟩
    | _ => exact h.elim
  | _ => exact h.elim
def augF : BOp → Int → Int → Option Int
  | .add, a, b => some (a + b)
  | .sub, a, b => some (a - b)
  | _, _, _ => none
theorem in_core (op : BOp) : InOp X (bOp op) (fun x y H Q => ∃ i j z, x = .int i ∧ y = .int j ∧ augF op i j = some z ∧ Q (.int z) H) := by
  rintro pins s σ H x y u v Q I rx ry ⟨i, j, z, e1, e2, e3, q⟩
  cases op with
  | add => cases e3; exact in_add pins s σ H x y u v Q I rx ry ⟨i, j, e1, e2, q⟩
  | sub => cases e3; exact in_sub pins s σ H x y u v Q I rx ry ⟨i, j, e1, e2, q⟩
  | _ => cases e3
theorem ss_aug (gx : GX g cl X) {i : Nat} {x : Str} {op : BOp} {e : CE} {pe : PySem.Expr} {p pos : Pos} (hN : X.N[i]? = some x) (hl : Loc X.env.scope x) (hf : X.fn x = true ∨ X.env.scope.names.lookup x = some .local) (he : SE g cl X e pe) : SS g cl X (.aug i op e) (.AugAssign (.Name x p) (bOp op) pe pos) := fun W tk => (ps_aug gx.nd hN hl (he _ tk) (in_core op) hf).imp fun D σ H z => by
  obtain ⟨α, ρ, M, rl, rh, h⟩ := z
  rw [ex] at h
  obtain ⟨d0, e0, h⟩ := opt_bind h
  have e0' : ρ[i]? = some (some d0) := by
    cases q : ρ[i]? with
    | none => rw [q] at e0; cases e0
    | some o => rw [q] at e0; cases o with
      | none => cases e0
      | some u => cases e0; rfl
  obtain ⟨v0, e1, rv0⟩ := rl.at_ i d0 e0'
  refine ⟨v0, e1, sE.go rl rh h fun y H1 α1 M1 d nx rl rh ry h => ?_⟩
  cases op with
  | add =>
    cases d0 with
    | int a =>
      cases d with
      | int b =>
        cases rv0; cases ry
        exact ⟨a, b, _, rfl, rfl, rfl, tg_go (tg := .loc i) (Q' := D.nx) rl (.int (a + b)) h fun ρ1 σ2 rl2 h => Ho.pure (b := FV.nx σ2) rh h (.nx rl2)⟩
      | _ => exact h.elim
    | _ => exact h.elim
  | sub =>
    cases d0 with
    | int a =>
      cases d with
      | int b =>
        cases rv0; cases ry
        exact ⟨a, b, _, rfl, rfl, rfl, tg_go (tg := .loc i) (Q' := D.nx) rl (.int (a - b)) h fun ρ1 σ2 rl2 h => Ho.pure (b := FV.nx σ2) rh h (.nx rl2)⟩
      | _ => exact h.elim
    | _ => exact h.elim
  | _ => exact h.elim
theorem clsOf_bind {Γ : Gd} {W : XW} {A B : Type} {x : Sb.D} {k : String → CM A} {R : List Addr → Hp → A → B → Prop} {α : List Addr} {M : List Ob} {H : Hp} {Q : B → Hp → Prop} (h : Ho Γ W R ((clsOf x >>= k) M) α H Q) : ∃ i c fs, x = .ref i ∧ M[i]? = some (.ins c fs) ∧ Ho Γ W R (k c M) α H Q := by
  cases x with
  | ref i =>
    unfold clsOf at h
    rw [bind_assoc] at h
    obtain ⟨o, eo, h⟩ := get_bind h
    cases o with
    | ins c fs => exact ⟨i, c, fs, rfl, eo, h⟩
    | _ => exact h.elim
  | _ => exact h.elim
theorem ss_augA (na : NaOk g X.K) {o e : CE} {f : String} {op : BOp} {eo pe : PySem.Expr} {p pos : Pos} (ho : SE g cl X o eo) (he : SE g cl X e pe) : SS g cl X (.augA o f op e) (.AugAssign (.Attribute eo (Str.ofString f) p) (bOp op) pe pos) := fun W tk => (ps_fldaug (ho _ tk) (he _ tk) (in_core op)).imp fun D σ H z => by
  obtain ⟨α, ρ, M, rl, rh, h⟩ := z
  rw [ex] at h
  refine sE.go rl rh h fun x H1 α1 M1 c nx rl rh rx h => ?_
  obtain ⟨i0, c0, fs0, e00, e01, h⟩ := clsOf_bind h
  obtain ⟨a, c, dx, fs, gs, d, u, i, rfl, rfl, eo1, ha, e1, rf, cc, nn, l, r, h⟩ := attr_bind na rh rx h
  cases e00
  rw [e01] at eo1
  cases eo1
  refine ⟨a, _, dx, gs, u, rfl, e1, cc, nn, l, sE.go rl rh h fun y H2 α2 M2 d2 nx2 rl rh ry h => ?_⟩
  obtain ⟨i2, c2, fs2, e20, e21, h⟩ := clsOf_bind h
  cases e20
  obtain ⟨hcc, h7⟩ := ask_runD h
  subst hcc
  clear h
  have fin : ∀ z : Int, Ho X.gd W (RFl X.K) ((setAttr g.na (.ref i0) f (.int z) >>= fun _ => (pure (.nx ρ) : CM Fl)) M2) α2 H2 (endsQ D) → ∃ dx' fs', H2 a = some (HO.ins (cad X.K c0) dx' fs') ∧ fs'.length < 1000 ∧ D.nx σ (upd H2 a (HO.ins (cad X.K c0) dx' (L2.putF (Str.ofString f) (V.int z) fs'))) := by
    intro z h
    unfold setAttr at h
    rw [bind_assoc] at h
    obtain ⟨ob, eo, h⟩ := get_bind h
    rw [e21] at eo
    cases eo
    dsimp only at h
    rw [bind_assoc] at h
    obtain ⟨hn, h⟩ := ask_run h
    rw [Bool.and_eq_true, decide_eq_true_eq] at hn
    obtain ⟨_, h⟩ := put_bind h
    have ha2 := nx2.get ha
    obtain ⟨dx2, gs2, e5, rf2⟩ := rh.ob _ _ _ e21 ha2
    have n : Nx X.K α2 H2 α2 (upd H2 a (.ins (cad X.K c0) dx2 (L2.putF (Str.ofString f) (V.int z) gs2))) := nx_put (Γ := X.gd) e5 ⟨fun _ h => (by cases h), fun _ _ h => (by cases h)⟩
    have rh3 := rh.put (o := .ins c0 (Sb.putF f (.int z) fs2)) ha2 n ⟨dx2, _, upd_same, RF.mono n (putF_rel (.int z) rf2)⟩
    exact ⟨dx2, gs2, e5, by have := Paired.len rf2; omega, Ho.ok (R := RFl X.K) (b := FV.nx σ) h n rh3 (.nx (rl.mono n))⟩
  cases op with
  | add =>
    cases d with
    | int p =>
      cases d2 with
      | int q => cases r; cases ry; exact ⟨p, q, _, rfl, rfl, rfl, fin _ h7⟩
      | _ => exact h7.elim
    | _ => exact h7.elim
  | sub =>
    cases d with
    | int p =>
      cases d2 with
      | int q => cases r; cases ry; exact ⟨p, q, _, rfl, rfl, rfl, fin _ h7⟩
      | _ => exact h7.elim
    | _ => exact h7.elim
  | _ => exact h7.elim
abbrev PO (X : Cx) : Prop := PassesOwn (model X.prog X.w) X.A X.env X.xe
theorem ss_whl (po : PO X) {c : CE} {body : CSs} {ec : PySem.Expr} {sb : List Stmt} {pos : Pos} (hc : STt g cl X c ec) (hb : SSs g cl X body sb) : SS g cl X (.whl c body) (.While ec sb [] pos) := fun W tk => (ps_while po (hc _ tk) (hb W tk)).imp fun D σ H z => by
  obtain ⟨α, ρ, M, rl, rh, h⟩ := z
  rw [ex] at h
  refine ⟨fun m σ H => ∃ α ρ M, RL X.K α H ρ σ ∧ RH X.gd α M H ∧ Ho X.gd W (RFl X.K) (whileD (evT g cl c) (fun ρ => exs g cl ρ body) m ρ M) α H (endsQ D), ⟨wmax, α, ρ, M, rl, rh, h⟩, ?_⟩
  rintro m σ H ⟨α, ρ, M, rl, rh, h⟩
  cases m with
  | zero => exact h.elim
  | succ m =>
    rw [whileD] at h
    refine tT.go (W := WxO W) rl rh h fun k H1 α1 M1 nx rl rh h => ?_
    cases k with
    | false => rw [if_neg Bool.false_ne_true]; exact Ho.pure (b := FV.nx σ) rh h (.nx rl)
    | true =>
      rw [if_pos rfl]
      refine ⟨fun σ H => ∃ α ρ M, RL X.K α H ρ σ ∧ RH X.gd α M H ∧ Ho X.gd W (RFl X.K) (whileD (evT g cl c) (fun ρ => exs g cl ρ body) m ρ M) α H (endsQ D), fun σ' H' z => ⟨m, Nat.lt_succ_self m, z⟩, α1, ρ, M1, rl, rh, (Ho.bind h).mono fun fv H2 z => ?_⟩
      obtain ⟨fl, M2, α2, nx2, rh2, r, h⟩ := z
      cases r with
      | nx rl2 => exact ⟨α2, _, M2, rl2, rh2, h⟩
      | ct rl2 => exact ⟨α2, _, M2, rl2, rh2, h⟩
      | bk rl2 => exact (Ho.ok (R := RFl X.K) h .refl rh2 (RFl.nx rl2) : endsQ D (FV.nx _) H2)
      | rt rv => exact (Ho.ok (R := RFl X.K) h .refl rh2 (RFl.rt rv) : endsQ D (FV.rt _) H2)
theorem ss_for (gx : GX g cl X) (po : PO X) {tg : Tg} {ci : CI} {body : CSs} {tgE iter : PySem.Expr} {sb : List Stmt} {pos : Pos} (hi : SI g cl X tgE ci iter) (hg : SG X tg tgE) (hb : SSs g cl X body sb) (hf : ∀ x, foldedSetIterable iter X.env x = pure x) : SS g cl X (.for tg ci body) (.For tgE iter sb [] pos) := fun W tk => ⟨fun pins s σ H D I z => by
  obtain ⟨α, ρ, M, rl, rh, h⟩ := z
  obtain ⟨wi, pi, hw⟩ := hi (WxO W) tk rl rh
  refine (ps_for po gx.calm pi hg (hb W tk) hf).run pins s σ H D I ?_
  rw [ex] at h
  refine hw _ ((Ho.bind h).mono fun J H1 z => ?_)
  obtain ⟨w, M1, α1, nx1, rh1, hJ, h⟩ := z
  refine ⟨fun i m σ H => m = w.its.length - i ∧ i ≤ w.its.length ∧ ∃ α ρ M, Nx X.K α1 H1 α H ∧ RL X.K α H ρ σ ∧ RH X.gd α M H ∧ Ho X.gd W (RFl X.K) (forD w tg (fun ρ => exs g cl ρ body) (w.its.drop i) ρ M) α H (endsQ D), ⟨_, rfl, Nat.zero_le _, α1, ρ, M1, .refl, rl.mono nx1, rh1, h⟩, ?_⟩
  rintro i m σ H ⟨rfl, hi', α, ρ, M, nx, rl, rh, h⟩
  have chk : ∀ {f : Unit → CM Fl}, Ho X.gd W (RFl X.K) ((checkW w >>= f) M) α H (endsQ D) → w.ok M = true ∧ Ho X.gd W (RFl X.K) (f () M) α H (endsQ D) := fun {f} h => by
    rw [CM.bind_run] at h
    unfold checkW at h
    by_cases e : w.ok M = true
    · rw [if_pos e] at h; exact ⟨e, h⟩
    · rw [if_neg e] at h; exact h.elim
  by_cases hlt : i < w.its.length
  · right
    have hd : w.its.drop i = w.its[i] :: w.its.drop (i + 1) := List.drop_eq_getElem_cons hlt
    rw [hd, forD] at h
    obtain ⟨hok, h⟩ := chk h
    obtain ⟨i1, i2, i3⟩ := hJ i α M H nx rh hok
    refine ⟨i1 hlt, fun σ H => ∃ α ρ M, Nx X.K α1 H1 α H ∧ RL X.K α H ρ σ ∧ RH X.gd α M H ∧ Ho X.gd W (RFl X.K) (forD w tg (fun ρ => exs g cl ρ body) (w.its.drop (i + 1)) ρ M) α H (endsQ D), fun σ' H' z => ⟨w.its.length - (i + 1), by omega, rfl, by omega, z⟩, fun x H' hy => ?_⟩
    obtain ⟨nx3, rh3, hr⟩ := i3 x H' hy
    have rx := hr w.its[i] (by simp)
    refine tg_go (rl.mono nx3) rx (Ho.nx nx3 h) fun ρ1 σ2 rl2 h => ⟨α, ρ1, M, rl2, rh3, (Ho.bind h).mono fun fv H2 z => ?_⟩
    obtain ⟨fl, M2, α2, nx2, rh2, r, h⟩ := z
    have nxx := (nx.trans nx3).trans nx2
    cases r with
    | nx rl2 => exact ⟨α2, _, M2, nxx, rl2, rh2, h⟩
    | ct rl2 => exact ⟨α2, _, M2, nxx, rl2, rh2, h⟩
    | bk rl2 => exact (Ho.ok (R := RFl X.K) h .refl rh2 (RFl.nx rl2) : endsQ D (FV.nx _) H2)
    | rt rv => exact (Ho.ok (R := RFl X.K) h .refl rh2 (RFl.rt rv) : endsQ D (FV.rt _) H2)
  · left
    have hd : w.its.drop i = [] := List.drop_eq_nil_of_le (by omega)
    rw [hd, forD] at h
    obtain ⟨hok, h⟩ := chk h
    obtain ⟨i1, i2, i3⟩ := hJ i α M H nx rh hok
    exact ⟨i2 (by omega), Ho.pure (b := FV.nx σ) rh h (.nx rl)⟩⟩
end
end Sb
end
section
set_option Elab.async false
set_option linter.all false
set_option maxRecDepth 100000
set_option maxHeartbeats 4000000
namespace Sb
open PySem PySem.Spec PyProof.Rows L2
structure KX where
  N : List Str
  sc : Scope
  fn : Str → Bool
structure AtK (k : KX) (X : Cx) : Prop where
  n : X.N = k.N
  sc : X.env.scope = k.sc
  fn : X.fn = k.fn
def relS (scope sc : Scope) : Scope :=
  { kind := scope.kind
    names := scope.names.map fun x => match x with
      | (n, k) => if (k == NameKind.free && sc.kind == ScopeKind.function && sc.names.lookup n == some NameKind.cell) = true then (n, NameKind.cell) else (n, k)
    isGenerator := scope.isGenerator, isCoroutine := scope.isCoroutine, more := scope.more }
def KX.blk (k : KX) (scope : Scope) : KX := ⟨k.N, relS scope k.sc, fun x => scope.names.lookup x == some .cell⟩
theorem AtK.blk {k : KX} {X : Cx} (a : AtK k X) (scope : Scope) (s : Shared) (H : Hp) (C : Addr) (l : List (Str × Addr)) (fp : List Addr) : AtK (k.blk scope) (Bk X scope s H C l fp) := by
  refine ⟨a.n, ?_, rfl⟩
  show relabel scope X.env = relS scope k.sc
  rw [← a.sc]
  rfl
def KX.gl (k : KX) (x : Str) : Bool := k.sc.names.lookup x == some .globalImplicit
def KX.vis (k : KX) (x : Str) : Bool := k.sc.names.lookup x == some .local || k.sc.names.lookup x == some .cell || k.sc.names.lookup x == some .free
def KX.loc (k : KX) (x : Str) : Bool := k.sc.names.lookup x == some .local || (k.sc.names.lookup x == some .cell && k.fn x)
def okN (x : Str) : Bool := !(x == Str.ofString "__debug__") && !(x == Str.ofString "__classdict__")
section
variable {k : KX} {X : Cx} {x : Str}
theorem gl_ok (a : AtK k X) (h : k.gl x = true) : Gl X x := by
  show X.env.scope.names.lookup x = _
  rw [a.sc]; exact eq_of_beq h
theorem vis_ok (a : AtK k X) (h : k.vis x = true) : Vis X.env.scope x := by
  rw [a.sc]
  unfold KX.vis at h
  rw [Bool.or_eq_true, Bool.or_eq_true] at h
  rcases h with (h | h) | h
  · exact .inl (eq_of_beq h)
  · exact .inr (.inl (eq_of_beq h))
  · exact .inr (.inr (eq_of_beq h))
theorem loc_ok (a : AtK k X) (h : k.loc x = true) : Loc X.env.scope x ∧ (X.fn x = true ∨ X.env.scope.names.lookup x = some .local) := by
  rw [a.sc, a.fn]
  unfold KX.loc at h
  rw [Bool.or_eq_true, Bool.and_eq_true] at h
  rcases h with h | h
  · exact ⟨.inl (eq_of_beq h), .inr (eq_of_beq h)⟩
  · exact ⟨.inr (eq_of_beq h.1), .inl h.2⟩
theorem okN_ok (h : okN x = true) : (x == Str.ofString "__debug__") = false ∧ (x == Str.ofString "__classdict__") = false := by
  simpa [okN] using h
end
def plainB : PySem.Expr → Bool
  | .Slice _ _ _ _ => false
  | .Tuple _ _ _ => false
  | _ => true
def chkA (r : PySem.Expr → CE → Bool) : List PySem.Expr → CEs → Bool
  | [], .nil => true
  | e :: es, .cons c cs => star0 e && r e c && chkA r es cs
  | _, _ => false
def chkD (r : PySem.Expr → CE → Bool) : List (Option PySem.Expr) → List PySem.Expr → CEs → Bool
  | [], [], .nil => true
  | some a :: as, b :: bs, .cons x (.cons y cs) => r a x && r b y && chkD r as bs cs
  | _, _, _ => false
def chkO (r : PySem.Expr → CE → Bool) : Option PySem.Expr → CE → Bool
  | none, .cst .non => true
  | some e, c => !c.isNon && r e c
  | _, _ => false
def chkNs (k : KX) : List PySem.Expr → List Nat → Bool
  | [], [] => true
  | .Name x _ :: es, i :: is => decide (k.N[i]? = some x) && k.loc x && chkNs k es is
  | _, _ => false
def chkG (k : KX) : PySem.Expr → Tg → Bool
  | .Name x _, .loc i => decide (k.N[i]? = some x) && k.loc x
  | .Tuple es _ _, .tup is => chkNs k es is
  | _, _ => false
def notSetE : PySem.Expr → Bool
  | .Set _ _ _ => false
  | _ => true
def chkI (k : KX) (r : PySem.Expr → CE → Bool) (e : PySem.Expr) : CI → Bool
  | .seq c => r e c
  | .rng a b => match e with
    | .Call (.Name x _) [eb] [] _ => decide (x = Str.ofString "range") && k.gl x && star0 eb && r eb b && (match a with | .cst (.int 0) => true | _ => false)
    | .Call (.Name x _) [ea, eb] [] _ => decide (x = Str.ofString "range") && k.gl x && star0 ea && star0 eb && r ea a && r eb b
    | _ => false
  | _ => false
def chkIf (r : PySem.Expr → CE → Bool) : List PySem.Expr → CE → Bool
  | [], .cst (.bl true) => true
  | [e], c => r e c
  | _, _ => false
def ownOf (k : KX) (is : List Nat) : List (Str × Nat) := is.map fun i => ((k.N[i]?).getD (Str.ofString ""), i)
def valForm : PySem.Expr → Bool
  | .Name _ _ | .Call _ _ _ _ | .Attribute _ _ _ | .Subscript _ _ _ | .Constant _ _ _ => true
  | _ => false
def chkC (g : G) (k : KX) (r rt : PySem.Expr → CE → Bool) (rb : KX → PySem.Expr → CE → Bool) (rbt : KX → PySem.Expr → CE → Bool) (e : PySem.Expr) : CE → Bool
  | .loc i => match e with
    | .Name x _ => decide (k.N[i]? = some x) && k.vis x && okN x
    | _ => false
  | .glb f => match e with
    | .Name x _ => decide (x = Str.ofString f) && k.gl x && okN x && (g.glb f).isSome
    | _ => false
  | .cst d => match e with
    | .Constant .none _ _ => decide (d = .non)
    | .Constant (.bool b) _ _ => decide (d = .bl b)
    | .Constant (.int i) _ _ => decide (d = .int i)
    | .Constant (.str x) _ _ => match d with
      | .str s => decide (x = toS s) && s.all (fun c => decide (c < 1114112)) && decide (s.length ≤ 16777216)
      | _ => false
    | _ => false
  | .tup cs => match e with
    | .Tuple es _ _ => chkA r es cs
    | _ => false
  | .lst cs => match e with
    | .List es _ => chkA r es cs
    | _ => false
  | .dic t cs => match e with
    | .Dict keys vals _ => !t && chkD r keys vals cs && keys.all (fun x => x.isSome) && decide (keys.length = vals.length) && decide (keys.length ≤ 15)
    | _ => false
  | .bin o x y => match e with
    | .BinOp a op b _ => decide (op = bOp o) && r a x && r b y
    | _ => false
  | .neg x => match e with
    | .UnaryOp .USub a _ => r a x
    | _ => false
  | .not x => match e with
    | .UnaryOp .Not a _ => r a x
    | _ => false
  | .cmp o x y => match e with
    | .Compare a [op] [b] _ => decide (op = cOp o) && !behindInMarks op b && r a x && r b y
    | _ => false
  | .cmp2 o1 o2 x y z => match e with
    | .Compare a [p1, p2] [b, c] _ => decide (p1 = cOp o1) && decide (p2 = cOp o2) && !lastMarks [p1, p2] [b, c] && r a x && r b y && r c z
    | _ => false
  | .and x y => match e with
    | .BoolOp .And (a :: b :: es) p => r a x && r (.BoolOp .And (b :: es) p) y
    | _ => false
  | .or x y => match e with
    | .BoolOp .Or (a :: b :: es) p => r a x && r (.BoolOp .Or (b :: es) p) y
    | _ => false
  | .ite c x y => match e with
    | .IfExp t a b _ => rt t c && r a x && r b y
    | _ => false
  | .idx x y => match e with
    | .Subscript a b _ => r a x && r b y && plainB b
    | _ => false
  | .slc x l h => match e with
    | .Subscript a (.Slice lo hi none _) _ => r a x && chkO r lo l && chkO r hi h
    | _ => false
  | .att x f => match e with
    | .Attribute a f' _ => decide (f' = Str.ofString f) && nsup a && r a x
    | _ => false
  | .call f cs => match e with
    | .Call (.Name x _) es [] _ => decide (x = Str.ofString f) && k.gl x && okN x && (match g.fn f with | some fd => fd.glo | none => false) && chkA r es cs
    | _ => false
  | .make c cs => match e with
    | .Call (.Name x _) es [] _ => decide (x = Str.ofString c) && k.gl x && okN x && (methOf g c "__init__").isSome && chkA r es cs
    | _ => false
  | .blt f cs => match e with
    | .Call (.Name x _) (e1 :: es) [] _ => decide (x = Str.ofString f) && k.gl x && (bfOf f).isSome && chkA r (e1 :: es) cs
    | _ => false
  | .isi a T => match e with
    | .Call (.Name x _) [e1, .Name y _] [] _ => decide (x = Str.ofString "isinstance") && decide (y = Str.ofString T) && k.gl x && k.gl y && decide (T ∈ tyNames) && star0 e1 && r e1 a
    | _ => false
  | .met o m cs => match e with
    | .Call (.Attribute eo mm apos) es [] pos => decide (mm = Str.ofString m) && nsup eo && (apos.endLine == pos.line) && decide (es.length < 20) && r eo o && chkA r es cs
    | _ => false
  | .comp tg ci c e' => match e with
    | .ListComp elt [⟨tgE, iter, ifs, 0⟩] scope _ => chkI k r iter ci && blkC k.N k.sc scope (ownOf k tg.slots) && chkG (k.blk scope) tgE tg && chkIf (rbt (k.blk scope)) ifs c && rb (k.blk scope) elt e' && notSetE iter
    | _ => false
  | _ => false
def chk (g : G) : Nat → Bool → KX → PySem.Expr → CE → Bool
  | 0, _, _, _, _ => false
  | n + 1, false, k, e, c => match e with
    | .BoolOp _ [a] _ => chk g n false k a c
    | e => chkC g k (chk g n false k) (chk g n true k) (fun k' => chk g n false k') (fun k' => chk g n true k') e c
  | n + 1, true, k, e, c => match e with
    | .BoolOp _ [a] _ => chk g n true k a c
    | .BoolOp .And (a :: b :: es) p => match c with
      | .and x y => chk g n true k a x && chk g n true k (.BoolOp .And (b :: es) p) y
      | _ => false
    | .BoolOp .Or (a :: b :: es) p => match c with
      | .or x y => chk g n true k a x && chk g n true k (.BoolOp .Or (b :: es) p) y
      | _ => false
    | .UnaryOp .Not a _ => match c with
      | .not x => chk g n true k a x
      | _ => false
    | .Compare a [op] [b] _ => match c with
      | .cmp o x y => decide (op = cOp o) && !behindInMarks op b && chk g n false k a x && chk g n false k b y
      | _ => false
    | .Compare a [p1, p2] [b, c'] _ => match c with
      | .cmp2 o1 o2 x y z => decide (p1 = cOp o1) && decide (p2 = cOp o2) && !lastMarks [p1, p2] [b, c'] && chk g n false k a x && chk g n false k b y && chk g n false k c' z
      | _ => false
    | e => valForm e && chk g n false k e c
section
variable {g : G} {cl : Cls} {X : Cx}
theorem chkA_ok {r : PySem.Expr → CE → Bool} (hr : ∀ e c, r e c = true → SE g cl X c e) : ∀ {es : List PySem.Expr} {cs : CEs}, chkA r es cs = true → SA g cl X cs es ∧ es.all star0 = true ∧ (es = [] → cs = .nil)
  | [], .nil, _ => ⟨sa_nil, rfl, fun _ => rfl⟩
  | e :: es, .cons c cs, h => by
    simp only [chkA, Bool.and_eq_true] at h
    obtain ⟨i1, i2, _⟩ := chkA_ok hr h.2
    exact ⟨sa_cons (hr e c h.1.2) i1 (star_cons h.1.1), by simp [h.1.1]; simpa using i2, fun z => by cases z⟩
  | [], .cons _ _, h => by cases h
  | _ :: _, .nil, h => by cases h
theorem chkD_ok {r : PySem.Expr → CE → Bool} (hr : ∀ e c, r e c = true → SE g cl X c e) {pos : Pos} : ∀ {keys : List (Option PySem.Expr)} {vals : List PySem.Expr} {cs : CEs}, chkD r keys vals cs = true → SD g cl X pos cs keys vals
  | [], [], .nil, _ => sd_nil
  | some a :: as, b :: bs, .cons x (.cons y cs), h => by
    simp only [chkD, Bool.and_eq_true] at h
    exact sd_cons (hr _ _ h.1.1) (hr _ _ h.1.2) (chkD_ok hr h.2)
  | [], [], .cons _ _, h => by cases h
  | [], _ :: _, _, h => by cases h
  | some _ :: _, [], _, h => by cases h
  | none :: _, _, _, h => by cases h
  | some _ :: _, _ :: _, .nil, h => by cases h
  | some _ :: _, _ :: _, .cons _ .nil, h => by cases h
theorem chkO_ok {r : PySem.Expr → CE → Bool} (hr : ∀ e c, r e c = true → SE g cl X c e) {o : Option PySem.Expr} {c : CE} (h : chkO r o c = true) : SO g cl X c o := by
  cases o with
  | none =>
    unfold chkO at h
    split at h
    · exact so_none
    · rename_i z; cases z
    · cases h
  | some e =>
    have h' : (!c.isNon && r e c) = true := h
    simp only [Bool.and_eq_true, Bool.not_eq_true'] at h'
    exact so_some (hr e c h'.2) h'.1
theorem chkNs_ok {k : KX} (a : AtK k X) : ∀ {es : List PySem.Expr} {is : List Nat}, chkNs k es is = true → SGs X is es
  | [], [], _ => .nil
  | .Name x _ :: es, i :: is, h => by
    simp only [chkNs, Bool.and_eq_true, decide_eq_true_eq] at h
    exact .cons (by rw [a.n]; exact h.1.1) (loc_ok a h.1.2).1 (loc_ok a h.1.2).2 (chkNs_ok a h.2)
  | [], _ :: _, h => by cases h
  | e :: _, [], h => by cases e <;> cases h
  | e :: es, i :: is, h => by
    cases e with
    | Name x p =>
      simp only [chkNs, Bool.and_eq_true, decide_eq_true_eq] at h
      exact .cons (by rw [a.n]; exact h.1.1) (loc_ok a h.1.2).1 (loc_ok a h.1.2).2 (chkNs_ok a h.2)
    | _ => cases h
theorem chkG_ok (gx : GX g cl X) {k : KX} (a : AtK k X) {e : PySem.Expr} {tg : Tg} (h : chkG k e tg = true) : SG X tg e := by
  cases tg with
  | loc i =>
    cases e with
    | Name x p =>
      simp only [chkG, Bool.and_eq_true, decide_eq_true_eq] at h
      exact sg_loc gx (by rw [a.n]; exact h.1) (loc_ok a h.2).1 (loc_ok a h.2).2
    | _ => cases h
  | tup is =>
    cases e with
    | Tuple es _ _ => exact sg_tup gx (chkNs_ok a h)
    | _ => cases h
theorem fold_ok {e : PySem.Expr} {env : PySem.Env} (h : notSetE e = true) : ∀ x, foldedSetIterable e env x = pure x := by
  intro x
  cases e <;> first | rfl | cases h
theorem chkI_ok (gx : GX g cl X) {k : KX} (a : AtK k X) {r : PySem.Expr → CE → Bool} (hr : ∀ e c, r e c = true → SE g cl X c e) {e tgE : PySem.Expr} {ci : CI} (h : chkI k r e ci = true) : SI g cl X tgE ci e := by
  cases ci with
  | seq c => exact si_seq (hr _ _ h)
  | rng x y =>
    simp only [chkI] at h
    split at h
    · simp only [Bool.and_eq_true, decide_eq_true_eq] at h
      obtain ⟨⟨⟨⟨rfl, h2⟩, h3⟩, h4⟩, h5⟩ := h
      split at h5
      · exact si_rng1 gx (hr _ _ h4) h3 (gl_ok a h2)
      · cases h5
    · simp only [Bool.and_eq_true, decide_eq_true_eq] at h
      obtain ⟨⟨⟨⟨⟨rfl, h2⟩, h3⟩, h4⟩, h5⟩, h6⟩ := h
      exact si_rng2 gx (hr _ _ h5) (hr _ _ h6) h3 h4 (gl_ok a h2)
    · cases h
  | _ => cases h
theorem own_snd {k : KX} (is : List Nat) : (ownOf k is).map (·.2) = is := by
  unfold ownOf
  rw [List.map_map]
  simp [Function.comp_def]
theorem plain_ok {b : PySem.Expr} (h : plainB b = true) : PlainIx b := by
  intro o i
  cases b <;> first | rfl | cases h
structure RecOk (g : G) (cl : Cls) (k : KX) (r rt : PySem.Expr → CE → Bool) (rb rbt : KX → PySem.Expr → CE → Bool) (X : Cx) : Prop where
  e : ∀ e c, r e c = true → SE g cl X c e
  t : ∀ e c, rt e c = true → STt g cl X c e
  b : ∀ k' Y, AtK k' Y → GX g cl Y → ∀ e c, rb k' e c = true → SE g cl Y c e
  bt : ∀ k' Y, AtK k' Y → GX g cl Y → ∀ e c, rbt k' e c = true → STt g cl Y c e
theorem chkC_ok (gx : GX g cl X) {k : KX} (a : AtK k X) {r rt : PySem.Expr → CE → Bool} {rb rbt : KX → PySem.Expr → CE → Bool} (R : RecOk g cl k r rt rb rbt X) {e : PySem.Expr} {c : CE} (h : chkC g k r rt rb rbt e c = true) : SE g cl X c e := by
  cases c with
  | loc i =>
    simp only [chkC] at h
    split at h
    · simp only [Bool.and_eq_true, decide_eq_true_eq] at h
      exact se_loc (by rw [a.n]; exact h.1.1) (vis_ok a h.1.2) (okN_ok h.2).1 (okN_ok h.2).2
    · cases h
  | glb f =>
    simp only [chkC] at h
    split at h
    · simp only [Bool.and_eq_true, decide_eq_true_eq] at h
      obtain ⟨⟨⟨rfl, h2⟩, h3⟩, h4⟩ := h
      obtain ⟨d, hd⟩ := Option.isSome_iff_exists.mp h4
      obtain ⟨u, v, e1, e2, e3⟩ := gx.glb f d hd
      exact se_glb (gl_ok a h2) e1 e2 (okN_ok h3).1 hd e3
    · cases h
  | cst d =>
    simp only [chkC] at h
    split at h
    · rw [of_decide_eq_true h]; exact se_const pe_non fun _ _ => .non
    · rw [of_decide_eq_true h]; exact se_const pe_bl fun _ _ => .bl _
    · rw [of_decide_eq_true h]; exact se_const pe_int fun _ _ => .int _
    · split at h
      · simp only [Bool.and_eq_true, decide_eq_true_eq, List.all_eq_true] at h
        obtain ⟨⟨rfl, h2⟩, h3⟩ := h
        exact se_const pe_str fun _ _ => .str h2 (by rw [sizeLine_eq]; exact h3)
      · cases h
    · cases h
  | tup cs =>
    simp only [chkC] at h
    split at h
    · exact se_tup (chkA_ok R.e h).1
    · cases h
  | lst cs =>
    simp only [chkC] at h
    split at h
    · exact se_lst (chkA_ok R.e h).1
    · cases h
  | dic t cs =>
    simp only [chkC] at h
    split at h
    · rename_i keys vals pos
      simp only [Bool.and_eq_true, decide_eq_true_eq, Bool.not_eq_true'] at h
      obtain ⟨⟨⟨⟨rfl, h1⟩, h2⟩, h3⟩, h4⟩ := h
      cases keys with
      | nil =>
        cases vals with
        | nil =>
          cases cs with
          | nil => exact se_dic0
          | cons _ _ => cases h1
        | cons _ _ => cases h3
      | cons k1 ks => exact se_dic (chkD_ok R.e h1) h2 h3 h4
    · cases h
  | bin o x y =>
    simp only [chkC] at h
    split at h
    · simp only [Bool.and_eq_true, decide_eq_true_eq] at h
      obtain ⟨⟨rfl, h1⟩, h2⟩ := h
      exact se_bin (R.e _ _ h1) (R.e _ _ h2)
    · cases h
  | neg x =>
    simp only [chkC] at h
    split at h
    · exact se_neg (R.e _ _ h)
    · cases h
  | not x =>
    simp only [chkC] at h
    split at h
    · exact se_not (R.e _ _ h)
    · cases h
  | cmp o x y =>
    simp only [chkC] at h
    split at h
    · simp only [Bool.and_eq_true, decide_eq_true_eq, Bool.not_eq_true'] at h
      obtain ⟨⟨⟨rfl, h0⟩, h1⟩, h2⟩ := h
      exact se_cmp gx.un (R.e _ _ h1) (R.e _ _ h2) h0
    · cases h
  | cmp2 o1 o2 x y z =>
    simp only [chkC] at h
    split at h
    · simp only [Bool.and_eq_true, decide_eq_true_eq, Bool.not_eq_true'] at h
      obtain ⟨⟨⟨⟨⟨rfl, rfl⟩, h0⟩, h1⟩, h2⟩, h3⟩ := h
      exact se_cmp2 gx.un (R.e _ _ h1) (R.e _ _ h2) (R.e _ _ h3) h0
    · cases h
  | and x y =>
    simp only [chkC] at h
    split at h
    · simp only [Bool.and_eq_true] at h
      exact se_and (R.e _ _ h.1) (R.e _ _ h.2)
    · cases h
  | or x y =>
    simp only [chkC] at h
    split at h
    · simp only [Bool.and_eq_true] at h
      exact se_or (R.e _ _ h.1) (R.e _ _ h.2)
    · cases h
  | ite c x y =>
    simp only [chkC] at h
    split at h
    · simp only [Bool.and_eq_true] at h
      exact se_ite (R.t _ _ h.1.1) (R.e _ _ h.1.2) (R.e _ _ h.2)
    · cases h
  | idx x y =>
    simp only [chkC] at h
    split at h
    · simp only [Bool.and_eq_true] at h
      exact se_idx gx.un (R.e _ _ h.1.1) (R.e _ _ h.1.2) (plain_ok h.2)
    · cases h
  | slc x l hh =>
    simp only [chkC] at h
    split at h
    · simp only [Bool.and_eq_true] at h
      exact se_slc (R.e _ _ h.1.1) (chkO_ok R.e h.1.2) (chkO_ok R.e h.2)
    · cases h
  | att x f =>
    simp only [chkC] at h
    split at h
    · simp only [Bool.and_eq_true, decide_eq_true_eq] at h
      obtain ⟨⟨rfl, h1⟩, h2⟩ := h
      exact se_att gx.na (R.e _ _ h2) (ab_nsup h1)
    · cases h
  | call f cs =>
    simp only [chkC] at h
    split at h
    · simp only [Bool.and_eq_true, decide_eq_true_eq] at h
      obtain ⟨⟨⟨⟨rfl, h1⟩, h2⟩, h3⟩, h4⟩ := h
      obtain ⟨a1, a2, a3⟩ := chkA_ok R.e h4
      split at h3
      · rename_i fd hf
        exact se_call gx hf h3 (gl_ok a h1) (okN_ok h2).1 a1 a3 a2
      · cases h3
    · cases h
  | make c cs =>
    simp only [chkC] at h
    split at h
    · simp only [Bool.and_eq_true, decide_eq_true_eq] at h
      obtain ⟨⟨⟨⟨rfl, h1⟩, h2⟩, h3⟩, h4⟩ := h
      obtain ⟨a1, a2, a3⟩ := chkA_ok R.e h4
      obtain ⟨f, hf⟩ := Option.isSome_iff_exists.mp h3
      exact se_make gx hf (gl_ok a h1) (okN_ok h2).1 a1 a3 a2
    · cases h
  | blt f cs =>
    simp only [chkC] at h
    split at h
    · simp only [Bool.and_eq_true, decide_eq_true_eq] at h
      obtain ⟨⟨⟨rfl, h1⟩, h2⟩, h4⟩ := h
      obtain ⟨a1, a2, a3⟩ := chkA_ok R.e h4
      exact se_blt gx h2 (gl_ok a h1) a1 a2
    · cases h
  | isi x T =>
    simp only [chkC] at h
    split at h
    · simp only [Bool.and_eq_true, decide_eq_true_eq] at h
      obtain ⟨⟨⟨⟨⟨⟨rfl, rfl⟩, h1⟩, h2⟩, h3⟩, h4⟩, h5⟩ := h
      exact se_isi gx h3 (R.e _ _ h5) h4 (gl_ok a h1) (gl_ok a h2)
    · cases h
  | met o m cs =>
    simp only [chkC] at h
    split at h
    · simp only [Bool.and_eq_true, decide_eq_true_eq] at h
      obtain ⟨⟨⟨⟨⟨rfl, h1⟩, h2⟩, h3⟩, h4⟩, h5⟩ := h
      obtain ⟨a1, a2, a3⟩ := chkA_ok R.e h5
      exact se_met gx (R.e _ _ h4) a1 a3 a2 h3 h1 h2
    · cases h
  | comp tg ci c e' =>
    simp only [chkC] at h
    split at h
    · rename_i elt tgE iter ifs scope pos
      simp only [Bool.and_eq_true] at h
      obtain ⟨⟨⟨⟨⟨h1, h2⟩, h3⟩, h4⟩, h5⟩, h6⟩ := h
      rw [← a.n, ← a.sc] at h2
      refine se_comp gx (chkI_ok gx a R.e h1) (own_snd _) h2 (fun s H C l fp => chkG_ok (gx.blk scope s H C l fp) (a.blk scope s H C l fp) h3) (fun s H C l fp => ?_) (fun s H C l fp => R.b _ _ (a.blk scope s H C l fp) (gx.blk scope s H C l fp) _ _ h5) (fold_ok h6)
      cases ifs with
      | nil =>
        unfold chkIf at h4
        split at h4
        · exact .none
        · rename_i z; cases z
        · cases h4
      | cons e1 es =>
        cases es with
        | nil => exact .one (R.bt _ _ (a.blk scope s H C l fp) (gx.blk scope s H C l fp) _ _ h4)
        | cons _ _ =>
          unfold chkIf at h4
          split at h4
          · rename_i z; cases z
          · rename_i z; cases z
          · cases h4
    · cases h
  | _ => cases h
def isBoolOp : PySem.Expr → Bool
  | .BoolOp _ _ _ => true
  | _ => false
theorem chk_all (n : Nat) : ∀ {X : Cx}, GX g cl X → ∀ {k : KX}, AtK k X → ∀ e c, (chk g n false k e c = true → SE g cl X c e) ∧ (chk g n true k e c = true → STt g cl X c e ∧ (isBoolOp e = true → SW g cl X c e)) := by
  induction n with
  | zero =>
    intro X gx k a e c
    refine ⟨fun h => ?_, fun h => ?_⟩
    · unfold chk at h; cases h
    · unfold chk at h; cases h
  | succ n ih =>
    intro X gx k a e c
    have R : RecOk g cl k (chk g n false k) (chk g n true k) (fun k' => chk g n false k') (fun k' => chk g n true k') X :=
      ⟨fun e c => (ih gx a e c).1, fun e c h => ((ih gx a e c).2 h).1, fun k' Y ha hg e c => (ih hg ha e c).1, fun k' Y ha hg e c h => ((ih hg ha e c).2 h).1⟩
    refine ⟨fun h => ?_, fun h => ?_⟩
    · unfold chk at h
      split at h
      · exact se_one ((ih gx a _ _).1 h)
      · exact chkC_ok gx a R h
    · unfold chk at h
      split at h
      · rename_i op b p
        have h1 := ((ih gx a _ _).2 h).1
        cases op with
        | And => exact ⟨st_sw (sw_and1 h1), fun _ => sw_and1 h1⟩
        | Or => exact ⟨st_sw (sw_or1 h1), fun _ => sw_or1 h1⟩
      · split at h
        · rw [Bool.and_eq_true] at h
          have h1 := ((ih gx a _ _).2 h.1).1
          have h2 := ((ih gx a _ _).2 h.2).2 rfl
          exact ⟨st_sw (sw_and h1 h2), fun _ => sw_and h1 h2⟩
        · cases h
      · split at h
        · rw [Bool.and_eq_true] at h
          have h1 := ((ih gx a _ _).2 h.1).1
          have h2 := ((ih gx a _ _).2 h.2).2 rfl
          exact ⟨st_sw (sw_or h1 h2), fun _ => sw_or h1 h2⟩
        · cases h
      · split at h
        · exact ⟨st_not ((ih gx a _ _).2 h).1, fun z => by cases z⟩
        · cases h
      · split at h
        · simp only [Bool.and_eq_true, decide_eq_true_eq, Bool.not_eq_true'] at h
          obtain ⟨⟨⟨rfl, h0⟩, h1⟩, h2⟩ := h
          exact ⟨st_cmp gx.un (R.e _ _ h1) (R.e _ _ h2) h0, fun z => by cases z⟩
        · cases h
      · split at h
        · simp only [Bool.and_eq_true, decide_eq_true_eq, Bool.not_eq_true'] at h
          obtain ⟨⟨⟨⟨⟨rfl, rfl⟩, h0⟩, h1⟩, h2⟩, h3⟩ := h
          exact ⟨st_cmp2 gx.un (R.e _ _ h1) (R.e _ _ h2) (R.e _ _ h3) h0, fun z => by cases z⟩
        · cases h
      · rw [Bool.and_eq_true] at h
        have h1 := h.1
        refine ⟨st_val (R.e _ _ h.2) fun whole => ?_, fun z => ?_⟩
        · cases e <;> first | rfl | cases h1
        · cases e <;> first | (cases h1; done) | (cases z; done)
theorem chk_e (gx : GX g cl X) {k : KX} (a : AtK k X) {n : Nat} {e : PySem.Expr} {c : CE} (h : chk g n false k e c = true) : SE g cl X c e := (chk_all n gx a e c).1 h
theorem chk_t (gx : GX g cl X) {k : KX} (a : AtK k X) {n : Nat} {e : PySem.Expr} {c : CE} (h : chk g n true k e c = true) : STt g cl X c e := ((chk_all n gx a e c).2 h).1
theorem chk_b (gx : GX g cl X) {k : KX} (a : AtK k X) {n : Nat} (scope : Scope) (s : Shared) (H : Hp) (C : Addr) (l : List (Str × Addr)) (fp : List Addr) {e : PySem.Expr} {c : CE} (h : chk g n false (k.blk scope) e c = true) : SE g cl (Bk X scope s H C l fp) c e := chk_e (gx.blk scope s H C l fp) (a.blk scope s H C l fp) h
end
end Sb
end
section
set_option Elab.async false
set_option linter.all false
set_option maxRecDepth 100000
set_option maxHeartbeats 4000000
namespace Sb
open PySem PySem.Spec PyProof.Rows L2
def isCompE : PySem.Expr → Bool
  | .ListComp _ _ _ _ | .SetComp _ _ _ _ | .DictComp _ _ _ _ _ => true
  | _ => false
def isTupE : PySem.Expr → Bool
  | .Tuple _ _ _ => true
  | _ => false
theorem sw_no {e : PySem.Expr} {t : Option PySem.Expr} {l : Nat} {env : PySem.Env} (h : isCompE e = false) : swapsWith e t l env = pure false := by
  cases e <;> first | rfl | cases h
theorem sw_sub {e a b : PySem.Expr} {p : Pos} {l : Nat} {env : PySem.Env} : swapsWith e (some (.Subscript a b p)) l env = pure false := by
  cases e <;> rfl
theorem sw_attr {e a : PySem.Expr} {f : Str} {p : Pos} {l : Nat} {env : PySem.Env} : swapsWith e (some (.Attribute a f p)) l env = pure false := by
  cases e <;> rfl
theorem ss_name {e : PySem.Expr} {x : Str} {p : Pos} {env : PySem.Env} : swappedStores [.Name x p] e env = pure none := by
  cases e <;> rfl
theorem ss_subs {e a b : PySem.Expr} {p : Pos} {env : PySem.Env} : swappedStores [.Subscript a b p] e env = pure none := by
  cases e <;> rfl
theorem ss_tups {e : PySem.Expr} {es : List PySem.Expr} {k : Nat} {p : Pos} {env : PySem.Env} (h : isTupE e = false) : swappedStores [.Tuple es k p] e env = pure none := by
  cases e <;> first | rfl | cases h
theorem sw_cell {e : PySem.Expr} {x : Str} {p : Pos} {l : Nat} {env : PySem.Env} (h : env.scope.names.lookup x = some .cell) : swapsWith e (some (.Name x p)) l env = pure false := by
  have hk : env.kindOf x = some .cell := h
  have hz : (some NameKind.cell == some NameKind.local) = false := by decide
  cases e <;> first | rfl | (simp only [swapsWith, hk, hz, Bool.and_false, Bool.false_and])
def noSl : PySem.Expr → Bool
  | .Slice _ _ _ _ => false
  | _ => true
section
variable (g : G) (n : Nat) (k : KX)
def chkLc (i : Nat) (y : Str) (py : Pos) : PySem.Expr → CE → Bool
  | .ListComp elt [⟨tgE, iter, ifs, 0⟩] scope pos, .comp tg ci c e' => decide (k.N[i]? = some y) && k.sc.names.lookup y == some .local && k.sc.kind == .function && py.line == pos.line && !(scope.names.any fun x => match x with | (n, k) => n == y && (k == NameKind.local || k == NameKind.cell)) &&
      chkI k (chk g n false k) iter ci && blkC k.N k.sc scope (ownOf k tg.slots) && chkG (k.blk scope) tgE tg && chkIf (chk g n true (k.blk scope)) ifs c && chk g n false (k.blk scope) elt e' && notSetE iter
  | _, _ => false
def chkAs (tgE pe : PySem.Expr) (e : CE) : Tt → Bool
  | .loc i => match tgE with
    | .Name y py => if isCompE pe = true then (if k.sc.names.lookup y == some .cell then chkG k tgE (.loc i) && chk g n false k pe e else chkLc g n k i y py pe e) else chkG k tgE (.loc i) && chk g n false k pe e
    | _ => false
  | .tup is => match tgE with
    | .Tuple _ _ _ => !isCompE pe && !isTupE pe && chkG k tgE (.tup is) && chk g n false k pe e
    | _ => false
  | .att o f => match tgE with
    | .Attribute eo f' _ => decide (f' = Str.ofString f) && chk g n false k eo o && chk g n false k pe e
    | _ => false
  | .idx o i => match tgE with
    | .Subscript eo ei _ => noSl ei && chk g n false k eo o && chk g n false k ei i && chk g n false k pe e
    | _ => false
def chkS (r : List Stmt → CSs → Bool) (st : Stmt) : CS → Bool
  | .pas => match st with
    | .Pass _ => true
    | .Expr (.Constant (.str _) _ _) _ => true
    | _ => false
  | .brk => match st with
    | .Break _ => true
    | _ => false
  | .cnt => match st with
    | .Continue _ => true
    | _ => false
  | .asg tt e => match st with
    | .Assign [tgE] pe _ => chkAs g n k tgE pe e tt
    | _ => false
  | .aug i op e => match st with
    | .AugAssign (.Name x _) op' pe _ => decide (op' = bOp op) && decide (k.N[i]? = some x) && k.loc x && chk g n false k pe e
    | _ => false
  | .augA o f op e => match st with
    | .AugAssign (.Attribute eo f' _) op' pe _ => decide (op' = bOp op) && decide (f' = Str.ofString f) && chk g n false k eo o && chk g n false k pe e
    | _ => false
  | .exp e => match st with
    | .Expr pe _ => !isCompE pe && chk g n false k pe e
    | _ => false
  | .ret e => match st with
    | .Return (some pe) _ => chk g n false k pe e
    | .Return none _ => (match e with | .cst .non => true | _ => false)
    | _ => false
  | .iff c a b => match st with
    | .If ec sa sb _ => chk g n true k ec c && r sa a && r sb b
    | _ => false
  | .for tg ci body => match st with
    | .For tgE iter sb [] _ => chkI k (chk g n false k) iter ci && chkG k tgE tg && r sb body && notSetE iter
    | _ => false
  | .whl c body => match st with
    | .While ec sb [] _ => chk g n true k ec c && r sb body
    | _ => false
  | .del o i => match st with
    | .Delete [.Subscript eo ei _] _ => chk g n false k eo o && chk g n false k ei i
    | _ => false
  | _ => false
def chkSs : Nat → List Stmt → CSs → Bool
  | 0, _, _ => false
  | _ + 1, [], .nil => true
  | m + 1, s :: ss, .cons c cs => chkS g n k (chkSs m) s c && chkSs m ss cs
  | _ + 1, _, _ => false
end
section
variable {g : G} {cl : Cls} {X : Cx} {n : Nat} {k : KX}
theorem chkLc_ok (gx : GX g cl X) (a : AtK k X) {i : Nat} {y : Str} {py pos : Pos} {pe : PySem.Expr} {e : CE} (h : chkLc g n k i y py pe e = true) : SS g cl X (.asg (.loc i) e) (.Assign [.Name y py] pe pos) := by
  unfold chkLc at h
  split at h
  · rename_i elt tgE iter ifs scope p2 tg ci c e'
    simp only [Bool.and_eq_true, decide_eq_true_eq, Bool.not_eq_true', beq_iff_eq] at h
    obtain ⟨⟨⟨⟨⟨⟨⟨⟨⟨⟨h1, h2⟩, h3⟩, h4⟩, h5⟩, h6⟩, h7⟩, h8⟩, h9⟩, h10⟩, h11⟩ := h
    rw [← a.n, ← a.sc] at h7
    have hl : X.env.scope.names.lookup y = some .local := by rw [a.sc]; exact h2
    refine ss_asgLc gx (by rw [a.n]; exact h1) hl (sw_true (by rw [a.sc]; exact h3) hl (by rw [h4]; simp) h5) (chkI_ok gx a (fun e c => chk_e gx a) h6) (own_snd _) h7 (fun s H C l fp => chkG_ok (gx.blk scope s H C l fp) (a.blk scope s H C l fp) h8) (fun s H C l fp => ?_) (fun s H C l fp => chk_b gx a scope s H C l fp h10) (fold_ok h11)
    cases ifs with
    | nil =>
      unfold chkIf at h9
      split at h9
      · exact .none
      · rename_i z; cases z
      · cases h9
    | cons e1 es =>
      cases es with
      | nil => exact .one (chk_t (gx.blk scope s H C l fp) (a.blk scope s H C l fp) h9)
      | cons _ _ =>
        unfold chkIf at h9
        split at h9
        · rename_i z; cases z
        · rename_i z; cases z
        · cases h9
  · cases h
theorem chkAs_ok (gx : GX g cl X) (a : AtK k X) {tgE pe : PySem.Expr} {e : CE} {tt : Tt} {pos : Pos} (h : chkAs g n k tgE pe e tt = true) : SS g cl X (.asg tt e) (.Assign [tgE] pe pos) := by
  cases tt with
  | loc i =>
    simp only [chkAs] at h
    split at h
    · rename_i y py
      split at h
      · split at h
        · rename_i hc
          rw [Bool.and_eq_true] at h
          refine ss_asg (tg := .loc i) rfl (chkG_ok gx a h.1) (chk_e gx a h.2) ?_ ss_name rfl
          show swapsWith pe (some (.Name y py)) pos.line X.env = pure false
          exact sw_cell (by rw [a.sc]; exact eq_of_beq hc)
        · exact chkLc_ok gx a h
      · rename_i hc
        rw [Bool.and_eq_true] at h
        refine ss_asg (tg := .loc i) rfl (chkG_ok gx a h.1) (chk_e gx a h.2) ?_ ss_name rfl
        show swapsWith pe (some (.Name y py)) pos.line X.env = pure false
        exact sw_no (by simpa using hc)
    · cases h
  | tup is =>
    simp only [chkAs] at h
    split at h
    · rename_i es kk pp
      simp only [Bool.and_eq_true, Bool.not_eq_true'] at h
      obtain ⟨⟨⟨h1, h2⟩, h3⟩, h4⟩ := h
      refine ss_asg (tg := .tup is) rfl (chkG_ok gx a h3) (chk_e gx a h4) ?_ (ss_tups h2) rfl
      show swapsWith pe (some (.Tuple es kk pp)) pos.line X.env = pure false
      exact sw_no h1
    · cases h
  | att o f =>
    simp only [chkAs] at h
    split at h
    · simp only [Bool.and_eq_true, decide_eq_true_eq] at h
      obtain ⟨⟨rfl, h2⟩, h3⟩ := h
      exact ss_att gx.na (chk_e gx a h2) (chk_e gx a h3) sw_attr
    · cases h
  | idx o i =>
    simp only [chkAs] at h
    split at h
    · rename_i eo ei p
      simp only [Bool.and_eq_true] at h
      obtain ⟨⟨⟨h1, h2⟩, h3⟩, h4⟩ := h
      refine ss_idx gx (chk_e gx a h2) (chk_e gx a h3) (chk_e gx a h4) (fun v => ?_) ?_ ss_subs
      · cases ei <;> first | rfl | cases h1
      · show swapsWith pe (some (.Subscript eo ei p)) pos.line X.env = pure false
        exact sw_sub
    · cases h
theorem chkS_ok (gx : GX g cl X) (po : PO X) (a : AtK k X) {r : List Stmt → CSs → Bool} (hr : ∀ ss cs, r ss cs = true → SSs g cl X cs ss) {st : Stmt} {c : CS} (h : chkS g n k r st c = true) : SS g cl X c st := by
  cases c with
  | pas =>
    simp only [chkS] at h
    split at h
    · exact ss_pas
    · exact ss_doc
    · cases h
  | brk =>
    simp only [chkS] at h
    split at h
    · exact ss_brk
    · cases h
  | cnt =>
    simp only [chkS] at h
    split at h
    · exact ss_cnt
    · cases h
  | asg tt e =>
    simp only [chkS] at h
    split at h
    · exact chkAs_ok gx a h
    · cases h
  | aug i op e =>
    simp only [chkS] at h
    split at h
    · simp only [Bool.and_eq_true, decide_eq_true_eq] at h
      obtain ⟨⟨⟨rfl, h1⟩, h2⟩, h3⟩ := h
      exact ss_aug gx (by rw [a.n]; exact h1) (loc_ok a h2).1 (loc_ok a h2).2 (chk_e gx a h3)
    · cases h
  | augA o f op e =>
    simp only [chkS] at h
    split at h
    · simp only [Bool.and_eq_true, decide_eq_true_eq] at h
      obtain ⟨⟨⟨rfl, rfl⟩, h2⟩, h3⟩ := h
      exact ss_augA gx.na (chk_e gx a h2) (chk_e gx a h3)
    · cases h
  | exp e =>
    simp only [chkS] at h
    split at h
    · simp only [Bool.and_eq_true, Bool.not_eq_true'] at h
      exact ss_exp (chk_e gx a h.2) (sw_no h.1)
    · cases h
  | ret e =>
    simp only [chkS] at h
    split at h
    · exact ss_ret (chk_e gx a h)
    · split at h
      · exact ss_ret0
      · cases h
    · cases h
  | iff c x y =>
    simp only [chkS] at h
    split at h
    · simp only [Bool.and_eq_true] at h
      exact ss_iff (chk_t gx a h.1.1) (hr _ _ h.1.2) (hr _ _ h.2)
    · cases h
  | «for» tg ci body =>
    simp only [chkS] at h
    split at h
    · simp only [Bool.and_eq_true] at h
      exact ss_for gx po (chkI_ok gx a (fun e c => chk_e gx a) h.1.1.1) (chkG_ok gx a h.1.1.2) (hr _ _ h.1.2) (fold_ok h.2)
    · cases h
  | whl c body =>
    simp only [chkS] at h
    split at h
    · simp only [Bool.and_eq_true] at h
      exact ss_whl po (chk_t gx a h.1) (hr _ _ h.2)
    · cases h
  | del o i =>
    simp only [chkS] at h
    split at h
    · simp only [Bool.and_eq_true] at h
      exact ss_del gx (chk_e gx a h.1) (chk_e gx a h.2)
    · cases h
  | _ => cases h
theorem chkSs_ok (gx : GX g cl X) (po : PO X) (a : AtK k X) : ∀ (m : Nat) {ss : List Stmt} {cs : CSs}, chkSs g n k m ss cs = true → SSs g cl X cs ss := by
  intro m
  induction m with
  | zero => intro ss cs h; cases h
  | succ m ih =>
    intro ss cs h
    cases ss with
    | nil =>
      cases cs with
      | nil => exact ss_nil
      | cons _ _ => cases h
    | cons s ss =>
      cases cs with
      | nil => cases h
      | cons c cs =>
        have h' : (chkS g n k (chkSs g n k m) s c && chkSs g n k m ss cs) = true := h
        rw [Bool.and_eq_true] at h'
        exact ss_cons (chkS_ok gx po a (fun ss cs h => ih h) h'.1) (ih h'.2)
end
end Sb
end
section
set_option Elab.async false
set_option linter.all false
set_option maxRecDepth 100000
set_option maxHeartbeats 4000000
namespace Sb
open PySem PySem.Spec PyProof.Rows L2
structure DefAt (g : G) (K : Frag) (fd : Fn) (fa : Addr) : Prop where
  ex : ∃ x qual params body scope dvs0 kws fdd N ps, FunD K x qual params body scope dvs0 kws fa fdd ∧ FnScope N ps scope ∧ ps.length = fd.pn ∧ N.length = fd.n ∧ (∃ n m, chkSs g n ⟨N, scope, fun _ => true⟩ m body fd.body = true) ∧ ∀ j, j ≤ fd.dfl.length → ∃ ds dvs, L2.Binds K fdd ps ds ∧ Vals dvs ds ∧ ∀ α H, RVs K α H (fd.dfl.drop j) dvs
structure PGd (g : G) (K : Frag) (mg : Str → Option Value) : Prop where
  na : NaOk g K
  nob : ∀ b ∈ bnames, mg (Str.ofString b) = none
  glb : ∀ x d, g.glb x = some d → ∃ u v, mg (Str.ofString x) = some u ∧ L2.RelV v u ∧ ∀ α H, RV K α H d v
  has : ∀ c m f, methOf g c m = some f → ∃ fd, g.fn f = some fd
  fn : ∀ f fd, g.fn f = some fd → ∃ fa, DefAt g K fd fa ∧ (fd.glo = true → mg (Str.ofString f) = some (.ref fa)) ∧
    ∀ c m, methOf g c m = some f → L2.Cls K (cad K c) ∧ Meth K (cad K c) (Str.ofString m) fa ∧ (m = "__init__" → Mk K (cad K c) fa ∧ mg (Str.ofString c) = some (.ref (cad K c)))
section
variable {g : G}
theorem evCall_ar {n : Nat} {f : String} {fd : Fn} (hf : g.fn f = some fd) {ds : List Sb.D} {M : List Ob} (h : evCall g n f ds M ≠ .no) : ds.length ≤ fd.pn ∧ fd.pn ≤ ds.length + fd.dfl.length := by
  cases n with
  | zero => exact absurd rfl h
  | succ n =>
    unfold evCall at h
    rw [hf] at h
    dsimp only at h
    unfold runFn at h
    rw [CM.bind_run] at h
    unfold CM.ask at h
    by_cases e : decide (ds.length ≤ fd.pn ∧ fd.pn ≤ ds.length + fd.dfl.length ∧ fd.pn ≤ fd.n) = true
    · have := of_decide_eq_true e; exact ⟨this.1, this.2.1⟩
    · rw [if_neg e] at h; exact absurd rfl h
theorem evCall_pad {n : Nat} {f : String} {fd : Fn} (hf : g.fn f = some fd) {ds : List Sb.D} (h1 : ds.length ≤ fd.pn) (h2 : fd.pn ≤ ds.length + fd.dfl.length) : evCall g n f ds = evCall g n f (ds ++ fd.dfl.drop (ds.length + fd.dfl.length - fd.pn)) := by
  cases n with
  | zero => rfl
  | succ n =>
    unfold evCall
    rw [hf]
    dsimp only
    unfold runFn
    have hl : (ds ++ fd.dfl.drop (ds.length + fd.dfl.length - fd.pn)).length = fd.pn := by
      rw [List.length_append, List.length_drop]; omega
    rw [hl]
    have e1 : decide (fd.pn ≤ fd.pn ∧ fd.pn ≤ fd.pn + fd.dfl.length ∧ fd.pn ≤ fd.n) = decide (ds.length ≤ fd.pn ∧ fd.pn ≤ ds.length + fd.dfl.length ∧ fd.pn ≤ fd.n) := by
      apply decide_eq_decide.mpr
      constructor
      · rintro ⟨_, _, h⟩; exact ⟨h1, h2, h⟩
      · rintro ⟨_, _, h⟩; exact ⟨Nat.le_refl _, Nat.le_add_right _ _, h⟩
    rw [e1]
    have e2 : fd.pn + fd.dfl.length - fd.pn = fd.dfl.length := by omega
    rw [e2, List.drop_length, List.append_nil]
theorem start_rel {K : Frag} {α : List Addr} {H : Hp} {ds : List Sb.D} {vs : List V} (r : RVs K α H ds vs) {N : List Str} {n pn : Nat} (hN : N.length = n) (hp : ds.length = pn) : RL K α H (ds.map some ++ List.replicate (n - pn) none) (L2.start N vs) := by
  subst hN hp
  unfold L2.start
  refine ⟨by simp [r.length], fun i d e => ?_⟩
  by_cases hi : i < ds.length
  · rw [List.getElem?_append_left (by simpa using hi), List.getElem?_map] at e
    cases q : ds[i]? with
    | none => rw [q] at e; cases e
    | some d' =>
      rw [q] at e
      cases e
      obtain ⟨v, e1, rv⟩ := r.get q
      refine ⟨v, ?_, rv⟩
      rw [List.getElem?_append_left (by simp [← r.length]; exact hi), List.getElem?_map, e1]
      rfl
  · rw [List.getElem?_append_right (by simpa using hi), List.getElem?_replicate] at e
    split at e <;> cases e
def Ih (P : Program) (w : World) (K : Frag) (mg : Str → Option Value) (base : Heap) (g : G) (n : Nat) : Prop := ∀ f fd fa, g.fn f = some fd → DefAt g K fd fa → ∃ fdd ps, FnOk P w K mg base (L2.CX P w) (2 * n + 1) fa fdd ps (spF ⟨P, w, K⟩ (evCall g n) f fd.pn) ∧ ps.length = fd.pn ∧ PySem.W.keepIn K (.ref fa) = true ∧
    ∀ j, j ≤ fd.dfl.length → ∃ ds dvs, L2.Binds K fdd ps ds ∧ Vals dvs ds ∧ ∀ α H, RVs K α H (fd.dfl.drop j) dvs
theorem fnOk_zero {P : Program} {w : World} {K : Frag} {mg : Str → Option Value} {base : Heap} {f : String} {fd : Fn} {fa : Addr} {fdd : FuncData} {ps : List Str} : FnOk P w K mg base (L2.CX P w) (2 * 0 + 1) fa fdd ps (spF ⟨P, w, K⟩ (evCall g 0) f fd.pn) := by
  refine ⟨fun vs H Q E h => ?_, fun A outer s H args us vs Q E _ _ _ _ h => ?_⟩
  · obtain ⟨α, M, ds, _, _, _, h⟩ := h; exact h.elim
  · obtain ⟨α, M, ds, _, _, _, h⟩ := h; exact h.elim
theorem fnOk_step {P : Program} {w : World} {K : Frag} {mg : Str → Option Value} {base : Heap} (pg : PGd g K mg) {n : Nat} (ih : Ih P w K mg base g n) {f : String} {fd : Fn} {fa : Addr} {x qual : Str} {params : Arguments} {body : List Stmt} {scope : Scope} {dvs0 : List V} {kws : List (Str × V)} {fdd : FuncData} {N ps : List Str} (hf : g.fn f = some fd) (F : FunD K x qual params body scope dvs0 kws fa fdd) (S : FnScope N ps scope) (h1 : ps.length = fd.pn) (h2 : N.length = fd.n) (hk : ∃ n m, chkSs g n ⟨N, scope, fun _ => true⟩ m body fd.body = true) :
    FnOk P w K mg base (L2.CX P w) (2 * (n + 1) + 1) fa fdd ps (spF ⟨P, w, K⟩ (evCall g (n + 1)) f fd.pn) := by
  obtain ⟨cn, cm, h3⟩ := hk
  refine F.ok (k := 2 * n + 2) S (fun vs H Q E h => ?_) (fun cdv A outer s H vs Q E hr h => ?_)
  · obtain ⟨α, M, ds, _, r, hl, _⟩ := h
    rw [← r.length, hl, h1]
  · have gx : GX g (evCall g n) (cxOf (L2.CX P w) P w K mg base N qual scope fa cdv A outer s H E) := by
      refine ⟨rfl, S.nd, ?_, pg.na, pg.nob, pg.glb, fun f' fd' hf' => ?_, pg.has⟩
      · have := hr.un
        show (A.deeper (envOfC qual scope s.heap.objs.size fa cdv)).units + 65 < cLine
        omega
      · obtain ⟨fa', da, g1, g2⟩ := pg.fn f' fd' hf'
        obtain ⟨fdd', ps', i1, i2, i3, i4⟩ := ih f' fd' fa' hf' da
        exact ⟨fa', ⟨⟨2 * n + 1, fdd', ps', i1, hr, i2, i4⟩, i3, fun ds M h => evCall_ar hf' h, fun ds a b => evCall_pad hf' a b⟩, g1, g2⟩
    refine ⟨_, chkSs_ok gx PassesOwn.leaving ⟨rfl, rfl, rfl⟩ cm h3 E (takes_of rfl rfl rfl rfl), ?_⟩
    obtain ⟨α, M, ds, rh, r, hl, h⟩ := h
    refine ⟨α, ds.map some ++ List.replicate (fd.n - fd.pn) none, M, start_rel r h2 hl, rh, ?_⟩
    have h' : Ho ⟨P, w, K⟩ E (RV K) (runFn g (evCall g n) fd ds M) α H Q := by
      have e : evCall g (n + 1) f ds = runFn g (evCall g n) fd ds := by
        show (match g.fn f with | some fd => runFn g (evCall g n) fd ds | none => CM.fail) = _
        rw [hf]
      rw [← e]; exact h
    unfold runFn at h'
    obtain ⟨hk, h'⟩ := ask_runD h'
    have e3 : ds ++ fd.dfl.drop (ds.length + fd.dfl.length - fd.pn) = ds := by
      rw [hl, Nat.add_sub_cancel_left, List.drop_length, List.append_nil]
    rw [e3] at h'
    refine (Ho.bind h').mono fun fv H1 z => ?_
    obtain ⟨fl, M1, α1, nx, rh1, rr, hh⟩ := z
    cases rr with
    | nx _ => exact Ho.ok (R := RV K) hh .refl rh1 .non
    | rt rv => exact Ho.ok (R := RV K) hh .refl rh1 rv
    | bk _ => exact hh.elim
    | ct _ => exact hh.elim
theorem fnOk_all {P : Program} {w : World} {K : Frag} {mg : Str → Option Value} {base : Heap} (pg : PGd g K mg) : ∀ n, Ih P w K mg base g n := by
  intro n
  induction n with
  | zero =>
    intro f fd fa hf ⟨x, qual, params, body, scope, dvs0, kws, fdd, N, ps, F, S, h1, h2, h3, h4⟩
    exact ⟨fdd, ps, fnOk_zero, h1, F.kp, h4⟩
  | succ n ih =>
    intro f fd fa hf ⟨x, qual, params, body, scope, dvs0, kws, fdd, N, ps, F, S, h1, h2, h3, h4⟩
    exact ⟨fdd, ps, fnOk_step pg ih hf F S h1 h2 h3, h1, F.kp, h4⟩
theorem fnOk_at {P : Program} {w : World} {K : Frag} {mg : Str → Option Value} {base : Heap} (pg : PGd g K mg) (n : Nat) {f : String} {fd : Fn} {fa : Addr} {x qual : Str} {params : Arguments} {body : List Stmt} {scope : Scope} {dvs0 : List V} {kws : List (Str × V)} {fdd : FuncData} {N ps : List Str} (hf : g.fn f = some fd) (F : FunD K x qual params body scope dvs0 kws fa fdd) (S : FnScope N ps scope) (h1 : ps.length = fd.pn) (h2 : N.length = fd.n) (hk : ∃ n m, chkSs g n ⟨N, scope, fun _ => true⟩ m body fd.body = true) :
    FnOk P w K mg base (L2.CX P w) (2 * n + 1) fa fdd ps (spF ⟨P, w, K⟩ (evCall g n) f fd.pn) := by
  cases n with
  | zero => exact fnOk_zero
  | succ n => exact fnOk_step pg (fnOk_all pg n) hf F S h1 h2 hk
end
end Sb
end
section
set_option Elab.async false
set_option linter.all false
set_option maxRecDepth 100000
set_option maxHeartbeats 4000000
namespace Sb
open PySem PySem.Spec PyProof.Rows L2
def AllL {A B : Type} (P : A → B → Prop) : List (A × B) → Prop
  | [] => True
  | (a, b) :: r => P a b ∧ AllL P r
def AllS {A : Type} (P : A → Prop) : List A → Prop
  | [] => True
  | a :: r => P a ∧ AllS P r
theorem lookup_all {B : Type} {P : String → B → Prop} : ∀ {l : List (String × B)}, AllL P l → ∀ {a : String} {b : B}, l.lookup a = some b → P a b
  | [], _, _, _, h => by cases h
  | (x, y) :: r, ⟨h1, h2⟩, a, b, h => by
    rw [List.lookup_cons] at h
    by_cases e : a = x
    · subst e
      have : (a == a) = true := by simp
      rw [this] at h
      cases h
      exact h1
    · have : (a == x) = false := by simp [e]
      rw [this] at h
      exact lookup_all h2 h
theorem mem_all {A : Type} {P : A → Prop} : ∀ {l : List A}, AllS P l → ∀ {a : A}, a ∈ l → P a
  | [], _, _, h => by cases h
  | x :: r, ⟨h1, h2⟩, a, h => by
    rcases List.mem_cons.mp h with rfl | h
    · exact h1
    · exact mem_all h2 h
theorem pgd_of {fnT : List (String × Fn)} {clT : List (String × Cl)} {glT : List (String × Sb.D)} {K : Frag} {mg : Str → Option Value} (at_ : String → Addr)
    (hna : AllL (fun c k => AllS (fun f => L2.Cls K (cad K c) ∧ NoAttr K (cad K c) (Str.ofString f)) k.attrs) clT)
    (hnob : AllS (fun b => mg (Str.ofString b) = none) bnames)
    (hgl : AllL (fun x d => ∃ u v, mg (Str.ofString x) = some u ∧ L2.RelV v u ∧ ∀ α H, RV K α H d v) glT)
    (hfn : AllL (fun f fd => DefAt ⟨fun f => fnT.lookup f, fun c => clT.lookup c, fun x => glT.lookup x⟩ K fd (at_ f) ∧ (fd.glo = true → mg (Str.ofString f) = some (.ref (at_ f)))) fnT)
    (hcl : AllL (fun c k => AllL (fun m f => (fnT.lookup f).isSome = true ∧ L2.Cls K (cad K c) ∧ Meth K (cad K c) (Str.ofString m) (at_ f) ∧ (m = "__init__" → Mk K (cad K c) (at_ f) ∧ mg (Str.ofString c) = some (.ref (cad K c)))) k.meths) clT) :
    PGd ⟨fun f => fnT.lookup f, fun c => clT.lookup c, fun x => glT.lookup x⟩ K mg := by
  have hm : ∀ c m f, methOf ⟨fun f => fnT.lookup f, fun c => clT.lookup c, fun x => glT.lookup x⟩ c m = some f → (fnT.lookup f).isSome = true ∧ L2.Cls K (cad K c) ∧ Meth K (cad K c) (Str.ofString m) (at_ f) ∧ (m = "__init__" → Mk K (cad K c) (at_ f) ∧ mg (Str.ofString c) = some (.ref (cad K c))) := by
    intro c m f h
    unfold methOf at h
    obtain ⟨k, h1, h2⟩ := Option.bind_eq_some_iff.mp h
    exact lookup_all (lookup_all hcl h1) h2
  refine ⟨fun c f h => ?_, fun b hb => mem_all hnob hb, fun x d h => lookup_all hgl h, fun c m f h => Option.isSome_iff_exists.mp (hm c m f h).1, fun f fd h => ?_⟩
  · unfold G.na at h
    dsimp only at h
    cases e : clT.lookup c with
    | none => rw [e] at h; cases h
    | some k =>
      rw [e] at h
      have h' : k.attrs.contains f = true := h
      exact mem_all (lookup_all hna e) (by simpa using h')
  · obtain ⟨h1, h2⟩ := lookup_all hfn h
    exact ⟨at_ f, h1, h2, fun c m e => (hm c m f e).2⟩
def CXw (P : Program) : CXT := fun l H s E u s' => ∃ w, L2.CX P w l H s E u s'
theorem fnOk_w {P : Program} {w : World} {K : Frag} {mg : Str → Option Value} {base : Heap} {k : Nat} {f : Addr} {fd : FuncData} {ps : List Str} {sp : Sp} (F : FnOk P w K mg base (L2.CX P w) k f fd ps sp) : FnOk P w K mg base (CXw P) k f fd ps sp := by
  refine ⟨F.len, fun A outer s H args us vs Q E a b c d e => codeAny_mono (F.run A outer s H args us vs Q E a b c d e) fun r s' h => ?_⟩
  cases r with
  | ok fl => cases fl <;> exact h
  | error u => exact ⟨w, h⟩
theorem cxw_false {P : Program} : ∀ (H : Hp) (s : Shared) (e : Value) (s' : Shared), CXw P [] H s (fun _ _ _ => False) e s' → False := by
  rintro H s e s' ⟨w, a, B, H', cls, d, _, _, _, _, _, _, _, q⟩
  exact q
theorem ints_rel {K : Frag} {α : List Addr} {H : Hp} : ∀ ns : List Int, RVs K α H (ns.map .int) (ns.map V.int)
  | [] => .nil
  | n :: ns => .cons (.int n) (ints_rel ns)
theorem sp_law {Γ : Gd} {g : G} {n : Nat} {f : String} {H : Hp} {a : Addr} {ns : List Int} (ho : L2.Only H) (hs : SqL Γ.K H a (ns.map V.int)) (h : ∃ M', evCall g n f [.rol (ns.map .int)] [] = .ok (.bl true) M') : spF Γ (evCall g n) f 1 [.ref a] H (fun v x => v = V.bl true) fun _ _ _ => False := by
  have sq : SqF Γ.K H a (ns.map V.int) := by
    rcases hs with (e | ⟨ob, e⟩) | hk
    · rcases ho a with z | ⟨o, xs, z⟩
      · rw [z] at e; cases e
      · rw [z] at e; cases e
    · exact .inl ⟨ob, e⟩
    · exact .inr hk
  obtain ⟨M', e⟩ := h
  refine ⟨[], [], [.rol (ns.map .int)], ⟨rfl, .nil, fun i o a h => by cases h⟩, .cons (.rol sq (ints_rel ns)) .nil, rfl, ?_⟩
  rw [e]
  intro α' b H' _ _ r
  cases r
  rfl
theorem defAt_n {g : G} {K : Frag} {x qual : Str} {params : Arguments} {body : List Stmt} {scope : Scope} {kws : List (Str × V)} {fa : Addr} {fdd : FuncData} {fd : Fn} {N ps : List Str} (cn cm : Nat) (F : FunD K x qual params body scope [] kws fa fdd) (S : FnScope N ps scope) (h1 : ps.length = fd.pn) (h2 : N.length = fd.n) (h3 : chkSs g cn ⟨N, scope, fun _ => true⟩ cm body fd.body = true) (hd : fd.dfl = [])
    (hb : ∀ (kV doc pm : Value) (an : Option Addr) (cdv ct : Value) (us : List Value), us.length = ps.length → bindArgs (PySem.W.fnOf x qual params body scope Value.none kV doc pm an cdv ct) { pos := us } = pure (ps.zip us)) : DefAt g K fd fa := by
  refine ⟨x, qual, params, body, scope, [], kws, fdd, N, ps, F, S, h1, h2, ⟨cn, cm, h3⟩, fun j hj => ⟨[], [], F.bindsN hb, .nil, fun α H => ?_⟩⟩
  rw [hd, List.drop_nil]
  exact .nil
theorem defAt_d {g : G} {K : Frag} {x qual : Str} {params : Arguments} {body : List Stmt} {scope : Scope} {kws : List (Str × V)} {fa : Addr} {fdd : FuncData} {fd : Fn} {N ps : List Str} {dvs : List V} (cn cm : Nat) (F : FunD K x qual params body scope dvs kws fa fdd) (S : FnScope N ps scope) (h1 : ps.length = fd.pn) (h2 : N.length = fd.n) (h3 : chkSs g cn ⟨N, scope, fun _ => true⟩ cm body fd.body = true) (hd : ∀ α H, RVs K α H fd.dfl dvs) (hne : dvs ≠ []) (hle : fd.dfl.length ≤ fd.pn)
    (hb : ∀ j, j ≤ dvs.length → ∀ (T : Addr) (kV doc pm : Value) (an : Option Addr) (cdv ct : Value) (us its : List Value), us.length = ps.length - (dvs.length - j) → its.length = dvs.length →
      ∃ k, bindArgs (PySem.W.fnOf x qual params body scope (Value.ref T) kV doc pm an cdv ct) { pos := us } = seqItems? (Value.ref T) >>= k ∧ k (some its.toArray) = pure (ps.zip (us ++ List.drop j its))) : DefAt g K fd fa := by
  have hl : fd.dfl.length = dvs.length := (hd [] (fun _ => none)).length
  refine ⟨x, qual, params, body, scope, dvs, kws, fdd, N, ps, F, S, h1, h2, ⟨cn, cm, h3⟩, fun j hj => ?_⟩
  obtain ⟨ds, v, b⟩ := F.binds1 (ps := ps) (ps.length - (dvs.length - j)) j hne (by omega) (hb j (by omega))
  exact ⟨ds, dvs.drop j, b, v, fun α H => (hd α H).drop j⟩
end Sb
end
section
set_option autoImplicit false
set_option linter.all false
set_option maxRecDepth 100000
namespace Sb
def Wp {A : Type} (m : CM A) (M : List Ob) (Q : A → List Ob → Prop) : Prop := ∃ a M', m M = .ok a M' ∧ Q a M'
section
variable {A B : Type} {M : List Ob}
theorem Wp.mono {m : CM A} {Q Q' : A → List Ob → Prop} (h : Wp m M Q) (i : ∀ a M', Q a M' → Q' a M') : Wp m M Q' := by
  obtain ⟨a, M', e, q⟩ := h
  exact ⟨a, M', e, i _ _ q⟩
theorem Wp.bind {m : CM A} {f : A → CM B} {Q : B → List Ob → Prop} (h : Wp m M fun a M1 => Wp (f a) M1 Q) : Wp (m >>= f) M Q := by
  obtain ⟨a, M1, e, b, M2, e2, q⟩ := h
  refine ⟨b, M2, ?_, q⟩
  show CM.bind m f M = _
  unfold CM.bind
  rw [e]
  exact e2
theorem Wp.pure {a : A} {Q : A → List Ob → Prop} (h : Q a M) : Wp (Pure.pure a) M Q := ⟨a, M, rfl, h⟩
theorem Wp.ask {p : Prop} [Decidable p] {Q : Unit → List Ob → Prop} (hp : p) (h : Q () M) : Wp (CM.ask (decide p)) M Q := ⟨(), M, by unfold CM.ask; rw [if_pos (decide_eq_true hp)], h⟩
theorem Wp.askB {p : Bool} {Q : Unit → List Ob → Prop} (hp : p = true) (h : Q () M) : Wp (CM.ask p) M Q := ⟨(), M, by unfold CM.ask; rw [if_pos hp], h⟩
theorem Wp.get {a : Nat} {o : Ob} {Q : Ob → List Ob → Prop} (e : M[a]? = some o) (h : Q o M) : Wp (CM.get a) M Q := ⟨o, M, by unfold CM.get; rw [e], h⟩
theorem Wp.opt {o : Option A} {a : A} {Q : A → List Ob → Prop} (e : o = some a) (h : Q a M) : Wp (CM.opt o) M Q := ⟨a, M, by unfold CM.opt; rw [e], h⟩
theorem Wp.new {o : Ob} {Q : D → List Ob → Prop} (h : Q (.ref M.length) (M ++ [o])) : Wp (CM.new o) M Q := ⟨_, _, rfl, h⟩
theorem Wp.put {a : Nat} {o : Ob} {Q : Unit → List Ob → Prop} (e : a < M.length) (h : Q () (M.set a o)) : Wp (CM.put a o) M Q := ⟨(), _, by unfold CM.put; rw [if_pos e], h⟩
theorem Wp.quiet {m : CM A} {Q : A → List Ob → Prop} (h : Wp m M Q) : Wp (Sb.quiet m) M Q := by
  obtain ⟨a, M', e, q⟩ := h
  exact ⟨a, M', by unfold Sb.quiet; rw [e], q⟩
end
def Br (b : Bool) (P R : Prop) : Prop := (b = true → P) ∧ (b = false → R)
def wLoc (Q : D → Prop) : Env → Nat → Prop
  | [], _ => False
  | o :: r, n => match n with
    | 0 => (match o with
      | some d => Q d
      | none => False)
    | n + 1 => wLoc Q r n
def wSet (d : D) (Q : Env → Prop) : Env → Nat → Prop
  | _ :: r, 0 => Q (some d :: r)
  | o :: r, n + 1 => wSet d (fun r' => Q (o :: r')) r n
  | [], _ => False
def wSets (Q : Env → Prop) : Env → List Nat → List D → Prop
  | ρ, [], [] => Q ρ
  | ρ, i :: is, d :: ds => wSet d (fun ρ' => wSets Q ρ' is ds) ρ i
  | _, _, _ => False
def wTg (ρ : Env) (Q : Env → Prop) : Tg → D → Prop
  | .loc i, d => wSet d Q ρ i
  | .tup is, .tup ds => wSets Q ρ is ds
  | .tup _, _ => False
theorem wLoc_ok {Q : D → Prop} {M : List Ob} : ∀ {ρ : Env} {i : Nat}, wLoc Q ρ i → Wp (getLoc ρ i) M fun d M' => M' = M ∧ Q d
  | [], _, h => h.elim
  | some d :: _, 0, h => ⟨d, M, rfl, rfl, h⟩
  | none :: _, 0, h => h.elim
  | o :: r, n + 1, h => by
    have h' : wLoc Q r n := h
    obtain ⟨d, M', e, q⟩ := wLoc_ok (M := M) (ρ := r) (i := n) h'
    exact ⟨d, M', by rw [← e]; simp [getLoc], q⟩
theorem wSet_ok {d : D} {M : List Ob} : ∀ {ρ : Env} {i : Nat} {Q : Env → Prop}, wSet d Q ρ i → setLoc ρ i d M = .ok (ρ.set i (some d)) M ∧ Q (ρ.set i (some d))
  | _ :: r, 0, Q, h => ⟨by simp [setLoc], h⟩
  | o :: r, n + 1, Q, h => by
    obtain ⟨e, q⟩ := wSet_ok (M := M) (ρ := r) (i := n) h
    refine ⟨?_, q⟩
    unfold setLoc at e ⊢
    by_cases hl : n < r.length
    · rw [if_pos (by simpa using hl)]
      try rfl
    · rw [if_neg hl] at e; cases e
  | [], _, _, h => by cases h
theorem wSets_ok {M : List Ob} {Q : Env → Prop} : ∀ {is : List Nat} {ds : List D} {ρ : Env}, wSets Q ρ is ds → ∃ ρ', setLocs ρ is ds M = .ok ρ' M ∧ Q ρ'
  | [], [], ρ, h => ⟨ρ, rfl, h⟩
  | i :: is, d :: ds, ρ, h => by
    obtain ⟨e, q⟩ := wSet_ok (M := M) h
    obtain ⟨ρ', e2, q2⟩ := wSets_ok q
    refine ⟨ρ', ?_, q2⟩
    show CM.bind (setLoc ρ i d) (fun ρ' => setLocs ρ' is ds) M = _
    unfold CM.bind
    rw [e]
    exact e2
  | [], _ :: _, ρ, h => by cases h
  | _ :: _, [], ρ, h => by cases h
theorem wTg_ok {ρ : Env} {tg : Tg} {d : D} {M : List Ob} {Q : Env → Prop} (h : wTg ρ Q tg d) : ∃ ρ', setTg ρ tg d M = .ok ρ' M ∧ Q ρ' := by
  cases tg with
  | loc i => exact ⟨_, (wSet_ok (M := M) h).1, (wSet_ok (M := M) h).2⟩
  | tup is =>
    cases d with
    | tup ds => exact wSets_ok h
    | _ => exact h.elim
abbrev Post := D → List Ob → Prop
mutual
def wE (g : G) (cl : Cls) (ρ : Env) : CE → List Ob → Post → Prop
  | .loc i, M, Q => wLoc (fun d => Q d M) ρ i
  | .cst d, M, Q => Q d M
  | .glb x, M, Q => ∃ d, g.glb x = some d ∧ Q d M
  | .tup es, M, Q => wEs g cl ρ es M fun ds M1 => ds.length ≤ lim ∧ Q (.tup ds) M1
  | .lst es, M, Q => wEs g cl ρ es M fun ds M1 => ds.length ≤ lim ∧ Q (.ref M1.length) (M1 ++ [.lst ds])
  | .bin op a b, M, Q => wE g cl ρ a M fun x M1 => wE g cl ρ b M1 fun y M2 => Wp (bop op x y) M2 Q
  | .neg a, M, Q => wE g cl ρ a M fun x M1 => match x with
    | .int i => Q (.int (-i)) M1
    | _ => False
  | .cmp op a b, M, Q => wE g cl ρ a M fun x M1 => wE g cl ρ b M1 fun y M2 => Wp (cop op x y) M2 fun r M3 => Q (.bl r) M3
  | .cmp2 op1 op2 a b c, M, Q => wE g cl ρ a M fun x M1 => wE g cl ρ b M1 fun y M2 => Wp (cop op1 x y) M2 fun r M3 => Br r (wE g cl ρ c M3 fun z M4 => Wp (cop op2 y z) M4 fun r M5 => Q (.bl r) M5) (Q (.bl false) M3)
  | .and a b, M, Q => wE g cl ρ a M fun x M1 => match x with
    | .bl r => Br r (wE g cl ρ b M1 Q) (Q (.bl false) M1)
    | _ => False
  | .or a b, M, Q => wE g cl ρ a M fun x M1 => match x with
    | .bl r => Br r (Q (.bl true) M1) (wE g cl ρ b M1 Q)
    | _ => False
  | .not a, M, Q => wE g cl ρ a M fun x M1 => Wp (truth x) M1 fun r M2 => Q (.bl (!r)) M2
  | .ite c a b, M, Q => wE g cl ρ c M fun x M1 => Wp (truth x) M1 fun r M2 => Br r (wE g cl ρ a M2 Q) (wE g cl ρ b M2 Q)
  | .idx a b, M, Q => wE g cl ρ a M fun x M1 => wE g cl ρ b M1 fun y M2 => Wp (index x y) M2 Q
  | .slc a lo hi, M, Q => wE g cl ρ a M fun x M1 => wE g cl ρ lo M1 fun l M2 => Wp (part lo.isNon l) M2 fun l' M3 => wE g cl ρ hi M3 fun h M4 => Wp (part hi.isNon h) M4 fun h' M5 => Wp (slice x l' h') M5 Q
  | .att a f, M, Q => wE g cl ρ a M fun x M1 => Wp (attr g.na x f) M1 Q
  | .call f es, M, Q => wEs g cl ρ es M fun ds M1 => Wp (cl f ds) M1 Q
  | .blt f es, M, Q => wEs g cl ρ es M fun ds M1 => Wp (blt f ds) M1 Q
  | .isi a T, M, Q => wE g cl ρ a M fun x M1 => ∃ b, isInst M1 x T = some b ∧ Q (.bl b) M1
  | .met o m es, M, Q => Wp (ev g cl ρ (.met o m es)) M Q
  | .comp tg it c e, M, Q => Wp (ev g cl ρ (.comp tg it c e)) M Q
  | c, M, Q => Wp (ev g cl ρ c) M Q
def wEs (g : G) (cl : Cls) (ρ : Env) : CEs → List Ob → (List D → List Ob → Prop) → Prop
  | .nil, M, Q => Q [] M
  | .cons e es, M, Q => wE g cl ρ e M fun d M1 => wEs g cl ρ es M1 fun ds M2 => Q (d :: ds) M2
end
mutual
theorem wE_ok {g : G} {cl : Cls} {ρ : Env} : ∀ {c : CE} {M : List Ob} {Q : Post}, wE g cl ρ c M Q → Wp (ev g cl ρ c) M Q
  | .loc i, M, Q, h => by
    rw [ev]
    exact (wLoc_ok h).mono fun d M' z => by obtain ⟨rfl, q⟩ := z; exact q
  | .cst d, M, Q, h => by rw [ev]; exact .pure h
  | .glb x, M, Q, h => by rw [ev]; obtain ⟨d, e, q⟩ := h; exact .opt e q
  | .tup es, M, Q, h => by
    rw [ev]; exact .bind ((wEs_ok (c := es) h).mono fun ds M1 z => .bind (.ask z.1 (.pure z.2)))
  | .lst es, M, Q, h => by
    rw [ev]; exact .bind ((wEs_ok (c := es) h).mono fun ds M1 z => .bind (.ask z.1 (.new z.2)))
  | .bin op a b, M, Q, h => by
    rw [ev]; exact .bind ((wE_ok (c := a) h).mono fun x M1 h => .bind ((wE_ok (c := b) h).mono fun y M2 h => h))
  | .neg a, M, Q, h => by
    rw [ev]; exact .bind ((wE_ok (c := a) h).mono fun x M1 h => by
      cases x with
      | int i => exact .pure h
      | _ => exact h.elim)
  | .cmp op a b, M, Q, h => by
    rw [ev]; exact .bind ((wE_ok (c := a) h).mono fun x M1 h => .bind ((wE_ok (c := b) h).mono fun y M2 h => .bind (h.mono fun r M3 q => .pure q)))
  | .cmp2 op1 op2 a b c, M, Q, h => by
    rw [ev]; exact .bind ((wE_ok (c := a) h).mono fun x M1 h => .bind ((wE_ok (c := b) h).mono fun y M2 h => .bind (h.mono fun r M3 q => by
      cases r with
      | false => exact .pure (q.2 rfl)
      | true => exact .bind ((wE_ok (c := c) (q.1 rfl)).mono fun z M4 h => .bind (h.mono fun r M5 q => .pure q)))))
  | .and a b, M, Q, h => by
    rw [ev]; exact .bind ((wE_ok (c := a) h).mono fun x M1 h => by
      cases x with
      | bl r => cases r with
        | false => exact .pure (h.2 rfl)
        | true => exact wE_ok (c := b) (h.1 rfl)
      | _ => exact h.elim)
  | .or a b, M, Q, h => by
    rw [ev]; exact .bind ((wE_ok (c := a) h).mono fun x M1 h => by
      cases x with
      | bl r => cases r with
        | true => exact .pure (h.1 rfl)
        | false => exact wE_ok (c := b) (h.2 rfl)
      | _ => exact h.elim)
  | .not a, M, Q, h => by
    rw [ev]; exact .bind ((wE_ok (c := a) h).mono fun x M1 h => .bind (h.mono fun r M3 q => .pure q))
  | .ite c a b, M, Q, h => by
    rw [ev]; exact .bind ((wE_ok (c := c) h).mono fun x M1 h => .bind (h.mono fun r M3 q => by
      cases r with
      | true => exact wE_ok (c := a) (q.1 rfl)
      | false => exact wE_ok (c := b) (q.2 rfl)))
  | .idx a b, M, Q, h => by
    rw [ev]; exact .bind ((wE_ok (c := a) h).mono fun x M1 h => .bind ((wE_ok (c := b) h).mono fun y M2 h => h))
  | .slc a lo hi, M, Q, h => by
    rw [ev]; exact .bind ((wE_ok (c := a) h).mono fun x M1 h => .bind ((wE_ok (c := lo) h).mono fun l M2 h => .bind (h.mono fun l' M3 h => .bind ((wE_ok (c := hi) h).mono fun u M4 h => .bind (h.mono fun u' M5 h => h)))))
  | .att a f, M, Q, h => by
    rw [ev]; exact .bind ((wE_ok (c := a) h).mono fun x M1 h => h)
  | .call f es, M, Q, h => by
    rw [ev]; exact .bind ((wEs_ok (c := es) h).mono fun ds M1 h => h)
  | .blt f es, M, Q, h => by
    rw [ev]; exact .bind ((wEs_ok (c := es) h).mono fun ds M1 h => h)
  | .isi a T, M, Q, h => by
    rw [ev]; exact .bind ((wE_ok (c := a) h).mono fun x M1 h => by
      obtain ⟨b, e, q⟩ := h
      exact ⟨_, M1, by dsimp only; rw [e], q⟩)
  | .met o m es, M, Q, h => h
  | .comp tg it c e, M, Q, h => h
  | .dic _ _, M, Q, h => h
  | .rev _, M, Q, h => h
  | .make _ _, M, Q, h => h
  | .dcomp _ _ _ _ _, M, Q, h => h
  | .srt _ _ _, M, Q, h => h
theorem wEs_ok {g : G} {cl : Cls} {ρ : Env} : ∀ {c : CEs} {M : List Ob} {Q : List D → List Ob → Prop}, wEs g cl ρ c M Q → Wp (evs g cl ρ c) M Q
  | .nil, M, Q, h => by rw [evs]; exact .pure h
  | .cons e es, M, Q, h => by
    rw [evs]; exact .bind ((wE_ok (c := e) h).mono fun x M1 h => .bind ((wEs_ok (c := es) h).mono fun ds M2 h => .pure h))
end
abbrev PostF := Fl → List Ob → Prop
def wStore (g : G) (cl : Cls) (ρ : Env) (v : D) (M : List Ob) (K : Env → List Ob → Prop) : Tt → Prop
  | .loc i => wSet v (fun ρ' => K ρ' M) ρ i
  | .tup is => match v with
    | .tup ds => wSets (fun ρ' => K ρ' M) ρ is ds
    | _ => False
  | .att o f => wE g cl ρ o M fun x M1 => Wp (setAttr g.na x f v) M1 fun _ M2 => K ρ M2
  | .idx o i => wE g cl ρ o M fun x M1 => wE g cl ρ i M1 fun k M2 => Wp (setItem x k v) M2 fun _ M3 => K ρ M3
theorem wStore_ok {g : G} {cl : Cls} {ρ : Env} {v : D} {M : List Ob} {K : Env → List Ob → Prop} {tt : Tt} (h : wStore g cl ρ v M K tt) : Wp (store g cl ρ v tt) M K := by
  cases tt with
  | loc i => exact ⟨_, M, (wSet_ok (M := M) h).1, (wSet_ok (M := M) h).2⟩
  | tup is =>
    cases v with
    | tup ds => obtain ⟨ρ', e, q⟩ := wSets_ok (M := M) h; exact ⟨ρ', M, e, q⟩
    | _ => exact h.elim
  | att o f => exact .bind ((wE_ok h).mono fun x M1 h => .bind (h.mono fun _ M2 q => .pure q))
  | idx o i => exact .bind ((wE_ok h).mono fun x M1 h => .bind ((wE_ok h).mono fun k M2 h => .bind (h.mono fun _ M3 q => .pure q)))
def wAug (op : BOp) (x y : D) (K : D → Prop) : Prop := match op, x, y with
  | .add, .int p, .int q => K (.int (p + q))
  | .sub, .int p, .int q => K (.int (p - q))
  | _, _, _ => False
mutual
def wS (g : G) (cl : Cls) (ρ : Env) : CS → List Ob → PostF → Prop
  | .asg t e, M, Q => wE g cl ρ e M fun v M1 => wStore g cl ρ v M1 (fun ρ' M2 => Q (.nx ρ') M2) t
  | .aug i op e, M, Q => wLoc (fun x => wE g cl ρ e M fun y M1 => wAug op x y fun z => wSet z (fun ρ' => Q (.nx ρ') M1) ρ i) ρ i
  | .exp e, M, Q => wE g cl ρ e M fun _ M1 => Q (.nx ρ) M1
  | .ret e, M, Q => wE g cl ρ e M fun v M1 => Q (.rt v) M1
  | .iff c a b, M, Q => wE g cl ρ c M fun x M1 => Wp (truth x) M1 fun r M2 => Br r (wSs g cl ρ a M2 Q) (wSs g cl ρ b M2 Q)
  | .brk, M, Q => Q (.bk ρ) M
  | .cnt, M, Q => Q (.ct ρ) M
  | .pas, M, Q => Q (.nx ρ) M
  | s, M, Q => Wp (ex g cl ρ s) M Q
def wSs (g : G) (cl : Cls) (ρ : Env) : CSs → List Ob → PostF → Prop
  | .nil, M, Q => Q (.nx ρ) M
  | .cons s ss, M, Q => wS g cl ρ s M fun fl M1 => match fl with
    | .nx ρ' => wSs g cl ρ' ss M1 Q
    | f => Q f M1
end
mutual
theorem wS_ok {g : G} {cl : Cls} : ∀ {s : CS} {ρ : Env} {M : List Ob} {Q : PostF}, wS g cl ρ s M Q → Wp (ex g cl ρ s) M Q
  | .asg t e, ρ, M, Q, h => by
    rw [ex]; exact .bind ((wE_ok h).mono fun v M1 h => .bind ((wStore_ok h).mono fun ρ' M2 q => .pure q))
  | .aug i op e, ρ, M, Q, h => by
    rw [ex]
    refine .bind ((wLoc_ok (M := M) h).mono fun x M' z => ?_)
    obtain ⟨rfl, h⟩ := z
    refine .bind ((wE_ok h).mono fun y M1 h => ?_)
    cases op with
    | add =>
      cases x with
      | int p => cases y with
        | int q => exact .bind ⟨_, M1, (wSet_ok (M := M1) h).1, .pure (wSet_ok (M := M1) h).2⟩
        | _ => exact h.elim
      | _ => exact h.elim
    | sub =>
      cases x with
      | int p => cases y with
        | int q => exact .bind ⟨_, M1, (wSet_ok (M := M1) h).1, .pure (wSet_ok (M := M1) h).2⟩
        | _ => exact h.elim
      | _ => exact h.elim
    | _ => exact h.elim
  | .exp e, ρ, M, Q, h => by
    rw [ex]; exact .bind ((wE_ok h).mono fun v M1 h => .pure h)
  | .ret e, ρ, M, Q, h => by
    rw [ex]; exact .bind ((wE_ok h).mono fun v M1 h => .pure h)
  | .iff c a b, ρ, M, Q, h => by
    rw [ex]
    refine .bind (m := evT g cl c ρ) ?_
    unfold evT
    refine .bind ((wE_ok h).mono fun x M1 h => h.mono fun r M2 q => ?_)
    cases r with
    | true => exact wSs_ok (ss := a) (q.1 rfl)
    | false => exact wSs_ok (ss := b) (q.2 rfl)
  | .brk, ρ, M, Q, h => by rw [ex]; exact .pure h
  | .cnt, ρ, M, Q, h => by rw [ex]; exact .pure h
  | .pas, ρ, M, Q, h => by rw [ex]; exact .pure h
  | .par _ _ _ _, ρ, M, Q, h => h
  | .augA _ _ _ _, ρ, M, Q, h => h
  | .for _ _ _, ρ, M, Q, h => h
  | .whl _ _, ρ, M, Q, h => h
  | .del _ _, ρ, M, Q, h => h
  | .rais _ _, ρ, M, Q, h => h
  | .tri _ _ _ _, ρ, M, Q, h => h
theorem wSs_ok {g : G} {cl : Cls} : ∀ {ss : CSs} {ρ : Env} {M : List Ob} {Q : PostF}, wSs g cl ρ ss M Q → Wp (exs g cl ρ ss) M Q
  | .nil, ρ, M, Q, h => by rw [exs]; exact .pure h
  | .cons s ss, ρ, M, Q, h => by
    rw [exs]
    refine .bind ((wS_ok (s := s) h).mono fun fl M1 h => ?_)
    cases fl with
    | nx ρ' => exact wSs_ok (ss := ss) h
    | rt d => exact .pure h
    | bk ρ' => exact .pure h
    | ct ρ' => exact .pure h
end
theorem wT_ok {g : G} {cl : Cls} {c : CE} {ρ : Env} {M : List Ob} {Q : Bool → List Ob → Prop} (h : wE g cl ρ c M fun x M1 => Wp (truth x) M1 Q) : Wp (evT g cl c ρ) M Q := .bind ((wE_ok h).mono fun x M1 h => h)
theorem Wp.call {g : G} {n : Nat} {f : String} {fd : Fn} {ds : List D} {M : List Ob} {Q : Post} (hf : g.fn f = some fd) (ha : ds.length ≤ fd.pn ∧ fd.pn ≤ ds.length + fd.dfl.length ∧ fd.pn ≤ fd.n)
    (h : wSs g (evCall g n) (((ds ++ fd.dfl.drop (ds.length + fd.dfl.length - fd.pn)).map some) ++ List.replicate (fd.n - fd.pn) none) fd.body M fun fl M' => match fl with
      | .rt d => Q d M'
      | .nx _ => Q .non M'
      | _ => False) : Wp (evCall g (n + 1) f ds) M Q := by
  have e : evCall g (n + 1) f ds = runFn g (evCall g n) fd ds := by
    show (match g.fn f with | some fd => runFn g (evCall g n) fd ds | none => CM.fail) = _
    rw [hf]
  rw [e]
  unfold runFn
  refine .bind (.ask ha (.bind ((wSs_ok h).mono fun fl M' q => ?_)))
  cases fl with
  | rt d => exact .pure q
  | nx ρ => exact .pure q
  | _ => exact q.elim
theorem Wp.metI {g : G} {cl : Cls} {ρ : Env} {o : CE} {m f : String} {es : CEs} {M : List Ob} {Q : Post} (h : wE g cl ρ o M fun x M1 => ∃ i c fs, x = .ref i ∧ M1[i]? = some (.ins c fs) ∧ (getF m fs).isNone = true ∧ methOf g c m = some f ∧ wEs g cl ρ es M1 fun ds M2 => Wp (cl f (.ref i :: ds)) M2 Q) : Wp (ev g cl ρ (.met o m es)) M Q := by
  rw [ev]
  refine .bind ((wE_ok h).mono fun x M1 z => ?_)
  obtain ⟨i, c, fs, rfl, e, h1, h2, h3⟩ := z
  refine .bind (.get e (.bind (.askB h1 ?_)))
  rw [h2]
  exact .bind ((wEs_ok h3).mono fun ds M2 h => h)
theorem Wp.metL {g : G} {cl : Cls} {ρ : Env} {o : CE} {m : String} {es : CEs} {M : List Ob} {Q : Post} (hm : lmt m = true) (h : wE g cl ρ o M fun x M1 => ∃ i xs, x = .ref i ∧ M1[i]? = some (.lst xs) ∧ wEs g cl ρ es M1 fun ds M2 => ∃ ys, M2[i]? = some (.lst ys) ∧ Wp (lstMeth i ys m ds) M2 Q) : Wp (ev g cl ρ (.met o m es)) M Q := by
  rw [ev]
  refine .bind ((wE_ok h).mono fun x M1 z => ?_)
  obtain ⟨i, xs, rfl, e, h3⟩ := z
  refine .bind (.get e (.bind (.askB hm ?_)))
  refine .bind ((wEs_ok h3).mono fun ds M2 z => ?_)
  obtain ⟨ys, e2, h⟩ := z
  exact .bind (.get e2 h)
theorem Wp.make {g : G} {cl : Cls} {ρ : Env} {c f : String} {es : CEs} {M : List Ob} {Q : Post} (hf : methOf g c "__init__" = some f) (h : wEs g cl ρ es M fun ds M1 => Wp (cl f (.ref M1.length :: ds)) (M1 ++ [.ins c []]) fun r M2 => r = .non ∧ Q (.ref M1.length) M2) : Wp (ev g cl ρ (.make c es)) M Q := by
  rw [ev]
  refine .bind ((wEs_ok h).mono fun ds M1 h => ?_)
  rw [hf]
  refine .bind (.new (.bind ((Wp.quiet h).mono fun r M2 z => ?_)))
  obtain ⟨rfl, q⟩ := z
  exact .pure q
theorem Wp.attr {na : String → String → Bool} {i : Nat} {c f : String} {fs : List (String × D)} {d : D} {M : List Ob} {Q : Post} (e : M[i]? = some (.ins c fs)) (hn : na c f = true) (hf : getF f fs = some d) (h : Q d M) : Wp (Sb.attr na (.ref i) f) M Q := .bind (.get e (.bind (.askB hn (.opt hf h))))
theorem Wp.setAttr {na : String → String → Bool} {i : Nat} {c f : String} {fs : List (String × D)} {v : D} {M : List Ob} {Q : Unit → List Ob → Prop} (e : M[i]? = some (.ins c fs)) (hn : na c f = true) (hl : fs.length < 100) (h : Q () (M.set i (.ins c (putF f v fs)))) : Wp (Sb.setAttr na (.ref i) f v) M Q :=
  .bind (.get e (.bind (.askB (by rw [hn, decide_eq_true hl]; rfl) (.put (List.getElem?_eq_some_iff.mp e).1 h))))
theorem Wp.forN {w : Wk} {tg : Tg} {body : Env → CM Fl} {ρ : Env} {M : List Ob} {Q : PostF} (hw : w.ok M = true) (h : Q (.nx ρ) M) : Wp (forD w tg body [] ρ) M Q := by
  rw [forD]
  exact .bind ⟨(), M, by unfold checkW; rw [if_pos hw], .pure h⟩
theorem Wp.forC {w : Wk} {tg : Tg} {body : Env → CM Fl} {d : D} {ds : List D} {ρ : Env} {M : List Ob} {Q : PostF} (hw : w.ok M = true) (h : wTg ρ (fun ρ1 => Wp (body ρ1) M fun fl M1 => match fl with
    | .nx ρ2 => Wp (forD w tg body ds ρ2) M1 Q
    | .ct ρ2 => Wp (forD w tg body ds ρ2) M1 Q
    | .bk ρ2 => Q (.nx ρ2) M1
    | .rt v => Q (.rt v) M1) tg d) : Wp (forD w tg body (d :: ds) ρ) M Q := by
  rw [forD]
  refine .bind ⟨(), M, by unfold checkW; rw [if_pos hw], ?_⟩
  obtain ⟨ρ1, e, h⟩ := wTg_ok (M := M) h
  refine .bind ⟨ρ1, M, e, .bind (h.mono fun fl M1 z => ?_)⟩
  cases fl with
  | nx _ => exact z
  | ct _ => exact z
  | bk _ => exact .pure z
  | rt _ => exact .pure z
theorem Wp.for {g : G} {cl : Cls} {ρ : Env} {tg : Tg} {it : CI} {body : CSs} {M : List Ob} {Q : PostF} (h : Wp (evI g cl ρ it) M fun w M1 => Wp (forD w tg (fun ρ => exs g cl ρ body) w.its ρ) M1 Q) : Wp (ex g cl ρ (.for tg it body)) M Q := by
  rw [ex]; exact .bind h
theorem Wp.whl {c : Env → CM Bool} {body : Env → CM Fl} {Q : PostF} (I : Nat → Env → List Ob → Prop)
    (hs : ∀ k ρ M, I k ρ M → Wp (c ρ) M fun b M1 => Br b (Wp (body ρ) M1 fun fl M2 => match fl with
      | .nx ρ2 => ∃ j, j < k ∧ I j ρ2 M2
      | .ct ρ2 => ∃ j, j < k ∧ I j ρ2 M2
      | .bk ρ2 => Q (.nx ρ2) M2
      | .rt v => Q (.rt v) M2) (Q (.nx ρ) M1)) : ∀ n k ρ M, k < n → I k ρ M → Wp (whileD c body n ρ) M Q := by
  intro n
  induction n with
  | zero => intro k ρ M h; omega
  | succ n ih =>
    intro k ρ M hk hi
    rw [whileD]
    refine .bind ((hs k ρ M hi).mono fun b M1 h => ?_)
    cases b with
    | false => exact .pure (h.2 rfl)
    | true =>
      refine .bind ((h.1 rfl).mono fun fl M2 z => ?_)
      cases fl with
      | nx ρ2 => obtain ⟨j, hj, hI⟩ := z; exact ih j ρ2 M2 (by omega) hI
      | ct ρ2 => obtain ⟨j, hj, hI⟩ := z; exact ih j ρ2 M2 (by omega) hI
      | bk _ => exact .pure z
      | rt _ => exact .pure z
theorem Wp.while {g : G} {cl : Cls} {ρ : Env} {c : CE} {body : CSs} {M : List Ob} {Q : PostF} (I : Nat → Env → List Ob → Prop) (k : Nat) (hk : k < wmax) (hi : I k ρ M)
    (hs : ∀ k ρ M, I k ρ M → wE g cl ρ c M fun x M1 => Wp (truth x) M1 fun b M2 => Br b (wSs g cl ρ body M2 fun fl M3 => match fl with
      | .nx ρ2 => ∃ j, j < k ∧ I j ρ2 M3
      | .ct ρ2 => ∃ j, j < k ∧ I j ρ2 M3
      | .bk ρ2 => Q (.nx ρ2) M3
      | .rt v => Q (.rt v) M3) (Q (.nx ρ) M2)) : Wp (ex g cl ρ (.whl c body)) M Q := by
  rw [ex]
  exact Wp.whl I (fun k ρ M h => (wT_ok (hs k ρ M h)).mono fun b M2 z => ⟨fun e => wSs_ok (z.1 e), z.2⟩) wmax k ρ M hk hi
end Sb
end
section
set_option autoImplicit false
set_option linter.all false
set_option maxRecDepth 100000
namespace Sb
section
variable {M : List Ob}
theorem tree_of {x y : D} {a b : T} (e1 : tree M x = some a) (e2 : tree M y = some b) (h1 : T.dep a ≤ 64) (h2 : T.dep b ≤ 64) : tree2 x y M = .ok (a, b) M := by
  unfold tree2
  rw [e1, e2]
  dsimp only
  rw [if_pos ⟨h1, h2⟩]
theorem Wp.eq {x y : D} {a b : T} {Q : Bool → List Ob → Prop} (e1 : tree M x = some a) (e2 : tree M y = some b) (h1 : T.dep a ≤ 64) (h2 : T.dep b ≤ 64) (h : Q (a.eqv b) M) : Wp (cop .eq x y) M Q := .bind ⟨_, M, tree_of e1 e2 h1 h2, .pure h⟩
theorem Wp.ne {x y : D} {a b : T} {Q : Bool → List Ob → Prop} (e1 : tree M x = some a) (e2 : tree M y = some b) (h1 : T.dep a ≤ 64) (h2 : T.dep b ≤ 64) (h : Q (!a.eqv b) M) : Wp (cop .ne x y) M Q := .bind ⟨_, M, tree_of e1 e2 h1 h2, .pure h⟩
theorem cmp_of {x y : D} {a b : T} (e1 : tree M x = some a) (e2 : tree M y = some b) (h1 : T.dep a ≤ 64) (h2 : T.dep b ≤ 64) (h3 : a.alike b = true) : cmp2 x y M = .ok (a, b) M := by
  show CM.bind (tree2 x y) _ M = _
  unfold CM.bind
  rw [tree_of e1 e2 h1 h2]
  show CM.bind (CM.ask (a.alike b)) _ M = _
  unfold CM.bind CM.ask
  rw [if_pos h3]
  rfl
theorem Wp.eqI {i j : Int} {Q : Bool → List Ob → Prop} (h : Q (decide (i = j)) M) : Wp (cop .eq (.int i) (.int j)) M Q := Wp.eq (a := .int i) (b := .int j) rfl rfl (Nat.zero_le _) (Nat.zero_le _) h
theorem Wp.neI {i j : Int} {Q : Bool → List Ob → Prop} (h : Q (!decide (i = j)) M) : Wp (cop .ne (.int i) (.int j)) M Q := Wp.ne (a := .int i) (b := .int j) rfl rfl (Nat.zero_le _) (Nat.zero_le _) h
theorem Wp.ltI {i j : Int} {Q : Bool → List Ob → Prop} (h : Q (decide (i < j)) M) : Wp (cop .lt (.int i) (.int j)) M Q := .bind ⟨_, M, cmp_of (a := .int i) (b := .int j) rfl rfl (Nat.zero_le _) (Nat.zero_le _) rfl, .pure h⟩
theorem Wp.gtI {i j : Int} {Q : Bool → List Ob → Prop} (h : Q (decide (j < i)) M) : Wp (cop .gt (.int i) (.int j)) M Q := .bind ⟨_, M, cmp_of (a := .int i) (b := .int j) rfl rfl (Nat.zero_le _) (Nat.zero_le _) rfl, .pure h⟩
theorem Wp.leI {i j : Int} {Q : Bool → List Ob → Prop} (h : Q (decide (i ≤ j)) M) : Wp (cop .le (.int i) (.int j)) M Q := .bind ⟨_, M, cmp_of (a := .int i) (b := .int j) rfl rfl (Nat.zero_le _) (Nat.zero_le _) rfl, .pure (by
  have e : (!T.lt (.int j) (.int i)) = decide (i ≤ j) := by
    show (!decide (j < i)) = _
    rw [← decide_not]; exact decide_eq_decide.mpr (by omega)
  show Q (!T.lt (.int j) (.int i)) M
  rw [e]; exact h)⟩
theorem Wp.geI {i j : Int} {Q : Bool → List Ob → Prop} (h : Q (decide (j ≤ i)) M) : Wp (cop .ge (.int i) (.int j)) M Q := .bind ⟨_, M, cmp_of (a := .int i) (b := .int j) rfl rfl (Nat.zero_le _) (Nat.zero_le _) rfl, .pure (by
  have e : (!T.lt (.int i) (.int j)) = decide (j ≤ i) := by
    show (!decide (i < j)) = _
    rw [← decide_not]; exact decide_eq_decide.mpr (by omega)
  show Q (!T.lt (.int i) (.int j)) M
  rw [e]; exact h)⟩
theorem res_ints (dr : Nat → Option T) : ∀ xs : List Int, D.res dr (xs.map D.int) = some (xs.map T.int)
  | [] => rfl
  | x :: xs => by simp [D.res, D.re, res_ints dr xs]
theorem tree_ints {a : Nat} {xs : List Int} (h : M[a]? = some (.lst (xs.map .int))) : tree M (.ref a) = some (T.lst (xs.map T.int)) := by
  show drN M 8 a = _
  unfold drN
  rw [h]
  show (D.res (drN M 7) (xs.map D.int)).map T.lst = _
  rw [res_ints]; rfl
theorem deps_ints : ∀ xs : List Int, T.deps (xs.map T.int) = 0
  | [] => rfl
  | x :: xs => by simp [T.deps, T.dep, deps_ints xs]
theorem dep_ints (xs : List Int) : T.dep (T.lst (xs.map T.int)) ≤ 64 := by
  simp [T.dep, deps_ints]
theorem eqvs_ints : ∀ xs ys : List Int, T.eqvs (xs.map T.int) (ys.map T.int) = decide (xs = ys)
  | [], [] => rfl
  | [], _ :: _ => by simp [T.eqvs]
  | _ :: _, [] => by simp [T.eqvs]
  | x :: xs, y :: ys => by
    simp only [List.map_cons, T.eqvs, T.eqv, eqvs_ints xs ys, List.cons.injEq]
    by_cases h1 : x = y <;> by_cases h2 : xs = ys <;> simp [h1, h2]
theorem Wp.eqL {a b : Nat} {xs ys : List Int} {Q : Bool → List Ob → Prop} (h1 : M[a]? = some (.lst (xs.map .int))) (h2 : M[b]? = some (.lst (ys.map .int))) (h : Q (decide (xs = ys)) M) : Wp (cop .eq (.ref a) (.ref b)) M Q := Wp.eq (tree_ints h1) (tree_ints h2) (dep_ints xs) (dep_ints ys) (by rw [T.eqv, eqvs_ints]; exact h)
theorem Wp.neL {a b : Nat} {xs ys : List Int} {Q : Bool → List Ob → Prop} (h1 : M[a]? = some (.lst (xs.map .int))) (h2 : M[b]? = some (.lst (ys.map .int))) (h : Q (!decide (xs = ys)) M) : Wp (cop .ne (.ref a) (.ref b)) M Q := Wp.ne (tree_ints h1) (tree_ints h2) (dep_ints xs) (dep_ints ys) (by rw [T.eqv, eqvs_ints]; exact h)
end
end Sb
end
section
set_option Elab.async false
set_option linter.all false
set_option maxRecDepth 100000
set_option maxHeartbeats 0
namespace LawP
open PySem PySem.Spec PyProof.Rows L2 Sb
def f_Disk____init__ : Sb.Fn := ⟨1, 1, [], (.cons (.asg (.att (.loc 0) "areas") (.tup (.cons (.lst .nil) (.cons (.lst .nil) .nil)))) (.cons (.asg (.att (.loc 0) "place") (.cst (.int 0))) .nil)), false⟩
def f_Disk__area : Sb.Fn := ⟨2, 2, [], (.cons (.ret (.blt "list" (.cons (.idx (.att (.loc 0) "areas") (.loc 1)) .nil))) .nil), false⟩
def f_Disk__root : Sb.Fn := ⟨1, 1, [], (.cons (.ret (.att (.loc 0) "place")) .nil), false⟩
def f_Disk__steps : Sb.Fn := ⟨2, 5, [], (.cons (.asg (.loc 2) (.blt "len" (.cons (.idx (.att (.loc 0) "areas") (.cst (.int 0))) .nil))) (.cons (.asg (.loc 3) (.blt "len" (.cons (.idx (.att (.loc 0) "areas") (.cst (.int 1))) .nil))) (.cons (.asg (.loc 4) (.cst (.int 0))) (.cons (.iff (.cmp .eq (.att (.loc 0) "place") (.cst (.int 1))) (.cons (.asg (.loc 4) (.bin .add (.bin .add (.loc 2) (.loc 3)) (.cst (.int 1)))) (.cons (.asg (.loc 2) (.loc 3)) .nil)) .nil) (.cons (.ret (.bin .add (.bin .add (.bin .add (.bin .add (.bin .add (.bin .add (.bin .add (.loc 4) (.loc 3)) (.blt "len" (.cons (.loc 1) .nil))) (.cst (.int 1))) (.loc 2)) (.blt "len" (.cons (.loc 1) .nil))) (.cst (.int 1))) (.blt "len" (.cons (.loc 1) .nil)))) .nil))))), false⟩
def f_Disk__clear : Sb.Fn := ⟨3, 4, [], (.cons (.asg (.loc 3) (.idx (.att (.loc 0) "areas") (.loc 1))) (.cons (.whl (.and (.cmp .gt (.blt "len" (.cons (.loc 3) .nil)) (.cst (.int 0))) (.cmp .gt (.loc 2) (.cst (.int 0)))) (.cons (.exp (.met (.loc 3) "pop" .nil)) (.cons (.aug 2 .sub (.cst (.int 1))) .nil))) (.cons (.ret (.loc 2)) .nil))), false⟩
def f_Disk__fill : Sb.Fn := ⟨4, 6, [], (.cons (.asg (.loc 4) (.idx (.att (.loc 0) "areas") (.loc 1))) (.cons (.for (.loc 5) (.seq (.loc 2)) (.cons (.iff (.cmp .lt (.loc 3) (.cst (.int 1))) (.cons (.brk) .nil) .nil) (.cons (.exp (.met (.loc 4) "append" (.cons (.loc 5) .nil))) (.cons (.aug 3 .sub (.cst (.int 1))) .nil)))) (.cons (.ret (.loc 3)) .nil))), false⟩
def f_Disk__turn : Sb.Fn := ⟨3, 3, [], (.cons (.iff (.cmp .gt (.loc 2) (.cst (.int 0))) (.cons (.asg (.att (.loc 0) "place") (.loc 1)) (.cons (.aug 2 .sub (.cst (.int 1))) .nil)) .nil) (.cons (.ret (.loc 2)) .nil)), false⟩
def f_Disk__write : Sb.Fn := ⟨3, 5, [.non], (.cons (.asg (.loc 3) (.met (.loc 0) "steps" (.cons (.loc 1) .nil))) (.cons (.asg (.loc 4) (.ite (.cmp .is (.loc 2) (.cst .non)) (.loc 3) (.loc 2))) (.cons (.iff (.cmp .eq (.att (.loc 0) "place") (.cst (.int 1))) (.cons (.asg (.loc 4) (.met (.loc 0) "settle" (.cons (.met (.loc 0) "area" (.cons (.cst (.int 1)) .nil)) (.cons (.loc 4) .nil)))) .nil) .nil) (.cons (.asg (.loc 4) (.met (.loc 0) "clear" (.cons (.cst (.int 1)) (.cons (.loc 4) .nil)))) (.cons (.asg (.loc 4) (.met (.loc 0) "fill" (.cons (.cst (.int 1)) (.cons (.loc 1) (.cons (.loc 4) .nil))))) (.cons (.asg (.loc 4) (.met (.loc 0) "turn" (.cons (.cst (.int 1)) (.cons (.loc 4) .nil)))) (.cons (.asg (.loc 4) (.met (.loc 0) "settle" (.cons (.loc 1) (.cons (.loc 4) .nil)))) (.cons (.exp (.met (.loc 0) "clear" (.cons (.cst (.int 1)) (.cons (.loc 4) .nil)))) (.cons (.ret (.or (.cmp .is (.loc 2) (.cst .non)) (.cmp .ge (.loc 2) (.loc 3)))) .nil))))))))), false⟩
def f_Disk__settle : Sb.Fn := ⟨3, 3, [], (.cons (.asg (.loc 2) (.met (.loc 0) "clear" (.cons (.cst (.int 0)) (.cons (.loc 2) .nil)))) (.cons (.asg (.loc 2) (.met (.loc 0) "fill" (.cons (.cst (.int 0)) (.cons (.loc 1) (.cons (.loc 2) .nil))))) (.cons (.ret (.met (.loc 0) "turn" (.cons (.cst (.int 0)) (.cons (.loc 2) .nil)))) .nil))), false⟩
def f_Disk__recover : Sb.Fn := ⟨1, 2, [], (.cons (.iff (.cmp .eq (.att (.loc 0) "place") (.cst (.int 1))) (.cons (.asg (.loc 1) (.blt "list" (.cons (.idx (.att (.loc 0) "areas") (.cst (.int 1))) .nil))) (.cons (.exp (.met (.loc 0) "clear" (.cons (.cst (.int 0)) (.cons (.blt "len" (.cons (.idx (.att (.loc 0) "areas") (.cst (.int 0))) .nil)) .nil)))) (.cons (.exp (.met (.loc 0) "fill" (.cons (.cst (.int 0)) (.cons (.loc 1) (.cons (.blt "len" (.cons (.loc 1) .nil)) .nil))))) (.cons (.asg (.att (.loc 0) "place") (.cst (.int 0))) .nil)))) .nil) (.cons (.exp (.met (.loc 0) "clear" (.cons (.cst (.int 1)) (.cons (.blt "len" (.cons (.idx (.att (.loc 0) "areas") (.cst (.int 1))) .nil)) .nil)))) (.cons (.ret (.met (.loc 0) "area" (.cons (.cst (.int 0)) .nil))) .nil))), false⟩
def f__law_is_integer : Sb.Fn := ⟨1, 1, [], (.cons (.ret (.and (.isi (.loc 0) "int") (.not (.isi (.loc 0) "bool")))) .nil), true⟩
def f__law_draw : Sb.Fn := ⟨3, 5, [], (.cons (.asg (.loc 3) (.blt "abs" (.cons (.blt "int" (.cons (.loc 0) .nil)) .nil))) (.cons (.iff (.cmp .lt (.loc 3) (.cst (.int 1000000000000000000))) (.cons (.asg (.loc 3) (.bin .mod (.blt "int" (.cons (.bin .add (.bin .add (.bin .mul (.loc 3) (.cst (.int 48271))) (.bin .mul (.loc 1) (.cst (.int 69621)))) (.cst (.int 11))) .nil)) (.cst (.int 2147483647)))) (.cons (.asg (.loc 3) (.bin .mod (.blt "int" (.cons (.bin .add (.bin .add (.bin .mul (.loc 3) (.cst (.int 16807))) (.bin .mul (.loc 1) (.cst (.int 7919)))) (.cst (.int 5))) .nil)) (.cst (.int 2147483629)))) (.cons (.ret (.bin .mod (.blt "int" (.cons (.loc 3) .nil)) (.loc 2))) .nil))) .nil) (.cons (.for (.loc 4) (.rng (.cst (.int 0)) (.loc 1)) (.cons (.asg (.loc 3) (.bin .fdiv (.loc 3) (.cst (.int 1000)))) .nil)) (.cons (.ret (.bin .mod (.bin .mod (.blt "int" (.cons (.loc 3) .nil)) (.cst (.int 1000))) (.loc 2))) .nil)))), true⟩
def f__law_is_flag : Sb.Fn := ⟨1, 1, [], (.cons (.ret (.or (.cmp .is (.loc 0) (.cst (.bl true))) (.cmp .is (.loc 0) (.cst (.bl false))))) .nil), true⟩
def f__law_is_bytes : Sb.Fn := ⟨1, 2, [], (.cons (.iff (.not (.isi (.loc 0) "list")) (.cons (.ret (.cst (.bl false))) .nil) .nil) (.cons (.for (.loc 1) (.seq (.loc 0)) (.cons (.iff (.or (.not (.call "_law_is_integer" (.cons (.loc 1) .nil))) (.not (.cmp2 .le .le (.cst (.int 0)) (.loc 1) (.cst (.int 255))))) (.cons (.ret (.cst (.bl false))) .nil) .nil) .nil)) (.cons (.ret (.cst (.bl true))) .nil))), true⟩
def f__law_due_steps : Sb.Fn := ⟨2, 5, [], (.cons (.asg (.loc 2) (.cst (.int 0))) (.cons (.asg (.loc 3) (.idx (.loc 0) (.cst (.int 0)))) (.cons (.iff (.cmp .eq (.idx (.loc 0) (.cst (.int 2))) (.cst (.int 1))) (.cons (.asg (.loc 2) (.bin .add (.bin .add (.idx (.loc 0) (.cst (.int 0))) (.idx (.loc 0) (.cst (.int 1)))) (.cst (.int 1)))) (.cons (.asg (.loc 3) (.idx (.loc 0) (.cst (.int 1)))) .nil)) .nil) (.cons (.asg (.loc 4) (.bin .add (.bin .add (.bin .add (.loc 2) (.idx (.loc 0) (.cst (.int 1)))) (.loc 1)) (.cst (.int 1)))) (.cons (.ret (.tup (.cons (.loc 4) (.cons (.bin .add (.bin .add (.bin .add (.bin .add (.loc 4) (.loc 3)) (.loc 1)) (.cst (.int 1))) (.loc 1)) .nil)))) .nil))))), true⟩
def f__law_written : Sb.Fn := ⟨4, 8, [], (.cons (.asg (.tup [6, 7]) (.call "_law_due_steps" (.cons (.loc 1) (.cons (.blt "len" (.cons (.loc 2) .nil)) .nil)))) (.cons (.iff (.cmp .ne (.met (.loc 0) "steps" (.cons (.blt "list" (.cons (.loc 2) .nil)) .nil)) (.loc 7)) (.cons (.ret (.cst .non)) .nil) .nil) (.cons (.asg (.loc 4) (.bin .add (.call "_law_draw" (.cons (.loc 3) (.cons (.cst (.int 3)) (.cons (.cst (.int 1000)) .nil)))) (.bin .mul (.cst (.int 1000)) (.call "_law_draw" (.cons (.loc 3) (.cons (.cst (.int 4)) (.cons (.cst (.int 2)) .nil))))))) (.cons (.asg (.loc 4) (.bin .mod (.blt "int" (.cons (.loc 4) .nil)) (.bin .add (.loc 7) (.cst (.int 2))))) (.cons (.iff (.cmp .eq (.call "_law_draw" (.cons (.loc 3) (.cons (.cst (.int 5)) (.cons (.cst (.int 4)) .nil)))) (.cst (.int 0))) (.cons (.asg (.loc 4) (.idx (.lst (.cons (.bin .sub (.loc 6) (.cst (.int 1))) (.cons (.loc 6) (.cons (.loc 7) (.cons (.bin .sub (.loc 7) (.cst (.int 1))) .nil))))) (.call "_law_draw" (.cons (.loc 3) (.cons (.cst (.int 6)) (.cons (.cst (.int 4)) .nil)))))) .nil) .nil) (.cons (.asg (.loc 5) (.met (.loc 0) "write" (.cons (.blt "list" (.cons (.loc 2) .nil)) (.cons (.blt "max" (.cons (.cst (.int 0)) (.cons (.loc 4) .nil))) .nil)))) (.cons (.iff (.or (.not (.call "_law_is_flag" (.cons (.loc 5) .nil))) (.cmp .ne (.loc 5) (.cmp .ge (.blt "max" (.cons (.cst (.int 0)) (.cons (.loc 4) .nil))) (.loc 7)))) (.cons (.ret (.cst .non)) .nil) .nil) (.cons (.ret (.cmp .ge (.blt "max" (.cons (.cst (.int 0)) (.cons (.loc 4) .nil))) (.loc 6))) .nil)))))))), true⟩
def f__law_area_sizes : Sb.Fn := ⟨1, 1, [], (.cons (.ret (.lst (.cons (.blt "len" (.cons (.met (.loc 0) "area" (.cons (.cst (.int 0)) .nil)) .nil)) (.cons (.blt "len" (.cons (.met (.loc 0) "area" (.cons (.cst (.int 1)) .nil)) .nil)) (.cons (.met (.loc 0) "root" .nil) .nil))))) .nil), true⟩
def f_law : Sb.Fn := ⟨1, 8, [], (.cons (.asg (.loc 1) (.make "Disk" .nil)) (.cons (.asg (.loc 2) (.lst .nil)) (.cons (.iff (.or (.cmp .ne (.met (.loc 1) "area" (.cons (.cst (.int 0)) .nil)) (.lst .nil)) (.or (.cmp .ne (.met (.loc 1) "area" (.cons (.cst (.int 1)) .nil)) (.lst .nil)) (.cmp .ne (.met (.loc 1) "root" .nil) (.cst (.int 0))))) (.cons (.ret (.cst (.bl false))) .nil) .nil) (.cons (.for (.loc 3) (.seq (.slc (.loc 0) (.cst .non) (.cst (.int 12)))) (.cons (.asg (.loc 4) (.comp (.loc 7) (.rng (.cst (.int 0)) (.call "_law_draw" (.cons (.blt "int" (.cons (.loc 3) .nil)) (.cons (.cst (.int 8)) (.cons (.cst (.int 14)) .nil))))) (.cst (.bl true)) (.call "_law_draw" (.cons (.bin .add (.blt "int" (.cons (.loc 3) .nil)) (.loc 7)) (.cons (.cst (.int 7)) (.cons (.cst (.int 256)) .nil)))))) (.cons (.asg (.loc 5) (.call "_law_written" (.cons (.loc 1) (.cons (.call "_law_area_sizes" (.cons (.loc 1) .nil)) (.cons (.loc 4) (.cons (.blt "int" (.cons (.loc 3) .nil)) .nil)))))) (.cons (.iff (.cmp .is (.loc 5) (.cst .non)) (.cons (.ret (.cst (.bl false))) .nil) .nil) (.cons (.iff (.loc 5) (.cons (.asg (.loc 2) (.loc 4)) .nil) .nil) (.cons (.iff (.and (.cmp .eq (.met (.loc 1) "root" .nil) (.cst (.int 0))) (.cmp .ne (.met (.loc 1) "area" (.cons (.cst (.int 0)) .nil)) (.loc 2))) (.cons (.ret (.cst (.bl false))) .nil) .nil) (.cons (.iff (.and (.cmp .eq (.met (.loc 1) "root" .nil) (.cst (.int 1))) (.cmp .ne (.met (.loc 1) "area" (.cons (.cst (.int 1)) .nil)) (.loc 2))) (.cons (.ret (.cst (.bl false))) .nil) .nil) (.cons (.iff (.cmp .eq (.call "_law_draw" (.cons (.blt "int" (.cons (.loc 3) .nil)) (.cons (.cst (.int 9)) (.cons (.cst (.int 2)) .nil)))) (.cst (.int 0))) (.cons (.asg (.loc 6) (.met (.loc 1) "recover" .nil)) (.cons (.iff (.or (.not (.call "_law_is_bytes" (.cons (.loc 6) .nil))) (.or (.cmp .ne (.loc 6) (.loc 2)) (.cmp .ne (.met (.loc 1) "area" (.cons (.cst (.int 0)) .nil)) (.loc 2)))) (.cons (.ret (.cst (.bl false))) .nil) .nil) (.cons (.iff (.or (.cmp .ne (.met (.loc 1) "area" (.cons (.cst (.int 1)) .nil)) (.lst .nil)) (.cmp .ne (.met (.loc 1) "root" .nil) (.cst (.int 0)))) (.cons (.ret (.cst (.bl false))) .nil) .nil) .nil))) .nil) .nil)))))))) (.cons (.iff (.cmp .ne (.met (.loc 1) "recover" .nil) (.loc 2)) (.cons (.ret (.cst (.bl false))) .nil) .nil) (.cons (.ret (.and (.cmp .is (.met (.loc 1) "write" (.cons (.lst (.cons (.cst (.int 1)) (.cons (.cst (.int 2)) (.cons (.cst (.int 3)) .nil)))) .nil)) (.cst (.bl true))) (.and (.cmp .eq (.met (.loc 1) "recover" .nil) (.lst (.cons (.cst (.int 1)) (.cons (.cst (.int 2)) (.cons (.cst (.int 3)) .nil))))) (.cmp .eq (.met (.loc 1) "area" (.cons (.cst (.int 1)) .nil)) (.lst .nil))))) .nil)))))), true⟩
def fnT : List (String × Sb.Fn) := [("Disk.__init__", f_Disk____init__), ("Disk.area", f_Disk__area), ("Disk.root", f_Disk__root), ("Disk.steps", f_Disk__steps), ("Disk.clear", f_Disk__clear), ("Disk.fill", f_Disk__fill), ("Disk.turn", f_Disk__turn), ("Disk.write", f_Disk__write), ("Disk.settle", f_Disk__settle), ("Disk.recover", f_Disk__recover), ("_law_is_integer", f__law_is_integer), ("_law_draw", f__law_draw), ("_law_is_flag", f__law_is_flag), ("_law_is_bytes", f__law_is_bytes), ("_law_due_steps", f__law_due_steps), ("_law_written", f__law_written), ("_law_area_sizes", f__law_area_sizes), ("law", f_law)]
def clT : List (String × Sb.Cl) := [("Disk", ⟨[("__init__", "Disk.__init__"), ("area", "Disk.area"), ("root", "Disk.root"), ("steps", "Disk.steps"), ("clear", "Disk.clear"), ("fill", "Disk.fill"), ("turn", "Disk.turn"), ("write", "Disk.write"), ("settle", "Disk.settle"), ("recover", "Disk.recover")], [], ["areas", "place"]⟩)]
def glT : List (String × Sb.D) := []
def prog : Sb.G := ⟨fun f => fnT.lookup f, fun c => clT.lookup c, fun x => glT.lookup x⟩
def top (i : Nat) : Stmt := PySem.Challenge.pw_shedbook_k69_disks_can_be_cut.main.body.getD i (.Pass ⟨0, 0, 0, 0⟩)
def inC (i j : Nat) : Stmt := match top i with
  | .ClassDef _ _ _ body _ _ _ _ _ _ _ => body.getD j (.Pass ⟨0, 0, 0, 0⟩)
  | _ => .Pass ⟨0, 0, 0, 0⟩
abbrev s_Disk____init__ : Stmt := inC 1 0
def d_Disk____init__ : He.DefD := ⟨("Disk", some "__init__"), "__init__", "Disk.__init__", defArgs s_Disk____init__, defBody s_Disk____init__, defScope s_Disk____init__, [], []⟩
abbrev s_Disk__area : Stmt := inC 1 1
def d_Disk__area : He.DefD := ⟨("Disk", some "area"), "area", "Disk.area", defArgs s_Disk__area, defBody s_Disk__area, defScope s_Disk__area, [], []⟩
abbrev s_Disk__root : Stmt := inC 1 2
def d_Disk__root : He.DefD := ⟨("Disk", some "root"), "root", "Disk.root", defArgs s_Disk__root, defBody s_Disk__root, defScope s_Disk__root, [], []⟩
abbrev s_Disk__steps : Stmt := inC 1 3
def d_Disk__steps : He.DefD := ⟨("Disk", some "steps"), "steps", "Disk.steps", defArgs s_Disk__steps, defBody s_Disk__steps, defScope s_Disk__steps, [], []⟩
abbrev s_Disk__clear : Stmt := inC 1 4
def d_Disk__clear : He.DefD := ⟨("Disk", some "clear"), "clear", "Disk.clear", defArgs s_Disk__clear, defBody s_Disk__clear, defScope s_Disk__clear, [], []⟩
abbrev s_Disk__fill : Stmt := inC 1 5
def d_Disk__fill : He.DefD := ⟨("Disk", some "fill"), "fill", "Disk.fill", defArgs s_Disk__fill, defBody s_Disk__fill, defScope s_Disk__fill, [], []⟩
abbrev s_Disk__turn : Stmt := inC 1 6
def d_Disk__turn : He.DefD := ⟨("Disk", some "turn"), "turn", "Disk.turn", defArgs s_Disk__turn, defBody s_Disk__turn, defScope s_Disk__turn, [], []⟩
abbrev s_Disk__write : Stmt := inC 1 7
def d_Disk__write : He.DefD := ⟨("Disk", some "write"), "write", "Disk.write", defArgs s_Disk__write, defBody s_Disk__write, defScope s_Disk__write, [.non], []⟩
abbrev s_Disk__settle : Stmt := inC 1 8
def d_Disk__settle : He.DefD := ⟨("Disk", some "settle"), "settle", "Disk.settle", defArgs s_Disk__settle, defBody s_Disk__settle, defScope s_Disk__settle, [], []⟩
abbrev s_Disk__recover : Stmt := inC 1 9
def d_Disk__recover : He.DefD := ⟨("Disk", some "recover"), "recover", "Disk.recover", defArgs s_Disk__recover, defBody s_Disk__recover, defScope s_Disk__recover, [], []⟩
abbrev s__law_is_integer : Stmt := top 3
def d__law_is_integer : He.DefD := ⟨("_law_is_integer", none), "_law_is_integer", "_law_is_integer", defArgs s__law_is_integer, defBody s__law_is_integer, defScope s__law_is_integer, [], []⟩
abbrev s__law_draw : Stmt := top 4
def d__law_draw : He.DefD := ⟨("_law_draw", none), "_law_draw", "_law_draw", defArgs s__law_draw, defBody s__law_draw, defScope s__law_draw, [], []⟩
abbrev s__law_is_flag : Stmt := top 5
def d__law_is_flag : He.DefD := ⟨("_law_is_flag", none), "_law_is_flag", "_law_is_flag", defArgs s__law_is_flag, defBody s__law_is_flag, defScope s__law_is_flag, [], []⟩
abbrev s__law_is_bytes : Stmt := top 6
def d__law_is_bytes : He.DefD := ⟨("_law_is_bytes", none), "_law_is_bytes", "_law_is_bytes", defArgs s__law_is_bytes, defBody s__law_is_bytes, defScope s__law_is_bytes, [], []⟩
abbrev s__law_due_steps : Stmt := top 7
def d__law_due_steps : He.DefD := ⟨("_law_due_steps", none), "_law_due_steps", "_law_due_steps", defArgs s__law_due_steps, defBody s__law_due_steps, defScope s__law_due_steps, [], []⟩
abbrev s__law_written : Stmt := top 8
def d__law_written : He.DefD := ⟨("_law_written", none), "_law_written", "_law_written", defArgs s__law_written, defBody s__law_written, defScope s__law_written, [], []⟩
abbrev s__law_area_sizes : Stmt := top 9
def d__law_area_sizes : He.DefD := ⟨("_law_area_sizes", none), "_law_area_sizes", "_law_area_sizes", defArgs s__law_area_sizes, defBody s__law_area_sizes, defScope s__law_area_sizes, [], []⟩
abbrev s_law : Stmt := top 10
def d_law : He.DefD := ⟨("law", none), "law", "law", defArgs s_law, defBody s_law, defScope s_law, [], []⟩
def fnD : List He.DefD := [d_Disk____init__, d_Disk__area, d_Disk__root, d_Disk__steps, d_Disk__clear, d_Disk__fill, d_Disk__turn, d_Disk__write, d_Disk__settle, d_Disk__recover, d__law_is_integer, d__law_draw, d__law_is_flag, d__law_is_bytes, d__law_due_steps, d__law_written, d__law_area_sizes, d_law]
def faD : List He.Fa := [.glo "_law_is_integer", .glo "_law_draw", .glo "_law_is_flag", .glo "_law_is_bytes", .glo "_law_due_steps", .glo "_law_written", .glo "_law_area_sizes", .glo "law", .glo "Disk", .cls "Disk", .mkr "Disk", .meth "Disk" "__init__", .meth "Disk" "area", .meth "Disk" "root", .meth "Disk" "steps", .meth "Disk" "clear", .meth "Disk" "fill", .meth "Disk" "turn", .meth "Disk" "write", .meth "Disk" "settle", .meth "Disk" "recover", .noat "Disk" "areas", .noat "Disk" "place", .free "len", .free "int", .free "abs", .free "max", .free "min", .free "list", .free "tuple", .free "isinstance", .free "range", .free "enumerate", .free "str", .free "sorted", .free "set", .free "sum", .free "any", .free "all", .free "bool", .free "dict"]
abbrev R : PySem.W.OpenRow := PySem.W.OpenLaw.row PySem.Challenge.rw_shedbook_k69_disks_can_be_cut
abbrev hk : PySem.W.Hook := He.hookD 4 faD fnD
def ob (s : PySem.W.SharedT) : He.AlD := He.obsDG 4 faD fnD (HandSHeadRun.getT s)
theorem ob_eq (s : PySem.W.SharedT) : ob s = hk.obs s.abs := He.obsDG_eq (HandSHeadRun.getT_eq s)
def names0 : List PySem.Str := ["Disk", "_law_is_integer", "_law_draw", "_law_is_flag", "_law_is_bytes", "_law_due_steps", "_law_written", "_law_area_sizes"]
def names : List PySem.Str := names0
theorem run (w : World) : HandSHeadRun.RunEq R (PySem.W.view R.prog [10]) hk ob 2000 names w := by
  intro os
  kernel_rfl
theorem sc_Disk____init__ : FnScope ["self"] ["self"] (defScope s_Disk____init__) := ⟨rfl, rfl, rfl, by decide +kernel, rfl, by decide +kernel, by decide +kernel⟩
theorem ck_Disk____init__ : chkSs prog 60 ⟨["self"], defScope s_Disk____init__, fun _ => true⟩ 60 (defBody s_Disk____init__) f_Disk____init__.body = true := by kernel_rfl
theorem sc_Disk__area : FnScope ["self", "k"] ["self", "k"] (defScope s_Disk__area) := ⟨rfl, rfl, rfl, by decide +kernel, rfl, by decide +kernel, by decide +kernel⟩
theorem ck_Disk__area : chkSs prog 60 ⟨["self", "k"], defScope s_Disk__area, fun _ => true⟩ 60 (defBody s_Disk__area) f_Disk__area.body = true := by kernel_rfl
theorem sc_Disk__root : FnScope ["self"] ["self"] (defScope s_Disk__root) := ⟨rfl, rfl, rfl, by decide +kernel, rfl, by decide +kernel, by decide +kernel⟩
theorem ck_Disk__root : chkSs prog 60 ⟨["self"], defScope s_Disk__root, fun _ => true⟩ 60 (defBody s_Disk__root) f_Disk__root.body = true := by kernel_rfl
theorem sc_Disk__steps : FnScope ["self", "data", "first", "second", "many"] ["self", "data"] (defScope s_Disk__steps) := ⟨rfl, rfl, rfl, by decide +kernel, rfl, by decide +kernel, by decide +kernel⟩
theorem ck_Disk__steps : chkSs prog 60 ⟨["self", "data", "first", "second", "many"], defScope s_Disk__steps, fun _ => true⟩ 60 (defBody s_Disk__steps) f_Disk__steps.body = true := by kernel_rfl
theorem sc_Disk__clear : FnScope ["self", "k", "left", "area"] ["self", "k", "left"] (defScope s_Disk__clear) := ⟨rfl, rfl, rfl, by decide +kernel, rfl, by decide +kernel, by decide +kernel⟩
theorem ck_Disk__clear : chkSs prog 60 ⟨["self", "k", "left", "area"], defScope s_Disk__clear, fun _ => true⟩ 60 (defBody s_Disk__clear) f_Disk__clear.body = true := by kernel_rfl
theorem sc_Disk__fill : FnScope ["self", "k", "data", "left", "area", "byte"] ["self", "k", "data", "left"] (defScope s_Disk__fill) := ⟨rfl, rfl, rfl, by decide +kernel, rfl, by decide +kernel, by decide +kernel⟩
theorem ck_Disk__fill : chkSs prog 60 ⟨["self", "k", "data", "left", "area", "byte"], defScope s_Disk__fill, fun _ => true⟩ 60 (defBody s_Disk__fill) f_Disk__fill.body = true := by kernel_rfl
theorem sc_Disk__turn : FnScope ["self", "place", "left"] ["self", "place", "left"] (defScope s_Disk__turn) := ⟨rfl, rfl, rfl, by decide +kernel, rfl, by decide +kernel, by decide +kernel⟩
theorem ck_Disk__turn : chkSs prog 60 ⟨["self", "place", "left"], defScope s_Disk__turn, fun _ => true⟩ 60 (defBody s_Disk__turn) f_Disk__turn.body = true := by kernel_rfl
theorem sc_Disk__write : FnScope ["self", "data", "limit", "many", "left"] ["self", "data", "limit"] (defScope s_Disk__write) := ⟨rfl, rfl, rfl, by decide +kernel, rfl, by decide +kernel, by decide +kernel⟩
theorem ck_Disk__write : chkSs prog 60 ⟨["self", "data", "limit", "many", "left"], defScope s_Disk__write, fun _ => true⟩ 60 (defBody s_Disk__write) f_Disk__write.body = true := by kernel_rfl
theorem sc_Disk__settle : FnScope ["self", "data", "left"] ["self", "data", "left"] (defScope s_Disk__settle) := ⟨rfl, rfl, rfl, by decide +kernel, rfl, by decide +kernel, by decide +kernel⟩
theorem ck_Disk__settle : chkSs prog 60 ⟨["self", "data", "left"], defScope s_Disk__settle, fun _ => true⟩ 60 (defBody s_Disk__settle) f_Disk__settle.body = true := by kernel_rfl
theorem sc_Disk__recover : FnScope ["self", "data"] ["self"] (defScope s_Disk__recover) := ⟨rfl, rfl, rfl, by decide +kernel, rfl, by decide +kernel, by decide +kernel⟩
theorem ck_Disk__recover : chkSs prog 60 ⟨["self", "data"], defScope s_Disk__recover, fun _ => true⟩ 60 (defBody s_Disk__recover) f_Disk__recover.body = true := by kernel_rfl
theorem sc__law_is_integer : FnScope ["_law_actual"] ["_law_actual"] (defScope s__law_is_integer) := ⟨rfl, rfl, rfl, by decide +kernel, rfl, by decide +kernel, by decide +kernel⟩
theorem ck__law_is_integer : chkSs prog 60 ⟨["_law_actual"], defScope s__law_is_integer, fun _ => true⟩ 60 (defBody s__law_is_integer) f__law_is_integer.body = true := by kernel_rfl
theorem sc__law_draw : FnScope ["_law_cell", "_law_k", "_law_many", "_law_rest", "_law_j"] ["_law_cell", "_law_k", "_law_many"] (defScope s__law_draw) := ⟨rfl, rfl, rfl, by decide +kernel, rfl, by decide +kernel, by decide +kernel⟩
theorem ck__law_draw : chkSs prog 60 ⟨["_law_cell", "_law_k", "_law_many", "_law_rest", "_law_j"], defScope s__law_draw, fun _ => true⟩ 60 (defBody s__law_draw) f__law_draw.body = true := by kernel_rfl
theorem sc__law_is_flag : FnScope ["_law_actual"] ["_law_actual"] (defScope s__law_is_flag) := ⟨rfl, rfl, rfl, by decide +kernel, rfl, by decide +kernel, by decide +kernel⟩
theorem ck__law_is_flag : chkSs prog 60 ⟨["_law_actual"], defScope s__law_is_flag, fun _ => true⟩ 60 (defBody s__law_is_flag) f__law_is_flag.body = true := by kernel_rfl
theorem sc__law_is_bytes : FnScope ["_law_actual", "_law_entry"] ["_law_actual"] (defScope s__law_is_bytes) := ⟨rfl, rfl, rfl, by decide +kernel, rfl, by decide +kernel, by decide +kernel⟩
theorem ck__law_is_bytes : chkSs prog 60 ⟨["_law_actual", "_law_entry"], defScope s__law_is_bytes, fun _ => true⟩ 60 (defBody s__law_is_bytes) f__law_is_bytes.body = true := by kernel_rfl
theorem sc__law_due_steps : FnScope ["_law_model", "_law_size", "_law_many", "_law_first", "_law_root"] ["_law_model", "_law_size"] (defScope s__law_due_steps) := ⟨rfl, rfl, rfl, by decide +kernel, rfl, by decide +kernel, by decide +kernel⟩
theorem ck__law_due_steps : chkSs prog 60 ⟨["_law_model", "_law_size", "_law_many", "_law_first", "_law_root"], defScope s__law_due_steps, fun _ => true⟩ 60 (defBody s__law_due_steps) f__law_due_steps.body = true := by kernel_rfl
theorem sc__law_written : FnScope ["_law_disk", "_law_model", "_law_data", "_law_cell", "_law_limit", "_law_done", "_law_root", "_law_many"] ["_law_disk", "_law_model", "_law_data", "_law_cell"] (defScope s__law_written) := ⟨rfl, rfl, rfl, by decide +kernel, rfl, by decide +kernel, by decide +kernel⟩
theorem ck__law_written : chkSs prog 60 ⟨["_law_disk", "_law_model", "_law_data", "_law_cell", "_law_limit", "_law_done", "_law_root", "_law_many"], defScope s__law_written, fun _ => true⟩ 60 (defBody s__law_written) f__law_written.body = true := by kernel_rfl
theorem sc__law_area_sizes : FnScope ["_law_disk"] ["_law_disk"] (defScope s__law_area_sizes) := ⟨rfl, rfl, rfl, by decide +kernel, rfl, by decide +kernel, by decide +kernel⟩
theorem ck__law_area_sizes : chkSs prog 60 ⟨["_law_disk"], defScope s__law_area_sizes, fun _ => true⟩ 60 (defBody s__law_area_sizes) f__law_area_sizes.body = true := by kernel_rfl
theorem sc_law : FnScope ["_law_script", "_law_disk", "_law_due", "_law_cell", "_law_data", "_law_is_new", "_law_found", "_law_j"] ["_law_script"] (defScope s_law) := ⟨rfl, rfl, rfl, by decide +kernel, rfl, by decide +kernel, by decide +kernel⟩
theorem ck_law : chkSs prog 60 ⟨["_law_script", "_law_disk", "_law_due", "_law_cell", "_law_data", "_law_is_new", "_law_found", "_law_j"], defScope s_law, fun _ => true⟩ 60 (defBody s_law) f_law.body = true := by kernel_rfl
def atT : List (String × (Str × Option Str)) := [("Disk.__init__", ("Disk", some "__init__")), ("Disk.area", ("Disk", some "area")), ("Disk.root", ("Disk", some "root")), ("Disk.steps", ("Disk", some "steps")), ("Disk.clear", ("Disk", some "clear")), ("Disk.fill", ("Disk", some "fill")), ("Disk.turn", ("Disk", some "turn")), ("Disk.write", ("Disk", some "write")), ("Disk.settle", ("Disk", some "settle")), ("Disk.recover", ("Disk", some "recover")), ("_law_is_integer", ("_law_is_integer", none)), ("_law_draw", ("_law_draw", none)), ("_law_is_flag", ("_law_is_flag", none)), ("_law_is_bytes", ("_law_is_bytes", none)), ("_law_due_steps", ("_law_due_steps", none)), ("_law_written", ("_law_written", none)), ("_law_area_sizes", ("_law_area_sizes", none)), ("law", ("law", none))]
def at_ (K : PySem.W.Frag) (f : String) : Addr := match atT.lookup f with
  | some p => He.fAd K p
  | none => 0
section
variable {K : PySem.W.Frag} {h : Heap} {mg : Str → Option Value}
theorem at_Disk____init__ (X : K.In h) (G : h.Ns mainGlobals mg) (c : He.SaysD faD fnD K) : DefAt prog K f_Disk____init__ (at_ K "Disk.__init__") ∧ (f_Disk____init__.glo = true → mg (Str.ofString "Disk.__init__") = some (.ref (at_ K "Disk.__init__"))) := by
  obtain ⟨fd, F⟩ := c.def_ 0 (d := d_Disk____init__) rfl
  exact ⟨defAt_n 60 60 F sc_Disk____init__ rfl rfl ck_Disk____init__ rfl fun _ _ _ _ _ _ us hl => match us, hl with | [_], _ => rfl, fun h => by cases h⟩
theorem at_Disk__area (X : K.In h) (G : h.Ns mainGlobals mg) (c : He.SaysD faD fnD K) : DefAt prog K f_Disk__area (at_ K "Disk.area") ∧ (f_Disk__area.glo = true → mg (Str.ofString "Disk.area") = some (.ref (at_ K "Disk.area"))) := by
  obtain ⟨fd, F⟩ := c.def_ 1 (d := d_Disk__area) rfl
  exact ⟨defAt_n 60 60 F sc_Disk__area rfl rfl ck_Disk__area rfl fun _ _ _ _ _ _ us hl => match us, hl with | [_, _], _ => rfl, fun h => by cases h⟩
theorem at_Disk__root (X : K.In h) (G : h.Ns mainGlobals mg) (c : He.SaysD faD fnD K) : DefAt prog K f_Disk__root (at_ K "Disk.root") ∧ (f_Disk__root.glo = true → mg (Str.ofString "Disk.root") = some (.ref (at_ K "Disk.root"))) := by
  obtain ⟨fd, F⟩ := c.def_ 2 (d := d_Disk__root) rfl
  exact ⟨defAt_n 60 60 F sc_Disk__root rfl rfl ck_Disk__root rfl fun _ _ _ _ _ _ us hl => match us, hl with | [_], _ => rfl, fun h => by cases h⟩
theorem at_Disk__steps (X : K.In h) (G : h.Ns mainGlobals mg) (c : He.SaysD faD fnD K) : DefAt prog K f_Disk__steps (at_ K "Disk.steps") ∧ (f_Disk__steps.glo = true → mg (Str.ofString "Disk.steps") = some (.ref (at_ K "Disk.steps"))) := by
  obtain ⟨fd, F⟩ := c.def_ 3 (d := d_Disk__steps) rfl
  exact ⟨defAt_n 60 60 F sc_Disk__steps rfl rfl ck_Disk__steps rfl fun _ _ _ _ _ _ us hl => match us, hl with | [_, _], _ => rfl, fun h => by cases h⟩
theorem at_Disk__clear (X : K.In h) (G : h.Ns mainGlobals mg) (c : He.SaysD faD fnD K) : DefAt prog K f_Disk__clear (at_ K "Disk.clear") ∧ (f_Disk__clear.glo = true → mg (Str.ofString "Disk.clear") = some (.ref (at_ K "Disk.clear"))) := by
  obtain ⟨fd, F⟩ := c.def_ 4 (d := d_Disk__clear) rfl
  exact ⟨defAt_n 60 60 F sc_Disk__clear rfl rfl ck_Disk__clear rfl fun _ _ _ _ _ _ us hl => match us, hl with | [_, _, _], _ => rfl, fun h => by cases h⟩
theorem at_Disk__fill (X : K.In h) (G : h.Ns mainGlobals mg) (c : He.SaysD faD fnD K) : DefAt prog K f_Disk__fill (at_ K "Disk.fill") ∧ (f_Disk__fill.glo = true → mg (Str.ofString "Disk.fill") = some (.ref (at_ K "Disk.fill"))) := by
  obtain ⟨fd, F⟩ := c.def_ 5 (d := d_Disk__fill) rfl
  exact ⟨defAt_n 60 60 F sc_Disk__fill rfl rfl ck_Disk__fill rfl fun _ _ _ _ _ _ us hl => match us, hl with | [_, _, _, _], _ => rfl, fun h => by cases h⟩
theorem at_Disk__turn (X : K.In h) (G : h.Ns mainGlobals mg) (c : He.SaysD faD fnD K) : DefAt prog K f_Disk__turn (at_ K "Disk.turn") ∧ (f_Disk__turn.glo = true → mg (Str.ofString "Disk.turn") = some (.ref (at_ K "Disk.turn"))) := by
  obtain ⟨fd, F⟩ := c.def_ 6 (d := d_Disk__turn) rfl
  exact ⟨defAt_n 60 60 F sc_Disk__turn rfl rfl ck_Disk__turn rfl fun _ _ _ _ _ _ us hl => match us, hl with | [_, _, _], _ => rfl, fun h => by cases h⟩
theorem at_Disk__write (X : K.In h) (G : h.Ns mainGlobals mg) (c : He.SaysD faD fnD K) : DefAt prog K f_Disk__write (at_ K "Disk.write") ∧ (f_Disk__write.glo = true → mg (Str.ofString "Disk.write") = some (.ref (at_ K "Disk.write"))) := by
  obtain ⟨fd, F⟩ := c.def_ 7 (d := d_Disk__write) rfl
  exact ⟨defAt_d 60 60 F sc_Disk__write rfl rfl ck_Disk__write (fun α H => (.cons .non .nil)) (fun e => by cases e) (by decide) (fun j hj => match j, hj with | 0, _ => (fun T kV doc pm an cdv ct us its h1 h2 => match us, its, h1, h2 with | [_, _], [_], _, _ => ⟨_, rfl, rfl⟩) | 1, _ => (fun T kV doc pm an cdv ct us its h1 h2 => match us, its, h1, h2 with | [_, _, _], [_], _, _ => ⟨_, rfl, rfl⟩) | (j + 2), hj => absurd hj (by show ¬ j + 2 ≤ 1; omega)), fun h => by cases h⟩
theorem at_Disk__settle (X : K.In h) (G : h.Ns mainGlobals mg) (c : He.SaysD faD fnD K) : DefAt prog K f_Disk__settle (at_ K "Disk.settle") ∧ (f_Disk__settle.glo = true → mg (Str.ofString "Disk.settle") = some (.ref (at_ K "Disk.settle"))) := by
  obtain ⟨fd, F⟩ := c.def_ 8 (d := d_Disk__settle) rfl
  exact ⟨defAt_n 60 60 F sc_Disk__settle rfl rfl ck_Disk__settle rfl fun _ _ _ _ _ _ us hl => match us, hl with | [_, _, _], _ => rfl, fun h => by cases h⟩
theorem at_Disk__recover (X : K.In h) (G : h.Ns mainGlobals mg) (c : He.SaysD faD fnD K) : DefAt prog K f_Disk__recover (at_ K "Disk.recover") ∧ (f_Disk__recover.glo = true → mg (Str.ofString "Disk.recover") = some (.ref (at_ K "Disk.recover"))) := by
  obtain ⟨fd, F⟩ := c.def_ 9 (d := d_Disk__recover) rfl
  exact ⟨defAt_n 60 60 F sc_Disk__recover rfl rfl ck_Disk__recover rfl fun _ _ _ _ _ _ us hl => match us, hl with | [_], _ => rfl, fun h => by cases h⟩
theorem at__law_is_integer (X : K.In h) (G : h.Ns mainGlobals mg) (c : He.SaysD faD fnD K) : DefAt prog K f__law_is_integer (at_ K "_law_is_integer") ∧ (f__law_is_integer.glo = true → mg (Str.ofString "_law_is_integer") = some (.ref (at_ K "_law_is_integer"))) := by
  obtain ⟨fd, F⟩ := c.def_ 10 (d := d__law_is_integer) rfl
  exact ⟨defAt_n 60 60 F sc__law_is_integer rfl rfl ck__law_is_integer rfl fun _ _ _ _ _ _ us hl => match us, hl with | [_], _ => rfl, fun _ => He.glo_ok X G (c.fact 0 (f := .glo "_law_is_integer") rfl)⟩
theorem at__law_draw (X : K.In h) (G : h.Ns mainGlobals mg) (c : He.SaysD faD fnD K) : DefAt prog K f__law_draw (at_ K "_law_draw") ∧ (f__law_draw.glo = true → mg (Str.ofString "_law_draw") = some (.ref (at_ K "_law_draw"))) := by
  obtain ⟨fd, F⟩ := c.def_ 11 (d := d__law_draw) rfl
  exact ⟨defAt_n 60 60 F sc__law_draw rfl rfl ck__law_draw rfl fun _ _ _ _ _ _ us hl => match us, hl with | [_, _, _], _ => rfl, fun _ => He.glo_ok X G (c.fact 1 (f := .glo "_law_draw") rfl)⟩
theorem at__law_is_flag (X : K.In h) (G : h.Ns mainGlobals mg) (c : He.SaysD faD fnD K) : DefAt prog K f__law_is_flag (at_ K "_law_is_flag") ∧ (f__law_is_flag.glo = true → mg (Str.ofString "_law_is_flag") = some (.ref (at_ K "_law_is_flag"))) := by
  obtain ⟨fd, F⟩ := c.def_ 12 (d := d__law_is_flag) rfl
  exact ⟨defAt_n 60 60 F sc__law_is_flag rfl rfl ck__law_is_flag rfl fun _ _ _ _ _ _ us hl => match us, hl with | [_], _ => rfl, fun _ => He.glo_ok X G (c.fact 2 (f := .glo "_law_is_flag") rfl)⟩
theorem at__law_is_bytes (X : K.In h) (G : h.Ns mainGlobals mg) (c : He.SaysD faD fnD K) : DefAt prog K f__law_is_bytes (at_ K "_law_is_bytes") ∧ (f__law_is_bytes.glo = true → mg (Str.ofString "_law_is_bytes") = some (.ref (at_ K "_law_is_bytes"))) := by
  obtain ⟨fd, F⟩ := c.def_ 13 (d := d__law_is_bytes) rfl
  exact ⟨defAt_n 60 60 F sc__law_is_bytes rfl rfl ck__law_is_bytes rfl fun _ _ _ _ _ _ us hl => match us, hl with | [_], _ => rfl, fun _ => He.glo_ok X G (c.fact 3 (f := .glo "_law_is_bytes") rfl)⟩
theorem at__law_due_steps (X : K.In h) (G : h.Ns mainGlobals mg) (c : He.SaysD faD fnD K) : DefAt prog K f__law_due_steps (at_ K "_law_due_steps") ∧ (f__law_due_steps.glo = true → mg (Str.ofString "_law_due_steps") = some (.ref (at_ K "_law_due_steps"))) := by
  obtain ⟨fd, F⟩ := c.def_ 14 (d := d__law_due_steps) rfl
  exact ⟨defAt_n 60 60 F sc__law_due_steps rfl rfl ck__law_due_steps rfl fun _ _ _ _ _ _ us hl => match us, hl with | [_, _], _ => rfl, fun _ => He.glo_ok X G (c.fact 4 (f := .glo "_law_due_steps") rfl)⟩
theorem at__law_written (X : K.In h) (G : h.Ns mainGlobals mg) (c : He.SaysD faD fnD K) : DefAt prog K f__law_written (at_ K "_law_written") ∧ (f__law_written.glo = true → mg (Str.ofString "_law_written") = some (.ref (at_ K "_law_written"))) := by
  obtain ⟨fd, F⟩ := c.def_ 15 (d := d__law_written) rfl
  exact ⟨defAt_n 60 60 F sc__law_written rfl rfl ck__law_written rfl fun _ _ _ _ _ _ us hl => match us, hl with | [_, _, _, _], _ => rfl, fun _ => He.glo_ok X G (c.fact 5 (f := .glo "_law_written") rfl)⟩
theorem at__law_area_sizes (X : K.In h) (G : h.Ns mainGlobals mg) (c : He.SaysD faD fnD K) : DefAt prog K f__law_area_sizes (at_ K "_law_area_sizes") ∧ (f__law_area_sizes.glo = true → mg (Str.ofString "_law_area_sizes") = some (.ref (at_ K "_law_area_sizes"))) := by
  obtain ⟨fd, F⟩ := c.def_ 16 (d := d__law_area_sizes) rfl
  exact ⟨defAt_n 60 60 F sc__law_area_sizes rfl rfl ck__law_area_sizes rfl fun _ _ _ _ _ _ us hl => match us, hl with | [_], _ => rfl, fun _ => He.glo_ok X G (c.fact 6 (f := .glo "_law_area_sizes") rfl)⟩
theorem at_law (X : K.In h) (G : h.Ns mainGlobals mg) (c : He.SaysD faD fnD K) : DefAt prog K f_law (at_ K "law") ∧ (f_law.glo = true → mg (Str.ofString "law") = some (.ref (at_ K "law"))) := by
  obtain ⟨fd, F⟩ := c.def_ 17 (d := d_law) rfl
  exact ⟨defAt_n 60 60 F sc_law rfl rfl ck_law rfl fun _ _ _ _ _ _ us hl => match us, hl with | [_], _ => rfl, fun _ => He.glo_ok X G (c.fact 7 (f := .glo "law") rfl)⟩
theorem pgd (X : K.In h) (G : h.Ns mainGlobals mg) (c : He.SaysD faD fnD K) : PGd prog K mg := by
  exact pgd_of (at_ K) ⟨⟨⟨He.cls_ok (c.fact 9 (f := .cls "Disk") rfl), He.noat_ok (c.fact 21 (f := .noat "Disk" "areas") rfl)⟩, ⟨He.cls_ok (c.fact 9 (f := .cls "Disk") rfl), He.noat_ok (c.fact 22 (f := .noat "Disk" "place") rfl)⟩, trivial⟩, trivial⟩ ⟨He.free_ok X G (c.fact 23 (f := .free "len") rfl), He.free_ok X G (c.fact 24 (f := .free "int") rfl), He.free_ok X G (c.fact 25 (f := .free "abs") rfl), He.free_ok X G (c.fact 26 (f := .free "max") rfl), He.free_ok X G (c.fact 27 (f := .free "min") rfl), He.free_ok X G (c.fact 28 (f := .free "list") rfl), He.free_ok X G (c.fact 29 (f := .free "tuple") rfl), He.free_ok X G (c.fact 30 (f := .free "isinstance") rfl), He.free_ok X G (c.fact 31 (f := .free "range") rfl), He.free_ok X G (c.fact 32 (f := .free "enumerate") rfl), He.free_ok X G (c.fact 33 (f := .free "str") rfl), He.free_ok X G (c.fact 34 (f := .free "sorted") rfl), He.free_ok X G (c.fact 35 (f := .free "set") rfl), He.free_ok X G (c.fact 36 (f := .free "sum") rfl), He.free_ok X G (c.fact 37 (f := .free "any") rfl), He.free_ok X G (c.fact 38 (f := .free "all") rfl), He.free_ok X G (c.fact 39 (f := .free "bool") rfl), He.free_ok X G (c.fact 40 (f := .free "dict") rfl), trivial⟩ trivial ⟨at_Disk____init__ X G c, at_Disk__area X G c, at_Disk__root X G c, at_Disk__steps X G c, at_Disk__clear X G c, at_Disk__fill X G c, at_Disk__turn X G c, at_Disk__write X G c, at_Disk__settle X G c, at_Disk__recover X G c, at__law_is_integer X G c, at__law_draw X G c, at__law_is_flag X G c, at__law_is_bytes X G c, at__law_due_steps X G c, at__law_written X G c, at__law_area_sizes X G c, at_law X G c, trivial⟩ ⟨⟨⟨by decide +kernel, He.cls_ok (c.fact 9 (f := .cls "Disk") rfl), He.meth_ok (c.fact 11 (f := .meth "Disk" "__init__") rfl), fun _ => ⟨He.mkr_ok (c.fact 10 (f := .mkr "Disk") rfl), He.glo_ok X G (c.fact 8 (f := .glo "Disk") rfl)⟩⟩, ⟨by decide +kernel, He.cls_ok (c.fact 9 (f := .cls "Disk") rfl), He.meth_ok (c.fact 12 (f := .meth "Disk" "area") rfl), fun e => absurd e (by decide)⟩, ⟨by decide +kernel, He.cls_ok (c.fact 9 (f := .cls "Disk") rfl), He.meth_ok (c.fact 13 (f := .meth "Disk" "root") rfl), fun e => absurd e (by decide)⟩, ⟨by decide +kernel, He.cls_ok (c.fact 9 (f := .cls "Disk") rfl), He.meth_ok (c.fact 14 (f := .meth "Disk" "steps") rfl), fun e => absurd e (by decide)⟩, ⟨by decide +kernel, He.cls_ok (c.fact 9 (f := .cls "Disk") rfl), He.meth_ok (c.fact 15 (f := .meth "Disk" "clear") rfl), fun e => absurd e (by decide)⟩, ⟨by decide +kernel, He.cls_ok (c.fact 9 (f := .cls "Disk") rfl), He.meth_ok (c.fact 16 (f := .meth "Disk" "fill") rfl), fun e => absurd e (by decide)⟩, ⟨by decide +kernel, He.cls_ok (c.fact 9 (f := .cls "Disk") rfl), He.meth_ok (c.fact 17 (f := .meth "Disk" "turn") rfl), fun e => absurd e (by decide)⟩, ⟨by decide +kernel, He.cls_ok (c.fact 9 (f := .cls "Disk") rfl), He.meth_ok (c.fact 18 (f := .meth "Disk" "write") rfl), fun e => absurd e (by decide)⟩, ⟨by decide +kernel, He.cls_ok (c.fact 9 (f := .cls "Disk") rfl), He.meth_ok (c.fact 19 (f := .meth "Disk" "settle") rfl), fun e => absurd e (by decide)⟩, ⟨by decide +kernel, He.cls_ok (c.fact 9 (f := .cls "Disk") rfl), He.meth_ok (c.fact 20 (f := .meth "Disk" "recover") rfl), fun e => absurd e (by decide)⟩, trivial⟩, trivial⟩
end
end LawP
namespace LawP
open PySem PySem.Spec PyProof.Rows L2 Sb
theorem facts {n : Nat} (spec : ∀ ns : List Int, ns.length ≤ 63 → ∃ M', evCall prog n "law" [.rol (ns.map .int)] [] = .ok (.bl true) M') {w : World} {K : PySem.W.Frag} {h : Heap} {mg : Str → Option Value} {f : Addr} (X : K.In h) (G : h.Ns mainGlobals mg) (hfa : mg (Str.ofString "law") = some (.ref f)) (c : He.SaysD faD fnD K) :
    ∃ K fd sp, K.In h ∧ (∀ (s : Shared) (u : Value), BindsTo s fd { pos := [u] } [(Str.ofString "_law_script", u)]) ∧
      (∀ (H : L2.Hp) (a : Addr) (ns : List Int), ns.length ≤ 63 → L2.Only H → L2.SqL K H a (List.map L2.V.int ns) → sp [L2.V.ref a] H (fun v x => v = L2.V.bl true) fun x x_1 x_2 => False) ∧
      ∀ (base : Heap), K.In base → base.Ns mainGlobals mg → L2.FnOk (PySem.Challenge.rw_shedbook_k69_disks_can_be_cut).prog w K mg base (CXw (PySem.Challenge.rw_shedbook_k69_disks_can_be_cut).prog) (2 * n + 1) f fd [Str.ofString "_law_script"] sp := by
  have pg := pgd X G c
  obtain ⟨fd, F⟩ := c.def_ 17 (d := d_law) rfl
  obtain ⟨da, hg⟩ := at_law X G c
  have e := hfa.symm.trans (hg rfl)
  cases e
  have hb : ∀ (s : Shared) (us : List Value), us.length = 1 → BindsTo s fd { pos := us } ([Str.ofString "_law_script"].zip us) := FunD.bindsA (ps := [Str.ofString "_law_script"]) F fun _ _ _ _ _ _ us hl => match us, hl with | [_], _ => rfl
  have lv : ∀ base : Heap, FnOk (PySem.Challenge.rw_shedbook_k69_disks_can_be_cut).prog w K mg base (L2.CX (PySem.Challenge.rw_shedbook_k69_disks_can_be_cut).prog w) (2 * n + 1) (at_ K "law") fd [Str.ofString "_law_script"] (spF ⟨(PySem.Challenge.rw_shedbook_k69_disks_can_be_cut).prog, w, K⟩ (evCall prog n) "law" 1) := fun base =>
    fnOk_at pg n (f := "law") (fd := f_law) rfl F sc_law rfl rfl ⟨60, 60, ck_law⟩
  exact ⟨K, fd, _, X, fun s u => hb s [u] rfl, fun H a ns hl ho hs => sp_law ho hs (spec ns hl), fun base _ _ => fnOk_w (lv base)⟩
end LawP
end
section
set_option linter.all false
set_option maxRecDepth 100000
set_option maxHeartbeats 400000
namespace LawP
open Sb
def dsk (p : Int) : Ob := .ins "Disk" [("areas", .tup [.ref 1, .ref 2]), ("place", .int p)]
def il (xs : List Int) : Ob := .lst (xs.map .int)
structure St (A0 A1 : List Int) (p : Int) (M : List Ob) : Prop where
  d : M[0]? = some (dsk p)
  a : M[1]? = some (il A0)
  b : M[2]? = some (il A1)
def Fr (M M' : List Ob) : Prop := ∀ i, 3 ≤ i → ∀ o, M[i]? = some o → M'[i]? = some o
theorem Fr.refl {M : List Ob} : Fr M M := fun _ _ _ h => h
theorem Fr.trans {M M1 M2 : List Ob} (a : Fr M M1) (b : Fr M1 M2) : Fr M M2 := fun i hi o h => b i hi o (a i hi o h)
theorem app_get {M N : List Ob} {i : Nat} {o : Ob} (h : M[i]? = some o) : (M ++ N)[i]? = some o := by
  rw [List.getElem?_append_left (List.getElem?_eq_some_iff.mp h).1]; exact h
theorem Fr.app {M N : List Ob} : Fr M (M ++ N) := fun _ _ _ h => app_get h
theorem Fr.set {M : List Ob} {i : Nat} {o : Ob} (h : i < 3) : Fr M (M.set i o) := fun j hj u e => by
  rw [List.getElem?_set_ne (by omega)]; exact e
theorem St.app {A0 A1 : List Int} {p : Int} {M N : List Ob} (h : St A0 A1 p M) : St A0 A1 p (M ++ N) := ⟨app_get h.d, app_get h.a, app_get h.b⟩
theorem St.len {A0 A1 : List Int} {p : Int} {M : List Ob} (h : St A0 A1 p M) : 3 ≤ M.length := (List.getElem?_eq_some_iff.mp h.b).1
theorem set_at {M : List Ob} {i : Nat} {o : Ob} (h : i < M.length) : (M.set i o)[i]? = some o := List.getElem?_set_self h
theorem St.set0 {A0 A1 B : List Int} {p : Int} {M : List Ob} (h : St A0 A1 p M) : St B A1 p (M.set 1 (il B)) := ⟨by rw [List.getElem?_set_ne (by decide)]; exact h.d, set_at (by have := h.len; omega), by rw [List.getElem?_set_ne (by decide)]; exact h.b⟩
theorem St.set1 {A0 A1 B : List Int} {p : Int} {M : List Ob} (h : St A0 A1 p M) : St A0 B p (M.set 2 (il B)) := ⟨by rw [List.getElem?_set_ne (by decide)]; exact h.d, by rw [List.getElem?_set_ne (by decide)]; exact h.a, set_at (by have := h.len; omega)⟩
theorem St.setp {A0 A1 : List Int} {p q : Int} {M : List Ob} (h : St A0 A1 p M) : St A0 A1 q (M.set 0 (dsk q)) := ⟨set_at (by have := h.len; omega), by rw [List.getElem?_set_ne (by decide)]; exact h.a, by rw [List.getElem?_set_ne (by decide)]; exact h.b⟩
def ar (k : Nat) (A0 A1 : List Int) : List Int := if k = 0 then A0 else A1
theorem St.ar {A0 A1 : List Int} {p : Int} {M : List Ob} (h : St A0 A1 p M) {k : Nat} (hk : k < 2) : M[k + 1]? = some (il (LawP.ar k A0 A1)) := by
  match k, hk with
  | 0, _ => exact h.a
  | 1, _ => exact h.b
theorem at_ar {k : Nat} (hk : k < 2) : atIx [D.ref 1, D.ref 2] (k : Int) = some (D.ref (k + 1)) := by
  match k, hk with
  | 0, _ => rfl
  | 1, _ => rfl
def up (k : Nat) (B A0 A1 : List Int) : List Int × List Int := if k = 0 then (B, A1) else (A0, B)
theorem St.setk {A0 A1 B : List Int} {p : Int} {M : List Ob} (h : St A0 A1 p M) {k : Nat} (hk : k < 2) : St (up k B A0 A1).1 (up k B A0 A1).2 p (M.set (k + 1) (il B)) := by
  match k, hk with
  | 0, _ => exact h.set0
  | 1, _ => exact h.set1
section
variable {n j : Nat} {A0 A1 : List Int} {p : Int} {M : List Ob}
theorem area_ok (h : St A0 A1 p M) {k : Nat} (hk : k < 2) : Wp (evCall prog (n + 1) "Disk.area" [.ref 0, .int k]) M fun r M' => r = .ref M.length ∧ M' = M ++ [il (ar k A0 A1)] := by
  refine Wp.call (fd := f_Disk__area) rfl ⟨Nat.le_of_ble_eq_true rfl, Nat.le_of_ble_eq_true rfl, Nat.le_of_ble_eq_true rfl⟩ ?_
  refine Wp.attr h.d rfl rfl ?_
  refine Wp.opt (at_ar hk) ?_
  refine Wp.bind (Wp.bind (Wp.get (h.ar hk) (Wp.pure (Wp.new ?_))))
  exact ⟨rfl, rfl⟩
theorem root_ok (h : St A0 A1 p M) : Wp (evCall prog (n + 1) "Disk.root" [.ref 0]) M fun r M' => r = .int p ∧ M' = M := by
  refine Wp.call (fd := f_Disk__root) rfl ⟨Nat.le_of_ble_eq_true rfl, Nat.le_of_ble_eq_true rfl, Nat.le_of_ble_eq_true rfl⟩ ?_
  refine Wp.attr h.d rfl rfl ?_
  exact ⟨rfl, rfl⟩
theorem len_l {a : Nat} {xs : List Int} {Q : Post} (e : M[a]? = some (il xs)) (h : Q (.int xs.length) M) : Wp (blt "len" [.ref a]) M Q := by
  refine Wp.bind (Wp.get e (Wp.pure ?_))
  rw [List.length_map]; exact h
theorem clear_ok (h : St A0 A1 p M) {k : Nat} (hk : k < 2) (l : Nat) (hl : (ar k A0 A1).length < 1000) : Wp (evCall prog (n + 1) "Disk.clear" [.ref 0, .int k, .int l]) M fun r M' => r = .int ((l - (ar k A0 A1).length : Nat) : Int) ∧ St (up k ((ar k A0 A1).take ((ar k A0 A1).length - l)) A0 A1).1 (up k ((ar k A0 A1).take ((ar k A0 A1).length - l)) A0 A1).2 p M' ∧ Fr M M' := by
  refine Wp.call (fd := f_Disk__clear) rfl ⟨Nat.le_of_ble_eq_true rfl, Nat.le_of_ble_eq_true rfl, Nat.le_of_ble_eq_true rfl⟩ ?_
  refine Wp.attr h.d rfl rfl ?_
  refine Wp.opt (at_ar hk) ?_
  let I : Nat → Env → List Ob → Prop := fun j ρ M' => ∃ (B : List Int) (l' : Nat), j = B.length ∧ ρ = [some (.ref 0), some (.int k), some (.int l'), some (.ref (k + 1))] ∧ St (up k B A0 A1).1 (up k B A0 A1).2 p M' ∧ Fr M M' ∧ B.take (B.length - l') = (ar k A0 A1).take ((ar k A0 A1).length - l) ∧ l' - B.length = l - (ar k A0 A1).length ∧ B.length ≤ (ar k A0 A1).length
  have hs : St (up k (ar k A0 A1) A0 A1).1 (up k (ar k A0 A1) A0 A1).2 p M := by
    match k, hk with
    | 0, _ => exact h
    | 1, _ => exact h
  refine Wp.while I (ar k A0 A1).length (Nat.lt_trans hl (by decide)) ⟨_, l, rfl, rfl, hs, Fr.refl, rfl, rfl, Nat.le_refl _⟩ ?_
  rintro j ρ M1 ⟨B, l', rfl, rfl, st, fr, e1, e2, e3⟩
  have hB : M1[k + 1]? = some (il B) := by
    have := st.ar hk
    match k, hk, this with
    | 0, _, this => exact this
    | 1, _, this => exact this
  have fin : (B.length = 0 ∨ l' = 0) → St (up k B A0 A1).1 (up k B A0 A1).2 p M1 → (D.int (l' : Int) = .int ((l - (ar k A0 A1).length : Nat) : Int) ∧ St (up k ((ar k A0 A1).take ((ar k A0 A1).length - l)) A0 A1).1 (up k ((ar k A0 A1).take ((ar k A0 A1).length - l)) A0 A1).2 p M1 ∧ Fr M M1) := by
    intro hz st
    have e4 : B.take (B.length - l') = B := by
      rcases hz with hz | hz
      · have : B = [] := List.length_eq_zero_iff.mp hz
        subst this; simp
      · subst hz; simp
    rw [← e1, e4]
    refine ⟨?_, st, fr⟩
    rw [← e2]
    rcases hz with hz | hz
    · rw [hz]; simp
    · subst hz; simp
  refine len_l hB ?_
  refine Wp.gtI ?_
  refine ⟨fun c1 => ?_, fun c1 => ?_⟩
  · refine Wp.gtI ?_
    refine Wp.pure ?_
    refine ⟨fun c2 => ?_, fun c2 => ?_⟩
    · have d1 : 0 < B.length := by have := of_decide_eq_true c1; omega
      have d2 : 0 < l' := by have := of_decide_eq_true c2; omega
      refine Wp.metL rfl ?_
      refine ⟨k + 1, _, rfl, hB, ?_⟩
      refine ⟨_, hB, ?_⟩
      have hlast : (B.map D.int).getLast? = some (D.int (B.getLast (by intro h; subst h; simp at d1))) := by
        rw [List.getLast?_map, List.getLast?_eq_some_getLast (by intro h; subst h; simp at d1)]; rfl
      show Wp (match (B.map D.int).getLast? with
        | some d => do
          CM.put (k + 1) (.lst (B.map D.int).dropLast)
          pure d
        | none => CM.fail) M1 _
      rw [hlast]
      refine Wp.bind (Wp.put (List.getElem?_eq_some_iff.mp hB).1 (Wp.pure ?_))
      refine ⟨B.length - 1, by omega, B.dropLast, l' - 1, by simp, ?_, ?_, ?_, ?_, ?_, ?_⟩
      · have : ((l' : Int) - 1) = ((l' - 1 : Nat) : Int) := by omega
        rw [this]
      · have e5 : Ob.lst (B.map D.int).dropLast = il B.dropLast := by simp [il, List.map_dropLast]
        rw [e5]
        have := st.setk hk (B := B.dropLast)
        match k, hk, this with
        | 0, _, this => exact this
        | 1, _, this => exact this
      · exact fr.trans (Fr.set (by omega))
      · rw [← e1, List.dropLast_eq_take, List.take_take, List.length_take]
        congr 1
        omega
      · rw [← e2, List.length_dropLast]; omega
      · rw [List.length_dropLast]; omega
    · have d2 : l' = 0 := by have := of_decide_eq_false c2; omega
      exact fin (.inr d2) st
  · refine Wp.pure ⟨fun z => (by cases z), fun _ => ?_⟩
    have d2 : B.length = 0 := by have := of_decide_eq_false c1; omega
    exact fin (.inl d2) st
theorem fill_ok (h : St A0 A1 p M) {k : Nat} (hk : k < 2) (l : Nat) {ds : List Int} {j : Nat} (hj : 3 ≤ j) (hd : M[j]? = some (il ds)) (hl : (ar k A0 A1).length + ds.length < 1000) : Wp (evCall prog (n + 1) "Disk.fill" [.ref 0, .int k, .ref j, .int l]) M fun r M' => r = .int ((l - ds.length : Nat) : Int) ∧ St (up k (ar k A0 A1 ++ ds.take l) A0 A1).1 (up k (ar k A0 A1 ++ ds.take l) A0 A1).2 p M' ∧ Fr M M' := by
  refine Wp.call (fd := f_Disk__fill) rfl ⟨Nat.le_of_ble_eq_true rfl, Nat.le_of_ble_eq_true rfl, Nat.le_of_ble_eq_true rfl⟩ ?_
  refine Wp.attr h.d rfl rfl ?_
  refine Wp.opt (at_ar hk) ?_
  refine Wp.for ?_
  refine Wp.bind (m := ev prog (evCall prog n) _ (.loc 2)) (wE_ok ?_)
  refine Wp.bind (Wp.get hd (Wp.pure ?_))
  have main : ∀ (es : List Int) (B : List Int) (l' : Nat) (ρ5 : Option D) (M1 : List Ob), St (up k B A0 A1).1 (up k B A0 A1).2 p M1 → M1[j]? = some (il ds) → B.length + es.length < 1000 →
      Wp (forD ⟨ds.map D.int, some (j, il ds)⟩ (.loc 5) (fun ρ => exs prog (evCall prog n) ρ (.cons (.iff (.cmp .lt (.loc 3) (.cst (.int 1))) (.cons (.brk) .nil) .nil) (.cons (.exp (.met (.loc 4) "append" (.cons (.loc 5) .nil))) (.cons (.aug 3 .sub (.cst (.int 1))) .nil)))) (es.map D.int) [some (.ref 0), some (.int k), some (.ref j), some (.int l'), some (.ref (k + 1)), ρ5]) M1
        fun fl M' => ∃ ρ6, fl = .nx [some (.ref 0), some (.int k), some (.ref j), some (.int ((l' - es.length : Nat) : Int)), some (.ref (k + 1)), ρ6] ∧ St (up k (B ++ es.take l') A0 A1).1 (up k (B ++ es.take l') A0 A1).2 p M' ∧ Fr M1 M' := by
    intro es
    induction es with
    | nil =>
      intro B l' ρ5 M1 st hd1 hb
      refine Wp.forN (decide_eq_true hd1) ⟨ρ5, by simp, by simpa using st, Fr.refl⟩
    | cons e es ih =>
      intro B l' ρ5 M1 st hd1 hb
      refine Wp.forC (decide_eq_true hd1) ?_
      refine wSs_ok ?_
      refine Wp.ltI ?_
      refine Wp.pure ⟨fun c => ?_, fun c => ?_⟩
      · have d : l' = 0 := by have := of_decide_eq_true c; omega
        subst d
        exact ⟨some (.int e), by simp, by simpa using st, Fr.refl⟩
      · have d : 1 ≤ l' := by have := of_decide_eq_false c; omega
        have hB : M1[k + 1]? = some (il B) := by
          have := st.ar hk
          match k, hk, this with
          | 0, _, this => exact this
          | 1, _, this => exact this
        refine Wp.metL rfl ⟨k + 1, _, rfl, hB, _, hB, ?_⟩
        refine Wp.bind (Wp.ask (by simp only [List.length_map]; simp only [List.length_cons] at hb; unfold lim; omega) (Wp.bind (Wp.put (List.getElem?_eq_some_iff.mp hB).1 (Wp.pure ?_))))
        have e5 : Ob.lst (B.map D.int ++ [D.int e]) = il (B ++ [e]) := by simp [il]
        rw [e5]
        have st2 : St (up k (B ++ [e]) A0 A1).1 (up k (B ++ [e]) A0 A1).2 p (M1.set (k + 1) (il (B ++ [e]))) := by
          have := st.setk hk (B := B ++ [e])
          match k, hk, this with
          | 0, _, this => exact this
          | 1, _, this => exact this
        have hd2 : (M1.set (k + 1) (il (B ++ [e])))[j]? = some (il ds) := Fr.set (by omega) j hj _ hd1
        have e6 : ((l' : Int) - 1) = ((l' - 1 : Nat) : Int) := by omega
        have := ih (B ++ [e]) (l' - 1) (some (.int e)) _ st2 hd2 (by simp only [List.length_append, List.length_cons, List.length_nil] at hb ⊢; omega)
        rw [← e6] at this
        refine this.mono fun fl M' z => ?_
        obtain ⟨ρ6, rfl, s6, f6⟩ := z
        refine ⟨ρ6, ?_, ?_, (Fr.set (by omega)).trans f6⟩
        · have : l' - 1 - es.length = l' - (e :: es).length := by simp only [List.length_cons]; omega
          rw [this]
        · have : B ++ [e] ++ es.take (l' - 1) = B ++ (e :: es).take l' := by
            obtain ⟨m, rfl⟩ : ∃ m, l' = m + 1 := ⟨l' - 1, by omega⟩
            simp
          rw [← this]; exact s6
  have hs : St (up k (ar k A0 A1) A0 A1).1 (up k (ar k A0 A1) A0 A1).2 p M := by
    match k, hk with
    | 0, _ => exact h
    | 1, _ => exact h
  refine (main ds (ar k A0 A1) l none M hs hd hl).mono fun fl M' z => ?_
  obtain ⟨ρ6, rfl, s6, f6⟩ := z
  exact ⟨rfl, s6, f6⟩
theorem turn_ok (h : St A0 A1 p M) (v : Int) (l : Nat) : Wp (evCall prog (n + 1) "Disk.turn" [.ref 0, .int v, .int l]) M fun r M' => r = .int ((l - 1 : Nat) : Int) ∧ St A0 A1 (if 0 < l then v else p) M' ∧ Fr M M' := by
  refine Wp.call (fd := f_Disk__turn) rfl ⟨Nat.le_of_ble_eq_true rfl, Nat.le_of_ble_eq_true rfl, Nat.le_of_ble_eq_true rfl⟩ ?_
  refine Wp.gtI ?_
  refine Wp.pure ⟨fun c => ?_, fun c => ?_⟩
  · have d : 0 < l := by have := of_decide_eq_true c; omega
    refine Wp.setAttr h.d rfl (by show 2 < 100; decide) ?_
    rw [if_pos d]
    have e6 : ((l : Int) - 1) = ((l - 1 : Nat) : Int) := by omega
    refine ⟨?_, h.setp, Fr.set (by decide)⟩
    rw [e6]
  · have d : l = 0 := by have := of_decide_eq_false c; omega
    subst d
    exact ⟨rfl, h, Fr.refl⟩
def stl (d A0 : List Int) (p : Int) (l : Nat) : List Int × Int × Nat :=
  (A0.take (A0.length - l) ++ d.take (l - A0.length), if 0 < l - A0.length - d.length then 0 else p, l - A0.length - d.length - 1)
theorem settle_ok (h : St A0 A1 p M) (l : Nat) {ds : List Int} {j : Nat} (hj : 3 ≤ j) (hd : M[j]? = some (il ds)) (hl : A0.length + ds.length < 900) : Wp (evCall prog (n + 2) "Disk.settle" [.ref 0, .ref j, .int l]) M fun r M' => r = .int ((stl ds A0 p l).2.2 : Int) ∧ St (stl ds A0 p l).1 A1 (stl ds A0 p l).2.1 M' ∧ Fr M M' := by
  refine Wp.call (fd := f_Disk__settle) rfl ⟨Nat.le_of_ble_eq_true rfl, Nat.le_of_ble_eq_true rfl, Nat.le_of_ble_eq_true rfl⟩ ?_
  refine Wp.metI ⟨0, _, _, rfl, h.d, rfl, rfl, ?_⟩
  refine (clear_ok (n := n) h (k := 0) (by decide) l (by show A0.length < 1000; omega)).mono fun r M1 z => ?_
  obtain ⟨rfl, s1, f1⟩ := z
  refine Wp.metI ⟨0, _, _, rfl, s1.d, rfl, rfl, ?_⟩
  refine (fill_ok (n := n) s1 (k := 0) (by decide) (l - A0.length) hj (f1 j hj _ hd) (by show (A0.take (A0.length - l)).length + ds.length < 1000; rw [List.length_take]; omega)).mono fun r M2 z => ?_
  obtain ⟨rfl, s2, f2⟩ := z
  refine Wp.metI ⟨0, _, _, rfl, s2.d, rfl, rfl, ?_⟩
  refine (turn_ok (n := n) s2 0 (l - A0.length - ds.length)).mono fun r M3 z => ?_
  obtain ⟨rfl, s3, f3⟩ := z
  exact ⟨rfl, s3, (f1.trans f2).trans f3⟩
def stp (d A0 A1 : List Int) (p : Int) : Nat := (if p = 1 then A0.length + A1.length + 1 else 0) + A1.length + d.length + 1 + (if p = 1 then A1.length else A0.length) + d.length + 1 + d.length
theorem steps_ok (h : St A0 A1 p M) {ds : List Int} {j : Nat} (hd : M[j]? = some (il ds)) : Wp (evCall prog (n + 1) "Disk.steps" [.ref 0, .ref j]) M fun r M' => r = .int (stp ds A0 A1 p : Int) ∧ M' = M := by
  refine Wp.call (fd := f_Disk__steps) rfl ⟨Nat.le_of_ble_eq_true rfl, Nat.le_of_ble_eq_true rfl, Nat.le_of_ble_eq_true rfl⟩ ?_
  refine Wp.attr h.d rfl rfl (Wp.opt (a := D.ref 1) rfl (len_l h.a ?_))
  refine Wp.attr h.d rfl rfl (Wp.opt (a := D.ref 2) rfl (len_l h.b ?_))
  refine Wp.attr h.d rfl rfl (Wp.eqI (Wp.pure ⟨fun c => ?_, fun c => ?_⟩))
  · have d : p = 1 := of_decide_eq_true c
    refine Wp.pure (Wp.pure ?_)
    refine Wp.pure (len_l hd (Wp.pure (Wp.pure (Wp.pure (len_l hd (Wp.pure (Wp.pure (len_l hd (Wp.pure ⟨?_, rfl⟩)))))))))
    unfold stp
    rw [if_pos d, if_pos d]
    congr 1
  · have d : ¬ p = 1 := of_decide_eq_false c
    refine Wp.pure (len_l hd (Wp.pure (Wp.pure (Wp.pure (len_l hd (Wp.pure (Wp.pure (len_l hd (Wp.pure ⟨?_, rfl⟩)))))))))
    unfold stp
    rw [if_neg d, if_neg d]
    congr 1
def wr1 (A0 A1 : List Int) (p : Int) (l : Nat) : List Int × Int × Nat := if p = 1 then stl A1 A0 p l else (A0, p, l)
def wr2 (d A1 : List Int) (p : Int) (l : Nat) : List Int × Int × Nat :=
  (A1.take (A1.length - l) ++ d.take (l - A1.length), if 0 < l - A1.length - d.length then 1 else p, l - A1.length - d.length - 1)
def wr (d A0 A1 : List Int) (p : Int) (l : Nat) : List Int × List Int × Int :=
  let a := wr1 A0 A1 p l
  let b := wr2 d A1 a.2.1 a.2.2
  let c := stl d a.1 b.2.1 b.2.2
  (c.1, b.1.take (b.1.length - c.2.2), c.2.1)
def wt2 : CSs := match f_Disk__write.body with
  | .cons _ (.cons _ (.cons _ t)) => t
  | _ => .nil
def wt1 : CSs := match f_Disk__write.body with
  | .cons _ (.cons _ t) => t
  | _ => .nil
abbrev fend (Q : Post) : PostF := fun fl M' => match fl with
  | .rt d => Q d M'
  | .nx _ => Q .non M'
  | _ => False
theorem wt2_ok {A0 A1 ds : List Int} {p : Int} {M : List Ob} (h : St A0 A1 p M) {lm : D} {m l0 l : Nat} {j : Nat} (hlm : lm = .non ∧ m ≤ l0 ∨ lm = .int l0) (hj : 3 ≤ j) (hd : M[j]? = some (il ds)) (h0 : A0.length < 200) (h1 : A1.length < 100) (h2 : ds.length < 100) {Q : Post}
    (k : ∀ M', St (stl ds A0 (wr2 ds A1 p l).2.1 (wr2 ds A1 p l).2.2).1 ((wr2 ds A1 p l).1.take ((wr2 ds A1 p l).1.length - (stl ds A0 (wr2 ds A1 p l).2.1 (wr2 ds A1 p l).2.2).2.2)) (stl ds A0 (wr2 ds A1 p l).2.1 (wr2 ds A1 p l).2.2).2.1 M' → Fr M M' → Q (.bl (decide (m ≤ l0))) M') :
    wSs prog (evCall prog (n + 2)) [some (.ref 0), some (.ref j), some lm, some (.int m), some (.int l)] wt2 M (fend Q) := by
  refine Wp.metI ⟨0, _, _, rfl, h.d, rfl, rfl, ?_⟩
  refine (clear_ok (n := n + 1) h (k := 1) (by decide) l (by show A1.length < 1000; omega)).mono fun r M1 z => ?_
  obtain ⟨rfl, s1, f1⟩ := z
  refine Wp.metI ⟨0, _, _, rfl, s1.d, rfl, rfl, ?_⟩
  refine (fill_ok (n := n + 1) s1 (k := 1) (by decide) (l - A1.length) hj (f1 j hj _ hd) (by show (A1.take (A1.length - l)).length + ds.length < 1000; rw [List.length_take]; omega)).mono fun r M2 z => ?_
  obtain ⟨rfl, s2, f2⟩ := z
  have f12 := f1.trans f2
  refine Wp.metI ⟨0, _, _, rfl, s2.d, rfl, rfl, ?_⟩
  refine (turn_ok (n := n + 1) s2 1 (l - A1.length - ds.length)).mono fun r M3 z => ?_
  obtain ⟨rfl, s3, f3⟩ := z
  have f13 := f12.trans f3
  refine Wp.metI ⟨0, _, _, rfl, s3.d, rfl, rfl, ?_⟩
  refine (settle_ok (n := n) s3 (l - A1.length - ds.length - 1) hj (f13 j hj _ hd) (by show A0.length + ds.length < 900; omega)).mono fun r M4 z => ?_
  obtain ⟨rfl, s4, f4⟩ := z
  have f14 := f13.trans f4
  refine Wp.metI ⟨0, _, _, rfl, s4.d, rfl, rfl, ?_⟩
  refine (clear_ok (n := n + 1) s4 (k := 1) (by decide) _ (by show (A1.take (A1.length - l) ++ ds.take (l - A1.length)).length < 1000; rw [List.length_append, List.length_take, List.length_take]; omega)).mono fun r M5 z => ?_
  obtain ⟨rfl, s5, f5⟩ := z
  have f15 := f14.trans f5
  refine Wp.pure ⟨fun c => ?_, fun c => ?_⟩
  · rcases hlm with ⟨rfl, hm⟩ | rfl
    · have := k M5 s5 f15
      rw [decide_eq_true hm] at this
      exact this
    · exact absurd (of_decide_eq_true c) (by intro h; cases h)
  · rcases hlm with ⟨rfl, hm⟩ | rfl
    · exact absurd (of_decide_eq_false c) (by simp)
    · refine Wp.geI ?_
      have e : decide ((m : Int) ≤ (l0 : Int)) = decide (m ≤ l0) := decide_eq_decide.mpr (by omega)
      rw [e]
      exact k M5 s5 f15
theorem wt1_ok {A0 A1 ds : List Int} {p : Int} {M : List Ob} (h : St A0 A1 p M) {lm : D} {m l : Nat} {j : Nat} (hlm : lm = .non ∧ m ≤ l ∨ lm = .int l) (hj : 3 ≤ j) (hd : M[j]? = some (il ds)) (h0 : A0.length < 100) (h1 : A1.length < 100) (h2 : ds.length < 100) {Q : Post}
    (k : ∀ M', St (wr ds A0 A1 p l).1 (wr ds A0 A1 p l).2.1 (wr ds A0 A1 p l).2.2 M' → Fr M M' → Q (.bl (decide (m ≤ l))) M') :
    wSs prog (evCall prog (n + 2)) [some (.ref 0), some (.ref j), some lm, some (.int m), some (.int l)] wt1 M (fend Q) := by
  refine Wp.attr h.d rfl rfl (Wp.eqI (Wp.pure ⟨fun c => ?_, fun c => ?_⟩))
  · have d : p = 1 := of_decide_eq_true c
    refine Wp.metI ⟨0, _, _, rfl, h.d, rfl, rfl, ?_⟩
    refine Wp.metI ⟨0, _, _, rfl, h.d, rfl, rfl, ?_⟩
    refine (area_ok (n := n + 1) h (k := 1) (by decide)).mono fun r M1 z => ?_
    obtain ⟨rfl, rfl⟩ := z
    refine (settle_ok (n := n) (h.app (N := [il A1])) l (ds := A1) h.len (by show (M ++ [il A1])[M.length]? = _; simp) (by omega)).mono fun r M2 z => ?_
    obtain ⟨rfl, s2, f2⟩ := z
    have f12 : Fr M M2 := Fr.app.trans f2
    refine wt2_ok s2 hlm hj (f12 j hj _ hd) ?_ h1 h2 fun M' s f => k M' ?_ (f12.trans f)
    · show (A0.take (A0.length - l) ++ A1.take (l - A0.length)).length < 200
      rw [List.length_append, List.length_take, List.length_take]; omega
    · unfold wr wr1
      rw [if_pos d]
      exact s
  · have d : ¬ p = 1 := of_decide_eq_false c
    refine wt2_ok h hlm hj hd (by omega) h1 h2 fun M' s f => k M' ?_ f
    unfold wr wr1
    rw [if_neg d]
    exact s
theorem write_ok {A0 A1 ds : List Int} {p : Int} {M : List Ob} (h : St A0 A1 p M) {lm : D} {l : Nat} (hlm : lm = .non ∧ l = stp ds A0 A1 p ∨ lm = .int l) {as : List D} (has : as = [.ref 0, .ref j, lm] ∨ lm = .non ∧ as = [.ref 0, .ref j]) (hj : 3 ≤ j) (hd : M[j]? = some (il ds)) (h0 : A0.length < 100) (h1 : A1.length < 100) (h2 : ds.length < 100) : Wp (evCall prog (n + 3) "Disk.write" as) M fun r M' => r = .bl (decide (stp ds A0 A1 p ≤ l)) ∧ St (wr ds A0 A1 p l).1 (wr ds A0 A1 p l).2.1 (wr ds A0 A1 p l).2.2 M' ∧ Fr M M' := by
  have main : wSs prog (evCall prog (n + 2)) [some (.ref 0), some (.ref j), some lm, none, none] f_Disk__write.body M (fend fun r M' => r = .bl (decide (stp ds A0 A1 p ≤ l)) ∧ St (wr ds A0 A1 p l).1 (wr ds A0 A1 p l).2.1 (wr ds A0 A1 p l).2.2 M' ∧ Fr M M') := by
    refine Wp.metI ⟨0, _, _, rfl, h.d, rfl, rfl, ?_⟩
    refine (steps_ok (n := n + 1) h hd).mono fun r M1 z => ?_
    obtain ⟨rfl, rfl⟩ := z
    refine Wp.pure (Wp.pure ⟨fun c => ?_, fun c => ?_⟩)
    · rcases hlm with ⟨rfl, rfl⟩ | rfl
      · exact wt1_ok h (.inl ⟨rfl, Nat.le_refl _⟩) hj hd h0 h1 h2 fun M' s f => ⟨rfl, s, f⟩
      · exact absurd (of_decide_eq_true c) (by intro h; cases h)
    · rcases hlm with ⟨rfl, rfl⟩ | rfl
      · exact absurd (of_decide_eq_false c) (by simp)
      · exact wt1_ok h (.inr rfl) hj hd h0 h1 h2 fun M' s f => ⟨rfl, s, f⟩
  rcases has with rfl | ⟨rfl, rfl⟩
  · exact Wp.call (fd := f_Disk__write) rfl ⟨Nat.le_of_ble_eq_true rfl, Nat.le_of_ble_eq_true rfl, Nat.le_of_ble_eq_true rfl⟩ main
  · exact Wp.call (fd := f_Disk__write) rfl ⟨Nat.le_of_ble_eq_true rfl, Nat.le_of_ble_eq_true rfl, Nat.le_of_ble_eq_true rfl⟩ main
theorem recover_ok {A0 A1 : List Int} {p : Int} {M : List Ob} (h : St A0 A1 p M) (h0 : A0.length < 100) (h1 : A1.length < 100) : Wp (evCall prog (n + 2) "Disk.recover" [.ref 0]) M fun r M' => ∃ a, r = .ref a ∧ 3 ≤ a ∧ M'[a]? = some (il (if p = 1 then A1 else A0)) ∧ St (if p = 1 then A1 else A0) [] (if p = 1 then 0 else p) M' ∧ Fr M M' := by
  refine Wp.call (fd := f_Disk__recover) rfl ⟨Nat.le_of_ble_eq_true rfl, Nat.le_of_ble_eq_true rfl, Nat.le_of_ble_eq_true rfl⟩ ?_
  have tail : ∀ {B0 B1 : List Int} {q : Int} {M1 : List Ob} {o : Option D}, St B0 B1 q M1 → B1.length < 100 → Fr M M1 → wSs prog (evCall prog (n + 1)) [some (.ref 0), o] (match f_Disk__recover.body with | .cons _ t => t | _ => .nil) M1 (fend fun r M' => ∃ a, r = .ref a ∧ 3 ≤ a ∧ M'[a]? = some (il B0) ∧ St B0 [] q M' ∧ Fr M M') := by
    intro B0 B1 q M1 o s hl f0
    refine Wp.metI ⟨0, _, _, rfl, s.d, rfl, rfl, ?_⟩
    refine Wp.attr s.d rfl rfl (Wp.opt (a := D.ref 2) rfl (len_l s.b ?_))
    refine (clear_ok (n := n) s (k := 1) (by decide) B1.length (by show B1.length < 1000; omega)).mono fun r M2 z => ?_
    obtain ⟨rfl, s2, f2⟩ := z
    have e : B1.take (B1.length - B1.length) = [] := by simp
    have s2' : St B0 [] q M2 := by rw [← e]; exact s2
    refine Wp.metI ⟨0, _, _, rfl, s2'.d, rfl, rfl, ?_⟩
    refine (area_ok (n := n) s2' (k := 0) (by decide)).mono fun r M3 z => ?_
    obtain ⟨rfl, rfl⟩ := z
    exact ⟨_, rfl, s2'.len, by simp [ar], s2'.app, (f0.trans f2).trans Fr.app⟩
  refine Wp.attr h.d rfl rfl (Wp.eqI (Wp.pure ⟨fun c => ?_, fun c => ?_⟩))
  · have d : p = 1 := of_decide_eq_true c
    refine Wp.attr h.d rfl rfl (Wp.opt (a := D.ref 2) rfl ?_)
    refine Wp.bind (Wp.bind (Wp.get h.b (Wp.pure (Wp.new ?_))))
    have s1 : St A0 A1 p (M ++ [il A1]) := h.app
    have hd1 : (M ++ [il A1])[M.length]? = some (il A1) := by simp
    refine Wp.metI ⟨0, _, _, rfl, s1.d, rfl, rfl, ?_⟩
    refine Wp.attr s1.d rfl rfl (Wp.opt (a := D.ref 1) rfl (len_l s1.a ?_))
    refine (clear_ok (n := n) s1 (k := 0) (by decide) A0.length (by show A0.length < 1000; omega)).mono fun r M2 z => ?_
    obtain ⟨rfl, s2, f2⟩ := z
    have e : A0.take (A0.length - A0.length) = [] := by simp
    have s2' : St [] A1 p M2 := by rw [← e]; exact s2
    have hd2 := f2 _ h.len _ hd1
    refine Wp.metI ⟨0, _, _, rfl, s2'.d, rfl, rfl, ?_⟩
    refine len_l hd2 ?_
    refine (fill_ok (n := n) s2' (k := 0) (by decide) A1.length h.len hd2 (by show 0 + A1.length < 1000; omega)).mono fun r M3 z => ?_
    obtain ⟨rfl, s3, f3⟩ := z
    have e2 : ([] : List Int) ++ A1.take A1.length = A1 := by simp
    have s3' : St A1 A1 p M3 := by
      have := s3
      simp only [up, ar, if_true, e2] at this
      exact this
    refine Wp.setAttr s3'.d rfl (by show 2 < 100; decide) ?_
    have s4 : St A1 A1 0 (M3.set 0 (dsk 0)) := s3'.setp
    have f4 : Fr M (M3.set 0 (dsk 0)) := ((Fr.app.trans f2).trans f3).trans (Fr.set (by decide))
    rw [if_pos d, if_pos d]
    exact tail (o := some (.ref M.length)) s4 h1 f4
  · have d : ¬ p = 1 := of_decide_eq_false c
    rw [if_neg d, if_neg d]
    exact tail h h1 Fr.refl
end
theorem stl_len (d A0 : List Int) (p : Int) (l m : Nat) (h0 : A0.length ≤ m) (h1 : d.length ≤ m) : (stl d A0 p l).1.length ≤ m := by
  unfold stl
  rw [List.length_append, List.length_take, List.length_take]
  omega
theorem wr2_len (d A0 : List Int) (p : Int) (l m : Nat) (h0 : A0.length ≤ m) (h1 : d.length ≤ m) : (wr2 d A0 p l).1.length ≤ m := by
  unfold wr2
  rw [List.length_append, List.length_take, List.length_take]
  omega
theorem wr_len (d A0 A1 : List Int) (p : Int) (l m : Nat) (h0 : A0.length ≤ m) (h1 : A1.length ≤ m) (h2 : d.length ≤ m) : (wr d A0 A1 p l).1.length ≤ m ∧ (wr d A0 A1 p l).2.1.length ≤ m := by
  have ha : (wr1 A0 A1 p l).1.length ≤ m := by
    unfold wr1
    split
    · exact stl_len _ _ _ _ _ h0 h1
    · exact h0
  refine ⟨stl_len d _ (wr2 d A1 (wr1 A0 A1 p l).2.1 (wr1 A0 A1 p l).2.2).2.1 _ m ha h2, ?_⟩
  unfold wr
  dsimp only
  rw [List.length_take]
  exact Nat.le_trans (Nat.min_le_right _ _) (wr2_len d A1 (wr1 A0 A1 p l).2.1 (wr1 A0 A1 p l).2.2 m h1 h2)
theorem take_all {A : List Int} {k : Nat} (h : A.length ≤ k) : A.take k = A := List.take_of_length_le h
theorem fill_full {A d : List Int} {l : Nat} (h : A.length + d.length ≤ l) : A.take (A.length - l) ++ d.take (l - A.length) = d := by
  rw [show A.length - l = 0 by omega, take_all (by omega : d.length ≤ l - A.length)]; simp
theorem fill_none (A d : List Int) : A.take (A.length - 0) ++ d.take (0 - A.length) = A := by
  rw [show 0 - A.length = 0 by omega]; simp
theorem wr_zero (d A0 A1 : List Int) (l : Nat) : let b := wr2 d A1 0 l; let c := stl d A0 b.2.1 b.2.2
    (c.2.1 = 0 ∨ c.2.1 = 1) ∧ (c.2.1 = 0 → c.1 = if A1.length + d.length + 1 ≤ l then d else A0) ∧ (c.2.1 = 1 → b.1.take (b.1.length - c.2.2) = if A1.length + d.length + 1 ≤ l then d else A0) := by
  intro b c
  by_cases h : A1.length + d.length + 1 ≤ l
  · have b1 : b.1 = d := fill_full (by omega)
    have b2 : b.2.1 = 1 := by show (if 0 < l - A1.length - d.length then (1 : Int) else 0) = 1; rw [if_pos (by omega)]
    rw [if_pos h]
    by_cases h2 : 0 < b.2.2 - A0.length - d.length
    · have c2 : c.2.1 = 0 := by show (if 0 < b.2.2 - A0.length - d.length then (0 : Int) else b.2.1) = 0; rw [if_pos h2]
      have c1 : c.1 = d := fill_full (by omega)
      refine ⟨.inl c2, fun _ => c1, fun z => ?_⟩
      rw [c2] at z; cases z
    · have c2 : c.2.1 = 1 := by show (if 0 < b.2.2 - A0.length - d.length then (0 : Int) else b.2.1) = 1; rw [if_neg h2, b2]
      have c3 : c.2.2 = 0 := by show b.2.2 - A0.length - d.length - 1 = 0; omega
      refine ⟨.inr c2, fun z => ?_, fun _ => ?_⟩
      · rw [c2] at z; cases z
      · rw [c3, b1]; simp
  · have b2 : b.2.1 = 0 := by show (if 0 < l - A1.length - d.length then (1 : Int) else 0) = 0; rw [if_neg (by omega)]
    have b3 : b.2.2 = 0 := by show l - A1.length - d.length - 1 = 0; omega
    rw [if_neg h]
    have c2 : c.2.1 = 0 := by show (if 0 < b.2.2 - A0.length - d.length then (0 : Int) else b.2.1) = 0; rw [if_neg (by omega), b2]
    have c1 : c.1 = A0 := by show A0.take (A0.length - b.2.2) ++ d.take (b.2.2 - A0.length) = A0; rw [b3]; exact fill_none _ _
    exact ⟨.inl c2, fun _ => c1, fun z => by rw [c2] at z; cases z⟩
def rootOf (d A0 A1 : List Int) (p : Int) : Nat := (if p = 1 then A0.length + A1.length + 1 else 0) + A1.length + d.length + 1
theorem wr_spec (d A0 A1 Du : List Int) (p : Int) (l : Nat) (hp : p = 0 ∨ p = 1) (h0 : p = 0 → A0 = Du) (h1 : p = 1 → A1 = Du) :
    ((wr d A0 A1 p l).2.2 = 0 ∨ (wr d A0 A1 p l).2.2 = 1) ∧ ((wr d A0 A1 p l).2.2 = 0 → (wr d A0 A1 p l).1 = if rootOf d A0 A1 p ≤ l then d else Du) ∧ ((wr d A0 A1 p l).2.2 = 1 → (wr d A0 A1 p l).2.1 = if rootOf d A0 A1 p ≤ l then d else Du) := by
  rcases hp with rfl | rfl
  · have := wr_zero d A0 A1 l
    have e : rootOf d A0 A1 0 = A1.length + d.length + 1 := by unfold rootOf; rw [if_neg (by decide)]; omega
    rw [e, ← h0 rfl]
    exact this
  · by_cases h : A0.length + A1.length + 1 ≤ l
    · have a1 : (wr1 A0 A1 1 l).1 = A1 := by
        unfold wr1; rw [if_pos rfl]; exact fill_full (by omega)
      have a2 : (wr1 A0 A1 1 l).2.1 = 0 := by
        unfold wr1; rw [if_pos rfl]; show (if 0 < l - A0.length - A1.length then (0 : Int) else 1) = 0; rw [if_pos (by omega)]
      have a3 : (wr1 A0 A1 1 l).2.2 = l - A0.length - A1.length - 1 := by unfold wr1; rw [if_pos rfl]; rfl
      have := wr_zero d A1 A1 (l - A0.length - A1.length - 1)
      have e : (rootOf d A0 A1 1 ≤ l) = (A1.length + d.length + 1 ≤ l - A0.length - A1.length - 1) := by
        unfold rootOf; rw [if_pos rfl]; apply propext; omega
      unfold wr
      dsimp only
      rw [a1, a2, a3]
      simp only [e, ← h1 rfl]
      exact this
    · have a2 : (wr1 A0 A1 1 l).2.1 = 1 := by
        unfold wr1; rw [if_pos rfl]; show (if 0 < l - A0.length - A1.length then (0 : Int) else 1) = 1; rw [if_neg (by omega)]
      have a3 : (wr1 A0 A1 1 l).2.2 = 0 := by unfold wr1; rw [if_pos rfl]; show l - A0.length - A1.length - 1 = 0; omega
      have e : ¬ rootOf d A0 A1 1 ≤ l := by unfold rootOf; rw [if_pos rfl]; omega
      rw [if_neg e]
      have b1 : (wr2 d A1 1 0).1 = A1 := fill_none _ _
      have b2 : (wr2 d A1 1 0).2.1 = 1 := by show (if 0 < 0 - A1.length - d.length then (1 : Int) else 1) = 1; split <;> rfl
      have b3 : (wr2 d A1 1 0).2.2 = 0 := by show 0 - A1.length - d.length - 1 = 0; omega
      have c2 : ∀ B, (stl d B 1 0).2.1 = 1 := fun B => by show (if 0 < 0 - B.length - d.length then (0 : Int) else 1) = 1; rw [if_neg (by omega)]
      have c3 : ∀ B, (stl d B 1 0).2.2 = 0 := fun B => by show 0 - B.length - d.length - 1 = 0; omega
      unfold wr
      dsimp only
      rw [a2, a3, b2, b3, c2, c3, b1]
      refine ⟨.inr rfl, fun z => (by cases z), fun _ => ?_⟩
      rw [← h1 rfl]; simp
end LawP
end
section
set_option linter.all false
set_option maxRecDepth 100000
set_option maxHeartbeats 400000
namespace LawP
open Sb
abbrev a3 {a b c d e : Nat} (h : Nat.ble a b = true) (h2 : Nat.ble b c = true) (h3 : Nat.ble d e = true) : a ≤ b ∧ b ≤ c ∧ d ≤ e := ⟨Nat.le_of_ble_eq_true h, Nat.le_of_ble_eq_true h2, Nat.le_of_ble_eq_true h3⟩
section
variable {n : Nat} {M : List Ob}
theorem mulR {i j : Int} {Q : Post} (h : -pow64 < j ∧ j < pow64) (q : Q (.int (i * j)) M) : Wp (bop .mul (.int i) (.int j)) M Q := .bind (.ask (.inr h) (.pure q))
theorem mulL {i j : Int} {Q : Post} (h : -pow64 < i ∧ i < pow64) (q : Q (.int (i * j)) M) : Wp (bop .mul (.int i) (.int j)) M Q := .bind (.ask (.inl h) (.pure q))
theorem modI {i j : Int} {Q : Post} (h : 0 < j) (q : Q (.int (i % j)) M) : Wp (bop .mod (.int i) (.int j)) M Q := .bind (.ask h (.pure q))
theorem fdivI {i j : Int} {Q : Post} (h : 0 < j ∧ j < 1073741824) (q : Q (.int (i / j)) M) : Wp (bop .fdiv (.int i) (.int j)) M Q := .bind (.ask h (.pure q))
theorem draw_ok (c : Int) {k m : Int} (hk : 0 ≤ k ∧ k < 1000) (hm : 0 < m) : Wp (evCall prog (n + 1) "_law_draw" [.int c, .int k, .int m]) M fun r M' => ∃ v, r = .int v ∧ 0 ≤ v ∧ v < m ∧ M' = M := by
  refine Wp.call (fd := f__law_draw) rfl ⟨Nat.le_of_ble_eq_true rfl, Nat.le_of_ble_eq_true rfl, Nat.le_of_ble_eq_true rfl⟩ ?_
  have hr : ∀ x : Int, 0 ≤ x % m ∧ x % m < m := fun x => ⟨Int.emod_nonneg _ (by omega), Int.emod_lt_of_pos _ hm⟩
  refine Wp.pure (Wp.pure (Wp.ltI (Wp.pure ⟨fun c1 => ?_, fun c1 => ?_⟩)))
  · refine mulR (by decide) (mulR (by decide) (Wp.pure (Wp.pure (Wp.pure (modI (by decide) ?_)))))
    refine mulR (by decide) (mulR (by decide) (Wp.pure (Wp.pure (Wp.pure (modI (by decide) ?_)))))
    exact Wp.pure (modI hm ⟨_, rfl, (hr _).1, (hr _).2, rfl⟩)
  · refine Wp.for ?_
    refine Wp.bind (m := ev prog (evCall prog n) _ (.cst (.int 0))) (Wp.pure ?_)
    refine Wp.bind (m := ev prog (evCall prog n) _ (.loc 1)) (wE_ok ?_)
    refine Wp.bind (Wp.askB ?_ (Wp.pure ?_))
    · simp [big62]; omega
    have main : ∀ (es : List Sb.D) (r : Int) (o : Option Sb.D), Wp (forD ⟨rangeD 0 k, none⟩ (.loc 4) (fun ρ => exs prog (evCall prog n) ρ (.cons (.asg (.loc 3) (.bin .fdiv (.loc 3) (.cst (.int 1000)))) .nil)) es [some (.int c), some (.int k), some (.int m), some (.int r), o]) M fun fl M' => ∃ r2 o2, fl = .nx [some (.int c), some (.int k), some (.int m), some (.int r2), o2] ∧ M' = M := by
      intro es
      induction es with
      | nil => intro r o; exact Wp.forN rfl ⟨r, o, rfl, rfl⟩
      | cons e es ih =>
        intro r o
        refine Wp.forC rfl ?_
        refine wSs_ok ?_
        exact fdivI (by decide) (ih _ _)
    refine (main _ _ _).mono fun fl M' z => ?_
    obtain ⟨r2, o2, rfl, rfl⟩ := z
    exact Wp.pure (modI (by decide) (modI hm ⟨_, rfl, (hr _).1, (hr _).2, rfl⟩))
theorem flag_ok (b : Bool) : Wp (evCall prog (n + 1) "_law_is_flag" [.bl b]) M fun r M' => r = .bl true ∧ M' = M := by
  refine Wp.call (fd := f__law_is_flag) rfl ⟨Nat.le_of_ble_eq_true rfl, Nat.le_of_ble_eq_true rfl, Nat.le_of_ble_eq_true rfl⟩ ?_
  refine Wp.pure ⟨fun c => ⟨rfl, rfl⟩, fun c => ?_⟩
  refine Wp.pure ⟨?_, rfl⟩
  cases b with
  | true => simp at c
  | false => rfl
theorem isint_ok (i : Int) : Wp (evCall prog (n + 1) "_law_is_integer" [.int i]) M fun r M' => r = .bl true ∧ M' = M := by
  refine Wp.call (fd := f__law_is_integer) rfl ⟨Nat.le_of_ble_eq_true rfl, Nat.le_of_ble_eq_true rfl, Nat.le_of_ble_eq_true rfl⟩ ?_
  refine ⟨true, rfl, ⟨fun _ => ?_, fun z => (by cases z)⟩⟩
  exact ⟨false, rfl, Wp.pure ⟨rfl, rfl⟩⟩
def byts (xs : List Int) : Prop := ∀ x ∈ xs, 0 ≤ x ∧ x ≤ 255
theorem bytes_ok {a : Nat} {xs : List Int} (h : M[a]? = some (il xs)) (hb : byts xs) : Wp (evCall prog (n + 2) "_law_is_bytes" [.ref a]) M fun r M' => r = .bl true ∧ M' = M := by
  refine Wp.call (fd := f__law_is_bytes) rfl ⟨Nat.le_of_ble_eq_true rfl, Nat.le_of_ble_eq_true rfl, Nat.le_of_ble_eq_true rfl⟩ ?_
  refine ⟨true, by show (match M[a]? with | some (.lst _) => _ | some (.frz _) => _ | some (.dic _ _) => _ | _ => none) = _; rw [h]; rfl, Wp.pure (Wp.pure ⟨fun z => (by cases z), fun _ => ?_⟩)⟩
  refine Wp.for ?_
  refine Wp.bind (m := ev prog (evCall prog (n + 1)) _ (.loc 0)) (wE_ok ?_)
  refine Wp.bind (Wp.get h (Wp.pure ?_))
  have main : ∀ (es : List Int) (o : Option Sb.D), byts es → Wp (forD ⟨xs.map D.int, some (a, il xs)⟩ (.loc 1) (fun ρ => exs prog (evCall prog (n + 1)) ρ (.cons (.iff (.or (.not (.call "_law_is_integer" (.cons (.loc 1) .nil))) (.not (.cmp2 .le .le (.cst (.int 0)) (.loc 1) (.cst (.int 255))))) (.cons (.ret (.cst (.bl false))) .nil) .nil) .nil)) (es.map D.int) [some (.ref a), o]) M fun fl M' => ∃ o2, fl = .nx [some (.ref a), o2] ∧ M' = M := by
    intro es
    induction es with
    | nil => intro o _; exact Wp.forN (decide_eq_true h) ⟨o, rfl, rfl⟩
    | cons e es ih =>
      intro o hb
      refine Wp.forC (decide_eq_true h) ?_
      refine wSs_ok ?_
      refine (isint_ok (n := n) e).mono fun r M' z => ?_
      obtain ⟨rfl, rfl⟩ := z
      obtain ⟨b1, b2⟩ := hb e (List.mem_cons_self ..)
      refine Wp.pure ⟨fun z => (by cases z), fun _ => ?_⟩
      refine Wp.leI ⟨fun _ => ?_, fun c => ?_⟩
      · refine Wp.leI (Wp.pure (Wp.pure ⟨fun c => ?_, fun _ => ?_⟩))
        · have : ¬ e ≤ 255 := by simpa using c
          omega
        · exact ih _ fun x hx => hb x (List.mem_cons_of_mem _ hx)
      · have := of_decide_eq_false c
        omega
  refine (main xs none hb).mono fun fl M' z => ?_
  obtain ⟨o2, rfl, rfl⟩ := z
  exact ⟨rfl, rfl⟩
theorem due_ok {a : Nat} {x y z s : Int} (h : M[a]? = some (.lst [.int x, .int y, .int z])) : Wp (evCall prog (n + 1) "_law_due_steps" [.ref a, .int s]) M fun r M' => r = .tup [.int ((if z = 1 then x + y + 1 else 0) + y + s + 1), .int ((if z = 1 then x + y + 1 else 0) + y + s + 1 + (if z = 1 then y else x) + s + 1 + s)] ∧ M' = M := by
  refine Wp.call (fd := f__law_due_steps) rfl ⟨Nat.le_of_ble_eq_true rfl, Nat.le_of_ble_eq_true rfl, Nat.le_of_ble_eq_true rfl⟩ ?_
  have g0 : ∀ {Q : Post}, Q (.int x) M → Wp (index (.ref a) (.int 0)) M Q := fun q => .bind (.get h (.opt (a := D.int x) rfl q))
  have g1 : ∀ {Q : Post}, Q (.int y) M → Wp (index (.ref a) (.int 1)) M Q := fun q => .bind (.get h (.opt (a := D.int y) rfl q))
  have g2 : ∀ {Q : Post}, Q (.int z) M → Wp (index (.ref a) (.int 2)) M Q := fun q => .bind (.get h (.opt (a := D.int z) rfl q))
  refine g0 (g2 (Wp.eqI (Wp.pure ⟨fun c => ?_, fun c => ?_⟩)))
  · have d : z = 1 := of_decide_eq_true c
    refine g0 (g1 (Wp.pure (Wp.pure (g1 (g1 (Wp.pure (Wp.pure (Wp.pure (Wp.pure (Wp.pure (Wp.pure (Wp.pure ⟨by show 2 ≤ lim; decide, ?_, rfl⟩))))))))))))
    rw [if_pos d, if_pos d]
  · have d : ¬ z = 1 := of_decide_eq_false c
    refine g1 (Wp.pure (Wp.pure (Wp.pure (Wp.pure (Wp.pure (Wp.pure (Wp.pure ⟨by show 2 ≤ lim; decide, ?_, rfl⟩)))))))
    rw [if_neg d, if_neg d]
theorem neB {a b : Bool} {Q : Bool → List Ob → Prop} (h : Q (!(a == b)) M) : Wp (cop .ne (.bl a) (.bl b)) M Q := Wp.ne (a := .bl a) (b := .bl b) rfl rfl (Nat.zero_le _) (Nat.zero_le _) h
theorem list_new {a : Nat} {xs : List Int} {Q : Post} (h : M[a]? = some (il xs)) (q : Q (.ref M.length) (M ++ [il xs])) : Wp (blt "list" [.ref a]) M Q := .bind (.bind (.get h (.pure (.new q))))
theorem at_new {o : Ob} : (M ++ [o])[M.length]? = some o := by simp
theorem max0 {L : Int} {Q : Post} (q : Q (.int (L.toNat : Int)) M) : Wp (blt "max" [.int 0, .int L]) M Q := by
  refine Wp.pure ?_
  have : (if L > 0 then L else 0) = (L.toNat : Int) := by split <;> omega
  rw [this]; exact q
theorem sizes_ok {A0 A1 : List Int} {p : Int} (h : St A0 A1 p M) : Wp (evCall prog (n + 2) "_law_area_sizes" [.ref 0]) M fun r M' => ∃ a, r = .ref a ∧ M'[a]? = some (.lst [.int A0.length, .int A1.length, .int p]) ∧ St A0 A1 p M' ∧ Fr M M' := by
  refine Wp.call (fd := f__law_area_sizes) rfl ⟨Nat.le_of_ble_eq_true rfl, Nat.le_of_ble_eq_true rfl, Nat.le_of_ble_eq_true rfl⟩ ?_
  refine Wp.metI ⟨0, _, _, rfl, h.d, rfl, rfl, ?_⟩
  refine (area_ok (n := n) h (k := 0) (by decide)).mono fun r M1 z => ?_
  obtain ⟨rfl, rfl⟩ := z
  refine len_l at_new ?_
  have h1 : St A0 A1 p (M ++ [il A0]) := h.app
  refine Wp.metI ⟨0, _, _, rfl, h1.d, rfl, rfl, ?_⟩
  refine (area_ok (n := n) h1 (k := 1) (by decide)).mono fun r M2 z => ?_
  obtain ⟨rfl, rfl⟩ := z
  refine len_l at_new ?_
  have h2 : St A0 A1 p (M ++ [il A0] ++ [il A1]) := h1.app
  refine Wp.metI ⟨0, _, _, rfl, h2.d, rfl, rfl, ?_⟩
  refine (root_ok (n := n) h2).mono fun r M3 z => ?_
  obtain ⟨rfl, rfl⟩ := z
  exact ⟨by show 3 ≤ lim; decide, _, rfl, at_new, h2.app, (Fr.app.trans Fr.app).trans Fr.app⟩
def wrt : CSs := match f__law_written.body with
  | .cons _ (.cons _ (.cons _ (.cons _ (.cons _ t)))) => t
  | _ => .nil
theorem wrt_ok {A0 A1 ds : List Int} {p : Int} {M0 : List Ob} (f0 : Fr M0 M) (h : St A0 A1 p M) {a j : Nat} {c : Int} (L : Int) (hj : 3 ≤ j) (hd : M[j]? = some (il ds)) (h0 : A0.length < 100) (h1 : A1.length < 100) (h2 : ds.length < 100) :
    wSs prog (evCall prog (n + 3)) [some (.ref 0), some (.ref a), some (.ref j), some (.int c), some (.int L), none, some (.int (rootOf ds A0 A1 p : Int)), some (.int (stp ds A0 A1 p : Int))] wrt M (fend fun r M' => ∃ l : Nat, r = .bl (decide (rootOf ds A0 A1 p ≤ l)) ∧ St (wr ds A0 A1 p l).1 (wr ds A0 A1 p l).2.1 (wr ds A0 A1 p l).2.2 M' ∧ Fr M0 M') := by
  refine Wp.metI ⟨0, _, _, rfl, h.d, rfl, rfl, ?_⟩
  refine list_new hd (max0 ?_)
  refine (write_ok (n := n) (j := M.length) (h.app (N := [il ds])) (lm := .int (L.toNat : Int)) (l := L.toNat) (.inr rfl) (.inl rfl) h.len at_new h0 h1 h2).mono fun r M1 z => ?_
  obtain ⟨rfl, s1, f1⟩ := z
  refine (flag_ok (n := n + 2) _).mono fun r M2 z => ?_
  obtain ⟨rfl, rfl⟩ := z
  refine Wp.pure ⟨fun z => (by cases z), fun _ => ?_⟩
  refine max0 (Wp.geI (neB (Wp.pure ⟨fun z => ?_, fun _ => ?_⟩)))
  · exfalso
    have e : decide ((stp ds A0 A1 p : Int) ≤ (L.toNat : Int)) = decide (stp ds A0 A1 p ≤ L.toNat) := decide_eq_decide.mpr (by omega)
    rw [e] at z
    simp at z
  · refine max0 (Wp.geI ⟨L.toNat, ?_, s1, f0.trans (Fr.app.trans f1)⟩)
    have e : decide ((rootOf ds A0 A1 p : Int) ≤ (L.toNat : Int)) = decide (rootOf ds A0 A1 p ≤ L.toNat) := decide_eq_decide.mpr (by omega)
    rw [e]
theorem written_ok {A0 A1 ds : List Int} {p : Int} (h : St A0 A1 p M) {a j : Nat} (c : Int) (ha : M[a]? = some (.lst [.int A0.length, .int A1.length, .int p])) (hj : 3 ≤ j) (hd : M[j]? = some (il ds)) (h0 : A0.length < 100) (h1 : A1.length < 100) (h2 : ds.length < 100) :
    Wp (evCall prog (n + 4) "_law_written" [.ref 0, .ref a, .ref j, .int c]) M fun r M' => ∃ l : Nat, r = .bl (decide (rootOf ds A0 A1 p ≤ l)) ∧ St (wr ds A0 A1 p l).1 (wr ds A0 A1 p l).2.1 (wr ds A0 A1 p l).2.2 M' ∧ Fr M M' := by
  refine Wp.call (fd := f__law_written) rfl ⟨Nat.le_of_ble_eq_true rfl, Nat.le_of_ble_eq_true rfl, Nat.le_of_ble_eq_true rfl⟩ ?_
  refine len_l hd ?_
  refine (due_ok (n := n + 2) ha).mono fun r M1 z => ?_
  obtain ⟨rfl, rfl⟩ := z
  have er : ((if p = 1 then (A0.length : Int) + A1.length + 1 else 0) + A1.length + ds.length + 1) = (rootOf ds A0 A1 p : Int) := by
    unfold rootOf
    by_cases e : p = 1
    · rw [if_pos e, if_pos e]; omega
    · rw [if_neg e, if_neg e]; omega
  have et : ((if p = 1 then (A0.length : Int) + A1.length + 1 else 0) + A1.length + ds.length + 1 + (if p = 1 then (A1.length : Int) else A0.length) + ds.length + 1 + ds.length) = (stp ds A0 A1 p : Int) := by
    unfold stp
    by_cases e : p = 1
    · rw [if_pos e, if_pos e, if_pos e, if_pos e]; omega
    · rw [if_neg e, if_neg e, if_neg e, if_neg e]; omega
  rw [et, er]
  refine Wp.metI ⟨0, _, _, rfl, h.d, rfl, rfl, ?_⟩
  refine list_new hd ?_
  refine (steps_ok (n := n + 2) (h.app (N := [il ds])) at_new).mono fun r M2 z => ?_
  obtain ⟨rfl, rfl⟩ := z
  have hN : St A0 A1 p (M1 ++ [il ds]) := h.app
  have hdN : (M1 ++ [il ds])[j]? = some (il ds) := app_get hd
  refine Wp.neI (Wp.pure ⟨fun z => by simp at z, fun _ => ?_⟩)
  refine (draw_ok (n := n + 2) c (k := 3) (m := 1000) (by decide) (by decide)).mono fun r M3 z => ?_
  obtain ⟨v1, rfl, _, _, rfl⟩ := z
  refine (draw_ok (n := n + 2) c (k := 4) (m := 2) (by decide) (by decide)).mono fun r M4 z => ?_
  obtain ⟨v2, rfl, _, _, rfl⟩ := z
  refine mulL (by decide) (Wp.pure ?_)
  refine Wp.pure (Wp.pure (modI (by omega) ?_))
  refine (draw_ok (n := n + 2) c (k := 5) (m := 4) (by decide) (by decide)).mono fun r M5 z => ?_
  obtain ⟨v3, rfl, _, _, rfl⟩ := z
  have tail : ∀ (L : Int) (M6 : List Ob), St A0 A1 p M6 → M6[j]? = some (il ds) → Fr M1 M6 → wSs prog (evCall prog (n + 3)) [some (.ref 0), some (.ref a), some (.ref j), some (.int c), some (.int L), none, some (.int (rootOf ds A0 A1 p : Int)), some (.int (stp ds A0 A1 p : Int))] wrt M6 (fend fun r M' => ∃ l : Nat, r = .bl (decide (rootOf ds A0 A1 p ≤ l)) ∧ St (wr ds A0 A1 p l).1 (wr ds A0 A1 p l).2.1 (wr ds A0 A1 p l).2.2 M' ∧ Fr M1 M') := by
    intro L M6 h6 hd6 f6
    exact wrt_ok f6 h6 L hj hd6 h0 h1 h2
  refine Wp.eqI (Wp.pure ⟨fun z => ?_, fun z => ?_⟩)
  · refine Wp.pure (Wp.pure ?_)
    refine ⟨by show 4 ≤ lim; decide, ?_⟩
    refine (draw_ok (n := n + 2) c (k := 6) (m := 4) (by decide) (by decide)).mono fun r M7 z => ?_
    obtain ⟨v4, rfl, g1, g2, rfl⟩ := z
    obtain ⟨L, hL⟩ : ∃ L, atIx [D.int ((rootOf ds A0 A1 p : Int) - 1), D.int (rootOf ds A0 A1 p : Int), D.int (stp ds A0 A1 p : Int), D.int ((stp ds A0 A1 p : Int) - 1)] v4 = some (D.int L) := by
      have : v4 = 0 ∨ v4 = 1 ∨ v4 = 2 ∨ v4 = 3 := by omega
      rcases this with rfl | rfl | rfl | rfl <;> exact ⟨_, rfl⟩
    refine Wp.bind (Wp.get at_new (Wp.opt hL ?_))
    exact tail L _ hN.app (app_get hdN) (Fr.app.trans Fr.app)
  · exact tail _ _ hN hdN Fr.app
end
end LawP
end
section
set_option linter.all false
set_option maxRecDepth 100000
set_option maxHeartbeats 400000
namespace LawP
open Sb
section
variable {n : Nat} {M : List Ob}
abbrev dataE : CE := .comp (.loc 7) (.rng (.cst (.int 0)) (.call "_law_draw" (.cons (.blt "int" (.cons (.loc 3) .nil)) (.cons (.cst (.int 8)) (.cons (.cst (.int 14)) .nil))))) (.cst (.bl true)) (.call "_law_draw" (.cons (.bin .add (.blt "int" (.cons (.loc 3) .nil)) (.loc 7)) (.cons (.cst (.int 7)) (.cons (.cst (.int 256)) .nil))))
theorem data_ok {s u o4 o5 o6 o7 : Option Sb.D} {c : Int} {Q : Post} (q : ∀ ds : List Int, byts ds → ds.length ≤ 13 → Q (.ref M.length) (M ++ [il ds])) : Wp (ev prog (evCall prog (n + 1)) [s, some (.ref 0), u, some (.int c), o4, o5, o6, o7] dataE) M Q := by
  rw [ev]
  refine Wp.bind (m := evI _ _ _ _) ?_
  rw [evI]
  refine Wp.bind (m := ev _ _ _ _) (wE_ok (c := .cst (.int 0)) ?_)
  refine Wp.bind (m := ev _ _ _ _) (wE_ok ?_)
  refine Wp.pure ?_
  refine (draw_ok (n := n) c (k := 8) (m := 14) (by decide) (by decide)).mono fun r M1 z => ?_
  obtain ⟨v, rfl, v1, v2, rfl⟩ := z
  refine Wp.bind (Wp.askB (by simp [big62]; omega) (Wp.pure ?_))
  refine Wp.bind (Wp.new ?_)
  have main : ∀ (es : List Sb.D) (acc : List Int), (∀ e ∈ es, ∃ i : Int, e = .int i) → byts acc → es.length + acc.length ≤ 13 →
      Wp (compD ⟨rangeD 0 v, none⟩ (.loc 7) (wipeE [s, some (.ref 0), u, some (.int c), o4, o5, o6, o7] (Tg.loc 7).slots) (fun ρ => do let x ← ev prog (evCall prog (n + 1)) ρ (.cst (.bl true)); truth x) (fun ρ => ev prog (evCall prog (n + 1)) ρ (.call "_law_draw" (.cons (.bin .add (.blt "int" (.cons (.loc 3) .nil)) (.loc 7)) (.cons (.cst (.int 7)) (.cons (.cst (.int 256)) .nil))))) M1.length es) (M1 ++ [il acc]) fun _ M' => ∃ ds, M' = M1 ++ [il ds] ∧ byts ds ∧ ds.length ≤ 13 := by
    intro es
    induction es with
    | nil =>
      intro acc _ hb hl
      rw [compD]
      exact ⟨(), _, rfl, acc, rfl, hb, by simpa using hl⟩
    | cons e es ih =>
      intro acc he hb hl
      obtain ⟨i, rfl⟩ := he e (List.mem_cons_self ..)
      rw [compD]
      refine Wp.bind ⟨(), _, rfl, ?_⟩
      refine Wp.bind ⟨_, _, rfl, ?_⟩
      refine Wp.bind ⟨true, _, rfl, ?_⟩
      refine Wp.bind (wE_ok ?_)
      refine Wp.pure (Wp.pure ?_)
      refine (draw_ok (n := n) (c + i) (k := 7) (m := 256) (by decide) (by decide)).mono fun r M2 z => ?_
      obtain ⟨v3, rfl, b1, b2, rfl⟩ := z
      refine Wp.bind (Wp.get at_new ?_)
      refine Wp.bind (Wp.ask (by simp only [List.length_map]; simp only [List.length_cons] at hl; unfold lim; omega) (Wp.bind (Wp.put (by simp) ?_)))
      have e5 : (M1 ++ [il acc]).set M1.length (.lst (acc.map D.int ++ [D.int v3])) = M1 ++ [il (acc ++ [v3])] := by simp [il]
      rw [e5]
      refine ih (acc ++ [v3]) (fun e h => he e (List.mem_cons_of_mem _ h)) ?_ (by simp only [List.length_append, List.length_cons, List.length_nil] at hl ⊢; omega)
      intro x hx
      rcases List.mem_append.mp hx with h | h
      · exact hb x h
      · rw [List.mem_singleton.mp h]; omega
  refine Wp.bind (Wp.quiet ((main (rangeD 0 v) [] (fun e h => ?_) (fun x h => by cases h) ?_).mono fun _ M' z => ?_))
  · unfold rangeD at h
    obtain ⟨k, _, rfl⟩ := List.mem_map.mp h
    exact ⟨_, rfl⟩
  · simp [rangeD]; omega
  · obtain ⟨ds, rfl, hb, hl⟩ := z
    exact Wp.pure (q ds hb hl)
abbrev chkE (k : Int) : CE := .and (.cmp .eq (.met (.loc 1) "root" .nil) (.cst (.int k))) (.cmp .ne (.met (.loc 1) "area" (.cons (.cst (.int k)) .nil)) (.loc 2))
theorem chkA {s o3 o4 o5 o6 o7 : Option Sb.D} {u : Nat} {A0 A1 Du : List Int} {p : Int} {Q : Post} (h : St A0 A1 p M) (hu : M[u]? = some (il Du)) {k : Nat} (hk : k < 2) (hi : p = (k : Int) → ar k A0 A1 = Du) (q : ∀ M', St A0 A1 p M' → Fr M M' → Q (.bl false) M') :
    wE prog (evCall prog (n + 1)) [s, some (.ref 0), some (.ref u), o3, o4, o5, o6, o7] (chkE k) M Q := by
  refine Wp.metI ⟨0, _, _, rfl, h.d, rfl, rfl, ?_⟩
  refine (root_ok (n := n) h).mono fun r M1 z => ?_
  obtain ⟨rfl, rfl⟩ := z
  refine Wp.eqI ⟨fun c => ?_, fun _ => q M1 h Fr.refl⟩
  have d : p = (k : Int) := of_decide_eq_true c
  refine Wp.metI ⟨0, _, _, rfl, h.d, rfl, rfl, ?_⟩
  refine (area_ok (n := n) h hk).mono fun r M2 z => ?_
  obtain ⟨rfl, rfl⟩ := z
  refine Wp.neL at_new (app_get hu) ?_
  rw [decide_eq_true (hi d)]
  exact q _ h.app Fr.app
theorem neA {ρ : Env} {s : Option Sb.D} {u : Nat} {A0 A1 Du : List Int} {p : Int} {Q : Bool → List Ob → Prop} {a : Nat} (ha : M[a]? = some (il Du)) (hb : M[u]? = some (il Du)) (q : Q false M) : Wp (cop .ne (.ref a) (.ref u)) M Q := by
  refine Wp.neL ha hb ?_
  rw [decide_eq_true rfl]; exact q
structure Iv (u : Nat) (M : List Ob) : Prop where
  ex : ∃ A0 A1 p Du, St A0 A1 p M ∧ A0.length ≤ 13 ∧ A1.length ≤ 13 ∧ Du.length ≤ 13 ∧ byts Du ∧ 3 ≤ u ∧ M[u]? = some (il Du) ∧ (p = 0 ∨ p = 1) ∧ (p = 0 → A0 = Du) ∧ (p = 1 → A1 = Du)
def lbody : CSs := match f_law.body with
  | .cons _ (.cons _ (.cons _ (.cons (.for _ _ b) _))) => b
  | _ => .nil
def lb2 : CSs := match lbody with
  | .cons _ (.cons _ (.cons _ (.cons _ t))) => t
  | _ => .nil
abbrev LP (M0 : List Ob) (s : Option Sb.D) : PostF := fun fl M' => match fl with
  | .nx ρ2 => ∃ u o3 o4 o5 o6 o7, ρ2 = [s, some (.ref 0), some (.ref u), o3, o4, o5, o6, o7] ∧ Iv u M' ∧ Fr M0 M'
  | _ => False
theorem lb2_ok {M0 : List Ob} {s o4 o5 o6 o7 : Option Sb.D} {c : Int} {u : Nat} {A0 A1 Du : List Int} {p : Int} (f0 : Fr M0 M) (h : St A0 A1 p M) (h0 : A0.length ≤ 13) (h1 : A1.length ≤ 13) (h2 : Du.length ≤ 13) (hb : byts Du) (hu3 : 3 ≤ u) (hu : M[u]? = some (il Du)) (hp : p = 0 ∨ p = 1) (i0 : p = 0 → A0 = Du) (i1 : p = 1 → A1 = Du) :
    wSs prog (evCall prog (n + 2)) [s, some (.ref 0), some (.ref u), some (.int c), o4, o5, o6, o7] lb2 M (LP M0 s) := by
  refine chkA (n := n + 1) h hu (k := 0) (by decide) i0 fun M1 s1 f1 => ?_
  refine Wp.pure ⟨fun z => (by cases z), fun _ => ?_⟩
  refine chkA (n := n + 1) s1 (f1 u hu3 _ hu) (k := 1) (by decide) i1 fun M2 s2 f2 => ?_
  refine Wp.pure ⟨fun z => (by cases z), fun _ => ?_⟩
  have hu2 := f2 u hu3 _ (f1 u hu3 _ hu)
  have f02 := (f0.trans f1).trans f2
  refine Wp.pure ?_
  refine (draw_ok (n := n + 1) c (k := 9) (m := 2) (by decide) (by decide)).mono fun r M3 z => ?_
  obtain ⟨v, rfl, _, _, rfl⟩ := z
  refine Wp.eqI (Wp.pure ⟨fun z => ?_, fun z => ?_⟩)
  · refine Wp.metI ⟨0, _, _, rfl, s2.d, rfl, rfl, ?_⟩
    refine (recover_ok (n := n) s2 (by omega) (by omega)).mono fun r M4 z => ?_
    obtain ⟨a, rfl, ha3, ha, s4, f4⟩ := z
    have eD : (if p = 1 then A1 else A0) = Du := by
      rcases hp with e | e
      · rw [if_neg (by omega)]; exact i0 e
      · rw [if_pos e]; exact i1 e
    have eP : (if p = 1 then 0 else p) = 0 := by
      rcases hp with e | e
      · rw [if_neg (by omega)]; exact e
      · rw [if_pos e]
    rw [eD] at ha s4
    rw [eP] at s4
    have hu4 := f4 u hu3 _ hu2
    refine (bytes_ok (n := n) ha hb).mono fun r M5 z => ?_
    obtain ⟨rfl, rfl⟩ := z
    refine Wp.pure ⟨fun z => (by cases z), fun _ => ?_⟩
    refine Wp.neL ha hu4 ?_
    rw [decide_eq_true rfl]
    refine ⟨fun z => (by cases z), fun _ => ?_⟩
    refine Wp.metI ⟨0, _, _, rfl, s4.d, rfl, rfl, ?_⟩
    refine (area_ok (n := n + 1) s4 (k := 0) (by decide)).mono fun r M6 z => ?_
    obtain ⟨rfl, rfl⟩ := z
    refine Wp.neL (xs := Du) at_new (app_get hu4) ?_
    rw [decide_eq_true rfl]
    refine Wp.pure ⟨fun z => (by cases z), fun _ => ?_⟩
    have s6 : St Du [] 0 (M5 ++ [il Du]) := s4.app
    refine Wp.metI ⟨0, _, _, rfl, s6.d, rfl, rfl, ?_⟩
    refine (area_ok (n := n + 1) s6 (k := 1) (by decide)).mono fun r M7 z => ?_
    obtain ⟨rfl, rfl⟩ := z
    refine ⟨by show 0 ≤ lim; decide, ?_⟩
    refine Wp.neL (xs := []) (ys := []) (app_get at_new) at_new ?_
    refine ⟨fun z => (by cases z), fun _ => ?_⟩
    have s8 : St Du [] 0 (M5 ++ [il Du] ++ [il (ar 1 Du [])] ++ [.lst []]) := (s6.app).app
    refine Wp.metI ⟨0, _, _, rfl, s8.d, rfl, rfl, ?_⟩
    refine (root_ok (n := n + 1) s8).mono fun r M9 z => ?_
    obtain ⟨rfl, rfl⟩ := z
    refine Wp.neI (Wp.pure ⟨fun z => (by simp at z), fun _ => ?_⟩)
    exact ⟨u, _, _, _, _, _, rfl, ⟨Du, [], 0, Du, s8, h2, by simp, h2, hb, hu3, app_get (app_get (app_get hu4)), .inl rfl, fun _ => rfl, fun z => by cases z⟩, ((f02.trans f4).trans (Fr.app.trans Fr.app)).trans Fr.app⟩
  · exact ⟨u, _, _, _, _, _, rfl, ⟨A0, A1, p, Du, s2, h0, h1, h2, hb, hu3, hu2, hp, i0, i1⟩, f02⟩
theorem lbody_ok {s o4 o5 o6 o7 : Option Sb.D} {c : Int} {u : Nat} (h : Iv u M) : wSs prog (evCall prog (n + 4)) [s, some (.ref 0), some (.ref u), some (.int c), o4, o5, o6, o7] lbody M (LP M s) := by
  obtain ⟨A0, A1, p, Du, h, h0, h1, h2, hb, hu3, hu, hp, i0, i1⟩ := h.ex
  refine data_ok (n := n + 3) fun ds hds hdl => ?_
  have s1 : St A0 A1 p (M ++ [il ds]) := h.app
  refine (sizes_ok (n := n + 2) s1).mono fun r M2 z => ?_
  obtain ⟨a, rfl, ha, s2, f2⟩ := z
  have hd2 : M2[M.length]? = some (il ds) := f2 _ h.len _ at_new
  refine Wp.pure ?_
  refine (written_ok (n := n) s2 c ha h.len hd2 (by omega) (by omega) (by omega)).mono fun r M3 z => ?_
  obtain ⟨l, rfl, s3, f3⟩ := z
  have f03 : Fr M M3 := (Fr.app.trans f2).trans f3
  have hu' := f03 u hu3 _ hu
  have hd3 := f3 _ h.len _ hd2
  obtain ⟨w1, w2, w3⟩ := wr_spec ds A0 A1 Du p l hp i0 i1
  obtain ⟨l1, l2⟩ := wr_len ds A0 A1 p l 13 h0 h1 hdl
  refine Wp.pure (Wp.pure ⟨fun z => (by cases z), fun _ => ?_⟩)
  refine Wp.pure ⟨fun z => ?_, fun z => ?_⟩
  · have e : rootOf ds A0 A1 p ≤ l := of_decide_eq_true z
    rw [if_pos e] at w2 w3
    exact lb2_ok (n := n + 2) f03 s3 l1 l2 hdl hds h.len hd3 w1 w2 w3
  · have e : ¬ rootOf ds A0 A1 p ≤ l := of_decide_eq_false z
    rw [if_neg e] at w2 w3
    exact lb2_ok (n := n + 2) f03 s3 l1 l2 h2 hb hu3 hu' w1 w2 w3
theorem loop_ok {s : Option Sb.D} {cs : List Int} {a : Nat} (ha : 3 ≤ a) : ∀ (es : List Int) (u : Nat) (o3 o4 o5 o6 o7 : Option Sb.D) (M : List Ob), Iv u M → M[a]? = some (il cs) → Wp (forD ⟨cs.map D.int, some (a, il cs)⟩ (.loc 3) (fun ρ => exs prog (evCall prog (n + 4)) ρ lbody) (es.map D.int) [s, some (.ref 0), some (.ref u), o3, o4, o5, o6, o7]) M (LP M s) := by
  intro es
  induction es with
  | nil => intro u o3 o4 o5 o6 o7 M h hc; exact Wp.forN (decide_eq_true hc) ⟨u, _, _, _, _, _, rfl, h, Fr.refl⟩
  | cons e es ih =>
    intro u o3 o4 o5 o6 o7 M h hc
    refine Wp.forC (decide_eq_true hc) ?_
    refine (wSs_ok (lbody_ok (n := n) h)).mono fun fl M1 z => ?_
    cases fl with
    | nx ρ2 =>
      obtain ⟨u2, p3, p4, p5, p6, p7, rfl, h2, f2⟩ := z
      refine (ih u2 p3 p4 p5 p6 p7 M1 h2 (f2 a ha _ hc)).mono fun fl M2 z => ?_
      cases fl with
      | nx ρ3 =>
        obtain ⟨u3, q3, q4, q5, q6, q7, rfl, h3, f3⟩ := z
        exact ⟨u3, q3, q4, q5, q6, q7, rfl, h3, f2.trans f3⟩
      | _ => exact z.elim
    | _ => exact z.elim
theorem init_ok : Wp (evCall prog (n + 1) "Disk.__init__" [.ref 0]) [.ins "Disk" []] fun r M' => r = .non ∧ M' = [dsk 0, il [], il []] := by
  refine Wp.call (fd := f_Disk____init__) rfl ⟨Nat.le_of_ble_eq_true rfl, Nat.le_of_ble_eq_true rfl, Nat.le_of_ble_eq_true rfl⟩ ?_
  refine ⟨by show 0 ≤ lim; decide, by show 0 ≤ lim; decide, by show 2 ≤ lim; decide, ?_⟩
  refine Wp.setAttr (c := "Disk") (fs := []) rfl rfl (by decide) ?_
  refine Wp.setAttr (c := "Disk") (fs := [("areas", .tup [.ref 1, .ref 2])]) rfl rfl (by decide) ?_
  exact ⟨rfl, rfl⟩
theorem spec (ns : List Int) : ∃ M', evCall prog 10 "law" [.rol (ns.map .int)] [] = .ok (.bl true) M' := by
  have main : Wp (evCall prog 10 "law" [.rol (ns.map .int)]) [] fun r M' => r = .bl true := by
    refine Wp.call (fd := f_law) rfl ⟨Nat.le_of_ble_eq_true rfl, Nat.le_of_ble_eq_true rfl, Nat.le_of_ble_eq_true rfl⟩ ?_
    refine Wp.make (f := "Disk.__init__") rfl ?_
    refine (init_ok (n := 8)).mono fun r M1 z => ?_
    obtain ⟨rfl, rfl⟩ := z
    refine ⟨rfl, ?_⟩
    refine ⟨by show 0 ≤ lim; decide, ?_⟩
    have s1 : St [] [] 0 ([dsk 0, il [], il []] ++ [.lst []]) := ⟨rfl, rfl, rfl⟩
    refine Wp.metI ⟨0, _, _, rfl, s1.d, rfl, rfl, ?_⟩
    refine (area_ok (n := 8) s1 (k := 0) (by decide)).mono fun r M2 z => ?_
    obtain ⟨rfl, rfl⟩ := z
    refine ⟨by show 0 ≤ lim; decide, ?_⟩
    refine Wp.neL (xs := []) (ys := []) rfl rfl ?_
    refine ⟨fun z => (by cases z), fun _ => ?_⟩
    have s2 : St [] [] 0 ([dsk 0, il [], il []] ++ [.lst []] ++ [il []] ++ [.lst []]) := ⟨rfl, rfl, rfl⟩
    refine Wp.metI ⟨0, _, _, rfl, s2.d, rfl, rfl, ?_⟩
    refine (area_ok (n := 8) s2 (k := 1) (by decide)).mono fun r M2 z => ?_
    obtain ⟨rfl, rfl⟩ := z
    refine ⟨by show 0 ≤ lim; decide, ?_⟩
    refine Wp.neL (xs := []) (ys := []) rfl rfl ?_
    refine ⟨fun z => (by cases z), fun _ => ?_⟩
    have s3 : St [] [] 0 ([dsk 0, il [], il []] ++ [.lst []] ++ [il []] ++ [.lst []] ++ [il []] ++ [.lst []]) := ⟨rfl, rfl, rfl⟩
    refine Wp.metI ⟨0, _, _, rfl, s3.d, rfl, rfl, ?_⟩
    refine (root_ok (n := 8) s3).mono fun r M2 z => ?_
    obtain ⟨rfl, rfl⟩ := z
    refine Wp.neI (Wp.pure ⟨fun z => (by simp at z), fun _ => ?_⟩)
    refine Wp.for ?_
    refine Wp.bind (m := ev _ _ _ _) (wE_ok ?_)
    refine Wp.pure (Wp.pure (Wp.new ?_))
    refine Wp.bind (Wp.get at_new (Wp.pure ?_))
    have ec : cut (ns.map D.int) none (some 12) = (cut ns none (some 12)).map D.int := by
      unfold cut
      rw [List.length_map, List.map_take, List.map_drop]
    have iv : Iv 3 ([dsk 0, il [], il []] ++ [.lst []] ++ [il []] ++ [.lst []] ++ [il []] ++ [.lst []] ++ [il (cut ns none (some 12))]) :=
      ⟨[], [], 0, [], s3.app, by decide, by decide, by decide, fun x h => (by cases h), by decide, rfl, .inl rfl, fun _ => rfl, fun z => (by cases z)⟩
    have lp := loop_ok (n := 5) (s := some (.rol (ns.map .int))) (cs := cut ns none (some 12)) (a := 8) (by decide) (cut ns none (some 12)) 3 none none none none none _ iv rfl
    rw [ec]
    refine lp.mono fun fl M1 z => ?_
    cases fl with
    | nx ρ2 =>
      obtain ⟨u, o3, o4, o5, o6, o7, rfl, h, _⟩ := z
      obtain ⟨A0, A1, p, Du, h, h0, h1, h2, hb, hu3, hu, hp, i0, i1⟩ := h.ex
      refine Wp.metI ⟨0, _, _, rfl, h.d, rfl, rfl, ?_⟩
      refine (recover_ok (n := 7) h (by omega) (by omega)).mono fun r M4 z => ?_
      obtain ⟨a, rfl, ha3, ha, s4, f4⟩ := z
      have eD : (if p = 1 then A1 else A0) = Du := by
        rcases hp with e | e
        · rw [if_neg (by omega)]; exact i0 e
        · rw [if_pos e]; exact i1 e
      have eP : (if p = 1 then 0 else p) = 0 := by
        rcases hp with e | e
        · rw [if_neg (by omega)]; exact e
        · rw [if_pos e]
      rw [eD] at ha s4
      rw [eP] at s4
      refine Wp.neL ha (f4 u hu3 _ hu) ?_
      rw [decide_eq_true rfl]
      refine Wp.pure ⟨fun z => (by cases z), fun _ => ?_⟩
      refine Wp.metI ⟨0, _, _, rfl, s4.d, rfl, rfl, ?_⟩
      refine ⟨by show 3 ≤ lim; decide, ?_⟩
      have s5 : St Du [] 0 (M4 ++ [il [1, 2, 3]]) := s4.app
      refine (write_ok (n := 6) (ds := [1, 2, 3]) (j := M4.length) s5 (lm := .non) (l := stp [1, 2, 3] Du [] 0) (.inl ⟨rfl, rfl⟩) (.inr ⟨rfl, rfl⟩) s4.len at_new (by omega) (by decide) (by decide)).mono fun r M6 z => ?_
      obtain ⟨rfl, s6, f6⟩ := z
      rw [decide_eq_true (Nat.le_refl _)]
      refine Wp.pure ⟨fun _ => ?_, fun z => (by simp at z)⟩
      obtain ⟨w1, w2, w3⟩ := wr_spec [1, 2, 3] Du [] Du 0 (stp [1, 2, 3] Du [] 0) (.inl rfl) (fun _ => rfl) (fun z => by cases z)
      obtain ⟨l1, l2⟩ := wr_len [1, 2, 3] Du [] 0 (stp [1, 2, 3] Du [] 0) 13 h2 (by decide) (by decide)
      have er : rootOf [1, 2, 3] Du [] 0 ≤ stp [1, 2, 3] Du [] 0 := by
        unfold rootOf stp
        rw [if_neg (by decide), if_neg (by decide)]
        omega
      rw [if_pos er] at w2 w3
      refine Wp.metI ⟨0, _, _, rfl, s6.d, rfl, rfl, ?_⟩
      refine (recover_ok (n := 7) s6 (by omega) (by omega)).mono fun r M7 z => ?_
      obtain ⟨b, rfl, hb3, hbb, s7, f7⟩ := z
      have eW : (if (wr [1, 2, 3] Du [] 0 (stp [1, 2, 3] Du [] 0)).2.2 = 1 then (wr [1, 2, 3] Du [] 0 (stp [1, 2, 3] Du [] 0)).2.1 else (wr [1, 2, 3] Du [] 0 (stp [1, 2, 3] Du [] 0)).1) = [1, 2, 3] := by
        rcases w1 with e | e
        · rw [if_neg (by omega)]; exact w2 e
        · rw [if_pos e]; exact w3 e
      rw [eW] at hbb s7
      refine ⟨by show 3 ≤ lim; decide, ?_⟩
      refine Wp.eqL (xs := [1, 2, 3]) (ys := [1, 2, 3]) (app_get hbb) at_new ?_
      rw [decide_eq_true rfl]
      refine ⟨fun _ => ?_, fun z => (by cases z)⟩
      have s8 := s7.app (N := [.lst [.int 1, .int 2, .int 3]])
      refine Wp.metI ⟨0, _, _, rfl, s8.d, rfl, rfl, ?_⟩
      refine (area_ok (n := 8) s8 (k := 1) (by decide)).mono fun r M9 z => ?_
      obtain ⟨rfl, rfl⟩ := z
      refine ⟨by show 0 ≤ lim; decide, ?_⟩
      exact Wp.eqL (xs := []) (ys := []) (app_get at_new) at_new rfl
    | _ => exact z.elim
  obtain ⟨r, M', e, rfl⟩ := main
  exact ⟨M', e⟩
end
end LawP
end
set_option maxRecDepth 100000
set_option maxHeartbeats 0
open PySem PySem.W PySem.Calls PyProof.Rows
theorem holds_of {n : Nat} (hn : L2.Room (2 * n + 1) callerA) (spec : ∀ ns : List Int, ns.length ≤ 63 → ∃ M', Sb.evCall LawP.prog n "law" [.rol (ns.map .int)] [] = .ok (.bl true) M') : PySem.Challenge.rw_shedbook_k69_disks_can_be_cut.Holds := by
  w_on; o_law
  refine HandSHeadRun.head_any (r := OpenLaw.row PySem.Challenge.rw_shedbook_k69_disks_can_be_cut) (q := view (OpenLaw.row PySem.Challenge.rw_shedbook_k69_disks_can_be_cut).prog [10]) (H := LawP.hk) (ob := LawP.ob) (M := 2000) (loose := LawP.names) (d := HandSHeadRun.topDef (OpenLaw.row PySem.Challenge.rw_shedbook_k69_disks_can_be_cut).prog 10) (kwd := []) LawP.ob_eq
    (by kernel_rfl) (fun s => by kernel_rfl) LawP.run (by kernel_rfl) (by kernel_rfl) (by kernel_rfl) (by rfl) (by first | assumption | decide +kernel) (by decide +kernel) ⟨rfl, rfl, rfl, rfl, rfl, by decide +kernel⟩ ?hw ?hc
  case hw => w_witness2
  case hc =>
    refine L2.walk_ofE (l := PySem.Challenge.rw_shedbook_k69_disks_can_be_cut) (n := 63) (k := 2 * n + 1) (x := PySem.Str.ofString "_law_script") (CX := Sb.CXw (PySem.Challenge.rw_shedbook_k69_disks_can_be_cut).prog) rfl (by decide) (by kernel_rfl) hn ?F Sb.cxw_false
    intro w mg fa h Y G hmg0
    obtain ⟨K, KX, c⟩ := Y
    have hmg : mg (PySem.Str.ofString "law") = some (.ref fa) := by
      have e : (HandSHeadRun.topDef (OpenLaw.row PySem.Challenge.rw_shedbook_k69_disks_can_be_cut).prog 10).name = PySem.Str.ofString "law" := by kernel_rfl
      rw [← e]
      exact hmg0
    exact LawP.facts spec KX G hmg c
theorem PySem.Challenge.cw_shedbook_k69_disks_can_be_cut_holds : PySem.Challenge.rw_shedbook_k69_disks_can_be_cut.Holds := by
  exact holds_of (n := 10) ⟨rfl, by decide, by decide⟩ fun ns _ => LawP.spec ns
