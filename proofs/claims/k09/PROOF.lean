import PyProof.Rows.All
import Wide.All
import OpenK.AllK
import Wide.FinOn
import HandS.IsInst
import HandS.SortInts
import HandS.SortRule
import HandS.Wide
import HandS.TupAny
import HandS.Deep
import HandS.Style
import HandS.ForMost
import HandS.WordsExc
import HandS.HeadHook2
import HandS.Strs
import KE.KDictKeyed
import HandS.Lambda
import HandS.SetFor
import HandS.WordsDict
import HandS.TupLen
import HandS.Text
import HandS.RaiseMore
import HandS.Codes
import KE.IntTextLaws
import KE.KDictWalk
import KE.KDictSum
import HandS.More
import HandS.Iter
import HandS.Comp
import HandS.ExcOwn
import HandS.TupSets
import PyProof.PvWalk
import HandS.TryOnly
import KE.KExcIs
import HandS.ExcField
import HandS.Defaults
import HandS.ExcInit
import HandS.HeadWalk
import HandS.HeadHook4
import HandS.HeadEnd
import PyProof.ExcBaseAll.ValueError
import HandS.NestedK
import HandS.Head0
import HandS.Head1
import HandS.Head2
import HandS.HeadHook1
import KE.KStateDown
import Lean
import PySem.Challenge.RW_newsflood_k09_hand_ons_shown
set_option Elab.async false
/-! NfSem: a small language of data and stores, and what a program of it does, by wishes (weakest preconditions). No library is needed here. -/
set_option linter.all false
namespace Nf

/-- data: tuples are trees; lists, dicts, sets, objects stand in the store at addresses; frz: a list of ints that nobody writes -/
inductive D where
  | non | bl (b : Bool) | int (i : Int) | str (s : String) | ty (n : String) | cls (n : String)
  | ref (a : Nat) | frz (ns : List Int) | tup (ds : List D)
  deriving Inhabited

mutual
def D.beq : D → D → Bool
  | .non, .non => true
  | .bl a, .bl b => a == b
  | .int a, .int b => a == b
  | .str a, .str b => a == b
  | .ty a, .ty b => a == b
  | .cls a, .cls b => a == b
  | .ref a, .ref b => a == b
  | .frz a, .frz b => a == b
  | .tup a, .tup b => D.beqL a b
  | _, _ => false
def D.beqL : List D → List D → Bool
  | [], [] => true
  | a :: as, b :: bs => D.beq a b && D.beqL as bs
  | _, _ => false
end
mutual
theorem D.beq_refl : ∀ a : D, D.beq a a = true
  | .non => rfl
  | .bl a => by simp [D.beq]
  | .int a => by simp [D.beq]
  | .str a => by simp [D.beq]
  | .ty a => by simp [D.beq]
  | .cls a => by simp [D.beq]
  | .ref a => by simp [D.beq]
  | .frz a => by simp [D.beq]
  | .tup a => by simp only [D.beq]; exact D.beqL_refl a
theorem D.beqL_refl : ∀ a : List D, D.beqL a a = true
  | [] => rfl
  | a :: as => by simp only [D.beqL, D.beq_refl a, D.beqL_refl as, Bool.and_self]
end
mutual
theorem D.eq_of_beq : ∀ a b : D, D.beq a b = true → a = b
  | .non, b, h => by cases b <;> simp_all [D.beq]
  | .bl a, b, h => by cases b <;> simp_all [D.beq]
  | .int a, b, h => by cases b <;> simp_all [D.beq]
  | .str a, b, h => by cases b <;> simp_all [D.beq]
  | .ty a, b, h => by cases b <;> simp_all [D.beq]
  | .cls a, b, h => by cases b <;> simp_all [D.beq]
  | .ref a, b, h => by cases b <;> simp_all [D.beq]
  | .frz a, b, h => by cases b <;> simp_all [D.beq]
  | .tup a, b, h => by
    cases b with
    | tup b => simp only [D.beq] at h; rw [D.eqL_of_beqL a b h]
    | _ => simp [D.beq] at h
theorem D.eqL_of_beqL : ∀ a b : List D, D.beqL a b = true → a = b
  | [], b, h => by cases b <;> simp_all [D.beqL]
  | a :: as, b, h => by
    cases b with
    | nil => simp [D.beqL] at h
    | cons b bs =>
      simp only [D.beqL, Bool.and_eq_true] at h
      rw [D.eq_of_beq a b h.1, D.eqL_of_beqL as bs h.2]
end
instance : DecidableEq D := fun a b => if h : D.beq a b = true then .isTrue (D.eq_of_beq a b h) else .isFalse fun e => h (e ▸ D.beq_refl a)

/-- what stands in the store -/
inductive DO where
  | lst (ds : List D) | dic (kvs : List (D × D)) | set (ds : List D) | ins (c : String) (fs : List (String × D))
  /-- a dict while it is walked -/
  | fdc (kvs : List (D × D))
abbrev Store := Nat → Option DO
def put (S : Store) (a : Nat) (o : DO) : Store := fun b => if b = a then some o else S b
@[simp] theorem put_same {S : Store} {a : Nat} {o : DO} : put S a o a = some o := if_pos rfl
theorem put_ne {S : Store} {a b : Nat} {o : DO} (h : b ≠ a) : put S a o b = S b := if_neg h
def Le (S S' : Store) : Prop := ∀ a o, S a = some o → S' a = some o
theorem Le.refl (S : Store) : Le S S := fun _ _ h => h
theorem Le.trans {A B C : Store} (x : Le A B) (y : Le B C) : Le A C := fun a o h => y a o (x a o h)

/-- a dict, walked or not -/
def dicOf (o : Option DO) : Option (List (D × D)) := match o with
  | some (.dic kvs) => some kvs
  | some (.fdc kvs) => some kvs
  | _ => none
/-- what is wished -/
abbrev DQ := D → Store → Prop
structure DX where
  cls : String
  val : Option (String × D) := none
abbrev DE := DX → Store → Prop
abbrev Fenv := String → String → List D → Store → DQ → DE → Prop
abbrev DSt := List (Option D)

/-! ### the language -/
inductive BOp where | add | sub | mul | fdiv | mod | pow
  deriving DecidableEq
inductive COp where | eq | ne | lt | le | gt | ge | inn | nin | is | isn
  deriving DecidableEq
inductive BI where | len | int | str | list | tuple | dict | set | sorted | min | max | isinst
  deriving DecidableEq
inductive LM where | append | extend | pop | index | remove | reverse | clear
  deriving DecidableEq
inductive DM where | get | pop | update
  deriving DecidableEq
inductive SM where | split | join
  deriving DecidableEq
/-- a name, or a tuple of names -/
inductive Tg where | v (i : Nat) | t (is : List Nat)
mutual
inductive ME where
  | lit (d : D)
  | var (i : Nat)
  | bin (op : BOp) (a b : ME)
  | neg (a : ME)
  | cmp (op : COp) (a b : ME)
  | cmp2 (o1 o2 : COp) (a b c : ME)
  | and_ (a b : ME) | or_ (a b : ME) | not_ (a : ME)
  | ife (c a b : ME)
  | tup (es : MEs) | lst (es : MEs) | dct (es : MEs)
  | attr (e : ME) (f : String)
  | ix (e i : ME)
  | slc (e : ME) (lo hi : MEo)
  | rev (e : ME)
  | call (f : String) (es : MEs)
  | mk (c : String) (es : MEs)
  | bi (f : BI) (es : MEs)
  | om (c : String) (e : ME) (m : String) (es : MEs)
  | lm (e : ME) (m : LM) (es : MEs)
  | dm (e : ME) (m : DM) (es : MEs)
  | sm (e : ME) (m : SM) (es : MEs)
  | alt (a b : ME)
  | lock (e : ME)
  | tag (n : Nat) (e : ME)
  /-- a module's written dict, asked by get -/
  | tget (n : String) (kvs : List (String × Int)) (es : MEs)
  /-- len(set(e)) -/
  | lens (e : ME)
  /-- what e tells, or the word of its refusal -/
  | word (e : ME)
  /-- isinstance of the exception in hand; its field -/
  | isE (i : Nat) (c : String)
  | exF (i : Nat) (f : String)
  /-- count of a truth -/
  | cnt (e : ME) (b : Bool)
  | lc (elt : ME) (tg : Tg) (it : MI) (ifs : MEo) (own : List Nat)
inductive MEs where | n | c (e : ME) (es : MEs)
inductive MEo where | n | s (e : ME)
inductive MI where | over (e : ME) | rng (e : ME) | rng2 (a b : ME) | enum (e : ME)
end
mutual
inductive MS where
  | expr (e : ME)
  | set (i : Nat) (e : ME)
  | setA (o : ME) (f : String) (e : ME)
  | setI (o i e : ME)
  | setI2 (o1 i1 o2 i2 e1 e2 : ME)
  | unp (tg : Tg) (e : ME)
  | par (is : List Nat) (es : MEs)
  | ret (e : ME) | ret0 | pass
  | ife (c : ME) (a b : MSs)
  | for_ (tg : Tg) (it : MI) (body : MSs)
  | whl (c : ME) (body : MSs)
  | raise (c : String)
  | raise1 (c f : String) (e : ME)
  /-- a row that isn't come to -/
  | never
  /-- e told; else, where it is refused, d -/
  | tryR (e : ME) (d : D)
  /-- s, ahead of which the list of a name is frozen -/
  | frz (i : Nat) (s : MS)
  | lock (s : MS)
inductive MSs where | n | c (s : MS) (ss : MSs)
end

/-! ### values -/
def szLine : Nat := 16777216
def asB (d : D) (k : Bool → Prop) : Prop := match d with | .bl b => k b | _ => False
def asI (d : D) (k : Int → Prop) : Prop := match d with | .int i => k i | _ => False
def getS (δ : DSt) (i : Nat) (k : D → Prop) : Prop := match δ[i]? with | some (some d) => k d | _ => False
def alloc (S : Store) (o : DO) (Q : DQ) : Prop := ∀ p, S p = none → Q (.ref p) (put S p o)
def ixN (n : Nat) (i : Int) : Option Nat := if 0 ≤ i then (if i < n then some i.toNat else none) else if -(n : Int) ≤ i then some (i + n).toNat else none
/-- where a slice's end stands -/
def sIx (n d : Nat) : Option Int → Nat
  | none => d
  | some v => if v < 0 then (v + (n : Int)).toNat else min v.toNat n
def cutL {α : Type} (xs : List α) (lo hi : Option Int) : List α := (xs.drop (sIx xs.length 0 lo)).take (sIx xs.length xs.length hi - sIx xs.length 0 lo)
def cutS (s : String) (lo hi : Option Int) : String := String.ofList (cutL s.toList lo hi)

/-- data read through the store, to a depth -/
inductive T where
  | non | bl (b : Bool) | int (i : Int) | str (s : String) | tup (ts : List T) | lst (ts : List T)
mutual
def eqT : T → T → Bool
  | .non, .non => true
  | .bl a, .bl b => a == b
  | .bl a, .int j => (if a then 1 else 0) == j
  | .int i, .bl b => i == (if b then 1 else 0)
  | .int i, .int j => i == j
  | .str x, .str y => x == y
  | .lst xs, .lst ys => eqTs xs ys
  | .tup xs, .tup ys => eqTs xs ys
  | _, _ => false
def eqTs : List T → List T → Bool
  | [], [] => true
  | x :: xs, y :: ys => eqT x y && eqTs xs ys
  | _, _ => false
end
def optL {α : Type} : List (Option α) → Option (List α)
  | [] => some []
  | x :: xs => match x, optL xs with | some y, some ys => some (y :: ys) | _, _ => none
def res (S : Store) : Nat → D → Option T
  | _, .non => some .non
  | _, .bl b => some (.bl b)
  | _, .int i => some (.int i)
  | _, .str s => some (.str s)
  | n + 1, .tup ds => (optL (ds.map (res S n))).map .tup
  | n + 1, .frz ns => some (.lst (ns.map .int))
  | n + 1, .ref a => match S a with
    | some (.lst ds) => (optL (ds.map (res S n))).map .lst
    | _ => none
  | _, _ => none
def deep : Nat := 12
def eqD (S : Store) (a b : D) (k : Bool → Prop) : Prop := match res S deep a, res S deep b with | some x, some y => k (eqT x y) | _, _ => False

mutual
def D.key : Nat → D → Bool
  | _, .int _ => true
  | _, .str _ => true
  | n + 1, .tup ds => D.keyL n ds
  | _, _ => false
def D.keyL : Nat → List D → Bool
  | _, [] => true
  | n, d :: ds => D.key n d && D.keyL n ds
end
def D.flatKey : D → Bool
  | .int _ => true
  | .str _ => true
  | _ => false
def D.tupKey : D → Bool
  | .tup ds => D.key 6 (.tup ds)
  | _ => false
/-- a key among keys: all flat, or all tuples -/
def keysOk (k : D) (kvs : List (D × D)) : Prop := (k.flatKey = true ∧ ∀ p ∈ kvs, p.1.flatKey = true) ∨ (k.tupKey = true ∧ ∀ p ∈ kvs, p.1.tupKey = true)
def look (kvs : List (D × D)) (k : D) : Option D := (kvs.find? fun p => decide (p.1 = k)).map (·.2)
def has (kvs : List (D × D)) (k : D) : Bool := (look kvs k).isSome
def upd1 (k v : D) (p : D × D) : D × D := if p.1 = k then (p.1, v) else p
def putK (kvs : List (D × D)) (k v : D) : List (D × D) := if has kvs k then kvs.map (upd1 k v) else kvs ++ [(k, v)]
def dropK (kvs : List (D × D)) (k : D) : List (D × D) := kvs.filter fun p => decide (p.1 ≠ k)
def mergeK (kvs : List (D × D)) : List (D × D) → List (D × D)
  | [] => kvs
  | (k, v) :: ps => mergeK (putK kvs k v) ps
def pairsOf : List D → Option (List (D × D))
  | [] => some []
  | .tup [k, v] :: ds => (pairsOf ds).map ((k, v) :: ·)
  | _ => none
def pairUp : List D → Option (List (D × D))
  | [] => some []
  | k :: v :: ds => (pairUp ds).map ((k, v) :: ·)
  | _ => none
/-- all flat, or all tuples -/
def keysAll (kvs : List (D × D)) : Prop := (∀ p ∈ kvs, p.1.flatKey = true) ∨ (∀ p ∈ kvs, p.1.tupKey = true)

/-! ### order: ints; texts; tuples of ints and such -/

mutual
def ltD : D → D → Bool
  | .int i, .int j => decide (i < j)
  | .str x, .str y => decide (x.toList.map Char.toNat < y.toList.map Char.toNat)
  | .tup xs, .tup ys => ltL xs ys
  | _, _ => false
def ltL : List D → List D → Bool
  | [], [] => false
  | [], _ :: _ => true
  | _ :: _, [] => false
  | x :: xs, y :: ys => if x = y then ltL xs ys else ltD x y
end
def D.isInt : D → Bool
  | .int _ => true
  | _ => false
def D.isStr : D → Bool
  | .str _ => true
  | _ => false
def D.isPair : D → Bool
  | .tup [.int _, .int _] => true
  | _ => false
def sortable (xs : List D) : Prop := (∀ x ∈ xs, x.isInt = true) ∨ (∀ x ∈ xs, x.isPair = true)
def sorted1 (xs : List D) : Prop := xs.Pairwise fun a b => ltD b a = false

/-! ### operators -/
def rBin (op : BOp) (x y : D) (S : Store) (Q : DQ) : Prop := match op, x, y with
  | .add, .int i, .int j => Q (.int (i + j)) S
  | .add, .str a, .str b => a.length + b.length ≤ szLine ∧ Q (.str (a ++ b)) S
  | .add, .tup a, .tup b => a.length ≤ szLine ∧ b.length ≤ szLine ∧ a.length + b.length ≤ szLine ∧ Q (.tup (a ++ b)) S
  | .add, .ref a, .ref b => (match S a, S b with
    | some (.lst xs), some (.lst ys) => xs.length + ys.length ≤ szLine ∧ alloc S (.lst (xs ++ ys)) Q
    | _, _ => False)
  | .sub, .int i, .int j => Q (.int (i - j)) S
  | .mul, .int i, .int j => (i.natAbs < 2 ^ 64 ∨ j.natAbs < 2 ^ 64) ∧ Q (.int (i * j)) S
  | .mul, .ref a, .int k => (match S a with
    | some (.lst xs) => k < 2 ^ 62 ∧ -(2 ^ 62) < k ∧ xs.length * k.toNat ≤ szLine ∧ alloc S (.lst (List.replicate k.toNat xs).flatten) Q
    | _ => False)
  | .fdiv, .int i, .int j => 0 < j ∧ j < 2 ^ 1000 ∧ Q (.int (i / j)) S
  | .mod, .int i, .int j => 0 < j ∧ Q (.int (i % j)) S
  | .pow, .int i, .int j => 0 ≤ j ∧ j ≤ 1000 ∧ i.natAbs < 2 ^ 64 ∧ Q (.int (i ^ j.toNat)) S
  | _, _, _ => False
def D.flat : D → Bool
  | .non => true
  | .bl _ => true
  | .int _ => true
  | .str _ => true
  | _ => false
def eqF : D → D → Bool
  | .non, .non => true
  | .bl a, .bl b => a == b
  | .bl a, .int b => (if a then 1 else 0) == b
  | .int a, .bl b => a == (if b then 1 else 0)
  | .int a, .int b => a == b
  | .str a, .str b => a == b
  | _, _ => false
def rIn (x y : D) (S : Store) (k : Bool → Prop) : Prop := match y with
  | .tup ds => x.flat = true ∧ ds.all D.flat = true ∧ k (ds.any fun u => eqF u x)
  | .str s => (match x with
    | .str c => (match c.toList with
      | [ch] => k (decide (ch ∈ s.toList))
      | _ => False)
    | _ => False)
  | .ref a => (match S a with
    | some (.lst ds) => (match res S deep x, optL (ds.map (res S deep)) with
      | some t, some ts => k (ts.any fun u => eqT u t)
      | _, _ => False)
    | some (.dic kvs) => keysOk x kvs ∧ k (has kvs x)
    | some (.fdc kvs) => keysOk x kvs ∧ k (has kvs x)
    | _ => False)
  | _ => False
def rCmp (op : COp) (x y : D) (S : Store) (k : Bool → Prop) : Prop := match op with
  | .eq => eqD S x y k
  | .ne => eqD S x y fun b => k (!b)
  | .lt => asI x fun i => asI y fun j => k (decide (i < j))
  | .le => asI x fun i => asI y fun j => k (decide (i ≤ j))
  | .gt => asI x fun i => asI y fun j => k (decide (j < i))
  | .ge => asI x fun i => asI y fun j => k (decide (j ≤ i))
  | .inn => rIn x y S k
  | .nin => rIn x y S fun b => k (!b)
  | .is => y = .non ∧ k (decide (x = .non))
  | .isn => y = .non ∧ k (!decide (x = .non))
def rIx (x i : D) (S : Store) (Q : DQ) : Prop := match x with
  | .tup ds => asI i fun j => (match ixN ds.length j with | some n => (match ds[n]? with | some d => Q d S | none => False) | none => False)
  | .frz ds => asI i fun j => (match ixN ds.length j with | some n => (match ds[n]? with | some d => Q (.int d) S | none => False) | none => False)
  | .str s => s.length ≤ szLine ∧ asI i fun j => (match ixN s.toList.length j with | some n => (match s.toList[n]? with | some c => Q (.str (String.ofList [c])) S | none => False) | none => False)
  | .ref a => (match S a with
    | some (.lst ds) => asI i fun j => (match ixN ds.length j with | some n => (match ds[n]? with | some d => Q d S | none => False) | none => False)
    | some (.dic kvs) => keysOk i kvs ∧ (match look kvs i with | some d => Q d S | none => False)
    | some (.fdc kvs) => keysOk i kvs ∧ (match look kvs i with | some d => Q d S | none => False)
    | _ => False)
  | _ => False
def asO (d : Option D) (k : Option Int → Prop) : Prop := match d with
  | none => k none
  | some (.int i) => k (some i)
  | _ => False
def intO : Option D → Prop
  | none => True
  | some (.int _) => True
  | _ => False
def rSlc (x : D) (lo hi : Option D) (S : Store) (Q : DQ) : Prop := asO lo fun l => asO hi fun h => match x with
  | .tup ds => Q (.tup (cutL ds l h)) S
  | .str s => s.length ≤ szLine ∧ Q (.str (cutS s l h)) S
  | .ref a => (match S a with
    | some (.lst ds) => alloc S (.lst (cutL ds l h)) Q
    | _ => False)
  | _ => False
def rRev (x : D) (S : Store) (Q : DQ) : Prop := match x with
  | .ref a => (match S a with
    | some (.lst ds) => alloc S (.lst ds.reverse) Q
    | _ => False)
  | _ => False
/-- the kinds' names -/
def isTy (S : Store) (d : D) (n : String) : Option Bool := match d with
  | .non => some (decide (n = "NoneType"))
  | .bl _ => some (decide (n = "bool" ∨ n = "int"))
  | .int _ => some (decide (n = "int"))
  | .str _ => some (decide (n = "str"))
  | .tup _ => some (decide (n = "tuple"))
  | .frz _ => some (decide (n = "list"))
  | .ref a => (match S a with
    | some (.lst _) => some (decide (n = "list"))
    | _ => none)
  | _ => none
def rIsi (x t : D) (S : Store) (k : Bool → Prop) : Prop := match t with
  | .ty n => n ∈ ["int", "bool", "str", "tuple", "list"] ∧ (match isTy S x n with | some b => k b | none => False)
  | .tup [.ty n, .ty m] => (n ∈ ["int", "bool", "str", "tuple", "list"] ∧ m ∈ ["int", "bool", "str", "tuple", "list"]) ∧ (match isTy S x n, isTy S x m with | some b, some c => k (b || c) | _, _ => False)
  | _ => False
/-- the items of what can be walked -/
def items (S : Store) (d : D) : Option (List D) := match d with
  | .tup ds => some ds
  | .frz ns => some (ns.map .int)
  | .str s => some (s.toList.map fun c => .str (String.ofList [c]))
  | .ref a => (match S a with
    | some (.lst ds) => some ds
    | some (.fdc kvs) => some (kvs.map (·.1))
    | _ => none)
  | _ => none
def digitVal (c : Char) : Option Int := if '0' ≤ c ∧ c ≤ '9' then some ((c.toNat : Int) - 48) else none
def digitsVal : List Char → Int → Option Int
  | [], n => some n
  | c :: cs, n => match digitVal c with | some d => digitsVal cs (n * 10 + d) | none => none
def intOf (s : String) : Option Int := match s.toList with | [] => none | cs => if cs.length ≤ 100 then digitsVal cs 0 else none
def splitC (c : Char) : List Char → List (List Char)
  | [] => [[]]
  | x :: xs => if x = c then [] :: splitC c xs else match splitC c xs with
    | y :: ys => (x :: y) :: ys
    | [] => [[x]]
def joinS (c : String) : List String → String
  | [] => ""
  | [x] => x
  | x :: y :: r => x ++ (c ++ joinS c (y :: r))
def strsOf : List D → Option (List String)
  | [] => some []
  | .str s :: ds => (strsOf ds).map (s :: ·)
  | _ => none
def intsOf : List D → Option (List Int)
  | [] => some []
  | .int s :: ds => (intsOf ds).map (s :: ·)
  | _ => none
def rBi (f : BI) (ds : List D) (S : Store) (Q : DQ) : Prop := match f, ds with
  | .len, [.str s] => s.length ≤ szLine ∧ Q (.int s.length) S
  | .len, [.ref a] => (match S a with
    | some (.lst xs) => Q (.int xs.length) S
    | some (.dic xs) => Q (.int xs.length) S
    | some (.fdc xs) => Q (.int xs.length) S
    | _ => False)
  | .len, [.tup xs] => Q (.int xs.length) S
  | .len, [.frz xs] => Q (.int xs.length) S
  | .int, [.int i] => Q (.int i) S
  | .int, [.bl b] => Q (.int (if b then 1 else 0)) S
  | .int, [.str s] => (match intOf s with | some i => Q (.int i) S | none => False)
  | .str, [.int i] => i.natAbs < 2 ^ 64 ∧ Q (.str (toString i)) S
  | .str, [.str s] => Q (.str s) S
  | .list, [.tup xs] => alloc S (.lst xs) Q
  | .list, [.frz xs] => alloc S (.lst (xs.map .int)) Q
  | .list, [.ref a] => (match S a with | some (.lst xs) => alloc S (.lst xs) Q | _ => False)
  | .tuple, [.tup xs] => Q (.tup xs) S
  | .tuple, [.ref a] => (match S a with | some (.lst xs) => Q (.tup xs) S | _ => False)
  | .dict, [.ref a] => (match S a with
    | some (.lst xs) => (match pairsOf xs with | some ps => keysAll ps ∧ ps.length ≤ szLine ∧ alloc S (.dic (mergeK [] ps)) Q | none => False)
    | _ => False)
  | .set, [.ref a] => (match S a with
    | some (.lst xs) => (∀ x ∈ xs, x.isInt = true) ∧ xs.length < 4000 ∧ alloc S (.set xs) Q
    | _ => False)
  | .sorted, [.ref a] => (match S a with
    | some (.lst xs) => sortable xs ∧ ∀ ys, ys.Perm xs → sorted1 ys → alloc S (.lst ys) Q
    | some (.dic kvs) => ((∀ p ∈ kvs, p.1.isPair = true) ∧ ∀ ys, ys.Perm (kvs.map (·.1)) → sorted1 ys → alloc S (.lst ys) Q) ∨
        ((∀ p ∈ kvs, p.1.isStr = true) ∧ kvs.length < 60 ∧ ∀ ys, ys.Perm (kvs.map (·.1)) → alloc S (.lst ys) Q)
    | some (.set xs) => xs.length < 60 ∧ (∀ x ∈ xs, x.isInt = true) ∧ ∀ ys : List Int, ys.Pairwise (· < ·) → (∀ i, i ∈ ys ↔ D.int i ∈ xs) → alloc S (.lst (ys.map .int)) Q
    | _ => False)
  | .min, [.int i, .int j] => Q (.int (if j < i then j else i)) S
  | .max, [.int i, .int j] => Q (.int (if i < j then j else i)) S
  | .min, [.ref a] => (match S a with
    | some (.lst xs) => xs ≠ [] ∧ (∀ x ∈ xs, x.isInt = true) ∧ ∀ m, m ∈ xs → (∀ x ∈ xs, ltD x m = false) → Q m S
    | _ => False)
  | .max, [.ref a] => (match S a with
    | some (.lst xs) => xs ≠ [] ∧ (∀ x ∈ xs, x.isInt = true) ∧ ∀ m, m ∈ xs → (∀ x ∈ xs, ltD m x = false) → Q m S
    | _ => False)
  | .isinst, [x, t] => rIsi x t S fun b => Q (.bl b) S
  | _, _ => False
def rLm (m : LM) (d : D) (ds : List D) (S : Store) (Q : DQ) : Prop := match d with
  | .ref a => (match S a with
    | some (.lst xs) => (match m, ds with
      | .append, [y] => xs.length < szLine ∧ Q .non (put S a (.lst (xs ++ [y])))
      | .extend, [.ref b] => (match S b with
        | some (.lst ys) => xs.length + ys.length ≤ szLine ∧ Q .non (put S a (.lst (xs ++ ys)))
        | _ => False)
      | .pop, [.int i] => (match ixN xs.length i with
        | some n => (match xs[n]? with | some y => Q y (put S a (.lst (xs.eraseIdx n))) | none => False)
        | none => False)
      | .index, [y] => (match res S deep y, optL (xs.map (res S deep)) with
        | some t, some ts => (match ts.findIdx? fun u => eqT u t with | some n => Q (.int n) S | none => False)
        | _, _ => False)
      | .remove, [.int i] => (match intsOf xs with
        | some ns => i ∈ ns ∧ Q .non (put S a (.lst ((ns.erase i).map .int)))
        | none => False)
      | .reverse, [] => Q .non (put S a (.lst xs.reverse))
      | .clear, [] => Q .non (put S a (.lst []))
      | _, _ => False)
    | _ => False)
  | _ => False
def rDm (m : DM) (d : D) (ds : List D) (S : Store) (Q : DQ) : Prop := match d with
  | .ref a => (match S a with
    | some (.dic kvs) => (match m, ds with
      | .get, [k] => keysOk k kvs ∧ Q ((look kvs k).getD .non) S
      | .get, [k, v] => keysOk k kvs ∧ Q ((look kvs k).getD v) S
      | .pop, [k] => keysOk k kvs ∧ (match look kvs k with | some v => Q v (put S a (.dic (dropK kvs k))) | none => False)
      | .pop, [k, v] => keysOk k kvs ∧ Q ((look kvs k).getD v) (put S a (.dic (dropK kvs k)))
      | .update, [.ref b] => (match S b with
        | some (.lst xs) => (match pairsOf xs with
          | some ps => keysAll (kvs ++ ps) ∧ kvs.length + ps.length ≤ szLine ∧ a ≠ b ∧ Q .non (put S a (.dic (mergeK kvs ps)))
          | none => False)
        | some (.dic ps) => (∀ p ∈ kvs ++ ps, p.1.flatKey = true) ∧ kvs.length + ps.length ≤ szLine ∧ a ≠ b ∧ Q .non (put S a (.dic (mergeK kvs ps)))
        | _ => False)
      | _, _ => False)
    | some (.fdc kvs) => (match m, ds with
      | .get, [k] => keysOk k kvs ∧ Q ((look kvs k).getD .non) S
      | .get, [k, v] => keysOk k kvs ∧ Q ((look kvs k).getD v) S
      | _, _ => False)
    | _ => False)
  | _ => False
def rSm (m : SM) (d : D) (ds : List D) (S : Store) (Q : DQ) : Prop := match m, d, ds with
  | .split, .str s, [.str c] => (match c.toList with
    | [ch] => ch.toNat < 256 ∧ s.length + 2 ≤ szLine ∧ alloc S (.lst ((splitC ch s.toList).map fun w => .str (String.ofList w))) Q
    | _ => False)
  | .join, .str c, [.ref a] => (match S a with
    | some (.lst xs) => (match strsOf xs with
      | some ss => (ss.map String.length).sum + ss.length * c.length ≤ szLine ∧ Q (.str (joinS c ss)) S
      | none => False)
    | _ => False)
  | _, _, _ => False
def rAttr (d : D) (f : String) (S : Store) (Q : DQ) : Prop := match d with
  | .ref a => (match S a with
    | some (.ins _ fs) => (match fs.lookup f with | some v => Q v S | none => False)
    | _ => False)
  | _ => False
def putF (f : String) (v : D) : List (String × D) → List (String × D)
  | [] => [(f, v)]
  | (g, u) :: r => if g = f then (f, v) :: r else (g, u) :: putF f v r
def rSetA (d : D) (f : String) (v : D) (S : Store) (K : Store → Prop) : Prop := match d with
  | .ref a => (match S a with
    | some (.ins c fs) => fs.length < 100 ∧ K (put S a (.ins c (putF f v fs)))
    | _ => False)
  | _ => False
def rSetI (d i v : D) (S : Store) (K : Store → Prop) : Prop := match d with
  | .ref a => (match S a with
    | some (.lst xs) => asI i fun j => (match ixN xs.length j with | some n => K (put S a (.lst (xs.set n v))) | none => False)
    | some (.dic kvs) => keysOk i kvs ∧ kvs.length < szLine ∧ K (put S a (.dic (putK kvs i v)))
    | _ => False)
  | _ => False

/-! ### targets, walks -/
def setNs (δ : DSt) : List Nat → List D → Option DSt
  | [], [] => some δ
  | i :: is, d :: ds => setNs (δ.set i (some d)) is ds
  | _, _ => none
def rTg (tg : Tg) (d : D) (S : Store) (δ : DSt) (K : DSt → Prop) : Prop := match tg with
  | .v i => K (δ.set i (some d))
  | .t is => (match d with
    | .tup ds => (match setNs δ is ds with | some δ' => K δ' | none => False)
    | _ => False)
/-- what is walked: its items, and that it stands still -/
structure Walk where
  its : List D
  ok : Store → Prop
/-- the walked thing stands as it stood -/
def stands (S : Store) (d : D) (S' : Store) : Prop := match d with
  | .ref a => S' a = S a
  | _ => True
def wOver (d : D) (S : Store) (K : Walk → Prop) : Prop := match items S d with
  | some xs => K ⟨xs, stands S d⟩
  | none => False
def wRng (lo hi : Int) (K : Walk → Prop) : Prop := -(2 ^ 61) < lo ∧ lo < 2 ^ 61 ∧ -(2 ^ 61) < hi ∧ hi < 2 ^ 61 ∧
  K ⟨(List.range (hi - lo).toNat).map fun k => .int (lo + (k : Nat)), fun _ => True⟩
def wEnum (d : D) (S : Store) (K : Walk → Prop) : Prop := match d with
  | .ref a => (match S a with
    | some (.lst xs) => K ⟨(List.range xs.length).map fun k => .tup [.int (k : Nat), xs.getD k .non], stands S (.ref a)⟩
    | _ => False)
  | _ => False
def wipe (δ : DSt) : List Nat → DSt
  | [] => δ
  | i :: is => (wipe δ is).set i none
/-- a comprehension's turns -/
def lcItems (tg : D → Store → (DSt → Prop) → Prop) (ts : DSt → Store → (Bool → Store → Prop) → Prop) (el : DSt → Store → DQ → Prop) (ok : Store → Prop) (K : List D → Store → Prop) : List D → List D → Store → Prop
  | [], acc, S => ok S ∧ K acc S
  | x :: xs, acc, S => ok S ∧ tg x S fun δ => ts δ S fun b S1 =>
      if b then el δ S1 fun d S2 => acc.length < szLine ∧ lcItems tg ts el ok K xs (acc ++ [d]) S2 else lcItems tg ts el ok K xs acc S1

/-- how many, of unlike pairs -/
def rLens (d : D) (S : Store) (Q : DQ) : Prop := match d with
  | .ref a => (match S a with
    | some (.lst xs) => (∀ x ∈ xs, x.isPair = true) ∧ xs.Nodup ∧ xs.length < 64 ∧ Q (.int xs.length) S
    | _ => False)
  | _ => False
/-- a written dict asked: a text, what is told else -/
def rTget (kvs : List (String × Int)) (ds : List D) (S : Store) (Q : DQ) : Prop := match ds with
  | [.str s, .int i] => Q (.int ((kvs.lookup s).getD i)) S
  | _ => False
/-- refusals -/
def plainX : List String := ["BadHouse", "BadDay", "BadWorth", "BadLife", "NotOwn", "BadLetter", "BadTies", "NoWay"]
def newsX : List String := plainX ++ ["BadRow", "BadText"]
def wordD (x : DX) (k : D → Prop) : Prop :=
  (x.cls ∈ plainX ∧ k (.tup [.str x.cls, .int 0])) ∨ (x.cls = "BadRow" ∧ ∃ i : Int, x.val = some ("number", .int i) ∧ k (.tup [.str x.cls, .int i])) ∨ (x.cls = "BadText" ∧ ∃ i : Int, x.val = some ("row", .int i) ∧ k (.tup [.str x.cls, .int i]))
def rCnt (b : Bool) (d : D) (S : Store) (Q : DQ) : Prop := match d with
  | .ref a => (match S a with
    | some (.lst xs) => (∀ x ∈ xs, ∃ c, x = .bl c) ∧ Q (.int (xs.count (.bl b))) S
    | _ => False)
  | _ => False
mutual
def wpE (Φ : Fenv) (W : DE) : ME → DSt → Store → DQ → Prop
  | .lit d, _, S, Q => Q d S
  | .var i, δ, S, Q => getS δ i fun d => Q d S
  | .bin op a b, δ, S, Q => wpE Φ W a δ S fun x S1 => wpE Φ W b δ S1 fun y S2 => rBin op x y S2 Q
  | .neg a, δ, S, Q => wpE Φ W a δ S fun x S1 => asI x fun i => Q (.int (-i)) S1
  | .cmp op a b, δ, S, Q => wpE Φ W a δ S fun x S1 => wpE Φ W b δ S1 fun y S2 => rCmp op x y S2 fun k => Q (.bl k) S2
  | .cmp2 o1 o2 a b c, δ, S, Q => wpE Φ W a δ S fun x S1 => wpE Φ W b δ S1 fun y S2 => rCmp o1 x y S2 fun k =>
      if k then wpE Φ W c δ S2 fun z S3 => rCmp o2 y z S3 fun k => Q (.bl k) S3 else Q (.bl false) S2
  | .and_ a b, δ, S, Q => wpE Φ W a δ S fun x S1 => asB x fun c => if c then wpE Φ W b δ S1 Q else Q (.bl false) S1
  | .or_ a b, δ, S, Q => wpE Φ W a δ S fun x S1 => asB x fun c => if c then Q (.bl true) S1 else wpE Φ W b δ S1 Q
  | .not_ a, δ, S, Q => wpE Φ W a δ S fun x S1 => asB x fun c => Q (.bl (!c)) S1
  | .ife c a b, δ, S, Q => wpE Φ W c δ S fun x S1 => asB x fun k => if k then wpE Φ W a δ S1 Q else wpE Φ W b δ S1 Q
  | .tup es, δ, S, Q => wpEs Φ W es δ S fun ds S1 => ds.length ≤ szLine ∧ Q (.tup ds) S1
  | .lst es, δ, S, Q => wpEs Φ W es δ S fun ds S1 => ds.length ≤ szLine ∧ alloc S1 (.lst ds) Q
  | .dct es, δ, S, Q => wpEs Φ W es δ S fun ds S1 => match pairUp ds with | some ps => (∀ p ∈ ps, p.1.flatKey = true) ∧ ps.length ≤ 15 ∧ alloc S1 (.dic (mergeK [] ps)) Q | none => False
  | .attr e f, δ, S, Q => wpE Φ W e δ S fun d S1 => rAttr d f S1 Q
  | .ix e i, δ, S, Q => wpE Φ W e δ S fun x S1 => wpE Φ W i δ S1 fun y S2 => rIx x y S2 Q
  | .slc e lo hi, δ, S, Q => wpE Φ W e δ S fun x S1 => wpEo Φ W lo δ S1 fun l S2 => intO l ∧ wpEo Φ W hi δ S2 fun h S3 => intO h ∧ rSlc x l h S3 Q
  | .rev e, δ, S, Q => wpE Φ W e δ S fun x S1 => rRev x S1 Q
  | .call f es, δ, S, Q => wpEs Φ W es δ S fun ds S1 => Φ "" f ds S1 Q W
  | .mk c es, δ, S, Q => wpEs Φ W es δ S fun ds S1 => ∀ p, S1 p = none → Φ c "__init__" (.ref p :: ds) (put S1 p (.ins c [])) (fun d S2 => d = .non ∧ Q (.ref p) S2) W
  | .bi f es, δ, S, Q => wpEs Φ W es δ S fun ds S1 => rBi f ds S1 Q
  | .om cl e m es, δ, S, Q => wpE Φ W e δ S fun d S1 => match d with
    | .ref a => (match S1 a with
      | some (.ins c fs) => c = cl ∧ fs.lookup m = none ∧ wpEs Φ W es δ S1 fun ds S2 => Φ cl m (.ref a :: ds) S2 Q W
      | _ => False)
    | _ => False
  | .lm e m es, δ, S, Q => wpE Φ W e δ S fun d S1 => (match d with | .ref a => (match S1 a with | some (.lst _) => True | _ => False) | _ => False) ∧ wpEs Φ W es δ S1 fun ds S2 => rLm m d ds S2 Q
  | .dm e m es, δ, S, Q => wpE Φ W e δ S fun d S1 => (match d with | .ref a => (match S1 a with | some (.dic _) => True | some (.fdc _) => True | _ => False) | _ => False) ∧ wpEs Φ W es δ S1 fun ds S2 => rDm m d ds S2 Q
  | .sm e m es, δ, S, Q => wpE Φ W e δ S fun d S1 => (match d with | .str _ => True | _ => False) ∧ wpEs Φ W es δ S1 fun ds S2 => rSm m d ds S2 Q
  | .alt a b, δ, S, Q => wpE Φ W a δ S Q ∨ wpE Φ W b δ S Q
  | .lock e, δ, S, Q => ∃ a kvs, S a = some (.dic kvs) ∧ wpE Φ (fun _ _ => False) e δ (put S a (.fdc kvs)) fun d S' => S' a = some (.fdc kvs) ∧ Q d (put S' a (.dic kvs))
  | .tag _ a, δ, S, Q => wpE Φ W a δ S Q
  | .lens e, δ, S, Q => wpE Φ W e δ S fun d S1 => rLens d S1 Q
  | .tget _ kvs es, δ, S, Q => wpEs Φ W es δ S fun ds S1 => rTget kvs ds S1 Q
  | .word e, δ, S, Q => wpE Φ (fun x S' => wordD x fun d => Q d S') e δ S Q
  | .isE i c, δ, S, Q => getS δ i fun d => Φ "$is" c [d] S Q W
  | .exF i f, δ, S, Q => getS δ i fun d => Φ "$fld" f [d] S Q W
  | .cnt e b, δ, S, Q => wpE Φ W e δ S fun d S1 => rCnt b d S1 Q
  | .lc elt tg it ifs own, δ, S, Q => wpI Φ W it δ S fun J S1 =>
      lcItems (fun d S' K => rTg tg d S' (wipe δ own) K)
        (fun δ' S' K => wpEo Φ (fun _ _ => False) ifs δ' S' fun o S2 => match o with | none => K true S2 | some d => asB d fun b => K b S2)
        (fun δ' S' Q => wpE Φ (fun _ _ => False) elt δ' S' Q) J.ok (fun acc S2 => alloc S2 (.lst acc) Q) J.its [] S1
def wpEs (Φ : Fenv) (W : DE) : MEs → DSt → Store → (List D → Store → Prop) → Prop
  | .n, _, S, Q => Q [] S
  | .c e es, δ, S, Q => wpE Φ W e δ S fun d S1 => wpEs Φ W es δ S1 fun ds S2 => Q (d :: ds) S2
def wpEo (Φ : Fenv) (W : DE) : MEo → DSt → Store → (Option D → Store → Prop) → Prop
  | .n, _, S, Q => Q none S
  | .s e, δ, S, Q => wpE Φ W e δ S fun d S1 => Q (some d) S1
def wpI (Φ : Fenv) (W : DE) : MI → DSt → Store → (Walk → Store → Prop) → Prop
  | .over e, δ, S, K => wpE Φ W e δ S fun d S1 => wOver d S1 fun J => K J S1
  | .rng e, δ, S, K => wpE Φ W e δ S fun d S1 => asI d fun j => wRng 0 j fun J => K J S1
  | .rng2 a b, δ, S, K => wpE Φ W a δ S fun x S1 => wpE Φ W b δ S1 fun y S2 => asI x fun i => asI y fun j => wRng i j fun J => K J S2
  | .enum e, δ, S, K => wpE Φ W e δ S fun d S1 => wEnum d S1 fun J => K J S1
end

structure DEnds where
  nx : DSt → Store → Prop
  rt : DQ
def forItems (tg : D → Store → DSt → (DSt → Prop) → Prop) (ok : Store → Prop) (body : DEnds → DSt → Store → Prop) (E : DEnds) : List D → DSt → Store → Prop
  | [], δ, S => ok S ∧ E.nx δ S
  | x :: xs, δ, S => ok S ∧ tg x S δ fun δ' => body ⟨fun δ2 S2 => forItems tg ok body E xs δ2 S2, E.rt⟩ δ' S
def whileN (test : DSt → Store → (Bool → Store → Prop) → Prop) (body : DEnds → DSt → Store → Prop) (E : DEnds) : Nat → DSt → Store → Prop
  | 0, _, _ => False
  | n + 1, δ, S => test δ S fun b S1 => if b then body ⟨fun δ2 S2 => whileN test body E n δ2 S2, E.rt⟩ δ S1 else E.nx δ S1
mutual
def wpS (Φ : Fenv) (W : DE) : MS → DEnds → DSt → Store → Prop
  | .expr e, E, δ, S => wpE Φ W e δ S fun _ S1 => E.nx δ S1
  | .set i e, E, δ, S => wpE Φ W e δ S fun d S1 => E.nx (δ.set i (some d)) S1
  | .setA o f e, E, δ, S => wpE Φ W e δ S fun v S1 => wpE Φ W o δ S1 fun d S2 => rSetA d f v S2 fun S3 => E.nx δ S3
  | .setI o i e, E, δ, S => wpE Φ W e δ S fun v S1 => wpE Φ W o δ S1 fun d S2 => wpE Φ W i δ S2 fun j S3 => rSetI d j v S3 fun S4 => E.nx δ S4
  | .setI2 o1 i1 o2 i2 e1 e2, E, δ, S => wpE Φ W (.tup (.c e1 (.c e2 .n))) δ S fun v S2 => (match v with
      | .tup [v1, v2] => wpE Φ W o1 δ S2 fun d S3 => wpE Φ W i1 δ S3 fun j S4 => rSetI d j v1 S4 fun S5 =>
        wpE Φ W o2 δ S5 fun d S6 => wpE Φ W i2 δ S6 fun j S7 => rSetI d j v2 S7 fun S8 => E.nx δ S8
      | _ => False)
  | .unp tg e, E, δ, S => wpE Φ W e δ S fun d S1 => rTg tg d S1 δ fun δ' => E.nx δ' S1
  | .par is es, E, δ, S => wpEs Φ W es δ S fun ds S1 => match setNs δ is ds with | some δ' => E.nx δ' S1 | none => False
  | .ret e, E, δ, S => wpE Φ W e δ S E.rt
  | .ret0, E, _, S => E.rt .non S
  | .pass, E, δ, S => E.nx δ S
  | .ife c a b, E, δ, S => wpE Φ W c δ S fun d S1 => asB d fun k => if k then wpSs Φ W a E δ S1 else wpSs Φ W b E δ S1
  | .for_ tg it body, E, δ, S => wpI Φ W it δ S fun J S1 => forItems (fun d S' δ' K => rTg tg d S' δ' K) J.ok (fun E' δ' S' => wpSs Φ W body E' δ' S') E J.its δ S1
  | .whl c body, E, δ, S => ∃ n, whileN (fun δ' S' K => wpE Φ W c δ' S' fun d S1 => asB d fun b => K b S1) (fun E' δ' S' => wpSs Φ W body E' δ' S') E n δ S
  | .raise c, _, _, S => W ⟨c, none⟩ S
  | .never, _, _, _ => False
  | .frz _ s, E, δ, S => wpS Φ W s E δ S
  | .tryR e d, E, δ, S => wpE Φ (fun x S' => x.cls ∈ newsX ∧ E.rt d S') e δ S E.rt
  | .raise1 c f e, _, δ, S => wpE Φ W e δ S fun d S1 => W ⟨c, some (f, d)⟩ S1
  | .lock s, E, δ, S => ∃ a kvs, S a = some (.dic kvs) ∧ wpS Φ (fun _ _ => False) s ⟨fun δ' S' => S' a = some (.fdc kvs) ∧ E.nx δ' (put S' a (.dic kvs)), fun v S' => S' a = some (.fdc kvs) ∧ E.rt v (put S' a (.dic kvs))⟩ δ (put S a (.fdc kvs))
def wpSs (Φ : Fenv) (W : DE) : MSs → DEnds → DSt → Store → Prop
  | .n, E, δ, S => E.nx δ S
  | .c s ss, E, δ, S => wpS Φ W s ⟨fun δ' S' => ∃ S2, Le S2 S' ∧ wpSs Φ W ss E δ' S2, E.rt⟩ δ S
end

/-! ### programs -/
structure MDef where
  ar : Nat
  sl : Nat
  body : MSs
abbrev Prg := List ((String × String) × MDef)
def run (P : Prg) : Nat → Fenv
  | 0, _, _, _, _, _, _ => False
  | k + 1, c, f, args, S, Q, W => match P.lookup (c, f) with
    | some m => args.length = m.ar ∧ wpSs (run P k) W m.body ⟨fun _ S' => Q .non S', Q⟩ (args.map some ++ List.replicate (m.sl - m.ar) none) S
    | none => False
end Nf
set_option Elab.async false
set_option linter.all false
set_option maxRecDepth 100000
/-! NfLift: data and stores against the hand layer's values and heaps; readings lifted. -/
namespace Nf
open PySem PySem.Spec L2
open PyProof.Rows hiding St

/-- what is fixed through a law -/
structure Cfg where
  P : Program
  w : World
  K : PySem.W.Frag
  mg : Str → Option Value
  base : Heap
  classes : List String
  fields : List String
  /-- tables of code objects, and the name of what they hold -/
  T : List (Addr × Str) := []
  /-- exceptions' dicts -/
  F : List (Addr × List (Str × V)) := []

abbrev os (s : String) : Str := Str.ofString s
theorem os_cps (s : String) : (os s).cps.toList = s.toList.map Char.toNat := by
  show (Str.ofString s).cps.toList = _
  rw [Str.ofString_eq_toList]
theorem map_toNat_inj : ∀ {a b : List Char}, a.map Char.toNat = b.map Char.toNat → a = b
  | [], [], _ => rfl
  | [], _ :: _, h => by simp at h
  | _ :: _, [], h => by simp at h
  | x :: xs, y :: ys, h => by
    simp only [List.map_cons, List.cons.injEq] at h
    rw [map_toNat_inj h.2]
    have : x = y := Char.toNat_inj.mp h.1
    rw [this]
theorem os_inj {a b : String} (h : os a = os b) : a = b := by
  have h1 := os_cps a
  rw [h, os_cps b] at h1
  have h2 := map_toNat_inj h1
  exact (String.toList_inj.mp h2).symm
theorem os_eq {a b : String} : (os a = os b) = (a = b) := propext ⟨os_inj, fun e => by rw [e]⟩
theorem os_length (s : String) : (os s).length = s.length := by
  show (os s).cps.size = _
  rw [← Array.length_toList, os_cps, List.length_map, String.length_toList]

def KSeq (K : PySem.W.Frag) (a : Addr) (xs : List V) : Prop :=
  ∃ (o : Obj) (its : Array Value) (n : Nat), K.lookup a = some o ∧ o.cls = .type "list" ∧ o.dict = none ∧ o.data = .seq its n ∧ its.size ≤ sizeLine ∧ Vals xs its.toList
mutual
def RepV (c : Cfg) (H : Hp) : D → V → Prop
  | .non, v => v = .non
  | .bl b, v => v = .bl b
  | .int i, v => v = .int i
  | .str s, v => v = .str (os s)
  | .ty n, v => v = .ty n
  | .cls n, v => v = .ref (He.ga c.K (os n))
  | .ref a, v => v = .ref a
  | .frz ns, v => ∃ a, v = .ref a ∧ ((∃ o, H a = some (.frz o (.lst (ns.map V.int)))) ∨ KSeq c.K a (ns.map V.int))
  | .tup ds, v => ∃ a vs, v = .ref a ∧ H a = some (.tup vs) ∧ RepL c H ds vs
def RepL (c : Cfg) (H : Hp) : List D → List V → Prop
  | [], vs => vs = []
  | d :: ds, vs => ∃ v vs', vs = v :: vs' ∧ RepV c H d v ∧ RepL c H ds vs'
end
/-- what stays by itself -/
def Ext (H H' : Hp) : Prop := (∀ a xs, H a = some (.tup xs) → H' a = some (.tup xs)) ∧ ∀ a o vs, H a = some (.frz o (.lst vs)) → H' a = some (.frz o (.lst vs))
mutual
theorem RepV.ext {c : Cfg} {H H' : Hp} (e : Ext H H') : ∀ {d : D} {v : V}, RepV c H d v → RepV c H' d v
  | .non, _, h => h
  | .bl _, _, h => h
  | .int _, _, h => h
  | .str _, _, h => h
  | .ty _, _, h => h
  | .cls _, _, h => h
  | .ref _, _, h => h
  | .frz ns, v, h => by
    simp only [RepV] at h ⊢
    obtain ⟨a, e1, h⟩ := h
    refine ⟨a, e1, h.imp (fun ⟨o, q⟩ => ⟨o, e.2 _ _ _ q⟩) id⟩
  | .tup ds, v, h => by
    simp only [RepV] at h ⊢
    obtain ⟨a, vs, e1, h1, h2⟩ := h
    exact ⟨a, vs, e1, e.1 _ _ h1, RepL.ext e h2⟩
theorem RepL.ext {c : Cfg} {H H' : Hp} (e : Ext H H') : ∀ {ds : List D} {vs : List V}, RepL c H ds vs → RepL c H' ds vs
  | [], _, h => h
  | d :: ds, vs, h => by
    simp only [RepL] at h ⊢
    obtain ⟨v, vs', e1, h1, h2⟩ := h
    exact ⟨v, vs', e1, RepV.ext e h1, RepL.ext e h2⟩
end
section
variable {c : Cfg} {H : Hp}
theorem RepL.nil : RepL c H [] [] := rfl
theorem RepL.cons {d : D} {v : V} {ds : List D} {vs : List V} (h : RepV c H d v) (t : RepL c H ds vs) : RepL c H (d :: ds) (v :: vs) := ⟨v, vs, rfl, h, t⟩
theorem RepL.cases_cons {d : D} {ds : List D} {vs : List V} (h : RepL c H (d :: ds) vs) : ∃ v vs', vs = v :: vs' ∧ RepV c H d v ∧ RepL c H ds vs' := h
theorem RepL.nil_eq {vs : List V} (h : RepL c H [] vs) : vs = [] := h
theorem RepL.length : ∀ {ds : List D} {vs : List V}, RepL c H ds vs → ds.length = vs.length
  | [], _, h => by rw [RepL.nil_eq h]; rfl
  | d :: ds, _, h => by
    obtain ⟨v, vs, rfl, _, t⟩ := RepL.cases_cons h
    simp [RepL.length t]
theorem RepL.append : ∀ {ds es : List D} {vs us : List V}, RepL c H ds vs → RepL c H es us → RepL c H (ds ++ es) (vs ++ us)
  | [], _, _, _, h, t => by rw [RepL.nil_eq h]; exact t
  | d :: ds, _, _, _, h, t => by
    obtain ⟨v, vs, rfl, h1, h2⟩ := RepL.cases_cons h
    exact RepL.cons h1 (RepL.append h2 t)
theorem RepL.get : ∀ {ds : List D} {vs : List V} {i : Nat} {d : D}, RepL c H ds vs → ds[i]? = some d → ∃ v, vs[i]? = some v ∧ RepV c H d v
  | [], _, _, _, _, e => by simp at e
  | x :: ds, _, 0, d, h, e => by
    obtain ⟨v, vs, rfl, h1, h2⟩ := RepL.cases_cons h
    simp at e; subst e
    exact ⟨v, rfl, h1⟩
  | x :: ds, _, i + 1, d, h, e => by
    obtain ⟨v, vs, rfl, h1, h2⟩ := RepL.cases_cons h
    obtain ⟨u, e2, r⟩ := RepL.get (i := i) (d := d) h2 (by simpa using e)
    exact ⟨u, by simpa using e2, r⟩
theorem RepL.getV : ∀ {ds : List D} {vs : List V} {i : Nat} {v : V}, RepL c H ds vs → vs[i]? = some v → ∃ d, ds[i]? = some d ∧ RepV c H d v
  | [], _, _, _, h, e => by rw [RepL.nil_eq h] at e; simp at e
  | x :: ds, _, 0, d, h, e => by
    obtain ⟨v, vs, rfl, h1, h2⟩ := RepL.cases_cons h
    simp at e; subst e
    exact ⟨x, rfl, h1⟩
  | x :: ds, _, i + 1, d, h, e => by
    obtain ⟨v, vs, rfl, h1, h2⟩ := RepL.cases_cons h
    obtain ⟨u, e2, r⟩ := RepL.getV (i := i) (v := d) h2 (by simpa using e)
    exact ⟨u, by simpa using e2, r⟩
theorem RepL.set {d : D} {v : V} (r : RepV c H d v) : ∀ {ds : List D} {vs : List V} (i : Nat), RepL c H ds vs → RepL c H (ds.set i d) (vs.set i v)
  | [], _, _, h => by rw [RepL.nil_eq h]; exact RepL.nil
  | x :: ds, _, 0, h => by
    obtain ⟨u, vs, rfl, h1, h2⟩ := RepL.cases_cons h
    exact RepL.cons r h2
  | x :: ds, _, i + 1, h => by
    obtain ⟨u, vs, rfl, h1, h2⟩ := RepL.cases_cons h
    exact RepL.cons h1 (RepL.set r i h2)
theorem RepL.take : ∀ {ds : List D} {vs : List V} (n : Nat), RepL c H ds vs → RepL c H (ds.take n) (vs.take n)
  | _, _, 0, _ => RepL.nil
  | [], _, n + 1, h => by rw [RepL.nil_eq h]; exact RepL.nil
  | x :: ds, _, n + 1, h => by
    obtain ⟨u, vs, rfl, h1, h2⟩ := RepL.cases_cons h
    exact RepL.cons h1 (RepL.take n h2)
theorem RepL.drop : ∀ {ds : List D} {vs : List V} (n : Nat), RepL c H ds vs → RepL c H (ds.drop n) (vs.drop n)
  | _, _, 0, h => h
  | [], _, n + 1, h => by rw [RepL.nil_eq h]; exact RepL.nil
  | x :: ds, _, n + 1, h => by
    obtain ⟨u, vs, rfl, h1, h2⟩ := RepL.cases_cons h
    exact RepL.drop n h2
theorem RepL.eraseIdx : ∀ {ds : List D} {vs : List V} (n : Nat), RepL c H ds vs → RepL c H (ds.eraseIdx n) (vs.eraseIdx n)
  | [], _, n, h => by rw [RepL.nil_eq h]; exact RepL.nil
  | x :: ds, _, 0, h => by
    obtain ⟨u, vs, rfl, h1, h2⟩ := RepL.cases_cons h
    exact h2
  | x :: ds, _, n + 1, h => by
    obtain ⟨u, vs, rfl, h1, h2⟩ := RepL.cases_cons h
    exact RepL.cons h1 (RepL.eraseIdx n h2)
theorem RepL.reverse {ds : List D} {vs : List V} (h : RepL c H ds vs) : RepL c H ds.reverse vs.reverse := by
  induction ds generalizing vs with
  | nil => rw [RepL.nil_eq h]; exact RepL.nil
  | cons d ds ih =>
    obtain ⟨u, vs, rfl, h1, h2⟩ := RepL.cases_cons h
    rw [List.reverse_cons, List.reverse_cons]
    exact RepL.append (ih h2) (RepL.cons h1 RepL.nil)
theorem RepL.rep {ds : List D} {vs : List V} (h : RepL c H ds vs) : ∀ k : Nat, RepL c H (List.replicate k ds).flatten (List.replicate k vs).flatten
  | 0 => RepL.nil
  | k + 1 => by
    rw [List.replicate_succ, List.replicate_succ, List.flatten_cons, List.flatten_cons]
    exact RepL.append h (RepL.rep h k)
theorem RepL.ints : ∀ (ns : List Int), RepL c H (ns.map D.int) (ns.map V.int)
  | [] => RepL.nil
  | n :: ns => RepL.cons rfl (RepL.ints ns)
end

/-! ### dicts -/
/-- a dict whose keys are tuples, by its entries: key, hash, value -/
def dictAt (a : Addr) (es : List (V × Int × V)) : HO := .ext fun h => ∃ o arr ep, h.get? a = some o ∧ o.ExactDict ∧ o.data = .dict arr ep ∧
  Paired (fun (p : V × Int × V) (q : DictEntry) => RelV p.1 q.key ∧ p.2.1 = q.hash ∧ RelV p.2.2 q.val) es arr.toList
mutual
/-- the key as the library's kind of keys has it -/
def D.nk : D → NestedKey
  | .int i => .num i
  | .str s => .text (os s)
  | .tup ds => .tup (D.nks ds)
  | _ => .none
def D.nks : List D → List NestedKey
  | [] => []
  | d :: ds => D.nk d :: D.nks ds
end
def D.fk : D → Key
  | .int i => .inl i
  | .str s => .inr (os s)
  | _ => .inl 0
def RepF (c : Cfg) (H : Hp) : List (String × D) → List (Str × V) → Prop := Paired fun p q => q.1 = os p.1 ∧ RepV c H p.2 q.2
def RepKF (c : Cfg) (H : Hp) : List (D × D) → List (Key × V) → Prop := Paired fun p q => q.1 = p.1.fk ∧ RepV c H p.2 q.2
def RepKT (c : Cfg) (H : Hp) : List (D × D) → List (V × Int × V) → Prop := Paired fun p q => RepV c H p.1 q.1 ∧ q.2.1 = p.1.nk.hash c.w ∧ RepV c H p.2 q.2.2
def RepO (c : Cfg) (H : Hp) (a : Addr) : DO → Prop
  | .lst ds => ∃ vs, H a = some (.lst vs) ∧ RepL c H ds vs
  | .dic kvs => (∃ ks, (∀ p ∈ kvs, p.1.flatKey = true) ∧ H a = some (.dK ks) ∧ RepKF c H kvs ks) ∨
      (∃ es, kvs ≠ [] ∧ (∀ p ∈ kvs, p.1.tupKey = true) ∧ (kvs.map (·.1)).Nodup ∧ kvs.length ≤ sizeLine ∧ (a == sysModules) = false ∧ H a = some (dictAt a es) ∧ RepKT c H kvs es)
  | .fdc kvs => (∃ o ks, (∀ p ∈ kvs, p.1.flatKey = true) ∧ H a = some (.frz o (.dK ks)) ∧ RepKF c H kvs ks) ∨
      (∃ o es, kvs ≠ [] ∧ (∀ p ∈ kvs, p.1.tupKey = true) ∧ (kvs.map (·.1)).Nodup ∧ kvs.length ≤ sizeLine ∧ (a == sysModules) = false ∧ H a = some (.frz o (dictAt a es)) ∧ RepKT c H kvs es)
  | .set ds => ∃ Sf n, H a = some (SetO c.w a Sf n) ∧ (∀ x ∈ ds, x.isInt = true) ∧ (∀ i, Sf i = decide (D.int i ∈ ds)) ∧ n ≤ ds.length
  | .ins x fs => x ∈ c.classes ∧ (∀ p ∈ fs, p.1 ∈ c.fields) ∧ ∃ dx fv, H a = some (.ins (He.ga c.K (os x)) dx fv) ∧ RepF c H fs fv
/-- what nothing of a store writes: tables of code objects, code objects, exceptions' dicts -/
def Kp (o : HO) : Prop := (∃ ps, o = .tbl ps) ∨ (∃ a q, o = LamX.CodeO a q) ∨ ∃ fs, o = .xd fs
def TabsN (c : Cfg) (H : Hp) (S : Store) : Prop := (∀ p ∈ c.F, H p.1 = some (.xd p.2) ∧ S p.1 = none) ∧ ∀ p ∈ c.T, S p.1 = none ∧ ∃ ps : Array Value, H p.1 = some (.tbl ps) ∧ TriplesOk ps.toList ∧ ∀ (pos : Pos) (cv : Value), codeAmong pos ps.toList = some cv → ∃ a, cv = .ref a ∧ H a = some (LamX.CodeO a p.2) ∧ S a = none
structure RepS (c : Cfg) (H : Hp) (S : Store) : Prop where
  at_ : ∀ a o, S a = some o → RepO c H a o
  tb : TabsN c H S
instance {c : Cfg} {H : Hp} {S : Store} : CoeFun (RepS c H S) (fun _ => ∀ a o, S a = some o → RepO c H a o) := ⟨RepS.at_⟩
theorem Kp.tbl {ps : Array Value} : Kp (.tbl ps) := .inl ⟨ps, rfl⟩
theorem Kp.code {a : Addr} {q : Str} : Kp (LamX.CodeO a q) := .inr (.inl ⟨a, q, rfl⟩)
theorem Kp.xd {fs : List (Str × V)} : Kp (.xd fs) := .inr (.inr ⟨fs, rfl⟩)
theorem Kp.nlst {vs : List V} (h : Kp (.lst vs)) : False := by
  rcases h with ⟨_, e⟩ | ⟨_, _, e⟩ | ⟨_, e⟩ <;> cases e
theorem Kp.ndK {ks : List (Key × V)} (h : Kp (.dK ks)) : False := by
  rcases h with ⟨_, e⟩ | ⟨_, _, e⟩ | ⟨_, e⟩ <;> cases e
theorem Kp.nfrz {o : Obj} {u : HO} (h : Kp (.frz o u)) : False := by
  rcases h with ⟨_, e⟩ | ⟨_, _, e⟩ | ⟨_, e⟩ <;> cases e
theorem TabsN.step {c : Cfg} {H H' : Hp} {S S' : Store} (t : TabsN c H S) (k : ∀ a o, Kp o → H a = some o → S a = none → H' a = some o ∧ S' a = none) : TabsN c H' S' := ⟨fun p hp => k _ _ Kp.xd (t.1 p hp).1 (t.1 p hp).2, fun p hp => by
  obtain ⟨h1, ps, h2, h3, h4⟩ := t.2 p hp
  have a := k _ _ Kp.tbl h2 h1
  refine ⟨a.2, ps, a.1, h3, fun pos cv hc => ?_⟩
  obtain ⟨b, e1, e2, e3⟩ := h4 pos cv hc
  have d := k _ _ Kp.code e2 e3
  exact ⟨b, e1, d.1, d.2⟩⟩
theorem RepO.is {c : Cfg} {H : Hp} {a : Addr} {o : DO} (h : RepO c H a o) : ∃ u, H a = some u ∧ (∀ xs, u ≠ .tup xs) ∧ (∀ o v, u ≠ .frz o (.lst v)) ∧ (∀ x, u ≠ .own x) ∧ (∀ ps, u ≠ .tbl ps) ∧ ∀ fs, u ≠ .xd fs := by
  cases o with
  | lst ds => obtain ⟨vs, e, _⟩ := h; exact ⟨_, e, fun _ z => (nomatch z), fun _ _ z => (nomatch z), fun _ z => (nomatch z), fun _ z => (nomatch z), fun _ z => (nomatch z)⟩
  | dic kvs =>
    rcases h with ⟨ks, _, e, _⟩ | ⟨es, _, _, _, _, _, e, _⟩
    · exact ⟨_, e, fun _ z => (nomatch z), fun _ _ z => (nomatch z), fun _ z => (nomatch z), fun _ z => (nomatch z), fun _ z => (nomatch z)⟩
    · exact ⟨_, e, fun _ z => (by cases z), fun _ _ z => (by cases z), fun _ z => (by cases z), fun _ z => (by cases z), fun _ z => (by cases z)⟩
  | fdc kvs =>
    rcases h with ⟨o, ks, _, e, _⟩ | ⟨o, es, _, _, _, _, _, e, _⟩
    · exact ⟨_, e, fun _ z => (by cases z), fun _ _ z => (by cases z), fun _ z => (by cases z), fun _ z => (by cases z), fun _ z => (by cases z)⟩
    · exact ⟨_, e, fun _ z => (by cases z), fun _ _ z => (by cases z), fun _ z => (by cases z), fun _ z => (by cases z), fun _ z => (by cases z)⟩
  | set ds => obtain ⟨f, n, e, _⟩ := h; exact ⟨_, e, fun _ z => (by cases z), fun _ _ z => (by cases z), fun _ z => (by cases z), fun _ z => (by cases z), fun _ z => (by cases z)⟩
  | ins x fs => obtain ⟨_, _, dx, fv, e, _⟩ := h; exact ⟨_, e, fun _ z => (nomatch z), fun _ _ z => (nomatch z), fun _ z => (nomatch z), fun _ z => (nomatch z), fun _ z => (nomatch z)⟩
/-- what stands unlocked -/
theorem RepO.open {c : Cfg} {H : Hp} {a : Addr} {o : DO} (h : RepO c H a o) (n : ∀ kvs, o ≠ .fdc kvs) : ∀ ob u, H a ≠ some (.frz ob u) := by
  intro ob u z
  cases o with
  | lst ds => obtain ⟨vs, e, _⟩ := h; rw [e] at z; cases z
  | dic kvs =>
    rcases h with ⟨ks, _, e, _⟩ | ⟨es, _, _, _, _, _, e, _⟩
    · rw [e] at z; cases z
    · rw [e] at z; cases z
  | fdc kvs => exact n kvs rfl
  | set ds => obtain ⟨f, n, e, _⟩ := h; rw [e] at z; cases z
  | ins x fs => obtain ⟨_, _, dx, fv, e, _⟩ := h; rw [e] at z; cases z
theorem RepS.noneN {c : Cfg} {H : Hp} {S : Store} (h : RepS c H S) {p : Addr} (e : H p = none) : S p = none := by
  cases q : S p with
  | none => rfl
  | some o =>
    obtain ⟨u, e2, _⟩ := (h p o q).is
    rw [e] at e2; cases e2
theorem RepS.tupN {c : Cfg} {H : Hp} {S : Store} (h : RepS c H S) {p : Addr} {xs : List V} (e : H p = some (.tup xs)) : S p = none := by
  cases q : S p with
  | none => rfl
  | some o =>
    obtain ⟨u, e2, n, _⟩ := (h p o q).is
    rw [e] at e2; cases e2
    exact absurd rfl (n _)
theorem RepS.frzN {c : Cfg} {H : Hp} {S : Store} (h : RepS c H S) {p : Addr} {o : Obj} {u : List V} (e : H p = some (.frz o (.lst u))) : S p = none := by
  cases q : S p with
  | none => rfl
  | some o =>
    obtain ⟨u, e2, _, n, _⟩ := (h p o q).is
    rw [e] at e2; cases e2
    exact absurd rfl (n _ _)
theorem RepS.ownN {c : Cfg} {H : Hp} {S : Store} (h : RepS c H S) {p x : Addr} (e : H p = some (.own x)) : S p = none := by
  cases q : S p with
  | none => rfl
  | some o =>
    obtain ⟨u, e2, _, _, n, _⟩ := (h p o q).is
    rw [e] at e2; cases e2
    exact absurd rfl (n _)
theorem RepS.xdN {c : Cfg} {H : Hp} {S : Store} (h : RepS c H S) {p : Addr} {fs : List (Str × V)} (e : H p = some (.xd fs)) : S p = none := by
  cases q : S p with
  | none => rfl
  | some o =>
    obtain ⟨u, e2, _, _, _, _, n⟩ := (h p o q).is
    rw [e] at e2; cases e2
    exact absurd rfl (n _)
theorem Paired.mono2 {α β : Type} {F G : α → β → Prop} (h : ∀ a b, F a b → G a b) : ∀ {l₁ : List α} {l₂ : List β}, Paired F l₁ l₂ → Paired G l₁ l₂
  | _, _, .nil => .nil
  | _, _, .cons r t => .cons (h _ _ r) (Paired.mono2 h t)
/-- an object's description, where its own place is as it was -/
theorem RepO.ext {c : Cfg} {H H' : Hp} {a : Addr} {o : DO} (h : RepO c H a o) (e : Ext H H') (k : H' a = H a) : RepO c H' a o := by
  cases o with
  | lst ds => obtain ⟨vs, q, r⟩ := h; exact ⟨vs, by rw [k]; exact q, r.ext e⟩
  | dic kvs =>
    rcases h with ⟨ks, f, q, r⟩ | ⟨es, n, f, nd, z, y, q, r⟩
    · exact .inl ⟨ks, f, by rw [k]; exact q, Paired.mono2 (fun _ _ x => ⟨x.1, x.2.ext e⟩) r⟩
    · exact .inr ⟨es, n, f, nd, z, y, by rw [k]; exact q, Paired.mono2 (fun _ _ x => ⟨x.1.ext e, x.2.1, x.2.2.ext e⟩) r⟩
  | fdc kvs =>
    rcases h with ⟨o, ks, f, q, r⟩ | ⟨o, es, n, f, nd, z, y, q, r⟩
    · exact .inl ⟨o, ks, f, by rw [k]; exact q, Paired.mono2 (fun _ _ x => ⟨x.1, x.2.ext e⟩) r⟩
    · exact .inr ⟨o, es, n, f, nd, z, y, by rw [k]; exact q, Paired.mono2 (fun _ _ x => ⟨x.1.ext e, x.2.1, x.2.2.ext e⟩) r⟩
  | set ds => obtain ⟨f, n, q, r⟩ := h; exact ⟨f, n, by rw [k]; exact q, r⟩
  | ins x fs => obtain ⟨h1, h2, dx, fv, q, r⟩ := h; exact ⟨h1, h2, dx, fv, by rw [k]; exact q, Paired.mono2 (fun _ _ x => ⟨x.1, x.2.ext e⟩) r⟩

/-! ### what stays -/
structure Fr (H : Hp) (S : Store) (H' : Hp) (S' : Store) : Prop where
  keep : ∀ a o, H a = some o → S a = none → (∀ ps, o ≠ .tbl ps) → H' a = some o ∧ S' a = none
  frz : ∀ a o u, H a = some (.frz o u) → H' a = some (.frz o u)
theorem Fr.refl {H : Hp} {S : Store} : Fr H S H S := ⟨fun _ _ h n _ => ⟨h, n⟩, fun _ _ _ h => h⟩
theorem Fr.trans {H H1 H2 : Hp} {S S1 S2 : Store} (x : Fr H S H1 S1) (y : Fr H1 S1 H2 S2) : Fr H S H2 S2 :=
  ⟨fun a o h n t => y.keep a o (x.keep a o h n t).1 (x.keep a o h n t).2 t, fun a o u h => y.frz a o u (x.frz a o u h)⟩
theorem Fr.ext {c : Cfg} {H H' : Hp} {S S' : Store} (x : Fr H S H' S') (hS : RepS c H S) : Ext H H' :=
  ⟨fun a xs e => (x.keep a _ e (hS.tupN e) fun _ z => by cases z).1, fun a o u e => x.frz a o _ e⟩
/-- a code object is nothing that a store holds -/
theorem RepO.nocode {c : Cfg} {H : Hp} {a : Addr} {o : DO} {q : Str} (h : RepO c H a o) (e : H a = some (LamX.CodeO a q)) : False := by
  have key : ∀ φ : Heap → Prop, LamX.CodeO a q = .ext φ → (∀ h, φ h → ∃ o, h.get? a = some o ∧ ∀ vs, o.data ≠ .fields vs) → False := fun φ e k => by
    unfold LamX.CodeO at e
    injection e with e
    obtain ⟨o, ho, n⟩ := k (⟨Array.replicate (a + 1) ⟨.none, none, .fields #[.none, .str q 0], #[]⟩, {}⟩) (by
      rw [← e]
      refine ⟨⟨.none, none, .fields #[.none, .str q 0], #[]⟩, _, 0, ?_, rfl, rfl⟩
      simp [Heap.get?, Obj.isFreed])
    have ho' : (⟨Array.replicate (a + 1) ⟨.none, none, .fields #[.none, .str q 0], #[]⟩, {}⟩ : Heap).get? a = some (⟨.none, none, .fields #[.none, .str q 0], #[]⟩ : Obj) := by simp [Heap.get?, Obj.isFreed]
    rw [ho'] at ho
    cases ho
    exact n _ rfl
  cases o with
  | lst ds => obtain ⟨vs, e2, _⟩ := h; rw [e] at e2; cases e2
  | dic kvs =>
    rcases h with ⟨ks, _, e2, _⟩ | ⟨es, _, _, _, _, _, e2, _⟩
    · rw [e] at e2; cases e2
    · rw [e] at e2
      exact key _ (Option.some.inj e2) fun h ⟨o, arr, ep, h1, _, h2, _⟩ => ⟨o, h1, fun vs z => by rw [h2] at z; cases z⟩
  | fdc kvs =>
    rcases h with ⟨o, ks, _, e2, _⟩ | ⟨o, es, _, _, _, _, _, e2, _⟩
    · rw [e] at e2; cases e2
    · rw [e] at e2; cases e2
  | set ds =>
    obtain ⟨f, n, e2, _⟩ := h
    rw [e] at e2
    exact key _ (Option.some.inj e2) fun h ⟨o, es, ep, t, h1, _, h2, _⟩ => ⟨o, h1, fun vs z => by rw [h2] at z; cases z⟩
  | ins x fs => obtain ⟨_, _, dx, fv, e2, _⟩ := h; rw [e] at e2; cases e2
/-- a lambda was made -/
theorem RepS.lam {c : Cfg} {H H1 : Hp} {S : Store} (h : RepS c H S) (e : LamX.ExtN H H1) (t : LamX.Tabs c.T H1) : RepS c H1 S ∧ Fr H S H1 S := by
  have ex : Ext H H1 := ⟨fun a xs z => e a _ z fun _ z => (by cases z), fun a o u z => e a _ z fun _ z => (by cases z)⟩
  have at_ : ∀ a o, S a = some o → RepO c H1 a o := fun a o z => by
    obtain ⟨u, e2, _, _, _, n, _⟩ := (h a o z).is
    exact (h a o z).ext ex (by rw [e2]; exact e a u e2 n)
  refine ⟨⟨at_, fun p hp => ⟨e _ _ (h.tb.1 p hp).1 fun _ z => (by cases z), (h.tb.1 p hp).2⟩, fun p hp => ?_⟩, fun a o z n q => ⟨e a o z q, n⟩, fun a o u z => e a _ z fun _ z => (by cases z)⟩
  obtain ⟨ps, h1, h2, h3⟩ := t p hp
  refine ⟨(h.tb.2 p hp).1, ps, h1, h2, fun pos cv hc => ?_⟩
  obtain ⟨b, e1, e2⟩ := h3 pos cv hc
  refine ⟨b, e1, e2, ?_⟩
  cases q : S b with
  | none => rfl
  | some o => exact ((at_ b o q).nocode e2).elim
theorem RepS.tabs {c : Cfg} {H : Hp} {S : Store} (h : RepS c H S) : LamX.Tabs c.T H := fun p hp => by
  obtain ⟨_, ps, h1, h2, h3⟩ := h.tb.2 p hp
  exact ⟨ps, h1, h2, fun pos cv hc => let ⟨b, e1, e2, _⟩ := h3 pos cv hc; ⟨b, e1, e2⟩⟩
theorem Fr.drop {H H' : Hp} {S S' S2 : Store} (x : Fr H S H' S') (l : Le S2 S') : Fr H S H' S2 := ⟨fun a o h n t => ⟨(x.keep a o h n t).1, by
  have z := (x.keep a o h n t).2
  cases q : S2 a with
  | none => rfl
  | some u => rw [l a u q] at z; cases z⟩, x.frz⟩
theorem RepS.drop {c : Cfg} {H : Hp} {S S2 : Store} (h : RepS c H S) (l : Le S2 S) : RepS c H S2 := ⟨fun a o e => h a o (l a o e), h.tb.step fun a o _ e n => ⟨e, by
  cases q : S2 a with
  | none => rfl
  | some u => rw [l a u q] at n; cases n⟩⟩

section
variable {c : Cfg} {H : Hp} {S : Store}
/-- a new object, tracked by both -/
theorem RepS.alloc (h : RepS c H S) {p : Addr} {u : HO} {o : DO} (hp : H p = none) (r : RepO c (upd H p u) p o) : RepS c (upd H p u) (put S p o) ∧ Fr H S (upd H p u) (put S p o) := by
  have ex : Ext H (upd H p u) := ⟨fun a xs e => by rw [upd_ne (ne_of_none e hp)]; exact e, fun a o u' e => by rw [upd_ne (ne_of_none e hp)]; exact e⟩
  refine ⟨⟨fun a q e => ?_, h.tb.step fun a q _ e n => ?_⟩, fun a q e n _ => ?_, fun a o u' e => by rw [upd_ne (ne_of_none e hp)]; exact e⟩
  · by_cases ha : a = p
    · subst ha
      rw [put_same] at e; cases e
      exact r
    · rw [put_ne ha] at e
      exact (h a q e).ext ex (upd_ne ha)
  · have ha : a ≠ p := ne_of_none e hp
    exact ⟨by rw [upd_ne ha]; exact e, by rw [put_ne ha]; exact n⟩
  · have ha : a ≠ p := ne_of_none e hp
    exact ⟨by rw [upd_ne ha]; exact e, by rw [put_ne ha]; exact n⟩
/-- a new object that the store doesn't hold (a tuple, an instance's dict) -/
theorem RepS.laid (h : RepS c H S) {p : Addr} {u : HO} (hp : H p = none) : RepS c (upd H p u) S ∧ Fr H S (upd H p u) S := by
  have ex : Ext H (upd H p u) := ⟨fun a xs e => by rw [upd_ne (ne_of_none e hp)]; exact e, fun a o u' e => by rw [upd_ne (ne_of_none e hp)]; exact e⟩
  refine ⟨⟨fun a q e => ?_, h.tb.step fun a q _ e n => ⟨by rw [upd_ne (ne_of_none e hp)]; exact e, n⟩⟩, fun a q e n _ => ⟨by rw [upd_ne (ne_of_none e hp)]; exact e, n⟩, fun a o u' e => by rw [upd_ne (ne_of_none e hp)]; exact e⟩
  have r := h a q e
  obtain ⟨v, e2, _⟩ := r.is
  exact r.ext ex (upd_ne (ne_of_none e2 hp))
/-- an object of the store is written -/
theorem RepS.write (h : RepS c H S) {p : Addr} {u : HO} {o o' : DO} (hp : S p = some o) (r : Ext H (upd H p u) → RepO c (upd H p u) p o') (no : ∀ kvs, o ≠ .fdc kvs := by intro _ z; cases z) : RepS c (upd H p u) (put S p o') ∧ Fr H S (upd H p u) (put S p o') := by
  have nn : ∀ a, S a = none → a ≠ p := fun a n z => by subst z; rw [n] at hp; cases hp
  have nf : ∀ a o u', H a = some (.frz o u') → a ≠ p := fun a ob u' e z => by subst z; exact (h a o hp).open no ob u' e
  have ex : Ext H (upd H p u) := ⟨fun a xs e => by rw [upd_ne (nn a (h.tupN e))]; exact e, fun a o u' e => by rw [upd_ne (nf a _ _ e)]; exact e⟩
  refine ⟨⟨fun a q e => ?_, h.tb.step fun a q _ e n => ⟨by rw [upd_ne (nn a n)]; exact e, by rw [put_ne (nn a n)]; exact n⟩⟩, fun a q e n _ => ⟨by rw [upd_ne (nn a n)]; exact e, by rw [put_ne (nn a n)]; exact n⟩, fun a o u' e => by rw [upd_ne (nf a _ _ e)]; exact e⟩
  by_cases ha : a = p
  · subst ha
    rw [put_same] at e; cases e
    exact r ex
  · rw [put_ne ha] at e
    exact (h a q e).ext ex (upd_ne ha)
end

/-! ### slots -/
def RepSt (c : Cfg) (H : Hp) (δ : DSt) (σ : St) : Prop := δ.length = σ.length ∧ ∀ (i : Nat) (d : D), δ[i]? = some (some d) → ∃ v : V, σ[i]? = some (some v) ∧ RepV c H d v
theorem RepSt.ext {c : Cfg} {H H' : Hp} {δ : DSt} {σ : St} (h : RepSt c H δ σ) (e : Ext H H') : RepSt c H' δ σ := ⟨h.1, fun i d q => let ⟨v, e1, r⟩ := h.2 i d q; ⟨v, e1, r.ext e⟩⟩
theorem RepSt.set {c : Cfg} {H : Hp} {δ : DSt} {σ : St} (h : RepSt c H δ σ) (i : Nat) {d : D} {v : V} (r : RepV c H d v) : RepSt c H (δ.set i (some d)) (σ.set i (some v)) := by
  refine ⟨by simp [h.1], fun j e q => ?_⟩
  by_cases hj : i = j
  · subst hj
    by_cases hl : i < δ.length
    · rw [List.getElem?_set_self hl] at q
      cases q
      exact ⟨v, List.getElem?_set_self (by rw [← h.1]; exact hl), r⟩
    · rw [List.getElem?_eq_none (by simpa using hl)] at q; cases q
  · rw [List.getElem?_set_ne hj] at q
    obtain ⟨u, e1, r1⟩ := h.2 j e q
    exact ⟨u, by rw [List.getElem?_set_ne hj]; exact e1, r1⟩
theorem RepSt.unset {c : Cfg} {H : Hp} {δ : DSt} {σ : St} (h : RepSt c H δ σ) (i : Nat) : RepSt c H (δ.set i none) (σ.set i none) := by
  refine ⟨by simp [h.1], fun j e q => ?_⟩
  by_cases hj : i = j
  · subst hj
    by_cases hl : i < δ.length
    · rw [List.getElem?_set_self hl] at q
      cases q
    · rw [List.getElem?_eq_none (by simpa using hl)] at q; cases q
  · rw [List.getElem?_set_ne hj] at q
    obtain ⟨u, e1, r1⟩ := h.2 j e q
    exact ⟨u, by rw [List.getElem?_set_ne hj]; exact e1, r1⟩
theorem RepSt.wipe {c : Cfg} {H : Hp} {δ : DSt} {σ : St} (h : RepSt c H δ σ) : ∀ is : List Nat, RepSt c H (Nf.wipe δ is) (L2.wipe σ is)
  | [] => h
  | i :: is => by
    unfold Nf.wipe L2.wipe
    exact (RepSt.wipe h is).unset i

/-! ### lifted readings -/
def Post (c : Cfg) (H : Hp) (S : Store) (P : DQ) (Q : VK) : Prop := ∀ d S' v H', P d S' → Fr H S H' S' → RepV c H' d v → RepS c H' S' → Q v H'
/-- an exception's class and its one field -/
def RepX (c : Cfg) (H : Hp) (x : DX) (cls : Value) (d : Option Addr) : Prop := cls = .ref (He.ga c.K (os x.cls)) ∧ (match x.val with
  | none => d = none
  | some (f, e) => ∃ dd v, d = some dd ∧ H dd = some (.xd [(os f, v)]) ∧ RepV c H e v)
def PostX (c : Cfg) (H : Hp) (S : Store) (W : DE) (E : XK) : Prop := ∀ x S' cls d H', W x S' → Fr H S H' S' → RepX c H' x cls d → RepS c H' S' → E cls d H'
theorem Post.fr {c : Cfg} {H H1 : Hp} {S S1 : Store} {P : DQ} {Q : VK} (h : Post c H S P Q) (f : Fr H S H1 S1) : Post c H1 S1 P Q := fun d S' v H' p f2 r s => h d S' v H' p (f.trans f2) r s
theorem PostX.fr {c : Cfg} {H H1 : Hp} {S S1 : Store} {W : DE} {E : XK} (h : PostX c H S W E) (f : Fr H S H1 S1) : PostX c H1 S1 W E := fun x S' k d H' p f2 r s => h x S' k d H' p (f.trans f2) r s
abbrev DTE := DE → DSt → Store → DQ → Prop
def lift (c : Cfg) (E : XK) (t : DTE) : TE := fun σ H Q => ∃ δ S P W, RepSt c H δ σ ∧ RepS c H S ∧ t W δ S P ∧ Post c H S P Q ∧ PostX c H S W E
theorem _root_.L2.PE.imp {X : Cx} {e : Expr} {t t' : TE} (h : PE X e t) (i : ∀ σ H Q, t' σ H Q → t σ H Q) : PE X e t' := ⟨fun pins s σ H Q I q => h.run pins s σ H Q I (i σ H Q q)⟩
theorem _root_.L2.PT.imp {X : Cx} {e : Expr} {t t' : TT} (h : PT X e t) (i : ∀ σ H Q, t' σ H Q → t σ H Q) : PT X e t' := ⟨fun pins s σ H Q I q => h.run pins s σ H Q I (i σ H Q q)⟩
theorem _root_.L2.PA.imp {X : Cx} {e : List Expr} {t t' : TA} (h : PA X e t) (i : ∀ σ H Q, t' σ H Q → t σ H Q) : PA X e t' := ⟨fun pos pins s σ H Q I q => h.run pos pins s σ H Q I (i σ H Q q)⟩
/-- argument lists -/
abbrev DTA := DE → DSt → Store → (List D → Store → Prop) → Prop
def PostL (c : Cfg) (H : Hp) (S : Store) (P : List D → Store → Prop) (Q : List V → Hp → Prop) : Prop := ∀ ds S' vs H', P ds S' → Fr H S H' S' → RepL c H' ds vs → RepS c H' S' → Q vs H'
def liftA (c : Cfg) (E : XK) (t : DTA) : TA := fun σ H Q => ∃ δ S P W, RepSt c H δ σ ∧ RepS c H S ∧ t W δ S P ∧ PostL c H S P Q ∧ PostX c H S W E
/-- tests -/
abbrev DTT := DE → DSt → Store → (Bool → Store → Prop) → Prop
def PostB (c : Cfg) (H : Hp) (S : Store) (P : Bool → Store → Prop) (Q : Bool → Hp → Prop) : Prop := ∀ b S' H', P b S' → Fr H S H' S' → RepS c H' S' → Q b H'
theorem PostL.fr {c : Cfg} {H H1 : Hp} {S S1 : Store} {P : List D → Store → Prop} {Q : List V → Hp → Prop} (h : PostL c H S P Q) (f : Fr H S H1 S1) : PostL c H1 S1 P Q := fun d S' v H' p f2 r s => h d S' v H' p (f.trans f2) r s
theorem PostB.fr {c : Cfg} {H H1 : Hp} {S S1 : Store} {P : Bool → Store → Prop} {Q : Bool → Hp → Prop} (h : PostB c H S P Q) (f : Fr H S H1 S1) : PostB c H1 S1 P Q := fun d S' H' p f2 s => h d S' H' p (f.trans f2) s
def liftT (c : Cfg) (E : XK) (t : DTE) : TT := fun σ H Q => ∃ δ S P W, RepSt c H δ σ ∧ RepS c H S ∧ t W δ S (fun d S1 => asB d fun b => P b S1) ∧ PostB c H S P Q ∧ PostX c H S W E

/-- operators by values -/
abbrev DR2 := D → D → Store → DQ → Prop
def liftR2 (c : Cfg) (r : DR2) : R2 := fun x y H Q => ∃ d e S P, RepV c H d x ∧ RepV c H e y ∧ RepS c H S ∧ r d e S P ∧ Post c H S P Q
section
variable {c : Cfg} {X : Cx} {E : XK} {a b e : Expr} {es : List Expr} {ta tb : DTE} {pos : Pos}
theorem de_bin {op : Operator} {rd : DR2} (ho : OpR X (binaryOp op) (liftR2 c rd)) (ha : PE X a (lift c E ta)) (hb : PE X b (lift c E tb)) :
    PE X (.BinOp a op b pos) (lift c E fun W δ S Q => ta W δ S fun x S1 => tb W δ S1 fun y S2 => rd x y S2 Q) := by
  refine (pe_op ho ha hb).imp fun σ H Q h => ?_
  obtain ⟨δ, S, P, W, hσ, hS, ht, hP, hX⟩ := h
  refine ⟨δ, S, _, W, hσ, hS, ht, fun x S1 xv H1 h1 f1 r1 s1 => ?_, hX⟩
  refine ⟨δ, S1, _, W, hσ.ext (f1.ext hS), s1, h1, fun y S2 yv H2 h2 f2 r2 s2 => ?_, hX.fr f1⟩
  exact ⟨x, y, S2, P, r1.ext (f2.ext s1), r2, s2, h2, hP.fr (f1.trans f2)⟩
theorem de_cmp {op : CmpOp} {rd : DR2} (ho : OpR X (compareOp op) (liftR2 c rd)) (ha : PE X a (lift c E ta)) (hb : PE X b (lift c E tb)) (hm : behindInMarks op b = false) :
    PE X (.Compare a [op] [b] pos) (lift c E fun W δ S Q => ta W δ S fun x S1 => tb W δ S1 fun y S2 => rd x y S2 Q) := by
  refine (pe_cmpR ho ha hb hm).imp fun σ H Q h => ?_
  obtain ⟨δ, S, P, W, hσ, hS, ht, hP, hX⟩ := h
  refine ⟨δ, S, _, W, hσ, hS, ht, fun x S1 xv H1 h1 f1 r1 s1 => ?_, hX⟩
  refine ⟨δ, S1, _, W, hσ.ext (f1.ext hS), s1, h1, fun y S2 yv H2 h2 f2 r2 s2 => ?_, hX.fr f1⟩
  exact ⟨x, y, S2, P, r1.ext (f2.ext s1), r2, s2, h2, hP.fr (f1.trans f2)⟩
theorem de_lit {d : D} {v : V} (h : PE X e (tC v)) (r : ∀ H, RepV c H d v) : PE X e (lift c E fun W δ S Q => Q d S) := by
  refine h.imp fun σ H Q h => ?_
  obtain ⟨δ, S, P, W, hσ, hS, ht, hP, hX⟩ := h
  exact hP d S v H ht Fr.refl (r H) hS
theorem de_var {i : Nat} (h : PE X e (tVar i)) : PE X e (lift c E fun W δ S Q => getS δ i fun d => Q d S) := by
  refine h.imp fun σ H Q h => ?_
  obtain ⟨δ, S, P, W, hσ, hS, ht, hP, hX⟩ := h
  unfold getS at ht
  split at ht
  · rename_i d hd
    obtain ⟨v, e1, r⟩ := hσ.2 i d hd
    exact ⟨v, e1, hP d S v H ht Fr.refl r hS⟩
  · cases ht
theorem da_nil : PA X [] (liftA c E fun W δ S Q => Q [] S) := by
  refine pa_nil.imp fun σ H Q h => ?_
  obtain ⟨δ, S, P, W, hσ, hS, ht, hP, hX⟩ := h
  exact hP [] S [] H ht Fr.refl RepL.nil hS
theorem da_cons {t : DTA} (ha : PE X e (lift c E ta)) (hr : PA X es (liftA c E t)) (hs : starEach (e :: es) X.env = (false, eval e X.env) :: starEach es X.env) :
    PA X (e :: es) (liftA c E fun W δ S Q => ta W δ S fun d S1 => t W δ S1 fun ds S2 => Q (d :: ds) S2) := by
  refine (pa_cons ha hr hs).imp fun σ H Q h => ?_
  obtain ⟨δ, S, P, W, hσ, hS, ht, hP, hX⟩ := h
  refine ⟨δ, S, _, W, hσ, hS, ht, fun x S1 xv H1 h1 f1 r1 s1 => ?_, hX⟩
  refine ⟨δ, S1, _, W, hσ.ext (f1.ext hS), s1, h1, fun ds S2 vs H2 h2 f2 r2 s2 => ?_, hX.fr f1⟩
  exact hP _ S2 _ H2 h2 (f1.trans f2) (RepL.cons (r1.ext (f2.ext s1)) r2) s2
theorem szl : szLine = sizeLine := by rw [sizeLine_eq]; rfl
theorem de_tup {t : DTA} {k : Nat} (h : PA X es (liftA c E t)) : PE X (.Tuple es k pos) (lift c E fun W δ S Q => t W δ S fun ds S1 => ds.length ≤ szLine ∧ Q (.tup ds) S1) := by
  refine (pe_tup h).imp fun σ H Q h => ?_
  obtain ⟨δ, S, P, W, hσ, hS, ht, hP, hX⟩ := h
  refine ⟨δ, S, _, W, hσ, hS, ht, fun ds S1 vs H1 h1 f1 r1 s1 => ?_, hX⟩
  refine ⟨by rw [← r1.length, ← szl]; exact h1.1, fun p hp => ?_⟩
  obtain ⟨s2, f2⟩ := s1.laid (u := .tup vs) hp
  exact hP _ S1 _ _ h1.2 (f1.trans f2) ⟨p, vs, rfl, upd_same, r1.ext (f2.ext s1)⟩ s2
theorem de_lst {t : DTA} (h : PA X es (liftA c E t)) : PE X (.List es pos) (lift c E fun W δ S Q => t W δ S fun ds S1 => ds.length ≤ szLine ∧ alloc S1 (.lst ds) Q) := by
  refine (pe_lst h).imp fun σ H Q h => ?_
  obtain ⟨δ, S, P, W, hσ, hS, ht, hP, hX⟩ := h
  refine ⟨δ, S, _, W, hσ, hS, ht, fun ds S1 vs H1 h1 f1 r1 s1 => ?_, hX⟩
  refine ⟨by rw [← r1.length, ← szl]; exact h1.1, fun p hp => ?_⟩
  have ex := (s1.laid (u := .lst vs) hp).2.ext s1
  obtain ⟨s2, f2⟩ := s1.alloc (u := .lst vs) (o := .lst ds) hp ⟨vs, upd_same, r1.ext ex⟩
  exact hP _ _ _ _ (h1.2 p (s1.noneN hp)) (f1.trans f2) rfl s2
end
end Nf
set_option Elab.async false
set_option linter.all false
set_option maxRecDepth 100000
/-! NfOps: operators, comparisons, places, slices, by values. -/
namespace Nf
open PySem PySem.Spec L2
open PyProof.Rows hiding St

section
variable {c : Cfg} {H : Hp} {S : Store} {v : V}
theorem RepV.int_eq {i : Int} (h : RepV c H (.int i) v) : v = .int i := h
theorem RepV.str_eq {s : String} (h : RepV c H (.str s) v) : v = .str (os s) := h
theorem RepV.bl_eq {b : Bool} (h : RepV c H (.bl b) v) : v = .bl b := h
theorem RepV.non_eq (h : RepV c H .non v) : v = .non := h
theorem RepV.ref_eq {a : Nat} (h : RepV c H (.ref a) v) : v = .ref a := h
theorem RepV.ty_eq {n : String} (h : RepV c H (.ty n) v) : v = .ty n := h
theorem RepV.tup_eq {ds : List D} (h : RepV c H (.tup ds) v) : ∃ a vs, v = .ref a ∧ H a = some (.tup vs) ∧ RepL c H ds vs := by
  simpa only [RepV] using h
theorem RepV.frz_eq {ns : List Int} (h : RepV c H (.frz ns) v) : ∃ a, v = .ref a ∧ SqL c.K H a (ns.map V.int) := by
  simp only [RepV] at h
  obtain ⟨a, e, h⟩ := h
  refine ⟨a, e, ?_⟩
  rcases h with ⟨o, h⟩ | h
  · exact .inl (.inr ⟨o, h⟩)
  · exact .inr h
theorem RepS.lst (hS : RepS c H S) {a : Nat} {ds : List D} (h : S a = some (.lst ds)) : ∃ vs, H a = some (.lst vs) ∧ RepL c H ds vs := hS a _ h
theorem RepS.set (hS : RepS c H S) {a : Nat} {ds : List D} (h : S a = some (.set ds)) : ∃ Sf n, H a = some (SetO c.w a Sf n) ∧ (∀ x ∈ ds, x.isInt = true) ∧ (∀ i, Sf i = decide (D.int i ∈ ds)) ∧ n ≤ ds.length := hS a _ h
theorem RepS.ins (hS : RepS c H S) {a : Nat} {x : String} {fs : List (String × D)} (h : S a = some (.ins x fs)) : x ∈ c.classes ∧ (∀ p ∈ fs, p.1 ∈ c.fields) ∧ ∃ dx fv, H a = some (.ins (He.ga c.K (os x)) dx fv) ∧ RepF c H fs fv := hS a _ h
end
theorem os_append (a b : String) : os (a ++ b) = os a ++ os b := by
  show Str.ofString _ = (⟨(Str.ofString a).cps ++ (Str.ofString b).cps⟩ : Str)
  rw [Str.ofString_eq_toList, Str.ofString_eq_toList, Str.ofString_eq_toList]
  simp

/-! ### data through the store -/
mutual
def T.pd : T → PyData
  | .non => .none
  | .bl b => .bool b
  | .int i => .int i
  | .str s => .str (os s)
  | .tup ts => .tuple (T.pds ts)
  | .lst ts => .list (T.pds ts)
def T.pds : List T → List PyData
  | [] => []
  | t :: ts => T.pd t :: T.pds ts
end
theorem T.pds_map : ∀ ts : List T, T.pds ts = ts.map T.pd
  | [] => rfl
  | t :: ts => by rw [T.pds, T.pds_map ts, List.map_cons]
theorem os_beq (a b : String) : (os a == os b) = (a == b) := by
  by_cases h : a = b
  · subst h; simp
  · have : os a ≠ os b := fun e => h (os_inj e)
    rw [beq_eq_false_iff_ne.mpr h, beq_eq_false_iff_ne.mpr this]
mutual
theorem eqT_pd : ∀ a b : T, eqT a b = PyData.eqv a.pd b.pd
  | .non, b => by cases b <;> simp [eqT, T.pd, PyData.eqv]
  | .bl x, b => by cases b <;> simp [eqT, T.pd, PyData.eqv]
  | .int x, b => by cases b <;> simp [eqT, T.pd, PyData.eqv]
  | .str x, b => by cases b <;> simp [eqT, T.pd, PyData.eqv, os_beq]
  | .tup x, b => by
    cases b with
    | tup y => simp only [eqT, T.pd, PyData.eqv]; exact eqTs_pd x y
    | _ => simp [eqT, T.pd, PyData.eqv]
  | .lst x, b => by
    cases b with
    | lst y => simp only [eqT, T.pd, PyData.eqv]; exact eqTs_pd x y
    | _ => simp [eqT, T.pd, PyData.eqv]
theorem eqTs_pd : ∀ a b : List T, eqTs a b = PyData.eqvAll (T.pds a) (T.pds b)
  | [], [] => by simp [eqTs, T.pds, PyData.eqvAll]
  | [], y :: ys => by simp [eqTs, T.pds, PyData.eqvAll]
  | x :: xs, [] => by simp [eqTs, T.pds, PyData.eqvAll]
  | x :: xs, y :: ys => by simp only [eqTs, T.pds, PyData.eqvAll]; rw [eqT_pd x y, eqTs_pd xs ys]
end
theorem os_ok (s : String) : PyData.strOk (os s) = true := by
  show (os s).cps.all (· < 0x110000) = true
  rw [← Array.all_toList, os_cps, List.all_eq_true]
  intro x hx
  obtain ⟨ch, _, rfl⟩ := List.mem_map.mp hx
  have h := ch.valid
  have : ch.toNat < 0x110000 := by
    show ch.val.toNat < _
    simp only [UInt32.isValidChar, Nat.isValidChar] at h
    omega
  simpa using this
mutual
theorem T.lay : ∀ t : T, t.pd.canLay0 = true
  | .non => by simp [T.pd, PyData.canLay0]
  | .bl _ => by simp [T.pd, PyData.canLay0]
  | .int _ => by simp [T.pd, PyData.canLay0]
  | .str x => by simp only [T.pd, PyData.canLay0]; exact os_ok x
  | .tup ts => by simp only [T.pd, PyData.canLay0]; exact T.lays ts
  | .lst ts => by simp only [T.pd, PyData.canLay0]; exact T.lays ts
theorem T.lays : ∀ ts : List T, PyData.canLayAll0 (T.pds ts) = true
  | [] => by simp [T.pds, PyData.canLayAll0]
  | t :: ts => by simp only [T.pds, PyData.canLayAll0, T.lay t, T.lays ts, Bool.and_self]
end
theorem optL_map {α β : Type} {f : α → Option β} : ∀ {xs : List α} {ys : List β}, optL (xs.map f) = some ys → Paired (fun x y => f x = some y) xs ys
  | [], ys, h => by simp only [List.map_nil, optL] at h; cases h; exact .nil
  | x :: xs, ys, h => by
    simp only [List.map_cons, optL] at h
    split at h
    · rename_i y ys' e1 e2
      cases h
      exact .cons e1 (optL_map e2)
    · cases h
section
variable {c : Cfg} {H : Hp} {S : Store}
theorem res_dp (hS : RepS c H S) : ∀ (n : Nat) (d : D) (t : T) (v : V), res S n d = some t → RepV c H d v → Dp c.K H v t.pd ∧ t.pd.depth ≤ n := by
  have many : ∀ n : Nat, (∀ (d : D) (t : T) (v : V), res S n d = some t → RepV c H d v → Dp c.K H v t.pd ∧ t.pd.depth ≤ n) →
      ∀ (ds : List D) (ts : List T) (vs : List V), Paired (fun x y => res S n x = some y) ds ts → RepL c H ds vs → DpAll c.K H vs (T.pds ts) ∧ PyData.depthAll (T.pds ts) ≤ n := by
    intro n ih ds
    induction ds with
    | nil =>
      intro ts vs p r
      cases p
      rw [RepL.nil_eq r]
      exact ⟨.nil, by simp [T.pds, PyData.depthAll]⟩
    | cons d ds ihd =>
      intro ts vs p r
      cases p with
      | cons e p =>
        obtain ⟨v, vs, rfl, r1, r2⟩ := RepL.cases_cons r
        obtain ⟨h1, h2⟩ := ih d _ v e r1
        obtain ⟨h3, h4⟩ := ihd _ vs p r2
        exact ⟨.cons h1 h3, by simp only [T.pds, PyData.depthAll]; omega⟩
  intro n
  induction n with
  | zero =>
    intro d t v h r
    cases d with
    | non => simp only [res] at h; cases h; cases r; exact ⟨.non, by simp [T.pd, PyData.depth]⟩
    | bl b => simp only [res] at h; cases h; cases r; exact ⟨.bl b, by simp [T.pd, PyData.depth]⟩
    | int i => simp only [res] at h; cases h; cases r; exact ⟨.int i, by simp [T.pd, PyData.depth]⟩
    | str s => simp only [res] at h; cases h; cases r; exact ⟨.str _, by simp [T.pd, PyData.depth]⟩
    | _ => simp [res] at h
  | succ n ih =>
    intro d t v h r
    cases d with
    | non => simp only [res] at h; cases h; cases r; exact ⟨.non, by simp [T.pd, PyData.depth]⟩
    | bl b => simp only [res] at h; cases h; cases r; exact ⟨.bl b, by simp [T.pd, PyData.depth]⟩
    | int i => simp only [res] at h; cases h; cases r; exact ⟨.int i, by simp [T.pd, PyData.depth]⟩
    | str s => simp only [res] at h; cases h; cases r; exact ⟨.str _, by simp [T.pd, PyData.depth]⟩
    | ty _ => simp [res] at h
    | cls _ => simp [res] at h
    | tup ds =>
      simp only [res, Option.map_eq_some_iff] at h
      obtain ⟨ts, h, rfl⟩ := h
      obtain ⟨a, vs, rfl, hv, rl⟩ := r.tup_eq
      obtain ⟨h1, h2⟩ := many n ih ds ts vs (optL_map h) rl
      exact ⟨.tup (SqT.of hv) h1, by simp only [T.pd, PyData.depth]; omega⟩
    | frz ns =>
      simp only [res] at h
      cases h
      obtain ⟨a, rfl, hq⟩ := r.frz_eq
      have : ∀ ns : List Int, DpAll c.K H (ns.map V.int) (T.pds (ns.map T.int)) ∧ PyData.depthAll (T.pds (ns.map T.int)) ≤ 0 := by
        intro ns
        induction ns with
        | nil => exact ⟨.nil, by simp [T.pds, PyData.depthAll]⟩
        | cons x xs ih => exact ⟨.cons (.int x) ih.1, by simp only [List.map_cons, T.pds, T.pd, PyData.depthAll, PyData.depth]; omega⟩
      exact ⟨.lst hq (this ns).1, by simp only [T.pd, PyData.depth]; have := (this ns).2; omega⟩
    | ref a =>
      simp only [res] at h
      split at h
      · rename_i ds hd
        simp only [Option.map_eq_some_iff] at h
        obtain ⟨ts, h, rfl⟩ := h
        cases r
        obtain ⟨vs, hv, rl⟩ := hS.lst hd
        obtain ⟨h1, h2⟩ := many n ih ds ts vs (optL_map h) rl
        exact ⟨.lst (SqL.of hv) h1, by simp only [T.pd, PyData.depth]; omega⟩
      · cases h
theorem res_shaped (hS : RepS c H S) {n : Nat} {d : D} {t : T} {v : V} (hn : n ≤ 40) (h : res S n d = some t) (r : RepV c H d v) : Dp c.K H v t.pd ∧ SeqAt.shaped t.pd = true := by
  obtain ⟨h1, h2⟩ := res_dp hS n d t v h r
  refine ⟨h1, ?_⟩
  unfold SeqAt.shaped
  rw [Bool.and_eq_true]
  exact ⟨t.lay, decide_eq_true (by omega)⟩
end
abbrev DR := D → D → Store → (Bool → Prop) → Prop
def eqD2 : DR := fun x y S k => eqD S x y k
def asR2 (r : DR) : DR2 := fun x y S Q => r x y S fun b => Q (.bl b) S
section
variable {c : Cfg} {X : Cx}
theorem fin2 {pins : List (Addr × Obj)} {σ : L2.St} {H : Hp} {s : Shared} {Q : VK} {u : Value} {S : Store} {P : DQ} (I : Inv X pins σ H s) (hS : RepS c H S) (hP : Post c H S P Q) {d : D} {v : V} (r : RelV v u) (rd : RepV c H d v) (h : P d S) : EP X pins σ Q u s :=
  ⟨v, H, I, r, hP d S v H h Fr.refl rd hS⟩
theorem op_eqN (hK : X.K = c.K) (hu : X.A.units + 64 < cLine) : OpR X (compareOp .Eq) (liftR2 c (asR2 eqD2)) := by
  intro pins s σ H x y v u Q I rx ry ⟨d, e, S, P, r1, r2, hS, h, hP⟩
  unfold asR2 eqD2 eqD at h
  split at h
  · rename_i t1 t2 h1 h2
    obtain ⟨p1, s1⟩ := res_shaped hS (by decide) h1 r1
    obtain ⟨p2, s2⟩ := res_shaped hS (by decide) h2 r2
    rw [← hK] at p1 p2
    refine op_eqD hu pins s σ H x y v u Q I rx ry ⟨_, _, p1, p2, s1, s2, ?_⟩
    rw [← eqT_pd]
    exact hP _ S _ H h Fr.refl rfl hS
  · cases h
theorem op_neN (hK : X.K = c.K) (hu : X.A.units + 64 < cLine) : OpR X (compareOp .NotEq) (liftR2 c (asR2 fun x y S k => eqD S x y fun b => k (!b))) := by
  intro pins s σ H x y v u Q I rx ry ⟨d, e, S, P, r1, r2, hS, h, hP⟩
  unfold asR2 eqD at h
  dsimp only at h
  split at h
  · rename_i t1 t2 h1 h2
    obtain ⟨p1, s1⟩ := res_shaped hS (by decide) h1 r1
    obtain ⟨p2, s2⟩ := res_shaped hS (by decide) h2 r2
    rw [← hK] at p1 p2
    refine op_neD hu pins s σ H x y v u Q I rx ry ⟨_, _, p1, p2, s1, s2, ?_⟩
    rw [← eqT_pd]
    exact hP _ S _ H h Fr.refl rfl hS
  · cases h
end

def kOp : BOp → Operator
  | .add => .Add | .sub => .Sub | .mul => .Mult | .fdiv => .FloorDiv | .mod => .Mod | .pow => .Pow
theorem log2_lt {n k : Nat} (h : n < 2 ^ k) (h0 : 0 < k) : n.log2 < k := PySem.Flt.log2_lt_of h0 h
section
variable {c : Cfg} {X : Cx}
theorem opBin (hK : X.K = c.K) (op : BOp) : OpR X (binaryOp (kOp op)) (liftR2 c (rBin op)) := by
  intro pins s σ H x y v u Q I rx ry ⟨d, e, S, P, r1, r2, hS, h, hP⟩
  unfold rBin at h
  split at h
  · cases r1; cases r2
    exact op_add pins s σ H _ _ v u Q I rx ry ⟨_, _, rfl, rfl, hP _ S _ H h Fr.refl rfl hS⟩
  · cases r1; cases r2
    refine op_add_str pins s σ H _ _ v u Q I rx ry ⟨_, _, rfl, rfl, by rw [os_length, os_length, ← szl]; exact h.1, ?_⟩
    rw [← os_append]
    exact hP _ S _ H h.2 Fr.refl rfl hS
  · rename_i a b
    obtain ⟨p, vs, rfl, hv, rv⟩ := r1.tup_eq
    obtain ⟨q, us, rfl, hu, ru⟩ := r2.tup_eq
    refine op_catA pins s σ H _ _ v u Q I rx ry ⟨p, q, vs, us, rfl, rfl, SqT.of hv, SqT.of hu, by rw [← rv.length, ← ru.length, ← szl]; exact h.2.2.1, fun e => ?_, fun e e2 => ?_, fun e e2 p' hp' => ?_⟩
    · have : a = [] := by have := rv.length; rw [e] at this; exact List.length_eq_zero_iff.mp this
      subst this
      exact hP _ S _ H h.2.2.2 Fr.refl ⟨q, us, rfl, hu, ru⟩ hS
    · have : b = [] := by have := ru.length; rw [e2] at this; exact List.length_eq_zero_iff.mp this
      subst this
      refine hP _ S _ H h.2.2.2 Fr.refl ⟨p, vs, rfl, hv, ?_⟩ hS
      rw [List.append_nil]; exact rv
    · obtain ⟨s2, f2⟩ := hS.laid (u := .tup (vs ++ us)) hp'
      exact hP _ S _ _ h.2.2.2 f2 ⟨p', _, rfl, upd_same, (rv.append ru).ext (f2.ext hS)⟩ s2
  · split at h
    · rename_i xs ys h1 h2
      cases r1; cases r2
      obtain ⟨vs, hv, rv⟩ := hS.lst h1
      obtain ⟨us, hu, ru⟩ := hS.lst h2
      refine op_cat pins s σ H _ _ v u Q I rx ry ⟨_, _, vs, us, rfl, rfl, hv, hu, by rw [← rv.length, ← ru.length, ← szl]; exact h.1, fun p hp => ?_⟩
      have ex := (hS.laid (u := .lst (vs ++ us)) hp).2.ext hS
      obtain ⟨s2, f2⟩ := hS.alloc (u := .lst (vs ++ us)) (o := .lst (xs ++ ys)) hp ⟨_, upd_same, (rv.append ru).ext ex⟩
      exact hP _ _ _ _ (h.2 p (hS.noneN hp)) f2 rfl s2
    · cases h
  · cases r1; cases r2
    exact op_sub pins s σ H _ _ v u Q I rx ry ⟨_, _, rfl, rfl, hP _ S _ H h Fr.refl rfl hS⟩
  · cases r1; cases r2
    refine op_mul pins s σ H _ _ v u Q I rx ry ⟨_, _, rfl, rfl, ?_, hP _ S _ H h.2 Fr.refl rfl hS⟩
    rcases h.1 with z | z
    · exact .inl (by omega)
    · exact .inr (by omega)
  · split at h
    · rename_i xs h1
      cases r1; cases r2
      rename_i k _
      obtain ⟨vs, hv, rv⟩ := hS.lst h1
      refine op_rep pins s σ H _ _ v u Q I rx ry ⟨_, k, vs, rfl, rfl, hv, by omega, by omega, by rw [← rv.length, ← szl]; exact h.2.2.1, fun p hp => ?_⟩
      have ex := (hS.laid (u := .lst (List.replicate k.toNat vs).flatten) hp).2.ext hS
      obtain ⟨s2, f2⟩ := hS.alloc (u := .lst (List.replicate k.toNat vs).flatten) (o := .lst (List.replicate k.toNat xs).flatten) hp ⟨_, upd_same, (rv.rep _).ext ex⟩
      exact hP _ _ _ _ (h.2.2.2 p (hS.noneN hp)) f2 rfl s2
    · cases h
  · cases r1; cases r2
    rename_i i j
    refine op_fdivW pins s σ H _ _ v u Q I rx ry ⟨_, _, rfl, rfl, ⟨h.1, ?_⟩, hP _ S _ H h.2.2 Fr.refl rfl hS⟩
    have : j.natAbs < 2 ^ 1000 := by omega
    exact Nat.lt_of_lt_of_le (log2_lt this (by decide)) (by decide)
  · cases r1; cases r2
    exact op_mod pins s σ H _ _ v u Q I rx ry ⟨_, _, rfl, rfl, h.1, hP _ S _ H h.2 Fr.refl rfl hS⟩
  · cases r1; cases r2
    exact op_pow pins s σ H _ _ v u Q I rx ry ⟨_, _, rfl, rfl, ⟨h.1, Int.le_trans h.2.1 (by decide), h.2.2.1⟩, hP _ S _ H h.2.2.2 Fr.refl rfl hS⟩
  · cases h

theorem asI_int {d : D} {k : Int → Prop} (h : asI d k) : ∃ i, d = .int i ∧ k i := by
  unfold asI at h
  split at h
  · exact ⟨_, rfl, h⟩
  · cases h
theorem opOrd {op : CmpOp} {p : Int → Int → Bool} (ho : OpR X (compareOp op) (rI0 fun i j => .bl (p i j))) : OpR X (compareOp op) (liftR2 c (asR2 fun x y S k => asI x fun i => asI y fun j => k (p i j))) := by
  intro pins s σ H x y v u Q I rx ry ⟨d, e, S, P, r1, r2, hS, h, hP⟩
  obtain ⟨i, rfl, h⟩ := asI_int h
  obtain ⟨j, rfl, h⟩ := asI_int h
  cases r1; cases r2
  exact ho pins s σ H _ _ v u Q I rx ry ⟨_, _, rfl, rfl, hP _ S _ H h Fr.refl rfl hS⟩
theorem RepV.non_iff {H : Hp} {d : D} {x : V} (r : RepV c H d x) : decide (x = .non) = decide (d = .non) := by
  cases d with
  | non => cases r; rfl
  | bl _ => cases r; rfl
  | int _ => cases r; rfl
  | str _ => cases r; rfl
  | ty _ => cases r; rfl
  | cls _ => cases r; rfl
  | ref _ => cases r; rfl
  | frz _ => obtain ⟨a, rfl, _⟩ := r.frz_eq; rfl
  | tup _ => obtain ⟨a, _, rfl, _⟩ := r.tup_eq; rfl
theorem opIs : OpR X (compareOp .Is) (liftR2 c (asR2 (rCmp .is))) := by
  intro pins s σ H x y v u Q I rx ry ⟨d, e, S, P, r1, r2, hS, h, hP⟩
  obtain ⟨rfl, h⟩ := h
  cases r2
  refine op_isN pins s σ H _ _ v u Q I rx ry ⟨rfl, ?_⟩
  rw [r1.non_iff]
  exact hP _ S _ H h Fr.refl rfl hS
theorem opIsN : OpR X (compareOp .IsNot) (liftR2 c (asR2 (rCmp .isn))) := by
  intro pins s σ H x y v u Q I rx ry ⟨d, e, S, P, r1, r2, hS, h, hP⟩
  obtain ⟨rfl, h⟩ := h
  cases r2
  refine op_notN pins s σ H _ _ v u Q I rx ry ⟨rfl, ?_⟩
  rw [r1.non_iff]
  exact hP _ S _ H h Fr.refl rfl hS

/-! ### in -/
theorem flat_rep {H : Hp} {d : D} {v : V} (r : RepV c H d v) (f : d.flat = true) : flatV v = true := by
  cases d with
  | non => cases r; rfl
  | bl _ => cases r; rfl
  | int _ => cases r; rfl
  | str _ => cases r; rfl
  | _ => cases f
theorem eqF_rep {H : Hp} {d e : D} {v u : V} (r : RepV c H d v) (q : RepV c H e u) (f : d.flat = true) (g : e.flat = true) : eqV v u = eqF d e := by
  cases d with
  | non => cases r; cases e <;> first | (cases q; rfl) | cases g
  | bl _ => cases r; cases e <;> first | (cases q; rfl) | cases g
  | int _ => cases r; cases e <;> first | (cases q; rfl) | cases g
  | str _ => cases r; cases e <;> first | (cases q; first | rfl | exact os_beq _ _) | cases g
  | _ => cases f
theorem flats_rep {H : Hp} {x : D} {xv : V} (rx : RepV c H x xv) (fx : x.flat = true) : ∀ {ds : List D} {vs : List V}, RepL c H ds vs → ds.all D.flat = true → vs.all flatV = true ∧ inV xv vs = ds.any fun u => eqF u x
  | [], _, r, _ => by rw [RepL.nil_eq r]; exact ⟨rfl, rfl⟩
  | d :: ds, _, r, f => by
    obtain ⟨v, vs, rfl, r1, r2⟩ := RepL.cases_cons r
    rw [List.all_cons, Bool.and_eq_true] at f
    obtain ⟨h1, h2⟩ := flats_rep rx fx r2 f.2
    refine ⟨by rw [List.all_cons, flat_rep r1 f.1, h1]; rfl, ?_⟩
    show (eqV v xv || inV xv vs) = _
    rw [h2, eqF_rep r1 rx f.1 fx, List.any_cons]
theorem any_pd (t : T) : ∀ ts : List T, ((T.pds ts).any fun z => PyData.eqv z t.pd) = ts.any fun u => eqT u t
  | [] => rfl
  | u :: ts => by rw [T.pds, List.any_cons, List.any_cons, any_pd t ts, eqT_pd]
theorem lst_shaped {H : Hp} {S : Store} (hS : RepS c H S) {a : Nat} {ds : List D} {ts : List T} (h : S a = some (.lst ds)) (ho : optL (ds.map (res S deep)) = some ts) : Dp c.K H (.ref a) (T.lst ts).pd ∧ SeqAt.shaped (T.lst ts).pd = true :=
  res_shaped hS (n := deep + 1) (by decide) (d := .ref a) (by show (match S a with | some (.lst ds) => (optL (ds.map (res S deep))).map T.lst | _ => none) = _; rw [h]; dsimp only; rw [ho]; rfl) rfl
/-- the signs of a text -/
theorem os_mem (ch : Char) (s : String) : decide (ch.toNat ∈ (os s).cps.toList) = decide (ch ∈ s.toList) := by
  rw [os_cps]
  refine decide_eq_decide.mpr ⟨fun h => ?_, fun h => List.mem_map.mpr ⟨ch, h, rfl⟩⟩
  obtain ⟨x, hx, e⟩ := List.mem_map.mp h
  rwa [Char.toNat_inj.mp e] at hx
theorem os_sign {s : String} {ch : Char} (h : s.toList = [ch]) : os s = ⟨#[ch.toNat]⟩ := by
  show Str.ofString s = _
  rw [Str.ofString_eq_toList, h]
  rfl
def isDic (S : Store) (y : D) : Prop := match y with | .ref a => (dicOf (S a)).isSome = true | _ => False
/-- in, but for dicts -/
theorem opIn0 (hK : X.K = c.K) (hu : X.A.units + 65 < cLine) : ∀ (pins : List (Addr × Obj)) (s : Shared) (σ : L2.St) (H : Hp) (x y : V) (v u : Value) (Q : VK) (d e : D) (S : Store) (P : DQ), Inv X pins σ H s → RelV x v → RelV y u →
    RepV c H d x → RepV c H e y → RepS c H S → rIn d e S (fun b => P (.bl b) S) → ¬ isDic S e → Post c H S P Q → wpAny (model X.prog X.w) X.A (compareOp .In v u) (EP X pins σ Q) X.xe s := by
  intro pins s σ H x y v u Q d e S P I rx ry r1 r2 hS h nd hP
  unfold rIn at h
  split at h
  · obtain ⟨p, vs, rfl, hv, rv⟩ := r2.tup_eq
    obtain ⟨h1, h2⟩ := flats_rep r1 h.1 rv h.2.1
    refine op_in_seq pins s σ H _ _ v u Q I rx ry ⟨p, vs, rfl, .inr (SqT.of hv), flat_rep r1 h.1, h1, ?_⟩
    rw [if_neg Bool.false_ne_true, h2]
    exact hP _ S _ H h.2.2 Fr.refl rfl hS
  · split at h
    · split at h
      · rename_i ch hch
        cases r1; cases r2
        refine op_in_sign pins s σ H _ _ v u Q I rx ry ⟨ch.toNat, _, by rw [os_sign hch], rfl, ?_⟩
        rw [os_mem]
        exact hP _ S _ H h Fr.refl rfl hS
      · cases h
    · cases h
  · rename_i a
    split at h
    · rename_i ds hd
      split at h
      · rename_i t ts h1 h2
        cases r2
        obtain ⟨p1, s1⟩ := res_shaped hS (by decide) h1 r1
        obtain ⟨p2, s2⟩ := lst_shaped hS hd h2
        rw [← hK] at p1 p2
        refine op_inD hu pins s σ H _ _ v u Q I rx ry ⟨_, _, p1, p2, s1, s2, ?_⟩
        rw [any_pd]
        exact hP _ S _ H h Fr.refl rfl hS
      · cases h
    · rename_i kvs hd
      exact absurd (show isDic S (.ref a) by simp only [isDic, dicOf, hd]; rfl) nd
    · rename_i kvs hd
      exact absurd (show isDic S (.ref a) by simp only [isDic, dicOf, hd]; rfl) nd
    · cases h
  · cases h
theorem opNin0 (hK : X.K = c.K) (hu : X.A.units + 65 < cLine) : ∀ (pins : List (Addr × Obj)) (s : Shared) (σ : L2.St) (H : Hp) (x y : V) (v u : Value) (Q : VK) (d e : D) (S : Store) (P : DQ), Inv X pins σ H s → RelV x v → RelV y u →
    RepV c H d x → RepV c H e y → RepS c H S → rIn d e S (fun b => P (.bl !b) S) → ¬ isDic S e → Post c H S P Q → wpAny (model X.prog X.w) X.A (compareOp .NotIn v u) (EP X pins σ Q) X.xe s := by
  intro pins s σ H x y v u Q d e S P I rx ry r1 r2 hS h nd hP
  unfold rIn at h
  split at h
  · obtain ⟨p, vs, rfl, hv, rv⟩ := r2.tup_eq
    obtain ⟨h1, h2⟩ := flats_rep r1 h.1 rv h.2.1
    refine op_notIn_seq pins s σ H _ _ v u Q I rx ry ⟨p, vs, rfl, .inr (SqT.of hv), flat_rep r1 h.1, h1, ?_⟩
    rw [if_pos rfl, h2]
    exact hP _ S _ H h.2.2 Fr.refl rfl hS
  · split at h
    · split at h
      · rename_i ch hch
        cases r1; cases r2
        refine op_notIn_sign pins s σ H _ _ v u Q I rx ry ⟨ch.toNat, _, by rw [os_sign hch], rfl, ?_⟩
        rw [os_mem]
        exact hP _ S _ H h Fr.refl rfl hS
      · cases h
    · cases h
  · rename_i a
    split at h
    · rename_i ds hd
      split at h
      · rename_i t ts h1 h2
        cases r2
        obtain ⟨p1, s1⟩ := res_shaped hS (by decide) h1 r1
        obtain ⟨p2, s2⟩ := lst_shaped hS hd h2
        rw [← hK] at p1 p2
        refine op_notInD hu pins s σ H _ _ v u Q I rx ry ⟨_, _, p1, p2, s1, s2, ?_⟩
        rw [any_pd]
        exact hP _ S _ H h Fr.refl rfl hS
      · cases h
    · rename_i kvs hd
      exact absurd (show isDic S (.ref a) by simp only [isDic, dicOf, hd]; rfl) nd
    · rename_i kvs hd
      exact absurd (show isDic S (.ref a) by simp only [isDic, dicOf, hd]; rfl) nd
    · cases h
  · cases h

/-! ### places -/
theorem ixN_eq (n : Nat) (i : Int) : L2.ixN n i = Nf.ixN n i := rfl
theorem rep_atI {H : Hp} {ds : List D} {vs : List V} (r : RepL c H ds vs) {j : Int} {k : Nat} {d : D} (hk : Nf.ixN ds.length j = some k) (hd : ds[k]? = some d) : ∃ v, atI vs j = some v ∧ RepV c H d v := by
  obtain ⟨v, e, q⟩ := r.get hd
  refine ⟨v, ?_, q⟩
  unfold atI
  rw [← r.length, ixN_eq, hk]
  exact e
/-- x[i], but for dicts -/
theorem opIx0 (hK : X.K = c.K) : ∀ (value slice : Expr) (pins : List (Addr × Obj)) (s : Shared) (σ : L2.St) (H : Hp) (x y : V) (v u : Value) (Q : VK) (d e : D) (S : Store) (P : DQ), Inv X pins σ H s → RelV x v → RelV y u →
    RepV c H d x → RepV c H e y → RepS c H S → rIx d e S P → ¬ isDic S d → Post c H S P Q → subscripted slice false v u = operate [v, u] (getItem v u) → wpAny (model X.prog X.w) X.A (subscriptTail value slice v u) (EP X pins σ Q) X.xe s := by
  intro value slice pins s σ H x y v u Q d e S P I rx ry r1 r2 hS h nd hP hsub
  unfold rIx at h
  split at h
  · obtain ⟨p, vs, rfl, hv, rv⟩ := r1.tup_eq
    obtain ⟨j, ej, h2⟩ := asI_int h; clear h; subst ej; have h := h2; clear h2
    split at h
    · rename_i k hk
      split at h
      · rename_i d' hd'
        obtain ⟨w, e1, r3⟩ := rep_atI rv hk hd'
        cases r2
        exact ix_tup value slice pins s σ H _ _ v u Q I rx ry ⟨p, vs, j, w, rfl, rfl, SqT.of hv, e1, hP _ S _ H h Fr.refl r3 hS⟩ hsub
      · cases h
    · cases h
  · obtain ⟨p, rfl, hq⟩ := r1.frz_eq
    obtain ⟨j, ej, h2⟩ := asI_int h; clear h; subst ej; have h := h2; clear h2
    split at h
    · rename_i k hk
      split at h
      · rename_i d' hd'
        cases r2
        refine ix_list value slice pins s σ H _ _ v u Q I rx ry ⟨p, _, j, .int d', rfl, rfl, by rw [hK]; exact hq, ?_, hP _ S _ H h Fr.refl rfl hS⟩ hsub
        unfold atI
        rw [List.length_map, ixN_eq, hk]
        show (List.map V.int _)[k]? = _
        rw [List.getElem?_map, hd']; rfl
      · cases h
    · cases h
  · obtain ⟨hz, h⟩ := h
    obtain ⟨j, ej, h2⟩ := asI_int h; clear h; subst ej; have h := h2; clear h2
    split at h
    · rename_i k hk
      split at h
      · rename_i ch hd'
        cases r1; cases r2
        refine ix_str value slice pins s σ H _ _ v u Q I rx ry ⟨_, j, ch.toNat, rfl, rfl, by rw [os_length, ← szl]; exact hz, ?_, ?_⟩ hsub
        · unfold atI
          rw [os_cps, List.length_map, ixN_eq, hk]
          show (List.map Char.toNat _)[k]? = _
          rw [List.getElem?_map, hd']; rfl
        · have e : os (String.ofList [ch]) = ⟨#[ch.toNat]⟩ := os_sign (by simp)
          rw [← e]
          exact hP _ S _ H h Fr.refl rfl hS
      · cases h
    · cases h
  · rename_i a
    split at h
    · rename_i ds hd
      cases r1
      obtain ⟨vs, hv, rv⟩ := hS.lst hd
      obtain ⟨j, ej, h2⟩ := asI_int h; clear h; subst ej; have h := h2; clear h2
      split at h
      · rename_i k hk
        split at h
        · rename_i d' hd'
          obtain ⟨w, e1, r3⟩ := rep_atI rv hk hd'
          cases r2
          exact ix_list value slice pins s σ H _ _ v u Q I rx ry ⟨_, vs, j, w, rfl, rfl, SqL.of hv, e1, hP _ S _ H h Fr.refl r3 hS⟩ hsub
        · cases h
      · cases h
    · rename_i kvs hd
      exact absurd (show isDic S (.ref a) by simp only [isDic, dicOf, hd]; rfl) nd
    · rename_i kvs hd
      exact absurd (show isDic S (.ref a) by simp only [isDic, dicOf, hd]; rfl) nd
    · cases h
  · cases h

/-! ### slices -/
theorem sIx_eq (n d : Nat) (o : Option Int) : HT.sIx n d o = Nf.sIx n d o := by cases o <;> rfl
theorem rep_cut {H : Hp} {ds : List D} {vs : List V} (r : RepL c H ds vs) (lo hi : Option Int) : RepL c H (cutL ds lo hi) (cutV vs lo hi) := by
  unfold cutL cutV
  rw [sIx_eq, sIx_eq, r.length]
  exact (r.drop _).take _
theorem cutL_map {α β : Type} (f : α → β) (xs : List α) (lo hi : Option Int) : cutL (xs.map f) lo hi = (cutL xs lo hi).map f := by
  unfold cutL
  rw [List.length_map, ← List.map_drop, ← List.map_take]
theorem os_cut (s : String) (lo hi : Option Int) : L2.cutS (os s) lo hi = os (Nf.cutS s lo hi) := by
  have e : (os (Nf.cutS s lo hi)).cps.toList = (cutL s.toList lo hi).map Char.toNat := by
    rw [os_cps]; unfold Nf.cutS; simp
  have : ∀ a b : Str, a.cps.toList = b.cps.toList → a = b := fun a b h => by
    cases a; cases b; congr; exact Array.toList_inj.mp h
  refine this _ _ ?_
  rw [e, ← cutL_map, ← os_cps]
  unfold L2.cutS cutL
  rw [sIx_eq, sIx_eq]
  show (List.toArray _).toList = _
  simp [Str.length]
def asOV (o : Option D) : Option (Option Int) := match o with
  | none => some none
  | some (.int i) => some (some i)
  | _ => none
theorem opSlc (hK : X.K = c.K) (d : D) (P : DQ) (S : Store) : SlR X (fun x lo hi H Q => RepV c H d x ∧ RepS c H S ∧ rSlc d (lo.map D.int) (hi.map D.int) S P ∧ Post c H S P Q) := by
  intro pins s σ H x v vl vu lo hi sl Q I rx hs pl pu ⟨r1, hS, h, hP⟩
  have key : ∀ (k : Option Int → Option Int → Prop), (asO (lo.map D.int) fun l => asO (hi.map D.int) fun h => k l h) → k lo hi := by
    intro k h
    cases lo <;> cases hi <;> exact h
  have h3 := key _ h
  clear h
  have h := h3
  clear h3
  split at h
  · obtain ⟨p, vs, rfl, hv, rv⟩ := r1.tup_eq
    refine sl_tupA pins s σ H _ v vl vu lo hi sl Q I rx hs pl pu ⟨p, vs, rfl, SqT.of hv, fun hw => ?_, fun _ q hq => ?_⟩
    · refine hP _ S _ H h Fr.refl ⟨p, vs, rfl, hv, ?_⟩ hS
      have : cutV vs lo hi = vs := by unfold cutV; rw [hw.1, hw.2]; simp
      rw [← this]
      exact rep_cut rv lo hi
    · obtain ⟨s2, f2⟩ := hS.laid (u := .tup (cutV vs lo hi)) hq
      exact hP _ S _ _ h f2 ⟨q, _, rfl, upd_same, (rep_cut rv lo hi).ext (f2.ext hS)⟩ s2
  · cases r1
    refine sl_str pins s σ H _ v vl vu lo hi sl Q I rx hs pl pu ⟨_, rfl, by rw [os_length, ← szl]; exact h.1, ?_⟩
    rw [os_cut]
    exact hP _ S _ H h.2 Fr.refl rfl hS
  · split at h
    · rename_i ds hd
      cases r1
      obtain ⟨vs, hv, rv⟩ := hS.lst hd
      refine sl_list pins s σ H _ v vl vu lo hi sl Q I rx hs pl pu ⟨_, vs, rfl, SqL.of hv, fun p hp => ?_⟩
      have ex := (hS.laid (u := .lst (cutV vs lo hi)) hp).2.ext hS
      obtain ⟨s2, f2⟩ := hS.alloc (u := .lst (cutV vs lo hi)) (o := .lst (cutL ds lo hi)) hp ⟨_, upd_same, (rep_cut rv lo hi).ext ex⟩
      exact hP _ _ _ _ (h p (hS.noneN hp)) f2 rfl s2
    · cases h
  · cases h
end
end Nf
set_option Elab.async false
set_option linter.all false
set_option maxRecDepth 100000
/-! NfDict: dicts whose keys are tuples, against the library's kind of nested keys. -/
namespace Nf
open PySem PySem.Spec L2
open PyProof.Rows hiding St

/-! ### keys -/
mutual
theorem nk_inj : ∀ (n : Nat) (a b : D), a.key n = true → b.key n = true → a.nk = b.nk → a = b
  | n, .int i, b, _, hb, e => by cases b <;> simp_all [D.nk, D.key]
  | n, .str s, b, _, hb, e => by
    cases b with
    | str t => simp only [D.nk, NestedKey.text.injEq] at e; rw [os_inj e]
    | _ => simp_all [D.nk, D.key]
  | n, .tup xs, b, ha, hb, e => by
    cases n with
    | zero => simp [D.key] at ha
    | succ n =>
      cases b with
      | tup ys =>
        simp only [D.nk, NestedKey.tup.injEq] at e
        simp only [D.key] at ha hb
        rw [nks_inj n xs ys ha hb e]
      | _ => simp_all [D.nk, D.key]
  | n, .non, b, ha, _, _ => by cases n <;> simp [D.key] at ha
  | n, .bl _, b, ha, _, _ => by cases n <;> simp [D.key] at ha
  | n, .ty _, b, ha, _, _ => by cases n <;> simp [D.key] at ha
  | n, .cls _, b, ha, _, _ => by cases n <;> simp [D.key] at ha
  | n, .ref _, b, ha, _, _ => by cases n <;> simp [D.key] at ha
  | n, .frz _, b, ha, _, _ => by cases n <;> simp [D.key] at ha
theorem nks_inj : ∀ (n : Nat) (a b : List D), D.keyL n a = true → D.keyL n b = true → D.nks a = D.nks b → a = b
  | n, [], b, _, hb, e => by cases b <;> simp_all [D.nks]
  | n, x :: xs, b, ha, hb, e => by
    cases b with
    | nil => simp [D.nks] at e
    | cons y ys =>
      simp only [D.nks, List.cons.injEq] at e
      simp only [D.keyL, Bool.and_eq_true] at ha hb
      rw [nk_inj n x y ha.1 hb.1 e.1, nks_inj n xs ys ha.2 hb.2 e.2]
end
theorem tupKey_is {d : D} (h : d.tupKey = true) : ∃ ds, d = .tup ds ∧ d.key 6 = true := by
  cases d <;> first | exact ⟨_, rfl, h⟩ | cases h
theorem tk_inj {a b : D} (ha : a.tupKey = true) (hb : b.tupKey = true) (e : a.nk = b.nk) : a = b := by
  obtain ⟨_, _, h1⟩ := tupKey_is ha
  obtain ⟨_, _, h2⟩ := tupKey_is hb
  exact nk_inj 6 a b h1 h2 e
mutual
theorem nk_depth : ∀ (n : Nat) (d : D), d.key n = true → d.nk.depth ≤ n
  | _, .int i, _ => by simp [D.nk, NestedKey.depth]
  | _, .str s, _ => by simp [D.nk, NestedKey.depth]
  | 0, .tup _, h => by simp [D.key] at h
  | n + 1, .tup xs, h => by
    simp only [D.key] at h
    have := nks_depth n xs h
    simp only [D.nk, NestedKey.depth]
    omega
  | _, .non, h => by simp [D.nk, NestedKey.depth]
  | _, .bl _, h => by simp [D.nk, NestedKey.depth]
  | _, .ty _, h => by simp [D.nk, NestedKey.depth]
  | _, .cls _, h => by simp [D.nk, NestedKey.depth]
  | _, .ref _, h => by simp [D.nk, NestedKey.depth]
  | _, .frz _, h => by simp [D.nk, NestedKey.depth]
theorem nks_depth : ∀ (n : Nat) (d : List D), D.keyL n d = true → NestedKey.depthAll (D.nks d) ≤ n
  | _, [], _ => by simp [D.nks, NestedKey.depthAll]
  | n, x :: xs, h => by
    simp only [D.keyL, Bool.and_eq_true] at h
    have h1 := nk_depth n x h.1
    have h2 := nks_depth n xs h.2
    simp only [D.nks, NestedKey.depthAll]
    omega
end
section
variable {c : Cfg} {P : Program} {w : World} {H : Hp} {h : Heap}
mutual
theorem nested_is (ok : HOk P w H h) : ∀ (n : Nat) (d : D) (v : V) (u : Value), d.key n = true → RepV c H d v → RelV v u → NestedIs h d.nk u
  | _, .int i, v, u, _, r, q => by cases r; obtain ⟨t, rfl⟩ := q; exact .int i t
  | _, .str s, v, u, _, r, q => by cases r; obtain ⟨t, rfl⟩ := q; exact .text _ t
  | 0, .tup _, v, u, k, _, _ => by simp [D.key] at k
  | n + 1, .tup xs, v, u, k, r, q => by
    obtain ⟨a, vs, rfl, hv, rl⟩ := r.tup_eq
    cases q
    obtain ⟨_, its, rv, o, h1, h2, m, h3⟩ := (show ObjOk P w H h a (.tup vs) from ok a _ hv)
    simp only [D.key] at k
    exact .tup h1 h2 h3 (by simpa using nested_all ok n xs vs its k rl rv)
  | n, .non, v, u, k, _, _ => by cases n <;> simp [D.key] at k
  | n, .bl _, v, u, k, _, _ => by cases n <;> simp [D.key] at k
  | n, .ty _, v, u, k, _, _ => by cases n <;> simp [D.key] at k
  | n, .cls _, v, u, k, _, _ => by cases n <;> simp [D.key] at k
  | n, .ref _, v, u, k, _, _ => by cases n <;> simp [D.key] at k
  | n, .frz _, v, u, k, _, _ => by cases n <;> simp [D.key] at k
theorem nested_all (ok : HOk P w H h) : ∀ (n : Nat) (ds : List D) (vs : List V) (us : List Value), D.keyL n ds = true → RepL c H ds vs → Vals vs us → NestedAll h (D.nks ds) us
  | _, [], vs, us, _, r, q => by rw [RepL.nil_eq r] at q; cases q; exact .nil
  | n, x :: xs, vs, us, k, r, q => by
    obtain ⟨v, vs, rfl, r1, r2⟩ := RepL.cases_cons r
    cases q with
    | cons q1 q2 =>
      simp only [D.keyL, Bool.and_eq_true] at k
      exact .cons (nested_is ok n x v _ k.1 r1 q1) (nested_all ok n xs vs _ k.2 r2 q2)
end
/-- a tuple that is a key -/
theorem key_is (ok : HOk P w H h) {d : D} {b : Addr} (k : d.tupKey = true) (r : RepV c H d (.ref b)) : (nestedKind P w).is h d.nk b := by
  obtain ⟨_, _, k6⟩ := tupKey_is k
  exact ⟨nested_is ok 6 d _ _ k6 r rfl, Nat.le_trans (nk_depth 6 d k6) (by decide)⟩
theorem tup_ref {d : D} {v : V} (k : d.tupKey = true) (r : RepV c H d v) : ∃ b, v = .ref b := by
  obtain ⟨ds, rfl, _⟩ := tupKey_is k
  obtain ⟨a, vs, rfl, _⟩ := r.tup_eq
  exact ⟨a, rfl⟩
end

/-! ### the entries -/
abbrev NX := NestedKey × Addr × Value
def KTn (c : Cfg) (H : Hp) : List (D × D) → List NX → Prop := Paired fun p q => q.1 = p.1.nk ∧ RepV c H p.1 (.ref q.2.1) ∧ ∃ v, RepV c H p.2 v ∧ RelV v q.2.2
def allTup (kvs : List (D × D)) : Prop := ∀ p ∈ kvs, p.1.tupKey = true
theorem KTn.ext {c : Cfg} {H H' : Hp} (e : Ext H H') {kvs : List (D × D)} {xs : List NX} (r : KTn c H kvs xs) : KTn c H' kvs xs :=
  Paired.mono2 (fun _ _ ⟨h1, h2, v, h3, h4⟩ => ⟨h1, h2.ext e, v, h3.ext e, h4⟩) r
section
variable {c : Cfg} {H : Hp}
theorem allTup.tail {p : D × D} {kvs : List (D × D)} (h : allTup (p :: kvs)) : allTup kvs := fun q hq => h q (List.mem_cons_of_mem _ hq)
theorem look_cons (p : D × D) (kvs : List (D × D)) (k : D) : look (p :: kvs) k = if p.1 = k then some p.2 else look kvs k := by
  unfold look
  rw [List.find?_cons]
  by_cases h : p.1 = k <;> simp [h]
theorem KTn.at {kvs : List (D × D)} {xs : List NX} (r : KTn c H kvs xs) {k : D} (hk : k.tupKey = true) : allTup kvs →
    (look kvs k = none ∧ atKey xs k.nk = none) ∨ ∃ d p v, look kvs k = some d ∧ atKey xs k.nk = some p ∧ RepV c H d v ∧ RelV v p.2 := by
  unfold KTn at r
  induction r with
  | nil => intro _; exact .inl ⟨rfl, rfl⟩
  | @cons p q ps qs h t ih =>
    intro ha
    obtain ⟨h1, h2, v, h3, h4⟩ := h
    have hp := ha p List.mem_cons_self
    rw [look_cons]
    by_cases e : p.1 = k
    · rw [if_pos e]
      refine .inr ⟨p.2, q.2, v, rfl, ?_, h3, h4⟩
      have : q.1 = k.nk := by rw [h1, e]
      simp [atKey, List.find?_cons, this]
    · rw [if_neg e]
      have : ¬ q.1 = k.nk := fun z => e (tk_inj hp hk (h1.symm.trans z))
      have e2 : atKey (q :: qs) k.nk = atKey qs k.nk := by simp [atKey, List.find?_cons, this]
      rw [e2]
      exact ih ha.tail
theorem KTn.repl {kvs : List (D × D)} {xs : List NX} (r : KTn c H kvs xs) {k y : D} {v : V} {u : Value} (hk : k.tupKey = true) (ry : RepV c H y v) (ru : RelV v u) : allTup kvs →
    KTn c H (kvs.map (upd1 k y)) (xs.map (putAt k.nk u)) := by
  unfold KTn at r
  induction r with
  | nil => intro _; exact .nil
  | @cons p q ps qs h t ih =>
    intro ha
    have hp := ha p List.mem_cons_self
    rw [List.map_cons, List.map_cons]
    refine .cons ?_ (ih ha.tail)
    obtain ⟨h1, h2, v', h3, h4⟩ := h
    unfold putAt upd1
    by_cases e : p.1 = k
    · rw [if_pos e, if_pos (by rw [h1, e])]
      exact ⟨h1, h2, v, ry, ru⟩
    · rw [if_neg e, if_neg (fun z => e (tk_inj hp hk (h1.symm.trans z)))]
      exact ⟨h1, h2, v', h3, h4⟩
theorem Paired.app {α β : Type} {F : α → β → Prop} : ∀ {l₁ m₁ : List α} {l₂ m₂ : List β}, Paired F l₁ l₂ → Paired F m₁ m₂ → Paired F (l₁ ++ m₁) (l₂ ++ m₂)
  | _, _, _, _, .nil, t => t
  | _, _, _, _, .cons a r, t => .cons a (Paired.app r t)
theorem KTn.put {kvs : List (D × D)} {xs : List NX} (r : KTn c H kvs xs) {k y : D} {b : Addr} {v : V} {u : Value} (hk : k.tupKey = true) (rk : RepV c H k (.ref b)) (ry : RepV c H y v) (ru : RelV v u) (ha : allTup kvs) :
    KTn c H (putK kvs k y) (storedH xs k.nk b u) := by
  unfold putK has storedH
  rcases r.at hk ha with ⟨e1, e2⟩ | ⟨d, p, v', e1, e2, _, _⟩
  · rw [e1, e2]
    exact Paired.app r (.cons ⟨rfl, rk, v, ry, ru⟩ .nil)
  · rw [e1, e2]
    exact r.repl hk ry ru ha
theorem KTn.drop {kvs : List (D × D)} {xs : List NX} (r : KTn c H kvs xs) {k : D} (hk : k.tupKey = true) : allTup kvs → KTn c H (Nf.dropK kvs k) (withoutH xs k.nk) := by
  unfold KTn at r
  induction r with
  | nil => intro _; exact .nil
  | @cons p q ps qs h t ih =>
    intro ha
    have hp := ha p List.mem_cons_self
    obtain ⟨h1, h2⟩ := id h
    unfold Nf.dropK withoutH
    rw [List.filter_cons, List.filter_cons]
    by_cases e : p.1 = k
    · have e2 : q.1 = k.nk := by rw [h1, e]
      rw [if_neg (by simp [e]), if_neg (by simp [e2])]
      exact ih ha.tail
    · have e2 : ¬ q.1 = k.nk := fun z => e (tk_inj hp hk (h1.symm.trans z))
      rw [if_pos (by simp [e]), if_pos (by simp [e2])]
      exact .cons h (ih ha.tail)
theorem KTn.length {kvs : List (D × D)} {xs : List NX} (r : KTn c H kvs xs) : kvs.length = xs.length := Paired.length r
end
theorem mem_putK {kvs : List (D × D)} {k v : D} {p : D × D} (h : p ∈ putK kvs k v) : p.1 = k ∨ p ∈ kvs := by
  unfold putK at h
  split at h
  · obtain ⟨q, hq, rfl⟩ := List.mem_map.mp h
    unfold upd1
    by_cases e : q.1 = k
    · rw [if_pos e]; exact .inl e
    · rw [if_neg e]; exact .inr hq
  · rcases List.mem_append.mp h with h | h
    · exact .inr h
    · have : p = (k, v) := by simpa using h
      rw [this]; exact .inl rfl
theorem allTup.put {kvs : List (D × D)} {k v : D} (hk : k.tupKey = true) (h : allTup kvs) : allTup (putK kvs k v) := fun p hp => by
  rcases mem_putK hp with e | hp
  · rw [e]; exact hk
  · exact h p hp
theorem allTup.drop {kvs : List (D × D)} {k : D} (h : allTup kvs) : allTup (Nf.dropK kvs k) := fun p hp => h p (List.mem_filter.mp hp).1
theorem length_putK (kvs : List (D × D)) (k v : D) : (putK kvs k v).length ≤ kvs.length + 1 := by
  unfold putK; split <;> simp
theorem length_dropK (kvs : List (D × D)) (k : D) : (Nf.dropK kvs k).length ≤ kvs.length := List.length_filter_le _ _
theorem length_mergeK : ∀ (ps kvs : List (D × D)), (Nf.mergeK kvs ps).length ≤ kvs.length + ps.length
  | [], kvs => by show kvs.length ≤ kvs.length + 0; omega
  | (k, v) :: ps, kvs => by
    have h1 := length_mergeK ps (putK kvs k v)
    have h2 := length_putK kvs k v
    show (Nf.mergeK (putK kvs k v) ps).length ≤ _
    rw [List.length_cons]; omega
theorem keys_upd1 (kvs : List (D × D)) (k v : D) : (kvs.map (upd1 k v)).map (·.1) = kvs.map (·.1) := by
  rw [List.map_map]
  refine List.map_congr_left fun p _ => ?_
  show (upd1 k v p).1 = p.1
  unfold upd1; split <;> rfl
theorem has_iff {kvs : List (D × D)} {k : D} : has kvs k = true ↔ k ∈ kvs.map (·.1) := by
  induction kvs with
  | nil => simp [has, look]
  | cons p kvs ih =>
    unfold has at ih ⊢
    rw [look_cons]
    by_cases e : p.1 = k
    · simp [e]
    · rw [if_neg e, ih, List.map_cons, List.mem_cons]
      exact ⟨.inr, fun h => h.resolve_left fun z => e z.symm⟩
theorem nodup_putK {kvs : List (D × D)} {k v : D} (h : (kvs.map (·.1)).Nodup) : ((putK kvs k v).map (·.1)).Nodup := by
  unfold putK
  split
  · rw [keys_upd1]; exact h
  · rename_i hn
    have hn' : k ∉ kvs.map (·.1) := fun z => hn (has_iff.mpr z)
    rw [List.map_append, List.nodup_append]
    refine ⟨h, by simp, fun x hx y hy => ?_⟩
    have : y = k := by simpa using hy
    rw [this]
    exact fun e => hn' (e ▸ hx)
theorem nodup_dropK {kvs : List (D × D)} {k : D} (h : (kvs.map (·.1)).Nodup) : ((Nf.dropK kvs k).map (·.1)).Nodup := List.Nodup.sublist (List.Sublist.map _ List.filter_sublist) h
theorem nodup_mergeK : ∀ (ps kvs : List (D × D)), (kvs.map (·.1)).Nodup → ((Nf.mergeK kvs ps).map (·.1)).Nodup
  | [], _, h => h
  | (k, v) :: ps, _, h => nodup_mergeK ps _ (nodup_putK h)
theorem allTup.merge : ∀ {ps kvs : List (D × D)}, allTup kvs → allTup ps → allTup (Nf.mergeK kvs ps)
  | [], _, h, _ => h
  | (k, v) :: ps, _, h, q => allTup.merge (ps := ps) (h.put (q (k, v) List.mem_cons_self)) q.tail
theorem KTn.merge {c : Cfg} {H : Hp} : ∀ {ps : List (D × D)} {ys : List NX} {kvs : List (D × D)} {xs : List NX}, KTn c H ps ys → KTn c H kvs xs → allTup kvs → allTup ps → KTn c H (Nf.mergeK kvs ps) (storedAllH xs ys)
  | [], _, _, _, h, r, _, _ => by cases h; exact r
  | (k, v) :: ps, _, kvs, xs, h, r, ha, hp => by
    cases h with
    | @cons _ q _ qs e t =>
      obtain ⟨h1, h2, v', h3, h4⟩ := e
      have hk := hp (k, v) List.mem_cons_self
      have r2 := r.put hk h2 h3 h4 ha
      have e2 : storedAllH xs (q :: qs) = storedAllH (storedH xs k.nk q.2.1 q.2.2) qs := by
        show List.foldl _ (storedH xs q.1 q.2.1 q.2.2) qs = _
        rw [h1]; rfl
      rw [e2]
      exact KTn.merge (ps := ps) t r2 (ha.put hk) hp.tail

/-! ### what stands at a dict's address -/
section
variable {c : Cfg} {X : Cx} {pins : List (Addr × Obj)} {σ : L2.St} {H : Hp} {s : Shared} {S : Store} {a : Addr} {kvs : List (D × D)}
theorem RepS.dic (hS : RepS c H S) (h : S a = some (.dic kvs)) : (∃ ks, (∀ p ∈ kvs, p.1.flatKey = true) ∧ H a = some (.dK ks) ∧ RepKF c H kvs ks) ∨
      (∃ es, kvs ≠ [] ∧ (∀ p ∈ kvs, p.1.tupKey = true) ∧ (kvs.map (·.1)).Nodup ∧ kvs.length ≤ sizeLine ∧ (a == sysModules) = false ∧ H a = some (dictAt a es) ∧ RepKT c H kvs es) := hS a _ h
theorem flat_not_tup {d : D} (h : d.flatKey = true) (k : d.tupKey = true) : False := by cases d <;> first | (cases h; done) | (cases k; done) | simp_all [D.flatKey, D.tupKey]
theorem RepS.dicR (hS : RepS c H S) (h : dicOf (S a) = some kvs) : (∃ ks, (∀ p ∈ kvs, p.1.flatKey = true) ∧ Rd H a (.dK ks) ∧ RepKF c H kvs ks) ∨
      (∃ es, kvs ≠ [] ∧ (∀ p ∈ kvs, p.1.tupKey = true) ∧ (kvs.map (·.1)).Nodup ∧ kvs.length ≤ sizeLine ∧ (a == sysModules) = false ∧ Rd H a (dictAt a es) ∧ RepKT c H kvs es) := by
  unfold dicOf at h
  split at h
  · rename_i k e
    cases h
    rcases hS.dic e with ⟨ks, f, q, r⟩ | ⟨es, n, f, nd, z, y, q, r⟩
    · exact .inl ⟨ks, f, .inl q, r⟩
    · exact .inr ⟨es, n, f, nd, z, y, .inl q, r⟩
  · rename_i k e
    cases h
    rcases (show RepO c H a (.fdc _) from hS a _ e) with ⟨o, ks, f, q, r⟩ | ⟨o, es, n, f, nd, z, y, q, r⟩
    · exact .inl ⟨ks, f, .inr ⟨o, q⟩, r⟩
    · exact .inr ⟨es, n, f, nd, z, y, .inr ⟨o, q⟩, r⟩
  · cases h
theorem dicOf_dic {o : Option DO} {kvs : List (D × D)} (h : o = some (.dic kvs)) : dicOf o = some kvs := by rw [h]; rfl
theorem dicOf_fdc {o : Option DO} {kvs : List (D × D)} (h : o = some (.fdc kvs)) : dicOf o = some kvs := by rw [h]; rfl
theorem RepS.mutD (hS : RepS c H S) (h : S a = some (.dic kvs)) : ∃ u, H a = some u ∧ Mut (some u) := by
  rcases hS.dic h with ⟨ks, _, q, _⟩ | ⟨es, _, _, _, _, _, q, _⟩
  · exact ⟨_, q, trivial⟩
  · exact ⟨_, q, trivial⟩
/-- a dict of tuples, as the library has it -/
theorem tup_viewR (I : Inv X pins σ H s) (hK : X.w = c.w) (hS : RepS c H S) (h : dicOf (S a) = some kvs) (ha : allTup kvs) :
    (a == sysModules) = false ∧ True ∧ (kvs.map (·.1)).Nodup ∧ kvs.length ≤ sizeLine ∧ ∃ xs, s.heap.DictOfH (nestedKind X.prog X.w) a xs ∧ KTn c H kvs xs := by
  rcases hS.dicR h with ⟨ks, hf, he, hr⟩ | ⟨es, hne, ht, hnd, hz, hm, he, hr⟩
  · have : kvs = [] := by
      cases kvs with
      | nil => rfl
      | cons p r => exact (flat_not_tup (hf p List.mem_cons_self) (ha p List.mem_cons_self)).elim
    subst this
    cases hr
    obtain ⟨z, hd, vs, rel, o, arr, ep, h1, h2, h3, h4⟩ := dk_rd I.hok he
    cases rel
    refine ⟨hd, trivial, List.nodup_nil, Nat.zero_le _, [], ⟨o, arr, ep, h1, h2, h3, ?_, (fun _ q => nomatch q), List.nodup_nil⟩, .nil⟩
    have h5 := h4.2.1
    generalize hl : arr.toList = l at h5 ⊢
    cases h5
    rfl
  · obtain ⟨⟨o, arr, ep, h1, h2, h3, h4⟩, _, _⟩ := (show ObjOk X.prog X.w H s.heap a (dictAt a es) from he.ok I.hok)
    have build : ∀ (kvs : List (D × D)) (es : List (V × Int × V)) (l : List DictEntry), RepKT c H kvs es → Paired (fun (p : V × Int × V) (q : DictEntry) => RelV p.1 q.key ∧ p.2.1 = q.hash ∧ RelV p.2.2 q.val) es l → allTup kvs →
        ∃ xs : List NX, l = xs.map (entryOfKey (nestedKind X.prog X.w)) ∧ (∀ x ∈ xs, (nestedKind X.prog X.w).is s.heap x.1 x.2.1) ∧ KTn c H kvs xs ∧ xs.map (·.1) = kvs.map fun p => p.1.nk := by
      intro kvs es l r
      unfold RepKT at r
      induction r generalizing l with
      | nil => intro q _; cases q; exact ⟨[], rfl, (fun _ z => nomatch z), .nil, rfl⟩
      | @cons p e ps es' hp t ih =>
        intro q hall
        cases q with
        | @cons _ en _ ens q1 q2 =>
          obtain ⟨xs, e1, e2, e3, e4⟩ := ih _ q2 hall.tail
          obtain ⟨r1, r2, r3⟩ := hp
          obtain ⟨g1, g2, g3⟩ := q1
          have hk := hall p List.mem_cons_self
          obtain ⟨b, eb⟩ := tup_ref hk r1
          rw [eb] at r1 g1
          have gk : en.key = .ref b := g1
          refine ⟨(p.1.nk, b, en.val) :: xs, ?_, ?_, .cons ⟨rfl, r1, e.2.2, r3, g3⟩ e3, by rw [List.map_cons, List.map_cons, e4]⟩
          · rw [List.map_cons, ← e1]
            congr 1
            cases en with
            | mk hh kk vv =>
              simp only at gk g2
              show _ = DictEntry.mk (p.1.nk.hash X.w) (.ref b) vv
              rw [hK, ← r2, g2, gk]
          · intro x hx
            rcases List.mem_cons.mp hx with rfl | hx
            · exact key_is I.hok hk r1
            · exact e2 x hx
    obtain ⟨xs, e1, e2, e3, e4⟩ := build kvs es arr.toList hr h4 ht
    refine ⟨hm, trivial, hnd, hz, xs, ⟨o, arr, ep, h1, h2, h3, e1, e2, ?_⟩, e3⟩
    rw [e4]
    have : (kvs.map fun p => p.1.nk) = (kvs.map (·.1)).map D.nk := by rw [List.map_map]; rfl
    rw [this]
    refine (List.pairwise_map.mpr ?_)
    refine List.Pairwise.imp_of_mem (fun {x y} hx hy hne e => hne ?_) hnd
    obtain ⟨p, hp, rfl⟩ := List.mem_map.mp hx
    obtain ⟨q, hq, rfl⟩ := List.mem_map.mp hy
    exact tk_inj (ht p hp) (ht q hq) e
theorem tup_view (I : Inv X pins σ H s) (hK : X.w = c.w) (hS : RepS c H S) (h : S a = some (.dic kvs)) (ha : allTup kvs) :
    (a == sysModules) = false ∧ Mut (H a) ∧ (kvs.map (·.1)).Nodup ∧ kvs.length ≤ sizeLine ∧ ∃ xs, s.heap.DictOfH (nestedKind X.prog X.w) a xs ∧ KTn c H kvs xs := by
  obtain ⟨x1, _, x2, x3, x4⟩ := tup_viewR I hK hS (dicOf_dic h) ha
  obtain ⟨u, e, m⟩ := hS.mutD h
  exact ⟨x1, by rw [e]; exact m, x2, x3, x4⟩
theorem dk_nil {P : Program} {w : World} {H : Hp} {h : Heap} {xs : List NX} (hd : (a == sysModules) = false) (hx : h.DictOfH (nestedKind P w) a xs) (e : xs = []) : ObjOk P w H h a (.dK []) := by
  subst e
  obtain ⟨o, es, ep, h1, h2, h3, h4, _, _⟩ := hx
  have h5 : es = #[] := by simpa using h4
  subst h5
  exact ⟨Nat.zero_le _, hd, [], .nil, o, _, ep, h1, h2, h3, ⟨fun e he => by simp at he, .nil, List.nodup_nil⟩⟩
/-- the new object, behind a write or at its making -/
theorem dict_new {P : Program} {h' : Heap} {H1 : Hp} {xs : List NX} (hd : (a == sysModules) = false) (hx : h'.DictOfH (nestedKind P c.w) a xs) (ha : allTup kvs) (hnd : (kvs.map (·.1)).Nodup) (hz : kvs.length ≤ sizeLine)
    (r : ∀ u, KTn c (upd H1 a u) kvs xs) : ∃ u, ObjOk P c.w (upd H1 a u) h' a u ∧ RepO c (upd H1 a u) a (.dic kvs) := by
  by_cases e : kvs = []
  · subst e
    have r0 := r (.dK [])
    cases r0
    exact ⟨.dK [], dk_nil hd hx rfl, .inl ⟨[], (fun _ z => nomatch z), upd_same, .nil⟩⟩
  · have key : ∀ (kvs : List (D × D)) (xs : List NX) (u : HO), KTn c (upd H1 a u) kvs xs → ∃ es : List (V × Int × V), Paired (fun (p : V × Int × V) (q : DictEntry) => RelV p.1 q.key ∧ p.2.1 = q.hash ∧ RelV p.2.2 q.val) es (xs.map (entryOfKey (nestedKind P c.w))) := by
      intro kvs xs u r
      unfold KTn at r
      induction r with
      | nil => exact ⟨[], .nil⟩
      | @cons p q ps qs h t ih =>
        obtain ⟨es, he⟩ := ih
        obtain ⟨h1, h2, v, h3, h4⟩ := h
        exact ⟨(.ref q.2.1, q.1.hash c.w, v) :: es, .cons ⟨rfl, rfl, h4⟩ he⟩
    have key2 : ∀ (kvs : List (D × D)) (xs : List NX) (es : List (V × Int × V)) (u : HO), KTn c (upd H1 a u) kvs xs → Paired (fun (p : V × Int × V) (q : DictEntry) => RelV p.1 q.key ∧ p.2.1 = q.hash ∧ RelV p.2.2 q.val) es (xs.map (entryOfKey (nestedKind P c.w))) → RepKT c (upd H1 a u) kvs es := by
      intro kvs xs es u r
      unfold KTn at r
      induction r generalizing es with
      | nil => intro q; cases q; exact .nil
      | @cons p q ps qs h t ih =>
        intro g
        cases g with
        | @cons e1 _ es' _ g1 g2 =>
          obtain ⟨h1, h2, v, h3, h4⟩ := h
          obtain ⟨k1, k2, k3⟩ := g1
          refine .cons ⟨?_, ?_, ?_⟩ (ih _ g2)
          · have : e1.1 = .ref q.2.1 := by
              have k1' : RelV e1.1 (Value.ref q.2.1) := k1
              exact RelV.inj k1' (show RelV (.ref q.2.1) (.ref q.2.1) from rfl)
            rw [this]; exact h2
          · rw [k2]
            show q.1.hash c.w = _
            rw [h1]
          · have k3' : RelV e1.2.2 q.2.2 := k3
            rw [RelV.inj k3' h4]; exact h3
    obtain ⟨es, he⟩ := key kvs xs (.dK []) (r _)
    obtain ⟨o, arr, ep, h1, h2, h3, h4, _, _⟩ := id hx
    refine ⟨dictAt a es, ⟨⟨o, arr, ep, h1, h2, h3, by rw [h4]; exact he⟩, ⟨o, h1⟩, fun g1 g2 ⟨o', arr', ep', q1, q2⟩ k => ⟨o', arr', ep', k _ q1, q2⟩⟩,
      .inr ⟨es, e, ha, hnd, hz, hd, upd_same, key2 kvs xs es _ (r _) he⟩⟩
/-- a dict of tuples is written -/
theorem dict_write (I : Inv X pins σ H s) (hw : X.w = c.w) (hS : RepS c H S) {o : DO} (h : S a = some o) (mu : Mut (H a)) {h' : Heap} {t' : Nat} {xs : List NX} (hd : (a == sysModules) = false)
    (hx : h'.DictOfH (nestedKind X.prog X.w) a xs) (hk : ∀ b u, b ≠ a → s.heap.get? b = some u → h'.get? b = some u) (ha : allTup kvs) (hnd : (kvs.map (·.1)).Nodup) (hz : kvs.length ≤ sizeLine) (r : KTn c H kvs xs) :
    ∃ u, Inv X pins σ (upd H a u) { s with heap := h', toks := t' } ∧ RepS c (upd H a u) (put S a (.dic kvs)) ∧ Fr H S (upd H a u) (put S a (.dic kvs)) := by
  have nn : ∀ b, S b = none → b ≠ a := fun b n z => by subst z; rw [n] at h; cases h
  have ex : ∀ u, Ext H (upd H a u) := fun u => ⟨fun b xs e => by rw [upd_ne (nn b (hS.tupN e))]; exact e, fun b o u' e => by rw [upd_ne (nn b (hS.frzN e))]; exact e⟩
  rw [hw] at hx
  obtain ⟨u, hu, hr⟩ := dict_new (P := X.prog) (H1 := H) hd hx ha hnd hz fun u => r.ext (ex u)
  refine ⟨u, ?_, hS.write h (fun _ => hr) fun k e => ?_⟩
  rotate_left
  · subst e
    rcases (show RepO c H a (.fdc k) from hS a _ h) with ⟨o, ks, _, q, _⟩ | ⟨o, es, _, _, _, _, _, q, _⟩
    · rw [q] at mu; exact mu
    · rw [q] at mu; exact mu
  obtain ⟨ob, _, _, hob, _⟩ := id hx
  exact I.write (x := a) (e := a) mu (.inl rfl) hk ⟨ob, hob⟩ (by rw [hw]; exact hu)
/-- a dict of tuples is made -/
theorem dict_made (I : Inv X pins σ H s) (hw : X.w = c.w) (hS : RepS c H S) {h' : Heap} {t' : Nat} {xs : List NX} (hx : h'.DictOfH (nestedKind X.prog X.w) s.heap.objs.size xs) (hk : ∀ b u, s.heap.get? b = some u → h'.get? b = some u)
    (ha : allTup kvs) (hnd : (kvs.map (·.1)).Nodup) (hz : kvs.length ≤ sizeLine) (r : KTn c H kvs xs) :
    ∃ u, Inv X pins σ (upd H s.heap.objs.size u) { s with heap := h', toks := t' } ∧ RepS c (upd H s.heap.objs.size u) (put S s.heap.objs.size (.dic kvs)) ∧ Fr H S (upd H s.heap.objs.size u) (put S s.heap.objs.size (.dic kvs)) := by
  have hp : H s.heap.objs.size = none := I.hok.fresh (Nat.le_refl _)
  have ex : ∀ u, Ext H (upd H s.heap.objs.size u) := fun u => (hS.laid (u := u) hp).2.ext hS
  rw [hw] at hx
  obtain ⟨u, hu, hr⟩ := dict_new (P := X.prog) (H1 := H) (beq_eq_false_iff_ne.mpr (Ne.symm (Nat.ne_of_lt I.big))) hx ha hnd hz fun u => r.ext (ex u)
  refine ⟨u, ?_, hS.alloc hp hr⟩
  exact I.laid hk (Nat.le_refl _) (by rw [hw]; exact hu)
end

/-! ### flat keys -/
theorem fk_inj {a b : D} (ha : a.flatKey = true) (hb : b.flatKey = true) (e : a.fk = b.fk) : a = b := by
  cases a <;> first | cases ha | skip
  · cases b <;> first | cases hb | skip
    · have : (Sum.inl _ : Key) = Sum.inl _ := e
      cases this; rfl
    · have : (Sum.inl _ : Key) = Sum.inr _ := e
      cases this
  · cases b <;> first | cases hb | skip
    · have : (Sum.inr _ : Key) = Sum.inl _ := e
      cases this
    · have : (Sum.inr _ : Key) = Sum.inr _ := e
      injection this with this
      rw [os_inj this]
theorem fk_rep {c : Cfg} {H : Hp} {d : D} {v : V} (k : d.flatKey = true) (r : RepV c H d v) : v = kV d.fk := by
  cases d <;> first | cases k | skip
  · cases r; rfl
  · cases r; rfl
def allFlat (kvs : List (D × D)) : Prop := ∀ p ∈ kvs, p.1.flatKey = true
theorem allFlat.tail {p : D × D} {kvs : List (D × D)} (h : allFlat (p :: kvs)) : allFlat kvs := fun q hq => h q (List.mem_cons_of_mem _ hq)
section
variable {c : Cfg} {H : Hp}
theorem KF.at {kvs : List (D × D)} {ks : List (Key × V)} (r : RepKF c H kvs ks) {k : D} (hk : k.flatKey = true) : allFlat kvs →
    (look kvs k = none ∧ valV ks k.fk = none) ∨ ∃ d v, look kvs k = some d ∧ valV ks k.fk = some v ∧ RepV c H d v := by
  unfold RepKF at r
  induction r with
  | nil => intro _; exact .inl ⟨rfl, rfl⟩
  | @cons p q ps qs h t ih =>
    intro ha
    have hp := ha p List.mem_cons_self
    rw [look_cons]
    by_cases e : p.1 = k
    · rw [if_pos e]
      exact .inr ⟨p.2, q.2, rfl, valV_pos (by rw [h.1, e]), h.2⟩
    · rw [if_neg e, valV_neg (fun z => e (fk_inj hp hk (h.1.symm.trans z)))]
      exact ih ha.tail
theorem KF.put {kvs : List (D × D)} {ks : List (Key × V)} (r : RepKF c H kvs ks) {k y : D} {v : V} (hk : k.flatKey = true) (ry : RepV c H y v) (ha : allFlat kvs) : RepKF c H (putK kvs k y) (L2.putK ks k.fk v) := by
  have e : (ks.any fun kv => decide (kv.1 = k.fk)) = has kvs k := by
    unfold has
    rw [valV_any]
    rcases KF.at r hk ha with ⟨e1, e2⟩ | ⟨d, v', e1, e2, _⟩
    · rw [e1, e2]; rfl
    · rw [e1, e2]; rfl
  unfold putK L2.putK
  rw [e]
  by_cases q : has kvs k = true
  · rw [if_pos q, if_pos q]
    clear e q
    unfold RepKF at r ⊢
    induction r with
    | nil => exact .nil
    | @cons p q ps qs h t ih =>
      have hp := ha p List.mem_cons_self
      rw [List.map_cons, List.map_cons]
      refine .cons ?_ (ih ha.tail)
      unfold upd1
      by_cases e : p.1 = k
      · rw [if_pos e, if_pos (by rw [h.1, e])]; exact ⟨h.1, ry⟩
      · rw [if_neg e, if_neg (fun z => e (fk_inj hp hk (h.1.symm.trans z)))]; exact h
  · rw [if_neg q, if_neg q]
    exact Paired.app r (.cons ⟨rfl, ry⟩ .nil)
theorem KF.drop {kvs : List (D × D)} {ks : List (Key × V)} (r : RepKF c H kvs ks) {k : D} (hk : k.flatKey = true) : allFlat kvs → RepKF c H (Nf.dropK kvs k) (L2.dropK ks k.fk) := by
  unfold RepKF at r ⊢
  induction r with
  | nil => intro _; exact .nil
  | @cons p q ps qs h t ih =>
    intro ha
    have hp := ha p List.mem_cons_self
    unfold Nf.dropK L2.dropK
    rw [List.filter_cons, List.filter_cons]
    by_cases e : p.1 = k
    · rw [if_neg (by simp [e]), if_neg (by rw [h.1]; simp [e])]
      exact ih ha.tail
    · have e2 : ¬ q.1 = k.fk := fun z => e (fk_inj hp hk (h.1.symm.trans z))
      rw [if_pos (by simp [e]), if_pos (by simp [e2])]
      exact .cons h (ih ha.tail)
theorem KF.merge : ∀ {ps : List (D × D)} {ys : List (Key × V)} {kvs : List (D × D)} {ks : List (Key × V)}, RepKF c H ps ys → RepKF c H kvs ks → allFlat kvs → allFlat ps → RepKF c H (Nf.mergeK kvs ps) (L2.mergeK ks ys)
  | [], _, _, _, h, r, _, _ => by cases h; exact r
  | (k, v) :: ps, _, kvs, ks, h, r, ha, hp => by
    cases h with
    | @cons _ q _ qs e t =>
      have hk := hp (k, v) List.mem_cons_self
      have r2 := KF.put r hk e.2 ha
      have e2 : L2.mergeK ks (q :: qs) = L2.mergeK (L2.putK ks k.fk q.2) qs := by
        show List.foldl _ (L2.putK ks q.1 q.2) qs = _
        rw [e.1]; rfl
      rw [e2]
      refine KF.merge (ps := ps) t r2 (fun p h => ?_) hp.tail
      rcases mem_putK h with e | h
      · rw [e]; exact hk
      · exact ha p h
end
theorem allFlat.put {kvs : List (D × D)} {k v : D} (hk : k.flatKey = true) (h : allFlat kvs) : allFlat (putK kvs k v) := fun p hp => by
  rcases mem_putK hp with e | hp
  · rw [e]; exact hk
  · exact h p hp
theorem allFlat.merge : ∀ {ps kvs : List (D × D)}, allFlat kvs → allFlat ps → allFlat (Nf.mergeK kvs ps)
  | [], _, h, _ => h
  | (k, v) :: ps, _, h, q => allFlat.merge (ps := ps) (h.put (q (k, v) List.mem_cons_self)) q.tail
section
variable {c : Cfg} {H : Hp} {S : Store} {a : Addr} {kvs : List (D × D)}
theorem flat_view (hS : RepS c H S) (h : S a = some (.dic kvs)) (hf : allFlat kvs) : ∃ ks, H a = some (.dK ks) ∧ RepKF c H kvs ks := by
  rcases hS.dic h with ⟨ks, _, he, hr⟩ | ⟨es, hne, ht, _⟩
  · exact ⟨ks, he, hr⟩
  · cases kvs with
    | nil => exact absurd rfl hne
    | cons p r => exact (flat_not_tup (hf p List.mem_cons_self) (ht p List.mem_cons_self)).elim
theorem flat_viewR (hS : RepS c H S) (h : dicOf (S a) = some kvs) (hf : allFlat kvs) : ∃ ks, Rd H a (.dK ks) ∧ RepKF c H kvs ks := by
  rcases hS.dicR h with ⟨ks, _, he, hr⟩ | ⟨es, hne, ht, _⟩
  · exact ⟨ks, he, hr⟩
  · cases kvs with
    | nil => exact absurd rfl hne
    | cons p r => exact (flat_not_tup (hf p List.mem_cons_self) (ht p List.mem_cons_self)).elim
theorem DGet.kr {kvs : List (Key × V)} {k : Key} (e : Rd H a (.dK kvs)) : DGet H a (kV k) (valV kvs k) := .inl ⟨kvs, k, e, rfl, rfl⟩
end
end Nf
set_option Elab.async false
set_option linter.all false
set_option maxRecDepth 100000
/-! NfVal: in, places, stores, built-ins and methods, by values. -/
namespace Nf
open PySem PySem.Spec L2
open PyProof.Rows hiding St

section
variable {c : Cfg} {X : Cx}
theorem isDic_is {S : Store} {d : D} (h : isDic S d) : ∃ a kvs, d = .ref a ∧ dicOf (S a) = some kvs := by
  unfold isDic at h
  split at h
  · obtain ⟨kvs, e⟩ := Option.isSome_iff_exists.mp h
    exact ⟨_, kvs, rfl, e⟩
  · cases h
theorem RepV.getD {H : Hp} {o : Option D} {v : Option V} {d : D} {w : V} (h : (o = none ∧ v = none) ∨ ∃ x y, o = some x ∧ v = some y ∧ RepV c H x y) (r : RepV c H d w) : RepV c H (o.getD d) (v.getD w) := by
  rcases h with ⟨h1, h2⟩ | ⟨x, y, h1, h2, h3⟩
  · rw [h1, h2]; exact r
  · rw [h1, h2]; exact h3
theorem kroom {A : Around} (hu : A.units + 70 < cLine) : A.in1.units + 8 < cLine := by
  show A.units + 1 + 8 < cLine
  omega
theorem kroom2 {A : Around} (hu : A.units + 70 < cLine) : A.in1.in1.units + 8 < cLine := by
  show A.units + 1 + 1 + 8 < cLine
  omega
theorem wpAny_notIn_heap' {prog : Program} {w : World} {K : Type} [DecidableEq K] {knd : HeapKind prog w K} {A : Around} {E : Value → Shared → Prop} {s : Shared} {d a : Addr} {k : K} {xs : List (K × Addr × Value)} {Q : Value → Shared → Prop}
    (hu : knd.room A.in1) (hkey : knd.is s.heap k a) (hd : (d == sysModules) = false) (hm : s.heap.DictOfH knd d xs)
    (h : Q (.bool (!(atKey xs k).isSome)) { s with toks := s.toks + knd.draws k }) : wpAny (model prog w) A (compareOp .NotIn (.ref a) (.ref d)) Q E s := by
  have e := valueAt_pairsH xs k
  refine notIn_keyed (knd := knd) (kvs := pairsH xs) hu hkey hd ⟨xs, hm, rfl⟩ ?_
  rw [e, Option.isSome_map]
  exact h
/-- x in d, x not in d, d a dict -/
theorem dic_has (hw : X.w = c.w) (hu : X.A.units + 70 < cLine) {pins : List (Addr × Obj)} {s : Shared} {σ : L2.St} {H : Hp} {x y : V} {v u : Value} {Q : VK} {k : D} {a : Addr} {kvs : List (D × D)} {S : Store} (I : Inv X pins σ H s) (rx : RelV x v) (ry : RelV y u)
    (r1 : RepV c H k x) (r2 : RepV c H (.ref a) y) (hS : RepS c H S) (hd : dicOf (S a) = some kvs) (hk : keysOk k kvs) :
    (Q (.bl (has kvs k)) H → wpAny (model X.prog X.w) X.A (compareOp .In v u) (EP X pins σ Q) X.xe s) ∧ (Q (.bl !(has kvs k)) H → wpAny (model X.prog X.w) X.A (compareOp .NotIn v u) (EP X pins σ Q) X.xe s) := by
  cases r2
  cases ry
  rcases hk with ⟨hf, hall⟩ | ⟨ht, hall⟩
  · obtain ⟨ks, he, rk⟩ := flat_viewR hS hd hall
    have ex := fk_rep hf r1
    subst ex
    have e : (valV ks k.fk).isSome = has kvs k := by
      unfold has
      rcases KF.at rk hf hall with ⟨e1, e2⟩ | ⟨d, v', e1, e2, _⟩
      · rw [e1, e2]; rfl
      · rw [e1, e2]; rfl
    refine ⟨fun q => d_in (by omega) I (DGet.kr he) rx fun s' I' => ⟨.bl _, H, I', rfl, ?_⟩, fun q => d_notIn (by omega) I (DGet.kr he) rx fun s' I' => ⟨.bl _, H, I', rfl, ?_⟩⟩
    · rw [e]; exact q
    · rw [e]; exact q
  · obtain ⟨hm, _, _, _, xs, hx, rk⟩ := tup_viewR I hw hS hd hall
    obtain ⟨b, rfl⟩ := tup_ref ht r1
    cases rx
    have e : (atKey xs k.nk).isSome = has kvs k := by
      unfold has
      rcases rk.at ht hall with ⟨e1, e2⟩ | ⟨d, p, v', e1, e2, _⟩
      · rw [e1, e2]; rfl
      · rw [e1, e2]; rfl
    have ki := key_is (P := X.prog) (w := X.w) I.hok ht r1
    refine ⟨fun q => wpAny_in_heap (kroom hu) ki hm hx ?_, fun q => wpAny_notIn_heap' (kroom hu) ki hm hx ?_⟩
    · rw [e]; exact ⟨.bl _, H, I.tok _, rfl, q⟩
    · rw [e]; exact ⟨.bl _, H, I.tok _, rfl, q⟩
theorem opIn (hK : X.K = c.K) (hw : X.w = c.w) (hu : X.A.units + 70 < cLine) : OpR X (compareOp .In) (liftR2 c (asR2 rIn)) := by
  intro pins s σ H x y v u Q I rx ry ⟨d, e, S, P, r1, r2, hS, h, hP⟩
  by_cases nd : isDic S e
  · obtain ⟨a, kvs, rfl, hd⟩ := isDic_is nd
    unfold asR2 rIn at h
    cases ho : S a with
    | none => rw [ho] at hd; cases hd
    | some o =>
      cases o with
      | dic k =>
        simp only [ho] at h
        rw [ho] at hd; cases hd
        exact (dic_has hw hu I rx ry r1 r2 hS (dicOf_dic ho) h.1).1 (hP _ S _ H h.2 Fr.refl rfl hS)
      | fdc k =>
        simp only [ho] at h
        rw [ho] at hd; cases hd
        exact (dic_has hw hu I rx ry r1 r2 hS (dicOf_fdc ho) h.1).1 (hP _ S _ H h.2 Fr.refl rfl hS)
      | _ => rw [ho] at hd; cases hd
  · exact opIn0 hK (by omega) pins s σ H x y v u Q d e S P I rx ry r1 r2 hS h nd hP
theorem opNin (hK : X.K = c.K) (hw : X.w = c.w) (hu : X.A.units + 70 < cLine) : OpR X (compareOp .NotIn) (liftR2 c (asR2 fun x y S k => rIn x y S fun b => k (!b))) := by
  intro pins s σ H x y v u Q I rx ry ⟨d, e, S, P, r1, r2, hS, h, hP⟩
  by_cases nd : isDic S e
  · obtain ⟨a, kvs, rfl, hd⟩ := isDic_is nd
    unfold asR2 rIn at h
    cases ho : S a with
    | none => rw [ho] at hd; cases hd
    | some o =>
      cases o with
      | dic k =>
        simp only [ho] at h
        rw [ho] at hd; cases hd
        exact (dic_has hw hu I rx ry r1 r2 hS (dicOf_dic ho) h.1).2 (hP _ S _ H h.2 Fr.refl rfl hS)
      | fdc k =>
        simp only [ho] at h
        rw [ho] at hd; cases hd
        exact (dic_has hw hu I rx ry r1 r2 hS (dicOf_fdc ho) h.1).2 (hP _ S _ H h.2 Fr.refl rfl hS)
      | _ => rw [ho] at hd; cases hd
  · exact opNin0 hK (by omega) pins s σ H x y v u Q d e S P I rx ry r1 r2 hS h nd hP

/-! ### d[k] -/
theorem dic_get (hw : X.w = c.w) (hu : X.A.units + 70 < cLine) {A : Around} (hA : A.units ≤ X.A.units + 1) {E : Value → Shared → Prop} {pins : List (Addr × Obj)} {s : Shared} {σ : L2.St} {H : Hp} {y : V} {u : Value} {k d : D} {a : Addr} {kvs : List (D × D)} {S : Store} (I : Inv X pins σ H s) (ry : RelV y u)
    (r1 : RepV c H k y) (hS : RepS c H S) (hd : dicOf (S a) = some kvs) (hk : keysOk k kvs) (hl : look kvs k = some d) {Q : Value → Shared → Prop} (q : ∀ v w s', RepV c H d v → RelV v w → Inv X pins σ H s' → Q w s') :
    wpAny (model X.prog X.w) A (getItem (.ref a) u) Q E s := by
  rcases hk with ⟨hf, hall⟩ | ⟨ht, hall⟩
  · obtain ⟨ks, he, rk⟩ := flat_viewR hS hd hall
    have ex := fk_rep hf r1
    subst ex
    rcases KF.at rk hf hall with ⟨e1, _⟩ | ⟨d', v', e1, e2, r3⟩
    · rw [hl] at e1; cases e1
    · rw [hl] at e1; cases e1
      exact d_getItem (by omega) I (show DGet H a (kV k.fk) (some v') by rw [← e2]; exact DGet.kr he) ry fun w' s' I' rw' => q v' w' s' r3 rw' I'
  · obtain ⟨hm, _, _, _, xs, hx, rk⟩ := tup_viewR I hw hS hd hall
    obtain ⟨b, rfl⟩ := tup_ref ht r1
    cases ry
    have ki := key_is (P := X.prog) (w := X.w) I.hok ht r1
    rcases rk.at ht hall with ⟨e1, _⟩ | ⟨d', p, v', e1, e2, r3, r4⟩
    · rw [hl] at e1; cases e1
    · rw [hl] at e1; cases e1
      exact wpAny_getItem_heap (show A.in1.units + 8 < cLine by show A.units + 1 + 8 < cLine; omega) ki hx e2 (q v' _ _ r3 r4 (I.tok _))
theorem dic_type {pins : List (Addr × Obj)} {s : Shared} {σ : L2.St} {H : Hp} {a : Addr} {kvs : List (D × D)} {S : Store} (I : Inv X pins σ H s) (hS : RepS c H S) (hd : dicOf (S a) = some kvs) :
    s.TypeIs (.ref a) "dict" ∧ (∀ b, Value.ref a = .ref b → ∃ ob, s.heap.get? b = some ob ∧ ob.dict = none) ∧ (a == sysModules) = false := by
  have fin : ∀ o : Obj, s.heap.get? a = some o → o.ExactDict → s.TypeIs (.ref a) "dict" ∧ ∀ b, Value.ref a = .ref b → ∃ ob, s.heap.get? b = some ob ∧ ob.dict = none := fun o h1 h2 => ⟨⟨o, h1, h2.1⟩, fun b q => by cases q; exact ⟨o, h1, h2.2.1⟩⟩
  rcases hS.dicR hd with ⟨ks, _, he, _⟩ | ⟨es, _, _, _, _, hm, he, _⟩
  · obtain ⟨_, hm, vs, _, o, _, _, h1, h2, _⟩ := dk_rd I.hok he
    obtain ⟨x, y⟩ := fin o h1 h2
    exact ⟨x, y, hm⟩
  · obtain ⟨⟨o, arr, ep, h1, h2, _⟩, _, _⟩ := (show ObjOk X.prog X.w H s.heap a (dictAt a es) from he.ok I.hok)
    obtain ⟨x, y⟩ := fin o h1 h2
    exact ⟨x, y, hm⟩
theorem getItem_slot {T : String} (h : T = "dict") : ∃ id, typeLookup (.type T) "__getitem__" = pure (some (.builtin id)) := by subst h; exact ⟨_, PySem.F.slot_dict_getitem.lookup⟩
theorem opIx (hK : X.K = c.K) (hw : X.w = c.w) (hu : X.A.units + 70 < cLine) : IxR X (liftR2 c rIx) := by
  intro value slice pins s σ H x y v u Q I rx ry ⟨d, e, S, P, r1, r2, hS, h, hP⟩ hsub
  by_cases nd : isDic S d
  · obtain ⟨a, kvs, rfl, hd⟩ := isDic_is nd
    have h' : keysOk e kvs ∧ (match look kvs e with | some d => P d S | none => False) := by
      unfold rIx at h
      cases ho : S a with
      | none => rw [ho] at hd; cases hd
      | some o =>
        cases o with
        | dic k => simp only [ho] at h; rw [ho] at hd; cases hd; exact h
        | fdc k => simp only [ho] at h; rw [ho] at hd; cases hd; exact h
        | _ => rw [ho] at hd; cases hd
    obtain ⟨hk, h⟩ := h'
    cases r1
    cases rx
    split at h
    · rename_i dd hl
      obtain ⟨t1, t2, _⟩ := dic_type I hS hd
      refine tail_any (ops := [.ref a, u]) t1 PySem.F.slot_dict_getitem.lookup ?_ hsub
      exact dic_get hw hu (Nat.le_succ _) I ry r2 hS hd hk hl fun v' w' s' r3 r4 I' => ⟨v', H, I', r4, hP _ S _ H h Fr.refl r3 hS⟩
    · cases h
  · exact opIx0 hK value slice pins s σ H x y v u Q d e S P I rx ry r1 r2 hS h nd hP hsub
end
end Nf
set_option Elab.async false
set_option linter.all false
set_option maxRecDepth 100000
/-! NfVal2: stores, methods of dicts and lists and texts, by values. -/
namespace Nf
open PySem PySem.Spec L2
open PyProof.Rows hiding St
def PostN (c : Cfg) (H : Hp) (S : Store) (P : Store → Prop) (Q : Hp → Prop) : Prop := ∀ S' H', P S' → Fr H S H' S' → RepS c H' S' → Q H'
theorem PostN.fr {c : Cfg} {H H1 : Hp} {S S1 : Store} {P : Store → Prop} {Q : Hp → Prop} (h : PostN c H S P Q) (f : Fr H S H1 S1) : PostN c H1 S1 P Q := fun S' H' p f2 s => h S' H' p (f.trans f2) s
def liftSet (c : Cfg) : TSet := fun o i v H Q => ∃ d e f S P, RepV c H d o ∧ RepV c H e i ∧ RepV c H f v ∧ RepS c H S ∧ rSetI d e f S P ∧ PostN c H S P Q
section
variable {c : Cfg} {X : Cx}
theorem dic_put (hw : X.w = c.w) (hu : X.A.units + 70 < cLine) {E : Value → Shared → Prop} {pins : List (Addr × Obj)} {s : Shared} {σ : L2.St} {H : Hp} {y z : V} {u t : Value} {k d : D} {a : Addr} {kvs : List (D × D)} {S : Store} (I : Inv X pins σ H s) (ry : RelV y u) (rz : RelV z t)
    (r1 : RepV c H k y) (r2 : RepV c H d z) (hS : RepS c H S) (hd : S a = some (.dic kvs)) (hk : keysOk k kvs) (hlen : kvs.length < szLine) {Q : Unit → Shared → Prop}
    (q : ∀ s' H', Inv X pins σ H' s' → RepS c H' (put S a (.dic (putK kvs k d))) → Fr H S H' (put S a (.dic (putK kvs k d))) → Q () s') :
    wpAny (model X.prog X.w) X.A (setItem (.ref a) u t) Q E s := by
  rw [szl] at hlen
  rcases hk with ⟨hf, hall⟩ | ⟨ht, hall⟩
  · obtain ⟨ks, he, rk⟩ := flat_view hS hd hall
    have ex := fk_rep hf r1
    subst ex
    have hl : ks.length < sizeLine := by rw [← Paired.length rk]; exact hlen
    obtain ⟨s2, f2⟩ := hS.write (u := .dK (L2.putK ks k.fk z)) (o' := .dic (putK kvs k d)) hd fun ex => .inl ⟨_, allFlat.put hf hall, upd_same, Paired.mono2 (fun _ _ x => ⟨x.1, x.2.ext ex⟩) (KF.put rk hf r2 hall)⟩
    exact d_setItem (by omega) I (DPut.k he hl) ry rz fun s' I' => q s' _ I' s2 f2
  · obtain ⟨hm, mu, hnd, hz, xs, hx, rk⟩ := tup_view I hw hS hd hall
    obtain ⟨b, rfl⟩ := tup_ref ht r1
    cases ry
    have ki := key_is (P := X.prog) (w := X.w) I.hok ht r1
    have hz2 : xs.length ≤ sizeLine := by rw [← rk.length]; exact hz
    refine wpAny_setItem_heap (hsz := hz2) (kroom hu) ki hx fun h' hx' hs => ?_
    obtain ⟨uu, I2, s2, f2⟩ := dict_write (t' := s.toks + (nestedKind X.prog X.w).draws k.nk) I hw hS hd mu hm hx' (fun b u hb e => (hs.2 b hb).trans e) (allTup.put ht hall) (nodup_putK hnd) (by have := length_putK kvs k d; omega) (rk.put ht r1 r2 rz hall)
    exact q _ _ I2 s2 f2
theorem opSet (hK : X.K = c.K) (hw : X.w = c.w) (hu : X.A.units + 70 < cLine) : PSet X (liftSet c) := by
  intro pins s σ H o i v ov iv u Q I ro ri rv ⟨d, e, f, S, P, r1, r2, r3, hS, h, hP⟩
  unfold rSetI at h
  split at h
  · split at h
    · rename_i a _ xs hd
      cases r1
      obtain ⟨vs, hv, rvs⟩ := hS.lst hd
      obtain ⟨j, ej, h2⟩ := asI_int h
      subst ej
      cases r2
      split at h2
      · rename_i n hn
        refine set_list pins s σ H _ _ v ov iv u Q I ro ri rv ⟨a, vs, j, n, rfl, rfl, hv, by rw [ixN_eq, ← rvs.length]; exact hn, ?_⟩
        obtain ⟨s2, f2⟩ := hS.write (u := .lst (vs.set n v)) (o' := .lst (xs.set n f)) hd fun ex => ⟨_, upd_same, (rvs.set r3 n).ext ex⟩
        exact hP _ _ h2 f2 s2
      · cases h2
    · rename_i a _ kvs hd
      cases r1
      cases ro
      refine dic_put hw hu I ri rv r2 r3 hS hd h.1 h.2.1 fun s' H' I' s2 f2 => ⟨H', I', hP _ _ h.2.2 f2 s2⟩
    · cases h
  · cases h
end
end Nf
set_option Elab.async false
set_option linter.all false
set_option maxRecDepth 100000
/-! NfVal3: lists of pairs as dicts; the methods of dicts. -/
namespace Nf
open PySem PySem.Spec L2
open PyProof.Rows hiding St
section
variable {c : Cfg} {X : Cx} {pins : List (Addr × Obj)} {σ : L2.St} {H : Hp} {s : Shared} {S : Store}
/-- a pair as it stands: where, its key's value, its value's -/
structure PrAt (h : Heap) (T : Addr) (k v : Value) : Prop where
  at_ : PairAt h T k v
theorem pair_tup (I : Inv X pins σ H s) {k d : D} {v : V} {u : Value} (r : RepV c H (.tup [k, d]) v) (ru : RelV v u) :
    ∃ T kv dv ku du, u = .ref T ∧ PairAt s.heap T ku du ∧ RepV c H k kv ∧ RepV c H d dv ∧ RelV kv ku ∧ RelV dv du ∧ H T = some (.tup [kv, dv]) := by
  obtain ⟨T, vs, rfl, hv, rl⟩ := r.tup_eq
  obtain ⟨kv, vs, rfl, r1, rl⟩ := RepL.cases_cons rl
  obtain ⟨dv, vs, rfl, r2, rl⟩ := RepL.cases_cons rl
  rw [RepL.nil_eq rl] at hv
  cases ru
  obtain ⟨_, its, rv, ht⟩ := (show ObjOk X.prog X.w H s.heap T (.tup [kv, dv]) from I.hok T _ hv)
  obtain ⟨ku, du, rfl, q1, q2⟩ := vals2 rv
  exact ⟨T, kv, dv, ku, du, rfl, .inl ht, r1, r2, q1, q2, hv⟩
theorem pairsOf_cons {x : D} {xs : List D} {ps : List (D × D)} (h : pairsOf (x :: xs) = some ps) : ∃ k d ps', x = .tup [k, d] ∧ pairsOf xs = some ps' ∧ ps = (k, d) :: ps' := by
  unfold pairsOf at h
  split at h
  · rename_i e; cases e
  · rename_i k v ds e
    cases e
    obtain ⟨ps', h1, h2⟩ := Option.map_eq_some_iff.mp h
    exact ⟨k, v, ps', rfl, h1, h2.symm⟩
  · cases h
/-- the pairs of a list, by their places -/
def PairsAt (c : Cfg) (H : Hp) (h : Heap) (its : List Value) (Ts : List Addr) (qs : List (Value × Value)) (ps : List (D × D)) : Prop :=
  its = Ts.map Value.ref ∧ Ts.length = qs.length ∧ (∀ (j : Nat) (T : Addr) (k v : Value), Ts[j]? = some T → qs[j]? = some (k, v) → PairAt h T k v) ∧
  Paired (fun (p : D × D) (q : Value × Value) => ∃ kv dv, RepV c H p.1 kv ∧ RepV c H p.2 dv ∧ RelV kv q.1 ∧ RelV dv q.2) ps qs ∧ ∀ T ∈ Ts, ∃ xs, H T = some (.tup xs)
theorem pairs_at (I : Inv X pins σ H s) : ∀ (ds : List D) (vs : List V) (its : List Value) (ps : List (D × D)), RepL c H ds vs → Vals vs its → pairsOf ds = some ps → ∃ Ts qs, PairsAt c H s.heap its Ts qs ps
  | [], vs, its, ps, r, q, h => by
    rw [RepL.nil_eq r] at q
    cases q
    simp only [pairsOf, Option.some.injEq] at h
    subst h
    exact ⟨[], [], rfl, rfl, (fun j T k v e => by simp at e), .nil, fun _ z => nomatch z⟩
  | d :: ds, vs, its, ps, r, q, h => by
    obtain ⟨k, x, ps', rfl, h2, rfl⟩ := pairsOf_cons h
    obtain ⟨v, vs, rfl, r1, r2⟩ := RepL.cases_cons r
    cases q with
    | cons q1 q2 =>
      obtain ⟨T, kv, dv, ku, du, rfl, hp, g1, g2, g3, g4, g5⟩ := pair_tup I r1 q1
      obtain ⟨Ts, qs, e1, e2, e3, e4, e5⟩ := pairs_at I ds vs _ ps' r2 q2 h2
      refine ⟨T :: Ts, (ku, du) :: qs, by rw [e1]; rfl, by simp [e2], fun j T' k' v' h1 h2 => ?_, .cons ⟨kv, dv, g1, g2, g3, g4⟩ e4, fun T' hT => ?_⟩
      · cases j with
        | zero => simp at h1 h2; obtain ⟨rfl, rfl⟩ := h2; subst h1; exact hp
        | succ j => exact e3 j T' k' v' (by simpa using h1) (by simpa using h2)
      · rcases List.mem_cons.mp hT with rfl | hT
        · exact ⟨_, g5⟩
        · exact e5 T' hT
theorem PairsAt.items {its : List Value} {Ts : List Addr} {qs : List (Value × Value)} {ps : List (D × D)} {h : Heap} (x : PairsAt c H h its Ts qs ps) : PairItems h its.toArray (fun j => Ts.getD j 0) qs := by
  obtain ⟨e1, e2, e3, _⟩ := x
  subst e1
  refine ⟨by simp [e2], fun j k v hj => ?_⟩
  have hl : j < Ts.length := by rw [e2]; exact (List.getElem?_eq_some_iff.mp hj).1
  have ht : Ts[j]? = some (Ts.getD j 0) := by rw [List.getD_eq_getElem?_getD, List.getElem?_eq_getElem hl]; rfl
  refine ⟨?_, e3 j _ k v ht hj⟩
  show (Ts.map Value.ref).toArray[j]? = _
  rw [List.getElem?_toArray, List.getElem?_map, ht]; rfl
theorem PairsAt.len {its : List Value} {Ts : List Addr} {qs : List (Value × Value)} {ps : List (D × D)} {h : Heap} (x : PairsAt c H h its Ts qs ps) : ps.length = qs.length := Paired.length x.2.2.2.1
/-- as pairs with tuples as keys -/
theorem pairs_tup {ps : List (D × D)} {qs : List (Value × Value)} (r : Paired (fun (p : D × D) (q : Value × Value) => ∃ kv dv, RepV c H p.1 kv ∧ RepV c H p.2 dv ∧ RelV kv q.1 ∧ RelV dv q.2) ps qs) : allTup ps →
    ∃ ys : List NX, KTn c H ps ys ∧ qs = ys.map fun y => (Value.ref y.2.1, y.2.2) := by
  induction r with
  | nil => intro _; exact ⟨[], .nil, rfl⟩
  | @cons p q ps qs h t ih =>
    intro ha
    obtain ⟨ys, h1, h2⟩ := ih ha.tail
    obtain ⟨kv, dv, r1, r2, q1, q2⟩ := h
    obtain ⟨b, rfl⟩ := tup_ref (ha p List.mem_cons_self) r1
    have e : q.1 = .ref b := q1
    refine ⟨(p.1.nk, b, q.2) :: ys, .cons ⟨rfl, r1, dv, r2, q2⟩ h1, ?_⟩
    rw [List.map_cons, ← h2]
    congr 1
    rw [← e]
theorem pairs_flat {P : Program} {w : World} {ps : List (D × D)} {qs : List (Value × Value)} (r : Paired (fun (p : D × D) (q : Value × Value) => ∃ kv dv, RepV c H p.1 kv ∧ RepV c H p.2 dv ∧ RelV kv q.1 ∧ RelV dv q.2) ps qs) : allFlat ps →
    ∃ (ks : List (Key × V)) (rs : List (Key × Value)), RepKF c H ps ks ∧ KV ks rs ∧ rs.length = qs.length ∧ ∀ (i : Nat) (key v : Value), qs[i]? = some (key, v) → ∃ k, rs[i]? = some (k, v) ∧ (mixKind P w).is k key = true := by
  induction r with
  | nil => intro _; exact ⟨[], [], .nil, .nil, rfl, fun i k v e => by simp at e⟩
  | @cons p q ps qs h t ih =>
    intro ha
    obtain ⟨ks, rs, h1, h2, h3, h4⟩ := ih ha.tail
    obtain ⟨kv, dv, r1, r2, q1, q2⟩ := h
    have e := fk_rep (ha p List.mem_cons_self) r1
    subst e
    refine ⟨(p.1.fk, dv) :: ks, (p.1.fk, q.2) :: rs, .cons ⟨rfl, r2⟩ h1, .cons ⟨rfl, q2⟩ h2, by simp [h3], fun i key v hi => ?_⟩
    cases i with
    | zero =>
      simp at hi
      subst hi
      exact ⟨p.1.fk, rfl, kV_is q1⟩
    | succ i => simpa using h4 i key v (by simpa using hi)
theorem seqs_keep {h h' : Heap} (k : ∀ b o, h.get? b = some o → h'.get? b = some o) {xs : List NX} {P : Program} {w : World} (hx : ∀ x ∈ xs, (nestedKind P w).is h x.1 x.2.1) : ∀ x ∈ xs, (nestedKind P w).is h' x.1 x.2.1 :=
  fun x m => nestedKind_stays.stays (fun b o _ _ e _ => k b o e) (hx x m)
theorem plain_list (I : Inv X pins σ H s) {b : Addr} {vs : List V} (h : H b = some (.lst vs)) : ∃ its, Vals vs its ∧ PlainSeq "list" s.heap b its.toArray ∧ vs.length ≤ sizeLine := by
  obtain ⟨hz, its, n, r, e⟩ := (show ObjOk X.prog X.w H s.heap b (.lst vs) from I.hok b _ h)
  exact ⟨its, r, ⟨_, n, e, rfl, rfl, rfl⟩, hz⟩
theorem KTn.keysIs (I : Inv X pins σ H s) {kvs : List (D × D)} {xs : List NX} (r : KTn c H kvs xs) : allTup kvs → ∀ x ∈ xs, (nestedKind X.prog X.w).is s.heap x.1 x.2.1 := by
  unfold KTn at r
  induction r with
  | nil => intro _ x hx; cases hx
  | @cons p q ps qs h t ih =>
    intro ha x hx
    rcases List.mem_cons.mp hx with rfl | hx
    · rw [h.1]
      exact key_is I.hok (ha p List.mem_cons_self) h.2.1
    · exact ih ha.tail x hx
end
section
variable {c : Cfg} {X : Cx}
def liftC (c : Cfg) (r : List D → Store → DQ → Prop) : List V → Hp → VK → Prop := fun xs H Q => ∃ ds S P, RepL c H ds xs ∧ RepS c H S ∧ r ds S P ∧ Post c H S P Q
def liftM (c : Cfg) (r : D → List D → Store → DQ → Prop) : V → List V → Hp → VK → Prop := fun x xs H Q => ∃ d ds S P, RepV c H d x ∧ RepL c H ds xs ∧ RepS c H S ∧ r d ds S P ∧ Post c H S P Q
theorem allTup.nil : allTup [] := fun _ h => by cases h
theorem allFlat.nil : allFlat [] := fun _ h => by cases h
/-- dict(xs) -/
theorem call_dictL (hc : X.calm = true) (hw : X.w = c.w) (hu : X.A.units + 70 < cLine) {pins : List (Addr × Obj)} {s : Shared} {σ : L2.St} {H : Hp} {Q : VK} {b : Addr} {xs : List D} {ps : List (D × D)} {S : Store} {P : DQ} (I : Inv X pins σ H s) (hS : RepS c H S)
    (hd : S b = some (.lst xs)) (hp : pairsOf xs = some ps) (hk : keysAll ps) (hz : ps.length ≤ szLine) (h : alloc S (.dic (mergeK [] ps)) P) (hP : Post c H S P Q) :
    wpAny (model X.prog X.w) X.A (call (.type "dict") [.ref b]) (EP X pins σ Q) X.xe s := by
  rw [szl] at hz
  obtain ⟨vs, hv, rv⟩ := hS.lst hd
  obtain ⟨its, ri, pl, hzv⟩ := plain_list I hv
  obtain ⟨Ts, qs, at_⟩ := pairs_at I xs vs its ps rv ri hp
  have hn : qs.length ≤ sizeLine := by rw [← at_.len]; exact hz
  rcases hk with hf | ht
  · obtain ⟨ks, rs, k1, k2, k3, k4⟩ := pairs_flat (P := X.prog) (w := X.w) at_.2.2.2.1 hf
    refine call_dict_pairs (knd := mixKind X.prog X.w) (kvs := rs) (PairArg.list b its.toArray (fun j => Ts.getD j 0) qs) (I.ok.hd hc) ⟨pl, at_.items⟩ ⟨k3, fun i key v hi => k4 i key v hi⟩ hn fun h' tk hx hk => ?_
    have hp0 : H s.heap.objs.size = none := I.hok.fresh (Nat.le_refl _)
    have ex := (hS.laid (u := .dK (L2.mergeK [] ks)) hp0).2.ext hS
    have k0 : RepKF c H (mergeK [] ps) (L2.mergeK [] ks) := KF.merge k1 .nil allFlat.nil hf
    obtain ⟨s2, f2⟩ := hS.alloc (u := .dK (L2.mergeK [] ks)) (o := .dic (mergeK [] ps)) hp0 (.inl ⟨_, allFlat.merge allFlat.nil hf, upd_same, Paired.mono2 (fun _ _ x => ⟨x.1, x.2.ext ex⟩) k0⟩)
    have lz : (L2.mergeK [] ks).length ≤ sizeLine := by
      rw [← Paired.length k0]
      have := length_mergeK ps []
      rw [List.length_nil] at this
      omega
    exact ⟨.ref s.heap.objs.size, _, I.laid (fun b o e => hk b o (fun z => nomatch z) e) (Nat.le_refl _) (dk_new lz (beq_eq_false_iff_ne.mpr (Ne.symm (Nat.ne_of_lt I.big))) (KV.merge k2 .nil) hx), rfl, hP _ _ _ _ (h _ (hS.noneN hp0)) f2 rfl s2⟩
  · obtain ⟨ys, k1, k2⟩ := pairs_tup at_.2.2.2.1 ht
    have hyl : ys.length = qs.length := by rw [k2, List.length_map]
    refine call_dict_pairsH (knd := nestedKind X.prog X.w) (ps := ys) (PairArg.list b its.toArray (fun j => Ts.getD j 0) qs) (I.ok.hd hc) (kroom2 hu) ⟨pl, at_.items⟩ ⟨hyl, fun i key v hi => ?_⟩ (fun h' hk => ?_) hn fun h' tk hx hk => ?_
    · have hi' : qs[i]? = some (key, v) := hi
      rw [k2, List.getElem?_map] at hi'
      obtain ⟨y, h1, h2⟩ := Option.map_eq_some_iff.mp hi'
      cases h2
      exact ⟨y.1, y.2.1, h1, rfl⟩
    · exact seqs_keep (fun b o e => hk b o (Nat.ne_of_lt (Heap.lt_size e)) (fun z => nomatch z) e) (KTn.keysIs I k1 ht)
    · have hp0 : H s.heap.objs.size = none := I.hok.fresh (Nat.le_refl _)
      have lz : (mergeK [] ps).length ≤ sizeLine := by
        have := length_mergeK ps []
        rw [List.length_nil] at this
        omega
      obtain ⟨u, I2, s2, f2⟩ := dict_made (t' := tk) I hw hS hx (fun b o e => hk b o (fun z => (nomatch z)) e) (allTup.merge allTup.nil ht) (nodup_mergeK ps [] List.nodup_nil) lz (KTn.merge k1 .nil allTup.nil ht)
      exact ⟨.ref s.heap.objs.size, _, I2, rfl, hP _ _ _ _ (h _ (hS.noneN hp0)) f2 rfl s2⟩

/-! ### methods of dicts -/
theorem dic_get1 (hw : X.w = c.w) (hu : X.A.units + 70 < cLine) {E : Value → Shared → Prop} {pins : List (Addr × Obj)} {s : Shared} {σ : L2.St} {H : Hp} {y z : V} {u t : Value} {k e : D} {a : Addr} {kvs : List (D × D)} {S : Store} (I : Inv X pins σ H s) (ry : RelV y u) (rz : RelV z t)
    (r1 : RepV c H k y) (r2 : RepV c H e z) (hS : RepS c H S) (hd : dicOf (S a) = some kvs) (hk : keysOk k kvs) {Q : Value → Shared → Prop} :
    ((∀ v w s', RepV c H ((look kvs k).getD .non) v → RelV v w → Inv X pins σ H s' → Q w s') → wpAny (model X.prog X.w) X.A (call (.builtin "dict.get") [.ref a, u]) Q E s) ∧
    ((∀ v w s', RepV c H ((look kvs k).getD e) v → RelV v w → Inv X pins σ H s' → Q w s') → wpAny (model X.prog X.w) X.A (call (.builtin "dict.get") [.ref a, u, t]) Q E s) := by
  rcases hk with ⟨hf, hall⟩ | ⟨ht, hall⟩
  · obtain ⟨ks, he, rk⟩ := flat_viewR hS hd hall
    have ex := fk_rep hf r1
    subst ex
    have g := KF.at rk hf hall
    refine ⟨fun q => d_get1 (by omega) I (DGet.kr he) ry fun w' s' I' rw' => q _ w' s' (RepV.getD g rfl) rw' I', fun q => d_get2 (by omega) I (DGet.kr he) ry rz fun w' s' I' rw' => q _ w' s' (RepV.getD g r2) rw' I'⟩
  · obtain ⟨hm, _, _, _, xs, hx, rk⟩ := tup_viewR I hw hS hd hall
    obtain ⟨b, rfl⟩ := tup_ref ht r1
    cases ry
    have ki := key_is (P := X.prog) (w := X.w) I.hok ht r1
    refine ⟨fun q => ?_, fun q => ?_⟩
    · refine call_meetsIn PySem.F.slot_dict_get hx.typeIs PySem.F.entry_dict_get (PySem.F.args_dict_get_2 _ _) (meetsH_dict_get (nestedKind X.prog X.w) a b hm) ⟨kroom hu, k.nk, xs, ki, hx, ?_⟩
      rcases rk.at ht hall with ⟨e1, e2⟩ | ⟨d, p, v', e1, e2, e3, e4⟩
      · rw [e1] at q; rw [e2]; exact q .non _ _ rfl rfl (I.tok _)
      · rw [e1] at q; rw [e2]; exact q v' _ _ e3 e4 (I.tok _)
    · refine call_meetsIn PySem.F.slot_dict_get hx.typeIs PySem.F.entry_dict_get (PySem.F.args_dict_get_3 _ _ _) (meetsH_dict_get_default (nestedKind X.prog X.w) a b hm t) ⟨kroom hu, k.nk, xs, ki, hx, ?_⟩
      rcases rk.at ht hall with ⟨e1, e2⟩ | ⟨d, p, v', e1, e2, e3, e4⟩
      · rw [e1] at q; rw [e2]; exact q z _ _ r2 rz (I.tok _)
      · rw [e1] at q; rw [e2]; exact q v' _ _ e3 e4 (I.tok _)
theorem dropK_none {kvs : List (D × D)} {k : D} (h : look kvs k = none) : Nf.dropK kvs k = kvs := by
  induction kvs with
  | nil => rfl
  | cons p r ih =>
    rw [look_cons] at h
    by_cases e : p.1 = k
    · rw [if_pos e] at h; cases h
    · rw [if_neg e] at h
      unfold Nf.dropK
      rw [List.filter_cons, if_pos (by simp [e])]
      congr 1
      exact ih h
theorem dic_pop (hw : X.w = c.w) (hu : X.A.units + 70 < cLine) {E : Value → Shared → Prop} {pins : List (Addr × Obj)} {s : Shared} {σ : L2.St} {H : Hp} {y z : V} {u t : Value} {k e d : D} {a : Addr} {kvs : List (D × D)} {S : Store} (I : Inv X pins σ H s) (ry : RelV y u) (rz : RelV z t)
    (r1 : RepV c H k y) (r2 : RepV c H e z) (hS : RepS c H S) (hd : S a = some (.dic kvs)) (hk : keysOk k kvs) {Q : Value → Shared → Prop} :
    (look kvs k = some d → (∀ v w s' H', RepV c H' d v → RelV v w → Inv X pins σ H' s' → RepS c H' (put S a (.dic (dropK kvs k))) → Fr H S H' (put S a (.dic (dropK kvs k))) → Q w s') → ∀ more, (more = [] ∨ ∃ x, more = [x]) → wpAny (model X.prog X.w) X.A (call (.builtin "dict.pop") (.ref a :: u :: more)) Q E s) ∧
    (look kvs k = none → (∀ s', Inv X pins σ H s' → Q t s') → wpAny (model X.prog X.w) X.A (call (.builtin "dict.pop") [.ref a, u, t]) Q E s) := by
  have hargs : ∀ more : List Value, (more = [] ∨ ∃ x, more = [x]) → argsOk "dict.pop" ⟨.ref a :: u :: more, []⟩ := fun more hm => by
    rcases hm with q | ⟨x, q⟩
    · subst q; exact PySem.F.args_dict_pop_2 _ _
    · subst q; exact PySem.F.args_dict_pop_3 _ _ _
  rcases hk with ⟨hf, hall⟩ | ⟨ht, hall⟩
  · obtain ⟨ks, he, rk⟩ := flat_view hS hd hall
    have ex := fk_rep hf r1
    subst ex
    refine ⟨fun hl q more hm => ?_, fun hl q => ?_⟩
    · rcases KF.at rk hf hall with ⟨e1, _⟩ | ⟨d', v', e1, e2, r3⟩
      · rw [hl] at e1; cases e1
      · rw [hl] at e1; cases e1
        obtain ⟨s2, f2⟩ := hS.write (u := .dK (L2.dropK ks k.fk)) (o' := .dic (dropK kvs k)) hd fun ex => .inl ⟨_, fun p hp => hall p (List.mem_filter.mp hp).1, upd_same, Paired.mono2 (fun _ _ x => ⟨x.1, x.2.ext ex⟩) (KF.drop rk hf hall)⟩
        exact d_pop I he ry e2 hm fun w' s' I' rw' => q v' w' s' _ (r3.ext (f2.ext hS)) rw' I' s2 f2
    · rcases KF.at rk hf hall with ⟨_, e2⟩ | ⟨d', v', e1, _⟩
      · exact d_popD I he ry e2 q
      · rw [hl] at e1; cases e1
  · obtain ⟨hm, mu, hnd, hz, xs, hx, rk⟩ := tup_view I hw hS hd hall
    obtain ⟨b, rfl⟩ := tup_ref ht r1
    cases ry
    have ki := key_is (P := X.prog) (w := X.w) I.hok ht r1
    have hz2 : xs.length ≤ sizeLine := by rw [← rk.length]; exact hz
    refine ⟨fun hl q more hmo => ?_, fun hl q => ?_⟩
    · rcases rk.at ht hall with ⟨e1, _⟩ | ⟨d', p, v', e1, e2, r3, r4⟩
      · rw [hl] at e1; cases e1
      · rw [hl] at e1; cases e1
        refine call_pop_heap (hsz := hz2) hmo (hargs more hmo) (kroom hu) ki hm hx e2 fun h' hx' hs => ?_
        obtain ⟨uu, I2, s2, f2⟩ := dict_write (t' := s.toks + (nestedKind X.prog X.w).draws k.nk) I hw hS hd mu hm hx' (fun b u hb e => (hs.2 b hb).trans e) (allTup.drop hall) (nodup_dropK hnd) (Nat.le_trans (length_dropK _ _) hz) (rk.drop ht hall)
        exact q v' _ _ _ (r3.ext (f2.ext hS)) r4 I2 s2 f2
    · rcases rk.at ht hall with ⟨_, e2⟩ | ⟨d', p, v', e1, _⟩
      · exact call_pop_default_heap (hsz := hz2) (kroom hu) ki hm hx e2 fun tk => q _ (I.tok _)
      · rw [hl] at e1; cases e1
theorem put_back {S : Store} {a : Nat} {o : DO} (h : S a = some o) : put S a o = S := by
  funext b
  unfold put
  split
  · rename_i e; subst e; exact h.symm
  · rfl
theorem reps1 {H : Hp} {d : D} {vs : List V} (r : RepL c H [d] vs) : ∃ v, vs = [v] ∧ RepV c H d v := by
  obtain ⟨v, vs, rfl, r1, r2⟩ := RepL.cases_cons r
  rw [RepL.nil_eq r2]
  exact ⟨v, rfl, r1⟩
theorem reps2 {H : Hp} {d e : D} {vs : List V} (r : RepL c H [d, e] vs) : ∃ v u, vs = [v, u] ∧ RepV c H d v ∧ RepV c H e u := by
  obtain ⟨v, vs, rfl, r1, r2⟩ := RepL.cases_cons r
  obtain ⟨u, rfl, r3⟩ := reps1 r2
  exact ⟨v, u, rfl, r1, r3⟩
theorem mtGet (hw : X.w = c.w) (hu : X.A.units + 70 < cLine) : MtR X "dict.get" (liftM c (rDm .get)) := by
  intro pins s σ H x xs v us Q I rx rxs ⟨d, ds, S, P, r1, r2, hS, h, hP⟩
  have fin1 : ∀ (a : Nat) (kvs : List (D × D)) (k : D), d = .ref a → ds = [k] → dicOf (S a) = some kvs → keysOk k kvs ∧ P ((look kvs k).getD .non) S → wpAny (model X.prog X.w) X.A (call (.builtin "dict.get") (v :: us)) (EP X pins σ Q) X.xe s := by
    intro a kvs k e1 e2 hd hh
    subst e1 e2
    cases r1
    cases rx
    obtain ⟨y, rfl, ry⟩ := reps1 r2
    obtain ⟨u, rfl, ru⟩ := vals1 rxs
    exact (dic_get1 hw hu (z := .non) (t := .none) (e := .non) I ru rfl ry rfl hS hd hh.1).1 fun v w s' q1 q2 I' => ⟨v, H, I', q2, hP _ S _ H hh.2 Fr.refl q1 hS⟩
  have fin2 : ∀ (a : Nat) (kvs : List (D × D)) (k e : D), d = .ref a → ds = [k, e] → dicOf (S a) = some kvs → keysOk k kvs ∧ P ((look kvs k).getD e) S → wpAny (model X.prog X.w) X.A (call (.builtin "dict.get") (v :: us)) (EP X pins σ Q) X.xe s := by
    intro a kvs k e e1 e2 hd hh
    subst e1 e2
    cases r1
    cases rx
    obtain ⟨y, z, rfl, ry, rz⟩ := reps2 r2
    obtain ⟨u, t, rfl, ru, rt⟩ := vals2 rxs
    exact (dic_get1 hw hu I ru rt ry rz hS hd hh.1).2 fun v w s' q1 q2 I' => ⟨v, H, I', q2, hP _ S _ H hh.2 Fr.refl q1 hS⟩
  unfold rDm at h
  split at h
  · split at h
    · rename_i a _ kvs hd
      split at h
      · exact fin1 _ _ _ rfl rfl (dicOf_dic hd) h
      · exact fin2 _ _ _ _ rfl rfl (dicOf_dic hd) h
      all_goals first | (rename_i q; cases q; done) | cases h
    · rename_i a _ kvs hd
      split at h
      · exact fin1 _ _ _ rfl rfl (dicOf_fdc hd) h
      · exact fin2 _ _ _ _ rfl rfl (dicOf_fdc hd) h
      all_goals first | (rename_i q; cases q; done) | cases h
    · cases h
  · cases h
theorem mtPop (hw : X.w = c.w) (hu : X.A.units + 70 < cLine) : MtR X "dict.pop" (liftM c (rDm .pop)) := by
  intro pins s σ H x xs v us Q I rx rxs ⟨d, ds, S, P, r1, r2, hS, h, hP⟩
  unfold rDm at h
  split at h
  · split at h
    · rename_i a _ kvs hd
      cases r1
      cases rx
      split at h
      any_goals (rename_i q; cases q; done)
      · obtain ⟨y, rfl, ry⟩ := reps1 r2
        obtain ⟨u, rfl, ru⟩ := vals1 rxs
        obtain ⟨hk, h⟩ := h
        split at h
        · rename_i dd hl
          exact (dic_pop hw hu (z := .non) (t := .none) (e := .non) I ru rfl ry rfl hS hd hk).1 hl (fun v w s' H' q1 q2 I' s2 f2 => ⟨v, H', I', q2, hP _ _ _ H' h f2 q1 s2⟩) [] (.inl rfl)
        · cases h
      · obtain ⟨y, z, rfl, ry, rz⟩ := reps2 r2
        obtain ⟨u, t, rfl, ru, rt⟩ := vals2 rxs
        obtain ⟨hk, h⟩ := h
        rename_i k e _
        cases hl : look kvs k with
        | some dd =>
          rw [hl] at h
          exact (dic_pop hw hu I ru rt ry rz hS hd hk).1 hl (fun v w s' H' q1 q2 I' s2 f2 => ⟨v, H', I', q2, hP _ _ _ H' h f2 q1 s2⟩) [t] (.inr ⟨t, rfl⟩)
        | none =>
          rw [hl, dropK_none hl, put_back hd] at h
          exact (dic_pop hw hu (d := .non) I ru rt ry rz hS hd hk).2 hl fun s' I' => ⟨z, H, I', rt, hP _ S _ H h Fr.refl rz hS⟩
      all_goals cases h
    · split at h
      all_goals first | (rename_i q; cases q; done) | cases h
    · cases h
  · cases h
theorem mtUpdate (hc : X.calm = true) (hw : X.w = c.w) (hu : X.A.units + 70 < cLine) : MtR X "dict.update" (liftM c (rDm .update)) := by
  intro pins s σ H x xs v us Q I rx rxs ⟨d, ds, S, P, r1, r2, hS, h, hP⟩
  unfold rDm at h
  split at h
  · split at h
    · rename_i a _ kvs hd
      cases r1
      cases rx
      split at h
      any_goals (rename_i q; cases q; done)
      · obtain ⟨y, rfl, ry⟩ := reps1 r2
        obtain ⟨u, rfl, ru⟩ := vals1 rxs
        cases ry
        cases ru
        split at h
        · rename_i b _ _ xs hb
          split at h
          · rename_i ps hp
            obtain ⟨hk, hz, hne, h⟩ := h
            rw [szl] at hz
            obtain ⟨vs, hv, rv⟩ := hS.lst hb
            obtain ⟨its, ri, pl, hzv⟩ := plain_list I hv
            obtain ⟨Ts, qs, at_⟩ := pairs_at I xs vs its ps rv ri hp
            have hfp : a ∉ b :: (List.range qs.length).map (fun j => Ts.getD j 0) := by
              intro hm
              rcases List.mem_cons.mp hm with e | hm
              · exact hne e
              · obtain ⟨j, hj, e⟩ := List.mem_map.mp hm
                have hj' : j < Ts.length := by rw [at_.2.1]; exact List.mem_range.mp hj
                have ht : Ts[j]? = some (Ts.getD j 0) := by rw [List.getD_eq_getElem?_getD, List.getElem?_eq_getElem hj']; rfl
                obtain ⟨ys, hT⟩ := at_.2.2.2.2 _ (List.mem_of_getElem? ht)
                have e' : Ts.getD j 0 = a := e
                rw [e'] at hT
                rw [hS.tupN hT] at hd
                cases hd
            rcases hk with hf | ht
            · have hfk : allFlat kvs := fun p hp => hf p (List.mem_append_left _ hp)
              have hfp' : allFlat ps := fun p hp => hf p (List.mem_append_right _ hp)
              obtain ⟨ks, he, rk⟩ := flat_view hS hd hfk
              obtain ⟨ks2, rs, k1, k2, k3, k4⟩ := pairs_flat (P := X.prog) (w := X.w) at_.2.2.2.1 hfp'
              obtain ⟨z0, hm, ws, rel, dd⟩ := dk_of I.hok he
              have l1 : ws.length + qs.length ≤ sizeLine := by
                have e1 := Paired.length rk
                have e2 := KV.length rel
                have e3 := at_.len
                omega
              refine call_update_pairs (knd := mixKind X.prog X.w) (kvs := rs) (PairArg.list b its.toArray (fun j => Ts.getD j 0) qs) (I.ok.hd hc) ⟨pl, at_.items⟩ hfp ⟨k3, fun i key v hi => k4 i key v hi⟩ dd l1 fun h' tk hx hk => ?_
              have k0 : RepKF c H (mergeK kvs ps) (L2.mergeK ks ks2) := KF.merge k1 rk hfk hfp'
              obtain ⟨s2, f2⟩ := hS.write (u := .dK (L2.mergeK ks ks2)) (o' := .dic (mergeK kvs ps)) hd fun ex => .inl ⟨_, allFlat.merge hfk hfp', upd_same, Paired.mono2 (fun _ _ x => ⟨x.1, x.2.ext ex⟩) k0⟩
              have lz : (L2.mergeK ks ks2).length ≤ sizeLine := by
                rw [← Paired.length k0]
                have := length_mergeK ps kvs
                omega
              have ob : ∃ q, h'.get? a = some q := let ⟨q, _, _, hq, _⟩ := hx; ⟨q, hq⟩
              exact ⟨.non, _, I.write (x := a) (e := a) (by rw [he]; trivial) (.inl rfl) (fun b o hb e => hk b o hb (fun z => nomatch z) e) ob (dk_new lz hm (KV.merge k2 rel) hx), rfl, hP _ _ _ _ h f2 rfl s2⟩
            · have htk : allTup kvs := fun p hp => ht p (List.mem_append_left _ hp)
              have htp : allTup ps := fun p hp => ht p (List.mem_append_right _ hp)
              obtain ⟨hm, mu, hnd, hz0, ws, hx0, rk⟩ := tup_view I hw hS hd htk
              obtain ⟨ys, k1, k2⟩ := pairs_tup at_.2.2.2.1 htp
              have hyl : ys.length = qs.length := by rw [k2, List.length_map]
              have l1 : ws.length + qs.length ≤ sizeLine := by
                have e1 := rk.length
                have e3 := at_.len
                omega
              refine call_update_pairsH (knd := nestedKind X.prog X.w) (ps := ys) (PairArg.list b its.toArray (fun j => Ts.getD j 0) qs) (I.ok.hd hc) (kroom hu) ⟨pl, at_.items⟩ hfp ⟨hyl, fun i key v hi => ?_⟩ (fun h' hk x hx => ?_) hx0 l1 fun h' tk hx hk => ?_
              · have hi' : qs[i]? = some (key, v) := hi
                rw [k2, List.getElem?_map] at hi'
                obtain ⟨y, h1, h2⟩ := Option.map_eq_some_iff.mp hi'
                cases h2
                exact ⟨y.1, y.2.1, h1, rfl⟩
              · have hi : (nestedKind X.prog X.w).is s.heap x.1 x.2.1 := by
                  rcases List.mem_append.mp hx with hx | hx
                  · exact KTn.keysIs I rk htk x hx
                  · exact KTn.keysIs I k1 htp x hx
                obtain ⟨o0, _, _, ho0, _, hdat, _⟩ := hx0
                exact nestedKind_stays.but ⟨o0, _, _, ho0, hdat⟩ h' (fun b o h1 h2 e => hk b o h1 h2 e) _ _ hi
              · have lz : (mergeK kvs ps).length ≤ sizeLine := by
                  have := length_mergeK ps kvs
                  omega
                obtain ⟨uu, I2, s2, f2⟩ := dict_write (t' := tk) I hw hS hd mu hm hx (fun b o hb e => hk b o hb (fun z => nomatch z) e) (allTup.merge htk htp) (nodup_mergeK ps kvs hnd) lz (KTn.merge k1 rk htk htp)
                exact ⟨.non, _, I2, rfl, hP _ _ _ _ h f2 rfl s2⟩
          · cases h
        · rename_i b _ _ ps hb
          obtain ⟨hk, hz, hne, h⟩ := h
          rw [szl] at hz
          have hfk : allFlat kvs := fun p hp => hk p (List.mem_append_left _ hp)
          have hfp' : allFlat ps := fun p hp => hk p (List.mem_append_right _ hp)
          obtain ⟨ks, he, rk⟩ := flat_view hS hd hfk
          obtain ⟨ks2, he2, rk2⟩ := flat_view hS hb hfp'
          obtain ⟨z0, hm, ws, rel, dd⟩ := dk_of I.hok he
          obtain ⟨z1, hm1, ws1, rel1, dd1⟩ := dk_of I.hok he2
          have l1 : ws.length + ws1.length ≤ sizeLine := by
            have e1 := Paired.length rk
            have e2 := KV.length rel
            have e3 := Paired.length rk2
            have e4 := KV.length rel1
            omega
          refine call_meetsIn PySem.F.slot_dict_update dd.typeIs PySem.F.entry_dict_update (PySem.F.args_dict_update_2 _ _) (meets_dict_update (mixKind X.prog X.w) _ b hne hm1) ⟨ws, ws1, dd, dd1, l1, fun h' hx _ hs => ?_⟩
          have k0 : RepKF c H (mergeK kvs ps) (L2.mergeK ks ks2) := KF.merge rk2 rk hfk hfp'
          obtain ⟨s2, f2⟩ := hS.write (u := .dK (L2.mergeK ks ks2)) (o' := .dic (mergeK kvs ps)) hd fun ex => .inl ⟨_, allFlat.merge hfk hfp', upd_same, Paired.mono2 (fun _ _ x => ⟨x.1, x.2.ext ex⟩) k0⟩
          have lz : (L2.mergeK ks ks2).length ≤ sizeLine := by
            rw [← Paired.length k0]
            have := length_mergeK ps kvs
            omega
          have ob : ∃ q, h'.get? a = some q := let ⟨q, _, _, hq, _⟩ := hx; ⟨q, hq⟩
          have kp : ∀ b o, b ≠ a → s.heap.get? b = some o → h'.get? b = some o := fun b o hb e => (hs.2 b hb).trans e
          exact ⟨.non, _, I.write (x := a) (e := a) (by rw [he]; trivial) (.inl rfl) (fun b o hb e => kp b o hb e) ob (dk_new lz hm (KV.merge rel1 rel) hx), rfl, hP _ _ _ _ h f2 rfl s2⟩
        · cases h
      all_goals cases h
    · split at h
      all_goals first | (rename_i q; cases q; done) | cases h
    · cases h
  · cases h
end
end Nf
set_option Elab.async false
set_option linter.all false
set_option maxRecDepth 100000
/-! NfVal4: the calls of the built-in functions, by values. -/
namespace Nf
open PySem PySem.Spec L2
open PyProof.Rows hiding St
section
variable {c : Cfg} {X : Cx}
theorem RepL.ints_eq {H : Hp} : ∀ {ds : List D} {vs : List V}, RepL c H ds vs → (∀ x ∈ ds, x.isInt = true) → ∃ ns : List Int, ds = ns.map D.int ∧ vs = ns.map V.int
  | [], vs, r, _ => ⟨[], rfl, RepL.nil_eq r⟩
  | d :: ds, vs, r, h => by
    obtain ⟨v, vs, rfl, r1, r2⟩ := RepL.cases_cons r
    obtain ⟨ns, e1, e2⟩ := RepL.ints_eq r2 fun x hx => h x (List.mem_cons_of_mem _ hx)
    have hi := h d List.mem_cons_self
    cases d with
    | int i => cases r1; exact ⟨i :: ns, by rw [e1]; rfl, by rw [e2]; rfl⟩
    | _ => cases hi
/-- a new list, tracked -/
theorem new_lst {H : Hp} {S : Store} {P : DQ} {Q : VK} {ds : List D} {vs : List V} (hS : RepS c H S) (r : RepL c H ds vs) (h : alloc S (.lst ds) P) (hP : Post c H S P Q) : ∀ p, H p = none → Q (.ref p) (upd H p (.lst vs)) := fun p hp => by
  have ex := (hS.laid (u := .lst vs) hp).2.ext hS
  obtain ⟨s2, f2⟩ := hS.alloc (u := .lst vs) (o := .lst ds) hp ⟨vs, upd_same, r.ext ex⟩
  exact hP _ _ _ _ (h p (hS.noneN hp)) f2 rfl s2
theorem new_tup {H : Hp} {S : Store} {P : DQ} {Q : VK} {ds : List D} {vs : List V} (hS : RepS c H S) (r : RepL c H ds vs) (h : P (.tup ds) S) (hP : Post c H S P Q) : ∀ p, H p = none → Q (.ref p) (upd H p (.tup vs)) := fun p hp => by
  obtain ⟨s2, f2⟩ := hS.laid (u := .tup vs) hp
  exact hP _ S _ _ h f2 ⟨p, vs, rfl, upd_same, r.ext (f2.ext hS)⟩ s2
theorem len_dic (hw : X.w = c.w) {pins : List (Addr × Obj)} {s : Shared} {σ : L2.St} {H : Hp} {us : List Value} {Q : VK} {a : Addr} {kvs : List (D × D)} {S : Store} (rx : Vals [V.ref a] us) (I : Inv X pins σ H s) (hS : RepS c H S)
    (hd : dicOf (S a) = some kvs) (q : Q (.int kvs.length) H) : wpAny (model X.prog X.w) X.A (call (.builtin "len") us) (EP X pins σ Q) X.xe s := by
  obtain ⟨u, rfl, ru⟩ := vals1 rx
  cases ru
  have e1 : sizeLine = 16777216 := sizeLine_eq
  rcases hS.dicR hd with ⟨ks, hf, he, rk⟩ | ⟨es, hne, ht, _⟩
  · obtain ⟨z, hm, vs, rel, dd⟩ := dk_rd I.hok he
    have e : kvs.length = vs.length := by rw [Paired.length rk]; exact Paired.length rel
    have e2 := Paired.length rk
    exact call_len_dict (knd := mixKind X.prog X.w) hm dd (by omega) ⟨.int kvs.length, H, I.tok _, ⟨_, by rw [e]⟩, q⟩
  · obtain ⟨hm, _, _, hz, xs, hx, rk⟩ := tup_viewR I hw hS hd ht
    have e := rk.length
    exact call_len_dictH (knd := nestedKind X.prog X.w) hm hx (by omega) ⟨.int kvs.length, H, I.tok _, ⟨_, by rw [e]⟩, q⟩
theorem cLen (hK : X.K = c.K) (hw : X.w = c.w) (hu : X.A.units + 70 < cLine) : CallR X (.builtin "len") (liftC c (rBi .len)) := by
  intro pins s σ H xs us Q I rx ⟨ds, S, P, r, hS, h, hP⟩
  unfold rBi at h
  split at h
  any_goals (rename_i q; cases q; done)
  · obtain ⟨v, rfl, r1⟩ := reps1 r
    cases r1
    rw [szl] at h
    exact call_len pins s σ H _ us Q I rx ⟨_, _, rfl, ⟨by rw [os_length]; exact h.1, rfl⟩, by rw [os_length]; exact hP _ _ _ _ h.2 Fr.refl rfl hS⟩
  · obtain ⟨v, rfl, r1⟩ := reps1 r
    cases r1
    split at h
    · rename_i xs hd
      obtain ⟨vs, hv, rv⟩ := hS.lst hd
      exact call_len pins s σ H _ us Q I rx ⟨_, _, rfl, .inl ⟨vs, .inl (.of hv), rfl⟩, by rw [← rv.length]; exact hP _ _ _ _ h Fr.refl rfl hS⟩
    · rename_i kvs hd
      exact len_dic hw rx I hS (dicOf_dic hd) (hP _ _ _ _ h Fr.refl rfl hS)
    · rename_i kvs hd
      exact len_dic hw rx I hS (dicOf_fdc hd) (hP _ _ _ _ h Fr.refl rfl hS)
    · cases h
  · obtain ⟨v, rfl, r1⟩ := reps1 r
    obtain ⟨a, vs, rfl, hv, rv⟩ := r1.tup_eq
    exact call_len pins s σ H _ us Q I rx ⟨_, _, rfl, .inr ⟨vs, .inl (.of hv), rfl⟩, by rw [← rv.length]; exact hP _ _ _ _ h Fr.refl rfl hS⟩
  · obtain ⟨v, rfl, r1⟩ := reps1 r
    obtain ⟨a, rfl, hv⟩ := r1.frz_eq
    rw [← hK] at hv
    exact call_len pins s σ H _ us Q I rx ⟨_, _, rfl, .inl ⟨_, hv, rfl⟩, by rw [List.length_map]; exact hP _ _ _ _ h Fr.refl rfl hS⟩
  all_goals cases h
theorem cInt1 : ∀ {a : Char} {d : Int}, digitVal a = some d → 48 ≤ a.toNat ∧ a.toNat < 58 ∧ d = (a.toNat : Int) - 48 := by
  intro a d h
  unfold digitVal at h
  split at h
  · rename_i q
    have h1 : ('0').toNat ≤ a.toNat := q.1
    have h2 : a.toNat ≤ ('9').toNat := q.2
    cases h
    exact ⟨h1, by have : ('9').toNat = 57 := rfl; omega, rfl⟩
  · cases h
theorem cList (hK : X.K = c.K) : CallR X (.type "list") (liftC c (rBi .list)) := by
  intro pins s σ H xs us Q I rx ⟨ds, S, P, r, hS, h, hP⟩
  unfold rBi at h
  split at h
  any_goals (rename_i q; cases q; done)
  · obtain ⟨v, rfl, r1⟩ := reps1 r
    obtain ⟨a, vs, rfl, hv, rv⟩ := r1.tup_eq
    exact call_list_of pins s σ H _ us Q I rx ⟨_, vs, rfl, .inr (.inl (.of hv)), new_lst hS rv h hP⟩
  · obtain ⟨v, rfl, r1⟩ := reps1 r
    obtain ⟨a, rfl, hv⟩ := r1.frz_eq
    rw [← hK] at hv
    exact call_list_of pins s σ H _ us Q I rx ⟨_, _, rfl, .inl hv, new_lst hS (RepL.ints _) h hP⟩
  · obtain ⟨v, rfl, r1⟩ := reps1 r
    cases r1
    split at h
    · rename_i xs hd
      obtain ⟨vs, hv, rv⟩ := hS.lst hd
      exact call_list_of pins s σ H _ us Q I rx ⟨_, vs, rfl, .inl (.inl (.of hv)), new_lst hS rv h hP⟩
    · cases h
  all_goals cases h
theorem cTuple : CallR X (.type "tuple") (liftC c (rBi .tuple)) := by
  intro pins s σ H xs us Q I rx ⟨ds, S, P, r, hS, h, hP⟩
  unfold rBi at h
  split at h
  any_goals (rename_i q; cases q; done)
  · obtain ⟨v, rfl, r1⟩ := reps1 r
    have r1' := r1
    obtain ⟨a, vs, rfl, hv, rv⟩ := r1.tup_eq
    exact call_tuple_of pins s σ H _ us Q I rx ⟨_, vs, rfl, .inr ⟨.inl (.of hv), hP _ _ _ _ h Fr.refl r1' hS⟩⟩
  · obtain ⟨v, rfl, r1⟩ := reps1 r
    cases r1
    split at h
    · rename_i xs hd
      obtain ⟨vs, hv, rv⟩ := hS.lst hd
      exact call_tuple_of pins s σ H _ us Q I rx ⟨_, vs, rfl, .inl ⟨.inl (.of hv), new_tup hS rv h hP⟩⟩
    · cases h
  all_goals cases h
theorem cDict (hc : X.calm = true) (hw : X.w = c.w) (hu : X.A.units + 70 < cLine) : CallR X (.type "dict") (liftC c (rBi .dict)) := by
  intro pins s σ H xs us Q I rx ⟨ds, S, P, r, hS, h, hP⟩
  unfold rBi at h
  split at h
  any_goals (rename_i q; cases q; done)
  · obtain ⟨v, rfl, r1⟩ := reps1 r
    cases r1
    obtain ⟨u, rfl, ru⟩ := vals1 rx
    cases ru
    split at h
    · rename_i xs hd
      split at h
      · rename_i ps hp
        exact call_dictL hc hw hu I hS hd hp h.1 h.2.1 h.2.2 hP
      · cases h
    · cases h
  all_goals cases h
theorem cStr : CallR X (.type "str") (liftC c (rBi .str)) := by
  intro pins s σ H xs us Q I rx ⟨ds, S, P, r, hS, h, hP⟩
  unfold rBi at h
  split at h
  any_goals (rename_i q; cases q; done)
  · obtain ⟨v, rfl, r1⟩ := reps1 r
    cases r1
    have hl := Nat.lt_of_lt_of_le (log2_lt h.1 (by omega)) (show 64 ≤ 1920 by omega)
    exact call_str_int pins s σ H _ us Q I rx ⟨_, rfl, hl, hP _ _ _ _ h.2 Fr.refl (show V.str (toString _) = V.str (os _) from rfl) hS⟩
  · obtain ⟨v, rfl, r1⟩ := reps1 r
    cases r1
    exact SkE.call_str_str pins s σ H _ us Q I rx ⟨_, rfl, hP _ _ _ _ h Fr.refl rfl hS⟩
  all_goals cases h
theorem cMin (hK : X.K = c.K) (hc : X.calm = true) : CallR X (.builtin "min") (liftC c (rBi .min)) := by
  intro pins s σ H xs us Q I rx ⟨ds, S, P, r, hS, h, hP⟩
  unfold rBi at h
  split at h
  any_goals (rename_i q; cases q; done)
  · obtain ⟨v, u, rfl, r1, r2⟩ := reps2 r
    cases r1
    cases r2
    exact call_min2 hc pins s σ H _ us Q I rx ⟨_, _, rfl, hP _ _ _ _ h Fr.refl rfl hS⟩
  · obtain ⟨v, rfl, r1⟩ := reps1 r
    cases r1
    split at h
    · rename_i xs hd
      obtain ⟨hne, hi, h⟩ := h
      obtain ⟨vs, hv, rv⟩ := hS.lst hd
      obtain ⟨ns, rfl, rfl⟩ := rv.ints_eq hi
      refine cr_min hc pins s σ H _ us Q I rx ⟨_, ns, rfl, .inl (.of hv), by cases ns with | nil => exact absurd rfl hne | cons => exact Nat.succ_pos _, fun m hm hall => hP _ _ _ _ (h (.int m) (List.mem_map_of_mem hm) fun x hx => ?_) Fr.refl rfl hS⟩
      obtain ⟨y, hy, rfl⟩ := List.mem_map.mp hx
      have := hall y hy
      simp [ltD]; omega
    · cases h
  all_goals cases h
theorem cMax (hK : X.K = c.K) (hc : X.calm = true) : CallR X (.builtin "max") (liftC c (rBi .max)) := by
  intro pins s σ H xs us Q I rx ⟨ds, S, P, r, hS, h, hP⟩
  unfold rBi at h
  split at h
  any_goals (rename_i q; cases q; done)
  · obtain ⟨v, u, rfl, r1, r2⟩ := reps2 r
    cases r1
    cases r2
    exact call_max2 hc pins s σ H _ us Q I rx ⟨_, _, rfl, hP _ _ _ _ h Fr.refl rfl hS⟩
  · obtain ⟨v, rfl, r1⟩ := reps1 r
    cases r1
    split at h
    · rename_i xs hd
      obtain ⟨hne, hi, h⟩ := h
      obtain ⟨vs, hv, rv⟩ := hS.lst hd
      obtain ⟨ns, rfl, rfl⟩ := rv.ints_eq hi
      refine cr_max hc pins s σ H _ us Q I rx ⟨_, ns, rfl, .inl (.of hv), by cases ns with | nil => exact absurd rfl hne | cons => exact Nat.succ_pos _, fun m hm hall => hP _ _ _ _ (h (.int m) (List.mem_map_of_mem hm) fun x hx => ?_) Fr.refl rfl hS⟩
      obtain ⟨y, hy, rfl⟩ := List.mem_map.mp hx
      have := hall y hy
      simp [ltD]; omega
    · cases h
  all_goals cases h
/-! ### isinstance -/
theorem kty {K : PySem.W.Frag} {a b : String} {r : Bool} (h : kitB a b = some r) : PySem.W.kitOne K (.type a) (.type b) = some r := kit_ty h
def tyName (S : Store) (d : D) : Option String := match d with
  | .non => some "NoneType"
  | .bl _ => some "bool"
  | .int _ => some "int"
  | .str _ => some "str"
  | .tup _ => some "tuple"
  | .frz _ => some "list"
  | .ref a => (match S a with
    | some (.lst _) => some "list"
    | _ => none)
  | _ => none
theorem tyName_of (hK : X.K = c.K) {H : Hp} {S : Store} {d : D} {v : V} {t : String} (hS : RepS c H S) (r : RepV c H d v) (h : tyName S d = some t) : TyX X.K H v (.type t) := by
  cases d with
  | non => cases r; cases h; exact .base .non
  | bl => cases r; cases h; exact .base (.bl _)
  | int => cases r; cases h; exact .base (.int _)
  | str => cases r; cases h; exact .base (.str _)
  | tup => obtain ⟨a, vs, rfl, hv, rv⟩ := r.tup_eq; cases h; exact .base (.tup hv)
  | frz ns =>
    simp only [RepV] at r
    obtain ⟨a, rfl, r⟩ := r
    cases h
    rcases r with ⟨o, ho⟩ | ⟨o, its, n, e, hc, _⟩
    · exact .base (.frz ho)
    · rw [← hK] at e; exact .kList e hc
  | ref a =>
    cases r
    simp only [tyName] at h
    split at h
    · rename_i xs hd
      obtain ⟨vs, hv, rv⟩ := hS.lst hd
      cases h
      exact .base (.lst hv)
    · cases h
  | ty => cases h
  | cls => cases h
theorem kitAll : ∀ t ∈ ["NoneType", "bool", "int", "str", "tuple", "list"], ∀ n ∈ ["int", "bool", "str", "tuple", "list"], kitB t n = some (if t = "bool" then decide (n = "bool" ∨ n = "int") else decide (n = t)) := by decide +kernel
theorem isTy_name {S : Store} {d : D} {n : String} {b : Bool} (h : isTy S d n = some b) : ∃ t, tyName S d = some t ∧ t ∈ ["NoneType", "bool", "int", "str", "tuple", "list"] ∧ b = (if t = "bool" then decide (n = "bool" ∨ n = "int") else decide (n = t)) := by
  cases d with
  | ref a =>
    simp only [isTy] at h
    split at h
    · rename_i xs hd
      cases h
      exact ⟨"list", by simp only [tyName, hd], by simp, by simp⟩
    · cases h
  | ty => cases h
  | cls => cases h
  | _ => cases h; exact ⟨_, rfl, by simp, by simp⟩
theorem isTy_kit (hK : X.K = c.K) {H : Hp} {S : Store} {d : D} {v : V} {n : String} {b : Bool} (hS : RepS c H S) (r : RepV c H d v) (h : isTy S d n = some b) (hn : n ∈ ["int", "bool", "str", "tuple", "list"]) :
    ∃ t, TyX X.K H v (.type t) ∧ tyName S d = some t ∧ PySem.W.kitOne X.K (.type t) (.type n) = some b := by
  obtain ⟨t, h1, h2, rfl⟩ := isTy_name h
  exact ⟨t, tyName_of hK hS r h1, h1, kty (kitAll t h2 n hn)⟩
theorem cIsi (hK : X.K = c.K) : CallR X (.builtin "isinstance") (liftC c (rBi .isinst)) := by
  intro pins s σ H xs us Q I rx ⟨ds, S, P, r, hS, h, hP⟩
  unfold rBi at h
  split at h
  any_goals (rename_i q; cases q; done)
  · obtain ⟨v, u, rfl, r1, r2⟩ := reps2 r
    unfold rIsi at h
    split at h
    · rename_i n
      cases r2
      obtain ⟨hn, h⟩ := h
      split at h
      · rename_i b hb
        obtain ⟨t, h1, _, h2⟩ := isTy_kit (X := X) hK hS r1 hb hn
        exact call_isi pins s σ H _ us Q I rx ⟨v, _, _, _, b, rfl, .ty n, h1, h2, hP _ _ _ _ h Fr.refl rfl hS⟩
      · cases h
    · rename_i n m
      obtain ⟨a, vs, rfl, hv, rv⟩ := r2.tup_eq
      obtain ⟨v1, v2, rfl, q1, q2⟩ := reps2 rv
      cases q1
      cases q2
      obtain ⟨⟨hn, hm⟩, h⟩ := h
      split at h
      · rename_i b b' hb hb'
        obtain ⟨t, h1, e1, h2⟩ := isTy_kit (X := X) hK hS r1 hb hn
        obtain ⟨t', _, e2, h2'⟩ := isTy_kit (X := X) hK hS r1 hb' hm
        rw [e1] at e2
        cases e2
        refine call_isiT pins s σ H _ us Q I rx ⟨v, a, _, .type t, [.type n, .type m], b || b', rfl, hv, .cons (.ty n) (.cons (.ty m) .nil), h1, ?_, hP _ _ _ _ h Fr.refl rfl hS⟩
        refine kitAny_cons h2 (fun e => kitAny_cons h2' (fun e' => by rw [e, e']; rfl) fun e' => by rw [e, e']; rfl) fun e => by rw [e]; rfl
      · cases h
    · cases h
  all_goals cases h
end
end Nf
set_option Elab.async false
set_option linter.all false
set_option maxRecDepth 100000
/-! NfVal5: methods of lists and texts, int of a text, by values. -/
namespace Nf
open PySem PySem.Spec L2
open PyProof.Rows hiding St
section
variable {c : Cfg} {X : Cx}
def lmId : LM → String
  | .append => "list.append" | .extend => "list.extend" | .pop => "list.pop" | .index => "list.index" | .remove => "list.remove" | .reverse => "list.reverse" | .clear => "list.clear"
/-- a list is written -/
theorem put_lst {H : Hp} {S : Store} {a : Nat} {ds0 ds : List D} {vs : List V} (hS : RepS c H S) (h : S a = some (.lst ds0)) (r : RepL c H ds vs) :
    RepS c (upd H a (.lst vs)) (put S a (.lst ds)) ∧ Fr H S (upd H a (.lst vs)) (put S a (.lst ds)) := hS.write (o' := .lst ds) h fun ex => ⟨vs, upd_same, r.ext ex⟩
theorem ixN_seq {n : Nat} {i : Int} {k : Nat} (h : Nf.ixN n i = some k) (hn : n ≤ sizeLine) : seqIndex? i n = some k ∧ -(2 ^ 63) ≤ i ∧ i < 2 ^ 63 ∧ k < n := by
  have e1 : sizeLine = 16777216 := sizeLine_eq
  unfold Nf.ixN at h
  unfold seqIndex?
  simp only
  split at h
  · split at h
    · rename_i h0 h1
      cases h
      refine ⟨?_, by omega, by omega, by omega⟩
      rw [if_neg (show ¬ i < 0 by omega), if_pos (by simp [h0, h1])]
    · cases h
  · split at h
    · rename_i h0 h1
      cases h
      refine ⟨?_, by omega, by omega, by omega⟩
      rw [if_pos (show i < 0 by omega), if_pos (by simp; omega)]
    · cases h
theorem intsOf_some : ∀ {xs : List D} {ns : List Int}, intsOf xs = some ns → xs = ns.map D.int
  | [], ns, h => by simp only [intsOf, Option.some.injEq] at h; subst h; rfl
  | x :: xs, ns, h => by
    unfold intsOf at h
    split at h
    · rename_i e; cases e
    · rename_i s ds e
      cases e
      obtain ⟨m, h1, h2⟩ := Option.map_eq_some_iff.mp h
      subst h2
      rw [intsOf_some h1]; rfl
    · cases h
theorem RepL.ints_is {H : Hp} : ∀ (ns : List Int) {vs : List V}, RepL c H (ns.map D.int) vs → vs = ns.map V.int
  | [], vs, r => RepL.nil_eq r
  | n :: ns, vs, r => by
    obtain ⟨v, vs, rfl, r1, r2⟩ := RepL.cases_cons r
    cases r1
    rw [RepL.ints_is ns r2]; rfl
theorem mtLst (hK : X.K = c.K) (hu : X.A.units + 70 < cLine) (m : LM) : MtR X (lmId m) (liftM c (rLm m)) := by
  intro pins s σ H x xs v us Q I rx rxs ⟨d, ds, S, P, r1, r2, hS, h, hP⟩
  unfold rLm at h
  split at h
  · rename_i a
    split at h
    · rename_i ys hd
      cases r1
      obtain ⟨vs, hv, rv⟩ := hS.lst hd
      have hz : vs.length ≤ sizeLine := (I.lstM hv).1
      split at h
      · -- append
        obtain ⟨y, rfl, ry⟩ := reps1 r2
        rw [szl] at h
        obtain ⟨s2, f2⟩ := put_lst (vs := vs ++ [y]) hS hd (RepL.append rv (RepL.cons ry RepL.nil))
        exact mt_append pins s σ H _ _ v us Q I rx rxs ⟨a, vs, y, rfl, rfl, hv, by rw [← rv.length]; exact h.1, hP _ _ _ _ h.2 f2 rfl s2⟩
      · -- extend
        obtain ⟨y, rfl, ry⟩ := reps1 r2
        cases ry
        rw [szl] at h
        split at h
        · rename_i zs hb
          obtain ⟨ws, hw, rw'⟩ := hS.lst hb
          obtain ⟨s2, f2⟩ := put_lst (vs := vs ++ ws) hS hd (RepL.append rv rw')
          exact mt_extend pins s σ H _ _ v us Q I rx rxs ⟨a, _, vs, ws, rfl, rfl, hv, hw, by rw [← rv.length, ← rw'.length]; exact h.1, hP _ _ _ _ h.2 f2 rfl s2⟩
        · cases h
      · -- pop
        obtain ⟨y, rfl, ry⟩ := reps1 r2
        cases ry
        split at h
        · rename_i k hk
          split at h
          · rename_i y hy
            obtain ⟨w, hw, rw'⟩ := rv.get hy
            rw [rv.length] at hk
            obtain ⟨e1, e2, e3, e4⟩ := ixN_seq hk hz
            obtain ⟨s2, f2⟩ := put_lst (vs := vs.eraseIdx k) hS hd (rv.eraseIdx k)
            exact mt_popAt pins s σ H _ _ v us Q I rx rxs ⟨a, vs, _, k, w, rfl, rfl, hv, e2, e3, e1, hw, hP _ _ _ _ h f2 (rw'.ext (f2.ext hS)) s2⟩
          · cases h
        · cases h
      · -- index
        obtain ⟨y, rfl, ry⟩ := reps1 r2
        split at h
        · rename_i t ts h1 h2
          split at h
          · rename_i n hn
            obtain ⟨g1, g2⟩ := res_shaped hS (by decide) h1 ry
            obtain ⟨l1, l2⟩ := lst_shaped hS hd h2
            obtain ⟨hn1, hn2, hn3⟩ := List.findIdx?_eq_some_iff_getElem.mp hn
            refine mt_indexD (by omega) pins s σ H _ _ v us Q I rx rxs ⟨a, y, t.pd, T.pds ts, n, (ts[n]).pd, rfl, rfl, by rw [hK]; exact l1, by rw [hK]; exact g1, l2, g2, ?_, ?_, ?_, hP _ _ _ _ h Fr.refl rfl hS⟩
            · rw [T.pds_map, List.getElem?_map, List.getElem?_eq_getElem hn1]; rfl
            · rw [← eqT_pd]; exact hn2
            · intro m z hm hz
              have hm' : m < ts.length := by omega
              rw [T.pds_map, List.getElem?_map, List.getElem?_eq_getElem hm'] at hz
              cases hz
              rw [← eqT_pd]
              have := hn3 m hm
              simpa using this
          · cases h
        · cases h
      · -- remove
        rename_i k
        obtain ⟨y, rfl, ry⟩ := reps1 r2
        obtain rfl := ry
        split at h
        · rename_i ns hns
          have e := intsOf_some hns
          subst e
          have ev := rv.ints_is
          subst ev
          obtain ⟨hm, h⟩ := h
          have hi : ns.idxOf k < ns.length := List.idxOf_lt_length_iff.mpr hm
          have e2 : ns.erase k = ns.eraseIdx (ns.idxOf k) := List.erase_eq_eraseIdx_of_idxOf rfl
          rw [e2] at h
          obtain ⟨s2, f2⟩ := put_lst (c := c) (vs := (ns.eraseIdx (ns.idxOf k)).map V.int) hS hd (RepL.ints (ns.eraseIdx (ns.idxOf k)))
          refine mt_remove pins s σ H _ _ v us Q I rx rxs ⟨a, ns, k, ns.idxOf k, rfl, rfl, hv, ?_, ?_, hP _ _ _ _ h f2 rfl s2⟩
          · rw [List.getElem?_eq_getElem hi, List.getElem_idxOf hi]
          · intro m hm2 e3
            have hml : m < ns.length := by omega
            rw [List.getElem?_eq_getElem hml] at e3
            have e4 : ns[m] = k := Option.some.inj e3
            have e5 := List.not_of_lt_findIdx (p := fun x => x == k) (xs := ns) hm2
            rw [e4] at e5
            simp at e5
        · cases h
      · -- reverse
        rw [RepL.nil_eq r2] at rxs
        obtain ⟨s2, f2⟩ := put_lst (vs := vs.reverse) hS hd rv.reverse
        exact mt_reverse pins s σ H _ _ v us Q I rx rxs ⟨a, vs, rfl, rfl, hv, hP _ _ _ _ h f2 rfl s2⟩
      · -- clear
        rw [RepL.nil_eq r2] at rxs
        obtain ⟨s2, f2⟩ := put_lst (vs := []) hS hd (RepL.nil (c := c) (H := H))
        exact mt_clear pins s σ H _ _ v us Q I rx rxs ⟨a, vs, rfl, rfl, hv, hP _ _ _ _ h f2 rfl s2⟩
      · cases h
    · cases h
  · cases h

/-! ### texts -/
def smId : SM → String
  | .split => "str.split" | .join => "str.join"
theorem os_of (l : List Char) : os (String.ofList l) = SX.S (l.map Char.toNat) := by
  have e := os_cps (String.ofList l)
  rw [String.toList_ofList] at e
  have e2 := SX.S_tl (os (String.ofList l))
  rw [← e2, e]
theorem pre1 (n x : Nat) (r : List Nat) : TL.pre [n] (x :: r) = decide (n = x) := by
  simp only [TL.pre]
  by_cases h : n = x
  · subst h; simp
  · have : ¬ x = n := fun z => h z.symm
    simp [h, this]
theorem spl_C (ch : Char) : ∀ (l : List Char) (acc : List Nat), TL.spl [ch.toNat] 0 acc (l.map Char.toNat) = match (splitC ch l).map (List.map Char.toNat) with | y :: ys => (acc ++ y) :: ys | [] => []
  | [], acc => by simp [splitC, TL.spl]
  | x :: l, acc => by
    rw [List.map_cons]
    by_cases e : x = ch
    · subst e
      rw [TL.spl_hit (by rw [pre1]; simp), show ([x.toNat] : List Nat).length - 1 = 0 from rfl, spl_C x l []]
      have e2 : splitC x (x :: l) = [] :: splitC x l := by rw [splitC, if_pos rfl]
      rw [e2, List.map_cons]
      simp only [List.map_nil, List.append_nil, List.nil_append]
      cases hq : splitC x l with
      | nil => exfalso; cases l with
        | nil => simp [splitC] at hq
        | cons y r => rw [splitC] at hq; split at hq <;> first | (cases hq; done) | (split at hq <;> cases hq)
      | cons y ys => rfl
    · have hne : ch.toNat ≠ x.toNat := fun z => e (Char.toNat_inj.mp z.symm)
      rw [TL.spl_miss (by rw [pre1]; simp [hne]), spl_C ch l]
      rw [splitC, if_neg e]
      cases hq : splitC ch l with
      | nil => exfalso; cases l with
        | nil => simp [splitC] at hq
        | cons y r => rw [splitC] at hq; split at hq <;> first | (cases hq; done) | (split at hq <;> cases hq)
      | cons y ys => simp
theorem splitC_ne (ch : Char) (l : List Char) : splitC ch l ≠ [] := by
  intro hq
  cases l with
  | nil => simp [splitC] at hq
  | cons y r => rw [splitC] at hq; split at hq <;> first | (cases hq; done) | (split at hq <;> cases hq)
theorem os_split {s cs : String} {ch : Char} (h : cs.toList = [ch]) (h2 : ch.toNat < 256) : Txt.split (os s) (os cs) = ((splitC ch s.toList).map fun w => String.ofList w).map os := by
  have e1 : os s = SX.S (s.toList.map Char.toNat) := by rw [← os_cps]
  have e2 : os cs = SX.S [ch.toNat] := os_sign h
  rw [e1, e2, SX.split_S (by simp) (by simpa using h2), spl_C]
  have hne := splitC_ne ch s.toList
  cases hq : splitC ch s.toList with
  | nil => exact absurd hq hne
  | cons y ys =>
    simp only [List.map_cons, List.nil_append, List.map_map]
    rw [os_of]
    congr 1
    refine List.map_congr_left fun z hz => ?_
    show SX.S (z.map Char.toNat) = os (String.ofList z)
    rw [os_of]
theorem os_join (cs : String) : ∀ ss : List String, Txt.join (os cs) (ss.map os) = os (joinS cs ss)
  | [] => by
    rw [TL.join_eq]
    rfl
  | [x] => by
    rw [TL.join_eq]
    rfl
  | x :: y :: r => by
    have ih := os_join cs (y :: r)
    rw [TL.join_eq] at ih ⊢
    rw [joinS, os_append, os_append, ← ih]
    show os x ++ os cs ++ Str.join (os cs) ((y :: r).map os) = _
    exact TL.ext_tl (by simp [TL.tl_append])
theorem strsOf_some : ∀ {xs : List D} {ns : List String}, strsOf xs = some ns → xs = ns.map D.str
  | [], ns, h => by simp only [strsOf, Option.some.injEq] at h; subst h; rfl
  | x :: xs, ns, h => by
    unfold strsOf at h
    split at h
    · rename_i e; cases e
    · rename_i s ds e
      cases e
      obtain ⟨m, h1, h2⟩ := Option.map_eq_some_iff.mp h
      subst h2
      rw [strsOf_some h1]; rfl
    · cases h
theorem RepL.strs {H : Hp} : ∀ (ns : List String), RepL c H (ns.map D.str) ((ns.map os).map V.str)
  | [] => RepL.nil
  | n :: ns => RepL.cons rfl (RepL.strs ns)
theorem RepL.strs_is {H : Hp} : ∀ (ns : List String) {vs : List V}, RepL c H (ns.map D.str) vs → vs = (ns.map os).map V.str
  | [], vs, r => RepL.nil_eq r
  | n :: ns, vs, r => by
    obtain ⟨v, vs, rfl, r1, r2⟩ := RepL.cases_cons r
    cases r1
    rw [RepL.strs_is ns r2]; rfl
theorem lens_os (ss : List String) : ((ss.map os).map (·.length)) = ss.map String.length := by
  rw [List.map_map]
  exact List.map_congr_left fun z _ => os_length z
theorem mtStr (m : SM) : MtR X (smId m) (liftM c (rSm m)) := by
  intro pins s σ H x xs v us Q I rx rxs ⟨d, ds, S, P, r1, r2, hS, h, hP⟩
  unfold rSm at h
  split at h
  · rename_i a b
    cases r1
    obtain ⟨y, rfl, ry⟩ := reps1 r2
    cases ry
    split at h
    · rename_i ch hch
      obtain ⟨h0, hz, h⟩ := h
      rw [szl] at hz
      refine mt_split pins s σ H _ _ v us Q I rx rxs ⟨_, _, rfl, rfl, ?_, by rw [os_length]; exact hz, ?_⟩
      · rw [os_length, ← String.length_toList, hch]; rfl
      · rw [os_split hch h0]
        refine new_lst hS ?_ h hP
        have e : (splitC ch a.toList).map (fun w => D.str (String.ofList w)) = ((splitC ch a.toList).map fun w => String.ofList w).map D.str := by rw [List.map_map]; rfl
        rw [e]
        exact RepL.strs _
    · cases h
  · cases r1
    obtain ⟨y, rfl, ry⟩ := reps1 r2
    cases ry
    split at h
    · rename_i ys hd
      obtain ⟨vs, hv, rv⟩ := hS.lst hd
      split at h
      · rename_i ss hss
        have e := strsOf_some hss
        subst e
        have ev := rv.strs_is
        subst ev
        obtain ⟨hz, h⟩ := h
        refine mt_join pins s σ H _ _ v us Q I rx rxs ⟨_, _, ss.map os, rfl, rfl, .inl (.inl (.of hv)), ?_, ?_⟩
        · rw [lens_os, List.length_map, os_length]; exact hz
        · rw [os_join]; exact hP _ _ _ _ h Fr.refl rfl hS
      · cases h
    · cases h
  · cases h

/-! ### int -/
theorem digs_of : ∀ (l : List Char) (acc : Int) (k : Nat) (i : Int), acc = (k : Nat) → digitsVal l acc = some i → NumText.AllDigits (l.map Char.toNat) ∧ i = ((l.map Char.toNat).foldl (fun a c => a * 10 + (c - 48)) k : Nat)
  | [], acc, k, i, e, h => by
    simp only [digitsVal, Option.some.injEq] at h
    subst h; subst e
    exact ⟨(fun c hc => by simp at hc), rfl⟩
  | x :: l, acc, k, i, e, h => by
    unfold digitsVal at h
    split at h
    · rename_i d hd
      obtain ⟨h1, h2, h3⟩ := cInt1 hd
      obtain ⟨g1, g2⟩ := digs_of l (acc * 10 + d) (k * 10 + (x.toNat - 48)) i (by subst e; subst h3; omega) h
      refine ⟨fun c hc => ?_, g2⟩
      rcases List.mem_cons.mp hc with rfl | hc
      · omega
      · exact g1 c hc
    · cases h
theorem os_int {s : String} {i : Int} (h : intOf s = some i) : PySem.intText? (os s) = some i ∧ (os s).length ≤ 640 := by
  unfold intOf at h
  split at h
  · cases h
  · rename_i hne
    split at h
    · rename_i hl
      obtain ⟨g1, g2⟩ := digs_of s.toList 0 0 i rfl h
      have e := os_cps s
      have el : (os s).length = s.toList.length := by rw [os_length, String.length_toList]
      refine ⟨?_, by omega⟩
      have q := PySem.intText_digits (x := os s) (by rw [e]; exact g1) (by rw [e]; intro z; exact hne (List.map_eq_nil_iff.mp z)) (by omega)
      rw [e] at q
      exact q.trans (congrArg some g2.symm)
    · cases h
theorem cInt : CallR X (.type "int") (liftC c (rBi .int)) := by
  intro pins s σ H xs us Q I rx ⟨ds, S, P, r, hS, h, hP⟩
  unfold rBi at h
  split at h
  any_goals (rename_i q; cases q; done)
  · obtain ⟨v, rfl, r1⟩ := reps1 r
    cases r1
    exact call_int1 pins s σ H _ us Q I rx (.inl ⟨_, rfl, hP _ _ _ _ h Fr.refl rfl hS⟩)
  · obtain ⟨v, rfl, r1⟩ := reps1 r
    cases r1
    exact call_int1 pins s σ H _ us Q I rx (.inr ⟨_, rfl, hP _ _ _ _ h Fr.refl rfl hS⟩)
  · obtain ⟨v, rfl, r1⟩ := reps1 r
    cases r1
    split at h
    · rename_i i hi
      obtain ⟨g1, g2⟩ := os_int hi
      exact call_int_str pins s σ H _ us Q I rx ⟨_, i, rfl, g1, g2, hP _ _ _ _ h Fr.refl rfl hS⟩
    · cases h
  all_goals cases h
end
end Nf
set_option Elab.async false
set_option linter.all false
set_option maxRecDepth 100000
set_option maxHeartbeats 4000000
/-! NfSet: set of a list of ints, a set whose table rises. -/
namespace Nf
open PySem PySem.Spec L2
open PyProof.Rows hiding St
section
variable {P : Program} {w : World} {A : Around} {E : Value → Shared → Prop} {s : Shared}
/-- a set as set.__new__ leaves it -/
def bareSet (w : World) : Obj := { cls := .type "set", dict := none, data := .set #[] 0 (.fresh 0 0 (!w.params.followText "set-order")) }
/-- set.__init__(new set, list) -/
theorem init_list {l : Addr} {items : Array Value} (ns : List Int) (hh : A.handled = none) (hl : s.heap.IsList l items) (hit : IntsAre items.toList ns) (hb : ns.length + 1 < scanBound)
    {R : PySem.Fin → Shared → Prop}
    (h : ∀ (h' : Heap) (tk k : Nat), SetR w h' s.heap.objs.size (fun j => decide (j ∈ ns)) k → k ≤ ns.length → (∀ b o, s.heap.get? b = some o → h'.get? b = some o) → R (.done (.ret .none)) { s with heap := h', toks := tk }) :
    wpAny (model P w) A.in1 (Builtin.«set.__init__» ⟨[.ref s.heap.objs.size, .ref l], []⟩) R E { s with heap := s.heap.push (bareSet w) } := by
  have hz : items.size = ns.length := by
    have q := IntsAre.length hit
    rw [Array.length_toList] at q
    exact q
  have new : (s.heap.push (bareSet w)).get? s.heap.objs.size = some (bareSet w) := Heap.get?_push_size _ rfl
  have setT : Shared.TypeIs { s with heap := s.heap.push (bareSet w) } (.ref s.heap.objs.size) "set" := ⟨_, new, rfl⟩
  obtain ⟨ol, hol, hcl, nl, hdl⟩ := hl
  obtain ⟨kc, kd, kdat, ks⟩ := ol
  simp only at hcl hdl
  subst hcl; subst hdl
  have lt : l < s.heap.objs.size := Heap.lt_size hol
  have hol' : (s.heap.push (bareSet w)).get? l = some { cls := .type "list", dict := kd, data := .seq items nl, slots := ks } := Heap.get?_push_of_some _ hol
  have no1 := PySem.F.sub_list_set
  have no2 := PySem.F.sub_list_frozenset
  have no3 : (Value.type "list" == Value.type "dict") = false := by decide
  have listAt : (s.heap.push (bareSet w)).IsList l items := ⟨_, hol', rfl, nl, rfl⟩
  unfold Builtin.«set.__init__» noKeywords Builtin.Frozenset.updateFrom
  generalize hPI : pyIter = PI
  wp_walk
  subst hPI
  refine wpAny_pyIter_list listAt ?_
  refine wpAny_bind (wpAny_runValue ?_)
  have sz : (s.heap.push (bareSet w)).objs.size = s.heap.objs.size + 1 := Heap.size_push ..
  have apart : l ≠ (s.heap.push (bareSet w)).objs.size := by rw [sz]; exact Nat.ne_of_lt (Nat.lt_succ_of_lt lt)
  have out2 : s.heap.objs.size ∉ [(s.heap.push (bareSet w)).objs.size, l] := by
    rw [sz]
    simp only [List.mem_cons, List.not_mem_nil, or_false, not_or]
    exact ⟨Nat.ne_of_lt (Nat.lt_succ_self _), Nat.ne_of_gt lt⟩
  have val : ∀ (i : Nat) (v : Value), items[i]? = some v → ∃ k t, ns[i]? = some k ∧ v = .int k t := fun i v hv => by
    have hi : i < ns.length := by rw [← hz]; exact (Array.getElem?_eq_some_iff.mp hv).1
    obtain ⟨t, e⟩ := PyProof.Rows.IntsAre.int_at hit i v (by rw [Array.getElem?_toList]; exact hv)
    refine ⟨ns[i], t, List.getElem?_eq_getElem hi, ?_⟩
    rw [e, List.getD_eq_getElem?_getD, List.getElem?_eq_getElem hi]
    rfl
  refine set_update_ints ((Walks.list (by simpa using hh) _ l apart items).toS) s.heap.objs.size out2 ns hz hb val items.size 0 _ (by omega) (Nat.zero_le _) ⟨⟨_, Heap.get?_push_size _ rfl, rfl, rfl⟩, listAt.push _⟩ ⟨0, Nat.le_refl 0, setR_new_at (Heap.get?_push_of_some _ new)⟩ fun s' k mv hk hS => ?_
  obtain ⟨h', g2, d', tk', os'⟩ := s'
  obtain rfl : g2 = s.gens := mv.gens
  obtain rfl : d' = s.drawn := mv.drawn
  obtain rfl : os' = s.os := mv.os
  show wpAny _ _ _ _ _ _
  refine wpAny_pure ?_
  show wpAny _ _ (ret Value.none) _ _ _
  rw [hz] at hk
  refine wpAny_pure (h h' tk' k hS hk fun b o e => ?_)
  have lb : b < s.heap.objs.size := Heap.lt_size e
  exact mv.heap b o (by rw [sz]; simp only [List.mem_cons, List.not_mem_nil, or_false, not_or]; exact ⟨Nat.ne_of_lt lb, Nat.ne_of_lt (Nat.lt_succ_of_lt lb)⟩) (Heap.get?_push_of_some _ (Heap.get?_push_of_some _ e))
theorem set_of_list {l : Addr} {items : Array Value} (ns : List Int) {Q : Value → Shared → Prop} (hh : A.handled = none) (hl : s.heap.IsList l items) (hit : IntsAre items.toList ns) (hb : ns.length + 1 < scanBound)
    (h : ∀ (h' : Heap) (tk k : Nat), SetR w h' s.heap.objs.size (fun j => decide (j ∈ ns)) k → k ≤ ns.length → (∀ b o, s.heap.get? b = some o → h'.get? b = some o) → Q (.ref s.heap.objs.size) { s with heap := h', toks := tk }) :
    wpAny (model P w) A (call (.type "set") [.ref l]) Q E s := by
  obtain ⟨_, _, mro⟩ := PySem.F.called_set.mro
  have made := PySem.F.called_set.made
  have below := PySem.F.called_set.sub
  have notT := PySem.F.called_set.notType
  have may := PySem.F.called_set.canCreate
  have chk := PySem.F.typeCall_set_1 (.ref l)
  refine wpAny_call (codeAny_of_tree ?_)
  show wpAny _ _ (callAny (.type "set") _) _ _ _
  refine wpAny_pure ⟨Code.quiet_builtin _ (by decide +kernel), codeAny_builtin PySem.F.entry_type_call ?_⟩
  rw [Around.under_plain (weight_type_call_type "set" [.ref l] []) rfl]
  repeat (any_goals (first | assumption | wp_step))
  refine codeAny_mono (code_set_led1 (.ref l) (E := E) (Q₁ := fun obj s₁ => obj = .ref s.heap.objs.size ∧ s₁ = { s with heap := s.heap.push (bareSet w) }) ⟨rfl, rfl⟩) fun r s₁ hr => ?_
  match r, hr with
  | .error _, hr => exact hr
  | .ok (.ret obj), hr =>
    obtain ⟨rfl, rfl⟩ := hr
    have setT : Shared.TypeIs { s with heap := s.heap.push (bareSet w) } (.ref s.heap.objs.size) "set" := ⟨_, Heap.get?_push_size _ rfl, rfl⟩
    have look := PySem.F.called_set.init.lookup
    have bnd := PySem.F.called_set.init.bind (.ref s.heap.objs.size)
    repeat (any_goals (first | assumption | wp_step))
    refine codeAny_mono (codeAny_call_builtin (R := wants (fun r s₂ => r = .none ∧ ∃ h' tk k, s₂ = { s with heap := h', toks := tk } ∧ SetR w h' s.heap.objs.size (fun j => decide (j ∈ ns)) k ∧ k ≤ ns.length ∧
        (∀ b o, s.heap.get? b = some o → h'.get? b = some o)) E) PySem.F.called_set.init.plain PySem.F.entry_set_init (check_set_init_1 setT (init_list ns (by simpa using hh) hl hit hb fun h' tk k a b e => ⟨rfl, h', tk, k, rfl, a, b, e⟩))) fun r₂ s₂ hr₂ => ?_
    match r₂, hr₂ with
    | .error _, hr₂ => exact hr₂
    | .ok (.ret r), hr₂ =>
      obtain ⟨rfl, h', tk, k, rfl, a, b, e⟩ := hr₂
      repeat (any_goals (first | assumption | wp_step))
      exact h _ _ _ a b e
    | .ok (.next), hr₂ => exact hr₂.elim
    | .ok (.brk), hr₂ => exact hr₂.elim
    | .ok (.cont), hr₂ => exact hr₂.elim
  | .ok (.next), hr => exact hr.elim
  | .ok (.brk), hr => exact hr.elim
  | .ok (.cont), hr => exact hr.elim
end
end Nf
set_option Elab.async false
set_option linter.all false
set_option maxRecDepth 100000
set_option maxHeartbeats 2000000
/-! NfVal6: set, sorted, by values. -/
namespace Nf
open PySem PySem.Spec L2
open PyProof.Rows hiding St
section
variable {c : Cfg} {X : Cx}
theorem cSet (hw : X.w = c.w) (hc : X.calm = true) : CallR X (.type "set") (liftC c (rBi .set)) := by
  intro pins s σ H xs us Q I rx ⟨ds, S, P, r, hS, h, hP⟩
  unfold rBi at h
  split at h
  any_goals (rename_i q; cases q; done)
  · obtain ⟨v, rfl, r1⟩ := reps1 r
    cases r1
    obtain ⟨u, rfl, ru⟩ := vals1 rx
    cases ru
    split at h
    · rename_i xs hd
      obtain ⟨hi, hz, h⟩ := h
      obtain ⟨vs, hv, rv⟩ := hS.lst hd
      obtain ⟨ns, rfl, rfl⟩ := rv.ints_eq hi
      obtain ⟨its, rw', hl, _⟩ := I.list (.inl (.of hv))
      rw [List.length_map] at hz
      refine set_of_list ns (I.ok.hd hc) hl.isList (by simpa using rw'.ints) (by unfold scanBound; omega) fun h' tk k R hk kp => ?_
      have hp0 : H s.heap.objs.size = none := I.hok.fresh (Nat.le_refl _)
      have R' : SetR X.w h' s.heap.objs.size (fun j => decide (j ∈ ns)) k := R
      obtain ⟨s2, f2⟩ := hS.alloc (u := SetO c.w s.heap.objs.size (fun j => decide (j ∈ ns)) k) (o := .set (ns.map D.int)) hp0 ⟨_, k, upd_same, hi, fun i => by simp, by rw [List.length_map]; exact hk⟩
      refine ⟨.ref s.heap.objs.size, _, I.laid (t' := tk) kp (Nat.le_refl _) (setO_new R'), rfl, ?_⟩
      rw [hw]
      exact hP _ _ _ _ (h _ (hS.noneN hp0)) f2 rfl s2
    · cases h
  all_goals cases h

/-! ### pairs -/
def prD : D → Int × Int
  | .tup [.int i, .int j] => (i, j)
  | _ => (0, 0)
def prV (H : Hp) : V → Int × Int
  | .ref t => (match H t with
    | some (.tup [.int i, .int j]) => (i, j)
    | _ => (0, 0))
  | _ => (0, 0)
theorem isPair_eq {d : D} (h : d.isPair = true) : d = .tup [.int (prD d).1, .int (prD d).2] := by
  unfold D.isPair at h
  split at h
  · rfl
  · cases h
theorem pair_rep {H : Hp} {d : D} {v : V} (r : RepV c H d v) (h : d.isPair = true) : ∃ t, v = .ref t ∧ H t = some (.tup [.int (prV H v).1, .int (prV H v).2]) ∧ prV H v = prD d := by
  have e := isPair_eq h
  rw [e] at r
  obtain ⟨a, vs, rfl, hv, rv⟩ := r.tup_eq
  obtain ⟨v1, v2, rfl, q1, q2⟩ := reps2 rv
  cases q1
  cases q2
  have e2 : prV H (.ref a) = prD d := by simp only [prV, hv]
  exact ⟨a, rfl, by rw [e2]; exact hv, e2⟩
theorem RepL.mem {H : Hp} : ∀ {ds : List D} {vs : List V}, RepL c H ds vs → (∀ d ∈ ds, ∃ v ∈ vs, RepV c H d v) ∧ ∀ v ∈ vs, ∃ d ∈ ds, RepV c H d v
  | [], vs, r => by rw [RepL.nil_eq r]; exact ⟨fun _ h => (by cases h), fun _ h => (by cases h)⟩
  | d :: ds, vs, r => by
    obtain ⟨v, vs, rfl, r1, r2⟩ := RepL.cases_cons r
    obtain ⟨a, b⟩ := RepL.mem r2
    refine ⟨fun x hx => ?_, fun x hx => ?_⟩
    · rcases List.mem_cons.mp hx with rfl | hx
      · exact ⟨v, List.mem_cons_self, r1⟩
      · obtain ⟨y, h1, h2⟩ := a x hx
        exact ⟨y, List.mem_cons_of_mem _ h1, h2⟩
    · rcases List.mem_cons.mp hx with rfl | hx
      · exact ⟨d, List.mem_cons_self, r1⟩
      · obtain ⟨y, h1, h2⟩ := b x hx
        exact ⟨y, List.mem_cons_of_mem _ h1, h2⟩
theorem RepL.perm {H : Hp} {us vs : List V} (p : us.Perm vs) : ∀ {ds : List D}, RepL c H ds us → ∃ es, es.Perm ds ∧ RepL c H es vs := by
  induction p with
  | nil => intro ds r; exact ⟨ds, .refl _, r⟩
  | cons x p ih =>
    intro ds r
    cases ds with
    | nil => cases RepL.nil_eq r
    | cons d ds =>
      obtain ⟨v, vs, e, r1, r2⟩ := RepL.cases_cons r
      cases e
      obtain ⟨es, p1, r3⟩ := ih r2
      exact ⟨d :: es, p1.cons d, RepL.cons r1 r3⟩
  | swap x y l =>
    intro ds r
    cases ds with
    | nil => cases RepL.nil_eq r
    | cons d ds =>
      obtain ⟨v, vs, e, r1, r2⟩ := RepL.cases_cons r
      cases e
      cases ds with
      | nil => cases RepL.nil_eq r2
      | cons d2 ds =>
        obtain ⟨v, vs, e, r3, r4⟩ := RepL.cases_cons r2
        cases e
        exact ⟨d2 :: d :: ds, .swap _ _ _, RepL.cons r3 (RepL.cons r1 r4)⟩
  | trans p q ih1 ih2 =>
    intro ds r
    obtain ⟨es, p1, r1⟩ := ih1 r
    obtain ⟨fs, p2, r2⟩ := ih2 r1
    exact ⟨fs, p2.trans p1, r2⟩
theorem RepL.pair {H : Hp} {R : V → V → Prop} {R' : D → D → Prop} : ∀ {ds : List D} {vs : List V}, RepL c H ds vs → (∀ d ∈ ds, ∀ e ∈ ds, ∀ v u, RepV c H d v → RepV c H e u → R v u → R' d e) → vs.Pairwise R → ds.Pairwise R'
  | [], vs, r, h, p => .nil
  | d :: ds, vs, r, h, p => by
    obtain ⟨v, vs, rfl, r1, r2⟩ := RepL.cases_cons r
    obtain ⟨p1, p2⟩ := List.pairwise_cons.mp p
    refine List.pairwise_cons.mpr ⟨fun e he => ?_, RepL.pair r2 (fun a ha b hb => h a (List.mem_cons_of_mem _ ha) b (List.mem_cons_of_mem _ hb)) p2⟩
    obtain ⟨u, hu, ru⟩ := (RepL.mem r2).1 e he
    exact h d List.mem_cons_self e (List.mem_cons_of_mem _ he) v u r1 ru (p1 u hu)
theorem ltD_pair {a b : D} (ha : a.isPair = true) (hb : b.isPair = true) : ltD a b = SrtO.lexB (prD a) (prD b) := by
  rw [isPair_eq ha, isPair_eq hb]
  generalize prD a = p
  generalize prD b = q
  obtain ⟨p1, p2⟩ := p
  obtain ⟨q1, q2⟩ := q
  show ltL [.int p1, .int p2] [.int q1, .int q2] = SrtO.lexB (p1, p2) (q1, q2)
  unfold SrtO.lexB
  simp only [ltL, ltD, D.int.injEq]
  by_cases h1 : p1 = q1
  · subst h1
    by_cases h2 : p2 = q2
    · subst h2; simp
    · simp [h2]
  · simp [h1]
/-- what is sorted, as data -/
theorem sorted_pairs {H : Hp} {ds : List D} {vs us : List V} (r : RepL c H ds vs) (hp : ∀ d ∈ ds, d.isPair = true) (h1 : SrtO.Srtd (ltP (prV H)) us) (h2 : us.Perm vs) : ∃ es, es.Perm ds ∧ sorted1 es ∧ RepL c H es us := by
  obtain ⟨es, p, r2⟩ := RepL.perm h2.symm r
  refine ⟨es, p, RepL.pair r2 (fun d hd e he v u rv ru hlt => ?_) h1, r2⟩
  have pd := hp d (p.mem_iff.mp hd)
  have pe := hp e (p.mem_iff.mp he)
  rw [ltD_pair pe pd]
  obtain ⟨_, _, _, e1⟩ := pair_rep rv pd
  obtain ⟨_, _, _, e2⟩ := pair_rep ru pe
  rw [← e1, ← e2]
  exact hlt
theorem sorted_ints {ns ns' : List Int} (p : ns'.Perm ns) (h : ns'.Pairwise (· ≤ ·)) : (ns'.map D.int).Perm (ns.map D.int) ∧ sorted1 (ns'.map D.int) := by
  refine ⟨p.map _, List.pairwise_map.mpr (h.imp fun {a b} q => ?_)⟩
  simp [ltD]
  omega

/-! ### sorted of a dict with tuple keys -/
section
variable {P : Program} {w : World} {d : Addr} {es : Array DictEntry} {ep : Nat}
theorem src_raw (lo : (d == sysModules) = false) : PySem.W.KdlSrc P w "dict" d d es.size (fun i v => ∃ hi : i < es.size, v = es[i].key) (fun h => h.DictRaw d es ep) where
  type := fun _ hm => hm.typeIs
  there := fun _ hm => let ⟨_, ho, _⟩ := hm; ⟨Heap.lt_size ho, Heap.lt_size ho⟩
  keep := fun _ _ hm hk => hm.at fun o e => hk d (.inl rfl) o e
  notList := by decide
  notTuple := by decide
  hint := fun _ _ _ _ hm hq => PySem.W.kdl_hint_dict hm.typeIs hq
  iter := fun _ _ hh hm => ⟨_, _, (fun _ _ hq => wpAny_pyIter_dict_raw lo hm hq), Walks.rawKeys hh _ d (let ⟨_, ho, _⟩ := hm; Nat.ne_of_lt (Heap.lt_size ho)) es ep,
    ⟨⟨_, Heap.get?_push_size _ rfl, rfl, rfl⟩, hm.at fun _ e => Heap.get?_push_of_some _ e⟩⟩
end
theorem refs_of {K : Type} {xs : List (K × Addr × Value)} : ∀ (l : List Value), l.length = xs.length → (∀ (j : Nat) (v : Value), l[j]? = some v → ∃ y, xs[j]? = some y ∧ v = Value.ref y.2.1) → l = xs.map fun y => Value.ref y.2.1 := by
  intro l hl h
  refine List.ext_getElem? fun j => ?_
  rw [List.getElem?_map]
  cases e : l[j]? with
  | none =>
    have : xs[j]? = none := List.getElem?_eq_none (by rw [← hl]; exact List.getElem?_eq_none_iff.mp e)
    rw [this]; rfl
  | some v =>
    obtain ⟨y, h1, rfl⟩ := h j v e
    rw [h1]; rfl
theorem KTn.keys {H : Hp} {kvs : List (D × D)} {xs : List NX} (r : KTn c H kvs xs) : RepL c H (kvs.map (·.1)) (xs.map fun y => V.ref y.2.1) := by
  unfold KTn at r
  induction r with
  | nil => exact RepL.nil
  | cons h t ih => exact RepL.cons h.2.1 ih
theorem vals_refs : ∀ as : List Addr, Vals (as.map V.ref) (as.map Value.ref)
  | [] => .nil
  | a :: as => .cons (show L2.RelV (V.ref a) (Value.ref a) from rfl) (vals_refs as)
theorem back_refs (as : List Addr) : (as.map Value.ref).map backV = as.map V.ref := by rw [List.map_map]; rfl
theorem sortedT (hc : X.calm = true) (hw : X.w = c.w) {pins : List (Addr × Obj)} {s : Shared} {σ : L2.St} {H : Hp} {Q : VK} {a : Addr} {kvs : List (D × D)} {S : Store} {P : DQ} (I : Inv X pins σ H s) (hS : RepS c H S)
    (hd : S a = some (.dic kvs)) (hne : kvs ≠ []) (hp : ∀ p ∈ kvs, p.1.isPair = true) (h : ∀ ys, ys.Perm (kvs.map (·.1)) → sorted1 ys → alloc S (.lst ys) P) (hP : Post c H S P Q) :
    wpAny (model X.prog X.w) X.A (call (.builtin "sorted") [.ref a]) (EP X pins σ Q) X.xe s := by
  have ht : allTup kvs := fun p m => by rw [isPair_eq (hp p m)]; rfl
  obtain ⟨lo, _, _, hz, xs, hx, rk⟩ := tup_view I hw hS hd ht
  obtain ⟨es, ep, raw, sz, at_⟩ := hx.raw
  have hlen : xs.length = kvs.length := rk.length.symm
  refine Calls.call_function_entry PyProof.Rows.kind_sorted PyProof.Rows.plain_sorted PyProof.Rows.entry_sorted (PyProof.Rows.args_sorted1 _) ?_
  unfold Builtin.«sorted»
  refine wpAny_bind (m := checkCount "sorted" 1 1 _) (wpAny_pure ?_)
  refine wpAny_bind (PySem.W.kdu_collect (A := X.A.in1) (src_raw lo) (I.ok.hd hc) raw (by omega) fun h' tk acc hk hacc => ?_)
  have e0 : acc.toList = xs.map fun y => Value.ref y.2.1 := refs_of _ (by rw [Array.length_toList, hacc.1, sz]) fun j v e => by
    obtain ⟨hj, e2⟩ := hacc.2 j v (by rw [← Array.getElem?_toList]; exact e)
    obtain ⟨y, h1, h2, _⟩ := at_ j hj
    exact ⟨y, h1, e2.trans h2⟩
  have e1 : acc.toList = (xs.map fun y => y.2.1).map Value.ref := by rw [e0, List.map_map]; rfl
  have e1' : acc = ((xs.map fun y => y.2.1).map Value.ref).toArray := by rw [← e1]
  generalize hL : (xs.map fun y => y.2.1) = as at e1 e1'
  have hal : as.length = kvs.length := by rw [← hL, List.length_map, hlen]
  have rK : RepL c H (kvs.map (·.1)) (as.map V.ref) := by
    have q := rk.keys
    rw [← hL, List.map_map]
    exact q
  have hpK : ∀ x ∈ kvs.map (·.1), x.isPair = true := fun x m => by obtain ⟨p, m2, rfl⟩ := List.mem_map.mp m; exact hp p m2
  have I1 : Inv X pins σ H { s with heap := h', toks := tk } := I.kept hk
  rw [e1]
  have hz2 : (as.map Value.ref).length ≤ sizeLine := by rw [List.length_map, hal]; exact hz
  refine wpAny_bind (wpAny_newList ?_ hz2)
  have hoL : (h'.push (seqObj "list" (as.map Value.ref).toArray 0)).get? h'.objs.size = some (seqObj "list" (as.map Value.ref).toArray 0) := Heap.get?_push_size _ rfl
  show wpAny _ _ _ _ _ { s with heap := h'.push (seqObj "list" (as.map Value.ref).toArray 0), toks := tk }
  have isP : ∀ v ∈ as.map Value.ref, Srt.IsPair h' v (prV H (backV v)).1 (prV H (backV v)).2 := fun v hv => by
    obtain ⟨b, hb, rfl⟩ := List.mem_map.mp hv
    obtain ⟨d, hd2, rd⟩ := (RepL.mem rK).2 (.ref b) (List.mem_map_of_mem hb)
    obtain ⟨t, et, ht2, _⟩ := pair_rep rd (hpK d hd2)
    cases et
    obtain ⟨_, its2, r2, o, ho, hcl, n, hdat⟩ := I1.hok _ _ ht2
    obtain ⟨u1, u2, rfl, ri, rj⟩ := vals2 r2
    obtain ⟨t1, rfl⟩ := ri
    obtain ⟨t2, rfl⟩ := rj
    exact ⟨b, o, t1, t2, n, rfl, ho, hcl, hdat⟩
  refine wpAny_bind (wpAny_holding (wpAny_call_entry PyProof.Rows.slot_list_sort ⟨_, hoL, rfl⟩ PyProof.Rows.entry_list_sort
    (SrtO.list_sort_ord (s := { s with heap := h'.push (seqObj "list" (as.map Value.ref).toArray 0), toks := tk }) (ltv := fun v u => SrtO.lexB (prV H (backV v)) (prV H (backV u))) (SrtO.swo_lex fun v => prV H (backV v)) hoL hz2
      (fun h2 => SrtO.pairs_sortableO (k := fun v => prV H (backV v)) (by omega) (fun v hv => (isP v hv).keeps fun b o e _ => Heap.get?_push_of_some _ e) fun o e => ?_) fun out hs hb => ⟨_, rfl, ?_⟩)
    (PyProof.Rows.args_list_sort _)))
  · have e' : some o = some (seqObj "list" (as.map Value.ref).toArray 0) := e.symm.trans hoL
    cases e'
    intro q
    exact absurd (Value.type.inj q) (by decide)
  · have h3 : ∀ u ∈ out, ∃ a, u = Value.ref a := fun u hu => by
      obtain ⟨b, _, e⟩ := List.mem_map.mp (hb.perm.mem_iff.mp hu)
      exact ⟨b, e.symm⟩
    obtain ⟨e', he'⟩ := PyProof.Rows.sortedHeap_at (vs := as.map Value.ref) (out := out.toArray) hoL
    have pB : (out.map backV).Perm (as.map V.ref) := by rw [← back_refs]; exact hb.perm.map backV
    have sB : SrtO.Srtd (ltP (prV H)) (out.map backV) := SrtO.srtd_map hs
    obtain ⟨zs, p1, p2, p3⟩ := sorted_pairs rK hpK sB pB
    have hlen2 : (out.map backV).length ≤ sizeLine := by rw [pB.length_eq, List.length_map, hal]; exact hz
    have hn : H h'.objs.size = none := I1.hok.fresh (Nat.le_refl _)
    refine wpAny_pure ⟨_, rfl, .ref h'.objs.size, upd H h'.objs.size (.lst (out.map backV)), I1.laid (t' := tk) (fun b u e => ?_) (Nat.le_refl _)
      (show ObjOk X.prog X.w _ _ _ (.lst (out.map backV)) from ⟨hlen2, out, e', vals_back h3, he'⟩), rfl, new_lst hS p3 (h zs p1 p2) hP _ hn⟩
    have hb2 : b < h'.objs.size := Heap.lt_size e
    rw [PyProof.Rows.sortedHeap_old (Nat.ne_of_lt hb2) (by rw [size_push']; exact Nat.lt_succ_of_lt hb2)]
    exact Heap.get?_push_of_some _ e
end
end Nf
set_option Elab.async false
set_option linter.all false
set_option maxRecDepth 100000
set_option maxHeartbeats 2000000
/-! NfVal7: sorted by values; dict.update of a dict. -/
namespace Nf
open PySem PySem.Spec L2
open PyProof.Rows hiding St
section
variable {c : Cfg} {X : Cx}
theorem keys_strs {H : Hp} {kvs : List (D × D)} {ks : List (Key × V)} (r : RepKF c H kvs ks) : (∀ p ∈ kvs, p.1.isStr = true) → ∃ ss : List String, kvs.map (·.1) = ss.map D.str ∧ ks.map (·.1) = (ss.map os).map Sum.inr := by
  unfold RepKF at r
  induction r with
  | nil => intro _; exact ⟨[], rfl, rfl⟩
  | @cons p q ps qs h t ih =>
    intro hp
    obtain ⟨ss, e1, e2⟩ := ih fun x hx => hp x (List.mem_cons_of_mem _ hx)
    have hs := hp p List.mem_cons_self
    obtain ⟨k, d⟩ := p
    cases k with
    | str z =>
      refine ⟨z :: ss, by rw [List.map_cons, e1]; rfl, ?_⟩
      rw [List.map_cons, e2, h.1]
      rfl
    | _ => cases hs
theorem perm_map_inv {α β : Type} [DecidableEq β] {f : α → β} {l : List β} {m : List α} (p : l.Perm (m.map f)) : ∃ k : List α, k.Perm m ∧ l = k.map f := by
  generalize hn : m.map f = n at p
  induction p generalizing m with
  | nil => exact ⟨[], by rw [List.map_eq_nil_iff.mp hn], rfl⟩
  | cons x p ih =>
    rename_i l1 l2
    cases m with
    | nil => cases hn
    | cons a m =>
      simp only [List.map_cons, List.cons.injEq] at hn
      obtain ⟨k, p1, e1⟩ := ih hn.2
      exact ⟨a :: k, p1.cons a, by rw [List.map_cons, hn.1, e1]⟩
  | swap x y l =>
    match m, hn with
    | a :: b :: m, hn =>
      simp only [List.map_cons, List.cons.injEq] at hn
      obtain ⟨h1, h2, h3⟩ := hn
      exact ⟨b :: a :: m, .swap _ _ _, by simp [h1, h2, h3]⟩
  | trans p q ih1 ih2 =>
    obtain ⟨k, p1, e1⟩ := ih2 hn
    obtain ⟨k2, p2, e2⟩ := ih1 e1.symm
    exact ⟨k2, p2.trans p1, e2⟩

theorem set_ints : ∀ {ds : List D}, (∀ x ∈ ds, x.isInt = true) → ∃ ns : List Int, ds = ns.map D.int
  | [], _ => ⟨[], rfl⟩
  | d :: ds, h => by
    obtain ⟨ns, e⟩ := set_ints fun x hx => h x (List.mem_cons_of_mem _ hx)
    have hi := h d List.mem_cons_self
    cases d with
    | int i => exact ⟨i :: ns, by rw [e]; rfl⟩
    | _ => cases hi
theorem cSorted (hK : X.K = c.K) (hc : X.calm = true) (hw : X.w = c.w) : CallR X (.builtin "sorted") (liftC c (rBi .sorted)) := by
  intro pins s σ H xs us Q I rx ⟨ds, S, P, r, hS, h, hP⟩
  unfold rBi at h
  split at h
  any_goals (rename_i q; cases q; done)
  · obtain ⟨v, rfl, r1⟩ := reps1 r
    cases r1
    split at h
    · rename_i xs hd
      obtain ⟨vs, hv, rv⟩ := hS.lst hd
      obtain ⟨hs, h⟩ := h
      rcases hs with hi | hp
      · obtain ⟨ns, rfl, rfl⟩ := rv.ints_eq hi
        refine cr_sortedI pins s σ H _ us Q I rx ⟨_, ns, rfl, .inl (.of hv), fun ns' p p1 p2 hp => ?_⟩
        obtain ⟨q1, q2⟩ := sorted_ints p1 p2
        exact new_lst hS (RepL.ints ns') (h _ q1 q2) hP p hp
      · refine cr_sortedPO pins s σ H _ us Q I rx ⟨_, vs, prV H, rfl, .inl (.of hv), fun x hx => ?_, fun ys p h1 h2 hp0 => ?_⟩
        · obtain ⟨d, hd2, rd⟩ := (RepL.mem rv).2 x hx
          obtain ⟨t, e1, e2, _⟩ := pair_rep rd (hp d hd2)
          exact ⟨t, e1, e2⟩
        · obtain ⟨es, p1, p2, p3⟩ := sorted_pairs rv hp h1 h2.perm
          exact new_lst hS p3 (h es p1 p2) hP p hp0
    · rename_i kvs hd
      rcases h with ⟨hp, h⟩ | ⟨hs, hz, h⟩
      · by_cases hne : kvs = []
        · subst hne
          obtain ⟨ks, he, rk⟩ := flat_view hS hd (fun _ z => by cases z)
          cases rk
          exact call_sortedD hc pins s σ H _ us Q I rx ⟨_, [], [], rfl, .of he, rfl, by decide, fun ys p p1 _ hp0 => by
            obtain rfl : ys = [] := p1.eq_nil
            exact new_lst hS (RepL.nil (c := c)) (h [] (.refl _) .nil) hP p hp0⟩
        · obtain ⟨u, rfl, ru⟩ := vals1 rx
          cases ru
          exact sortedT hc hw I hS hd hne hp h hP
      · obtain ⟨ks, he, rk⟩ := flat_view hS hd (fun p m => by
          have := hs p m
          cases hq : p.1 <;> rw [hq] at this <;> first | rfl | cases this)
        obtain ⟨ss, e1, e2⟩ := keys_strs rk hs
        have hl : ss.length = kvs.length := by
          have e3 := congrArg List.length e1
          rw [List.length_map, List.length_map] at e3
          exact e3.symm
        refine call_sortedD hc pins s σ H _ us Q I rx ⟨_, ks, ss.map os, rfl, .of he, e2, by rw [List.length_map]; omega, fun ys p p1 _ hp0 => ?_⟩
        obtain ⟨zs, p2, rfl⟩ := perm_map_inv p1
        exact new_lst hS (RepL.strs zs) (h _ (by rw [e1]; exact p2.map _)) hP p hp0
    · rename_i xs hd
      obtain ⟨hz, hi, h⟩ := h
      obtain ⟨Sf, n, e, _, he, hn⟩ := hS.set hd
      rw [← hw] at e
      refine cr_sortedSet hc pins s σ H _ us Q I rx ⟨_, Sf, n, rfl, e, by omega, fun ns p h1 h2 h3 hp0 => ?_⟩
      exact new_lst hS (RepL.ints ns) (h ns h1 fun i => by rw [h2, he, decide_eq_true_eq]) hP p hp0
    · cases h
  all_goals cases h
end
end Nf
set_option Elab.async false
set_option linter.all false
set_option maxRecDepth 100000
set_option maxHeartbeats 2000000
/-! NfIter: what is walked. -/
namespace Nf
open PySem PySem.Spec L2
open PyProof.Rows hiding St

abbrev DTI := DE → DSt → Store → (Walk → Store → Prop) → Prop
/-- the iterator J yields the walk w's items, as long as that stands -/
def WalkOk (c : Cfg) (H1 : Hp) (S1 : Store) (J : It) (w : Walk) : Prop := ∀ H S, RepS c H S → Fr H1 S1 H S → w.ok S →
  (∀ i, w.its.length ≤ i → J.stop i H) ∧ ∀ i d, w.its[i]? = some d → J.go i H ∧ ∀ x H', J.yld i H x H' → RepV c H' d x ∧ RepS c H' S ∧ Fr H S H' S ∧ Ext H H'
def PostI (c : Cfg) (H : Hp) (S : Store) (P : Walk → Store → Prop) (R : It → Hp → Prop) : Prop := ∀ w S' J H', P w S' → Fr H S H' S' → RepS c H' S' → WalkOk c H' S' J w → R J H'
def liftI (c : Cfg) (E : XK) (t : DTI) : TI := fun σ H R => ∃ δ S P W, RepSt c H δ σ ∧ RepS c H S ∧ t W δ S P ∧ PostI c H S P R ∧ PostX c H S W E
theorem PostI.fr {c : Cfg} {H H1 : Hp} {S S1 : Store} {P : Walk → Store → Prop} {R : It → Hp → Prop} (h : PostI c H S P R) (f : Fr H S H1 S1) : PostI c H1 S1 P R := fun w S' J H' p f2 s k => h w S' J H' p (f.trans f2) s k

/-- a locked dict with tuple keys, walked -/
def ItKT (d : Addr) (o : Obj) (es : List (V × Int × V)) : It :=
  ⟨fun i H => H d = some (.frz o (dictAt d es)) ∧ i < es.length, fun i H x H' => H' = H ∧ ∃ e, es[i]? = some e ∧ x = e.1, fun i H => H d = some (.frz o (dictAt d es)) ∧ es.length ≤ i⟩
section
variable {P : Program} {w : World} {K : PySem.W.Frag} {tg : Expr} {d : Addr} {o : Obj} {es : List (V × Int × V)}
theorem frzKT {X : Cx} {pins : List (Addr × Obj)} {σ : L2.St} {H : Hp} {s : Shared} (I : Inv X pins σ H s) (h : H d = some (.frz o (dictAt d es))) :
    s.heap.get? d = some o ∧ ∃ arr ep, o.ExactDict ∧ o.data = .dict arr ep ∧ Paired (fun (p : V × Int × V) (q : DictEntry) => RelV p.1 q.key ∧ p.2.1 = q.hash ∧ RelV p.2.2 q.val) es arr.toList := by
  obtain ⟨ho, ⟨o', arr, ep, h1, h2, h3, h4⟩, _, _⟩ := (show ObjOk X.prog X.w H s.heap d (.frz o (dictAt d es)) from I.hok d _ h)
  rw [ho] at h1
  cases h1
  exact ⟨ho, arr, ep, h2, h3, h4⟩
theorem turn_KT {arr : Array DictEntry} {ep : Nat} (it : Addr) (hod : o.data = .dict arr ep) (hn : arr.size = es.length) : Turn P w K tg (ItKT d o es) [it] it (fun i h => h.IsKeyIter it d i arr.size ep) where
  mem := by simp
  obj := fun i h st b hb => by
    obtain rfl : b = it := by simpa using hb
    obtain ⟨oi, e, _, dd⟩ := st
    exact ⟨oi, e, fun v z => by rw [dd] at z; cases z⟩
  keep := fun i h h' st k => st.at fun oi e => k it (by simp) oi e
  item := by
    intro X hP hw hK hc i pins s σ H E I hf st hg
    subst hP hw hK
    obtain ⟨hd, hi⟩ := hg
    obtain ⟨f0, f1, f2, f3, f4, f5⟩ := hf it (by simp)
    obtain ⟨ho, arr', ep', x1, x2, x3⟩ := frzKT I hd
    obtain ⟨rfl, rfl⟩ := dict_ep hod x2
    have hlt : i < arr'.size := by omega
    refine wpAny_pyNext_keys_item_raw st ⟨o, ho, x1, hod⟩ hlt fun h' st' sb => ?_
    have I1 : Inv X pins σ H { s with heap := h' } := I.turned (t' := s.toks) (fun b ob hb e => (sb.2 b hb).trans e) f0 f1 f3 f4 f5
    obtain ⟨en, hen, r1, _, _⟩ := paired_get x3 (List.getElem?_eq_getElem hi)
    have e2 : arr'[i] = en := by
      rw [Array.getElem?_toList, Array.getElem?_eq_getElem hlt] at hen
      exact Option.some.inj hen
    obtain ⟨oi, e, cc, dd⟩ := id st'
    exact ⟨_, rfl, go_of (s := { s with heap := h' }) e cc dd (by decide) ⟨es[i].1, H, I1, by rw [e2]; exact r1, ⟨rfl, es[i], List.getElem?_eq_getElem hi, rfl⟩, st', fun b hb => (hf b hb).1⟩⟩
  done := by
    intro X hP hw hK hc i pins s σ H E I hf st hg
    subst hP hw hK
    obtain ⟨hd, hi⟩ := hg
    obtain ⟨f0, f1, f2, f3, f4, f5⟩ := hf it (by simp)
    obtain ⟨ho, arr', ep', x1, x2, x3⟩ := frzKT I hd
    obtain ⟨rfl, rfl⟩ := dict_ep hod x2
    exact wpAny_pyNext_keys_end_raw (I.ok.hd hc) st ⟨o, ho, x1, hod⟩ (by omega) fun h' eb => ⟨rfl, I.turned (t' := s.toks) (fun b ob hb e => eb b ob hb e) f0 f1 f3 f4 f5⟩
  self := fun A i s Q E st h => wpAny_pyIter_keyiter st h
end
section
variable {c : Cfg}
theorem flat_kV {H : Hp} {d : D} (h : d.flatKey = true) : RepV c H d (kV d.fk) := by
  cases d <;> first | (cases h; done) | rfl
theorem fr_frz {H H' : Hp} {S S' : Store} (f : Fr H S H' S') {a : Addr} {o : Obj} {u : HO} (e : H a = some (.frz o u)) : H' a = some (.frz o u) := f.frz a o u e
theorem SqL.stay {K : PySem.W.Frag} {H H' : Hp} {S S' : Store} (f : Fr H S H' S') {a : Addr} {ns : List Int} (h : (∃ o, H a = some (.frz o (.lst (ns.map V.int)))) ∨ KSeq K a (ns.map V.int)) : SqL K H' a (ns.map V.int) := by
  rcases h with ⟨o, e⟩ | ⟨o, its, n, x⟩
  · exact .inl (.inr ⟨o, f.frz a o _ e⟩)
  · exact .inr ⟨o, its, n, x⟩
variable {X : Cx} {tg : Expr}
/-- iter(x) of what can be walked -/
theorem iter_val (hK : X.K = c.K) {pins : List (Addr × Obj)} {s : Shared} {σ : L2.St} {H : Hp} {R : It → Hp → Prop} {d : D} {x : V} {u : Value} {S : Store} {xs : List D} (I : Inv X pins σ H s) (rx : RelV x u) (rd : RepV c H d x) (hS : RepS c H S)
    (hi : items S d = some xs) (q : ∀ J, WalkOk c H S J ⟨xs, stands S d⟩ → R J H) : wpAny (model X.prog X.w) X.A (pyIter u) (PIE X pins σ tg R) X.xe s := by
  have lst : ∀ (a : Addr) (vs : List V), SqL X.K H a vs → (∀ H' S', RepS c H' S' → Fr H S H' S' → stands S d S' → SqL X.K H' a vs ∧ RepL c H' xs vs) → wpAny (model X.prog X.w) X.A (pyIter (.ref a)) (PIE X pins σ tg R) X.xe s := fun a vs hq hst => by
    obtain ⟨its, rv, p, hz⟩ := I.list hq
    refine wpAny_pyIter_list p.isList (pi_one (tk := s.toks) I _ (turn_list a _) ⟨_, Heap.get?_push_size _ rfl, rfl, rfl⟩ (q _ fun H' S' hS' f ok => ?_))
    obtain ⟨hq', rl⟩ := hst H' S' hS' f ok
    refine ⟨fun i hi => ⟨vs, hq', by rw [← rl.length]; exact hi⟩, fun i d hd => ?_⟩
    obtain ⟨v, hv, r⟩ := rl.get hd
    refine ⟨⟨vs, v, hq', hv⟩, fun x H2 y => ?_⟩
    obtain ⟨rfl, y⟩ := y
    have e := y vs hq'
    rw [hv] at e
    cases e
    exact ⟨r, hS', Fr.refl, ⟨fun _ _ e => e, fun _ _ _ e => e⟩⟩
  cases d with
  | tup ds =>
    obtain ⟨a, vs, rfl, hv, rv⟩ := rd.tup_eq
    cases rx
    cases hi
    obtain ⟨its, ri, p, hz⟩ := I.tuple (.inl (.of hv))
    refine wpAny_pyIter_tuple p (pi_one (tk := s.toks) I _ (turn_tuple a _) ⟨_, Heap.get?_push_size _ rfl, rfl, rfl⟩ (q _ fun H' S' hS' f ok => ?_))
    have hq' : SqT X.K H' a vs := .inl (.of (f.keep a _ hv (hS.tupN hv) fun _ z => by cases z).1)
    have rl : RepL c H' xs vs := rv.ext (f.ext hS)
    refine ⟨fun i hi => ⟨vs, hq', by rw [← rl.length]; exact hi⟩, fun i d hd => ?_⟩
    obtain ⟨v, hv, r⟩ := rl.get hd
    refine ⟨⟨vs, v, hq', hv⟩, fun x H2 y => ?_⟩
    obtain ⟨rfl, y⟩ := y
    have e := y vs hq'
    rw [hv] at e
    cases e
    exact ⟨r, hS', Fr.refl, ⟨fun _ _ e => e, fun _ _ _ e => e⟩⟩
  | frz ns =>
    simp only [RepV] at rd
    obtain ⟨a, rfl, rd⟩ := rd
    cases rx
    cases hi
    rw [← hK] at rd
    exact lst a (ns.map V.int) (SqL.stay (Fr.refl (S := S)) rd) fun H' S' _ f _ => ⟨SqL.stay f rd, RepL.ints ns⟩
  | str z =>
    cases rd
    obtain ⟨t, rfl⟩ := rx
    cases hi
    have wo : WalkOk c H S (Its (os z)) ⟨z.toList.map fun c => .str (String.ofList [c]), stands S (.str z)⟩ := fun H' S' hS' f ok => by
      have el : (os z).cps.size = z.toList.length := by rw [← Array.length_toList, os_cps, List.length_map]
      refine ⟨fun i hi => ?_, fun i d hd => ?_⟩
      · show (os z).cps.size ≤ i
        rw [List.length_map] at hi
        omega
      · rw [List.getElem?_map] at hd
        obtain ⟨ch, h1, h2⟩ := Option.map_eq_some_iff.mp hd
        subst h2
        have hlt := (List.getElem?_eq_some_iff.mp h1).1
        refine ⟨show i < (os z).cps.size by omega, fun x H2 y => ?_⟩
        obtain ⟨rfl, cp, h3, rfl⟩ := y
        have e : (os z).cps[i]? = some ch.toNat := by rw [← Array.getElem?_toList, os_cps, List.getElem?_map, h1]; rfl
        rw [e] at h3
        cases h3
        refine ⟨?_, hS', Fr.refl, ⟨fun _ _ e => e, fun _ _ _ e => e⟩⟩
        show V.str ⟨#[ch.toNat]⟩ = V.str (os (String.ofList [ch]))
        rw [os_of]
        rfl
    cases ha : (os z).cps.all (· < 128)
    · exact wpAny_pyIter_wide ha (pi_one (tk := s.toks) I _ (turn_str _ (os z) t "str_iterator" (.inr rfl)) ⟨_, Heap.get?_push_size _ rfl, rfl, rfl⟩ (q _ wo))
    · exact wpAny_pyIter_ascii ha (pi_one (tk := s.toks) I _ (turn_str _ (os z) t "str_ascii_iterator" (.inl rfl)) ⟨_, Heap.get?_push_size _ rfl, rfl, rfl⟩ (q _ wo))
  | ref a =>
    cases rd
    cases rx
    unfold items at hi
    simp only at hi
    split at hi
    · rename_i ys hd
      cases hi
      obtain ⟨vs, hv, rv⟩ := hS.lst hd
      have e : xs = xs := rfl
      obtain ⟨its, rv', p, hz⟩ := I.list (.inl (.of hv))
      refine wpAny_pyIter_list p.isList (pi_one (tk := s.toks) I _ (turn_list a _) ⟨_, Heap.get?_push_size _ rfl, rfl, rfl⟩ (q _ fun H' S' hS' f ok => ?_))
      have ok' : S' a = S a := ok
      rw [hd] at ok'
      obtain ⟨vs2, hv2, rl⟩ := hS'.lst ok'
      have hq' : SqL X.K H' a vs2 := .inl (.of hv2)
      refine ⟨fun i hi => ⟨vs2, hq', by rw [← rl.length]; exact hi⟩, fun i d hd => ?_⟩
      obtain ⟨v, hv, r⟩ := rl.get hd
      refine ⟨⟨vs2, v, hq', hv⟩, fun x H2 y => ?_⟩
      obtain ⟨rfl, y⟩ := y
      have e := y vs2 hq'
      rw [hv] at e
      cases e
      exact ⟨r, hS', Fr.refl, ⟨fun _ _ e => e, fun _ _ _ e => e⟩⟩
    · rename_i kvs hd
      cases hi
      rcases (show RepO c H a (.fdc kvs) from hS a _ hd) with ⟨o, ks, hf, he, rk⟩ | ⟨o, es, hne, ht, _, hz, hm, he, rk⟩
      · obtain ⟨hs, hgd, hx, es, ep, vs, hdt, hsz, kv, hmm⟩ := I.frzK he
        refine iter_keys hs hgd hx hdt (pi_one (tk := s.toks) I _ (turn_keys (d := a) (o := o) (kvs := ks) _ hdt) ⟨_, Heap.get?_push_size _ rfl, rfl, ?_⟩ (q _ fun H' S' hS' f ok => ?_))
        · rw [hsz] <;> rfl
        · have he' := f.frz a o _ he
          have el := Paired.length rk
          refine ⟨fun i hi => ⟨he', by rw [List.length_map] at hi; omega⟩, fun i d hd => ?_⟩
          rw [List.getElem?_map] at hd
          obtain ⟨p, h1, rfl⟩ := Option.map_eq_some_iff.mp hd
          have hlt := (List.getElem?_eq_some_iff.mp h1).1
          refine ⟨⟨he', by omega⟩, fun x H2 y => ?_⟩
          obtain ⟨rfl, k, v, h2, rfl⟩ := y
          obtain ⟨qq, h3, h4, _⟩ := paired_get rk h1
          rw [h2] at h3
          cases h3
          refine ⟨?_, hS', Fr.refl, ⟨fun _ _ e => e, fun _ _ _ e => e⟩⟩
          rw [show k = p.1.fk from h4]
          exact flat_kV (hf p (List.mem_of_getElem? h1))
      · obtain ⟨ho, arr, ep, x1, x2, x3⟩ := frzKT I he
        have ea : arr.size = es.length := by rw [← Array.length_toList]; exact (Paired.length x3).symm
        refine iter_keys hm ho x1 x2 (pi_one (tk := s.toks) I _ (turn_KT (d := a) (es := es) _ x2 ea) ⟨_, Heap.get?_push_size _ rfl, rfl, rfl⟩ (q _ fun H' S' hS' f ok => ?_))
        have he' := f.frz a o _ he
        have el := Paired.length rk
        refine ⟨fun i hi => ⟨he', by rw [List.length_map] at hi; omega⟩, fun i d hd => ?_⟩
        rw [List.getElem?_map] at hd
        obtain ⟨p, h1, rfl⟩ := Option.map_eq_some_iff.mp hd
        have hlt := (List.getElem?_eq_some_iff.mp h1).1
        refine ⟨⟨he', by omega⟩, fun x H2 y => ?_⟩
        obtain ⟨rfl, k, h2, rfl⟩ := y
        obtain ⟨qq, h3, h4, _⟩ := paired_get rk h1
        rw [h2] at h3
        cases h3
        exact ⟨h4.ext (f.ext hS), hS', Fr.refl, ⟨fun _ _ e => e, fun _ _ _ e => e⟩⟩
    · cases hi
  | _ => cases hi

variable {E : XK} {a b e : Expr} {ta tb te : DTE} {pos p : Pos}
theorem di_over (hK : X.K = c.K) (he : PE X e (lift c E te)) : PI X tg e (liftI c E fun W δ S K => te W δ S fun d S1 => wOver d S1 fun J => K J S1) := by
  refine ⟨fun pins s σ H R I h => ?_⟩
  obtain ⟨δ, S, P, W, hσ, hS, ht, hP, hX⟩ := h
  refine thn (he.run pins s σ H (fun x H1 => ∃ d S1, RepV c H1 d x ∧ RepS c H1 S1 ∧ Fr H S H1 S1 ∧ wOver d S1 fun J => P J S1) I ⟨δ, S, _, W, hσ, hS, ht, fun d S1 v H1 h1 f1 r1 s1 => ⟨d, S1, r1, s1, f1, h1⟩, hX⟩) fun v s1 ⟨x, H1, I1, rx, d, S1, rd, s1', f1, ho⟩ => ?_
  unfold wOver at ho
  split at ho
  · rename_i xs hi
    exact iter_val hK I1 rx rd s1' hi fun J wo => hP _ S1 J H1 ho f1 s1' wo
  · cases ho
theorem walk_rng {H : Hp} {S : Store} (lo hi : Int) : WalkOk c H S (Itr lo (hi - lo).toNat) ⟨(List.range (hi - lo).toNat).map fun k => .int (lo + (k : Nat)), fun _ => True⟩ := fun H' S' hS' f ok => by
  refine ⟨fun i h => ?_, fun i d hd => ?_⟩
  · rw [List.length_map, List.length_range] at h
    exact h
  · rw [List.getElem?_map] at hd
    obtain ⟨k, h1, rfl⟩ := Option.map_eq_some_iff.mp hd
    have hlt := (List.getElem?_eq_some_iff.mp h1).1
    rw [List.length_range] at hlt
    have hk : k = i := by rw [List.getElem?_range hlt] at h1; exact (Option.some.inj h1).symm
    subst hk
    refine ⟨hlt, fun x H2 y => ?_⟩
    obtain ⟨rfl, rfl⟩ := y
    exact ⟨rfl, hS', Fr.refl, ⟨fun _ _ e => e, fun _ _ _ e => e⟩⟩
theorem di_rng (hg : Gl X "range") (hm : X.mg "range" = none) (ha : PE X a (lift c E ta)) (hs : starEach [a] X.env = [(false, eval a X.env)]) (hs0 : starEach [a] X.env = (false, eval a X.env) :: starEach [] X.env) :
    PI X tg (.Call (.Name "range" p) [a] [] pos) (liftI c E fun W δ S K => ta W δ S fun d S1 => asI d fun j => wRng 0 j fun J => K J S1) := by
  have h0 := pi_range1 (tg := tg) (p := p) (pos := pos) hg hm (pa_cons (te := lift c E ta) (t := tNil) ha pa_nil hs0) hs
  refine ⟨fun pins s σ H R I h => h0.run pins s σ H R I ?_⟩
  obtain ⟨δ, S, P, W, hσ, hS, ht, hP, hX⟩ := h
  refine ⟨δ, S, _, W, hσ, hS, ht, fun d S1 v H1 h1 f1 r1 s1 => ?_, hX⟩
  obtain ⟨j, rfl, h1⟩ := asI_int h1
  cases r1
  obtain ⟨_, _, b1, b2, h1⟩ := h1
  have e0 : (j - 0).toNat = j.toNat := by rw [Int.sub_zero]
  refine ⟨j, rfl, by omega, by omega, ?_⟩
  rw [← e0]
  exact hP _ S1 _ H1 h1 f1 s1 (walk_rng 0 j)
theorem di_rng2 (hg : Gl X "range") (hm : X.mg "range" = none) (ha : PE X a (lift c E ta)) (hb : PE X b (lift c E tb)) (hs : starEach [a, b] X.env = [(false, eval a X.env), (false, eval b X.env)]) (hs2 : starEach [b] X.env = [(false, eval b X.env)])
    (hs3 : starEach [a, b] X.env = (false, eval a X.env) :: starEach [b] X.env) (hs4 : starEach [b] X.env = (false, eval b X.env) :: starEach [] X.env) :
    PI X tg (.Call (.Name "range" p) [a, b] [] pos) (liftI c E fun W δ S K => ta W δ S fun x S1 => tb W δ S1 fun y S2 => asI x fun i => asI y fun j => wRng i j fun J => K J S2) := by
  have h0 := pi_range2 (tg := tg) (p := p) (pos := pos) hg hm (pa_cons (te := lift c E ta) ha (pa_cons (te := lift c E tb) (t := tNil) hb pa_nil hs4) hs3) hs hs2
  refine ⟨fun pins s σ H R I h => h0.run pins s σ H R I ?_⟩
  obtain ⟨δ, S, P, W, hσ, hS, ht, hP, hX⟩ := h
  refine ⟨δ, S, _, W, hσ, hS, ht, fun x S1 v H1 h1 f1 r1 s1 => ?_, hX⟩
  refine ⟨δ, S1, _, W, hσ.ext (f1.ext hS), s1, h1, fun y S2 w H2 h2 f2 r2 s2 => ?_, hX.fr f1⟩
  obtain ⟨i, ei, h3⟩ := asI_int h2
  obtain ⟨j, ej, h4⟩ := asI_int h3
  subst ei ej
  cases r1
  cases r2
  obtain ⟨b1, b2, b3, b4, h2⟩ := h4
  exact ⟨i, j, rfl, ⟨by omega, by omega, by omega, by omega⟩, hP _ S2 _ H2 h2 (f1.trans f2) s2 (walk_rng i j)⟩
theorem di_enum {elts : List Expr} {kk : Nat} {tpos : Pos} (hK : X.K = c.K) (hg : Gl X "enumerate") (hm : X.mg "enumerate" = none) (ha : PE X a (lift c E ta)) (hs : starEach [a] X.env = [(false, eval a X.env)]) (hs0 : starEach [a] X.env = (false, eval a X.env) :: starEach [] X.env) :
    PI X (.Tuple elts kk tpos) (.Call (.Name "enumerate" p) [a] [] pos) (liftI c E fun W δ S K => ta W δ S fun d S1 => wEnum d S1 fun J => K J S1) := by
  have h0 := pi_enum (elts := elts) (kk := kk) (tpos := tpos) (p := p) (pos := pos) hg hm (pa_cons (te := lift c E ta) (t := tNil) ha pa_nil hs0) hs
  refine ⟨fun pins s σ H R I h => h0.run pins s σ H R I ?_⟩
  obtain ⟨δ, S, P, W, hσ, hS, ht, hP, hX⟩ := h
  refine ⟨δ, S, _, W, hσ, hS, ht, fun d S1 v H1 h1 f1 r1 s1 => ?_, hX⟩
  unfold wEnum at h1
  simp only at h1
  split at h1
  · rename_i a
    split at h1
    · rename_i xs hd
      cases r1
      obtain ⟨vs, hv, rv⟩ := s1.lst hd
      refine ⟨a, vs, rfl, .inl (.of hv), hP _ S1 _ H1 h1 f1 s1 fun H' S' hS' f ok => ?_⟩
      have ok' : S' a = S1 a := ok
      rw [hd] at ok'
      obtain ⟨vs2, hv2, rl⟩ := hS'.lst ok'
      have hq' : SqL X.K H' a vs2 := .inl (.of hv2)
      refine ⟨fun i hi => ⟨vs2, hq', by rw [List.length_map, List.length_range] at hi; rw [← rl.length]; exact hi⟩, fun i d hd => ?_⟩
      rw [List.getElem?_map] at hd
      obtain ⟨k, h1, rfl⟩ := Option.map_eq_some_iff.mp hd
      have hlt := (List.getElem?_eq_some_iff.mp h1).1
      rw [List.length_range] at hlt
      have hk : k = i := by rw [List.getElem?_range hlt] at h1; exact (Option.some.inj h1).symm
      subst hk
      obtain ⟨v, hv, r⟩ := rl.get (List.getElem?_eq_getElem hlt)
      refine ⟨⟨vs2, v, hq', hv⟩, fun x H2 y => ?_⟩
      obtain ⟨T, x', rfl, hT, rfl, y⟩ := y
      have e := y vs2 hq'
      rw [hv] at e
      cases e
      obtain ⟨s2, f2⟩ := hS'.laid (u := .tup [.int (k : Nat), v]) hT
      refine ⟨⟨T, [.int (k : Nat), v], rfl, upd_same, RepL.cons rfl (RepL.cons ?_ RepL.nil)⟩, s2, f2, f2.ext hS'⟩
      rw [List.getD_eq_getElem?_getD, List.getElem?_eq_getElem hlt]
      exact r.ext (f2.ext hS')
    · cases h1
  · cases h1
end
end Nf
set_option Elab.async false
set_option linter.all false
set_option maxRecDepth 100000
set_option maxHeartbeats 2000000
/-! NfRule: the rules, lifted. -/
namespace Nf
open PySem PySem.Spec L2
open PyProof.Rows hiding St
section
variable {c : Cfg} {X : Cx} {E : XK} {a b d e : Expr} {es rest : List Expr} {ta tb tc te : DTE} {pos : Pos}
theorem asB_bl {x : D} {k : Bool → Prop} (h : asB x k) : ∃ b, x = .bl b ∧ k b := by
  unfold asB at h
  split at h
  · exact ⟨_, rfl, h⟩
  · cases h
theorem liftT_of {t : TT} {td : DTE} (h : PT X e t) (i : ∀ σ H Q, lift c E td σ H (fun x H1 => ∃ k, x = .bl k ∧ Q k H1) → t σ H Q) : PT X e (liftT c E td) := h.imp fun σ H Q q => i σ H Q (by
  obtain ⟨δ, S, P, W, hσ, hS, ht, hP, hX⟩ := q
  refine ⟨δ, S, _, W, hσ, hS, ht, fun x S1 v H1 h1 f1 r1 s1 => ?_, hX⟩
  obtain ⟨k, ek, h1⟩ := asB_bl h1
  subst ek
  cases r1
  exact ⟨k, rfl, hP _ S1 H1 h1 f1 s1⟩)
theorem dt_val (h : PE X e (lift c E te)) (he : ∀ whole, isTrue e X.env whole = (do let v ← whole; standAt e.pos; holding [v] (truthy v))) : PT X e (liftT c E te) := liftT_of (pt_val h he) fun _ _ _ q => q
theorem dt_cmp {op : CmpOp} {rd : DR2} (ho : OpR X (compareOp op) (liftR2 c rd)) (ha : PE X a (lift c E ta)) (hb : PE X b (lift c E tb)) (hm : behindInMarks op b = false) :
    PT X (.Compare a [op] [b] pos) (liftT c E fun W δ S Q => ta W δ S fun x S1 => tb W δ S1 fun y S2 => rd x y S2 Q) := liftT_of (pt_cmpR ho ha hb hm) fun σ H Q h => by
  obtain ⟨δ, S, P, W, hσ, hS, ht, hP, hX⟩ := h
  refine ⟨δ, S, _, W, hσ, hS, ht, fun x S1 xv H1 h1 f1 r1 s1 => ?_, hX⟩
  refine ⟨δ, S1, _, W, hσ.ext (f1.ext hS), s1, h1, fun y S2 yv H2 h2 f2 r2 s2 => ?_, hX.fr f1⟩
  exact ⟨x, y, S2, P, r1.ext (f2.ext s1), r2, s2, h2, hP.fr (f1.trans f2)⟩
/-- one link of a chain, then the next -/
abbrev dChain (r1 r2 : DR2) (ta tb tc : DTE) : DTE := fun W δ S Q => ta W δ S fun x S1 => tb W δ S1 fun y S2 => r1 x y S2 fun k S3 => asB k fun k => if k then tc W δ S3 fun z S4 => r2 y z S4 Q else Q (.bl false) S3
theorem chain_imp {r1 r2 : DR2} {σ : L2.St} {H : Hp} {Q : VK} (h : lift c E (dChain r1 r2 ta tb tc) σ H Q) : tChain (liftR2 c r1) (liftR2 c r2) (lift c E ta) (lift c E tb) (lift c E tc) σ H Q := by
  obtain ⟨δ, S, P, W, hσ, hS, ht, hP, hX⟩ := h
  refine ⟨δ, S, _, W, hσ, hS, ht, fun x S1 xv H1 h1 f1 r1 s1 => ?_, hX⟩
  refine ⟨δ, S1, _, W, hσ.ext (f1.ext hS), s1, h1, fun y S2 yv H2 h2 f2 r2 s2 => ?_, hX.fr f1⟩
  refine ⟨x, y, S2, _, r1.ext (f2.ext s1), r2, s2, h2, fun k S3 kv H3 h3 f3 r3 s3 => ?_⟩
  obtain ⟨k, ek, h3⟩ := asB_bl h3
  subst ek
  cases r3
  refine ⟨k, rfl, ?_⟩
  have f := f1.trans (f2.trans f3)
  cases k with
  | false => exact hP _ S3 _ H3 h3 f rfl s3
  | true =>
    refine ⟨δ, S3, _, W, hσ.ext (f.ext hS), s3, h3, fun z S4 zv H4 h4 f4 r4 s4 => ?_, hX.fr f⟩
    exact ⟨y, z, S4, P, r2.ext ((f3.trans f4).ext s2), r4, s4, h4, hP.fr (f.trans f4)⟩
theorem de_chain {op op' : CmpOp} {r1 r2 : DR2} (ho : OpR X (compareOp op) (liftR2 c r1)) (ho' : OpR X (compareOp op') (liftR2 c r2)) (ha : PE X a (lift c E ta)) (hb : PE X b (lift c E tb)) (hc : PE X d (lift c E tc)) (hm : lastMarks [op, op'] [b, d] = false) :
    PE X (.Compare a [op, op'] [b, d] pos) (lift c E (dChain r1 r2 ta tb tc)) := (pe_chain ho ho' ha hb hc hm).imp fun _ _ _ h => chain_imp h
theorem dt_chain {op op' : CmpOp} {r1 r2 : DR2} (ho : OpR X (compareOp op) (liftR2 c r1)) (ho' : OpR X (compareOp op') (liftR2 c r2)) (ha : PE X a (lift c E ta)) (hb : PE X b (lift c E tb)) (hc : PE X d (lift c E tc)) (hm : lastMarks [op, op'] [b, d] = false) :
    PT X (.Compare a [op, op'] [b, d] pos) (liftT c E (dChain r1 r2 ta tb tc)) := liftT_of (pt_chain ho ho' ha hb hc hm) fun _ _ _ h => chain_imp h

/-! ### and, or, not, if -/
abbrev dAnd (ta tb : DTE) : DTE := fun W δ S Q => ta W δ S fun x S1 => asB x fun k => if k then tb W δ S1 Q else Q (.bl false) S1
abbrev dOr (ta tb : DTE) : DTE := fun W δ S Q => ta W δ S fun x S1 => asB x fun k => if k then Q (.bl true) S1 else tb W δ S1 Q
abbrev dNot (ta : DTE) : DTE := fun W δ S Q => ta W δ S fun x S1 => asB x fun k => Q (.bl (!k)) S1
theorem _root_.L2.PW.imp {X : Cx} {e : Expr} {t t' : TT} (h : PW X e t) (i : ∀ σ H Q, t' σ H Q → t σ H Q) : PW X e t' := ⟨fun wh pins s σ H Q I q => h.run wh pins s σ H Q I (i σ H Q q)⟩
theorem dw_and1 (ha : PT X a (liftT c E ta)) : PW X (.BoolOp .And [a] pos) (liftT c E ta) := pw_and1 ha
theorem dw_or1 (ha : PT X a (liftT c E ta)) : PW X (.BoolOp .Or [a] pos) (liftT c E ta) := pw_or1 ha
theorem dw_and (ha : PT X a (liftT c E ta)) (hb : PW X (.BoolOp .And (b :: rest) pos) (liftT c E tb)) : PW X (.BoolOp .And (a :: b :: rest) pos) (liftT c E (dAnd ta tb)) := by
  refine (pw_and ha hb).imp fun σ H Q h => ?_
  obtain ⟨δ, S, P, W, hσ, hS, ht, hP, hX⟩ := h
  refine ⟨δ, S, _, W, hσ, hS, ht, fun k S1 H1 h1 f1 s1 => ?_, hX⟩
  cases k with
  | true => exact ⟨δ, S1, P, W, hσ.ext (f1.ext hS), s1, h1, hP.fr f1, hX.fr f1⟩
  | false => exact hP _ S1 H1 h1 f1 s1
theorem dw_or (ha : PT X a (liftT c E ta)) (hb : PW X (.BoolOp .Or (b :: rest) pos) (liftT c E tb)) : PW X (.BoolOp .Or (a :: b :: rest) pos) (liftT c E (dOr ta tb)) := by
  refine (pw_or ha hb).imp fun σ H Q h => ?_
  obtain ⟨δ, S, P, W, hσ, hS, ht, hP, hX⟩ := h
  refine ⟨δ, S, _, W, hσ, hS, ht, fun k S1 H1 h1 f1 s1 => ?_, hX⟩
  cases k with
  | false => exact ⟨δ, S1, P, W, hσ.ext (f1.ext hS), s1, h1, hP.fr f1, hX.fr f1⟩
  | true => exact hP _ S1 H1 h1 f1 s1
theorem dt_not (ha : PT X a (liftT c E ta)) : PT X (.UnaryOp .Not a pos) (liftT c E (dNot ta)) := by
  refine (pt_not ha).imp fun σ H Q h => ?_
  obtain ⟨δ, S, P, W, hσ, hS, ht, hP, hX⟩ := h
  exact ⟨δ, S, _, W, hσ, hS, ht, fun k S1 H1 h1 f1 s1 => hP _ S1 H1 h1 f1 s1, hX⟩
theorem de_one {op} (ha : PE X a (lift c E ta)) : PE X (.BoolOp op [a] pos) (lift c E ta) := pe_one ha
theorem de_and (ha : PE X a (lift c E ta)) (hb : PE X (.BoolOp .And (b :: rest) pos) (lift c E tb)) : PE X (.BoolOp .And (a :: b :: rest) pos) (lift c E (dAnd ta tb)) := by
  refine (pe_and ha hb).imp fun σ H Q h => ?_
  obtain ⟨δ, S, P, W, hσ, hS, ht, hP, hX⟩ := h
  refine ⟨δ, S, _, W, hσ, hS, ht, fun x S1 v H1 h1 f1 r1 s1 => ?_, hX⟩
  obtain ⟨k, ek, h1⟩ := asB_bl h1
  subst ek
  cases r1
  refine ⟨k, rfl, ?_⟩
  cases k with
  | true => exact ⟨δ, S1, P, W, hσ.ext (f1.ext hS), s1, h1, hP.fr f1, hX.fr f1⟩
  | false => exact hP _ S1 _ H1 h1 f1 rfl s1
theorem de_or (ha : PE X a (lift c E ta)) (hb : PE X (.BoolOp .Or (b :: rest) pos) (lift c E tb)) : PE X (.BoolOp .Or (a :: b :: rest) pos) (lift c E (dOr ta tb)) := by
  refine (pe_or ha hb).imp fun σ H Q h => ?_
  obtain ⟨δ, S, P, W, hσ, hS, ht, hP, hX⟩ := h
  refine ⟨δ, S, _, W, hσ, hS, ht, fun x S1 v H1 h1 f1 r1 s1 => ?_, hX⟩
  obtain ⟨k, ek, h1⟩ := asB_bl h1
  subst ek
  cases r1
  refine ⟨k, rfl, ?_⟩
  cases k with
  | false => exact ⟨δ, S1, P, W, hσ.ext (f1.ext hS), s1, h1, hP.fr f1, hX.fr f1⟩
  | true => exact hP _ S1 _ H1 h1 f1 rfl s1
theorem de_not (ha : PE X a (lift c E ta)) : PE X (.UnaryOp .Not a pos) (lift c E (dNot ta)) := by
  refine (pe_not ha).imp fun σ H Q h => ?_
  obtain ⟨δ, S, P, W, hσ, hS, ht, hP, hX⟩ := h
  refine ⟨δ, S, _, W, hσ, hS, ht, fun x S1 v H1 h1 f1 r1 s1 => ?_, hX⟩
  obtain ⟨k, ek, h1⟩ := asB_bl h1
  subst ek
  cases r1
  exact ⟨k, rfl, hP _ S1 _ H1 h1 f1 rfl s1⟩
theorem de_neg (ha : PE X a (lift c E ta)) : PE X (.UnaryOp .USub a pos) (lift c E fun W δ S Q => ta W δ S fun x S1 => asI x fun i => Q (.int (-i)) S1) := by
  refine (pe_un un_neg ha).imp fun σ H Q h => ?_
  obtain ⟨δ, S, P, W, hσ, hS, ht, hP, hX⟩ := h
  refine ⟨δ, S, _, W, hσ, hS, ht, fun x S1 v H1 h1 f1 r1 s1 => ?_, hX⟩
  obtain ⟨i, ei, h1⟩ := asI_int h1
  subst ei
  cases r1
  exact ⟨i, rfl, hP _ S1 _ H1 h1 f1 rfl s1⟩
theorem de_ife (hc : PT X d (liftT c E tc)) (ha : PE X a (lift c E ta)) (hb : PE X b (lift c E tb)) : PE X (.IfExp d a b pos) (lift c E fun W δ S Q => tc W δ S fun x S1 => asB x fun k => if k then ta W δ S1 Q else tb W δ S1 Q) := by
  refine (pe_ifExp hc ha hb).imp fun σ H Q h => ?_
  obtain ⟨δ, S, P, W, hσ, hS, ht, hP, hX⟩ := h
  refine ⟨δ, S, _, W, hσ, hS, ht, fun k S1 H1 h1 f1 s1 => ?_, hX⟩
  cases k with
  | true => exact ⟨δ, S1, P, W, hσ.ext (f1.ext hS), s1, h1, hP.fr f1, hX.fr f1⟩
  | false => exact ⟨δ, S1, P, W, hσ.ext (f1.ext hS), s1, h1, hP.fr f1, hX.fr f1⟩

/-! ### subscripts -/
theorem de_ix {rd : DR2} (hr : IxR X (liftR2 c rd)) (ha : PE X a (lift c E ta)) (hb : PE X b (lift c E tb)) (hs : PlainIx b) :
    PE X (.Subscript a b pos) (lift c E fun W δ S Q => ta W δ S fun x S1 => tb W δ S1 fun y S2 => rd x y S2 Q) := by
  refine (pe_ix hr ha hb hs).imp fun σ H Q h => ?_
  obtain ⟨δ, S, P, W, hσ, hS, ht, hP, hX⟩ := h
  refine ⟨δ, S, _, W, hσ, hS, ht, fun x S1 xv H1 h1 f1 r1 s1 => ?_, hX⟩
  refine ⟨δ, S1, _, W, hσ.ext (f1.ext hS), s1, h1, fun y S2 yv H2 h2 f2 r2 s2 => ?_, hX.fr f1⟩
  exact ⟨x, y, S2, P, r1.ext (f2.ext s1), r2, s2, h2, hP.fr (f1.trans f2)⟩
/-- a part of a slice -/
abbrev DTO := DE → DSt → Store → (Option D → Store → Prop) → Prop
def liftO (c : Cfg) (E : XK) (t : DTO) : TO := fun σ H Q => ∃ δ S P W, RepSt c H δ σ ∧ RepS c H S ∧ t W δ S P ∧ (∀ o S' H', P (o.map D.int) S' → Fr H S H' S' → RepS c H' S' → Q o H') ∧ PostX c H S W E
theorem do_none : PO X none (liftO c E fun W δ S Q => Q none S) := ⟨fun pins s σ H Q I h => po_none.run pins s σ H Q I (by
  obtain ⟨δ, S, P, W, hσ, hS, ht, hP, hX⟩ := h
  exact hP none S H ht Fr.refl hS)⟩
theorem do_some (h : PE X e (lift c E te)) : PO X (some e) (liftO c E fun W δ S Q => te W δ S fun x S1 => asI x fun i => Q (some (.int i)) S1) := ⟨fun pins s σ H Q I q => (po_some h).run pins s σ H Q I (by
  obtain ⟨δ, S, P, W, hσ, hS, ht, hP, hX⟩ := q
  refine ⟨δ, S, _, W, hσ, hS, ht, fun x S1 v H1 h1 f1 r1 s1 => ?_, hX⟩
  obtain ⟨i, ei, h1⟩ := asI_int h1
  subst ei
  cases r1
  exact ⟨i, rfl, hP (some i) S1 H1 h1 f1 s1⟩)⟩
theorem de_slc {lo hi : Option Expr} {tl th : DTO} {p2 : Pos} (hK : X.K = c.K) (he : PE X e (lift c E te)) (hl : PO X lo (liftO c E tl)) (hu : PO X hi (liftO c E th)) :
    PE X (.Subscript e (.Slice lo hi none p2) pos) (lift c E fun W δ S Q => te W δ S fun x S1 => tl W δ S1 fun l S2 => th W δ S2 fun u S3 => rSlc x l u S3 Q) := by
  refine ⟨fun pins s σ H Q I h => ?_⟩
  obtain ⟨δ, S, P, W, hσ, hS, ht, hP, hX⟩ := h
  have sr : SlR X fun x lo hi H Q => ∃ d S P, RepV c H d x ∧ RepS c H S ∧ rSlc d (lo.map D.int) (hi.map D.int) S P ∧ Post c H S P Q := by
    intro pins s σ H x v vl vu lo hi sl Q I rx hs pl pu ⟨d, S, P, r, hS, h, hP⟩
    exact opSlc hK d P S pins s σ H x v vl vu lo hi sl Q I rx hs pl pu ⟨r, hS, h, hP⟩
  refine (pe_slice sr he hl hu).run pins s σ H Q I ?_
  refine ⟨δ, S, _, W, hσ, hS, ht, fun x S1 xv H1 h1 f1 r1 s1 => ?_, hX⟩
  refine ⟨δ, S1, _, W, hσ.ext (f1.ext hS), s1, h1, fun l S2 H2 h2 f2 s2 => ?_, hX.fr f1⟩
  have f12 := f1.trans f2
  refine ⟨δ, S2, _, W, hσ.ext (f12.ext hS), s2, h2, fun u S3 H3 h3 f3 s3 => ?_, hX.fr f12⟩
  exact ⟨x, S3, P, r1.ext ((f2.trans f3).ext s1), s3, h3, hP.fr (f12.trans f3)⟩
theorem de_rev {k : Nat} {p1 p2 p3 : Pos} (he : PE X e (lift c E te)) : PE X (.Subscript e (.Slice none none (some (.UnaryOp .USub (.Constant (.int 1) k p1) p2)) p3) pos) (lift c E fun W δ S Q => te W δ S fun x S1 => rRev x S1 Q) := by
  refine (pe_revL he).imp fun σ H Q h => ?_
  obtain ⟨δ, S, P, W, hσ, hS, ht, hP, hX⟩ := h
  refine ⟨δ, S, _, W, hσ, hS, ht, fun x S1 v H1 h1 f1 r1 s1 => ?_, hX⟩
  unfold rRev at h1
  simp only at h1
  split at h1
  · split at h1
    · rename_i ds hd
      cases r1
      obtain ⟨vs, hv, rv⟩ := s1.lst hd
      exact ⟨_, vs, rfl, .inl (.of hv), new_lst s1 rv.reverse h1 (hP.fr f1)⟩
    · cases h1
  · cases h1

/-! ### attributes -/
theorem repF_look {H : Hp} {fs : List (String × D)} {fv : List (Str × V)} (r : RepF c H fs fv) (f : String) : (fs.lookup f = none ∧ fv.lookup (os f) = none) ∨ ∃ d v, fs.lookup f = some d ∧ fv.lookup (os f) = some v ∧ RepV c H d v := by
  unfold RepF at r
  induction r with
  | nil => exact .inl ⟨rfl, rfl⟩
  | @cons p q ps qs h t ih =>
    obtain ⟨g, d⟩ := p
    obtain ⟨g', v⟩ := q
    obtain ⟨e, rv⟩ := h
    simp only at e rv
    subst e
    by_cases hf : f = g
    · subst hf
      exact .inr ⟨d, v, by simp [List.lookup], by simp [List.lookup], rv⟩
    · have h1 : (f == g) = false := by simpa using hf
      have h2 : (os f == os g) = false := by rw [os_beq]; exact h1
      simp only [List.lookup, h1, h2]
      exact ih
theorem repF_put {H : Hp} {fs : List (String × D)} {fv : List (Str × V)} (r : RepF c H fs fv) (f : String) {d : D} {v : V} (rd : RepV c H d v) : RepF c H (Nf.putF f d fs) (L2.putF (os f) v fv) := by
  unfold RepF at r ⊢
  induction r with
  | nil => exact .cons ⟨rfl, rd⟩ .nil
  | @cons p q ps qs h t ih =>
    obtain ⟨g, d'⟩ := p
    obtain ⟨g', v'⟩ := q
    obtain ⟨e, rv⟩ := h
    simp only at e rv
    subst e
    by_cases hf : g = f
    · subst hf
      have e1 : Nf.putF g d ((g, d') :: ps) = (g, d) :: ps := by simp [Nf.putF]
      have e2 : L2.putF (os g) v ((os g, v') :: qs) = (os g, v) :: qs := by simp [L2.putF]
      rw [e1, e2]
      exact .cons ⟨rfl, rd⟩ t
    · have e1 : Nf.putF f d ((g, d') :: ps) = (g, d') :: Nf.putF f d ps := by simp [Nf.putF, hf]
      have h2 : ¬ os g = os f := fun z => hf (os_inj z)
      have e2 : L2.putF (os f) v ((os g, v') :: qs) = (os g, v') :: L2.putF (os f) v qs := by simp [L2.putF, h2]
      rw [e1, e2]
      exact .cons ⟨rfl, rv⟩ ih
/-- the classes' facts -/
def ClsOk (c : Cfg) (K : PySem.W.Frag) : Prop := ∀ x ∈ c.classes, Cls K (He.ga c.K (os x)) ∧ ∀ f ∈ c.fields, NoAttr K (He.ga c.K (os x)) (os f)
theorem lookup_mem {fs : List (String × D)} {f : String} {d : D} (h : fs.lookup f = some d) : (f, d) ∈ fs := by
  induction fs with
  | nil => cases h
  | cons p r ih =>
    obtain ⟨g, x⟩ := p
    by_cases e : f = g
    · subst e
      simp [List.lookup] at h
      subst h
      exact List.mem_cons_self
    · have h1 : (f == g) = false := by simpa using e
      simp only [List.lookup, h1] at h
      exact List.mem_cons_of_mem _ (ih h)
theorem de_attr {f : String} (hc : ClsOk c X.K) (he : PE X e (lift c E te)) (hb : attributeBase e (os f) X.env (eval e X.env) = eval e X.env) : PE X (.Attribute e (os f) pos) (lift c E fun W δ S Q => te W δ S fun x S1 => rAttr x f S1 Q) := by
  refine (pe_fld he hb).imp fun σ H Q h => ?_
  obtain ⟨δ, S, P, W, hσ, hS, ht, hP, hX⟩ := h
  refine ⟨δ, S, _, W, hσ, hS, ht, fun x S1 v H1 h1 f1 r1 s1 => ?_, hX⟩
  unfold rAttr at h1
  simp only at h1
  split at h1
  · split at h1
    · rename_i cl fs hd
      split at h1
      · rename_i w hw
        cases r1
        obtain ⟨hx, hf, dx, fv, hv, rf⟩ := s1.ins hd
        rcases repF_look rf f with ⟨e1, _⟩ | ⟨d, v, e1, e2, rv⟩
        · rw [hw] at e1; cases e1
        · rw [hw] at e1; cases e1
          exact ⟨_, _, dx, fv, v, rfl, hv, (hc _ hx).1, (hc _ hx).2 f (hf _ (lookup_mem hw)), e2, hP _ S1 _ H1 h1 f1 rv s1⟩
      · cases h1
    · cases h1
  · cases h1
end
end Nf
set_option Elab.async false
set_option linter.all false
set_option maxRecDepth 100000
set_option maxHeartbeats 2000000
/-! NfRule2: calls, comprehensions, locks, statements, lifted. -/
namespace Nf
open PySem PySem.Spec L2
open PyProof.Rows hiding St

/-! ### shapes -/
def notStar : Expr → Bool
  | .Starred .. => false
  | _ => true
theorem star_cons {e : Expr} {es : List Expr} {env : Env} (h : notStar e = true) : starEach (e :: es) env = (false, eval e env) :: starEach es env := by
  cases e <;> first | rfl | cases h
theorem star_all {env : Env} : ∀ {es : List Expr}, es.all notStar = true → ∀ x ∈ starEach es env, x.1 = false
  | [], _, x, hx => by cases hx
  | e :: es, h, x, hx => by
    rw [List.all_cons, Bool.and_eq_true] at h
    rw [star_cons h.1] at hx
    rcases List.mem_cons.mp hx with rfl | hx
    · rfl
    · exact star_all h.2 x hx
theorem back_any {pos : Pos} {l : List (Bool × Sem Value)} (h : ∀ x ∈ l, x.1 = false) : (backTo pos l).any (·.1) = false := by
  unfold backTo
  rw [List.any_map, List.any_eq_false]
  intro x hx
  obtain ⟨b, t⟩ := x
  have := h _ hx
  simpa using this
theorem back_all {pos : Pos} {l : List (Bool × Sem Value)} (h : ∀ x ∈ l, x.1 = false) : (backTo pos l).all (fun x => !x.1) = true := by
  unfold backTo
  rw [List.all_map, List.all_eq_true]
  intro x hx
  obtain ⟨b, t⟩ := x
  have := h _ hx
  simpa using this
/-- what stands ahead of a dot -/
def baseOk : Expr → Bool
  | .Call (.Name ..) [] [] _ => false
  | _ => true
theorem base_of {e : Expr} {f : Str} {env : Env} {w : Sem Value} (h : baseOk e = true) : attributeBase e f env w = w := by
  unfold attributeBase
  split
  · cases h
  · rfl
theorem form_of {env : Env} {es : List Expr} {pos : Pos} (h : es.all notStar = true) (hl : es.length < 30) : methodCallForm (es.length + ([] : List Keyword).length) (backTo pos (starEach es env)) (backToKw pos (keywordEach [] env)) = true := by
  unfold methodCallForm
  rw [back_all (star_all h)]
  simp [keywordEach, backToKw, hl]
theorem meth_shape {env : Env} {o : Expr} {m : Str} {apos pos : Pos} {es : List Expr} (hb : attributeBase o m env (eval o env) = eval o env) (h : es.all notStar = true) (hl : es.length < 30) (hline : (apos.endLine == pos.line) = true) :
    eval (.Call (.Attribute o m apos) es [] pos) env = (do
      let ov ← eval o env
      standAt apos.atName
      let (f, first) ← holding [ov] (getMethod ov m (do return (← importBound o env).getD true))
      callWith pos f first (backTo pos (starEach es env)) (backToKw pos (keywordEach [] env))) := by
  rw [arm_eval_Call, hb]
  unfold methodCall
  rw [form_of h hl]
  unfold calleeOf methodCallPos
  simp [hline]

section
variable {c : Cfg} {X : Cx} {E : XK} {a b d e o : Expr} {es rest : List Expr} {ta tb tc te : DTE} {t : DTA} {p pos apos : Pos}
/-- a def's promise, lifted -/
abbrev DSp := List D → Store → DQ → DE → Prop
def liftSp (c : Cfg) (f : DSp) : Sp := fun vs H Q E => ∃ ds S P W, RepL c H ds vs ∧ RepS c H S ∧ f ds S P W ∧ Post c H S P Q ∧ PostX c H S W E
theorem call_imp {f : DSp} {σ : L2.St} {H : Hp} {Q : VK} (h : lift c E (fun W δ S Q => t W δ S fun ds S1 => f ds S1 Q W) σ H Q) : tCall (liftSp c f) [] E (liftA c E t) σ H Q := by
  obtain ⟨δ, S, P, W, hσ, hS, ht, hP, hX⟩ := h
  exact ⟨δ, S, _, W, hσ, hS, ht, fun ds S1 vs H1 h1 f1 r1 s1 => ⟨ds, S1, P, W, by rw [List.append_nil]; exact r1, s1, h1, hP.fr f1, hX.fr f1⟩, hX⟩
theorem de_call {f : DSp} {k : Nat} {g : Addr} {fd : FuncData} {ps : List Str} {x : Str} (F : FnOk X.prog X.w X.K X.mg X.base (L2.CX X.prog X.w) k g fd ps (liftSp c f)) (hr : Room k X.A) (hg : Gl X x) (hm : X.mg x = some (.ref g)) (hk : PySem.W.keepIn X.K (.ref g) = true)
    (hb : Binds X.K fd ps []) (hx : Passes (L2.CX X.prog X.w) X E) (ha : PA X (e :: es) (liftA c E t)) (hdb : (x == ("__debug__" : Str)) = false) (hst : (e :: es).all notStar = true) :
    PE X (.Call (.Name x p) (e :: es) [] pos) (lift c E fun W δ S Q => t W δ S fun ds S1 => f ds S1 Q W) := by
  rw [List.all_cons, Bool.and_eq_true] at hst
  exact (pe_call (dvs := []) (ds := []) F hr hg hm hk hb .nil hx ha hdb (star_cons hst.1) (back_any (star_all hst.2))).imp fun σ H Q h => call_imp h
theorem nil_imp {f : DSp} {σ : L2.St} {H : Hp} {Q : VK} (h : lift c E (fun W δ S Q => f [] S Q W) σ H Q) : liftSp c f [] H Q E := by
  obtain ⟨δ, S, P, W, hσ, hS, ht, hP, hX⟩ := h
  exact ⟨[], S, P, W, RepL.nil, hS, ht, hP, hX⟩
theorem de_call0 {f : DSp} {k : Nat} {g : Addr} {fd : FuncData} {ps : List Str} {x : Str} (F : FnOk X.prog X.w X.K X.mg X.base (L2.CX X.prog X.w) k g fd ps (liftSp c f)) (hr : Room k X.A) (hg : Gl X x) (hm : X.mg x = some (.ref g)) (hk : PySem.W.keepIn X.K (.ref g) = true)
    (hb : Binds X.K fd ps []) (hx : Passes (L2.CX X.prog X.w) X E) (hdb : (x == ("__debug__" : Str)) = false) :
    PE X (.Call (.Name x p) [] [] pos) (lift c E fun W δ S Q => f [] S Q W) :=
  (pe_call0 (dvs := []) (ds := []) F hr hg hm hk hb .nil hx hdb).imp fun σ H Q h => nil_imp h
/-- o.m(..) -/
abbrev dMeth (cl m : String) (f : DSp) (te : DTE) (t : DTA) : DTE := fun W δ S Q => te W δ S fun d S1 => match d with
    | .ref a => (match S1 a with
      | some (.ins c fs) => c = cl ∧ fs.lookup m = none ∧ t W δ S1 fun ds S2 => f (.ref a :: ds) S2 Q W
      | _ => False)
    | _ => False
theorem meth_imp {cl m : String} {f : DSp} {σ : L2.St} {H : Hp} {Q : VK} (h : lift c E (dMeth cl m f te t) σ H Q) : tMeth (He.ga c.K (os cl)) (os m) (liftSp c f) [] E (lift c E te) (liftA c E t) σ H Q := by
  obtain ⟨δ, S, P, W, hσ, hS, ht, hP, hX⟩ := h
  refine ⟨δ, S, _, W, hσ, hS, ht, fun x S1 v H1 h1 f1 r1 s1 => ?_, hX⟩
  simp only at h1
  split at h1
  · rename_i a
    split at h1
    · rename_i cl' fs hd
      obtain ⟨rfl, hl, h1⟩ := h1
      cases r1
      obtain ⟨hx, hf, dx, fv, hv, rf⟩ := s1.ins hd
      have hl2 : fv.lookup (os m) = none := by
        rcases repF_look rf m with ⟨_, e2⟩ | ⟨d, v, e1, _⟩
        · exact e2
        · rw [hl] at e1; cases e1
      refine ⟨a, dx, fv, rfl, hv, hl2, δ, S1, _, W, hσ.ext (f1.ext hS), s1, h1, fun ds S2 vs H2 h2 f2 r2 s2 => ?_, hX.fr f1⟩
      have f12 := f1.trans f2
      exact ⟨.ref a :: ds, S2, P, W, by rw [List.append_nil]; exact RepL.cons rfl r2, s2, h2, hP.fr f12, hX.fr f12⟩
    · cases h1
  · cases h1
theorem de_meth {cl m : String} {f : DSp} {k : Nat} {g : Addr} {fd : FuncData} {ps : List Str} (he : PE X o (lift c E te)) (hc : Cls X.K (He.ga c.K (os cl))) (hm : Meth X.K (He.ga c.K (os cl)) (os m) g) (F : FnOk X.prog X.w X.K X.mg X.base (L2.CX X.prog X.w) k g fd ps (liftSp c f)) (hr : Room k X.A)
    (hb : Binds X.K fd ps []) (hx : Passes (L2.CX X.prog X.w) X E) (ha : PA X (e :: es) (liftA c E t)) (hba : baseOk o = true) (hst : (e :: es).all notStar = true) (hlen : (e :: es).length < 30) (hline : (apos.endLine == pos.line) = true) :
    PE X (.Call (.Attribute o (os m) apos) (e :: es) [] pos) (lift c E (dMeth cl m f te t)) := by
  have sh := meth_shape (env := X.env) (m := os m) (base_of hba) hst hlen hline
  rw [List.all_cons, Bool.and_eq_true] at hst
  exact (pe_meth (dvs := []) (ds := []) he hc hm F hr hb .nil hx ha (star_cons hst.1) (back_any (star_all hst.2)) sh).imp fun σ H Q h => meth_imp h
theorem de_meth0 {cl m : String} {f : DSp} {k : Nat} {g : Addr} {fd : FuncData} {ps : List Str} (he : PE X o (lift c E te)) (hc : Cls X.K (He.ga c.K (os cl))) (hm : Meth X.K (He.ga c.K (os cl)) (os m) g) (F : FnOk X.prog X.w X.K X.mg X.base (L2.CX X.prog X.w) k g fd ps (liftSp c f)) (hr : Room k X.A)
    (hb : Binds X.K fd ps []) (hx : Passes (L2.CX X.prog X.w) X E) (hba : baseOk o = true) (hline : (apos.endLine == pos.line) = true) :
    PE X (.Call (.Attribute o (os m) apos) [] [] pos) (lift c E (dMeth cl m f te fun W δ S Q => Q [] S)) := by
  have sh := meth_shape (env := X.env) (m := os m) (apos := apos) (pos := pos) (es := []) (base_of hba) rfl (by decide) hline
  refine (pe_meth0 (dvs := []) (ds := []) he hc hm F hr hb .nil hx sh).imp fun σ H Q h => ?_
  obtain ⟨δ, S, P, W, hσ, hS, ht, hP, hX⟩ := h
  refine ⟨δ, S, _, W, hσ, hS, ht, fun x S1 v H1 h1 f1 r1 s1 => ?_, hX⟩
  simp only at h1
  split at h1
  · rename_i a
    split at h1
    · rename_i cl' fs hd
      obtain ⟨rfl, hl, h1⟩ := h1
      cases r1
      obtain ⟨hx, hf, dx, fv, hv, rf⟩ := s1.ins hd
      have hl2 : fv.lookup (os m) = none := by
        rcases repF_look rf m with ⟨_, e2⟩ | ⟨d, v, e1, _⟩
        · exact e2
        · rw [hl] at e1; cases e1
      exact ⟨a, dx, fv, rfl, hv, hl2, [.ref a], S1, P, W, RepL.cons rfl RepL.nil, s1, h1, hP.fr f1, hX.fr f1⟩
    · cases h1
  · cases h1
/-- C(..) -/
abbrev dMake (cl : String) (f : DSp) (t : DTA) : DTE := fun W δ S Q => t W δ S fun ds S1 => ∀ p, S1 p = none → f (.ref p :: ds) (put S1 p (.ins cl [])) (fun d S2 => d = .non ∧ Q (.ref p) S2) W
theorem make_imp {cl : String} {f : DSp} {ds : List D} {S : Store} {P : DQ} {W : DE} {H : Hp} {Q : VK} {vs : List V} (hcl : cl ∈ c.classes) (rl : RepL c H ds vs) (hS : RepS c H S) (hP : Post c H S P Q) (hX : PostX c H S W E)
    (h : ∀ p, S p = none → f (.ref p :: ds) (put S p (.ins cl [])) (fun d S2 => d = .non ∧ P (.ref p) S2) W) :
    ∀ x dx, H x = none → H dx = none → dx ≠ x → liftSp c f (.ref x :: (vs ++ [])) (upd (upd H dx (.own x)) x (.ins (He.ga c.K (os cl)) dx [])) (fun v H2 => v = .non ∧ Q (.ref x) H2) E := by
  intro x dx h1 h2 hne
  obtain ⟨s1, f1⟩ := hS.laid (u := .own x) h2
  have h1' : upd H dx (.own x) x = none := by rw [upd_ne (Ne.symm hne)]; exact h1
  obtain ⟨s2, f2⟩ := s1.alloc (u := .ins (He.ga c.K (os cl)) dx []) (o := .ins cl []) h1' ⟨hcl, (fun _ z => nomatch z), dx, [], upd_same, Paired.nil⟩
  have f12 := f1.trans f2
  refine ⟨.ref x :: ds, _, _, W, by rw [List.append_nil]; exact RepL.cons rfl (rl.ext (f12.ext hS)), s2, h x (hS.noneN h1), fun d S' v H' p g r s => ?_, hX.fr f12⟩
  obtain ⟨rfl, p⟩ := p
  cases r
  exact ⟨rfl, hP _ S' _ H' p (f12.trans g) rfl s⟩
theorem de_make {cl : String} {f : DSp} {k : Nat} {g : Addr} {fd : FuncData} {ps : List Str} (hcl : cl ∈ c.classes) (M : Mk X.K (He.ga c.K (os cl)) g) (F : FnOk X.prog X.w X.K X.mg X.base (L2.CX X.prog X.w) k g fd ps (liftSp c f)) (hr : Room (k + 1) X.A) (hg : Gl X (os cl))
    (hm : X.mg (os cl) = some (.ref (He.ga c.K (os cl)))) (hb : Binds X.K fd ps []) (hx : Passes (L2.CX X.prog X.w) X E) (ha : PA X (e :: es) (liftA c E t)) (hdb : (os cl == ("__debug__" : Str)) = false) (hst : (e :: es).all notStar = true) :
    PE X (.Call (.Name (os cl) p) (e :: es) [] pos) (lift c E (dMake cl f t)) := by
  rw [List.all_cons, Bool.and_eq_true] at hst
  refine (pe_make (dvs := []) (ds := []) M F hr hg hm hb .nil hx ha hdb (star_cons hst.1) (back_any (star_all hst.2))).imp fun σ H Q h => ?_
  obtain ⟨δ, S, P, W, hσ, hS, ht, hP, hX⟩ := h
  exact ⟨δ, S, _, W, hσ, hS, ht, fun ds S1 vs H1 h1 f1 r1 s1 => make_imp hcl r1 s1 (hP.fr f1) (hX.fr f1) h1, hX⟩
theorem de_make0 {cl : String} {f : DSp} {k : Nat} {g : Addr} {fd : FuncData} {ps : List Str} (hcl : cl ∈ c.classes) (M : Mk X.K (He.ga c.K (os cl)) g) (F : FnOk X.prog X.w X.K X.mg X.base (L2.CX X.prog X.w) k g fd ps (liftSp c f)) (hr : Room (k + 1) X.A) (hg : Gl X (os cl))
    (hm : X.mg (os cl) = some (.ref (He.ga c.K (os cl)))) (hb : Binds X.K fd ps []) (hx : Passes (L2.CX X.prog X.w) X E) (hdb : (os cl == ("__debug__" : Str)) = false) :
    PE X (.Call (.Name (os cl) p) [] [] pos) (lift c E (dMake cl f fun W δ S Q => Q [] S)) := by
  refine (pe_make0 (dvs := []) (ds := []) M F hr hg hm hb .nil hx hdb).imp fun σ H Q h => ?_
  obtain ⟨δ, S, P, W, hσ, hS, ht, hP, hX⟩ := h
  exact make_imp (vs := []) hcl RepL.nil hS hP hX ht

/-! ### built-ins -/
theorem de_bi {id : String} {r : List D → Store → DQ → Prop} {x : Str} (hc : CallR X (.builtin id) (liftC c r)) (hg : Gl X x) (hm : X.mg x = none) (hv : bootBuiltins x = some (.builtin id)) (ha : PA X (e :: es) (liftA c E t)) (hn : x ≠ "__name__") (hdb : (x == ("__debug__" : Str)) = false) (hst : (e :: es).all notStar = true) :
    PE X (.Call (.Name x p) (e :: es) [] pos) (lift c E fun W δ S Q => t W δ S fun ds S1 => r ds S1 Q) := by
  rw [List.all_cons, Bool.and_eq_true] at hst
  refine (pe_callB hc hg hm hv ha hn hdb (star_cons hst.1) (back_any (star_all hst.2))).imp fun σ H Q h => ?_
  obtain ⟨δ, S, P, W, hσ, hS, ht, hP, hX⟩ := h
  exact ⟨δ, S, _, W, hσ, hS, ht, fun ds S1 vs H1 h1 f1 r1 s1 => ⟨ds, S1, P, r1, s1, h1, hP.fr f1⟩, hX⟩
theorem de_ty {T : String} {r : List D → Store → DQ → Prop} {x : Str} (hc : CallR X (.type T) (liftC c r)) (hg : Gl X x) (hm : X.mg x = none) (hv : bootBuiltins x = some (.type T)) (ha : PA X (e :: es) (liftA c E t)) (hn : x ≠ "__name__") (hdb : (x == ("__debug__" : Str)) = false) (hst : (e :: es).all notStar = true) :
    PE X (.Call (.Name x p) (e :: es) [] pos) (lift c E fun W δ S Q => t W δ S fun ds S1 => r ds S1 Q) := by
  rw [List.all_cons, Bool.and_eq_true] at hst
  refine (pe_callTy hc hg hm hv ha hn hdb (star_cons hst.1) (back_any (star_all hst.2))).imp fun σ H Q h => ?_
  obtain ⟨δ, S, P, W, hσ, hS, ht, hP, hX⟩ := h
  exact ⟨δ, S, _, W, hσ, hS, ht, fun ds S1 vs H1 h1 f1 r1 s1 => ⟨ds, S1, P, r1, s1, h1, hP.fr f1⟩, hX⟩
/-- what a built-in method's owner is -/
def OwnT (c : Cfg) (X : Cx) (T : String) (ok : D → Store → Prop) : Prop := ∀ (pins : List (Addr × Obj)) (s : Shared) (σ : L2.St) (H : Hp) (x : V) (v : Value) (d : D) (S : Store), Inv X pins σ H s → RelV x v → RepV c H d x → RepS c H S → ok d S →
  s.TypeIs v T ∧ ∀ a, v = .ref a → ∃ ob, s.heap.get? a = some ob ∧ ob.dict = none
theorem own_lst : OwnT c X "list" fun d S => (match d with | .ref a => (match S a with | some (.lst _) => True | _ => False) | _ => False) := by
  intro pins s σ H x v d S I rx rd hS h
  split at h
  · split at h
    · rename_i ds hd
      cases rd
      obtain ⟨vs, hv, rv⟩ := hS.lst hd
      exact tyV_is I rx (T := "list") (.inl ⟨rfl, vs, .inl (.of hv)⟩)
    · cases h
  · cases h
theorem own_dic : OwnT c X "dict" fun d S => (match d with | .ref a => (match S a with | some (.dic _) => True | some (.fdc _) => True | _ => False) | _ => False) := by
  intro pins s σ H x v d S I rx rd hS h
  split at h
  · split at h
    · rename_i kvs hd
      cases rd
      cases rx
      obtain ⟨t1, t2, _⟩ := dic_type I hS (dicOf_dic hd)
      exact ⟨t1, t2⟩
    · rename_i kvs hd
      cases rd
      cases rx
      obtain ⟨t1, t2, _⟩ := dic_type I hS (dicOf_fdc hd)
      exact ⟨t1, t2⟩
    · cases h
  · cases h
theorem own_str : OwnT c X "str" fun d S => (match d with | .str _ => True | _ => False) := by
  intro pins s σ H x v d S I rx rd hS h
  split at h
  · cases rd
    exact tyV_is I rx (T := "str") rfl
  · cases h
abbrev dBM (ok : D → Store → Prop) (r : D → List D → Store → DQ → Prop) (te : DTE) (t : DTA) : DTE := fun W δ S Q => te W δ S fun d S1 => ok d S1 ∧ t W δ S1 fun ds S2 => r d ds S2 Q
theorem de_bm {T id : String} {name : Str} {ok : D → Store → Prop} {r : D → List D → Store → DQ → Prop} (pa : PlainAttrs T) (slot : Slot T name id) (hty : typeOf (.builtin id) = pure (.type "method_descriptor")) (hm : MtR X id (liftM c r)) (ow : OwnT c X T ok)
    (ho : PE X o (lift c E te)) (ha : PA X (e :: es) (liftA c E t)) (hba : baseOk o = true) (hst : (e :: es).all notStar = true) (hlen : (e :: es).length < 30) (hline : (apos.endLine == pos.line) = true) :
    PE X (.Call (.Attribute o name apos) (e :: es) [] pos) (lift c E (dBM ok r te t)) := by
  refine ⟨fun pins s σ H Q I h => ?_⟩
  obtain ⟨δ, S, P, W, hσ, hS, ht, hP, hX⟩ := h
  refine wpAny_Call_method_late (base_of hba) (form_of hst hlen) hline rfl ?_
  refine thn (ho.run pins s σ H (fun x H1 => ∃ d S1, RepV c H1 d x ∧ RepS c H1 S1 ∧ Fr H S H1 S1 ∧ ok d S1 ∧ t W δ S1 fun ds S2 => r d ds S2 P) I ⟨δ, S, _, W, hσ, hS, ht, fun d S1 v H1 h1 f1 r1 s1 => ⟨d, S1, r1, s1, f1, h1⟩, hX⟩) fun v s1 ⟨x, H1, I1, rx, d, S1, rd, s1', f1, hok, ht2⟩ => ?_
  obtain ⟨h1, h2⟩ := ow pins s1 σ H1 x v d S1 I1 rx rd s1' hok
  refine ⟨T, id, pa, slot, hty, h1, h2, ?_⟩
  have hA := ha.run pos pins s1 σ H1 (fun vs H2 => ∃ ds S2, RepL c H2 ds vs ∧ RepS c H2 S2 ∧ Fr H1 S1 H2 S2 ∧ r d ds S2 P) I1 ⟨δ, S1, _, W, hσ.ext (f1.ext hS), s1', ht2, fun ds S2 vs H2 h2 f2 r2 s2 => ⟨ds, S2, r2, s2, f2, h2⟩, hX.fr f1⟩
  have hb := back_any (pos := pos) (star_all (env := X.env) hst)
  rw [List.all_cons, Bool.and_eq_true] at hst
  rw [star_cons hst.1] at hA hb ⊢
  refine Calls.callWith_builtin hb (Calls.evalArgs_plain ?_)
  exact thn hA fun us s2 ⟨vs, H2, I2, r2, ds, S2, rl, s2', f2, h3⟩ => hm pins s2 σ H2 x vs v us Q I2 rx r2 ⟨d, ds, S2, P, rd.ext (f2.ext s1'), rl, s2', h3, hP.fr (f1.trans f2)⟩
theorem de_bm0 {T id : String} {name : Str} {ok : D → Store → Prop} {r : D → List D → Store → DQ → Prop} (pa : PlainAttrs T) (slot : Slot T name id) (hty : typeOf (.builtin id) = pure (.type "method_descriptor")) (hm : MtR X id (liftM c r)) (ow : OwnT c X T ok)
    (ho : PE X o (lift c E te)) (hba : baseOk o = true) (hline : (apos.endLine == pos.line) = true) :
    PE X (.Call (.Attribute o name apos) [] [] pos) (lift c E (dBM ok r te fun W δ S Q => Q [] S)) := by
  refine ⟨fun pins s σ H Q I h => ?_⟩
  obtain ⟨δ, S, P, W, hσ, hS, ht, hP, hX⟩ := h
  refine wpAny_Call_method0_late (base_of hba) hline ?_
  refine thn (ho.run pins s σ H (fun x H1 => ∃ d S1, RepV c H1 d x ∧ RepS c H1 S1 ∧ Fr H S H1 S1 ∧ ok d S1 ∧ r d [] S1 P) I ⟨δ, S, _, W, hσ, hS, ht, fun d S1 v H1 h1 f1 r1 s1 => ⟨d, S1, r1, s1, f1, h1⟩, hX⟩) fun v s1 ⟨x, H1, I1, rx, d, S1, rd, s1', f1, hok, ht2⟩ => ?_
  obtain ⟨h1, h2⟩ := ow pins s1 σ H1 x v d S1 I1 rx rd s1' hok
  exact ⟨T, id, pa, slot, hty, h1, h2, Calls.callWith_builtin rfl (PySem.evalArgs_none (hm pins s1 σ H1 x [] v [] Q I1 rx .nil ⟨d, [], S1, P, rd, RepL.nil, s1', ht2, hP.fr f1⟩))⟩
end
end Nf
set_option Elab.async false
set_option linter.all false
set_option maxRecDepth 100000
set_option maxHeartbeats 2000000
/-! NfRule3: comprehensions, locks, dict displays, statements, lifted. -/
namespace Nf
open PySem PySem.Spec L2
open PyProof.Rows hiding St

/-! ### targets -/
/-- the slots that a target sets -/
def tgSlots : Tg → List Nat
  | .v i => [i]
  | .t is => is
def SetOn (is : List Nat) (σ σ' : L2.St) : Prop := σ'.length = σ.length ∧ ∀ i, i ∉ is → σ'[i]? = σ[i]?
theorem SetOn.refl {σ : L2.St} {is : List Nat} : SetOn is σ σ := ⟨rfl, fun _ _ => rfl⟩
theorem SetOn.set {σ σ' : L2.St} {is : List Nat} {i : Nat} {v : Option V} (h : SetOn is σ σ') (hi : i ∈ is) : SetOn is σ (σ'.set i v) :=
  ⟨by rw [List.length_set]; exact h.1, fun j hj => by rw [List.getElem?_set_ne (fun e => hj (by rw [← e]; exact hi))]; exact h.2 j hj⟩
theorem SetOn.trans {is : List Nat} {a b d : L2.St} (x : SetOn is a b) (y : SetOn is b d) : SetOn is a d := ⟨y.1.trans x.1, fun i hi => (y.2 i hi).trans (x.2 i hi)⟩
theorem SetOn.mono {is js : List Nat} {a b : L2.St} (x : SetOn is a b) (h : ∀ i ∈ is, i ∈ js) : SetOn js a b := ⟨x.1, fun i hi => x.2 i fun z => hi (h i z)⟩
theorem wipe_get {vs : List Nat} : ∀ {σ : L2.St} {i : Nat}, i < σ.length → (L2.wipe σ vs)[i]? = if i ∈ vs then some none else σ[i]? := by
  induction vs with
  | nil => intro σ i h; simp [L2.wipe]
  | cons v vs ih =>
    intro σ i h
    unfold L2.wipe
    by_cases e : v = i
    · subst e
      rw [List.getElem?_set_self (by rw [L2.wipe_length]; exact h)]
      simp
    · rw [List.getElem?_set_ne e, ih h]
      have : i ∈ v :: vs ↔ i ∈ vs := by simp [Ne.symm e]
      by_cases hm : i ∈ vs
      · rw [if_pos hm, if_pos (this.mpr hm)]
      · rw [if_neg hm, if_neg (fun z => hm (this.mp z))]
theorem SetOn.wipe {vs is : List Nat} {σ σ' : L2.St} (h : SetOn is (L2.wipe σ vs) σ') (hs : ∀ i ∈ is, i ∈ vs) : L2.wipe σ' vs = L2.wipe σ vs := by
  have hl : σ'.length = σ.length := by rw [h.1, L2.wipe_length]
  refine List.ext_getElem? fun i => ?_
  by_cases hi : i < σ.length
  · rw [wipe_get (by omega), wipe_get hi]
    by_cases hm : i ∈ vs
    · rw [if_pos hm, if_pos hm]
    · rw [if_neg hm, if_neg hm, h.2 i (fun z => hm (hs i z)), wipe_get hi, if_neg hm]
  · rw [List.getElem?_eq_none (by rw [L2.wipe_length]; omega), List.getElem?_eq_none (by rw [L2.wipe_length]; omega)]
def liftG (c : Cfg) (tg : Tg) : TG := fun v σ H Q => ∃ d δ S K, RepV c H d v ∧ RepSt c H δ σ ∧ RepS c H S ∧ rTg tg d S δ K ∧ ∀ δ' σ', K δ' → RepSt c H δ' σ' → SetOn (tgSlots tg) σ σ' → Q σ' H
theorem _root_.L2.PG.imp {X : Cx} {e : Expr} {t t' : TG} (h : PG X e t) (i : ∀ v σ H Q, t' v σ H Q → t v σ H Q) : PG X e t' := ⟨fun pins s σ H v u Q I r q => h.run pins s σ H v u Q I r (i v σ H Q q)⟩
section
variable {c : Cfg} {X : Cx} {E : XK} {a b d e o : Expr} {es rest : List Expr} {ta tb tc te : DTE} {t : DTA} {p pos apos : Pos}
theorem dg_name {i : Nat} {x : Str} (hN : X.N.Nodup) (hi : X.N[i]? = some x) (hx : Loc X.env.scope x) (hf : X.fn x = true ∨ X.env.scope.names.lookup x = some .local) : PG X (.Name x pos) (liftG c (.v i)) := by
  refine (pg_name hN hi hx hf).imp fun v σ H Q h => ?_
  obtain ⟨d, δ, S, K, rd, hσ, hS, hk, q⟩ := h
  exact q _ _ hk (hσ.set i rd) (SetOn.refl.set (List.mem_singleton.mpr rfl))
/-- names, one after another -/
inductive Names (X : Cx) : List Expr → List Nat → Prop where
  | nil : Names X [] []
  | cons {i : Nat} {x : Str} {pos : Pos} {es : List Expr} {is : List Nat} (hi : X.N[i]? = some x) (hx : Loc X.env.scope x) (hf : X.fn x = true ∨ X.env.scope.names.lookup x = some .local) (t : Names X es is) : Names X (.Name x pos :: es) (i :: is)
def gNames : List Nat → TGs
  | [] => gNil
  | i :: is => gCons (gName i) (gNames is)
theorem names_pgs (hN : X.N.Nodup) : ∀ {es : List Expr} {is : List Nat}, Names X es is → PGs X es (gNames is)
  | _, _, .nil => pgs_nil
  | _, _, .cons hi hx hf t => pgs_cons (pg_name hN hi hx hf) (names_pgs hN t)
theorem names_len : ∀ {es : List Expr} {is : List Nat}, Names X es is → (assignEach es X.env).length = is.length
  | _, _, .nil => rfl
  | _, _, .cons hi hx hf t => congrArg (· + 1) (names_len t)
theorem names_star : ∀ {es : List Expr} {is : List Nat}, Names X es is → (assignEach es X.env).findIdx? (·.1) = none
  | _, _, .nil => rfl
  | _, _, .cons (x := x) (pos := pos) (es := es) hi hx hf t => by
    have ih := names_star t
    show List.findIdx? (·.1) ((false, assign (.Name x pos) X.env) :: assignEach es X.env) = none
    rw [List.findIdx?_cons]
    simp [ih]
theorem set_names {H : Hp} {js : List Nat} : ∀ {is : List Nat} {ds : List D} {vs : List V} {δ δ' : DSt} {σ : L2.St} {Q : L2.St → Hp → Prop}, (∀ i ∈ is, i ∈ js) → RepL c H ds vs → RepSt c H δ σ → setNs δ is ds = some δ' →
    (∀ σ', RepSt c H δ' σ' → SetOn js σ σ' → Q σ' H) → gNames is vs σ H Q
  | [], ds, vs, δ, δ', σ, Q, hj, rl, hσ, h, q => by
    cases ds with
    | nil =>
      cases h
      rw [RepL.nil_eq rl]
      exact ⟨rfl, q σ hσ SetOn.refl⟩
    | cons => cases h
  | i :: is, ds, vs, δ, δ', σ, Q, hj, rl, hσ, h, q => by
    cases ds with
    | nil => cases h
    | cons d ds =>
      obtain ⟨v, vs, rfl, r1, r2⟩ := RepL.cases_cons rl
      exact ⟨v, vs, rfl, set_names (fun k hk => hj k (List.mem_cons_of_mem _ hk)) r2 (hσ.set i r1) h fun σ' h1 h2 => q σ' h1 ((SetOn.refl.set (hj i List.mem_cons_self)).trans h2)⟩
theorem dg_tup {es : List Expr} {is : List Nat} {k : Nat} (hc : X.calm = true) (hN : X.N.Nodup) (h : Names X es is) : PG X (.Tuple es k pos) (liftG c (.t is)) := by
  refine (pg_tup hc (names_pgs hN h) (names_len h) (names_star h)).imp fun v σ H Q q => ?_
  obtain ⟨d, δ, S, K, rd, hσ, hS, hk, q⟩ := q
  unfold rTg at hk
  simp only at hk
  split at hk
  · rename_i ds
    split at hk
    · rename_i δ' hs
      obtain ⟨a, vs, rfl, hv, rl⟩ := rd.tup_eq
      have hl : ∀ {is : List Nat} {ds : List D} {δ : DSt}, setNs δ is ds = some δ' → ds.length = is.length := by
        intro is
        induction is with
        | nil => intro ds δ h; cases ds <;> first | rfl | cases h
        | cons i is ih => intro ds δ h; cases ds with
          | nil => cases h
          | cons d ds => exact congrArg (· + 1) (ih h)
      refine ⟨a, vs, rfl, .inl (.of hv), by rw [← rl.length, hl hs], set_names (js := is) (fun _ h => h) rl hσ hs fun σ' h1 h2 => q δ' σ' hk h1 h2⟩
    · cases hk
  · cases hk

/-! ### comprehensions -/
abbrev dTest (ti : Option DTE) : DTE := match ti with
  | none => fun W δ S Q => Q (.bl true) S
  | some t => t
theorem dts_nil : PTs X [] (liftT c E fun W δ S Q => Q (.bl true) S) := ⟨fun pins s σ H Q I h => pts_nil.run pins s σ H Q I (by
  obtain ⟨δ, S, P, W, hσ, hS, ht, hP, hX⟩ := h
  exact hP true S H ht Fr.refl hS)⟩
theorem dts_one (h : PT X e (liftT c E te)) : PTs X [e] (liftT c E te) := pts_one h
/-- a list that isn't tracked by the store, rewritten -/
theorem RepS.other {H : Hp} {S : Store} {p : Addr} {vs : List V} {u : HO} (hS : RepS c H S) (hn : S p = none) (hp : H p = some (.lst vs)) : RepS c (upd H p u) S ∧ Ext H (upd H p u) := by
  have ex : Ext H (upd H p u) := by
    refine ⟨fun a xs e => ?_, fun a o xs e => ?_⟩
    · by_cases ha : a = p
      · subst ha; rw [hp] at e; cases e
      · rw [upd_ne ha]; exact e
    · by_cases ha : a = p
      · subst ha; rw [hp] at e; cases e
      · rw [upd_ne ha]; exact e
  refine ⟨⟨fun a o e => ?_, hS.tb.step fun a o k e n => ?_⟩, ex⟩
  · have ha : a ≠ p := fun z => by subst z; rw [hn] at e; cases e
    exact (hS a o e).ext ex (upd_ne ha)
  · have ha : a ≠ p := fun z => by subst z; rw [hp] at e; cases e; exact k.nlst.elim
    exact ⟨by rw [upd_ne ha]; exact e, n⟩
/-- no exception -/
abbrev XF : XK := fun _ _ _ => False
abbrev WF : DE := fun _ _ => False
theorem postF {H : Hp} {S : Store} : PostX c H S WF XF := fun _ _ _ _ _ h _ _ _ => h
abbrev dLc (ti : DTI) (tg : Tg) (tt te : DTE) (own : List Nat) : DTE := fun W δ S Q => ti W δ S fun J S1 =>
  lcItems (fun d S' K => rTg tg d S' (Nf.wipe δ own) K) (fun δ' S' K => tt WF δ' S' fun d S2 => asB d fun b => K b S2) (fun δ' S' Q => te WF δ' S' Q) J.ok (fun acc S2 => alloc S2 (.lst acc) Q) J.its [] S1
theorem lc_imp {ti : DTI} {tg : Tg} {tt : DTE} {own : List Nat} {σ : L2.St} {H : Hp} {Q : VK} (hsub : ∀ i ∈ tgSlots tg, i ∈ own) (h : lift c E (dLc ti tg tt te own) σ H Q) : tLc (liftI c E ti) (liftG c tg) (liftT c XF tt) (lift c XF te) own σ H Q := by
  obtain ⟨δ, S, P, W, hσ, hS, ht, hP, hX⟩ := h
  refine ⟨δ, S, _, W, hσ, hS, ht, fun w S1 J H1 h1 f1 s1 wo L hD => ?_, hX⟩
  generalize hK : (fun acc S2 => alloc S2 (.lst acc) P) = K at h1
  generalize hT : (fun (d : D) (S' : Store) (K : DSt → Prop) => rTg tg d S' (Nf.wipe δ own) K) = T at h1
  have hSD : S1 L = none := s1.noneN hD
  refine ⟨fun i m H' => m = w.its.length - i ∧ i ≤ w.its.length ∧ ∃ S' acc vacc, H' L = some (.lst vacc) ∧ S' L = none ∧ RepL c H' acc vacc ∧ RepS c H' S' ∧ Fr H1 S1 H' S' ∧
    lcItems T (fun δ' S' K => tt WF δ' S' fun d S2 => asB d fun b => K b S2) (fun δ' S' Q => te WF δ' S' Q) w.ok K (w.its.drop i) acc S', ?_, ?_⟩
  · obtain ⟨s2, f2⟩ := s1.laid (u := .lst []) hD
    exact ⟨_, rfl, Nat.zero_le _, S1, [], [], upd_same, hSD, RepL.nil, s2, f2, by rw [List.drop_zero]; exact h1⟩
  · rintro i m H' ⟨rfl, hi, S', acc, vacc, hD', hSD', ra, s', f', hl⟩
    by_cases hlt : i < w.its.length
    · have ed : w.its.drop i = w.its[i] :: w.its.drop (i + 1) := List.drop_eq_getElem_cons hlt
      rw [ed] at hl
      obtain ⟨ok, hl⟩ := hl
      obtain ⟨_, wy⟩ := wo H' S' s' f' ok
      obtain ⟨go, yl⟩ := wy i w.its[i] (List.getElem?_eq_getElem hlt)
      refine .inr ⟨go, fun H'' => i + 1 ≤ w.its.length ∧ ∃ S' acc vacc, H'' L = some (.lst vacc) ∧ S' L = none ∧ RepL c H'' acc vacc ∧ RepS c H'' S' ∧ Fr H1 S1 H'' S' ∧
        lcItems T (fun δ' S' K => tt WF δ' S' fun d S2 => asB d fun b => K b S2) (fun δ' S' Q => te WF δ' S' Q) w.ok K (w.its.drop (i + 1)) acc S', fun H'' q => ⟨w.its.length - (i + 1), by omega, rfl, q.1, q.2⟩, fun x H2 y => ?_⟩
      obtain ⟨rx, s2, f2, e2⟩ := yl x H2 y
      have fA := f'.trans f2
      have D2 := f2.keep L _ hD' hSD' fun _ z => by cases z
      subst hT
      refine ⟨w.its[i], Nf.wipe δ own, S', _, rx, (RepSt.wipe hσ own).ext ((f1.trans fA).ext hS), s2, hl, fun δ3 σ3 h3 r3 so => ⟨SetOn.wipe so hsub, ?_⟩⟩
      refine ⟨δ3, S', _, WF, r3, s2, h3, fun b S4 H4 h4 f4 s4 => ?_, postF⟩
      have D4 := f4.keep L _ D2.1 D2.2 fun _ z => by cases z
      have fB := fA.trans f4
      cases b with
      | false => exact ⟨hlt, S4, acc, vacc, D4.1, D4.2, ra.ext ((f2.trans f4).ext s'), s4, fB, h4⟩
      | true =>
        refine ⟨δ3, S4, _, WF, r3.ext (f4.ext s2), s4, h4, fun dd S5 v H5 h5 f5 r5 s5 => ?_, postF⟩
        obtain ⟨hz, h5⟩ := h5
        have D5 := f5.keep L _ D4.1 D4.2 fun _ z => by cases z
        rw [szl] at hz
        have ra5 : RepL c H5 acc vacc := ra.ext ((f2.trans (f4.trans f5)).ext s')
        obtain ⟨s6, e6⟩ := s5.other (u := .lst (vacc ++ [v])) D5.2 D5.1
        refine ⟨vacc, D5.1, by rw [← ra5.length]; exact hz, hlt, S5, acc ++ [dd], vacc ++ [v], upd_same, D5.2, (ra5.append (RepL.cons r5 RepL.nil)).ext e6, s6, ?_, h5⟩
        have fC := fB.trans f5
        refine ⟨fun a u h n t => ?_, fun a ob u h => ?_⟩
        · have ha : a ≠ L := ne_of_none h hD
          have := fC.keep a u h n t
          exact ⟨by rw [upd_ne ha]; exact this.1, this.2⟩
        · have ha : a ≠ L := ne_of_none h hD
          rw [upd_ne ha]; exact fC.frz a ob u h
    · have ei : i = w.its.length := by omega
      subst ei
      rw [List.drop_length] at hl
      obtain ⟨ok, hl⟩ := hl
      refine .inl ⟨(wo H' S' s' f' ok).1 _ (Nat.le_refl _), ?_⟩
      subst hK
      have q := hl L hSD'
      refine hP (.ref L) _ _ H' q ?_ rfl ?_
      · refine ⟨fun a u h n t => ?_, fun a ob u h => f'.frz a ob u (f1.frz a ob u h)⟩
        have k1 := f1.keep a u h n t
        have k2 := f'.keep a u k1.1 k1.2 t
        exact ⟨k2.1, by rw [put_ne (ne_of_none k1.1 hD)]; exact k2.2⟩
      · refine ⟨fun a u h => ?_, s'.tb.step fun a u k h n => ?_⟩
        · by_cases ha : a = L
          · subst ha
            rw [put_same] at h; cases h
            exact ⟨vacc, hD', ra⟩
          · rw [put_ne ha] at h
            exact s' a u h
        · have ha : a ≠ L := fun z => by subst z; rw [hD'] at h; cases h; exact k.nlst.elim
          exact ⟨h, by rw [put_ne ha]; exact n⟩
variable {elt tgE iter : Expr} {ifs : List Expr} {scope : Scope} {own : List (Str × Nat)} {ti : DTI} {tg : Tg} {tt : DTE}
theorem de_lc (hc : X.calm = true) (hN : X.N.Nodup) (hi : PI X tgE iter (liftI c E ti)) (ok : BlkOk X.N X.env.scope scope own) (hsub : ∀ i ∈ tgSlots tg, i ∈ own.map (·.2))
    (hg : ∀ (s : Shared) (H : Hp) (C : Addr) (cl : List (Str × Addr)) (fp : List Addr), PG (X.blk s H scope (compEnvC scope cl C X.env) fp) tgE (liftG c tg)) (ht : ∀ (s : Shared) (H : Hp) (C : Addr) (cl : List (Str × Addr)) (fp : List Addr), PTs (X.blk s H scope (compEnvC scope cl C X.env) fp) ifs (liftT c XF tt))
    (he : ∀ (s : Shared) (H : Hp) (C : Addr) (cl : List (Str × Addr)) (fp : List Addr), PE (X.blk s H scope (compEnvC scope cl C X.env) fp) elt (lift c XF te)) (hs : ∀ x, foldedSetIterable iter X.env x = pure x) :
    PE X (.ListComp elt [⟨tgE, iter, ifs, 0⟩] scope pos) (lift c E (dLc ti tg tt te (own.map (·.2)))) := (pe_lc hc hN hi ok hg ht he hs).imp fun σ H Q h => lc_imp hsub h

/-! ### locks -/
theorem frz_ne {H : Hp} {S : Store} {d : Addr} {kvs : List (D × D)} {u : HO} (hS : RepS c H S) (hd : S d = some (.dic kvs)) (hu : H d = some u) : ∀ ob w, u ≠ .frz ob w := fun ob w e => by
  subst e
  exact (hS d _ hd).open (fun _ z => by cases z) ob w hu
theorem lock_in {H : Hp} {S : Store} {d : Addr} {kvs : List (D × D)} {u : HO} {od : Obj} (hS : RepS c H S) (hd : S d = some (.dic kvs)) (hu : H d = some u) :
    RepS c (upd H d (.frz od u)) (put S d (.fdc kvs)) ∧ Ext H (upd H d (.frz od u)) := by
  have nt : ∀ xs, u ≠ .tup xs := fun xs e => by subst e; rw [hS.tupN hu] at hd; cases hd
  have nf := frz_ne hS hd hu
  have ex : Ext H (upd H d (.frz od u)) := by
    refine ⟨fun a xs e => ?_, fun a o xs e => ?_⟩
    · by_cases ha : a = d
      · subst ha; rw [hu] at e; cases e; exact absurd rfl (nt _)
      · rw [upd_ne ha]; exact e
    · by_cases ha : a = d
      · subst ha; rw [hu] at e; cases e; exact absurd rfl (nf _ _)
      · rw [upd_ne ha]; exact e
  refine ⟨⟨fun a o e => ?_, hS.tb.step fun a o k e n => ?_⟩, ex⟩
  rotate_left
  · have ha : a ≠ d := fun z => by subst z; rw [n] at hd; cases hd
    exact ⟨by rw [upd_ne ha]; exact e, by rw [put_ne ha]; exact n⟩
  by_cases ha : a = d
  · subst ha
    rw [put_same] at e; cases e
    rcases hS.dic hd with ⟨ks, f, q, r⟩ | ⟨es, n, f, nd, z, y, q, r⟩
    · rw [hu] at q; cases q
      exact .inl ⟨od, ks, f, upd_same, Paired.mono2 (fun _ _ x => ⟨x.1, x.2.ext ex⟩) r⟩
    · rw [hu] at q; cases q
      exact .inr ⟨od, es, n, f, nd, z, y, upd_same, Paired.mono2 (fun _ _ x => ⟨x.1.ext ex, x.2.1, x.2.2.ext ex⟩) r⟩
  · rw [put_ne ha] at e
    exact (hS a o e).ext ex (upd_ne ha)
theorem lock_out {H H' : Hp} {S S' : Store} {d : Addr} {kvs : List (D × D)} {u : HO} {od : Obj} (hS : RepS c H S) (hd : S d = some (.dic kvs)) (hu : H d = some u) (s' : RepS c H' S') (f : Fr (upd H d (.frz od u)) (put S d (.fdc kvs)) H' S') :
    H' d = some (.frz od u) ∧ RepS c (upd H' d u) (put S' d (.dic kvs)) ∧ Fr H S (upd H' d u) (put S' d (.dic kvs)) ∧ Ext H' (upd H' d u) := by
  have e0 : H' d = some (.frz od u) := f.frz d od u upd_same
  have nf := frz_ne hS hd hu
  have ul : ∀ xs, u ≠ .lst xs := fun xs e => by
    subst e
    rcases hS.dic hd with ⟨ks, _, q, _⟩ | ⟨es, _, _, _, _, _, q, _⟩
    · rw [hu] at q; cases q
    · rw [hu] at q; cases q
  have ex : Ext H' (upd H' d u) := by
    refine ⟨fun a xs e => ?_, fun a o xs e => ?_⟩
    · by_cases ha : a = d
      · subst ha; rw [e0] at e; cases e
      · rw [upd_ne ha]; exact e
    · by_cases ha : a = d
      · subst ha; rw [e0] at e; cases e; exact absurd rfl (ul _)
      · rw [upd_ne ha]; exact e
  obtain ⟨_, ex1⟩ := lock_in (od := od) hS hd hu
  have exA : Ext H (upd H' d u) := by
    have h2 := (f.ext (lock_in (od := od) hS hd hu).1)
    exact ⟨fun a xs e => ex.1 a xs (h2.1 a xs (ex1.1 a xs e)), fun a o xs e => ex.2 a o xs (h2.2 a o xs (ex1.2 a o xs e))⟩
  refine ⟨e0, ⟨fun a o e => ?_, s'.tb.step fun a o k e n => ?_⟩, ⟨fun a o h n t => ?_, fun a ob w h => ?_⟩, ex⟩
  · by_cases ha : a = d
    · subst ha
      rw [put_same] at e; cases e
      rcases hS.dic hd with ⟨ks, ff, q, r⟩ | ⟨es, n, ff, nd, z, y, q, r⟩
      · rw [hu] at q; cases q
        exact .inl ⟨ks, ff, upd_same, Paired.mono2 (fun _ _ x => ⟨x.1, x.2.ext exA⟩) r⟩
      · rw [hu] at q; cases q
        exact .inr ⟨es, n, ff, nd, z, y, upd_same, Paired.mono2 (fun _ _ x => ⟨x.1.ext exA, x.2.1, x.2.2.ext exA⟩) r⟩
    · rw [put_ne ha] at e
      exact (s' a o e).ext ex (upd_ne ha)
  · have ha : a ≠ d := fun z => by subst z; rw [e0] at e; cases e; exact k.nfrz.elim
    exact ⟨by rw [upd_ne ha]; exact e, by rw [put_ne ha]; exact n⟩
  · have ha : a ≠ d := fun z => by subst z; rw [n] at hd; cases hd
    have k := f.keep a o (by rw [upd_ne ha]; exact h) (by rw [put_ne ha]; exact n) t
    exact ⟨by rw [upd_ne ha]; exact k.1, by rw [put_ne ha]; exact k.2⟩
  · have ha : a ≠ d := fun z => by subst z; rw [hu] at h; cases h; exact nf _ _ rfl
    rw [upd_ne ha]
    exact f.frz a ob w (by rw [upd_ne ha]; exact h)
theorem RepSt.locked {H H' : Hp} {δ : DSt} {σ : L2.St} (h : RepSt c H δ σ) (e : Ext H H') : RepSt c H' δ σ := h.ext e
abbrev dLock (te : DTE) : DTE := fun W δ S Q => ∃ a kvs, S a = some (.dic kvs) ∧ te WF δ (put S a (.fdc kvs)) fun d S' => S' a = some (.fdc kvs) ∧ Q d (put S' a (.dic kvs))
theorem de_lock (he : PE X e (lift c E te)) : PE X e (lift c E (dLock te)) := by
  refine (pe_lock he).imp fun σ H Q h => ?_
  obtain ⟨δ, S, P, W, hσ, hS, ⟨d, kvs, hd, ht⟩, hP, hX⟩ := h
  obtain ⟨u, hu, mu⟩ := hS.mutD hd
  refine ⟨d, u, hu, mu, fun od => ?_⟩
  obtain ⟨s1, ex⟩ := lock_in (od := od) hS hd hu
  refine ⟨δ, _, _, WF, hσ.ext ex, s1, ht, fun x S' v H' h' f' r' s' => ?_, fun _ _ _ _ _ z _ _ _ => z.elim⟩
  obtain ⟨_, h'⟩ := h'
  obtain ⟨e0, s2, f2, ex2⟩ := lock_out hS hd hu s' f'
  exact ⟨e0, hP x _ v _ h' f2 (r'.ext ex2) s2⟩
end
end Nf
set_option Elab.async false
set_option linter.all false
set_option maxRecDepth 100000
set_option maxHeartbeats 2000000
/-! NfRule4: dict displays, statements, lifted. -/
namespace Nf
open PySem PySem.Spec L2
open PyProof.Rows hiding St
section
variable {c : Cfg} {X : Cx} {E : XK} {a b d e o : Expr} {es rest : List Expr} {ta tb tc te : DTE} {t : DTA} {p pos apos : Pos}
/-! ### displays -/
def dP : List (DTE × DTE) → DTA
  | [] => fun W δ S Q => Q [] S
  | (tk, tv) :: r => fun W δ S Q => tk W δ S fun k S1 => tv W δ S1 fun v S2 => dP r W δ S2 fun ds S3 => Q (k :: v :: ds) S3
theorem dP_imp {σ : L2.St} {Q : List (V × V) → Hp → Prop} : ∀ (l : List (DTE × DTE)) {H : Hp}, liftA c E (dP l) σ H (fun vs H' => ∀ ps, vs = ps.flatMap (fun p => [p.1, p.2]) → Q ps H') →
    tPairs (l.map fun p => (lift c E p.1, lift c E p.2)) σ H Q
  | [], H, h => by
    obtain ⟨δ, S, P, W, hσ, hS, ht, hP, hX⟩ := h
    exact hP [] S [] H ht Fr.refl RepL.nil hS [] rfl
  | (tk, tv) :: l, H, h => by
    obtain ⟨δ, S, P, W, hσ, hS, ht, hP, hX⟩ := h
    refine ⟨δ, S, _, W, hσ, hS, ht, fun k S1 kv H1 h1 f1 r1 s1 => ?_, hX⟩
    refine ⟨δ, S1, _, W, hσ.ext (f1.ext hS), s1, h1, fun v S2 vv H2 h2 f2 r2 s2 => ?_, hX.fr f1⟩
    have f12 := f1.trans f2
    refine dP_imp l ⟨δ, S2, _, W, hσ.ext (f12.ext hS), s2, h2, fun ds S3 vs H3 h3 f3 r3 s3 ps e => ?_, hX.fr f12⟩
    refine hP _ S3 (kv :: vv :: vs) H3 h3 (f12.trans f3) (RepL.cons (r1.ext ((f2.trans f3).ext s1)) (RepL.cons (r2.ext (f3.ext s2)) r3)) s3 ((kv, vv) :: ps) ?_
    rw [e]; rfl
theorem pairUp_of : ∀ {ds : List D} {ps : List (D × D)} {H : Hp} {vs : List V}, pairUp ds = some ps → RepL c H ds vs → ∃ qs : List (V × V), vs = qs.flatMap (fun p => [p.1, p.2]) ∧ Paired (fun p q => RepV c H p.1 q.1 ∧ RepV c H p.2 q.2) ps qs
  | [], ps, H, vs, h, r => by
    cases h
    rw [RepL.nil_eq r]
    exact ⟨[], rfl, .nil⟩
  | [x], ps, H, vs, h, r => by cases h
  | k :: v :: ds, ps, H, vs, h, r => by
    obtain ⟨ps', h1, h2⟩ := Option.map_eq_some_iff.mp h
    subst h2
    obtain ⟨kv, vs, rfl, r1, r⟩ := RepL.cases_cons r
    obtain ⟨vv, vs, rfl, r2, r⟩ := RepL.cases_cons r
    obtain ⟨qs, rfl, p⟩ := pairUp_of h1 r
    exact ⟨(kv, vv) :: qs, rfl, .cons ⟨r1, r2⟩ p⟩
theorem pairs_kf {H : Hp} {ps : List (D × D)} {qs : List (V × V)} (r : Paired (fun (p : D × D) (q : V × V) => RepV c H p.1 q.1 ∧ RepV c H p.2 q.2) ps qs) : (∀ p ∈ ps, p.1.flatKey = true) →
    ∃ kvs : List (Key × V), RepKF c H ps kvs ∧ qs = kvs.map fun kv => (kV kv.1, kv.2) := by
  induction r with
  | nil => intro _; exact ⟨[], .nil, rfl⟩
  | @cons p q ps qs h t ih =>
    intro hf
    obtain ⟨kvs, r1, e⟩ := ih fun x hx => hf x (List.mem_cons_of_mem _ hx)
    have ek := fk_rep (hf p List.mem_cons_self) h.1
    refine ⟨(p.1.fk, q.2) :: kvs, .cons ⟨rfl, h.2⟩ r1, ?_⟩
    rw [List.map_cons, ← e]
    congr 1
    exact Prod.ext ek rfl
abbrev dDct (t : DTA) : DTE := fun W δ S Q => t W δ S fun ds S1 => match pairUp ds with | some ps => (∀ p ∈ ps, p.1.flatKey = true) ∧ ps.length ≤ 15 ∧ alloc S1 (.dic (Nf.mergeK [] ps)) Q | none => False
theorem de_dct0 : PE X (.Dict [] [] pos) (lift c E (dDct fun W δ S Q => Q [] S)) := by
  refine pe_dnewK.imp fun σ H Q h p hp => ?_
  obtain ⟨δ, S, P, W, hσ, hS, ⟨_, _, ht⟩, hP, hX⟩ := h
  obtain ⟨s2, f2⟩ := hS.alloc (u := .dK []) (o := .dic []) hp (.inl ⟨[], (fun _ z => nomatch z), upd_same, .nil⟩)
  exact hP _ _ _ _ (ht p (hS.noneN hp)) f2 rfl s2
theorem flat_inj : ∀ {ps qs : List (V × V)}, ps.flatMap (fun p => [p.1, p.2]) = qs.flatMap (fun p => [p.1, p.2]) → ps = qs
  | [], [], _ => rfl
  | [], q :: qs, h => by simp at h
  | p :: ps, [], h => by simp at h
  | p :: ps, q :: qs, h => by
    simp only [List.flatMap_cons, List.cons_append, List.nil_append, List.cons.injEq] at h
    rw [flat_inj h.2.2, Prod.ext h.1 h.2.1]
theorem de_dct {keys : List (Option Expr)} {values : List Expr} {l : List (DTE × DTE)} (h : PPs X pos keys values (l.map fun p => (lift c E p.1, lift c E p.2))) (hall : keys.all (·.isSome) = true) (hl : keys.length = values.length) (h0 : keys ≠ []) (h15 : keys.length ≤ 15) :
    PE X (.Dict keys values pos) (lift c E (dDct (dP l))) := by
  refine (pe_disp h hall hl h0 h15).imp fun σ H Q h p hp => ?_
  obtain ⟨δ, S, P, W, hσ, hS, ht, hP, hX⟩ := h
  obtain ⟨s1, f1⟩ := hS.laid (u := .dK []) hp
  have hSp := hS.noneN hp
  refine dP_imp l ⟨δ, S, _, W, hσ.ext (f1.ext hS), s1, ht, fun ds S2 vs H2 h2 f2 r2 s2 qs e => ?_, hX.fr f1⟩
  simp only at h2
  split at h2
  · rename_i ps hps
    obtain ⟨hf, h15', h2⟩ := h2
    obtain ⟨qs', e', pr⟩ := pairUp_of hps r2
    have eq : qs = qs' := flat_inj (e.symm.trans e')
    subst eq
    obtain ⟨kvs, rk, ekv⟩ := pairs_kf pr hf
    have k2 := f2.keep p _ upd_same hSp fun _ z => by cases z
    refine ⟨k2.1, kvs, ekv, by rw [← Paired.length rk]; exact h15', ?_⟩
    have ex : Ext H2 (upd H2 p (.dK (L2.mergeK [] kvs))) := by
      refine ⟨fun a xs e => ?_, fun a o xs e => ?_⟩
      · have ha : a ≠ p := fun z => by subst z; rw [k2.1] at e; cases e
        rw [upd_ne ha]; exact e
      · have ha : a ≠ p := fun z => by subst z; rw [k2.1] at e; cases e
        rw [upd_ne ha]; exact e
    have km : RepKF c H2 (Nf.mergeK [] ps) (L2.mergeK [] kvs) := KF.merge rk .nil allFlat.nil hf
    refine hP (.ref p) _ _ _ (h2 p k2.2) ?_ rfl ?_
    · refine ⟨fun a o h n t => ?_, fun a ob w h => ?_⟩
      · have ha : a ≠ p := ne_of_none h hp
        have := f2.keep a o (by rw [upd_ne ha]; exact h) n t
        exact ⟨by rw [upd_ne ha]; exact this.1, by rw [put_ne ha]; exact this.2⟩
      · have ha : a ≠ p := ne_of_none h hp
        rw [upd_ne ha]
        exact f2.frz a ob w (by rw [upd_ne ha]; exact h)
    · refine ⟨fun a o h => ?_, s2.tb.step fun a o k h n => ?_⟩
      · by_cases ha : a = p
        · subst ha
          rw [put_same] at h; cases h
          exact .inl ⟨_, allFlat.merge allFlat.nil hf, upd_same, Paired.mono2 (fun _ _ x => ⟨x.1, x.2.ext ex⟩) km⟩
        · rw [put_ne ha] at h
          exact (s2 a o h).ext ex (upd_ne ha)
      · have ha : a ≠ p := fun z => by subst z; rw [k2.1] at h; cases h; exact k.ndK.elim
        exact ⟨by rw [upd_ne ha]; exact h, by rw [put_ne ha]; exact n⟩
  · cases h2

/-! ### statements -/
abbrev DTS := DE → DEnds → DSt → Store → Prop
def PostNx (c : Cfg) (H : Hp) (S : Store) (N : DSt → Store → Prop) (Q : L2.St → Hp → Prop) : Prop := ∀ δ' S' σ' H', N δ' S' → Fr H S H' S' → RepSt c H' δ' σ' → RepS c H' S' → Q σ' H'
theorem PostNx.fr {H H1 : Hp} {S S1 : Store} {N : DSt → Store → Prop} {Q : L2.St → Hp → Prop} (h : PostNx c H S N Q) (f : Fr H S H1 S1) : PostNx c H1 S1 N Q := fun d S' v H' p f2 r s => h d S' v H' p (f.trans f2) r s
def liftS (c : Cfg) (E : XK) (t : DTS) : TS := fun D σ H => ∃ δ S W N R, RepSt c H δ σ ∧ RepS c H S ∧ t W ⟨N, R⟩ δ S ∧ PostNx c H S N D.nx ∧ Post c H S R D.rt ∧ PostX c H S W E
theorem _root_.L2.PS.imp {X : Cx} {e : Stmt} {t t' : TS} (h : PS X e t) (i : ∀ D σ H, t' D σ H → t D σ H) : PS X e t' := ⟨fun pins s σ H D I q => h.run pins s σ H D I (i D σ H q)⟩
theorem _root_.L2.PSs.imp {X : Cx} {e : List Stmt} {t t' : TS} (h : PSs X e t) (i : ∀ D σ H, t' D σ H → t D σ H) : PSs X e t' := ⟨fun pins s σ H D I q => h.run pins s σ H D I (i D σ H q)⟩
variable {st : Stmt} {sts : List Stmt} {ts tss : DTS}
theorem dss_nil : PSs X [] (liftS c E fun W D δ S => D.nx δ S) := pss_nil.imp fun D σ H h => by
  obtain ⟨δ, S, W, N, R, hσ, hS, ht, hN, hR, hX⟩ := h
  exact hN δ S σ H ht Fr.refl hσ hS
theorem dss_cons (h1 : PS X st (liftS c E ts)) (h2 : PSs X sts (liftS c E tss)) : PSs X (st :: sts) (liftS c E fun W D δ S => ts W ⟨fun δ' S' => ∃ S2, Le S2 S' ∧ tss W D δ' S2, D.rt⟩ δ S) := (pss_cons h1 h2).imp fun D σ H h => by
  obtain ⟨δ, S, W, N, R, hσ, hS, ht, hN, hR, hX⟩ := h
  refine ⟨δ, S, W, _, R, hσ, hS, ht, fun δ' S' σ' H' h' f r s => ?_, hR, hX⟩
  obtain ⟨S2, l, h'⟩ := h'
  have f2 := f.drop l
  exact ⟨δ', S2, W, N, R, r, s.drop l, h', hN.fr f2, hR.fr f2, hX.fr f2⟩
theorem ds_pass : PS X (.Pass pos) (liftS c E fun W D δ S => D.nx δ S) := ps_pass.imp fun D σ H h => by
  obtain ⟨δ, S, W, N, R, hσ, hS, ht, hN, hR, hX⟩ := h
  exact hN δ S σ H ht Fr.refl hσ hS
theorem ds_expr (he : PE X e (lift c E te)) (hs : swapsWith e none pos.line X.env = pure false) : PS X (.Expr e pos) (liftS c E fun W D δ S => te W δ S fun _ S1 => D.nx δ S1) := (ps_expr he hs).imp fun D σ H h => by
  obtain ⟨δ, S, W, N, R, hσ, hS, ht, hN, hR, hX⟩ := h
  exact ⟨δ, S, _, W, hσ, hS, ht, fun x S1 v H1 h1 f1 r1 s1 => hN δ S1 σ H1 h1 f1 (hσ.ext (f1.ext hS)) s1, hX⟩
theorem ds_ret (he : PE X e (lift c E te)) : PS X (.Return (some e) pos) (liftS c E fun W D δ S => te W δ S D.rt) := (ps_ret he).imp fun D σ H h => by
  obtain ⟨δ, S, W, N, R, hσ, hS, ht, hN, hR, hX⟩ := h
  exact ⟨δ, S, _, W, hσ, hS, ht, hR, hX⟩
theorem ds_ret0 : PS X (.Return none pos) (liftS c E fun W D δ S => D.rt .non S) := ps_retN.imp fun D σ H h => by
  obtain ⟨δ, S, W, N, R, hσ, hS, ht, hN, hR, hX⟩ := h
  exact hR .non S .non H ht Fr.refl rfl hS
variable {s1 s2 : List Stmt} {t1 t2 : DTS}
theorem ds_if (hc : PT X d (liftT c E tc)) (ha : PSs X s1 (liftS c E t1)) (hb : PSs X s2 (liftS c E t2)) : PS X (.If d s1 s2 pos) (liftS c E fun W D δ S => tc W δ S fun x S1 => asB x fun k => if k then t1 W D δ S1 else t2 W D δ S1) := (ps_if hc ha hb).imp fun D σ H h => by
  obtain ⟨δ, S, W, N, R, hσ, hS, ht, hN, hR, hX⟩ := h
  refine ⟨δ, S, _, W, hσ, hS, ht, fun k S1 H1 h1 f1 r1 => ?_, hX⟩
  cases k with
  | true => exact ⟨δ, S1, W, N, R, hσ.ext (f1.ext hS), r1, h1, hN.fr f1, hR.fr f1, hX.fr f1⟩
  | false => exact ⟨δ, S1, W, N, R, hσ.ext (f1.ext hS), r1, h1, hN.fr f1, hR.fr f1, hX.fr f1⟩
/-! #### assignments -/
theorem ds_set {i : Nat} {x : Str} {pos' : Pos} (hN : X.N.Nodup) (hi : X.N[i]? = some x) (hx : Loc X.env.scope x) (he : PE X e (lift c E te)) (hs : swapsWith e (some (.Name x pos')) pos.line X.env = pure false) (hf : X.fn x = true ∨ X.env.scope.names.lookup x = some .local) :
    PS X (.Assign [.Name x pos'] e pos) (liftS c E fun W D δ S => te W δ S fun v S1 => D.nx (δ.set i (some v)) S1) := (ps_set hN hi hx he hs hf).imp fun D σ H h => by
  obtain ⟨δ, S, W, N, R, hσ, hS, ht, hN, hR, hX⟩ := h
  exact ⟨δ, S, _, W, hσ, hS, ht, fun x S1 v H1 h1 f1 r1 s1 => hN _ S1 _ H1 h1 f1 ((hσ.ext (f1.ext hS)).set i r1) s1, hX⟩
theorem ds_asg {tgE : Expr} {tg : Tg} (he : PE X e (lift c E te)) (hg : PG X tgE (liftG c tg)) (hs : swapsWithSole [tgE] e pos.line X.env = pure false) (hw : swappedStores [tgE] e X.env = pure none) (h1 : (assignEach [tgE] X.env).map (·.2) = [assign tgE X.env]) :
    PS X (.Assign [tgE] e pos) (liftS c E fun W D δ S => te W δ S fun v S1 => rTg tg v S1 δ fun δ' => D.nx δ' S1) := (ps_asg he hg hs hw h1).imp fun D σ H h => by
  obtain ⟨δ, S, W, N, R, hσ, hS, ht, hN, hR, hX⟩ := h
  exact ⟨δ, S, _, W, hσ, hS, ht, fun x S1 v H1 h1 f1 r1 s1 => ⟨x, δ, S1, _, r1, hσ.ext (f1.ext hS), s1, h1, fun δ' σ' hk r' _ => hN δ' S1 σ' H1 hk f1 r' s1⟩, hX⟩
theorem ds_setA {f : String} {pos' : Pos} (hcl : ClsOk c X.K) (hfd : f ∈ c.fields) (ho : PE X o (lift c E ta)) (he : PE X e (lift c E te)) (hs : swapsWith e (some (.Attribute o (os f) pos')) pos.line X.env = pure false) :
    PS X (.Assign [.Attribute o (os f) pos'] e pos) (liftS c E fun W D δ S => te W δ S fun v S1 => ta W δ S1 fun d S2 => rSetA d f v S2 fun S3 => D.nx δ S3) := (ps_fld ho he hs).imp fun D σ H h => by
  obtain ⟨δ, S, W, N, R, hσ, hS, ht, hN, hR, hX⟩ := h
  refine ⟨δ, S, _, W, hσ, hS, ht, fun y S1 yv H1 h1 f1 r1 s1 => ?_, hX⟩
  refine ⟨δ, S1, _, W, hσ.ext (f1.ext hS), s1, h1, fun x S2 xv H2 h2 f2 r2 s2 => ?_, hX.fr f1⟩
  unfold rSetA at h2
  simp only at h2
  split at h2
  · split at h2
    · rename_i cl fs hd
      obtain ⟨hz, h2⟩ := h2
      cases r2
      obtain ⟨hx, hf, dx, fv, hv, rf⟩ := s2.ins hd
      have f12 := f1.trans f2
      have hput : ∀ (l : List (String × Nf.D)), (∀ p ∈ l, p.1 ∈ c.fields) → ∀ p ∈ Nf.putF f y l, p.1 ∈ c.fields := by
        intro l
        induction l with
        | nil => intro _ p hp; rw [List.mem_singleton.mp hp]; exact hfd
        | cons g r ih =>
          intro hl p hp
          obtain ⟨g, u⟩ := g
          unfold Nf.putF at hp
          split at hp
          · rcases List.mem_cons.mp hp with rfl | hp
            · exact hfd
            · exact hl p (List.mem_cons_of_mem _ hp)
          · rcases List.mem_cons.mp hp with rfl | hp
            · exact hl _ List.mem_cons_self
            · exact ih (fun q hq => hl q (List.mem_cons_of_mem _ hq)) p hp
      obtain ⟨s3, f3⟩ := s2.write (u := .ins (He.ga c.K (os cl)) dx (L2.putF (os f) yv fv)) (o' := .ins cl (Nf.putF f y fs)) hd fun ex => ⟨hx, hput fs hf, dx, _, upd_same, repF_put (Paired.mono2 (fun _ _ z => ⟨z.1, z.2.ext ex⟩) rf) f ((r1.ext (f2.ext s1)).ext ex)⟩
      exact ⟨_, _, dx, fv, rfl, hv, (hcl _ hx).1, (hcl _ hx).2 f hfd, by rw [← Paired.length rf]; omega, hN _ _ _ _ h2 (f12.trans f3) (hσ.ext ((f12.trans f3).ext hS)) s3⟩
    · cases h2
  · cases h2
theorem ds_setI {i : Expr} {ti : DTE} {pos' : Pos} (hp : PSet X (liftSet c)) (ho : PE X o (lift c E ta)) (hi : PE X i (lift c E ti)) (he : PE X e (lift c E te))
    (hag : ∀ v, assign (.Subscript o i pos') X.env v = (do
      let ov ← holding [v] (eval o X.env)
      let iv ← holding [v, ov] (eval i X.env)
      standAt pos'
      holding [v, ov, iv] (setItem ov iv v)
      release [v, ov, iv] [])) (hs : swapsWithSole [.Subscript o i pos'] e pos.line X.env = pure false) (hw : swappedStores [.Subscript o i pos'] e X.env = pure none) (h1 : (assignEach [.Subscript o i pos'] X.env).map (·.2) = [assign (.Subscript o i pos') X.env]) :
    PS X (.Assign [.Subscript o i pos'] e pos) (liftS c E fun W D δ S => te W δ S fun v S1 => ta W δ S1 fun d S2 => ti W δ S2 fun j S3 => rSetI d j v S3 fun S4 => D.nx δ S4) := (ps_asg he (pg_sub ho hi hp hag) hs hw h1).imp fun D σ H h => by
  obtain ⟨δ, S, W, N, R, hσ, hS, ht, hN, hR, hX⟩ := h
  refine ⟨δ, S, _, W, hσ, hS, ht, fun y S1 yv H1 h1 f1 r1 s1 => ?_, hX⟩
  refine ⟨δ, S1, _, W, hσ.ext (f1.ext hS), s1, h1, fun x S2 xv H2 h2 f2 r2 s2 => ?_, hX.fr f1⟩
  have f12 := f1.trans f2
  refine ⟨δ, S2, _, W, hσ.ext (f12.ext hS), s2, h2, fun z S3 zv H3 h3 f3 r3 s3 => ?_, hX.fr f12⟩
  have f123 := f12.trans f3
  exact ⟨x, z, y, S3, _, r2.ext (f3.ext s2), r3, r1.ext ((f2.trans f3).ext s1), s3, h3, fun S4 H4 h4 f4 s4 => hN δ S4 σ H4 h4 (f123.trans f4) (hσ.ext ((f123.trans f4).ext hS)) s4⟩
theorem ds_par2 {i j : Nat} {x y : Str} {px py pt : Pos} {kt k2 pt2} (hc : X.calm = true) (hN : X.N.Nodup) (hi : X.N[i]? = some x) (hj : X.N[j]? = some y) (hij : i ≠ j)
    (hx : X.env.scope.names.lookup x = some .local) (hy : X.env.scope.names.lookup y = some .local) (ha : PA X [a, b] (liftA c E t))
    (hw : swappedStores [.Tuple [.Name x px, .Name y py] kt pt] (.Tuple [a, b] k2 pt2) X.env = pure (some [x, y]))
    (hs : swapsWithSole [.Tuple [.Name x px, .Name y py] kt pt] (.Tuple [a, b] k2 pt2) pos.line X.env = pure false) :
    PS X (.Assign [.Tuple [.Name x px, .Name y py] kt pt] (.Tuple [a, b] k2 pt2) pos) (liftS c E fun W D δ S => t W δ S fun ds S1 => match setNs δ [i, j] ds with | some δ' => D.nx δ' S1 | none => False) := (ps_par hc hN hi hj hij hx hy ha hw hs).imp fun D σ H h => by
  obtain ⟨δ, S, W, N, R, hσ, hS, ht, hN, hR, hX⟩ := h
  refine ⟨δ, S, _, W, hσ, hS, ht, fun ds S1 vs H1 h1 f1 r1 s1 => ?_, hX⟩
  simp only at h1
  split at h1
  · rename_i δ' hs
    match ds, hs with
    | [d1, d2], hs =>
      cases hs
      obtain ⟨v, u, rfl, q1, q2⟩ := reps2 r1
      exact ⟨v, u, rfl, hN _ S1 _ H1 h1 f1 (((hσ.ext (f1.ext hS)).set i q1).set j q2) s1⟩
  · cases h1
theorem ds_par3 {i j l : Nat} {x y z : Str} {px py pz pt : Pos} {kt k2 pt2} (hc : X.calm = true) (hN : X.N.Nodup) (hi : X.N[i]? = some x) (hj : X.N[j]? = some y) (hl : X.N[l]? = some z) (hij : i ≠ j) (hil : i ≠ l) (hjl : j ≠ l)
    (hx : X.env.scope.names.lookup x = some .local) (hy : X.env.scope.names.lookup y = some .local) (hz : X.env.scope.names.lookup z = some .local) (ha : PA X [a, b, d] (liftA c E t))
    (hw : swappedStores [.Tuple [.Name x px, .Name y py, .Name z pz] kt pt] (.Tuple [a, b, d] k2 pt2) X.env = pure (some [x, y, z]))
    (hs : swapsWithSole [.Tuple [.Name x px, .Name y py, .Name z pz] kt pt] (.Tuple [a, b, d] k2 pt2) pos.line X.env = pure false) :
    PS X (.Assign [.Tuple [.Name x px, .Name y py, .Name z pz] kt pt] (.Tuple [a, b, d] k2 pt2) pos) (liftS c E fun W D δ S => t W δ S fun ds S1 => match setNs δ [i, j, l] ds with | some δ' => D.nx δ' S1 | none => False) := (ps_par3 hc hN hi hj hl hij hil hjl hx hy hz ha hw hs).imp fun D σ H h => by
  obtain ⟨δ, S, W, N, R, hσ, hS, ht, hN, hR, hX⟩ := h
  refine ⟨δ, S, _, W, hσ, hS, ht, fun ds S1 vs H1 h1 f1 r1 s1 => ?_, hX⟩
  simp only at h1
  split at h1
  · rename_i δ' hs
    match ds, hs with
    | [d1, d2, d3], hs =>
      cases hs
      obtain ⟨v, vs, rfl, q0, r1⟩ := RepL.cases_cons r1
      obtain ⟨u, w, rfl, q1, q2⟩ := reps2 r1
      exact ⟨v, u, w, rfl, hN _ S1 _ H1 h1 f1 ((((hσ.ext (f1.ext hS)).set i q0).set j q1).set l q2) s1⟩
  · cases h1
theorem ds_setLc {i : Nat} {y : Str} {py spos : Pos} {elt tgE iter : Expr} {ifs : List Expr} {scope : Scope} {own : List (Str × Nat)} {ti : DTI} {tg : Tg} {tt : DTE} (hc : X.calm = true) (hN : X.N.Nodup) (hy : X.N[i]? = some y) (hyl : X.env.scope.names.lookup y = some .local)
    (hsw : swapsWith (.ListComp elt [⟨tgE, iter, ifs, 0⟩] scope pos) (some (.Name y py)) spos.line X.env = pure true) (hi : PI X tgE iter (liftI c E ti)) (ok : BlkOk X.N X.env.scope scope own) (hsub : ∀ i ∈ tgSlots tg, i ∈ own.map (·.2))
    (hg : ∀ (s : Shared) (H : Hp) (C : Addr) (cl : List (Str × Addr)) (fp : List Addr), PG (X.blk s H scope (compEnvC scope cl C X.env) fp) tgE (liftG c tg)) (ht : ∀ (s : Shared) (H : Hp) (C : Addr) (cl : List (Str × Addr)) (fp : List Addr), PTs (X.blk s H scope (compEnvC scope cl C X.env) fp) ifs (liftT c XF tt))
    (he : ∀ (s : Shared) (H : Hp) (C : Addr) (cl : List (Str × Addr)) (fp : List Addr), PE (X.blk s H scope (compEnvC scope cl C X.env) fp) elt (lift c XF te)) (hs : ∀ x, foldedSetIterable iter X.env x = pure x) :
    PS X (.Assign [.Name y py] (.ListComp elt [⟨tgE, iter, ifs, 0⟩] scope pos) spos) (liftS c E fun W D δ S => dLc ti tg tt te (own.map (·.2)) W δ S fun v S1 => D.nx (δ.set i (some v)) S1) := (ps_setLc hc hN hy hyl hsw hi ok hg ht he hs).imp fun D σ H h => by
  obtain ⟨δ, S, W, N, R, hσ, hS, ht, hN, hR, hX⟩ := h
  exact lc_imp hsub ⟨δ, S, _, W, hσ, hS, ht, fun x S1 v H1 h1 f1 r1 s1 => hN _ S1 _ H1 h1 f1 ((hσ.ext (f1.ext hS)).set i r1) s1, hX⟩

/-! #### loops -/
theorem ds_for {tgE iter : Expr} {body : List Stmt} {ti : DTI} {tg : Tg} {tb : DTS} (hp : PassesOwn (model X.prog X.w) X.A X.env X.xe) (hc : X.calm = true) (hi : PI X tgE iter (liftI c E ti)) (hg : PG X tgE (liftG c tg)) (hb : PSs X body (liftS c E tb)) (hs : ∀ x, foldedSetIterable iter X.env x = pure x) :
    PS X (.For tgE iter body [] pos) (liftS c E fun W D δ S => ti W δ S fun J S1 => forItems (fun d S' δ' K => rTg tg d S' δ' K) J.ok (fun D' δ' S' => tb W D' δ' S') D J.its δ S1) := (ps_for hp hc hi hg hb hs).imp fun D σ H h => by
  obtain ⟨δ, S, W, N, R, hσ, hS, ht, hN, hR, hX⟩ := h
  refine ⟨δ, S, _, W, hσ, hS, ht, fun w S1 J H1 h1 f1 s1 wo => ?_, hX⟩
  refine ⟨fun i m σ' H' => m = w.its.length - i ∧ i ≤ w.its.length ∧ ∃ δ' S', RepSt c H' δ' σ' ∧ RepS c H' S' ∧ Fr H1 S1 H' S' ∧ forItems (fun d S' δ' K => rTg tg d S' δ' K) w.ok (fun D' δ' S' => tb W D' δ' S') ⟨N, R⟩ (w.its.drop i) δ' S', ?_, ?_⟩
  · exact ⟨_, rfl, Nat.zero_le _, δ, S1, hσ.ext (f1.ext hS), s1, Fr.refl, by rw [List.drop_zero]; exact h1⟩
  · rintro i m σ' H' ⟨rfl, hi, δ', S', hσ', s', f', hl⟩
    by_cases hlt : i < w.its.length
    · have ed : w.its.drop i = w.its[i] :: w.its.drop (i + 1) := List.drop_eq_getElem_cons hlt
      rw [ed] at hl
      obtain ⟨ok, hl⟩ := hl
      obtain ⟨go, yl⟩ := (wo H' S' s' f' ok).2 i w.its[i] (List.getElem?_eq_getElem hlt)
      refine .inr ⟨go, fun σ2 H2 => i + 1 ≤ w.its.length ∧ ∃ δ' S', RepSt c H2 δ' σ2 ∧ RepS c H2 S' ∧ Fr H1 S1 H2 S' ∧ forItems (fun d S' δ' K => rTg tg d S' δ' K) w.ok (fun D' δ' S' => tb W D' δ' S') ⟨N, R⟩ (w.its.drop (i + 1)) δ' S',
        fun σ2 H2 q => ⟨w.its.length - (i + 1), by omega, rfl, q.1, q.2⟩, fun x H2 y => ?_⟩
      obtain ⟨rx, s2, f2, e2⟩ := yl x H2 y
      have fA := f'.trans f2
      refine ⟨w.its[i], δ', S', _, rx, hσ'.ext e2, s2, hl, fun δ3 σ3 h3 r3 _ => ?_⟩
      have fB := f1.trans fA
      refine ⟨δ3, S', W, _, R, r3, s2, h3, fun δ4 S4 σ4 H4 h4 f4 r4 s4 => ⟨hlt, δ4, S4, r4, s4, fA.trans f4, h4⟩, hR.fr fB, hX.fr fB⟩
    · have ei : i = w.its.length := by omega
      subst ei
      rw [List.drop_length] at hl
      obtain ⟨ok, hl⟩ := hl
      exact .inl ⟨(wo H' S' s' f' ok).1 _ (Nat.le_refl _), hN δ' S' σ' H' hl (f1.trans f') hσ' s'⟩
theorem ds_while {body : List Stmt} {tb : DTS} (hp : PassesOwn (model X.prog X.w) X.A X.env X.xe) (hc : PT X d (liftT c E tc)) (hb : PSs X body (liftS c E tb)) :
    PS X (.While d body [] pos) (liftS c E fun W D δ S => ∃ n, whileN (fun δ' S' K => tc W δ' S' fun d S1 => asB d fun b => K b S1) (fun D' δ' S' => tb W D' δ' S') D n δ S) := (ps_while hp hc hb).imp fun D σ H h => by
  obtain ⟨δ, S, W, N, R, hσ, hS, ⟨n, ht⟩, hN, hR, hX⟩ := h
  refine ⟨fun m σ' H' => ∃ δ' S', RepSt c H' δ' σ' ∧ RepS c H' S' ∧ Fr H S H' S' ∧ whileN (fun δ' S' K => tc W δ' S' fun d S1 => asB d fun b => K b S1) (fun D' δ' S' => tb W D' δ' S') ⟨N, R⟩ m δ' S', ⟨n, δ, S, hσ, hS, Fr.refl, ht⟩, ?_⟩
  rintro m σ' H' ⟨δ', S', hσ', s', f', hl⟩
  cases m with
  | zero => cases hl
  | succ m =>
    refine ⟨δ', S', _, W, hσ', s', hl, fun b S1 H1 h1 f1 s1 => ?_, hX.fr f'⟩
    have fA := f'.trans f1
    cases b with
    | false => exact hN δ' S1 σ' H1 h1 fA (hσ'.ext (f1.ext s')) s1
    | true =>
      refine ⟨fun σ2 H2 => ∃ δ' S', RepSt c H2 δ' σ2 ∧ RepS c H2 S' ∧ Fr H S H2 S' ∧ whileN (fun δ' S' K => tc W δ' S' fun d S1 => asB d fun b => K b S1) (fun D' δ' S' => tb W D' δ' S') ⟨N, R⟩ m δ' S', fun σ2 H2 q => ⟨m, Nat.lt_succ_self m, q⟩, ?_⟩
      exact ⟨δ', S1, W, _, R, hσ'.ext (f1.ext s'), s1, h1, fun δ4 S4 σ4 H4 h4 f4 r4 s4 => ⟨δ4, S4, r4, s4, fA.trans f4, h4⟩, hR.fr fA, hX.fr fA⟩
theorem ds_lock (h : PS X st (liftS c E ts)) : PS X st (liftS c E fun W D δ S => ∃ a kvs, S a = some (.dic kvs) ∧ ts WF ⟨fun δ' S' => S' a = some (.fdc kvs) ∧ D.nx δ' (put S' a (.dic kvs)), fun v S' => S' a = some (.fdc kvs) ∧ D.rt v (put S' a (.dic kvs))⟩ δ (put S a (.fdc kvs))) := (ps_lock h).imp fun D σ H h => by
  obtain ⟨δ, S, W, N, R, hσ, hS, ⟨d, kvs, hd, ht⟩, hN, hR, hX⟩ := h
  obtain ⟨u, hu, mu⟩ := hS.mutD hd
  refine ⟨d, u, hu, mu, fun od => ?_⟩
  obtain ⟨s1, ex⟩ := lock_in (od := od) hS hd hu
  refine ⟨δ, _, WF, _, _, hσ.ext ex, s1, ht, fun δ' S' σ' H' h' f' r' s' => ?_, fun x S' v H' h' f' r' s' => ?_, fun _ _ _ _ _ z _ _ _ => z.elim⟩
  · obtain ⟨_, h'⟩ := h'
    obtain ⟨e0, s2, f2, ex2⟩ := lock_out hS hd hu s' f'
    exact ⟨e0, hN δ' _ σ' _ h' f2 (r'.ext ex2) s2⟩
  · obtain ⟨_, h'⟩ := h'
    obtain ⟨e0, s2, f2, ex2⟩ := lock_out hS hd hu s' f'
    exact ⟨e0, hR x _ v _ h' f2 (r'.ext ex2) s2⟩
/-! #### raise -/
theorem ds_raise {cl m : Str} {x : String} {j : Nat} {p2 pos1 : Pos} {bmB : List Value} {B newId initId : String} (hc : X.calm = true) (tk : Takes X fun cls d _ H => E cls d H) (F : ExcBaseFacts B newId initId bmB) (q : PySem.W.excIn X.K (He.ga c.K (os x)) bmB newId = true) (gC : X.mg (os x) = some (.ref (He.ga c.K (os x))))
    (kC : PySem.W.keepIn X.K (.ref (He.ga c.K (os x))) = true) (r : Raises X (.ref (He.ga c.K (os x)))) (hg : Gl X (os x)) (hdb : (os x == ("__debug__" : Str)) = false) :
    PS X (.Raise (some (.Call (.Name (os x) p) [.Constant (.str m) j p2] [] pos1)) none pos) (liftS c E fun W D δ S => W ⟨x, none⟩ S) := (ps_raise hc tk (pmk_own F q gC kC r hg hdb)).imp fun D σ H h => by
  obtain ⟨δ, S, W, N, R, hσ, hS, ht, hN, hR, hX⟩ := h
  exact hX _ S _ none H ht Fr.refl ⟨rfl, rfl⟩ hS
end
end Nf
set_option Elab.async false
set_option linter.all false
set_option maxRecDepth 100000
set_option maxHeartbeats 4000000
/-! NfSet2: a[i], b[j] = x, y. -/
namespace Nf
open PySem PySem.Spec L2
open PyProof.Rows hiding St
section
variable {c : Cfg} {X : Cx} {E : XK} {e : Expr} {pos : Pos}
def dSet2 (te ta1 ti1 ta2 ti2 : DTE) : DTS := fun W D δ S => te W δ S fun v S2 => match v with
  | .tup [v1, v2] => ta1 W δ S2 fun d S3 => ti1 W δ S3 fun j S4 => rSetI d j v1 S4 fun S5 => ta2 W δ S5 fun d S6 => ti2 W δ S6 fun j S7 => rSetI d j v2 S7 fun S8 => D.nx δ S8
  | _ => False
theorem ds_set2 {o1 i1 o2 i2 : Expr} {te ta1 ti1 ta2 ti2 : DTE} {q1 q2 tp : Pos} {k : Nat} (hc : X.calm = true) (hp : PSet X (liftSet c)) (ho1 : PE X o1 (lift c E ta1)) (hi1 : PE X i1 (lift c E ti1)) (ho2 : PE X o2 (lift c E ta2)) (hi2 : PE X i2 (lift c E ti2)) (he : PE X e (lift c E te))
    (ha1 : ∀ v, assign (.Subscript o1 i1 q1) X.env v = (do
      let ov ← holding [v] (eval o1 X.env)
      let iv ← holding [v, ov] (eval i1 X.env)
      standAt q1
      holding [v, ov, iv] (setItem ov iv v)
      release [v, ov, iv] []))
    (ha2 : ∀ v, assign (.Subscript o2 i2 q2) X.env v = (do
      let ov ← holding [v] (eval o2 X.env)
      let iv ← holding [v, ov] (eval i2 X.env)
      standAt q2
      holding [v, ov, iv] (setItem ov iv v)
      release [v, ov, iv] []))
    (hs : swapsWithSole [.Tuple [.Subscript o1 i1 q1, .Subscript o2 i2 q2] k tp] e pos.line X.env = pure false) (hw : swappedStores [.Tuple [.Subscript o1 i1 q1, .Subscript o2 i2 q2] k tp] e X.env = pure none) (h1 : (assignEach [.Tuple [.Subscript o1 i1 q1, .Subscript o2 i2 q2] k tp] X.env).map (·.2) = [assign (.Tuple [.Subscript o1 i1 q1, .Subscript o2 i2 q2] k tp) X.env]) :
    PS X (.Assign [.Tuple [.Subscript o1 i1 q1, .Subscript o2 i2 q2] k tp] e pos) (liftS c E (dSet2 te ta1 ti1 ta2 ti2)) :=
  (ps_asg he (pg_tup (n := 2) hc (pgs_cons (pg_sub ho1 hi1 hp ha1) (pgs_cons (pg_sub ho2 hi2 hp ha2) pgs_nil))) hs hw h1).imp fun D σ H h => by
  obtain ⟨δ, S, W, N, R, hσ, hS, ht, hN, hR, hX⟩ := h
  refine ⟨δ, S, _, W, hσ, hS, ht, fun v S1 vv H1 h1 f1 r1 s1 => ?_, hX⟩
  simp only at h1
  split at h1
  · rename_i v1 v2
    obtain ⟨a, vs, rfl, ha, rv⟩ := r1.tup_eq
    obtain ⟨w1, w2, rfl, e1, e2⟩ := reps2 rv
    refine ⟨a, [w1, w2], rfl, SqT.of ha, rfl, w1, [w2], rfl, ?_⟩
    refine ⟨δ, S1, _, W, hσ.ext (f1.ext hS), s1, h1, fun x S2 xv H2 h2 f2 r2 s2 => ?_, hX.fr f1⟩
    have f12 := f1.trans f2
    refine ⟨δ, S2, _, W, hσ.ext (f12.ext hS), s2, h2, fun z S3 zv H3 h3 f3 r3 s3 => ?_, hX.fr f12⟩
    have f123 := f12.trans f3
    refine ⟨x, z, v1, S3, _, r2.ext (f3.ext s2), r3, e1.ext ((f2.trans f3).ext s1), s3, h3, fun S4 H4 h4 f4 s4 => ?_⟩
    have g4 := f123.trans f4
    have g14 := (f2.trans f3).trans f4
    refine ⟨w2, [], rfl, ?_⟩
    refine ⟨δ, S4, _, W, hσ.ext (g4.ext hS), s4, h4, fun x S5 xv H5 h5 f5 r5 s5 => ?_, hX.fr g4⟩
    have g5 := g4.trans f5
    refine ⟨δ, S5, _, W, hσ.ext (g5.ext hS), s5, h5, fun z S6 zv H6 h6 f6 r6 s6 => ?_, hX.fr g5⟩
    have g6 := g5.trans f6
    exact ⟨x, z, v2, S6, _, r5.ext (f6.ext s5), r6, e2.ext (((g14.trans f5).trans f6).ext s1), s6, h6, fun S7 H7 h7 f7 s7 => ⟨rfl, hN δ S7 σ H7 h7 (g6.trans f7) (hσ.ext ((g6.trans f7).ext hS)) s7⟩⟩
  · cases h1
end
end Nf
set_option Elab.async false
set_option linter.all false
set_option maxRecDepth 100000
set_option maxHeartbeats 4000000
/-! NfTbl: a module's written dict of texts and numbers, asked by get. -/
namespace Nf
open PySem PySem.Spec L2
open PyProof.Rows hiding St
/-- such a dict stands at the name -/
def TblOk (K : PySem.W.Frag) (w : World) (n : String) (kvs : List (String × Int)) : Prop := ∃ es m, KDict K w (He.ga K (os n)) es m ∧ ∀ s : String, match kvs.lookup s with
  | some i => ∃ t, PySem.W.nsIn K (He.ga K (os n)) (os s) = some (some (.int i t))
  | none => PySem.W.nsIn K (He.ga K (os n)) (os s) = some none
section
variable {c : Cfg} {X : Cx} {E : XK}
theorem pe_tget {n : String} {kvs : List (String × Int)} {e : Expr} {es : List Expr} {t : DTA} {xp ap pos : Pos} (g : Gl X (os n)) (hd : (os n == ("__debug__" : Str)) = false) (hm : X.mg (os n) = some (.ref (He.ga X.K (os n)))) (tb : TblOk X.K X.w n kvs)
    (ha : PA X (e :: es) (liftA c E t)) (hst : (e :: es).all notStar = true) (hlen : (e :: es).length < 30) (hline : (ap.endLine == pos.line) = true) :
    PE X (.Call (.Attribute (.Name (os n) xp) (os "get") ap) (e :: es) [] pos) (lift c E fun W δ S Q => t W δ S fun ds S2 => rTget kvs ds S2 Q) := by
  obtain ⟨ens, m, D, tl⟩ := tb
  refine ⟨fun pins s σ H Q I h => ?_⟩
  obtain ⟨δ, S, P, W, hσ, hS, ht, hP, hX⟩ := h
  refine wpAny_Call_method_late (base_of rfl) (form_of hst hlen) hline rfl ?_
  refine thn ((pe_glob (v := .ref (He.ga X.K (os n))) g hm rfl hd).run pins s σ H (fun x H1 => x = .ref (He.ga X.K (os n)) ∧ H1 = H) I ⟨rfl, rfl⟩) fun v s1 ⟨x, H1, I1, rx, e1, e2⟩ => ?_
  subst e1 e2
  cases rx
  have ty := kd_type D I1
  refine ⟨"dict", "dict.get", PySem.F.plainAttrs_dict, PySem.F.slot_dict_get, PySem.F.type_dict_get, ty, fun a ha => ?_, ?_⟩
  · cases ha
    exact ⟨_, I1.kIn _ _ D.at_, rfl⟩
  have hA := ha.run pos pins s1 σ H1 (fun vs H2 => ∃ ds S2, RepL c H2 ds vs ∧ RepS c H2 S2 ∧ Fr H1 S H2 S2 ∧ rTget kvs ds S2 P) I1 ⟨δ, S, _, W, hσ, hS, ht, fun ds S2 vs H2 h2 f2 r2 s2 => ⟨ds, S2, r2, s2, f2, h2⟩, hX⟩
  have hb := back_any (pos := pos) (star_all (env := X.env) hst)
  rw [List.all_cons, Bool.and_eq_true] at hst
  rw [star_cons hst.1] at hA hb ⊢
  refine Calls.callWith_builtin hb (Calls.evalArgs_plain ?_)
  refine thn hA fun us s2 ⟨vs, H2, I2, r2, ds, S2, rl, s2', f2, h3⟩ => ?_
  unfold rTget at h3
  split at h3
  · rename_i z d
    obtain ⟨y1, y2, rfl, q1, q2⟩ := reps2 rl
    obtain ⟨u1, u2, rfl, w1, w2⟩ := vals2 r2
    cases q1
    cases q2
    obtain ⟨t1, rfl⟩ := w1
    obtain ⟨t2, rfl⟩ := w2
    refine call_meetsIn PySem.F.slot_dict_get (kd_type D I2) PySem.F.entry_dict_get (PySem.F.args_dict_get_3 _ _ _) (meets_dict_get_default (PySem.strKind X.prog X.w) (He.ga X.K (os n)) (PySem.strKind_is X.prog X.w (os z) t1) D.low (.int d t2)) ⟨_, PySem.W.mapOf_K (prog := X.prog) I2.kIn D.at_ D.lit, ?_⟩
    have tz := tl z
    cases hz : kvs.lookup z with
    | some i =>
      rw [hz] at tz h3
      obtain ⟨t3, tz⟩ := tz
      rw [PySem.W.find_K D.at_ tz]
      exact ⟨.int i, H2, I2.tok _, ⟨t3, rfl⟩, hP _ S2 _ H2 h3 f2 rfl s2'⟩
    | none =>
      rw [hz] at tz h3
      rw [PySem.W.find_K D.at_ tz]
      exact ⟨.int d, H2, I2.tok _, ⟨t2, rfl⟩, hP _ S2 _ H2 h3 f2 rfl s2'⟩
  · cases h3
end
end Nf
set_option Elab.async false
set_option linter.all false
set_option maxRecDepth 100000
set_option maxHeartbeats 4000000
/-! NfLens: len(set(pairs)), of unlike ones. -/
namespace Nf
open PySem PySem.Spec L2
open PyProof.Rows hiding St
def prL : D → List Int
  | .tup [.int i, .int j] => [i, j]
  | _ => []
theorem prL_inj {x y : D} (hx : x.isPair = true) (hy : y.isPair = true) (e : prL x = prL y) : x = y := by
  unfold D.isPair at hx hy
  split at hx
  · split at hy
    · simp only [prL, List.cons.injEq, and_true] at e
      rw [e.1, e.2]
    · cases hy
  · cases hx
theorem nodup_prL : ∀ {xs : List D}, (∀ x ∈ xs, x.isPair = true) → xs.Nodup → (xs.map prL).Nodup
  | [], _, _ => List.nodup_nil
  | x :: xs, h, nd => by
    rw [List.nodup_cons] at nd
    rw [List.map_cons, List.nodup_cons]
    refine ⟨fun hm => ?_, nodup_prL (fun y hy => h y (List.mem_cons_of_mem _ hy)) nd.2⟩
    obtain ⟨y, hy, e⟩ := List.mem_map.mp hm
    have := prL_inj (h y (List.mem_cons_of_mem _ hy)) (h x List.mem_cons_self) e
    exact nd.1 (this ▸ hy)
section
variable {c : Cfg} {X : Cx} {E : XK}
theorem pairs_refs {H : Hp} : ∀ {xs : List D} {vs : List V}, RepL c H xs vs → (∀ x ∈ xs, x.isPair = true) → ∃ ks : List (Addr × List Int), vs = ks.map (fun p => V.ref p.1) ∧ (∀ p ∈ ks, H p.1 = some (.tup (p.2.map V.int))) ∧ ks.map (·.2) = xs.map prL
  | [], vs, r, _ => ⟨[], RepL.nil_eq r, fun p hp => (by cases hp), rfl⟩
  | x :: xs, vs, r, h => by
    obtain ⟨v, vs, rfl, r1, r2⟩ := RepL.cases_cons r
    obtain ⟨ks, e1, e2, e3⟩ := pairs_refs r2 fun y hy => h y (List.mem_cons_of_mem _ hy)
    have hp := h x List.mem_cons_self
    obtain ⟨t, rfl, ht, hpr⟩ := pair_rep r1 hp
    refine ⟨(t, prL x) :: ks, by rw [e1]; rfl, fun p hp2 => ?_, by rw [List.map_cons, e3]; rfl⟩
    rcases List.mem_cons.mp hp2 with rfl | hp2
    · show H t = _
      rw [ht, hpr]
      unfold D.isPair at hp
      split at hp
      · rfl
      · cases hp
    · exact e2 p hp2
theorem pe_lens {a : Expr} {ta : DTE} {p p2 q pos : Pos} (hc : X.calm = true) (hu : X.A.units + 70 < cLine) (hg : Gl X "len") (hm : X.mg "len" = none) (hg2 : Gl X "set") (hm2 : X.mg "set" = none) (ha : PE X a (lift c E ta)) (hst : notStar a = true) :
    PE X (.Call (.Name "len" p) [.Call (.Name "set" p2) [a] [] q] [] pos) (lift c E fun W δ S Q => ta W δ S fun d S1 => rLens d S1 Q) := by
  refine ⟨fun pins s σ H Q I h => ?_⟩
  obtain ⟨δ, S, P, W, hσ, hS, ht, hP, hX⟩ := h
  refine Call_ (ld_blt I hg hm PySem.boot_len ?_)
  refine PyProof.Rows.callWith_builtin1 (PyProof.Rows.args_cons ?_ rfl) rfl rfl
  refine Call_ (ld_blt I hg2 hm2 PyProof.Rows.boot_set ?_)
  have na : starEach [a] X.env = (false, eval a X.env) :: starEach [] X.env := star_cons hst
  refine PyProof.Rows.callWith_type1 (PyProof.Rows.args_cons (thn (ha.run pins s σ H (fun x H1 => ∃ d S1, RepV c H1 d x ∧ RepS c H1 S1 ∧ Fr H S H1 S1 ∧ rLens d S1 P) I ⟨δ, S, _, W, hσ, hS, ht, fun d S1 v H1 h1 f1 r1 s1 => ⟨d, S1, r1, s1, f1, h1⟩, hX⟩) fun v s1 ⟨x, H1, I1, r1, d, S1, rd, hS1, f1, h1⟩ => PyProof.Rows.args_nil ?_) na) na rfl
  unfold rLens at h1
  split at h1
  · rename_i l
    split at h1
    · rename_i xs hd
      obtain ⟨hp, nd, hl, h1⟩ := h1
      cases rd
      cases r1
      obtain ⟨vs, hv, rv⟩ := hS1.lst hd
      obtain ⟨ks, rfl, k2, k3⟩ := pairs_refs rv hp
      have hkl : ks.length = xs.length := by
        have := congrArg List.length k3
        simpa using this
      obtain ⟨its, r, pl, hz⟩ := I1.list (SqL.of hv : SqL X.K H1 l (ks.map fun p => V.ref p.1))
      refine call_set_tups (P := X.prog) (w := X.w) ks (I1.ok.hd hc) pl.isList (by simpa using refs_of_vals r) (fun p hp => I1.isT (SqT.of (k2 p hp))) (by omega) (by omega) fun h' tk L es ep t R g k => ?_
      refine PyProof.Rows.args_nil ?_
      have e1 : L.length = xs.length := by
        have n2 : (ks.map (·.2)).Nodup := by rw [k3]; exact nodup_prL hp nd
        have p1 : (L.map (·.2)).Perm (ks.map (·.2)) := by
          rw [List.perm_ext_iff_of_nodup R.nd n2]
          intro z
          constructor
          · intro hz
            obtain ⟨p, hp, rfl⟩ := List.mem_map.mp hz
            exact List.mem_map_of_mem (List.mem_of_mem_take (g.sub p hp))
          · intro hz
            obtain ⟨p, hp, rfl⟩ := List.mem_map.mp hz
            exact g.all p (by rw [List.take_length]; exact hp)
        have := p1.length_eq
        rw [List.length_map, List.length_map] at this
        omega
      have I2 : Inv X pins σ H1 { s1 with heap := h', toks := tk } := I1.kept fun b o e => k b o e
      obtain ⟨o, ho, hex, hd2⟩ := R.ob
      have sz := SetTR.size (s := { s1 with heap := h', toks := tk }) R
      refine call_len_set ho hex hd2 (SetTR.fits (s := { s1 with heap := h', toks := tk }) R) (by rw [sz]; omega) ⟨.int xs.length, H1, I2.tok _, ⟨_, by rw [sz, e1]⟩, ?_⟩
      exact hP _ S1 _ H1 h1 f1 rfl hS1
    · cases h1
  · cases h1
end
end Nf
set_option Elab.async false
set_option linter.all false
set_option maxRecDepth 100000
set_option maxHeartbeats 4000000
/-! NfChk: the checker of expressions. -/
namespace Nf
open PySem PySem.Spec L2
open PyProof.Rows hiding St

/-! ### what the checker is told -/
structure Ck where
  N : List Str
  sc : Scope
  raw : Scope
  cs : List (String × D)
  free : List String
  fns : List String
  ms : List (String × String)
  mks : List String
  exs : List String
  flds : List String
  tbs : List (String × List (String × Int))
  /-- no exception is in hand -/
  calm : Bool := true
  /-- a lambda may be handed to _law_word -/
  lam : Bool := false
  /-- the name of the exception in hand; the classes, the fields it may be asked for -/
  exn : Option Nat := none
  isx : List String := []
  xfs : List String := []
  /-- refusals are caught -/
  try_ : Bool := false
  /-- classes with an own __init__ that sets a field -/
  exi : List (String × String) := []
def kCmp : COp → CmpOp
  | .eq => .Eq | .ne => .NotEq | .lt => .Lt | .le => .LtE | .gt => .Gt | .ge => .GtE | .inn => .In | .nin => .NotIn | .is => .Is | .isn => .IsNot
def biName : BI → String
  | .len => "len" | .int => "int" | .str => "str" | .list => "list" | .tuple => "tuple" | .dict => "dict" | .set => "set" | .sorted => "sorted" | .min => "min" | .max => "max" | .isinst => "isinstance"
def lmName : LM → String
  | .append => "append" | .extend => "extend" | .pop => "pop" | .index => "index" | .remove => "remove" | .reverse => "reverse" | .clear => "clear"
def dmName : DM → String
  | .get => "get" | .pop => "pop" | .update => "update"
def smName : SM → String
  | .split => "split" | .join => "join"
def tyNames : List String := ["int", "bool", "str", "tuple", "list"]
def Ck.gl (ck : Ck) (x : Str) : Bool := decide (ck.sc.names.lookup x = some .globalImplicit) && !(x == ("__debug__" : Str))
def Ck.vis (ck : Ck) (x : Str) : Bool := (match ck.sc.names.lookup x with
  | some .local => true
  | some .cell => true
  | some .free => true
  | _ => false) && !(x == ("__debug__" : Str)) && !(x == ("__classdict__" : Str))
def Ck.bi (ck : Ck) (n : String) : Bool := ck.gl (os n) && ck.free.contains n && !(os n == ("__name__" : Str))
/-- a name that may be stored -/
def Ck.st (ck : Ck) (i : Nat) (x : Str) : Bool := decide (ck.N[i]? = some x) && (match ck.raw.names.lookup x with
  | some .local => true
  | some .cell => true
  | _ => false)
def Ck.blk (ck : Ck) (scope : Scope) : Ck := { ck with sc := relS scope ck.sc, raw := scope, lam := false, exn := none, try_ := false }
/-- in a try -/
def Ck.trb (ck : Ck) : Ck := { ck with lam := false, exn := none, try_ := false }
/-- in a lambda -/
def Ck.lamb (ck : Ck) (scope : Scope) : Ck := { ck with sc := scope, raw := scope, lam := false, exn := none, calm := true, try_ := false }
def plainIx : Expr → Bool
  | .Slice .. => false
  | _ => true
def plainTest : Expr → Bool
  | .UnaryOp .. => false
  | .BoolOp .. => false
  | .IfExp .. => false
  | .Compare .. => false
  | _ => true
def unfolded : Expr → Bool
  | .Set .. => false
  | _ => true
def litOk (ck : Ck) (d : D) : Expr → Bool
  | .Constant (.int i) _ _ => decide (d = .int i)
  | .Constant (.str s) _ _ => (match d with | .str z => decide (s = os z) | _ => false)
  | .Constant (.bool b) _ _ => decide (d = .bl b)
  | .Constant .none _ _ => decide (d = .non)
  | .Name x _ => ck.gl x && (ck.cs.any (fun p => decide (x = os p.1) && decide (d = p.2)) || (tyNames.any fun n => decide (x = os n) && decide (d = .ty n) && ck.bi n))
  | _ => false
def namesOk (ck : Ck) : List Nat → List Expr → Bool
  | [], [] => true
  | i :: is, .Name x _ :: es => ck.st i x && namesOk ck is es
  | _, _ => false
def tgOk (ck : Ck) : Tg → Expr → Bool
  | .v i, .Name x _ => ck.st i x
  | .t is, .Tuple es _ _ => ck.calm && namesOk ck is es
  | _, _ => false
def ownOf (ck : Ck) (own : List Nat) : List (Str × Nat) := own.map fun i => (ck.N.getD i Str.empty, i)
def lcShape (ck : Ck) (scope : Scope) (own : List Nat) (tg : Tg) (tgE iter : Expr) : Bool :=
  blkC ck.N ck.sc scope (ownOf ck own) && ((tgSlots tg).all fun i => own.contains i) && tgOk (ck.blk scope) tg tgE && unfolded iter && ck.calm
def biCalm : BI → Bool
  | .len => true | .int => true | .str => true | .list => true | .tuple => true | .isinst => true | _ => false
def isShape (ck : Ck) (i : Nat) (cl : String) : Expr → Bool
  | .Call (.Name x _) [.Name y _, .Name z _] [] _ => decide (x = os "isinstance") && decide (ck.exn = some i) && decide (ck.N[i]? = some y) && decide (z = os cl) && ck.bi "isinstance" && ck.vis y && ((ck.isx.contains cl && ck.gl z) || (cl == "ValueError" && ck.bi "ValueError"))
  | _ => false
def fldShape (ck : Ck) (i : Nat) (f : String) : Expr → Bool
  | .Attribute (.Name y _) g _ => decide (ck.exn = some i) && decide (ck.N[i]? = some y) && decide (g = os f) && ck.vis y && ck.xfs.contains f
  | _ => false
def noPars : Arguments → Bool
  | ⟨[], [], none, [], [], none, []⟩ => true
  | _ => false
mutual
def chk (t : Bool) : ME → Ck → Expr → Bool
  | .lit d, ck, e => litOk ck d e && (!t || plainTest e)
  | .var i, ck, e => (match e with
    | .Name x _ => decide (ck.N[i]? = some x) && ck.vis x
    | _ => false)
  | .bin op a b, ck, e => !t && (match e with
    | .BinOp x o y _ => decide (o = kOp op) && chk false a ck x && chk false b ck y
    | _ => false)
  | .neg a, ck, e => !t && (match e with
    | .UnaryOp .USub x _ => chk false a ck x
    | _ => false)
  | .cmp op a b, ck, e => (match e with
    | .Compare x [o] [y] _ => decide (o = kCmp op) && !behindInMarks o y && chk false a ck x && chk false b ck y
    | _ => false)
  | .cmp2 o1 o2 a b c, ck, e => (match e with
    | .Compare x [p, q] [y, z] _ => decide (p = kCmp o1) && decide (q = kCmp o2) && !lastMarks [p, q] [y, z] && chk false a ck x && chk false b ck y && chk false c ck z
    | _ => false)
  | .and_ a b, ck, e => (match e with
    | .BoolOp .And [x, y] _ => chk t a ck x && chk t b ck y
    | .BoolOp .And (x :: y :: z :: r) pos => chk t a ck x && chk t b ck (.BoolOp .And (y :: z :: r) pos)
    | _ => false)
  | .or_ a b, ck, e => (match e with
    | .BoolOp .Or [x, y] _ => chk t a ck x && chk t b ck y
    | .BoolOp .Or (x :: y :: z :: r) pos => chk t a ck x && chk t b ck (.BoolOp .Or (y :: z :: r) pos)
    | _ => false)
  | .not_ a, ck, e => (match e with
    | .UnaryOp .Not x _ => chk t a ck x
    | _ => false)
  | .ife c a b, ck, e => !t && (match e with
    | .IfExp x y z _ => chk true c ck x && chk false a ck y && chk false b ck z
    | _ => false)
  | .tup es, ck, e => !t && (match e with
    | .Tuple l _ _ => chkA es ck l
    | _ => false)
  | .lst es, ck, e => !t && (match e with
    | .List l _ => chkA es ck l
    | _ => false)
  | .dct es, ck, e => !t && (match e with
    | .Dict ks vs _ => decide (ks.length ≤ 15) && chkD es ck ks vs
    | _ => false)
  | .attr a f, ck, e => (match e with
    | .Attribute x g _ => decide (g = os f) && baseOk x && chk false a ck x
    | _ => false)
  | .ix a i, ck, e => (match e with
    | .Subscript x y _ => plainIx y && chk false a ck x && chk false i ck y
    | _ => false)
  | .slc a lo hi, ck, e => !t && (match e with
    | .Subscript x (.Slice l h none _) _ => chk false a ck x && chkO lo ck l && chkO hi ck h
    | _ => false)
  | .rev a, ck, e => !t && (match e with
    | .Subscript x (.Slice none none (some (.UnaryOp .USub (.Constant (.int 1) _ _) _)) _) _ => chk false a ck x
    | _ => false)
  | .call f es, ck, e => ck.calm && (match e with
    | .Call (.Name x _) l [] _ => decide (x = os f) && ck.fns.contains f && ck.gl x && l.all notStar && chkA es ck l
    | _ => false)
  | .mk c es, ck, e => !t && (ck.calm && match e with
    | .Call (.Name x _) l [] _ => decide (x = os c) && ck.mks.contains c && ck.gl x && l.all notStar && chkA es ck l
    | _ => false)
  | .bi f es, ck, e => (match e with
    | .Call (.Name x _) (y :: l) [] _ => decide (x = os (biName f)) && ck.bi (biName f) && (y :: l).all notStar && chkA es ck (y :: l) && (ck.calm || biCalm f)
    | _ => false)
  | .om cl a m es, ck, e => ck.calm && (match e with
    | .Call (.Attribute x g ap) l [] p => decide (g = os m) && ck.ms.contains (cl, m) && baseOk x && l.all notStar && decide (l.length < 30) && (ap.endLine == p.line) && chk false a ck x && chkA es ck l
    | _ => false)
  | .lm a m es, ck, e => (match e with
    | .Call (.Attribute x g ap) l [] p => decide (g = os (lmName m)) && baseOk x && l.all notStar && decide (l.length < 30) && (ap.endLine == p.line) && chk false a ck x && chkA es ck l
    | _ => false)
  | .dm a m es, ck, e => ck.calm && (match e with
    | .Call (.Attribute x g ap) l [] p => decide (g = os (dmName m)) && baseOk x && l.all notStar && decide (l.length < 30) && (ap.endLine == p.line) && chk false a ck x && chkA es ck l
    | _ => false)
  | .sm a m es, ck, e => (match e with
    | .Call (.Attribute x g ap) l [] p => decide (g = os (smName m)) && baseOk x && l.all notStar && decide (l.length < 30) && (ap.endLine == p.line) && chk false a ck x && chkA es ck l
    | _ => false)
  | .alt a b, ck, e => chk t a ck e && chk t b ck e
  | .lock a, ck, e => !t && chk false a ck e
  | .tag _ a, ck, e => chk t a ck e
  | .lens a, ck, e => ck.calm && (match e with
    | .Call (.Name x _) [.Call (.Name y _) [z] [] _] [] _ => decide (x = os "len") && decide (y = os "set") && ck.bi "len" && ck.bi "set" && notStar z && chk false a ck z
    | _ => false)
  | .tget n kvs es, ck, e => (match e with
    | .Call (.Attribute (.Name x _) g ap) (y :: l) [] p => decide (x = os n) && decide (g = os "get") && ck.tbs.contains (n, kvs) && ck.gl x && (y :: l).all notStar && decide ((y :: l).length < 30) && (ap.endLine == p.line) && chkA es ck (y :: l)
    | _ => false)
  | .word a, ck, e => (match e with
    | .Call (.Name x _) [.Lambda params body scope _] [] _ => decide (x = os "_law_word") && ck.lam && ck.gl x && noPars params && LamX.lamSB ck.sc scope && chk false a (ck.lamb scope) body
    | _ => false)
  | .isE i cl, ck, e => isShape ck i cl e
  | .exF i f, ck, e => fldShape ck i f e
  | .cnt a b, ck, e => (match e with
    | .Call (.Attribute x g ap) [.Constant (.bool b') _ _] [] p => decide (g = os "count") && decide (b' = b) && baseOk x && (ap.endLine == p.line) && chk false a ck x
    | _ => false)
  | .lc elt tg it ifs own, ck, e => !t && (match e with
    | .ListComp x [⟨tgE, iter, fs, 0⟩] scope _ => lcShape ck scope own tg tgE iter && chkI it ck tgE iter && chkF ifs (ck.blk scope) fs && chk false elt (ck.blk scope) x
    | _ => false)
def chkA : MEs → Ck → List Expr → Bool
  | .n, _, l => (match l with | [] => true | _ => false)
  | .c m ms, ck, l => (match l with
    | x :: r => notStar x && chk false m ck x && chkA ms ck r
    | _ => false)
def chkD : MEs → Ck → List (Option Expr) → List Expr → Bool
  | .n, _, ks, vs => (match ks, vs with | [], [] => true | _, _ => false)
  | .c m ms, ck, ks, vs => (match ms with
    | .c m2 ms2 => (match ks, vs with
      | some k :: ks, v :: vs => chk false m ck k && chk false m2 ck v && chkD ms2 ck ks vs
      | _, _ => false)
    | .n => false)
def chkO : MEo → Ck → Option Expr → Bool
  | .n, _, o => (match o with | none => true | _ => false)
  | .s m, ck, o => (match o with | some x => chk false m ck x | none => false)
def chkF : MEo → Ck → List Expr → Bool
  | .n, _, l => (match l with | [] => true | _ => false)
  | .s m, ck, l => (match l with | [x] => chk true m ck x | _ => false)
def chkI : MI → Ck → Expr → Expr → Bool
  | .over m, ck, _, e => chk false m ck e
  | .rng m, ck, _, e => (match e with
    | .Call (.Name x _) [y] [] _ => decide (x = os "range") && ck.bi "range" && notStar y && chk false m ck y
    | _ => false)
  | .rng2 m m2, ck, _, e => (match e with
    | .Call (.Name x _) [y, z] [] _ => decide (x = os "range") && ck.bi "range" && notStar y && notStar z && chk false m ck y && chk false m2 ck z
    | _ => false)
  | .enum m, ck, tg, e => (match e, tg with
    | .Call (.Name x _) [y] [] _, .Tuple .. => decide (x = os "enumerate") && ck.bi "enumerate" && notStar y && chk false m ck y
    | _, _ => false)
end
end Nf
set_option Elab.async false
set_option linter.all false
set_option maxRecDepth 100000
set_option maxHeartbeats 8000000
/-! NfSnd: what the checker passes is so: expressions. -/
namespace Nf
open PySem PySem.Spec L2
open PyProof.Rows hiding St

structure GoodE (c : Cfg) (ck : Ck) (Φ : Fenv) (k : Nat) (X : Cx) (E : XK) : Prop where
  hK : X.K = c.K
  hw : X.w = c.w
  hu : X.A.units + 70 < cLine
  hc : ck.calm = true → X.calm = true
  hN : X.N = ck.N
  nd : X.N.Nodup
  hsc : X.env.scope = ck.sc
  st : ∀ x, ck.raw.names.lookup x = some .local ∨ ck.raw.names.lookup x = some .cell → Loc X.env.scope x ∧ (X.fn x = true ∨ X.env.scope.names.lookup x = some .local)
  cls : ClsOk c X.K
  room : ck.calm = true → Room (k + 1) X.A
  ps : Passes (L2.CX X.prog X.w) X E
  cs : ∀ p ∈ ck.cs, ∃ v u, X.mg (os p.1) = some u ∧ RelV v u ∧ ∀ H, RepV c H p.2 v
  free : ∀ n ∈ ck.free, X.mg (os n) = none
  tbs : ∀ p ∈ ck.tbs, X.mg (os p.1) = some (.ref (He.ga X.K (os p.1))) ∧ TblOk X.K X.w p.1 p.2
  fns : ∀ f ∈ ck.fns, ∃ g fd ps, X.mg (os f) = some (.ref g) ∧ PySem.W.keepIn X.K (.ref g) = true ∧ Binds X.K fd ps [] ∧ FnOk X.prog X.w X.K X.mg X.base (L2.CX X.prog X.w) k g fd ps (liftSp c (Φ "" f))
  ms : ∀ p ∈ ck.ms, ∃ g fd ps, Cls X.K (He.ga c.K (os p.1)) ∧ Meth X.K (He.ga c.K (os p.1)) (os p.2) g ∧ Binds X.K fd ps [] ∧ FnOk X.prog X.w X.K X.mg X.base (L2.CX X.prog X.w) k g fd ps (liftSp c (Φ p.1 p.2))
  mks : ∀ cl ∈ ck.mks, cl ∈ c.classes ∧ X.mg (os cl) = some (.ref (He.ga c.K (os cl))) ∧ ∃ g fd ps, Mk X.K (He.ga c.K (os cl)) g ∧ Binds X.K fd ps [] ∧ FnOk X.prog X.w X.K X.mg X.base (L2.CX X.prog X.w) k g fd ps (liftSp c (Φ cl "__init__"))
  lam : ck.lam = true → ∀ (params : Arguments) (body : Expr) (scope : Scope) (p lpos pos : Pos) (td : DTE), Gl X (os "_law_word") → noPars params = true → LamX.LamS X.env.scope scope →
    (∀ (A : Around) (outer : List Env) (s : Shared) (H : Hp) (E' : XK) (f c' : Addr), Room (k + 1) (A.deeper (LamX.lamEnv X scope s.heap.objs.size f c')) → PE (LamX.lamCx X A outer s H E' scope f c') body (lift c E' td)) →
    PE X (.Call (.Name (os "_law_word") p) [.Lambda params body scope lpos] [] pos) (lift c E fun W δ S Q => td (fun x S' => wordD x fun d => Q d S') δ S Q)
  isE : ∀ i cl e, isShape ck i cl e = true → PE X e (lift c E fun W δ S Q => getS δ i fun d => Φ "$is" cl [d] S Q W)
  exF : ∀ i f e, fldShape ck i f e = true → PE X e (lift c E fun W δ S Q => getS δ i fun d => Φ "$fld" f [d] S Q W)
theorem no_is {ck : Ck} (h : ck.exn = none) {i : Nat} {cl : String} {e : Expr} : isShape ck i cl e = false := by
  unfold isShape
  split
  · rw [h]; simp
  · rfl
theorem no_fld {ck : Ck} (h : ck.exn = none) {i : Nat} {f : String} {e : Expr} : fldShape ck i f e = false := by
  unfold fldShape
  split
  · rw [h]; simp
  · rfl
section
variable {c : Cfg} {ck : Ck} {Φ : Fenv} {k : Nat} {X : Cx} {E : XK}
theorem GoodE.blk (G : GoodE c ck Φ k X E) (scope : Scope) (s : Shared) (H : Hp) (C : Addr) (cl : List (Str × Addr)) (fp : List Addr) : GoodE c (ck.blk scope) Φ k (X.blk s H scope (compEnvC scope cl C X.env) fp) XF where
  hK := G.hK
  hw := G.hw
  hu := G.hu
  hc := G.hc
  hN := G.hN
  nd := G.nd
  hsc := by
    show relabel scope X.env = relS scope ck.sc
    rw [← G.hsc]
    rfl
  st := fun x h => by
    rcases h with h | h
    · have q := lookup_relS_keep (sc := X.env.scope) (by decide) h
      exact ⟨.inl q, .inr q⟩
    · have q := lookup_relS_keep (sc := X.env.scope) (by decide) h
      have h' : scope.names.lookup x = some .cell := h
      exact ⟨.inr q, .inl (by show (scope.names.lookup x == some .cell) = true; rw [h']; rfl)⟩
  cls := G.cls
  room := G.room
  ps := fun _ _ _ _ _ _ _ h => by
    obtain ⟨_, _, _, _, _, _, _, _, _, _, _, _, z⟩ := h
    exact z.elim
  cs := G.cs
  free := G.free
  tbs := G.tbs
  fns := G.fns
  ms := G.ms
  mks := G.mks
  lam := fun z => nomatch z
  isE := fun i cl e h => by rw [no_is rfl] at h; cases h
  exF := fun i f e h => by rw [no_fld rfl] at h; cases h
theorem GoodE.lamb (G : GoodE c ck Φ k X E) {scope : Scope} (L : LamX.LamS X.env.scope scope) (A : Around) (outer : List Env) (s : Shared) (H : Hp) (E' : XK) (f c' : Addr) (hr : Room (k + 1) (A.deeper (LamX.lamEnv X scope s.heap.objs.size f c'))) : GoodE c (ck.lamb scope) Φ k (LamX.lamCx X A outer s H E' scope f c') E' where
  hK := G.hK
  hw := G.hw
  hu := by have := hr.un; show (A.deeper _).units + 70 < cLine; omega
  hc := fun _ => rfl
  hN := G.hN
  nd := G.nd
  hsc := rfl
  st := fun x h => by
    rcases h with h | h
    · exact absurd rfl (L.own _ (PySem.mem_of_lookup h)).1
    · exact absurd rfl (L.own _ (PySem.mem_of_lookup h)).2
  cls := G.cls
  room := fun _ => hr
  ps := passes_call (takes_of (X := LamX.lamCx X A outer s H E' scope f c') rfl rfl rfl rfl) fun _ _ _ _ z => z
  cs := G.cs
  free := G.free
  tbs := G.tbs
  fns := G.fns
  ms := G.ms
  mks := G.mks
  lam := fun z => nomatch z
  isE := fun i cl e h => by rw [no_is rfl] at h; cases h
  exF := fun i f e h => by rw [no_fld rfl] at h; cases h
theorem GoodE.gl (G : GoodE c ck Φ k X E) {x : Str} (h : ck.gl x = true) : Gl X x ∧ (x == ("__debug__" : Str)) = false := by
  unfold Ck.gl at h
  rw [Bool.and_eq_true, Bool.not_eq_true', decide_eq_true_eq] at h
  exact ⟨by show X.env.scope.names.lookup x = _; rw [G.hsc]; exact h.1, h.2⟩
theorem GoodE.vis (G : GoodE c ck Φ k X E) {x : Str} (h : ck.vis x = true) : Vis X.env.scope x ∧ (x == ("__debug__" : Str)) = false ∧ (x == ("__classdict__" : Str)) = false := by
  unfold Ck.vis at h
  rw [Bool.and_eq_true, Bool.and_eq_true, Bool.not_eq_true', Bool.not_eq_true'] at h
  obtain ⟨⟨h1, h2⟩, h3⟩ := h
  refine ⟨?_, h2, h3⟩
  rw [G.hsc]
  split at h1
  · exact .inl (by assumption)
  · exact .inr (.inl (by assumption))
  · exact .inr (.inr (by assumption))
  · cases h1
theorem GoodE.bi (G : GoodE c ck Φ k X E) {n : String} (h : ck.bi n = true) : Gl X (os n) ∧ X.mg (os n) = none ∧ os n ≠ "__name__" ∧ (os n == ("__debug__" : Str)) = false := by
  unfold Ck.bi at h
  rw [Bool.and_eq_true, Bool.and_eq_true, Bool.not_eq_true'] at h
  obtain ⟨⟨h1, h2⟩, h3⟩ := h
  obtain ⟨g1, g2⟩ := G.gl h1
  exact ⟨g1, G.free n (List.contains_iff_mem.mp h2), beq_eq_false_iff_ne.mp h3, g2⟩
theorem GoodE.sto (G : GoodE c ck Φ k X E) {i : Nat} {x : Str} (h : ck.st i x = true) : X.N[i]? = some x ∧ Loc X.env.scope x ∧ (X.fn x = true ∨ X.env.scope.names.lookup x = some .local) := by
  unfold Ck.st at h
  rw [Bool.and_eq_true, decide_eq_true_eq] at h
  obtain ⟨h1, h2⟩ := h
  refine ⟨by rw [G.hN]; exact h1, G.st x ?_⟩
  split at h2
  · exact .inl (by assumption)
  · exact .inr (by assumption)
  · cases h2
theorem GoodE.names (G : GoodE c ck Φ k X E) : ∀ {is : List Nat} {es : List Expr}, namesOk ck is es = true → Names X es is
  | [], [], _ => .nil
  | i :: is, .Name x p :: es, h => by
    unfold namesOk at h
    rw [Bool.and_eq_true] at h
    obtain ⟨a, b, d⟩ := G.sto h.1
    exact .cons a b d (G.names h.2)
  | [], e :: es, h => by unfold namesOk at h; cases h
  | i :: is, [], h => by unfold namesOk at h; cases h
  | i :: is, .BoolOp .. :: es, h => by unfold namesOk at h; cases h
  | i :: is, .NamedExpr .. :: es, h => by unfold namesOk at h; cases h
  | i :: is, .BinOp .. :: es, h => by unfold namesOk at h; cases h
  | i :: is, .UnaryOp .. :: es, h => by unfold namesOk at h; cases h
  | i :: is, .Lambda .. :: es, h => by unfold namesOk at h; cases h
  | i :: is, .IfExp .. :: es, h => by unfold namesOk at h; cases h
  | i :: is, .Dict .. :: es, h => by unfold namesOk at h; cases h
  | i :: is, .Set .. :: es, h => by unfold namesOk at h; cases h
  | i :: is, .ListComp .. :: es, h => by unfold namesOk at h; cases h
  | i :: is, .SetComp .. :: es, h => by unfold namesOk at h; cases h
  | i :: is, .DictComp .. :: es, h => by unfold namesOk at h; cases h
  | i :: is, .GeneratorExp .. :: es, h => by unfold namesOk at h; cases h
  | i :: is, .Await .. :: es, h => by unfold namesOk at h; cases h
  | i :: is, .Yield .. :: es, h => by unfold namesOk at h; cases h
  | i :: is, .YieldFrom .. :: es, h => by unfold namesOk at h; cases h
  | i :: is, .Compare .. :: es, h => by unfold namesOk at h; cases h
  | i :: is, .Call .. :: es, h => by unfold namesOk at h; cases h
  | i :: is, .FormattedValue .. :: es, h => by unfold namesOk at h; cases h
  | i :: is, .JoinedStr .. :: es, h => by unfold namesOk at h; cases h
  | i :: is, .Constant .. :: es, h => by unfold namesOk at h; cases h
  | i :: is, .Attribute .. :: es, h => by unfold namesOk at h; cases h
  | i :: is, .Subscript .. :: es, h => by unfold namesOk at h; cases h
  | i :: is, .Starred .. :: es, h => by unfold namesOk at h; cases h
  | i :: is, .List .. :: es, h => by unfold namesOk at h; cases h
  | i :: is, .Tuple .. :: es, h => by unfold namesOk at h; cases h
  | i :: is, .Slice .. :: es, h => by unfold namesOk at h; cases h
theorem GoodE.tg (G : GoodE c ck Φ k X E) {tg : Tg} {e : Expr} (h : tgOk ck tg e = true) : PG X e (liftG c tg) := by
  unfold tgOk at h
  split at h
  · obtain ⟨a, b, d⟩ := G.sto h
    exact dg_name G.nd a b d
  · rw [Bool.and_eq_true] at h
    exact dg_tup (G.hc h.1) G.nd (G.names h.2)
  · cases h
def Snd (t : Bool) (c : Cfg) (X : Cx) (E : XK) (e : Expr) (td : DTE) : Prop := match t with
  | false => PE X e (lift c E td)
  | true => PT X e (liftT c E td)
theorem Snd.val {t : Bool} {e : Expr} {td : DTE} (h : PE X e (lift c E td)) (he : t = true → ∀ whole, isTrue e X.env whole = (do let v ← whole; standAt e.pos; holding [v] (truthy v))) : Snd t c X E e td := by
  cases t with
  | false => exact h
  | true => exact dt_val h (he rfl)
theorem plain_test {e : Expr} {env : Env} (h : plainTest e = true) : ∀ whole, isTrue e env whole = (do let v ← whole; standAt e.pos; holding [v] (truthy v)) := by
  intro whole
  cases e <;> first | rfl | cases h
theorem plain_ix {e : Expr} (h : plainIx e = true) : PlainIx e := by
  intro o i
  cases e <;> first | rfl | cases h
theorem unfold_of {e : Expr} {env : Env} (h : unfolded e = true) : ∀ x, foldedSetIterable e env x = pure x := by
  intro x
  cases e <;> first | rfl | cases h
theorem opCmp (hK : X.K = c.K) (hw : X.w = c.w) (hu : X.A.units + 70 < cLine) (op : COp) : OpR X (compareOp (kCmp op)) (liftR2 c (asR2 (rCmp op))) := by
  cases op with
  | eq => exact op_eqN hK (by omega)
  | ne => exact op_neN hK (by omega)
  | lt => exact opOrd op_lt
  | le => exact opOrd op_le
  | gt => exact opOrd op_gt
  | ge => exact opOrd op_ge
  | inn => exact opIn hK hw hu
  | nin => exact opNin hK hw hu
  | is => exact opIs
  | isn => exact opIsN
theorem boot_isi : bootBuiltins (os "isinstance") = some (.builtin "isinstance") := by decide +kernel
theorem boot_enum : bootBuiltins (os "bool") = some (.type "bool") := by decide +kernel
theorem boot_ty {n : String} (h : n ∈ tyNames) : bootBuiltins (os n) = some (.type n) := by
  have : ∀ n ∈ tyNames, bootBuiltins (os n) = some (.type n) := by decide +kernel
  exact this n h
theorem boot_bt : bootBuiltins (os "len") = some (.builtin "len") ∧ bootBuiltins (os "sorted") = some (.builtin "sorted") ∧ bootBuiltins (os "min") = some (.builtin "min") ∧ bootBuiltins (os "max") = some (.builtin "max") ∧
  bootBuiltins (os "dict") = some (.type "dict") ∧ bootBuiltins (os "set") = some (.type "set") ∧ bootBuiltins (os "int") = some (.type "int") ∧ bootBuiltins (os "str") = some (.type "str") ∧ bootBuiltins (os "list") = some (.type "list") ∧ bootBuiltins (os "tuple") = some (.type "tuple") := by decide +kernel
theorem lit_snd (G : GoodE c ck Φ k X E) {d : D} {e : Expr} (h : litOk ck d e = true) : PE X e (lift c E fun W δ S Q => Q d S) := by
  unfold litOk at h
  split at h
  · rw [decide_eq_true_eq] at h; subst h; exact de_lit pe_int fun H => rfl
  · split at h
    · rw [decide_eq_true_eq] at h; subst h; exact de_lit pe_str fun H => rfl
    · cases h
  · rw [decide_eq_true_eq] at h; subst h; exact de_lit pe_bl fun H => rfl
  · rw [decide_eq_true_eq] at h; subst h; exact de_lit pe_non fun H => rfl
  · rw [Bool.and_eq_true, Bool.or_eq_true] at h
    obtain ⟨hg, h⟩ := h
    obtain ⟨g1, g2⟩ := G.gl hg
    rcases h with h | h
    · obtain ⟨p, hp, h⟩ := List.any_eq_true.mp h
      rw [Bool.and_eq_true, decide_eq_true_eq, decide_eq_true_eq] at h
      obtain ⟨rfl, rfl⟩ := h
      obtain ⟨v, u, h1, h2, h3⟩ := G.cs p hp
      exact de_lit (pe_glob g1 h1 h2 g2) h3
    · obtain ⟨n, hn, h⟩ := List.any_eq_true.mp h
      rw [Bool.and_eq_true, Bool.and_eq_true, decide_eq_true_eq, decide_eq_true_eq] at h
      obtain ⟨⟨rfl, rfl⟩, hb⟩ := h
      obtain ⟨b1, b2, b3, b4⟩ := G.bi hb
      exact de_lit (pe_bltn (v := .ty n) b1 b2 (boot_ty hn) rfl b3 b4) fun H => rfl
  · cases h
theorem bi_snd (G : GoodE c ck Φ k X E) {f : BI} {p pos : Pos} {y : Expr} {l : List Expr} {t : DTA} (h : ck.bi (biName f) = true) (hcl : (ck.calm || biCalm f) = true) (hst : (y :: l).all notStar = true) (ha : PA X (y :: l) (liftA c E t)) :
    PE X (.Call (.Name (os (biName f)) p) (y :: l) [] pos) (lift c E fun W δ S Q => t W δ S fun ds S1 => rBi f ds S1 Q) := by
  obtain ⟨b1, b2, b3, b4⟩ := G.bi h
  obtain ⟨q1, q2, q3, q4, q5, q6, q7, q8, q9, q10⟩ := boot_bt
  have hc' : biCalm f = false → X.calm = true := fun z => G.hc (by rw [z, Bool.or_false] at hcl; exact hcl)
  cases f with
  | len => exact de_bi (cLen G.hK G.hw G.hu) b1 b2 q1 ha b3 b4 hst
  | sorted => exact de_bi (cSorted G.hK (hc' rfl) G.hw) b1 b2 q2 ha b3 b4 hst
  | min => exact de_bi (cMin G.hK (hc' rfl)) b1 b2 q3 ha b3 b4 hst
  | max => exact de_bi (cMax G.hK (hc' rfl)) b1 b2 q4 ha b3 b4 hst
  | isinst => exact de_bi (cIsi G.hK) b1 b2 boot_isi ha b3 b4 hst
  | dict => exact de_ty (cDict (hc' rfl) G.hw G.hu) b1 b2 q5 ha b3 b4 hst
  | set => exact de_ty (cSet G.hw (hc' rfl)) b1 b2 q6 ha b3 b4 hst
  | int => exact de_ty cInt b1 b2 q7 ha b3 b4 hst
  | str => exact de_ty cStr b1 b2 q8 ha b3 b4 hst
  | list => exact de_ty (cList G.hK) b1 b2 q9 ha b3 b4 hst
  | tuple => exact de_ty cTuple b1 b2 q10 ha b3 b4 hst
theorem lm_slot (m : LM) : Slot "list" (os (lmName m)) (lmId m) ∧ typeOf (.builtin (lmId m)) = pure (.type "method_descriptor") := by
  cases m with
  | append => exact ⟨PySem.F.slot_list_append, PySem.F.type_list_append⟩
  | extend => exact ⟨PySem.F.slot_list_extend, PySem.F.type_list_extend⟩
  | pop => exact ⟨PySem.F.slot_list_pop, PySem.F.type_list_pop⟩
  | index => exact ⟨PySem.F.slot_list_index, PySem.F.type_list_index⟩
  | remove => exact ⟨PySem.F.slot_list_remove, PySem.F.type_list_remove⟩
  | reverse => exact ⟨PySem.F.slot_list_reverse, PySem.F.type_list_reverse⟩
  | clear => exact ⟨PySem.F.slot_list_clear, PySem.F.type_list_clear⟩
def dmId : DM → String
  | .get => "dict.get" | .pop => "dict.pop" | .update => "dict.update"
theorem dm_slot (m : DM) : Slot "dict" (os (dmName m)) (dmId m) ∧ typeOf (.builtin (dmId m)) = pure (.type "method_descriptor") := by
  cases m with
  | get => exact ⟨PySem.F.slot_dict_get, PySem.F.type_dict_get⟩
  | pop => exact ⟨PySem.F.slot_dict_pop, PySem.F.type_dict_pop⟩
  | update => exact ⟨PySem.F.slot_dict_update, PySem.F.type_dict_update⟩
theorem dm_mt (G : GoodE c ck Φ k X E) (hcl : ck.calm = true) (m : DM) : MtR X (dmId m) (liftM c (rDm m)) := by
  cases m with
  | get => exact mtGet G.hw G.hu
  | pop => exact mtPop G.hw G.hu
  | update => exact mtUpdate (G.hc hcl) G.hw G.hu
theorem sm_slot (m : SM) : Slot "str" (os (smName m)) (smId m) ∧ typeOf (.builtin (smId m)) = pure (.type "method_descriptor") := by
  cases m with
  | split => exact ⟨PySem.F.slot_str_split, PySem.F.type_str_split⟩
  | join => exact ⟨PySem.F.slot_str_join, PySem.F.type_str_join⟩
theorem pw_bool {op : BoolOp} {vs : List Expr} {p : Pos} {t : TT} (h : PT X (.BoolOp op vs p) t) : PW X (.BoolOp op vs p) t := ⟨fun wh pins s σ H Q I q => h.run pins s σ H Q I q⟩
end
end Nf
set_option Elab.async false
set_option linter.all false
set_option maxRecDepth 100000
set_option maxHeartbeats 8000000
/-! NfCnt: how often a truth stands in a list of truths. -/
namespace Nf
open PySem PySem.Spec L2
open PyProof.Rows hiding St
def eqb (k : Bool) (v : Value) : Bool := match v with
  | .bool n => n == k
  | _ => false
def rCntM : D → List D → Store → DQ → Prop := fun d ds S Q => match ds with
  | [.bl b] => rCnt b d S Q
  | _ => False
section
variable {c : Cfg} {X : Cx} {E : XK} {Φ : Fenv}
theorem eqb_gives {H : Hp} {k : Bool} : ∀ {us : List Value} {vs : List V} {ds : List D}, RepL c H ds vs → Vals vs us → (∀ x ∈ ds, ∃ b, x = .bl b) → (∀ y ∈ us, MeetsSeq.EqGives y (.bool k) (eqb k y)) ∧ us.countP (eqb k) = ds.count (.bl k)
  | us, vs, [], h, r, _ => by
    rw [RepL.nil_eq h] at r
    cases r
    exact ⟨fun y hy => (nomatch hy), rfl⟩
  | us, vs, d :: ds, h, r, hb => by
    obtain ⟨v, vs', rfl, h1, h2⟩ := RepL.cases_cons h
    obtain ⟨b, rfl⟩ := hb d List.mem_cons_self
    simp only [RepV] at h1
    subst h1
    cases r with
    | @cons _ u _ us' ru rr =>
      obtain rfl : u = Value.bool b := ru
      obtain ⟨g1, g2⟩ := eqb_gives h2 rr fun x hx => hb x (List.mem_cons_of_mem _ hx)
      refine ⟨fun y hy => ?_, ?_⟩
      · rcases List.mem_cons.mp hy with e | e
        · rw [e]
          intro prog w A E s Q h
          exact PySem.SeqAt.EqAt.bool_bool b k prog w E Q h
        · exact g1 y e
      · rw [List.countP_cons, List.count_cons, g2]
        congr 1
        cases b <;> cases k <;> rfl
theorem mtCnt (hK : X.K = c.K) : MtR X "list.count" (liftM c rCntM) := by
  intro pins s σ H x xs v us Q I rx rxs h
  obtain ⟨d, ds, S, P, r1, r2, hS, h, hP⟩ := h
  unfold rCntM at h
  split at h
  · rename_i b
    obtain ⟨w, ws, rfl, rw', r2⟩ := RepL.cases_cons r2
    rw [RepL.nil_eq r2] at rxs
    simp only [RepV] at rw'
    subst rw'
    unfold rCnt at h
    split at h
    · rename_i a
      split at h
      · rename_i xs' hd
        obtain ⟨hb, h⟩ := h
        simp only [RepV] at r1
        subst r1
        obtain ⟨vs, hv, rv⟩ := hS.lst hd
        cases rx
        obtain ⟨u, rfl, ru⟩ := rxs.one
        obtain rfl : u = Value.bool b := ru
        obtain ⟨its, rvs, ⟨⟨cls, dd, data, sl⟩, n, ho, hc, hdn, hdt⟩, hlen⟩ := I.list (.inl (.of hv) : SqL X.K H a vs)
        simp only at hc hdt
        subst hc hdt
        obtain ⟨g1, g2⟩ := eqb_gives (k := b) rv rvs hb
        refine call_meets PySem.F.slot_list_count ⟨_, ho, rfl⟩ PySem.F.entry_list_count (PySem.F.args_list_count_2 _ _)
          (PySem.SeqAt.list_countAt a its.toArray n dd sl (.bool b) (eqb b)) ⟨ho, fun y hy => (g1 y (by simpa using hy)).at _ _, ?_⟩
        refine ⟨.int ((xs'.count (D.bl b) : Nat) : Int), H, I.tok _, ⟨s.toks, ?_⟩, hP _ _ _ _ h Fr.refl rfl hS⟩
        show Value.int ((its.toArray.toList.countP (eqb b) : Nat) : Int) s.toks = Value.int ((xs'.count (.bl b) : Nat) : Int) s.toks
        rw [← g2]
      · cases h
    · cases h
  · cases h
theorem cnt_imp {a : ME} {b : Bool} {σ : L2.St} {H : Hp} {Q : VK} (h : lift c E (fun W δ S Q => wpE Φ W (.cnt a b) δ S Q) σ H Q) :
    lift c E (dBM (fun d S => match d with | .ref a => (match S a with | some (.lst _) => True | _ => False) | _ => False) rCntM (fun W δ S Q => wpE Φ W a δ S Q) (fun W δ S Q => Q [.bl b] S)) σ H Q := by
  obtain ⟨δ, S, P, W, hσ, hS, ht, hP, hX⟩ := h
  refine ⟨δ, S, P, W, hσ, hS, ?_, hP, hX⟩
  have e : (fun d S1 => rCnt b d S1 P) = fun d S1 => (match d with | .ref a => (match S1 a with | some (.lst _) => True | _ => False) | _ => False) ∧ rCntM d [.bl b] S1 P := by
    funext d S1
    unfold rCntM rCnt
    cases d with
    | ref a =>
      cases q : S1 a with
      | none => simp [q]
      | some o => cases o <;> simp [q]
    | _ => simp
  have ht : wpE Φ W a δ S (fun d S1 => rCnt b d S1 P) := ht
  rw [e] at ht
  exact ht
end
end Nf
set_option Elab.async false
set_option linter.all false
set_option maxRecDepth 100000
set_option maxHeartbeats 16000000
/-! NfSnd2: what the checker passes is so: the theorem for expressions. -/
namespace Nf
open PySem PySem.Spec L2
open PyProof.Rows hiding St
section
variable {c : Cfg} {Φ : Fenv} {k : Nat}
theorem and3 {a b d : Bool} (h : (a && b && d) = true) : a = true ∧ b = true ∧ d = true := by
  rw [Bool.and_eq_true, Bool.and_eq_true] at h
  exact ⟨h.1.1, h.1.2, h.2⟩
theorem nt {t a : Bool} (h : (!t && a) = true) : t = false ∧ a = true := by
  rw [Bool.and_eq_true, Bool.not_eq_true'] at h
  exact h
theorem alt_E {X : Cx} {E : XK} {e : Expr} {ta tb : DTE} (ha : PE X e (lift c E ta)) (hb : PE X e (lift c E tb)) : PE X e (lift c E fun W δ S Q => ta W δ S Q ∨ tb W δ S Q) := ⟨fun pins s σ H Q I h => by
  obtain ⟨δ, S, P, W, hσ, hS, ht, hP, hX⟩ := h
  rcases ht with ht | ht
  · exact ha.run pins s σ H Q I ⟨δ, S, P, W, hσ, hS, ht, hP, hX⟩
  · exact hb.run pins s σ H Q I ⟨δ, S, P, W, hσ, hS, ht, hP, hX⟩⟩
theorem alt_T {X : Cx} {E : XK} {e : Expr} {ta tb : DTE} (ha : PT X e (liftT c E ta)) (hb : PT X e (liftT c E tb)) : PT X e (liftT c E fun W δ S Q => ta W δ S Q ∨ tb W δ S Q) := ⟨fun pins s σ H Q I h => by
  obtain ⟨δ, S, P, W, hσ, hS, ht, hP, hX⟩ := h
  rcases ht with ht | ht
  · exact ha.run pins s σ H Q I ⟨δ, S, P, W, hσ, hS, ht, hP, hX⟩
  · exact hb.run pins s σ H Q I ⟨δ, S, P, W, hσ, hS, ht, hP, hX⟩⟩
/-- a part of a slice, an int -/
def dOI (Φ : Fenv) : MEo → DTO
  | .n => fun W δ S Q => Q none S
  | .s m => fun W δ S Q => wpE Φ W m δ S fun x S1 => asI x fun i => Q (some (.int i)) S1
/-- a clause's test -/
def dTst (Φ : Fenv) : MEo → DTE
  | .n => fun W δ S Q => Q (.bl true) S
  | .s m => fun W δ S Q => wpE Φ W m δ S Q
theorem om_imp {E : XK} {cl m : String} {a : ME} {es : MEs} {σ : L2.St} {H : Hp} {Q : VK} (h : lift c E (fun W δ S Q => wpE Φ W (.om cl a m es) δ S Q) σ H Q) :
    lift c E (dMeth cl m (Φ cl m) (fun W δ S Q => wpE Φ W a δ S Q) (fun W δ S Q => wpEs Φ W es δ S Q)) σ H Q := h
theorem own_map {ck : Ck} {own : List Nat} : (ownOf ck own).map (·.2) = own := by
  unfold ownOf
  rw [List.map_map]
  exact List.map_id' own
theorem lc_shape {ck : Ck} {X : Cx} {E : XK} {scope : Scope} {own : List Nat} {tg : Tg} {tgE iter : Expr} (G : GoodE c ck Φ k X E) (h : lcShape ck scope own tg tgE iter = true) :
    BlkOk X.N X.env.scope scope (ownOf ck own) ∧ (∀ i ∈ tgSlots tg, i ∈ (ownOf ck own).map (·.2)) ∧ (∀ (s : Shared) (H : Hp) (C : Addr) (cl : List (Str × Addr)) (fp : List Addr), PG (X.blk s H scope (compEnvC scope cl C X.env) fp) tgE (liftG c tg)) ∧
      (∀ x, foldedSetIterable iter X.env x = pure x) ∧ X.calm = true := by
  unfold lcShape at h
  rw [Bool.and_eq_true, Bool.and_eq_true] at h
  obtain ⟨⟨h, h4⟩, hcl⟩ := h
  obtain ⟨h1, h2, h3⟩ := and3 h
  refine ⟨blkOk_by (by rw [G.hN, G.hsc]; exact h1), fun i hi => ?_, fun s H C cl fp => (G.blk scope s H C cl fp).tg h3, unfold_of h4, G.hc hcl⟩
  rw [own_map]
  exact List.contains_iff_mem.mp (List.all_eq_true.mp h2 i hi)
theorem lcE_imp {E : XK} {elt : ME} {tg : Tg} {it : MI} {ifs : MEo} {own : List Nat} {σ : L2.St} {H : Hp} {Q : VK} (h : lift c E (fun W δ S Q => wpE Φ W (.lc elt tg it ifs own) δ S Q) σ H Q) :
    lift c E (dLc (fun W δ S K => wpI Φ W it δ S K) tg (dTst Φ ifs) (fun W δ S Q => wpE Φ W elt δ S Q) own) σ H Q := by
  have e : (fun W δ S Q => wpE Φ W (.lc elt tg it ifs own) δ S Q) = dLc (fun W δ S K => wpI Φ W it δ S K) tg (dTst Φ ifs) (fun W δ S Q => wpE Φ W elt δ S Q) own := by
    cases ifs <;> rfl
  rw [e] at h
  exact h
theorem intO_eq {K : Option D → Store → Prop} : (fun (d : D) (S : Store) => intO (some d) ∧ K (some d) S) = fun d S => asI d fun i => K (some (.int i)) S := by
  funext d S
  cases d <;> simp [intO, asI]
theorem oi_eq {lo : MEo} {W : DE} {δ : DSt} {S : Store} {K : Option D → Store → Prop} : wpEo Φ W lo δ S (fun l S2 => intO l ∧ K l S2) = dOI Φ lo W δ S K := by
  cases lo with
  | n => show (True ∧ K none S) = K none S; simp
  | s m =>
    show wpE Φ W m δ S (fun d S2 => intO (some d) ∧ K (some d) S2) = wpE Φ W m δ S fun x S1 => asI x fun i => K (some (.int i)) S1
    rw [intO_eq]
theorem slc_imp {E : XK} {a : ME} {lo hi : MEo} {σ : L2.St} {H : Hp} {Q : VK} (h : lift c E (fun W δ S Q => wpE Φ W (.slc a lo hi) δ S Q) σ H Q) :
    lift c E (fun W δ S Q => wpE Φ W a δ S fun x S1 => dOI Φ lo W δ S1 fun l S2 => dOI Φ hi W δ S2 fun u S3 => rSlc x l u S3 Q) σ H Q := by
  have e : (fun W δ S Q => wpE Φ W (.slc a lo hi) δ S Q) = fun W δ S Q => wpE Φ W a δ S fun x S1 => dOI Φ lo W δ S1 fun l S2 => dOI Φ hi W δ S2 fun u S3 => rSlc x l u S3 Q := by
    funext W δ S Q
    show (wpE Φ W a δ S fun x S1 => wpEo Φ W lo δ S1 fun l S2 => intO l ∧ wpEo Φ W hi δ S2 fun h S3 => intO h ∧ rSlc x l h S3 Q) = _
    congr 1
    funext x S1
    rw [oi_eq]
    congr 1
    funext l S2
    rw [oi_eq]
  rw [e] at h
  exact h
mutual
theorem snd : ∀ (m : ME) (t : Bool) (ck : Ck) (e : Expr) (X : Cx) (E : XK), GoodE c ck Φ k X E → chk t m ck e = true → Snd t c X E e fun W δ S Q => wpE Φ W m δ S Q
  | .lit d, t, ck, e, X, E, G, h => by
    unfold chk at h
    rw [Bool.and_eq_true] at h
    refine Snd.val (lit_snd G h.1) fun ht => plain_test ?_
    have := h.2
    rw [ht] at this
    simpa using this
  | .var i, t, ck, e, X, E, G, h => by
    unfold chk at h
    split at h
    · rename_i x p
      rw [Bool.and_eq_true, decide_eq_true_eq] at h
      obtain ⟨v1, v2, v3⟩ := G.vis h.2
      exact Snd.val (de_var (pe_var (by rw [G.hN]; exact h.1) v1 v2 v3)) fun _ _ => rfl
    · cases h
  | .bin op a b, t, ck, e, X, E, G, h => by
    unfold chk at h
    have hq := (nt h).2
    have ht := (nt h).1
    clear h
    subst ht
    have h := hq
    split at h
    · obtain ⟨h1, h2, h3⟩ := and3 h
      rw [decide_eq_true_eq] at h1
      subst h1
      exact de_bin (opBin G.hK op) (snd a false ck _ X E G h2) (snd b false ck _ X E G h3)
    · cases h
  | .neg a, t, ck, e, X, E, G, h => by
    unfold chk at h
    have hq := (nt h).2
    have ht := (nt h).1
    clear h
    subst ht
    have h := hq
    split at h
    · exact de_neg (snd a false ck _ X E G h)
    · cases h
  | .cmp op a b, t, ck, e, X, E, G, h => by
    unfold chk at h
    split at h
    · rw [Bool.and_eq_true] at h
      obtain ⟨h, h4⟩ := h
      obtain ⟨h1, h2, h3⟩ := and3 h
      rw [decide_eq_true_eq] at h1
      rw [Bool.not_eq_true'] at h2
      subst h1
      have ha := snd a false ck _ X E G h3
      have hb := snd b false ck _ X E G h4
      cases t with
      | false => exact de_cmp (opCmp G.hK G.hw G.hu op) ha hb h2
      | true => exact dt_cmp (opCmp G.hK G.hw G.hu op) ha hb h2
    · cases h
  | .cmp2 o1 o2 a b d, t, ck, e, X, E, G, h => by
    unfold chk at h
    split at h
    · rw [Bool.and_eq_true, Bool.and_eq_true, Bool.and_eq_true] at h
      obtain ⟨⟨⟨h, h4⟩, h5⟩, h6⟩ := h
      obtain ⟨h1, h2, h3⟩ := and3 h
      rw [decide_eq_true_eq] at h1 h2
      rw [Bool.not_eq_true'] at h3
      subst h1 h2
      have ha := snd a false ck _ X E G h4
      have hb := snd b false ck _ X E G h5
      have hd := snd d false ck _ X E G h6
      cases t with
      | false => exact de_chain (opCmp G.hK G.hw G.hu o1) (opCmp G.hK G.hw G.hu o2) ha hb hd h3
      | true => exact dt_chain (opCmp G.hK G.hw G.hu o1) (opCmp G.hK G.hw G.hu o2) ha hb hd h3
    · cases h
  | .and_ a b, t, ck, e, X, E, G, h => by
    unfold chk at h
    split at h
    · rw [Bool.and_eq_true] at h
      have ha := snd a t ck _ X E G h.1
      have hb := snd b t ck _ X E G h.2
      cases t with
      | false => exact de_and ha (de_one hb)
      | true => exact (dw_and ha (dw_and1 hb)).pt
    · rw [Bool.and_eq_true] at h
      have ha := snd a t ck _ X E G h.1
      have hb := snd b t ck _ X E G h.2
      cases t with
      | false => exact de_and ha hb
      | true => exact (dw_and ha (pw_bool hb)).pt
    · cases h
  | .or_ a b, t, ck, e, X, E, G, h => by
    unfold chk at h
    split at h
    · rw [Bool.and_eq_true] at h
      have ha := snd a t ck _ X E G h.1
      have hb := snd b t ck _ X E G h.2
      cases t with
      | false => exact de_or ha (de_one hb)
      | true => exact (dw_or ha (dw_or1 hb)).pt
    · rw [Bool.and_eq_true] at h
      have ha := snd a t ck _ X E G h.1
      have hb := snd b t ck _ X E G h.2
      cases t with
      | false => exact de_or ha hb
      | true => exact (dw_or ha (pw_bool hb)).pt
    · cases h
  | .not_ a, t, ck, e, X, E, G, h => by
    unfold chk at h
    split at h
    · have ha := snd a t ck _ X E G h
      cases t with
      | false => exact de_not ha
      | true => exact dt_not ha
    · cases h
  | .ife d a b, t, ck, e, X, E, G, h => by
    unfold chk at h
    have hq := (nt h).2
    have ht := (nt h).1
    clear h
    subst ht
    have h := hq
    split at h
    · obtain ⟨h1, h2, h3⟩ := and3 h
      exact de_ife (snd d true ck _ X E G h1) (snd a false ck _ X E G h2) (snd b false ck _ X E G h3)
    · cases h
  | .tup es, t, ck, e, X, E, G, h => by
    unfold chk at h
    have hq := (nt h).2
    have ht := (nt h).1
    clear h
    subst ht
    have h := hq
    split at h
    · exact de_tup (sndA es ck _ X E G h)
    · cases h
  | .lst es, t, ck, e, X, E, G, h => by
    unfold chk at h
    have hq := (nt h).2
    have ht := (nt h).1
    clear h
    subst ht
    have h := hq
    split at h
    · exact de_lst (sndA es ck _ X E G h)
    · cases h
  | .dct es, t, ck, e, X, E, G, h => by
    unfold chk at h
    have hq := (nt h).2
    have ht := (nt h).1
    clear h
    subst ht
    have h := hq
    split at h
    · rw [Bool.and_eq_true, decide_eq_true_eq] at h
      rename_i ks vs pos
      obtain ⟨l, h1, h2, h3, h4⟩ := sndD es ck ks vs pos X E G h.2
      have e : (fun W δ S Q => wpE Φ W (.dct es) δ S Q) = dDct (dP l) := by
        rw [← h4]; rfl
      rw [e]
      by_cases h0 : ks = []
      · subst h0
        have hv : vs = [] := List.length_eq_zero_iff.mp h3.symm
        subst hv
        have hl : l = [] := by
          cases l with
          | nil => rfl
          | cons p r => have := h1.2.1; simp at this
        subst hl
        exact de_dct0
      · exact de_dct h1.1 h2 h3 h0 h.1
    · cases h
  | .attr a f, t, ck, e, X, E, G, h => by
    unfold chk at h
    split at h
    · obtain ⟨h1, h2, h3⟩ := and3 h
      rw [decide_eq_true_eq] at h1
      subst h1
      exact Snd.val (de_attr G.cls (snd a false ck _ X E G h3) (base_of h2)) fun _ _ => rfl
    · cases h
  | .ix a i, t, ck, e, X, E, G, h => by
    unfold chk at h
    split at h
    · obtain ⟨h1, h2, h3⟩ := and3 h
      exact Snd.val (de_ix (opIx G.hK G.hw G.hu) (snd a false ck _ X E G h2) (snd i false ck _ X E G h3) (plain_ix h1)) fun _ _ => rfl
    · cases h
  | .slc a lo hi, t, ck, e, X, E, G, h => by
    unfold chk at h
    have hq := (nt h).2
    have ht := (nt h).1
    clear h
    subst ht
    have h := hq
    split at h
    · obtain ⟨h1, h2, h3⟩ := and3 h
      exact (de_slc G.hK (snd a false ck _ X E G h1) (sndO lo ck _ X E G h2) (sndO hi ck _ X E G h3)).imp fun σ H Q q => slc_imp q
    · cases h
  | .rev a, t, ck, e, X, E, G, h => by
    unfold chk at h
    have hq := (nt h).2
    have ht := (nt h).1
    clear h
    subst ht
    have h := hq
    split at h
    · exact de_rev (snd a false ck _ X E G h)
    · cases h
  | .call f es, t, ck, e, X, E, G, h => by
    unfold chk at h
    rw [Bool.and_eq_true] at h
    obtain ⟨hcl, h⟩ := h
    split at h
    · rw [Bool.and_eq_true, Bool.and_eq_true] at h
      obtain ⟨⟨h, h4⟩, h5⟩ := h
      obtain ⟨h1, h2, h3⟩ := and3 h
      rw [decide_eq_true_eq] at h1
      subst h1
      obtain ⟨g1, g2⟩ := G.gl h3
      obtain ⟨g, fd, ps, q1, q2, q3, q4⟩ := G.fns f (List.contains_iff_mem.mp h2)
      refine Snd.val ?_ fun _ _ => rfl
      rename_i l _
      have ha := sndA es ck l X E G h5
      cases l with
      | nil =>
        cases es with
        | n => exact de_call0 q4 ((G.room hcl).mono (Nat.le_succ k)) g1 q1 q2 q3 G.ps g2
        | c m ms => unfold chkA at h5; cases h5
      | cons x r => exact de_call q4 ((G.room hcl).mono (Nat.le_succ k)) g1 q1 q2 q3 G.ps ha g2 h4
    · cases h
  | .mk cl es, t, ck, e, X, E, G, h => by
    unfold chk at h
    have hq := (nt h).2
    have ht := (nt h).1
    clear h
    subst ht
    have h := hq
    rw [Bool.and_eq_true] at h
    obtain ⟨hcl, h⟩ := h
    split at h
    · rw [Bool.and_eq_true, Bool.and_eq_true] at h
      obtain ⟨⟨h, h4⟩, h5⟩ := h
      obtain ⟨h1, h2, h3⟩ := and3 h
      rw [decide_eq_true_eq] at h1
      subst h1
      obtain ⟨g1, g2⟩ := G.gl h3
      obtain ⟨q0, q1, g, fd, ps, q2, q3, q4⟩ := G.mks cl (List.contains_iff_mem.mp h2)
      rename_i l _
      have ha := sndA es ck l X E G h5
      cases l with
      | nil =>
        cases es with
        | n => exact de_make0 q0 q2 q4 (G.room hcl) g1 q1 q3 G.ps g2
        | c m ms => unfold chkA at h5; cases h5
      | cons x r => exact de_make q0 q2 q4 (G.room hcl) g1 q1 q3 G.ps ha g2 h4
    · cases h
  | .bi f es, t, ck, e, X, E, G, h => by
    unfold chk at h
    split at h
    · rw [Bool.and_eq_true, Bool.and_eq_true] at h
      obtain ⟨⟨h, h4⟩, h5⟩ := h
      obtain ⟨h1, h2, h3⟩ := and3 h
      rw [decide_eq_true_eq] at h1
      subst h1
      exact Snd.val (bi_snd G h2 h5 h3 (sndA es ck _ X E G h4)) fun _ _ => rfl
    · cases h
  | .om cl a m es, t, ck, e, X, E, G, h => by
    unfold chk at h
    rw [Bool.and_eq_true] at h
    obtain ⟨hcl, h⟩ := h
    split at h
    · rename_i x g ap l p
      rw [Bool.and_eq_true, Bool.and_eq_true, Bool.and_eq_true, Bool.and_eq_true, Bool.and_eq_true] at h
      obtain ⟨⟨⟨⟨⟨h, h4⟩, h5⟩, h6⟩, h7⟩, h8⟩ := h
      obtain ⟨h1, h2, h3⟩ := and3 h
      rw [decide_eq_true_eq] at h1 h5
      subst h1
      obtain ⟨g, fd, ps, q1, q2, q3, q4⟩ := G.ms (cl, m) (List.contains_iff_mem.mp h2)
      have he := snd a false ck _ X E G h7
      have ha := sndA es ck l X E G h8
      refine Snd.val ?_ fun _ _ => rfl
      cases l with
      | nil =>
        cases es with
        | n => exact (de_meth0 he q1 q2 q4 ((G.room hcl).mono (Nat.le_succ k)) q3 G.ps h3 h6).imp fun σ H Q q => om_imp q
        | c m ms => unfold chkA at h8; cases h8
      | cons x r => exact (de_meth he q1 q2 q4 ((G.room hcl).mono (Nat.le_succ k)) q3 G.ps ha h3 h4 h5 h6).imp fun σ H Q q => om_imp q
    · cases h
  | .lm a m es, t, ck, e, X, E, G, h => by
    unfold chk at h
    split at h
    · rename_i x g ap l p
      rw [Bool.and_eq_true, Bool.and_eq_true, Bool.and_eq_true, Bool.and_eq_true] at h
      obtain ⟨⟨⟨⟨h, h4⟩, h5⟩, h6⟩, h7⟩ := h
      obtain ⟨h1, h2, h3⟩ := and3 h
      rw [decide_eq_true_eq] at h1 h4
      subst h1
      have he := snd a false ck _ X E G h6
      have ha := sndA es ck l X E G h7
      refine Snd.val ?_ fun _ _ => rfl
      cases l with
      | nil =>
        cases es with
        | n => exact de_bm0 PySem.F.plainAttrs_list (lm_slot m).1 (lm_slot m).2 (mtLst G.hK G.hu m) own_lst he h2 h5
        | c m ms => unfold chkA at h7; cases h7
      | cons x r => exact de_bm PySem.F.plainAttrs_list (lm_slot m).1 (lm_slot m).2 (mtLst G.hK G.hu m) own_lst he ha h2 h3 h4 h5
    · cases h
  | .dm a m es, t, ck, e, X, E, G, h => by
    unfold chk at h
    rw [Bool.and_eq_true] at h
    obtain ⟨hcl, h⟩ := h
    split at h
    · rename_i x g ap l p
      rw [Bool.and_eq_true, Bool.and_eq_true, Bool.and_eq_true, Bool.and_eq_true] at h
      obtain ⟨⟨⟨⟨h, h4⟩, h5⟩, h6⟩, h7⟩ := h
      obtain ⟨h1, h2, h3⟩ := and3 h
      rw [decide_eq_true_eq] at h1 h4
      subst h1
      have he := snd a false ck _ X E G h6
      have ha := sndA es ck l X E G h7
      refine Snd.val ?_ fun _ _ => rfl
      cases l with
      | nil =>
        cases es with
        | n => exact de_bm0 PySem.F.plainAttrs_dict (dm_slot m).1 (dm_slot m).2 (dm_mt G hcl m) own_dic he h2 h5
        | c m ms => unfold chkA at h7; cases h7
      | cons x r => exact de_bm PySem.F.plainAttrs_dict (dm_slot m).1 (dm_slot m).2 (dm_mt G hcl m) own_dic he ha h2 h3 h4 h5
    · cases h
  | .sm a m es, t, ck, e, X, E, G, h => by
    unfold chk at h
    split at h
    · rename_i x g ap l p
      rw [Bool.and_eq_true, Bool.and_eq_true, Bool.and_eq_true, Bool.and_eq_true] at h
      obtain ⟨⟨⟨⟨h, h4⟩, h5⟩, h6⟩, h7⟩ := h
      obtain ⟨h1, h2, h3⟩ := and3 h
      rw [decide_eq_true_eq] at h1 h4
      subst h1
      have he := snd a false ck _ X E G h6
      have ha := sndA es ck l X E G h7
      refine Snd.val ?_ fun _ _ => rfl
      cases l with
      | nil =>
        cases es with
        | n => exact de_bm0 PySem.F.plainAttrs_str (sm_slot m).1 (sm_slot m).2 (mtStr m) own_str he h2 h5
        | c m ms => unfold chkA at h7; cases h7
      | cons x r => exact de_bm PySem.F.plainAttrs_str (sm_slot m).1 (sm_slot m).2 (mtStr m) own_str he ha h2 h3 h4 h5
    · cases h
  | .lens a, t, ck, e, X, E, G, h => by
    unfold chk at h
    rw [Bool.and_eq_true] at h
    obtain ⟨hcl, h⟩ := h
    split at h
    · rename_i x xp y yp z q pos
      simp only [Bool.and_eq_true, decide_eq_true_eq] at h
      obtain ⟨⟨⟨⟨⟨rfl, rfl⟩, h3⟩, h4⟩, h5⟩, h6⟩ := h
      obtain ⟨a1, a2, a3, a4⟩ := G.bi h3
      obtain ⟨b1, b2, b3, b4⟩ := G.bi h4
      exact Snd.val (pe_lens (G.hc hcl) G.hu a1 a2 b1 b2 (snd a false ck _ X E G h6) h5) fun _ _ => rfl
    · cases h
  | .tget n kvs es, t, ck, e, X, E, G, h => by
    unfold chk at h
    split at h
    · rename_i x xp g ap y l p
      simp only [Bool.and_eq_true, decide_eq_true_eq] at h
      obtain ⟨⟨⟨⟨⟨⟨⟨rfl, rfl⟩, h3⟩, h4⟩, h5⟩, h6⟩, h7⟩, h8⟩ := h
      obtain ⟨g1, g2⟩ := G.gl h4
      obtain ⟨t1, t2⟩ := G.tbs (n, kvs) (List.contains_iff_mem.mp h3)
      exact Snd.val (pe_tget g1 g2 t1 t2 (sndA es ck _ X E G h8) h5 h6 h7) fun _ _ => rfl
    · cases h
  | .word a, t, ck, e, X, E, G, h => by
    unfold chk at h
    split at h
    · rename_i x xp params body scope lp pos
      simp only [Bool.and_eq_true, decide_eq_true_eq] at h
      obtain ⟨⟨⟨⟨⟨rfl, h2⟩, h2g⟩, h3⟩, h4⟩, h5⟩ := h
      have L : LamX.LamS X.env.scope scope := LamX.lamS_by (by rw [G.hsc]; exact h4)
      exact Snd.val (G.lam h2 params body scope xp lp pos _ (G.gl h2g).1 h3 L fun A outer s H E' f c' hr => snd a false (ck.lamb scope) body _ E' (G.lamb L A outer s H E' f c' hr) h5) fun _ _ => rfl
    · cases h
  | .isE i cl, t, ck, e, X, E, G, h => by
    unfold chk at h
    refine Snd.val (G.isE i cl e h) fun _ _ => ?_
    unfold isShape at h
    split at h
    · rfl
    · cases h
  | .exF i f, t, ck, e, X, E, G, h => by
    unfold chk at h
    refine Snd.val (G.exF i f e h) fun _ _ => ?_
    unfold fldShape at h
    split at h
    · rfl
    · cases h
  | .cnt a b, t, ck, e, X, E, G, h => by
    unfold chk at h
    split at h
    · rename_i x g ap b' j p2 p
      simp only [Bool.and_eq_true, decide_eq_true_eq] at h
      obtain ⟨⟨⟨⟨rfl, rfl⟩, h3⟩, h4⟩, h5⟩ := h
      refine Snd.val ?_ fun _ _ => rfl
      exact (de_bm PySem.F.plainAttrs_list PySem.F.slot_list_count PySem.F.type_list_count (mtCnt G.hK) own_lst (snd a false ck _ X E G h5) (da_cons (de_lit (d := .bl b') pe_bl fun H => rfl) da_nil rfl) h3 rfl (show 1 < 30 by decide) h4).imp fun σ H Q q => cnt_imp q
    · cases h
  | .alt a b, t, ck, e, X, E, G, h => by
    unfold chk at h
    rw [Bool.and_eq_true] at h
    have ha := snd a t ck _ X E G h.1
    have hb := snd b t ck _ X E G h.2
    cases t with
    | false => exact alt_E ha hb
    | true => exact alt_T ha hb
  | .lock a, t, ck, e, X, E, G, h => by
    unfold chk at h
    have hq := (nt h).2
    have ht := (nt h).1
    clear h
    subst ht
    have h := hq
    exact de_lock (snd a false ck _ X E G h)
  | .tag n a, t, ck, e, X, E, G, h => by
    unfold chk at h
    exact snd a t ck _ X E G h
  | .lc elt tg it ifs own, t, ck, e, X, E, G, h => by
    unfold chk at h
    have hq := (nt h).2
    have ht := (nt h).1
    clear h
    subst ht
    have h := hq
    split at h
    · rename_i x tgE iter fs scope pos
      rw [Bool.and_eq_true] at h
      obtain ⟨h, h4⟩ := h
      obtain ⟨h1, h2, h3⟩ := and3 h
      have gx := sndI it ck tgE iter X E G h2
      have gF := fun (s : Shared) (H : Hp) (C : Addr) (cl : List (Str × Addr)) (fp : List Addr) => sndF ifs (ck.blk scope) fs _ XF (G.blk scope s H C cl fp) h3
      have gE := fun (s : Shared) (H : Hp) (C : Addr) (cl : List (Str × Addr)) (fp : List Addr) => snd elt false (ck.blk scope) x _ XF (G.blk scope s H C cl fp) h4
      obtain ⟨b1, b2, b3, b4, hcl⟩ := lc_shape G h1
      have r := de_lc (pos := pos) hcl G.nd gx b1 b2 b3 gF gE b4
      rw [own_map] at r
      exact r.imp fun σ H Q q => lcE_imp q
    · cases h
theorem sndA : ∀ (ms : MEs) (ck : Ck) (l : List Expr) (X : Cx) (E : XK), GoodE c ck Φ k X E → chkA ms ck l = true → PA X l (liftA c E fun W δ S Q => wpEs Φ W ms δ S Q)
  | .n, ck, l, X, E, G, h => by
    unfold chkA at h
    split at h
    · exact da_nil
    · cases h
  | .c m ms, ck, l, X, E, G, h => by
    unfold chkA at h
    split at h
    · obtain ⟨h1, h2, h3⟩ := and3 h
      exact da_cons (snd m false ck _ X E G h2) (sndA ms ck _ X E G h3) (star_cons h1)
    · cases h
theorem sndD : ∀ (ms : MEs) (ck : Ck) (ks : List (Option Expr)) (vs : List Expr) (pos : Pos) (X : Cx) (E : XK), GoodE c ck Φ k X E → chkD ms ck ks vs = true →
    ∃ l : List (DTE × DTE), (PPs X pos ks vs (l.map fun p => (lift c E p.1, lift c E p.2)) ∧ l.length = ks.length ∧ True) ∧ ks.all (·.isSome) = true ∧ ks.length = vs.length ∧ (fun W δ S Q => wpEs Φ W ms δ S Q) = dP l
  | .n, ck, ks, vs, pos, X, E, G, h => by
    unfold chkD at h
    split at h
    · exact ⟨[], ⟨pps_nil, rfl, trivial⟩, rfl, rfl, rfl⟩
    · cases h
  | .c m .n, ck, ks, vs, pos, X, E, G, h => by
    unfold chkD at h
    cases h
  | .c m (.c m2 ms), ck, ks, vs, pos, X, E, G, h => by
    unfold chkD at h
    simp only at h
    split at h
    · obtain ⟨h1, h2, h3⟩ := and3 h
      obtain ⟨l, ⟨g1, g2, _⟩, g3, g4, g5⟩ := sndD ms ck _ _ pos X E G h3
      refine ⟨(_, _) :: l, ⟨pps_cons (snd m false ck _ X E G h1) (snd m2 false ck _ X E G h2) g1, by simp [g2], trivial⟩, by simp [g3], by simp [g4], ?_⟩
      funext W δ S Q
      show wpE Φ W m δ S (fun d S1 => wpE Φ W m2 δ S1 fun d2 S2 => wpEs Φ W ms δ S2 fun ds S3 => Q (d :: d2 :: ds) S3) = wpE Φ W m δ S fun d S1 => wpE Φ W m2 δ S1 fun d2 S2 => dP l W δ S2 fun ds S3 => Q (d :: d2 :: ds) S3
      rw [← g5]
    · cases h
theorem sndO : ∀ (m : MEo) (ck : Ck) (o : Option Expr) (X : Cx) (E : XK), GoodE c ck Φ k X E → chkO m ck o = true → PO X o (liftO c E (dOI Φ m))
  | .n, ck, o, X, E, G, h => by
    unfold chkO at h
    split at h
    · exact do_none
    · cases h
  | .s m, ck, o, X, E, G, h => by
    unfold chkO at h
    split at h
    · exact do_some (snd m false ck _ X E G h)
    · cases h
theorem sndF : ∀ (m : MEo) (ck : Ck) (l : List Expr) (X : Cx) (E : XK), GoodE c ck Φ k X E → chkF m ck l = true → PTs X l (liftT c E (dTst Φ m))
  | .n, ck, l, X, E, G, h => by
    unfold chkF at h
    split at h
    · exact dts_nil
    · cases h
  | .s m, ck, l, X, E, G, h => by
    unfold chkF at h
    split at h
    · exact dts_one (snd m true ck _ X E G h)
    · cases h
theorem sndI : ∀ (m : MI) (ck : Ck) (tg e : Expr) (X : Cx) (E : XK), GoodE c ck Φ k X E → chkI m ck tg e = true → PI X tg e (liftI c E fun W δ S K => wpI Φ W m δ S K)
  | .over m, ck, tg, e, X, E, G, h => by
    unfold chkI at h
    exact di_over G.hK (snd m false ck _ X E G h)
  | .rng m, ck, tg, e, X, E, G, h => by
    unfold chkI at h
    split at h
    · rw [Bool.and_eq_true] at h
      obtain ⟨h, h4⟩ := h
      obtain ⟨h1, h2, h3⟩ := and3 h
      rw [decide_eq_true_eq] at h1
      subst h1
      obtain ⟨b1, b2, b3, b4⟩ := G.bi h2
      exact di_rng b1 b2 (snd m false ck _ X E G h4) (star_cons h3) (star_cons h3)
    · cases h
  | .rng2 m m2, ck, tg, e, X, E, G, h => by
    unfold chkI at h
    split at h
    · rw [Bool.and_eq_true, Bool.and_eq_true, Bool.and_eq_true] at h
      obtain ⟨⟨⟨h, h4⟩, h5⟩, h6⟩ := h
      obtain ⟨h1, h2, h3⟩ := and3 h
      rw [decide_eq_true_eq] at h1
      subst h1
      obtain ⟨b1, b2, b3, b4⟩ := G.bi h2
      exact di_rng2 b1 b2 (snd m false ck _ X E G h5) (snd m2 false ck _ X E G h6) (by rw [star_cons h3, star_cons h4]; rfl) (star_cons h4) (star_cons h3) (star_cons h4)
    · cases h
  | .enum m, ck, tg, e, X, E, G, h => by
    unfold chkI at h
    split at h
    · rw [Bool.and_eq_true] at h
      obtain ⟨h, h4⟩ := h
      obtain ⟨h1, h2, h3⟩ := and3 h
      rw [decide_eq_true_eq] at h1
      subst h1
      obtain ⟨b1, b2, b3, b4⟩ := G.bi h2
      exact di_enum G.hK b1 b2 (snd m false ck _ X E G h4) (star_cons h3) (star_cons h3)
    · cases h
end
end
end Nf
set_option Elab.async false
set_option linter.all false
set_option maxRecDepth 100000
set_option maxHeartbeats 8000000
/-! NfChkS: the checker of statements, and that what it passes is so. -/
namespace Nf
open PySem PySem.Spec L2
open PyProof.Rows hiding St
def noComp : Expr → Bool
  | .ListComp .. => false
  | .SetComp .. => false
  | .DictComp .. => false
  | _ => true
def notTuple : Expr → Bool
  | .Tuple .. => false
  | _ => true
/-- no stores are swapped -/
def notLocal (sc : Scope) : Expr → Bool
  | .Name x _ => decide (sc.names.lookup x ≠ some .local)
  | _ => true
def noSwap (sc : Scope) : Expr → Expr → Bool
  | .Tuple ts _ _, e => notTuple e || !(ts.length == 2 || ts.length == 3) || ts.any (notLocal sc)
  | _, _ => true
def Ck.loc (ck : Ck) (i : Nat) (x : Str) : Bool := decide (ck.N[i]? = some x) && decide (ck.sc.names.lookup x = some .local)
def lcParts : Expr → Option (Expr × Expr × Expr × List Expr × Scope × Pos)
  | .ListComp x [⟨tgE, iter, fs, 0⟩] scope pos => some (x, tgE, iter, fs, scope, pos)
  | _ => none
mutual
def chkS : MS → Ck → Stmt → Bool
  | .expr m, ck, st => (match st with
    | .Expr e _ => noComp e && chk false m ck e
    | _ => false)
  | .set i m, ck, st => (match st with
    | .Assign [.Name x px] e _ => ((noComp e || decide (ck.sc.names.lookup x ≠ some .local)) && ck.st i x && chk false m ck e) ||
        (match m, e with
        | .lc elt tg it ifs own, .ListComp y [⟨tgE, iter, fs, 0⟩] scope pos => ck.loc i x && (px.line == pos.line) && !(scope.names.any fun (n, k) => n == x && (k == .local || k == .cell)) && lcShape ck scope own tg tgE iter && chkI it ck tgE iter && chkF ifs (ck.blk scope) fs && chk false elt (ck.blk scope) y
        | _, _ => false)
    | _ => false)
  | .setA o f m, ck, st => (match st with
    | .Assign [.Attribute x g _] e _ => decide (g = os f) && ck.flds.contains f && chk false o ck x && chk false m ck e
    | _ => false)
  | .setI o i m, ck, st => (match st with
    | .Assign [.Subscript x y _] e _ => plainIx y && chk false o ck x && chk false i ck y && chk false m ck e
    | _ => false)
  | .setI2 o1 i1 o2 i2 e1 e2, ck, st => ck.calm && (match st with
    | .Assign [.Tuple [.Subscript x1 y1 _, .Subscript x2 y2 _] _ _] (.Tuple [a, b] _ _) _ => plainIx y1 && plainIx y2 && notStar a && notStar b && chk false o1 ck x1 && chk false i1 ck y1 && chk false o2 ck x2 && chk false i2 ck y2 && chk false e1 ck a && chk false e2 ck b
    | _ => false)
  | .unp tg m, ck, st => (match st with
    | .Assign [tgE] e _ => noComp e && noSwap ck.sc tgE e && tgOk ck tg tgE && chk false m ck e
    | _ => false)
  | .par is es, ck, st => ck.calm && (match is, st with
    | [i, j], .Assign [.Tuple [.Name x px, .Name y py] _ _] (.Tuple [a, b] _ _) _ => ck.loc i x && ck.loc j y && decide (i ≠ j) && decide (x ≠ y) && (py.line == px.line) && notStar a && notStar b && !([a, b].all (foldedForSure 8)) && !([a, b].all (constantsAlone 8)) && chkA es ck [a, b]
    | [i, j, l], .Assign [.Tuple [.Name x px, .Name y py, .Name z pz] _ _] (.Tuple [a, b, d] _ _) _ => ck.loc i x && ck.loc j y && ck.loc l z && decide (i ≠ j) && decide (i ≠ l) && decide (j ≠ l) && decide (x ≠ y) && decide (x ≠ z) && decide (y ≠ z) && (py.line == px.line) && (pz.line == px.line) && notStar a && notStar b && notStar d && !([a, b, d].all (foldedForSure 8)) && !([a, b, d].all (constantsAlone 8)) && chkA es ck [a, b, d]
    | _, _ => false)
  | .ret m, ck, st => (match st with
    | .Return (some e) _ => chk false m ck e
    | _ => false)
  | .ret0, _, st => (match st with
    | .Return none _ => true
    | _ => false)
  | .pass, _, st => (match st with
    | .Pass _ => true
    | _ => false)
  | .ife c a b, ck, st => (match st with
    | .If e s1 s2 _ => chk true c ck e && chkSs a ck s1 && chkSs b ck s2
    | _ => false)
  | .for_ tg it body, ck, st => ck.calm && (match st with
    | .For tgE iter b [] _ => tgOk ck tg tgE && unfolded iter && chkI it ck tgE iter && chkSs body ck b
    | _ => false)
  | .whl c body, ck, st => ck.calm && (match st with
    | .While e b [] _ => chk true c ck e && chkSs body ck b
    | _ => false)
  | .raise c, ck, st => ck.calm && (match st with
    | .Raise (some (.Call (.Name x _) [.Constant (.str _) _ _] [] _)) none _ => decide (x = os c) && ck.exs.contains c && ck.gl x
    | _ => false)
  | .raise1 n f m, ck, st => ck.calm && (match st with
    | .Raise (some (.Call (.Name x _) [e] [] _)) none _ => decide (x = os n) && ck.exi.contains (n, f) && ck.gl x && notStar e && chk false m ck e
    | _ => false)
  | .never, _, _ => true
  | .tryR m d, ck, st => (match st with
    | .Try [.Return (some e) _] [.ExceptHandler (some (.Name x _)) none [.Return (some (.Constant (.str z) _ _)) _] _] [] [] _ => ck.try_ && decide (x = os "NewsError") && ck.gl x && (match d with | .str s => decide (z = os s) | _ => false) && chk false m ck.trb e
    | _ => false)
  | .lock s, ck, st => chkS s ck st
  | .frz _ s, ck, st => chkS s ck st
def chkSs : MSs → Ck → List Stmt → Bool
  | .n, _, l => (match l with | [] => true | _ => false)
  | .c s ss, ck, l => (match l with
    | st :: r => chkS s ck st && chkSs ss ck r
    | _ => false)
end
structure GoodS (c : Cfg) (ck : Ck) (Φ : Fenv) (k : Nat) (X : Cx) (E : XK) : Prop extends GoodE c ck Φ k X E where
  hp : ck.calm = true → PassesOwn (model X.prog X.w) X.A X.env X.xe
  tk : Takes X fun cls d _ H => E cls d H
  kind : X.env.scope.kind = .function
  flds : ∀ f ∈ ck.flds, f ∈ c.fields
  try_ : ck.try_ = true → X.stack = X.env :: X.outer ∧ X.env.frame = some X.env.locals ∧ X.mg (os "NewsError") = some (.ref (He.ga c.K (os "NewsError"))) ∧ ∀ n ∈ newsX, PySem.W.exmOne X.K (.ref (He.ga c.K (os n))) (.ref (He.ga c.K (os "NewsError"))) = some true
  exi : ∀ q ∈ ck.exi, ∀ (e : Expr) (te : DTE) (p pos rpos : Pos), Gl X (os q.1) → (os q.1 == ("__debug__" : Str)) = false → PE X e (lift c E te) → notStar e = true → X.calm = true →
    PS X (.Raise (some (.Call (.Name (os q.1) p) [e] [] pos)) none rpos) (liftS c E fun W D δ S => te W δ S fun d S1 => W ⟨q.1, some (q.2, d)⟩ S1)
  exs : ∀ x ∈ ck.exs, X.mg (os x) = some (.ref (He.ga c.K (os x))) ∧ PySem.W.keepIn X.K (.ref (He.ga c.K (os x))) = true ∧ Raises X (.ref (He.ga c.K (os x))) ∧
    ∃ B newId initId bmB, ExcBaseFacts B newId initId bmB ∧ PySem.W.excIn X.K (He.ga c.K (os x)) bmB newId = true
theorem GoodE.trb {c : Cfg} {ck : Ck} {Φ : Fenv} {k : Nat} {X : Cx} {E E' : XK} {W : WX} (G : GoodE c ck Φ k X E) {pn : List (Addr × Obj)} {xe : Value → Shared → Prop} (tk : Takes (X.tr pn xe) W) (hW : ∀ cls d σ H, E' cls d H → W cls d σ H) : GoodE c ck.trb Φ k (X.tr pn xe) E' where
  hK := G.hK
  hw := G.hw
  hu := G.hu
  hc := G.hc
  hN := G.hN
  nd := G.nd
  hsc := G.hsc
  st := G.st
  cls := G.cls
  room := G.room
  ps := passes_call tk hW
  cs := G.cs
  free := G.free
  tbs := G.tbs
  fns := G.fns
  ms := G.ms
  mks := G.mks
  lam := fun z => nomatch z
  isE := fun i cl e h => by rw [no_is rfl] at h; cases h
  exF := fun i f e h => by rw [no_fld rfl] at h; cases h
theorem takesF {X : Cx} : Takes X (fun _ _ _ _ => False) := fun _ _ x => by
  obtain ⟨_, _, _, _, _, _, _, _, _, _, _, _, _, _, _, _, z⟩ := x
  exact z.elim
theorem swaps_no {e : Expr} {t : Option Expr} {l : Nat} {env : Env} (h : noComp e = true) : swapsWith e t l env = pure false := by
  cases e <;> first | rfl | cases h
theorem swaps_cell {e : Expr} {x : Str} {p : Pos} {l : Nat} {env : Env} (h : env.scope.names.lookup x ≠ some .local) : swapsWith e (some (.Name x p)) l env = pure false := by
  have h2 : (env.kindOf x == some .local) = false := by
    have : env.kindOf x ≠ some .local := h
    simpa using this
  cases e <;> first | rfl | (unfold swapsWith; simp [h2])
theorem swaps_attr {e o : Expr} {f : Str} {p : Pos} {l : Nat} {env : Env} : swapsWith e (some (.Attribute o f p)) l env = pure false := by
  cases e <;> rfl
theorem swaps_sub {e o i : Expr} {p : Pos} {l : Nat} {env : Env} : swapsWith e (some (.Subscript o i p)) l env = pure false := by
  cases e <;> rfl
theorem sole_sub {e o i : Expr} {p : Pos} {l : Nat} {env : Env} : swapsWithSole [.Subscript o i p] e l env = pure false := by
  show swapsWith e (some (.Subscript o i p)) l env = pure false
  exact swaps_sub
theorem stores_sub {e o i : Expr} {p : Pos} {env : Env} : swappedStores [.Subscript o i p] e env = pure none := by
  cases e <;> rfl
theorem filter_short {α β : Type} {f : α → Option β} : ∀ {l : List α}, (∃ x ∈ l, f x = none) → (l.filterMap f).length < l.length
  | [], h => by obtain ⟨x, hx, _⟩ := h; cases hx
  | y :: l, h => by
    rw [List.filterMap_cons]
    have le : ∀ l : List α, (l.filterMap f).length ≤ l.length := fun l => List.length_filterMap_le f l
    cases hy : f y with
    | none =>
      have := le l
      simp only [List.length_cons]
      omega
    | some b =>
      obtain ⟨x, hx, e⟩ := h
      rcases List.mem_cons.mp hx with rfl | hx
      · rw [hy] at e; cases e
      · have := filter_short (f := f) ⟨x, hx, e⟩
        simp only [List.length_cons]
        omega
theorem stores_no {t e : Expr} {env : Env} (ht : ∀ es p, t ≠ .List es p) (h : noSwap env.scope t e = true) : swappedStores [t] e env = pure none := by
  cases t with
  | Tuple ts k p =>
    unfold noSwap at h
    rw [Bool.or_eq_true, Bool.or_eq_true] at h
    rcases h with (h | h) | h
    · cases e <;> first | rfl | cases h
    · cases e with
      | Tuple vs k2 p2 =>
        unfold swappedStores
        simp only
        rw [if_pos (by rw [h]; simp)]
      | _ => rfl
    · cases e with
      | Tuple vs k2 p2 =>
        unfold swappedStores
        simp only
        split
        · rfl
        · split
          · rfl
          · rw [if_pos]
            rw [Bool.or_eq_true]
            left
            rw [bne_iff_ne]
            refine Nat.ne_of_lt (filter_short ?_)
            obtain ⟨x, hx, hn⟩ := List.any_eq_true.mp h
            refine ⟨x, hx, ?_⟩
            unfold notLocal at hn
            split at hn
            · rename_i id pos
              rw [decide_eq_true_eq] at hn
              have : env.kindOf id ≠ some .local := hn
              have h2 : (env.kindOf id == some .local) = false := by simpa using this
              simp [h2]
            · rename_i hne
              cases x <;> first | rfl | exact absurd rfl (hne _ _)
      | _ => rfl
  | List ts p => exact absurd rfl (ht ts p)
  | _ => cases e <;> rfl
theorem each_one {t : Expr} {env : Env} (h : notStar t = true) : (assignEach [t] env).map (·.2) = [assign t env] := by
  cases t <;> first | rfl | cases h
theorem bk_fun {env : Env} (h : env.scope.kind = .function) : env.blockKind = .function := by
  unfold Env.blockKind
  rw [h]
  rfl
theorem swap2 {x y : Str} {px py pt pt2 : Pos} {kt k2 : Nat} {a b : Expr} {env : Env} (hk : env.scope.kind = .function) (hx : env.scope.names.lookup x = some .local) (hy : env.scope.names.lookup y = some .local) (hne : x ≠ y) (hl : (py.line == px.line) = true)
    (ha : notStar a = true) (hb : notStar b = true) (h1 : [a, b].all (foldedForSure 8) = false) (h2 : [a, b].all (constantsAlone 8) = false) :
    swappedStores [.Tuple [.Name x px, .Name y py] kt pt] (.Tuple [a, b] k2 pt2) env = pure (some [x, y]) := by
  have kx : env.kindOf x = some .local := hx
  have ky : env.kindOf y = some .local := hy
  have st : ∀ e : Expr, notStar e = true → (match e with | .Starred .. => true | _ => false) = false := fun e h => by cases e <;> first | rfl | cases h
  have hyx : ¬ y = x := fun z => hne z.symm
  unfold swappedStores
  simp only [bk_fun hk]
  simp only [List.any_cons, List.any_nil, st a ha, st b hb, h1, h2, List.filterMap_cons, List.filterMap_nil, kx, ky, Expr.pos, List.head?_cons, Option.map_some, Option.getD_some, hl]
  simp [List.eraseDups_cons, hne, hyx]
  intro z
  exfalso
  rcases z with z | z
  · cases a <;> first | (cases z; done) | (cases ha; done)
  · cases b <;> first | (cases z; done) | (cases hb; done)
theorem swap3 {x y z : Str} {px py pz pt pt2 : Pos} {kt k2 : Nat} {a b d : Expr} {env : Env} (hk : env.scope.kind = .function) (hx : env.scope.names.lookup x = some .local) (hy : env.scope.names.lookup y = some .local) (hz : env.scope.names.lookup z = some .local) (h12 : x ≠ y) (h13 : x ≠ z) (h23 : y ≠ z) (hl : (py.line == px.line) = true) (hl2 : (pz.line == px.line) = true)
    (ha : notStar a = true) (hb : notStar b = true) (hd : notStar d = true) (h1 : [a, b, d].all (foldedForSure 8) = false) (h2 : [a, b, d].all (constantsAlone 8) = false) :
    swappedStores [.Tuple [.Name x px, .Name y py, .Name z pz] kt pt] (.Tuple [a, b, d] k2 pt2) env = pure (some [x, y, z]) := by
  have kx : env.kindOf x = some .local := hx
  have ky : env.kindOf y = some .local := hy
  have kz : env.kindOf z = some .local := hz
  have st : ∀ e : Expr, notStar e = true → (match e with | .Starred .. => true | _ => false) = false := fun e h => by cases e <;> first | rfl | cases h
  have h21 : ¬ y = x := fun z => h12 z.symm
  have h31 : ¬ z = x := fun q => h13 q.symm
  have h32 : ¬ z = y := fun q => h23 q.symm
  unfold swappedStores
  simp only [bk_fun hk]
  simp only [List.any_cons, List.any_nil, st a ha, st b hb, st d hd, h1, h2, List.filterMap_cons, List.filterMap_nil, kx, ky, kz, Expr.pos, List.head?_cons, Option.map_some, Option.getD_some, hl, hl2]
  simp [List.eraseDups_cons, h12, h13, h23, h21, h31, h32]
  intro z
  exfalso
  rcases z with z | z | z
  · cases a <;> first | (cases z; done) | (cases ha; done)
  · cases b <;> first | (cases z; done) | (cases hb; done)
  · cases d <;> first | (cases z; done) | (cases hd; done)
section
variable {c : Cfg} {Φ : Fenv} {k : Nat}
theorem GoodS.local {ck : Ck} {X : Cx} {E : XK} (G : GoodS c ck Φ k X E) {i : Nat} {x : Str} (h : ck.loc i x = true) : X.N[i]? = some x ∧ X.env.scope.names.lookup x = some .local := by
  unfold Ck.loc at h
  rw [Bool.and_eq_true, decide_eq_true_eq, decide_eq_true_eq] at h
  exact ⟨by rw [G.hN]; exact h.1, by rw [G.hsc]; exact h.2⟩
theorem tg_shape {ck : Ck} {tg : Tg} {e : Expr} (h : tgOk ck tg e = true) : (∀ es p, e ≠ .List es p) ∧ notStar e = true := by
  unfold tgOk at h
  split at h
  · exact ⟨fun _ _ z => (by cases z), rfl⟩
  · exact ⟨fun _ _ z => (by cases z), rfl⟩
  · cases h
theorem sub_assign {o i : Expr} {p : Pos} {env : Env} (h : plainIx i = true) : ∀ v, assign (.Subscript o i p) env v = (do
      let ov ← holding [v] (eval o env)
      let iv ← holding [v, ov] (eval i env)
      standAt p
      holding [v, ov, iv] (setItem ov iv v)
      release [v, ov, iv] []) := by
  intro v
  cases i <;> first | rfl | cases h
theorem lcE_eq {elt : ME} {tg : Tg} {it : MI} {ifs : MEo} {own : List Nat} : (fun W δ S Q => wpE Φ W (.lc elt tg it ifs own) δ S Q) = dLc (fun W δ S K => wpI Φ W it δ S K) tg (dTst Φ ifs) (fun W δ S Q => wpE Φ W elt δ S Q) own := by
  cases ifs <;> rfl
mutual
theorem sndS : ∀ (m : MS) (ck : Ck) (st : Stmt) (X : Cx) (E : XK), GoodS c ck Φ k X E → chkS m ck st = true → PS X st (liftS c E fun W D δ S => wpS Φ W m D δ S)
  | .expr m, ck, st, X, E, G, h => by
    unfold chkS at h
    split at h
    · rw [Bool.and_eq_true] at h
      exact ds_expr (snd m false ck _ X E G.toGoodE h.2) (swaps_no h.1)
    · cases h
  | .set i m, ck, st, X, E, G, h => by
    unfold chkS at h
    split at h
    · rename_i x px e p
      rw [Bool.or_eq_true] at h
      rcases h with h | h
      · obtain ⟨h1, h2, h3⟩ := and3 h
        obtain ⟨a, b, d⟩ := G.toGoodE.sto h2
        refine ds_set G.nd a b (snd m false ck _ X E G.toGoodE h3) ?_ d
        rw [Bool.or_eq_true, decide_eq_true_eq] at h1
        rcases h1 with h1 | h1
        · exact swaps_no h1
        · exact swaps_cell (by rw [G.hsc]; exact h1)
      · split at h
        · rename_i elt tg it ifs own y tgE iter fs scope pos
          rw [Bool.and_eq_true, Bool.and_eq_true, Bool.and_eq_true, Bool.and_eq_true] at h
          obtain ⟨⟨⟨⟨h, h4⟩, h5⟩, h6⟩, h7⟩ := h
          obtain ⟨h1, h2, h3⟩ := and3 h
          rw [Bool.not_eq_true'] at h3
          obtain ⟨n1, n2⟩ := G.local h1
          obtain ⟨b1, b2, b3, b4, hcl⟩ := lc_shape G.toGoodE h4
          have gx := sndI it ck tgE iter X E G.toGoodE h5
          have gF := fun (s : Shared) (H : Hp) (C : Addr) (cl : List (Str × Addr)) (fp : List Addr) => sndF ifs (ck.blk scope) fs _ XF (G.toGoodE.blk scope s H C cl fp) h6
          have gE := fun (s : Shared) (H : Hp) (C : Addr) (cl : List (Str × Addr)) (fp : List Addr) => snd elt false (ck.blk scope) y _ XF (G.toGoodE.blk scope s H C cl fp) h7
          have r := ds_setLc (py := px) (spos := p) (pos := pos) hcl G.nd n1 n2 (sw_true G.kind n2 h2 h3) gx b1 b2 b3 gF gE b4
          rw [own_map] at r
          have e2 : (fun W (D : DEnds) δ S => wpS Φ W (.set i (.lc elt tg it ifs own)) D δ S) = fun W D δ S => dLc (fun W δ S K => wpI Φ W it δ S K) tg (dTst Φ ifs) (fun W δ S Q => wpE Φ W elt δ S Q) own W δ S fun v S1 => D.nx (δ.set i (some v)) S1 := by
            funext W D δ S
            exact congrFun (congrFun (congrFun (congrFun (lcE_eq (Φ := Φ)) W) δ) S) _
          rw [e2]
          exact r
        · cases h
    · cases h
  | .setA o f m, ck, st, X, E, G, h => by
    unfold chkS at h
    split at h
    · rw [Bool.and_eq_true] at h
      obtain ⟨h, h4⟩ := h
      obtain ⟨h1, h2, h3⟩ := and3 h
      rw [decide_eq_true_eq] at h1
      subst h1
      exact ds_setA G.cls (G.flds f (List.contains_iff_mem.mp h2)) (snd o false ck _ X E G.toGoodE h3) (snd m false ck _ X E G.toGoodE h4) swaps_attr
    · cases h
  | .setI o i m, ck, st, X, E, G, h => by
    unfold chkS at h
    split at h
    · rw [Bool.and_eq_true] at h
      obtain ⟨h, h4⟩ := h
      obtain ⟨h1, h2, h3⟩ := and3 h
      exact ds_setI (opSet G.hK G.hw G.hu) (snd o false ck _ X E G.toGoodE h2) (snd i false ck _ X E G.toGoodE h3) (snd m false ck _ X E G.toGoodE h4) (sub_assign h1) sole_sub stores_sub rfl
    · cases h
  | .setI2 o1 i1 o2 i2 e1 e2, ck, st, X, E, G, h => by
    unfold chkS at h
    rw [Bool.and_eq_true] at h
    obtain ⟨hcl, h⟩ := h
    split at h
    · simp only [Bool.and_eq_true] at h
      obtain ⟨⟨⟨⟨⟨⟨⟨⟨⟨h1, h2⟩, h3⟩, h4⟩, h5⟩, h6⟩, h7⟩, h8⟩, h9⟩, h10⟩ := h
      rename_i x1 y1 q1 x2 y2 q2 kk tp a b k2 p3 pos
      have ht := snd (.tup (.c e1 (.c e2 .n))) false ck (.Tuple [a, b] k2 p3) X E G.toGoodE (by
        unfold chk
        simp only [Bool.not_false, Bool.true_and, chkA, h3, h4, h9, h10, Bool.and_self])
      exact ds_set2 (G.hc hcl) (opSet G.hK G.hw G.hu) (snd o1 false ck _ X E G.toGoodE h5) (snd i1 false ck _ X E G.toGoodE h6) (snd o2 false ck _ X E G.toGoodE h7) (snd i2 false ck _ X E G.toGoodE h8) ht (sub_assign h1) (sub_assign h2) (by first | rfl | exact swaps_no (e := .Tuple [a, b] k2 p3) rfl) (stores_no (fun _ _ z => by cases z) rfl) (each_one rfl)
    · cases h
  | .unp tg m, ck, st, X, E, G, h => by
    unfold chkS at h
    split at h
    · rw [Bool.and_eq_true] at h
      obtain ⟨h, h4⟩ := h
      obtain ⟨h1, h2, h3⟩ := and3 h
      obtain ⟨t1, t2⟩ := tg_shape h3
      exact ds_asg (snd m false ck _ X E G.toGoodE h4) (G.toGoodE.tg h3) (swaps_no h1) (stores_no t1 (by rw [G.hsc]; exact h2)) (each_one t2)
    · cases h
  | .par is es, ck, st, X, E, G, h => by
    unfold chkS at h
    rw [Bool.and_eq_true] at h
    obtain ⟨hcl, h⟩ := h
    split at h
    · simp only [Bool.and_eq_true, decide_eq_true_eq, Bool.not_eq_true'] at h
      obtain ⟨⟨⟨⟨⟨⟨⟨⟨⟨h1, h2⟩, h3⟩, h4⟩, h5⟩, h6⟩, h7⟩, h8⟩, h9⟩, h10⟩ := h
      obtain ⟨a1, a2⟩ := G.local h1
      obtain ⟨b1, b2⟩ := G.local h2
      exact ds_par2 (G.hc hcl) G.nd a1 b1 h3 a2 b2 (sndA es ck _ X E G.toGoodE h10) (swap2 G.kind a2 b2 h4 h5 h6 h7 h8 h9) rfl
    · simp only [Bool.and_eq_true, decide_eq_true_eq, Bool.not_eq_true'] at h
      obtain ⟨⟨⟨⟨⟨⟨⟨⟨⟨⟨⟨⟨⟨⟨⟨⟨h1, h2⟩, h3⟩, h4⟩, h5⟩, h6⟩, h7⟩, h8⟩, h9⟩, h10⟩, h11⟩, h12⟩, h13⟩, h14⟩, h15⟩, h16⟩, h17⟩ := h
      obtain ⟨a1, a2⟩ := G.local h1
      obtain ⟨b1, b2⟩ := G.local h2
      obtain ⟨d1, d2⟩ := G.local h3
      exact ds_par3 (G.hc hcl) G.nd a1 b1 d1 h4 h5 h6 a2 b2 d2 (sndA es ck _ X E G.toGoodE h17) (swap3 G.kind a2 b2 d2 h7 h8 h9 h10 h11 h12 h13 h14 h15 h16) rfl
    · cases h
  | .ret m, ck, st, X, E, G, h => by
    unfold chkS at h
    split at h
    · exact ds_ret (snd m false ck _ X E G.toGoodE h)
    · cases h
  | .ret0, ck, st, X, E, G, h => by
    unfold chkS at h
    split at h
    · exact ds_ret0
    · cases h
  | .pass, ck, st, X, E, G, h => by
    unfold chkS at h
    split at h
    · exact ds_pass
    · cases h
  | .ife d a b, ck, st, X, E, G, h => by
    unfold chkS at h
    split at h
    · obtain ⟨h1, h2, h3⟩ := and3 h
      exact ds_if (snd d true ck _ X E G.toGoodE h1) (sndSs a ck _ X E G h2) (sndSs b ck _ X E G h3)
    · cases h
  | .for_ tg it body, ck, st, X, E, G, h => by
    unfold chkS at h
    rw [Bool.and_eq_true] at h
    obtain ⟨hcl, h⟩ := h
    split at h
    · rw [Bool.and_eq_true] at h
      obtain ⟨h, h4⟩ := h
      obtain ⟨h1, h2, h3⟩ := and3 h
      exact ds_for (G.hp hcl) (G.hc hcl) (sndI it ck _ _ X E G.toGoodE h3) (G.toGoodE.tg h1) (sndSs body ck _ X E G h4) (unfold_of h2)
    · cases h
  | .whl d body, ck, st, X, E, G, h => by
    unfold chkS at h
    rw [Bool.and_eq_true] at h
    obtain ⟨hcl, h⟩ := h
    split at h
    · rw [Bool.and_eq_true] at h
      exact ds_while (G.hp hcl) (snd d true ck _ X E G.toGoodE h.1) (sndSs body ck _ X E G h.2)
    · cases h
  | .raise x, ck, st, X, E, G, h => by
    unfold chkS at h
    rw [Bool.and_eq_true] at h
    obtain ⟨hcl, h⟩ := h
    split at h
    · obtain ⟨h1, h2, h3⟩ := and3 h
      rw [decide_eq_true_eq] at h1
      subst h1
      obtain ⟨g1, g2⟩ := G.toGoodE.gl h3
      obtain ⟨q1, q2, q3, B, n1, n2, bm, F, q4⟩ := G.exs x (List.contains_iff_mem.mp h2)
      exact ds_raise (cl := Str.empty) (G.hc hcl) G.tk F q4 q1 q2 q3 g1 g2
    · cases h
  | .never, ck, st, X, E, G, h => ⟨fun pins s σ H D I h => by
    obtain ⟨δ, S, W, N, R, _, _, h, _⟩ := h
    exact h.elim⟩
  | .tryR m d, ck, st, X, E, G, h => by
    unfold chkS at h
    split at h
    · rename_i e p1 x p2 z j p3 p4 p5 pos
      simp only [Bool.and_eq_true, decide_eq_true_eq] at h
      obtain ⟨⟨⟨⟨h1, rfl⟩, h3⟩, h4⟩, h5⟩ := h
      split at h4
      · rename_i s
        rw [decide_eq_true_eq] at h4
        subst h4
        obtain ⟨t1, t2, t3, t4⟩ := G.try_ h1
        obtain ⟨g1, g2⟩ := G.toGoodE.gl h3
        refine (ps_try_only (X := X) (c := .ref (He.ga c.K (os "NewsError"))) (tb := fun W D σ H => ∃ Ech : XK, (∀ cls d σ' H', Ech cls d H' → W cls d σ' H') ∧ liftS c Ech (fun W D δ S => wpE Φ W m δ S D.rt) D σ H)
          t1 t2 ⟨g1, g2, .inl t3⟩ takesF (fun W pn xe tk _ => ?_) (fun a oe cls d pn _ _ => pss_one (ps_ret pe_str))).imp fun D σ H h => ?_
        · refine ⟨fun pins s' σ H' D I h' => ?_⟩
          obtain ⟨Ech, hW, h'⟩ := h'
          exact (pss_one (ds_ret (snd m false ck.trb e _ Ech (G.toGoodE.trb tk hW) h5))).run pins s' σ H' D I h'
        · obtain ⟨δ, S, W, N, R, hσ, hS, ht, hN, hR, hX⟩ := h
          refine ⟨fun cls _ H' => ∃ (S' : Store) (x : DX), x.cls ∈ newsX ∧ cls = .ref (He.ga c.K (os x.cls)) ∧ R (.str s) S' ∧ Fr H S H' S' ∧ RepS c H' S', fun cls d σ' H' ⟨S', x, q1, q2, q3, q4, q5⟩ => ⟨true, by rw [q2]; exact t4 _ q1, fun _ a _ => hR _ S' _ H' q3 q4 rfl q5, fun z => nomatch z⟩, δ, S, _, N, R, hσ, hS, ht, hN, hR, fun x S' cls d H' h' f' r' s' => ?_⟩
          exact ⟨S', x, h'.1, r'.1, h'.2, f', s'⟩
      · cases h4
    · cases h
  | .raise1 n f m, ck, st, X, E, G, h => by
    unfold chkS at h
    rw [Bool.and_eq_true] at h
    obtain ⟨hcl, h⟩ := h
    split at h
    · simp only [Bool.and_eq_true, decide_eq_true_eq] at h
      obtain ⟨⟨⟨⟨rfl, h2⟩, h3⟩, h4⟩, h5⟩ := h
      obtain ⟨g1, g2⟩ := G.toGoodE.gl h3
      exact G.exi (n, f) (List.contains_iff_mem.mp h2) _ _ _ _ _ g1 g2 (snd m false ck _ X E G.toGoodE h5) h4 (G.hc hcl)
    · cases h
  | .lock s, ck, st, X, E, G, h => by
    unfold chkS at h
    exact ds_lock (sndS s ck st X E G h)
  | .frz _ s, ck, st, X, E, G, h => by
    unfold chkS at h
    exact sndS s ck st X E G h
theorem sndSs : ∀ (ms : MSs) (ck : Ck) (l : List Stmt) (X : Cx) (E : XK), GoodS c ck Φ k X E → chkSs ms ck l = true → PSs X l (liftS c E fun W D δ S => wpSs Φ W ms D δ S)
  | .n, ck, l, X, E, G, h => by
    unfold chkSs at h
    split at h
    · exact dss_nil
    · cases h
  | .c s ss, ck, l, X, E, G, h => by
    unfold chkSs at h
    split at h
    · rw [Bool.and_eq_true] at h
      exact dss_cons (sndS s ck _ X E G h.1) (sndSs ss ck _ X E G h.2)
    · cases h
end
end
end Nf
set_option Elab.async false
set_option linter.all false
set_option maxRecDepth 100000
set_option maxHeartbeats 8000000
/-! NfWord: a lambda handed to _law_word: what it tells, or the word of its refusal. -/
namespace Nf
open PySem PySem.Spec L2
open PyProof.Rows hiding St

/-! ### the suite, as a term -/
def es_ (l : List ME) : MEs := l.foldr .c .n
def ss_ (l : List MS) : MSs := l.foldr .c .n
def sl (s : String) : ME := .lit (.str s)
def suiteM : MSs := ss_ [
  .set 2 (.lst (es_ [.isE 1 "BadHouse", .isE 1 "BadDay", .isE 1 "BadWorth", .isE 1 "BadLife"])),
  .set 2 (.bin .add (.var 2) (.lst (es_ [.isE 1 "NotOwn", .isE 1 "BadLetter", .isE 1 "BadTies", .isE 1 "NoWay"]))),
  .set 2 (.bin .add (.var 2) (.lst (es_ [.isE 1 "BadRow", .isE 1 "BadText"]))),
  .set 3 (.lst (es_ [sl "BadHouse", sl "BadDay", sl "BadWorth", sl "BadLife", sl "NotOwn", sl "BadLetter", sl "BadTies", sl "NoWay", sl "BadRow"])),
  .expr (.lm (.var 3) .append (es_ [sl "BadText"])),
  .ife (.or_ (.cmp .ne (.cnt (.var 2) true) (.lit (.int 1))) (.not_ (.isE 1 "ValueError"))) (ss_ [.ret (.tup (es_ [sl "other", .lit (.int 0)]))]) .n,
  .set 4 (.ix (.var 3) (.lm (.var 2) .index (es_ [.lit (.bl true)]))),
  .ret (.tup (es_ [.var 4, .ife (.cmp .eq (.var 4) (sl "BadRow")) (.exF 1 "number") (.ife (.cmp .eq (.var 4) (sl "BadText")) (.exF 1 "row") (.lit (.int 0)))]))]
/-- what the suite may ask of the exception x at a -/
def Fx (a : Nat) (x : DX) : Fenv := fun k f ds S Q W =>
  (k = "$is" ∧ ds = [.ref a] ∧ f ∈ "ValueError" :: newsX ∧ Q (.bl (decide (f = x.cls ∨ f = "ValueError"))) S) ∨
  (k = "$fld" ∧ ds = [.ref a] ∧ ((x.cls = "BadRow" ∧ f = "number") ∨ (x.cls = "BadText" ∧ f = "row")) ∧ ∃ i : Int, x.val = some (f, .int i) ∧ Q (.int i) S)
theorem put_le {S S' : Store} {p : Nat} {o : DO} (h : Le S S') (n : S p = none) : Le S (put S' p o) := fun a u e => by
  have : a ≠ p := fun z => by subst z; rw [n] at e; cases e
  rw [put_ne this]; exact h a u e
theorem le_none {S S' : Store} {p : Nat} (h : Le S S') (n : S' p = none) : S p = none := by
  cases q : S p with
  | none => rfl
  | some o => rw [h p o q] at n; cases n

theorem put_le' {S S' : Store} {p : Nat} {o : DO} (h : Le S S') (n : S' p = none) : Le S (put S' p o) := put_le h (le_none h n)
section
variable {a : Nat} {x : DX} {Φ : Fenv} {W : DE} {δ : DSt} {S : Store} {E : DEnds}
theorem isE_st {f : String} (hf : f ∈ "ValueError" :: newsX) (h : δ[1]? = some (some (.ref a))) {Q : DQ} (q : Q (.bl (decide (f = x.cls ∨ f = "ValueError"))) S) : wpE (Fx a x) W (.isE 1 f) δ S Q := by
  show getS δ 1 fun d => Fx a x "$is" f [d] S Q W
  unfold getS
  rw [h]
  exact .inl ⟨rfl, rfl, hf, q⟩
theorem es_cons {e : ME} {l : List ME} {Q : List D → Store → Prop} (h : wpE Φ W e δ S fun d S1 => wpEs Φ W (es_ l) δ S1 fun ds S2 => Q (d :: ds) S2) : wpEs Φ W (es_ (e :: l)) δ S Q := h
theorem es_nil {Q : List D → Store → Prop} (h : Q [] S) : wpEs Φ W (es_ []) δ S Q := h
theorem var_st {i : Nat} {d : D} {Q : DQ} (h : δ[i]? = some (some d)) (q : Q d S) : wpE Φ W (.var i) δ S Q := by
  show getS δ i fun d => Q d S
  unfold getS
  rw [h]
  exact q
theorem lst_st {es : MEs} {Q : DQ} (h : wpEs Φ W es δ S fun ds S1 => ds.length ≤ szLine ∧ alloc S1 (.lst ds) Q) : wpE Φ W (.lst es) δ S Q := h
theorem isEs_st : ∀ {l : List String} {Q : List D → Store → Prop}, (∀ f ∈ l, f ∈ "ValueError" :: newsX) → δ[1]? = some (some (.ref a)) → Q (l.map fun f => .bl (decide (f = x.cls ∨ f = "ValueError"))) S → wpEs (Fx a x) W (es_ (l.map (.isE 1))) δ S Q
  | [], Q, _, _, q => q
  | f :: l, Q, hf, hd, q => es_cons (isE_st (hf f List.mem_cons_self) hd (isEs_st (l := l) (fun g hg => hf g (List.mem_cons_of_mem _ hg)) hd q))
theorem strs_st : ∀ {l : List String} {Q : List D → Store → Prop}, Q (l.map .str) S → wpEs Φ W (es_ (l.map sl)) δ S Q
  | [], Q, q => q
  | f :: l, Q, q => es_cons (strs_st (l := l) q)
theorem st_lst {i : Nat} {es : MEs} {ss : MSs} (h : wpEs Φ W es δ S fun ds S1 => ds.length ≤ szLine ∧ ∀ p, S1 p = none → wpSs Φ W ss E (δ.set i (some (.ref p))) (put S1 p (.lst ds))) (m : ∀ (Q Q' : List D → Store → Prop), (∀ ds S1, Q ds S1 → Q' ds S1) → wpEs Φ W es δ S Q → wpEs Φ W es δ S Q') : wpSs Φ W (.c (.set i (.lst es)) ss) E δ S :=
  m _ (fun ds S1 => ds.length ≤ szLine ∧ alloc S1 (.lst ds) fun d S2 => ∃ S3, Le S3 S2 ∧ wpSs Φ W ss E (δ.set i (some d)) S3) (fun ds S1 h => ⟨h.1, fun p n => ⟨_, Le.refl _, h.2 p n⟩⟩) h
theorem isEs_m {l : List String} : ∀ (Q Q' : List D → Store → Prop), (∀ ds S1, Q ds S1 → Q' ds S1) → wpEs (Fx a x) W (es_ (l.map (.isE 1))) δ S Q → wpEs (Fx a x) W (es_ (l.map (.isE 1))) δ S Q' := by
  induction l with
  | nil => intro Q Q' m h; exact m _ _ h
  | cons f l ih =>
    intro Q Q' m h
    have h : getS δ 1 fun d => Fx a x "$is" f [d] S (fun d S1 => wpEs (Fx a x) W (es_ (l.map (.isE 1))) δ S1 fun ds S2 => Q (d :: ds) S2) W := h
    show getS δ 1 fun d => Fx a x "$is" f [d] S (fun d S1 => wpEs (Fx a x) W (es_ (l.map (.isE 1))) δ S1 fun ds S2 => Q' (d :: ds) S2) W
    unfold getS at h ⊢
    split at h
    · rename_i d hd
      rcases h with ⟨h1, h2, h3, h4⟩ | ⟨h1, _⟩
      · exact .inl ⟨h1, h2, h3, ih _ _ (fun ds S1 z => m _ _ z) h4⟩
      · exact absurd h1 (by decide)
    · cases h
theorem strs_m {l : List String} : ∀ (Q Q' : List D → Store → Prop), (∀ ds S1, Q ds S1 → Q' ds S1) → wpEs Φ W (es_ (l.map sl)) δ S Q → wpEs Φ W (es_ (l.map sl)) δ S Q' := by
  induction l with
  | nil => intro Q Q' m h; exact m _ _ h
  | cons f l ih => intro Q Q' m h; exact ih (fun ds S1 => Q (.str f :: ds) S1) _ (fun ds S1 z => m _ _ z) h
/-- x = y + [..] -/
theorem st_add {i j : Nat} {l : List String} {ss : MSs} {q : Nat} {ds : List D} (hf : ∀ f ∈ l, f ∈ "ValueError" :: newsX) (h1 : δ[1]? = some (some (.ref a))) (hj : δ[j]? = some (some (.ref q))) (hq : S q = some (.lst ds)) (hl : ds.length + l.length ≤ szLine)
    (h : ∀ p1 p2, S p1 = none → put S p1 (.lst (l.map fun f => .bl (decide (f = x.cls ∨ f = "ValueError")))) p2 = none → wpSs (Fx a x) W ss E (δ.set i (some (.ref p2))) (put (put S p1 (.lst (l.map fun f => .bl (decide (f = x.cls ∨ f = "ValueError"))))) p2 (.lst (ds ++ l.map fun f => .bl (decide (f = x.cls ∨ f = "ValueError")))))) :
    wpSs (Fx a x) W (.c (.set i (.bin .add (.var j) (.lst (es_ (l.map (.isE 1)))))) ss) E δ S := by
  show wpE (Fx a x) W (.var j) δ S fun u S1 => wpEs (Fx a x) W (es_ (l.map (.isE 1))) δ S1 fun ds S2 => ds.length ≤ szLine ∧ alloc S2 (.lst ds) fun v S3 => rBin .add u v S3 fun d S4 => ∃ S5, Le S5 S4 ∧ wpSs (Fx a x) W ss E (δ.set i (some d)) S5
  refine var_st hj (isEs_st hf h1 ⟨by rw [List.length_map]; omega, fun p1 n1 => ?_⟩)
  have hne : q ≠ p1 := fun z => by subst z; rw [n1] at hq; cases hq
  have r1 : put S p1 (.lst (l.map fun f => .bl (decide (f = x.cls ∨ f = "ValueError")))) q = some (.lst ds) := by rw [put_ne hne]; exact hq
  unfold rBin
  simp only [r1, put_same]
  exact ⟨by rw [List.length_map]; exact hl, fun p2 n2 => ⟨_, Le.refl _, h p1 p2 n1 n2⟩⟩
end
def l1 : List String := ["BadHouse", "BadDay", "BadWorth", "BadLife"]
def l2 : List String := ["NotOwn", "BadLetter", "BadTies", "NoWay"]
def l3 : List String := ["BadRow", "BadText"]
def bls (x : DX) (l : List String) : List D := l.map fun f => .bl (decide (f = x.cls ∨ f = "ValueError"))
theorem bls_of {x : DX} {l : List String} (h : "ValueError" ∉ l) : bls x l = l.map fun f => .bl (decide (f = x.cls)) := by
  unfold bls
  refine List.map_congr_left fun f hf => ?_
  have : f ≠ "ValueError" := fun z => h (z ▸ hf)
  simp [this]
theorem suite_ok {a : Nat} {x : DX} {S : Store} {k : D → Prop} (hx : wordD x k) (W : DE) (N : DSt → Store → Prop) : wpSs (Fx a x) W suiteM ⟨N, fun v S2 => Le S S2 ∧ k v⟩ [none, some (.ref a), none, none, none] S := by
  have hcls : x.cls ∈ newsX := by
    rcases hx with h | h | h
    · exact List.mem_append_left _ h.1
    · rw [h.1]; decide
    · rw [h.1]; decide
  refine st_lst (isEs_st (l := l1) (by decide) rfl ⟨by simp [szLine, l1], fun p1 n1 => ?_⟩) (isEs_m (l := l1))
  have e1 := put_le' (o := .lst (bls x l1)) (Le.refl S) n1
  refine st_add (l := l2) (j := 2) (q := p1) (by decide) rfl rfl put_same (by simp [szLine, l1, l2]) fun p2 p3 n2 n3 => ?_
  have n2 : put S p1 (.lst (bls x l1)) p2 = none := n2
  have n3 : put (put S p1 (.lst (bls x l1))) p2 (.lst (bls x l2)) p3 = none := n3
  have e2 := put_le' (o := .lst (bls x l2)) e1 n2
  have e3 := put_le' (o := .lst (bls x l1 ++ bls x l2)) e2 n3
  show wpSs _ _ _ _ _ (put (put (put S p1 (.lst (bls x l1))) p2 (.lst (bls x l2))) p3 (.lst (bls x l1 ++ bls x l2)))
  generalize hS2 : put (put S p1 (.lst (bls x l1))) p2 (.lst (bls x l2)) = S2 at *
  refine st_add (l := l3) (j := 2) (q := p3) (by decide) rfl rfl put_same (by simp [szLine, bls, l1, l2, l3]) fun p4 p5 n4 n5 => ?_
  have n4 : put S2 p3 (.lst (bls x l1 ++ bls x l2)) p4 = none := n4
  have n5 : put (put S2 p3 (.lst (bls x l1 ++ bls x l2))) p4 (.lst (bls x l3)) p5 = none := n5
  have e4 := put_le' (o := .lst (bls x l3)) e3 n4
  have e5 := put_le' (o := .lst (bls x l1 ++ bls x l2 ++ bls x l3)) e4 n5
  show wpSs _ _ _ _ _ (put (put (put S2 p3 (.lst (bls x l1 ++ bls x l2))) p4 (.lst (bls x l3))) p5 (.lst (bls x l1 ++ bls x l2 ++ bls x l3)))
  have ek : bls x l1 ++ bls x l2 ++ bls x l3 = newsX.map fun f => .bl (decide (f = x.cls)) := by
    rw [bls_of (by decide), bls_of (by decide), bls_of (by decide)]; rfl
  rw [ek] at e5 ⊢
  generalize hS4 : put (put S2 p3 (.lst (bls x l1 ++ bls x l2))) p4 (.lst (bls x l3)) = S4 at *
  generalize hK : (newsX.map fun f => D.bl (decide (f = x.cls))) = ks at *
  refine st_lst (strs_st (l := plainX ++ ["BadRow"]) ⟨by simp [szLine, plainX], fun p6 n6 => ?_⟩) (strs_m (l := plainX ++ ["BadRow"]))
  have e6 := put_le' (o := .lst ((plainX ++ ["BadRow"]).map .str)) e5 n6
  have n56 : p5 ≠ p6 := fun z => by subst z; rw [put_same] at n6; cases n6
  have st7 : ∀ {ss : MSs} {δ : DSt} {S : Store} {E : DEnds}, (wpE (Fx a x) W (.var 3) δ S fun d S1 => (match d with | .ref a => (match S1 a with | some (.lst _) => True | _ => False) | _ => False) ∧ rLm .append d [.str "BadText"] S1 fun _ S2 => ∃ S3, Le S3 S2 ∧ wpSs (Fx a x) W ss E δ S3) → wpSs (Fx a x) W (.c (.expr (.lm (.var 3) .append (es_ [sl "BadText"]))) ss) E δ S := fun h => h
  refine st7 (var_st (i := 3) rfl ?_)
  simp only [put_same]
  refine ⟨trivial, ?_⟩
  show rLm .append (.ref p6) [.str "BadText"] (put (put S4 p5 (.lst ks)) p6 (.lst ((plainX ++ ["BadRow"]).map .str))) _
  unfold rLm
  simp only [put_same]
  refine ⟨by simp [szLine, plainX], _, Le.refl _, ?_⟩
  have ew : (plainX ++ ["BadRow"]).map D.str ++ [D.str "BadText"] = newsX.map .str := rfl
  rw [ew]
  have e7 : Le S (put (put (put S4 p5 (.lst ks)) p6 (.lst ((plainX ++ ["BadRow"]).map .str))) p6 (.lst (newsX.map .str))) := fun b u z => by
    have hb : b ≠ p6 := fun q => by subst q; rw [le_none e5 n6] at z; cases z
    rw [put_ne hb]; exact e6 b u z
  have q5 : put (put (put S4 p5 (.lst ks)) p6 (.lst ((plainX ++ ["BadRow"]).map .str))) p6 (.lst (newsX.map .str)) p5 = some (.lst ks) := by rw [put_ne n56, put_ne n56, put_same]
  have q6 : put (put (put S4 p5 (.lst ks)) p6 (.lst ((plainX ++ ["BadRow"]).map .str))) p6 (.lst (newsX.map .str)) p6 = some (.lst (newsX.map .str)) := put_same
  generalize put (put (put S4 p5 (.lst ks)) p6 (.lst ((plainX ++ ["BadRow"]).map .str))) p6 (.lst (newsX.map .str)) = S7 at *
  clear e1 e2 e3 e4 e5 e6 hS2 hS4 n1 n2 n3 n4 n5 n6
  have st8 : ∀ {e : ME} {A B ss : MSs} {δ : DSt} {S : Store} {E : DEnds}, (wpE (Fx a x) W e δ S fun d S1 => asB d fun k => if k then wpSs (Fx a x) W A ⟨fun δ' S' => ∃ S2, Le S2 S' ∧ wpSs (Fx a x) W ss E δ' S2, E.rt⟩ δ S1 else wpSs (Fx a x) W B ⟨fun δ' S' => ∃ S2, Le S2 S' ∧ wpSs (Fx a x) W ss E δ' S2, E.rt⟩ δ S1) → wpSs (Fx a x) W (.c (.ife e A B) ss) E δ S := fun h => h
  refine st8 ?_
  have hc : ks.count (.bl true) = 1 := by
    rw [← hK]
    revert hcls
    generalize x.cls = cn
    intro hcls
    simp only [newsX, plainX, List.cons_append, List.nil_append, List.mem_cons, List.not_mem_nil, or_false] at hcls
    rcases hcls with rfl | rfl | rfl | rfl | rfl | rfl | rfl | rfl | rfl | rfl <;> decide
  have hb : ∀ u ∈ ks, ∃ c, u = .bl c := by
    rw [← hK]
    intro u hu
    obtain ⟨f, _, rfl⟩ := List.mem_map.mp hu
    exact ⟨_, rfl⟩
  have st9 : ∀ {δ : DSt} {S : Store} {Q : DQ}, (wpE (Fx a x) W (.var 2) δ S fun d S1 => rCnt true d S1 fun y S2 => rCmp .ne y (.int 1) S2 fun k => if k then Q (.bl true) S2 else wpE (Fx a x) W (.not_ (.isE 1 "ValueError")) δ S2 Q) → wpE (Fx a x) W (.or_ (.cmp .ne (.cnt (.var 2) true) (.lit (.int 1))) (.not_ (.isE 1 "ValueError"))) δ S Q := fun h => h
  refine st9 (var_st (i := 2) rfl ?_)
  show rCnt true (.ref p5) S7 _
  unfold rCnt
  simp only [q5]
  refine ⟨hb, ?_⟩
  rw [hc]
  have en : ∀ {S : Store} {k : Bool → Prop}, k false → rCmp .ne (.int ((1 : Nat) : Int)) (.int 1) S k := fun h => h
  refine en ?_
  rw [if_neg (by decide)]
  have st12 : ∀ {δ : DSt} {S : Store} {Q : DQ}, (wpE (Fx a x) W (.isE 1 "ValueError") δ S fun d S1 => asB d fun c => Q (.bl (!c)) S1) → wpE (Fx a x) W (.not_ (.isE 1 "ValueError")) δ S Q := fun h => h
  refine st12 ?_
  refine isE_st (by decide) rfl ?_
  have : decide ("ValueError" = x.cls ∨ "ValueError" = "ValueError") = true := by simp
  rw [this]
  refine ⟨_, Le.refl _, ?_⟩
  have st10 : ∀ {ss : MSs} {δ : DSt} {S : Store} {E : DEnds}, (wpE (Fx a x) W (.var 3) δ S fun u S1 => wpE (Fx a x) W (.var 2) δ S1 fun d S2 => (match d with | .ref a => (match S2 a with | some (.lst _) => True | _ => False) | _ => False) ∧ rLm .index d [.bl true] S2 fun y S3 => rIx u y S3 fun v S4 => ∃ S5, Le S5 S4 ∧ wpSs (Fx a x) W ss E (δ.set 4 (some v)) S5) →
      wpSs (Fx a x) W (.c (.set 4 (.ix (.var 3) (.lm (.var 2) .index (es_ [.lit (.bl true)])))) ss) E δ S := fun h => h
  refine st10 (var_st (i := 3) rfl (var_st (i := 2) rfl ?_))
  simp only [q5]
  refine ⟨trivial, ?_⟩
  show rLm .index (.ref p5) [.bl true] S7 _
  unfold rLm
  simp only [q5]
  have er : ks.map (res S7 deep) = newsX.map fun f => some (T.bl (decide (f = x.cls))) := by
    rw [← hK, List.map_map]; rfl
  have eo : optL (ks.map (res S7 deep)) = some (newsX.map fun f => T.bl (decide (f = x.cls))) := by rw [er]; rfl
  rw [eo]
  show (match (newsX.map fun f => T.bl (decide (f = x.cls))).findIdx? fun u => eqT u (.bl true) with | some n => _ | none => False)
  obtain ⟨n, hn, hn2⟩ : ∃ n, (newsX.map fun f => T.bl (decide (f = x.cls))).findIdx? (fun u => eqT u (.bl true)) = some n ∧ newsX[n]? = some x.cls := by
    clear hx hK er eo q5 q6 hc hb
    revert hcls
    generalize x.cls = cn
    intro hcls
    simp only [newsX, plainX, List.cons_append, List.nil_append, List.mem_cons, List.not_mem_nil, or_false] at hcls
    rcases hcls with rfl | rfl | rfl | rfl | rfl | rfl | rfl | rfl | rfl | rfl
    · exact ⟨0, by decide, by decide⟩
    · exact ⟨1, by decide, by decide⟩
    · exact ⟨2, by decide, by decide⟩
    · exact ⟨3, by decide, by decide⟩
    · exact ⟨4, by decide, by decide⟩
    · exact ⟨5, by decide, by decide⟩
    · exact ⟨6, by decide, by decide⟩
    · exact ⟨7, by decide, by decide⟩
    · exact ⟨8, by decide, by decide⟩
    · exact ⟨9, by decide, by decide⟩
  rw [hn]
  have hlt : n < newsX.length := (List.getElem?_eq_some_iff.mp hn2).1
  have hix : ixN (newsX.map D.str).length (n : Int) = some n := by
    unfold ixN
    rw [if_pos (by omega), if_pos (by rw [List.length_map]; omega)]; simp
  have hg : (newsX.map D.str)[n]? = some (D.str x.cls) := by rw [List.getElem?_map, hn2]; rfl
  show rIx (.ref p6) (.int n) S7 _
  unfold rIx
  simp only [q6]
  show (match ixN (newsX.map D.str).length (n : Int) with | some n => _ | none => False)
  rw [hix]
  simp only [hg]
  refine ⟨_, Le.refl _, ?_⟩
  have st11 : ∀ {δ : DSt} {S : Store} {E : DEnds}, δ[4]? = some (some (.str x.cls)) → δ[1]? = some (some (.ref a)) → (∀ d, wordD x (fun v => v = .tup [.str x.cls, d]) → E.rt (.tup [.str x.cls, d]) S) →
      wpSs (Fx a x) W (ss_ [.ret (.tup (es_ [.var 4, .ife (.cmp .eq (.var 4) (sl "BadRow")) (.exF 1 "number") (.ife (.cmp .eq (.var 4) (sl "BadText")) (.exF 1 "row") (.lit (.int 0)))]))]) E δ S := by
    intro δ S E h4 h1 h
    have key : ∀ {Q : DQ}, (∀ d, wordD x (fun v => v = .tup [.str x.cls, d]) → Q d S) → wpE (Fx a x) W (.ife (.cmp .eq (.var 4) (sl "BadRow")) (.exF 1 "number") (.ife (.cmp .eq (.var 4) (sl "BadText")) (.exF 1 "row") (.lit (.int 0)))) δ S Q := by
      intro Q h
      show wpE (Fx a x) W (.var 4) δ S fun u S1 => eqD S1 u (.str "BadRow") fun k => if k then getS δ 1 (fun d => Fx a x "$fld" "number" [d] S1 Q W) else
        wpE (Fx a x) W (.var 4) δ S1 fun u S1 => eqD S1 u (.str "BadText") fun k => if k then getS δ 1 (fun d => Fx a x "$fld" "row" [d] S1 Q W) else Q (.int 0) S1
      refine var_st h4 ?_
      show (if (x.cls == "BadRow") then _ else _)
      have g1 : ∀ {k : D → Prop}, k (.ref a) → getS δ 1 k := fun z => by unfold getS; rw [h1]; exact z
      by_cases b1 : x.cls = "BadRow"
      · rw [if_pos (by rw [b1]; rfl)]
        refine g1 ?_
        have hx' := hx
        rcases hx' with z | z | z
        · rw [b1] at z; exact absurd z.1 (by decide)
        · obtain ⟨_, d, z1, _⟩ := z
          exact .inr ⟨rfl, rfl, .inl ⟨b1, rfl⟩, d, z1, h (.int d) (.inr (.inl ⟨b1, d, z1, rfl⟩))⟩
        · rw [b1] at z; exact absurd z.1 (by decide)
      · rw [if_neg (by simpa using b1)]
        refine var_st h4 ?_
        show (if (x.cls == "BadText") then _ else _)
        by_cases b2 : x.cls = "BadText"
        · rw [if_pos (by rw [b2]; rfl)]
          refine g1 ?_
          have hx' := hx
          rcases hx' with z | z | z
          · rw [b2] at z; exact absurd z.1 (by decide)
          · rw [b2] at z; exact absurd z.1 (by decide)
          · obtain ⟨_, d, z1, _⟩ := z
            exact .inr ⟨rfl, rfl, .inr ⟨b2, rfl⟩, d, z1, h (.int d) (.inr (.inr ⟨b2, d, z1, rfl⟩))⟩
        · rw [if_neg (by simpa using b2)]
          refine h _ ?_
          have hx' := hx
          rcases hx' with z | z | z
          · exact .inl ⟨z.1, rfl⟩
          · exact absurd z.1 b1
          · exact absurd z.1 b2
    show wpE (Fx a x) W (.var 4) δ S fun u S1 => wpE (Fx a x) W (.ife (.cmp .eq (.var 4) (sl "BadRow")) (.exF 1 "number") (.ife (.cmp .eq (.var 4) (sl "BadText")) (.exF 1 "row") (.lit (.int 0)))) δ S1 fun v S2 => [u, v].length ≤ szLine ∧ E.rt (.tup [u, v]) S2
    refine var_st h4 (key fun d hd => ⟨by simp [szLine], h d hd⟩)
  refine st11 rfl rfl fun d hd => ⟨e7, ?_⟩
  rcases hx with z | z | z
  · rcases hd with y | y | y
    · rw [← y.2]; exact z.2
    · rw [y.1] at z; exact absurd z.1 (by decide)
    · rw [y.1] at z; exact absurd z.1 (by decide)
  · obtain ⟨z1, d1, z2, z3⟩ := z
    rcases hd with y | y | y
    · rw [z1] at y; exact absurd y.1 (by decide)
    · obtain ⟨_, d2, y2, y3⟩ := y
      rw [z2] at y2; cases y2
      rw [← y3]; exact z3
    · rw [z1] at y; exact absurd y.1 (by decide)
  · obtain ⟨z1, d1, z2, z3⟩ := z
    rcases hd with y | y | y
    · rw [z1] at y; exact absurd y.1 (by decide)
    · rw [z1] at y; exact absurd y.1 (by decide)
    · obtain ⟨_, d2, y2, y3⟩ := y
      rw [z2] at y2; cases y2
      rw [← y3]; exact z3
end Nf
set_option Elab.async false
set_option linter.all false
set_option maxRecDepth 100000
set_option maxHeartbeats 8000000
/-! NfWord2: _law_word gives what a lambda tells, or the word of its refusal. -/
namespace Nf
open PySem PySem.Spec L2
open PyProof.Rows hiding St

/-! ### facts of the refusals' classes -/
abbrev gX (K : PySem.W.Frag) (n : String) : Value := .ref (He.ga K (os n))
structure WordK (K : PySem.W.Frag) : Prop where
  cl : ∀ n ∈ newsX, (PySem.W.clsIn K (He.ga K (os n))).isSome = true
  ga : ∀ n ∈ newsX, PySem.W.findIn K (gX K n) "__getattribute__" = some (some (.builtin "BaseException.__getattribute__"))
  gt : ∀ n ∈ newsX, PySem.W.findIn K (gX K n) "__getattr__" = some none
  sb : ∀ n ∈ newsX, PySem.W.subIn K (gX K n) (.type "BaseException") = some true
  ca : ∀ n ∈ newsX, PySem.W.findIn K (gX K n) "__class__" = some (some (.builtin "object.__class__"))
  mo : ∀ n ∈ newsX, PySem.W.mroIn K (He.ga K (os n)) (.type "object") = some true
  hd : ∀ n ∈ newsX, PySem.W.hasDictIn K (He.ga K (os n)) = true
  sp : PySem.W.specialIn K (.builtin "object.__class__") "__get__" = some (some (.builtin "getset_descriptor.__get__"))
  tk : PySem.W.takesIn K (.builtin "object.__class__") = some true
  is_ : ∀ n ∈ newsX, ∀ m ∈ newsX, PySem.W.kitOne K (gX K n) (gX K m) = some (decide (m = n))
  isV : ∀ n ∈ newsX, PySem.W.kitOne K (gX K n) (.type "ValueError") = some true
  exm : ∀ n ∈ newsX, PySem.W.exmOne K (gX K n) (gX K "NewsError") = some true
  fr : PySem.W.findIn K (gX K "BadRow") "number" = some none
  ft : PySem.W.findIn K (gX K "BadText") "row" = some none
  gl : ∀ n ∈ "NewsError" :: newsX, (He.Fa.glo (os n)).ok K = true
def wordB (K : PySem.W.Frag) : Bool :=
  (newsX.all fun n => (PySem.W.clsIn K (He.ga K (os n))).isSome && decide (PySem.W.findIn K (gX K n) "__getattribute__" = some (some (.builtin "BaseException.__getattribute__"))) && decide (PySem.W.findIn K (gX K n) "__getattr__" = some none) &&
    decide (PySem.W.subIn K (gX K n) (.type "BaseException") = some true) && decide (PySem.W.findIn K (gX K n) "__class__" = some (some (.builtin "object.__class__"))) && decide (PySem.W.mroIn K (He.ga K (os n)) (.type "object") = some true) && PySem.W.hasDictIn K (He.ga K (os n)) &&
    (newsX.all fun m => decide (PySem.W.kitOne K (gX K n) (gX K m) = some (decide (m = n)))) && decide (PySem.W.kitOne K (gX K n) (.type "ValueError") = some true) && decide (PySem.W.exmOne K (gX K n) (gX K "NewsError") = some true)) &&
  (decide (PySem.W.specialIn K (.builtin "object.__class__") "__get__" = some (some (.builtin "getset_descriptor.__get__"))) && decide (PySem.W.takesIn K (.builtin "object.__class__") = some true) && decide (PySem.W.findIn K (gX K "BadRow") "number" = some none) &&
    decide (PySem.W.findIn K (gX K "BadText") "row" = some none) && (("NewsError" :: newsX).all fun n => (He.Fa.glo (os n)).ok K))
theorem wordB_ok {K : PySem.W.Frag} (h : wordB K = true) : WordK K := by
  unfold wordB at h
  simp only [Bool.and_eq_true, List.all_eq_true, decide_eq_true_eq] at h
  obtain ⟨h1, ⟨⟨⟨⟨s1, s2⟩, s3⟩, s4⟩, s5⟩⟩ := h
  exact ⟨fun n hn => (h1 n hn).1.1.1.1.1.1.1.1.1, fun n hn => (h1 n hn).1.1.1.1.1.1.1.1.2, fun n hn => (h1 n hn).1.1.1.1.1.1.1.2, fun n hn => (h1 n hn).1.1.1.1.1.1.2, fun n hn => (h1 n hn).1.1.1.1.1.2, fun n hn => (h1 n hn).1.1.1.1.2, fun n hn => (h1 n hn).1.1.1.2, s1, s2,
    fun n hn => (h1 n hn).1.1.2, fun n hn => (h1 n hn).1.2, fun n hn => (h1 n hn).2, s3, s4, s5⟩

/-! ### exceptions' dicts put aside -/
def Cfg.wf (c : Cfg) (F : List (Addr × List (Str × V))) : Cfg := { c with F := F }
mutual
theorem RepV.cong {c c' : Cfg} {H : Hp} (k : c'.K = c.K) : ∀ {d : D} {v : V}, RepV c H d v → RepV c' H d v
  | .non, _, h => h
  | .bl _, _, h => h
  | .int _, _, h => h
  | .str _, _, h => h
  | .ty _, _, h => h
  | .cls _, _, h => by simp only [RepV] at h ⊢; rw [k]; exact h
  | .ref _, _, h => h
  | .frz _, _, h => by simp only [RepV] at h ⊢; rw [k]; exact h
  | .tup ds, v, h => by
    simp only [RepV] at h ⊢
    obtain ⟨a, vs, e1, h1, h2⟩ := h
    exact ⟨a, vs, e1, h1, RepL.cong k h2⟩
theorem RepL.cong {c c' : Cfg} {H : Hp} (k : c'.K = c.K) : ∀ {ds : List D} {vs : List V}, RepL c H ds vs → RepL c' H ds vs
  | [], _, h => h
  | d :: ds, vs, h => by
    simp only [RepL] at h ⊢
    obtain ⟨v, vs', e1, h1, h2⟩ := h
    exact ⟨v, vs', e1, RepV.cong k h1, RepL.cong k h2⟩
end
theorem RepO.cong {c c' : Cfg} {H : Hp} (k : c'.K = c.K) (kw : c'.w = c.w) (kc : c'.classes = c.classes) (kf : c'.fields = c.fields) {a : Addr} {o : DO} (h : RepO c H a o) : RepO c' H a o := by
  cases o with
  | lst ds => obtain ⟨vs, q, r⟩ := h; exact ⟨vs, q, r.cong k⟩
  | dic kvs =>
    rcases h with ⟨ks, f, q, r⟩ | ⟨es, n, f, nd, z, y, q, r⟩
    · exact .inl ⟨ks, f, q, Paired.mono2 (fun _ _ x => ⟨x.1, x.2.cong k⟩) r⟩
    · exact .inr ⟨es, n, f, nd, z, y, q, Paired.mono2 (fun _ _ x => ⟨x.1.cong k, by rw [kw]; exact x.2.1, x.2.2.cong k⟩) r⟩
  | fdc kvs =>
    rcases h with ⟨o, ks, f, q, r⟩ | ⟨o, es, n, f, nd, z, y, q, r⟩
    · exact .inl ⟨o, ks, f, q, Paired.mono2 (fun _ _ x => ⟨x.1, x.2.cong k⟩) r⟩
    · exact .inr ⟨o, es, n, f, nd, z, y, q, Paired.mono2 (fun _ _ x => ⟨x.1.cong k, by rw [kw]; exact x.2.1, x.2.2.cong k⟩) r⟩
  | set ds => obtain ⟨f, n, q, r⟩ := h; exact ⟨f, n, by rw [kw]; exact q, r⟩
  | ins x fs => obtain ⟨h1, h2, dx, fv, q, r⟩ := h; exact ⟨by rw [kc]; exact h1, by rw [kf]; exact h2, dx, fv, by rw [k]; exact q, Paired.mono2 (fun _ _ x => ⟨x.1, x.2.cong k⟩) r⟩
theorem RepS.toF {c : Cfg} {H : Hp} {S : Store} {F : List (Addr × List (Str × V))} (h : RepS c H S) (f : ∀ p ∈ F, H p.1 = some (.xd p.2)) : RepS (c.wf F) H S :=
  ⟨fun a o e => (h a o e).cong (c := c) (c' := c.wf F) rfl rfl rfl rfl, fun p hp => ⟨f p hp, h.xdN (f p hp)⟩, h.tb.2⟩
theorem RepS.ofF {c : Cfg} {H : Hp} {S : Store} {F : List (Addr × List (Str × V))} (h : RepS (c.wf F) H S) (f : ∀ p ∈ c.F, p ∈ F) : RepS c H S :=
  ⟨fun a o e => (h a o e).cong (c := c.wf F) (c' := c) rfl rfl rfl rfl, fun p hp => h.tb.1 p (f p hp), h.tb.2⟩

/-! ### the exception in hand -/
def isAns (x : DX) : D → Option Bool
  | .cls m => if m ∈ newsX then some (decide (m = x.cls)) else none
  | .ty n => if n = "ValueError" then some true else none
  | _ => none
def rIsX (a : Nat) (x : DX) (ds : List D) (S : Store) (Q : DQ) : Prop := ∃ m b, ds = [.ref a, m] ∧ isAns x m = some b ∧ Q (.bl b) S
section
variable {c : Cfg} {X : Cx} {a : Addr} {oe : Obj} {pn : List (Addr × Obj)} {x : DX} {d : Option Addr}
theorem call_isX (T : WordK X.K) (hK : X.K = c.K) (hx : x.cls ∈ newsX) (hz : Zc (gX X.K x.cls) d oe) (hf : ∃ vs, oe.data = .fields vs) (hd : ∀ dd, d = some dd → ∃ fs, (dd, fs) ∈ c.F) : CallR (X.suite a ((a, oe) :: pn)) (.builtin "isinstance") (liftC c (rIsX a x)) := by
  intro pins s σ H xs us Q I r h
  obtain ⟨ds, S, P, rl, hS, ⟨m, b, rfl, hm, hq⟩, hP⟩ := h
  obtain ⟨v1, vs, rfl, r1, rl⟩ := RepL.cases_cons rl
  obtain ⟨v2, vs, rfl, r2, rl⟩ := RepL.cases_cons rl
  rw [RepL.nil_eq rl] at r
  simp only [RepV] at r1
  subst r1
  cases r with
  | @cons _ u1 _ us1 ru1 rr =>
    cases rr with
    | @cons _ u2 _ us2 ru2 rr =>
      cases rr
      obtain rfl : u1 = Value.ref a := ru1
      have hc : PySem.W.kitOne X.K (gX X.K x.cls) u2 = some b := by
        cases m with
        | cls n =>
          simp only [isAns] at hm
          split at hm
          · rename_i hn
            cases hm
            simp only [RepV] at r2
            subst r2
            have e : u2 = gX X.K n := by
              have : u2 = Value.ref (He.ga c.K (os n)) := ru2
              rw [this, ← hK]
            rw [e]
            exact T.is_ _ hx _ hn
          · cases hm
        | ty n =>
          simp only [isAns] at hm
          split at hm
          · rename_i hn
            cases hm
            subst hn
            simp only [RepV] at r2
            subst r2
            have e : u2 = Value.type "ValueError" := ru2
            rw [e]
            exact T.isV _ hx
          · cases hm
        | _ => cases hm
      obtain ⟨hget, _⟩ := I.pin (a, oe) (List.mem_append.mpr (.inl List.mem_cons_self))
      obtain ⟨vs, hv⟩ := hf
      have J : ∃ od, PySem.W.InstAt s.heap a oe (He.ga X.K (os x.cls)) od := by
        obtain ⟨h1, h2⟩ := hz
        cases hdd : d with
        | none => exact ⟨none, hget, h1, by unfold PySem.W.notCls; rw [hv] <;> rfl, by rw [h2, hdd]; trivial⟩
        | some dd =>
          obtain ⟨fs, hF⟩ := hd dd hdd
          have hx2 : ObjOk X.prog X.w H s.heap dd (.xd fs) := I.hok dd _ (hS.tb.1 _ hF).1
          obtain ⟨mA, hns, hr⟩ := hx2
          obtain ⟨od, ho, _⟩ := lookIn_ns hns
          exact ⟨some od, hget, h1, by unfold PySem.W.notCls; rw [hv] <;> rfl, by rw [h2, hdd]; exact ho⟩
      obtain ⟨od, J⟩ := J
      exact PySem.W.kia_one (PySem.W.kitx_exc (od := od) (ox := oe) (x := a) (T.cl _ hx) (T.ga _ hx) (T.gt _ hx) (T.sb _ hx) (T.ca _ hx) T.sp T.tk (T.mo _ hx)) I.kIn J hc (fun z => nomatch z) fun tk => ⟨.bl b, H, I.kept (t' := tk) fun _ _ z => z, rfl, hP _ _ _ _ hq Fr.refl rfl hS⟩
end
end Nf
set_option Elab.async false
set_option linter.all false
set_option maxRecDepth 100000
set_option maxHeartbeats 8000000
/-! NfWord3: the lambda's call. -/
namespace Nf
open PySem PySem.Spec L2
open PyProof.Rows hiding St
abbrev NgW : List Str := ["_law_work", "e", "_law_kinds", "_law_words", "_law_word_here"].map os
abbrev ckW (free : List String) (sc : Scope) : Ck where
  N := NgW
  sc := sc
  raw := sc
  cs := []
  free := free
  fns := []
  ms := []
  mks := []
  exs := []
  flds := []
  tbs := []
  calm := false
  exn := some 1
  isx := newsX
  xfs := ["number", "row"]
abbrev wordZ (X : Cx) (sg : Scope) (g : Addr) (cdg : Value) (s : Shared) (H : Hp) : Cx := (cxOf C8.CX0 X.prog X.w X.K X.mg X.base NgW (os "_law_word") sg g cdg X.A X.stack s H C8.E0).nox
section
variable {c : Cfg} {X : Cx} {sg : Scope} {g : Addr} {cdg : Value} {s : Shared} {H : Hp} {a : Addr} {oe : Obj} {pn : List (Addr × Obj)} {x : DX} {d : Option Addr} {free : List String} {k : Nat}
theorem e_slot {y : Str} (h : NgW[1]? = some y) : y = os "e" := by
  cases h; rfl
theorem suite_good (hK : X.K = c.K) (hw : X.w = c.w) (hr : Room (1 + k) (X.A.deeper (envOfC (os "_law_word") sg s.heap.objs.size g cdg))) (hkind : sg.kind = .function) (cls : ClsOk c X.K) (fr : ∀ n ∈ free, X.mg (os n) = none) (T : WordK X.K)
    (gl : ∀ n ∈ newsX, X.mg (os n) = some (gX X.K n)) (hx : x.cls ∈ newsX) (hz : Zc (gX X.K x.cls) d oe) (hf : ∃ vs, oe.data = .fields vs) (hd : ∀ dd, d = some dd → ∃ fs, (dd, fs) ∈ c.F)
    (hv : ∀ (f : String) (i : Int), x.val = some (f, .int i) → ∃ dd, d = some dd ∧ (dd, [(os f, V.int i)]) ∈ c.F) :
    GoodS c (ckW free sg) (Fx a x) 0 ((wordZ X sg g cdg s H).suite a ((a, oe) :: pn)) XF where
  hK := hK
  hw := hw
  hu := by
    have := hr.un
    show (X.A.deeper (envOfC (os "_law_word") sg s.heap.objs.size g cdg)).units + 70 < cLine
    omega
  hc := fun z => nomatch z
  hN := rfl
  nd := show NgW.Nodup by decide
  hsc := rfl
  st := fun y hy => ⟨hy, .inl rfl⟩
  cls := cls
  room := fun z => nomatch z
  ps := fun _ _ _ _ _ _ _ h => by
    obtain ⟨_, _, _, _, _, _, _, _, _, _, _, _, z⟩ := h
    exact z.elim
  cs := fun p hp => by cases hp
  free := fr
  tbs := fun p hp => by cases hp
  fns := fun p hp => by cases hp
  ms := fun p hp => by cases hp
  mks := fun p hp => by cases hp
  lam := fun z => nomatch z
  isE := fun i cl e h => by
    unfold isShape at h
    split at h
    · rename_i xn xp yn yp zn zp pos
      simp only [Bool.and_eq_true, Bool.or_eq_true, decide_eq_true_eq] at h
      obtain ⟨⟨⟨⟨⟨⟨rfl, h2⟩, h3⟩, rfl⟩, h5⟩, h6⟩, h7⟩ := h
      cases h2
      obtain rfl := e_slot h3
      have hbi : ∀ {n : String}, (ckW free sg).bi n = true → Gl ((wordZ X sg g cdg s H).suite a ((a, oe) :: pn)) (os n) ∧ X.mg (os n) = none ∧ os n ≠ "__name__" ∧ (os n == ("__debug__" : Str)) = false := fun {n} h => by
        unfold Ck.bi Ck.gl at h
        simp only [Bool.and_eq_true, Bool.not_eq_true', decide_eq_true_eq] at h
        exact ⟨h.1.1.1, fr n (List.contains_iff_mem.mp h.1.2), beq_eq_false_iff_ne.mp h.2, h.1.1.2⟩
      obtain ⟨b1, b2, b3, b4⟩ := hbi h5
      have hvis : Vis sg (os "e") := by
        unfold Ck.vis at h6
        simp only [Bool.and_eq_true] at h6
        have := h6.1.1
        split at this
        · exact .inl (by assumption)
        · exact .inr (.inl (by assumption))
        · exact .inr (.inr (by assumption))
        · cases this
      have pv : PE ((wordZ X sg g cdg s H).suite a ((a, oe) :: pn)) (.Name (os "e") yp) (lift c XF fun W δ S Q => getS δ 1 fun d => Q d S) := de_var (pe_var (i := 1) rfl hvis (by decide) (by decide))
      have fin : ∀ (m : D), PE ((wordZ X sg g cdg s H).suite a ((a, oe) :: pn)) (.Name (os cl) zp) (lift c XF fun W δ S Q => Q m S) → isAns x m = some (decide (cl = x.cls ∨ cl = "ValueError")) →
          PE ((wordZ X sg g cdg s H).suite a ((a, oe) :: pn)) (.Call (.Name (os "isinstance") xp) [.Name (os "e") yp, .Name (os cl) zp] [] pos) (lift c XF fun W δ S Q => getS δ 1 fun d => Fx a x "$is" cl [d] S Q W) := fun m pm hm =>
        (de_bi (call_isX (X := wordZ X sg g cdg s H) (a := a) (pn := pn) T hK hx hz hf hd) b1 b2 boot_isi (da_cons pv (da_cons pm da_nil rfl) rfl) b3 b4 rfl).imp fun σ H Q h => by
          obtain ⟨δ, S, P, W, hσ, hS, ht, hP, hX⟩ := h
          refine ⟨δ, S, P, W, hσ, hS, ?_, hP, hX⟩
          unfold getS at ht ⊢
          split at ht
          · rename_i d' hd'
            rcases ht with ⟨_, h2, h3, h4⟩ | ⟨h1, _⟩
            · cases h2
              rw [hd']
              exact ⟨m, _, rfl, hm, h4⟩
            · exact absurd h1 (by decide)
          · cases ht
      rcases h7 with ⟨h7, h8⟩ | ⟨h7, h8⟩
      · have hm := List.contains_iff_mem.mp h7
        unfold Ck.gl at h8
        simp only [Bool.and_eq_true, Bool.not_eq_true', decide_eq_true_eq] at h8
        refine fin (.cls cl) (de_lit (pe_glob (v := .ref (He.ga X.K (os cl))) h8.1 (gl cl hm) rfl h8.2) fun H => by simp only [RepV]; rw [hK]) ?_
        have hm' : cl ∈ newsX := hm
        have hne : cl ≠ "ValueError" := fun z => by subst z; revert hm'; decide
        simp only [isAns, if_pos hm', hne, or_false]
      · have hcl : cl = "ValueError" := eq_of_beq h7
        subst hcl
        obtain ⟨d1, d2, d3, d4⟩ := hbi h8
        refine fin (.ty "ValueError") (de_lit (pe_bltn (v := .ty "ValueError") d1 d2 PyProof.Rows.Boot.«ValueError» rfl d3 d4) fun H => rfl) ?_
        simp [isAns]
    · cases h
  exF := fun i f e h => by
    unfold fldShape at h
    split at h
    · rename_i yn yp gn pos
      simp only [Bool.and_eq_true, decide_eq_true_eq] at h
      obtain ⟨⟨⟨⟨h1, h2⟩, rfl⟩, h4⟩, h5⟩ := h
      cases h1
      obtain rfl := e_slot h2
      have hvis : Vis sg (os "e") := by
        unfold Ck.vis at h4
        simp only [Bool.and_eq_true] at h4
        have := h4.1.1
        split at this
        · exact .inl (by assumption)
        · exact .inr (.inl (by assumption))
        · exact .inr (.inr (by assumption))
        · cases this
      refine ⟨fun pins s' σ H' Q I h => ?_⟩
      obtain ⟨δ, S, P, W, hσ, hS, ht, hP, hX⟩ := h
      unfold getS at ht
      split at ht
      · rename_i d' hd'
        rcases ht with ⟨h1, _⟩ | ⟨_, h2, h3, n, h4, h5⟩
        · exact absurd h1 (by decide)
        · cases h2
          obtain ⟨v, hv1, rv⟩ := hσ.2 1 _ hd'
          simp only [RepV] at rv
          subst rv
          obtain ⟨dd, hd1, hd2⟩ := hv f n h4
          have hno : PySem.W.findIn X.K (.ref (He.ga X.K (os x.cls))) (os f) = some none := by
            rcases h3 with ⟨z1, z2⟩ | ⟨z1, z2⟩
            · rw [z1, z2]; exact T.fr
            · rw [z1, z2]; exact T.ft
          exact (pe_xf (X := wordZ X sg g cdg s H) (pos := pos) (C := He.ga X.K (os x.cls)) ⟨T.ga _ hx, T.gt _ hx, T.sb _ hx, T.hd _ hx⟩ hno hz hf (pe_var (pos := yp) (i := 1) rfl hvis (by decide) (by decide)) rfl).run pins s' σ H' Q I
            ⟨.ref a, hv1, rfl, rfl, dd, _, .int n, hd1, (hS.tb.1 _ hd2).1, by simp [List.lookup], hP _ _ _ _ h5 Fr.refl rfl hS⟩
      · cases ht
    · cases h
  hp := fun z => nomatch z
  tk := takesF
  kind := hkind
  flds := fun f hf => by cases hf
  try_ := fun z => nomatch z
  exi := fun q hq => by cases hq
  exs := fun x hx => by cases hx
/-- what _law_word makes of a lambda's reading -/
def XW (c : Cfg) (H : Hp) (S : Store) (P : DQ) : XK := fun cls d H' => ∃ (x : DX) (S' : Store), Fr H S H' S' ∧ RepX c H' x cls d ∧ RepS c H' S' ∧ wordD x fun dd => P dd S'
def TTw (c : Cfg) : (XK → Hp → VK → Prop) → Hp → VK → Prop := fun tl H Q => ∃ (S : Store) (P : DQ), RepS c H S ∧ Post c H S P Q ∧ tl (XW c H S P) H Q
theorem wordD_cls {x : DX} {k : D → Prop} (h : wordD x k) : x.cls ∈ newsX := by
  rcases h with h | h | h
  · exact List.mem_append_left _ h.1
  · rw [h.1]; decide
  · rw [h.1]; decide
theorem wordD_imp {x : DX} {k k' : D → Prop} (h : wordD x k) (i : ∀ d, k d → k' d) : wordD x k' := by
  rcases h with h | ⟨h, n, z, q⟩ | ⟨h, n, z, q⟩
  · exact .inl ⟨h.1, i _ h.2⟩
  · exact .inr (.inl ⟨h, n, z, i _ q⟩)
  · exact .inr (.inr ⟨h, n, z, i _ q⟩)
/-- the suite's wish -/
def tsW (c : Cfg) (a : Addr) (cls : Value) (d : Option Addr) : TS := fun E σ H' => σ.length = NgW.length → ∃ (x : DX) (S' : Store) (k : D → Prop), RepX c H' x cls d ∧ RepS c H' S' ∧ σ[1]? = some (some (.ref a)) ∧ wordD x k ∧ ∀ v H'' dd, k dd → Fr H' S' H'' S' → RepV c H'' dd v → RepS c H'' S' → E.rt v H''
theorem suite_run {suite : List Stmt} (hK : X.K = c.K) (hw : X.w = c.w) (hr : Room (1 + k) (X.A.deeper (envOfC (os "_law_word") sg s.heap.objs.size g cdg))) (hkind : sg.kind = .function) (cls : ClsOk c X.K) (fr : ∀ n ∈ free, X.mg (os n) = none) (T : WordK X.K)
    (gl : ∀ n ∈ newsX, X.mg (os n) = some (gX X.K n)) (hchk : chkSs suiteM (ckW free sg) suite = true) (a : Addr) (oe : Obj) (cl : Value) (d : Option Addr) (pn : List (Addr × Obj)) (hz : Zc cl d oe) (hf : ∃ vs, oe.data = .fields vs) :
    PSs ((wordZ X sg g cdg s H).suite a ((a, oe) :: pn)) suite (tsW c a cl d) := by
  refine ⟨fun pins s' σ H' D I h' => ?_⟩
  obtain ⟨x, S', kk, rx, rs, h1, hw', hq⟩ := h' I.len
  have hx := wordD_cls hw'
  obtain ⟨rx1, rx2⟩ := rx
  have ec : cl = gX X.K x.cls := by rw [rx1, ← hK]
  subst ec
  have key : ∀ F : List (Addr × List (Str × V)), (∀ p ∈ F, H' p.1 = some (.xd p.2)) → (∀ p ∈ c.F, p ∈ F) → (∀ dd, d = some dd → ∃ fs, (dd, fs) ∈ F) → (∀ (f : String) (i : Int), x.val = some (f, .int i) → ∃ dd, d = some dd ∧ (dd, [(os f, V.int i)]) ∈ F) →
      wpAny (model (wordZ X sg g cdg s H).prog (wordZ X sg g cdg s H).w) ((wordZ X sg g cdg s H).suite a ((a, oe) :: pn)).A (execs suite ((wordZ X sg g cdg s H).suite a ((a, oe) :: pn)).env) (SP ((wordZ X sg g cdg s H).suite a ((a, oe) :: pn)) pins D) ((wordZ X sg g cdg s H).suite a ((a, oe) :: pn)).xe s' := by
    intro F g1 g2 g3 g4
    have G : GoodS (c.wf F) (ckW free sg) (Fx a x) 0 ((wordZ X sg g cdg s H).suite a ((a, oe) :: pn)) XF := suite_good (c := c.wf F) hK hw hr hkind cls fr T gl hx hz hf g3 g4
    refine (sndSs suiteM (ckW free sg) suite _ XF G hchk).run pins s' σ H' D I ⟨[none, some (.ref a), none, none, none], S', WF, fun _ _ => False, fun v S2 => Le S' S2 ∧ kk v, ⟨?_, fun i dv hi => ?_⟩, rs.toF g1, suite_ok hw' WF _, fun _ _ _ _ z => z.elim, fun dd S2 v H2 hp f2 r2 s2 => ?_, postF⟩
    · exact I.len.symm
    · rcases i with _ | _ | _ | _ | _ | i
      · cases hi
      · cases hi; exact ⟨.ref a, h1, rfl⟩
      · cases hi
      · cases hi
      · cases hi
      · simp at hi
    · exact hq v H2 dd hp.2 (f2.drop hp.1) (r2.cong (c := c.wf F) (c' := c) rfl) ((s2.drop hp.1).ofF g2)
  cases hval : x.val with
  | none =>
    rw [hval] at rx2
    subst rx2
    exact key c.F (fun p hp => (rs.tb.1 p hp).1) (fun p hp => hp) (fun dd z => nomatch z) fun f i z => by rw [hval] at z; cases z
  | some fe =>
    obtain ⟨f, e⟩ := fe
    rw [hval] at rx2
    obtain ⟨dd, v, e1, e2, e3⟩ := rx2
    subst e1
    refine key (c.F ++ [(dd, [(os f, v)])]) (fun p hp => ?_) (fun p hp => List.mem_append_left _ hp) (fun d2 z => ?_) fun f2 i z => ?_
    · rcases List.mem_append.mp hp with hp | hp
      · exact (rs.tb.1 p hp).1
      · rw [List.mem_singleton.mp hp]; exact e2
    · cases z
      exact ⟨_, List.mem_append_right _ List.mem_cons_self⟩
    · rw [hval] at z
      cases z
      simp only [RepV] at e3
      subst e3
      exact ⟨dd, rfl, List.mem_append_right _ List.mem_cons_self⟩
theorem word_gives {q : Str} {suite : List Stmt} {b : Stmt} {p1 p2 p3 p4 p7 p8 : Pos} (hK : X.K = c.K) (hw : X.w = c.w) (hr : ∀ s : Shared, Room (1 + k) (X.A.deeper (envOfC (os "_law_word") sg s.heap.objs.size g cdg))) (hkind : sg.kind = .function) (cls : ClsOk c X.K) (fr : ∀ n ∈ free, X.mg (os n) = none) (T : WordK X.K)
    (gl : ∀ n ∈ "NewsError" :: newsX, X.mg (os n) = some (gX X.K n)) (hchk : chkSs suiteM (ckW free sg) (b :: suite) = true) (he : sg.names.lookup (os "e") = some .local) (hN : sg.names.lookup (os "NewsError") = some .globalImplicit) :
    LamX.GivesTo X NgW (os "_law_word") sg g cdg [.Try [.Return (some (.Call (.Name (os "_law_work") p1) [] [] p2)) p3] [.ExceptHandler (some (.Name (os "NewsError") p4)) (some (os "e")) (b :: suite) p7] [] [] p8] (os "_law_work") q (TTw c) := by
  intro f c' s H Q tl act hc ⟨S, P, hS, hP, h⟩
  refine ⟨_, pss_one (ps_try_as (X := wordZ X sg g cdg s H) (c := gX X.K "NewsError") (i := 1) (n := os "e")
    (tb := fun W D σ H => ∃ Ech : XK, (∀ cls d σ' H', Ech cls d H' → W cls d σ' H') ∧ σ[0]? = some (some (.ref f)) ∧ H c' = some (LamX.CodeO c' q) ∧ tl Ech H D.rt) (ts := tsW c)
    rfl rfl (show NgW.Nodup by decide) rfl he ⟨hN, by decide, .inl (gl _ List.mem_cons_self)⟩ takesF (fun W pn xe tk _ => ?_) (fun a oe cl d pn hz hf => suite_run hK hw (hr s) hkind cls fr T (fun n hn => gl n (List.mem_cons_of_mem _ hn)) hchk a oe cl d pn hz hf)), ?_⟩
  · refine ⟨fun pins s' σ H' D I h' => ?_⟩
    obtain ⟨Ech, hW, h1, h2, h3⟩ := h'
    exact (pss_one (ps_ret (pos := p3) (act W pn xe Ech p1 p2 tk hW))).run pins s' σ H' D I ⟨h1, h2, h3⟩
  · refine ⟨XW c H S P, fun cls d σ' H' ⟨x, S', f1, rx, rs, hwd⟩ => ⟨true, ?_, fun _ a ha hl => ?_, fun z => nomatch z⟩, rfl, hc, h⟩
    · rw [rx.1, ← hK]; exact T.exm _ (wordD_cls hwd)
    · refine ⟨x, S', fun dd => P dd S', rx, rs, ?_, hwd, fun v H'' dd hp f2 r2 s2 => hP dd S' v H'' hp (f1.trans f2) r2 s2⟩
      rw [List.getElem?_set_self (by rw [List.length_set] at hl; rw [hl]; decide)]
/-- the call -/
theorem no_pars {params : Arguments} (h : noPars params = true) : params = ⟨[], [], none, [], [], none, []⟩ := by
  unfold noPars at h
  split at h
  · rfl
  · cases h
theorem word_pe {E : XK} {td : DTE} {cc P : Addr} {suite : List Stmt} {b : Stmt} {pg : Arguments} {dV kV doc pm cdv ct oc : Value} {an od : Option Addr} {osl : Array (Option Value)} {p1 p2 p3 p4 p7 p8 : Pos} {params : Arguments} {body : Expr} {scope : Scope} {p lpos pos : Pos}
    (hK : X.K = c.K) (hw : X.w = c.w) (hr : Room (k + 3) X.A) (cls : ClsOk c X.K) (fr : ∀ n ∈ free, X.mg (os n) = none) (T : WordK X.K)
    (gl : ∀ n ∈ "NewsError" :: newsX, X.mg (os n) = some (gX X.K n)) (hchk : chkSs suiteM (ckW free sg) (b :: suite) = true) (he : sg.names.lookup (os "e") = some .local) (hN : sg.names.lookup (os "NewsError") = some .globalImplicit)
    (hg : Gl X (os "_law_word")) (hm : X.mg (os "_law_word") = some (.ref g)) (hk : PySem.W.keepIn X.K (.ref g) = true)
    (lk : X.K.lookup g = some ⟨oc, od, .func (PySem.W.fnOf (os "_law_word") (os "_law_word") pg [.Try [.Return (some (.Call (.Name (os "_law_work") p1) [] [] p2)) p3] [.ExceptHandler (some (.Name (os "NewsError") p4)) (some (os "e")) (b :: suite) p7] [] [] p8] sg dV kV doc pm an cdv ct), osl⟩)
    (hcg : PySem.W.codeIn X.K cdv (os "_law_word") = true) (hb : L2.Binds X.K (PySem.W.fnOf (os "_law_word") (os "_law_word") pg [.Try [.Return (some (.Call (.Name (os "_law_work") p1) [] [] p2)) p3] [.ExceptHandler (some (.Name (os "NewsError") p4)) (some (os "e")) (b :: suite) p7] [] [] p8] sg dV kV doc pm an cdv ct) [os "_law_work"] [])
    (Sg : FnScope NgW [os "_law_work"] sg) (TB : LamX.TabB X.base X.mg cc P) (hcode : X.env.code = .ref cc) (hmT : (P, X.env.qual ++ "<lambda>") ∈ c.T) (hu : ∀ p ∈ c.T, p.1 = P → p.2 = X.env.qual ++ "<lambda>")
    (hp : noPars params = true) (L : LamX.LamS X.env.scope scope)
    (hbody : ∀ (A : Around) (outer : List Env) (s : Shared) (H : Hp) (E' : XK) (f c' : Addr), Room (k + 1) (A.deeper (LamX.lamEnv X scope s.heap.objs.size f c')) → PE (LamX.lamCx X A outer s H E' scope f c') body (lift c E' td)) :
    PE X (.Call (.Name (os "_law_word") p) [.Lambda params body scope lpos] [] pos) (lift c E fun W δ S Q => td (fun x S' => wordD x fun d => Q d S') δ S Q) := by
  rw [no_pars hp]
  have hv : Vis sg (os "_law_work") := (Sg.par _ (List.mem_singleton.mpr rfl)).imp id .inl
  refine (LamX.pe_lamcall (T := c.T) (TT := TTw c) (k := k + 1) (Ng := NgW) (a := os "_law_work") (t := fun E' => lift c E' td) hg hm hk lk hcg hb Sg rfl hv
    (word_gives (k := k + 1) hK hw (fun s => (hr.mono (Nat.le_refl _)).deeper _ |>.mono (by omega)) Sg.kind cls fr T gl hchk he hN) TB hcode hmT hu hr L rfl (fun q cl pm cv ctv => ?_) (fun A outer s H E' f c' hr' => hbody A outer s H E' f c' hr') (by decide) (by decide) (by decide)).imp fun σ H Q h => ?_
  · rfl
  · obtain ⟨δ, S, P, W, hσ, hS, ht, hP, hX⟩ := h
    refine ⟨hS.tabs, fun H1 eN T1 => ?_⟩
    obtain ⟨s1, f1⟩ := hS.lam eN T1
    exact ⟨S, P, s1, hP.fr f1, δ, S, P, _, hσ.ext (f1.ext hS), s1, ht, hP.fr f1, fun x S' cls d H' hx f' r' s' => ⟨x, S', f', r', s', hx⟩⟩
end
end Nf
set_option Elab.async false
set_option linter.all false
set_option maxRecDepth 100000
set_option maxHeartbeats 8000000
/-! NfRaise: exceptions with a field: raise C(e). -/
namespace Nf
open PySem PySem.Spec L2
open PyProof.Rows hiding St
def initOf (K : PySem.W.Frag) (C : Addr) : Bool := PySem.W.readsIn K C (.type "type") && decide (PySem.W.specialIn K (.ref C) "__getattribute__" = some (some (.builtin "type.__getattribute__"))) && (match PySem.W.findCls K (.ref C) (.type "type") "__init__" with
  | some (.val v) => decide (v = .builtin "ValueError.__init__")
  | _ => false)
section
variable {X : Cx} {e : Expr} {es : List Expr} {ta : TA} {p1 p2 pos : Pos} {x : Str} {CN : Addr}
/-- N.__init__(self, ..), N over ValueError -/
theorem pe_ninit (hg : Gl X x) (hd : (x == ("__debug__" : Str)) = false) (hm : X.mg x = some (.ref CN)) (hi : initOf X.K CN = true) (ha : PA X (e :: es) ta) (hst : (e :: es).all notStar = true) (hlen : (e :: es).length < 30) (hline : (p2.endLine == pos.line) = true) :
    PE X (.Call (.Attribute (.Name x p1) "__init__" p2) (e :: es) [] pos) (tVeI X.K ta) := by
  unfold initOf at hi
  simp only [Bool.and_eq_true, decide_eq_true_eq] at hi
  obtain ⟨⟨hr, hs⟩, hc⟩ := hi
  have hf : PySem.W.findCls X.K (.ref CN) (.type "type") "__init__" = some (.val (.builtin "ValueError.__init__")) := by
    split at hc
    · rename_i v hv
      rw [decide_eq_true_eq] at hc
      rw [hv, hc]
    · cases hc
  refine ⟨fun pins s σ H Q I h => ?_⟩
  have ev : eval (.Call (.Attribute (.Name x p1) "__init__" p2) (e :: es) [] pos) X.env = (do
      let ov ← eval (.Name x p1) X.env
      standAt p2.atName
      let (f, first) ← holding [ov] (getMethod ov "__init__" (plainOf (.Name x p1) X.env))
      callWith pos f first (backTo pos (starEach (e :: es) X.env)) (backToKw pos (keywordEach [] X.env))) := by
    rw [arm_eval_Call]
    have hb : attributeBase (.Name x p1) "__init__" X.env (eval (.Name x p1) X.env) = eval (.Name x p1) X.env := rfl
    rw [hb]
    congr 1
    funext ov
    congr 1
    funext _
    exact mcall_line (form_of hst hlen) hline
  refine PySem.W.methodCall_KW (ld_glob I hg hm ?_ hd) ev
  refine PySem.W.method_cls I.kIn hs (PySem.W.cls_value I.kIn hr hf rfl ?_)
  show wpAny _ _ (callWith pos (Value.builtin "ValueError.__init__") [] (backTo pos (starEach (e :: es) X.env)) []) _ _ _
  have hA := ha.run pos pins { s with toks := s.toks + 1 } σ H _ (I.tok _) h
  have hb := back_any (pos := pos) (star_all (env := X.env) hst)
  rw [List.all_cons, Bool.and_eq_true] at hst
  rw [star_cons hst.1] at hA hb ⊢
  refine Calls.callWith_builtin hb (Calls.evalArgs_plain ?_)
  refine thn hA fun us s1 ⟨vs, H1, I1, r1, a, C, ws, ev, hl, T, ea, q⟩ => ?_
  subst ev
  cases r1 with
  | @cons _ u0 _ ur ra rr =>
    have e0 : u0 = Value.ref a := ra
    subst e0
    exact oinit_ok T I1 ea (by rw [← Paired.length rr, sizeLine_eq]; omega) fun s' J => ⟨.non, H1, J, rfl, q⟩
end
/-- an own class of exceptions with an own __init__ -/
def oexIn (K : PySem.W.Frag) (C : Addr) : Bool := match K.lookup C with
  | some ⟨.type "type", _, .cls cd, sl⟩ => (match cd.mro, sl.toList with
    | .ref C' :: bm, [_, _, _, _, some (.builtin n), _] => decide (C' = C) && decide (n = "ValueError.__new__") && !cd.hasDel && cd.hasDict && PySem.HandSPX.refsVE bm
    | _, _ => false)
  | _ => false
theorem oex_of {K : PySem.W.Frag} {C : Addr} (h : oexIn K C = true) : ∃ nm q N bs bm sn sub ab col dd k0 k1 k2 k3 k5, K.lookup C = some (excClassObj nm q C N bs bm true sn sub ab col dd k0 k1 k2 k3 k5 "ValueError.__new__") ∧ PySem.HandSPX.refsVE bm = true := by
  unfold oexIn at h
  split at h
  · rename_i dd cd sl ho
    split at h
    · rename_i C' bm k0 k1 k2 k3 n k5 hm hs
      simp only [Bool.and_eq_true, decide_eq_true_eq, Bool.not_eq_true'] at h
      obtain ⟨⟨⟨⟨rfl, rfl⟩, hdel⟩, hdict⟩, hv⟩ := h
      obtain ⟨nm, bs, mro, ns, qn, hd, sn, sub, ab, col, del⟩ := cd
      dsimp only at hm hdel hdict
      subst hm hdel hdict
      have hsl : sl = #[k0, k1, k2, k3, some (.builtin "ValueError.__new__"), k5] := by
        cases sl
        simp only at hs
        rw [hs]
      subst hsl
      exact ⟨nm, qn, ns, bs, bm, sn, sub, ab, col, dd, k0, k1, k2, k3, k5, ho, hv⟩
    · cases h
  · cases h
def oexB (K : PySem.W.Frag) (n f : String) : Bool :=
  oexIn K (He.ga K (os n)) && decide (PySem.W.findIn K (gX K n) "__setattr__" = some (some (.builtin "object.__setattr__"))) && decide (PySem.W.subIn K (gX K n) (.type "BaseException") = some true) && decide (PySem.W.typeIn K (gX K n) = some (.type "type")) && PySem.W.keepIn K (gX K n) &&
  decide (PySem.W.findIn K (gX K n) (os f) = some none) && decide (PySem.W.findIn K (gX K n) "__init__" = some (some (.ref (He.ma K (He.ga K (os n)) "__init__")))) && decide (PySem.W.typeIn K (.ref (He.ma K (He.ga K (os n)) "__init__")) = some (.type "function"))
structure OexN (K : PySem.W.Frag) (n f : String) : Prop where
  oc : OexC K (He.ga K (os n))
  no : PySem.W.findIn K (gX K n) (os f) = some none
  ini : PySem.W.findIn K (gX K n) "__init__" = some (some (.ref (He.ma K (He.ga K (os n)) "__init__")))
  ty : PySem.W.typeIn K (.ref (He.ma K (He.ga K (os n)) "__init__")) = some (.type "function")
theorem oexB_ok {K : PySem.W.Frag} {n f : String} (h : oexB K n f = true) : OexN K n f := by
  unfold oexB at h
  simp only [Bool.and_eq_true, decide_eq_true_eq] at h
  obtain ⟨⟨⟨⟨⟨⟨⟨h1, h2⟩, h3⟩, h4⟩, h5⟩, h6⟩, h7⟩, h8⟩ := h
  exact ⟨⟨oex_of h1, h2, h3, h4, h5⟩, h6, h7, h8⟩
/-- what such an __init__ does -/
def spI (C : Addr) (f : Str) : Sp := fun vs H Q E => ∃ a y, vs = [V.ref a, y] ∧ H a = some (exo a C none) ∧ ∀ dx, H dx = none → dx ≠ a → Q .non (upd (upd H dx (exd dx [(f, y)])) a (exo a C (some dx)))
def iniShape (f : String) : List Stmt → Bool
  | [.Expr (.Call (.Attribute (.Name n1 _) m p2) [.Name s1 _, .Constant (.str _) _ _] [] pos) _, .Assign [.Attribute (.Name s2 _) g _] (.Name y _) _] =>
    decide (n1 = os "NewsError") && decide (m = "__init__") && decide (s1 = os "self") && decide (s2 = os "self") && decide (g = os f) && decide (y = os f) && (p2.endLine == pos.line)
  | _ => false
section
variable {P : Program} {w : World} {K : PySem.W.Frag} {mg : Str → Option Value} {base : Heap} {n f : String} {d : He.DefD} {fI : Addr} {fd : FuncData}
theorem ini_ok (T : OexN K n f) (hi : initOf K (He.ga K (os "NewsError")) = true) (hm : mg (os "NewsError") = some (gX K "NewsError")) {qual : Str} {params : Arguments} {body : List Stmt} {scope : Scope} {name : Str} {kws : List (Str × V)} (F : FunD K name qual params body scope [] kws fI fd) (hf : f ≠ "self")
    (sh : iniShape f body = true) (S : FnScope [os "self", os f] [os "self", os f] scope) (hg : scope.names.lookup (os "NewsError") = some .globalImplicit) (hdb : (os f == ("__debug__" : Str)) = false) (hcd : (os f == ("__classdict__" : Str)) = false) : FnOk P w K mg base C8.CX0 1 fI fd [os "self", os f] (spI (He.ga K (os n)) (os f)) := by
  refine F.ok (k := 0) S (fun vs H Q E h => ?_) (fun cdv A outer s H vs Q E hr h => ?_)
  · obtain ⟨a, y, rfl, _⟩ := h; rfl
  · obtain ⟨a, y, rfl, ha, hq⟩ := h
    unfold iniShape at sh
    split at sh
    · simp only [Bool.and_eq_true, decide_eq_true_eq] at sh
      obtain ⟨⟨⟨⟨⟨⟨rfl, rfl⟩, rfl⟩, rfl⟩, rfl⟩, rfl⟩, hl⟩ := sh
      have v0 : Vis scope (os "self") := (S.par _ (by simp)).imp id .inl
      have v1 : Vis scope (os f) := (S.par _ (by simp)).imp id .inl
      refine ⟨_, pss_cons (ps_expr (pe_ninit hg (by decide) hm hi (pa_cons (pe_var (i := 0) rfl v0 (by decide) (by decide)) (pa_cons pe_str pa_nil rfl) rfl) rfl (show 2 < 30 by decide) hl) (swaps_no rfl)) (pss_one (ps_ost (pe_var (i := 0) rfl v0 (by decide) (by decide)) (pe_var (i := 1) rfl v1 hdb hcd) swaps_attr)), ?_⟩
      exact ⟨.ref a, rfl, a, He.ga K (os n), [_], rfl, show 1 ≤ 1000 by decide, T.oc, ha, y, rfl, .ref a, rfl, a, He.ga K (os n), rfl, T.oc, T.no, .inl ⟨ha, hq⟩⟩
    · cases sh
end
section
variable {c : Cfg} {X : Cx} {E : XK} {e : Expr} {te : DTE} {n f : String} {fI : Addr} {fd : FuncData} {p pos rpos : Pos}
/-- raise C(e) -/
theorem ds_raise1 (hc : X.calm = true) (hK : X.K = c.K) (tk : Takes X fun cls d _ H => E cls d H) (T : OexN X.K n f) (F1 : FnOk X.prog X.w X.K X.mg X.base C8.CX0 1 (He.ma X.K (He.ga X.K (os n)) "__init__") fd [os "self", os f] (spI (He.ga X.K (os n)) (os f)))
    (hr : Room 2 X.A) (hb : Binds X.K fd [os "self", os f] []) (hg : Gl X (os n)) (hdb : (os n == ("__debug__" : Str)) = false) (hm : X.mg (os n) = some (gX X.K n)) (he : PE X e (lift c E te)) (hst : notStar e = true) :
    PS X (.Raise (some (.Call (.Name (os n) p) [e] [] pos)) none rpos) (liftS c E fun W D δ S => te W δ S fun d S1 => W ⟨n, some (f, d)⟩ S1) := by
  refine (ps_raise hc tk (pmk_oex (k := 1) (sp := spI (He.ga X.K (os n)) (os f)) (ds := []) (dvs := []) T.oc T.ini T.ty F1 hr hb .nil (fun _ _ _ _ _ _ _ h => (show False from h).elim) hg hm (pa_cons he pa_nil (star_cons hst)) hdb (star_cons hst) rfl)).imp fun D σ H h => ?_
  obtain ⟨δ, S, W, N, R, hσ, hS, ht, hN, hR, hX⟩ := h
  refine ⟨δ, S, _, W, hσ, hS, ht, fun d S1 v H1 h1 f1 r1 s1 => ?_, hX⟩
  refine ⟨show 1 ≤ 1000 by decide, fun a ha => ⟨a, v, rfl, upd_same, fun dx hdx hne => ⟨rfl, dx, [(os f, v)], upd_same, ?_, ?_, ?_⟩⟩⟩
  · rw [upd_ne hne, upd_same]
  · rw [← hdx, upd_ne hne]
  · have hd1 : H1 dx = none := by rw [← hdx, upd_ne hne]
    have e1 : upd (del (upd (upd (upd H1 a (exo a (He.ga X.K (os n)) none)) dx (exd dx [(os f, v)])) a (exo a (He.ga X.K (os n)) (some dx))) a) dx (.xd [(os f, v)]) = upd H1 dx (.xd [(os f, v)]) := by
      funext b
      by_cases hb : b = dx
      · subst hb; rw [upd_same, upd_same]
      · rw [upd_ne hb, upd_ne hb]
        by_cases ha' : b = a
        · subst ha'; rw [del_same, ha]
        · rw [del_ne ha', upd_ne ha', upd_ne hb, upd_ne ha']
    rw [e1]
    obtain ⟨s2, f2⟩ := s1.laid (u := .xd [(os f, v)]) hd1
    exact hX ⟨n, some (f, d)⟩ S1 _ _ _ h1 (f1.trans f2) ⟨by rw [hK], dx, v, rfl, upd_same, r1.ext (f2.ext s1)⟩ s2
end
end Nf
set_option Elab.async false
set_option linter.all false
set_option maxRecDepth 100000
/-! NfProg: the defs of the program and of the laws, as terms (printed by gen.py). -/
namespace Nf
structure FRec where
  cls : String
  name : String
  ps : List String
  N : List String
  body : MSs
def F_is_number : FRec := ⟨"", "is_number", ["part", "low", "high"], ["part", "low", "high"], (.c (.ret (.and_ (.bi .isinst (.c (.var 0) (.c (.lit (.ty "int")) .n))) (.and_ (.not_ (.bi .isinst (.c (.var 0) (.c (.lit (.ty "bool")) .n)))) (.cmp2 .le .le (.var 1) (.var 0) (.var 2))))) .n)⟩
def F_need_many : FRec := ⟨"", "need_many", ["many"], ["many"], (.c (.ife (.not_ (.call "is_number" (.c (.var 0) (.c (.lit (.int 2)) (.c (.lit (.int 8)) .n))))) (.c (.raise "BadHouse") .n) .n) .n)⟩
def F_need_house : FRec := ⟨"", "need_house", ["house", "many"], ["house", "many"], (.c (.ife (.not_ (.call "is_number" (.c (.var 0) (.c (.lit (.int 0)) (.c (.bin .sub (.var 1) (.lit (.int 1))) .n))))) (.c (.raise "BadHouse") .n) .n) .n)⟩
def F_need_ties : FRec := ⟨"", "need_ties", ["many", "ties"], ["many", "ties", "one"], (.c (.expr (.call "need_many" (.c (.var 0) .n))) (.c (.for_ (.v 2) (.over (.var 1)) (.c (.ife (.or_ (.not_ (.bi .isinst (.c (.var 2) (.c (.lit (.ty "tuple")) .n)))) (.or_ (.cmp .ne (.bi .len (.c (.var 2) .n)) (.lit (.int 2))) (.cmp .eq (.ix (.var 2) (.lit (.int 0))) (.ix (.var 2) (.lit (.int 1)))))) (.c (.raise "BadTies") .n) .n) (.c (.ife (.or_ (.not_ (.call "is_number" (.c (.ix (.var 2) (.lit (.int 0))) (.c (.lit (.int 0)) (.c (.bin .sub (.var 0) (.lit (.int 1))) .n))))) (.not_ (.call "is_number" (.c (.ix (.var 2) (.lit (.int 1))) (.c (.lit (.int 0)) (.c (.bin .sub (.var 0) (.lit (.int 1))) .n)))))) (.c (.raise "BadTies") .n) .n) .n))) .n))⟩
def F_need_some : FRec := ⟨"", "need_some", ["many", "houses"], ["many", "houses", "house"], (.c (.for_ (.v 2) (.over (.var 1)) (.c (.expr (.call "need_house" (.c (.var 2) (.c (.var 0) .n)))) .n)) .n)⟩
def F_beside : FRec := ⟨"", "beside", ["many", "ties"], ["many", "ties", "found", "one", "other", "house", "here", "there", "row"], (.c (.set 2 (.lc (.tag 0 (.lst .n)) (.v 5) (.rng (.var 0)) .n [5])) (.c (.for_ (.t [3, 4]) (.over (.var 1)) (.c (.for_ (.t [6, 7]) (.over (.tup (.c (.tup (.c (.var 3) (.c (.var 4) .n))) (.c (.tup (.c (.var 4) (.c (.var 3) .n))) .n)))) (.c (.ife (.cmp .nin (.var 7) (.ix (.var 2) (.var 6))) (.c (.expr (.lm (.ix (.var 2) (.var 6)) .append (.c (.var 7) .n))) .n) .n) .n)) .n)) (.c (.ret (.lc (.bi .sorted (.c (.var 8) .n)) (.v 8) (.over (.var 2)) .n [8])) .n)))⟩
def F_far_from : FRec := ⟨"", "far_from", ["near", "some"], ["near", "some", "found", "level", "count", "house", "later", "there"], (.c (.set 2 (.tag 0 (.bin .mul (.lst (.c (.lit .non) .n)) (.bi .len (.c (.var 0) .n))))) (.c (.set 3 (.bi .sorted (.c (.bi .set (.c (.var 1) .n)) .n))) (.c (.set 4 (.lit (.int 0))) (.c (.whl (.cmp .ne (.var 3) (.lst .n)) (.c (.for_ (.v 5) (.over (.var 3)) (.c (.setI (.var 2) (.var 5) (.var 4)) .n)) (.c (.set 6 (.tag 0 (.lst .n))) (.c (.for_ (.v 5) (.over (.var 3)) (.c (.expr (.lm (.var 6) .extend (.c (.lc (.var 7) (.v 7) (.over (.ix (.var 0) (.var 5))) (.s (.and_ (.cmp .is (.ix (.var 2) (.var 7)) (.lit .non)) (.cmp .nin (.var 7) (.var 6)))) [7]) .n))) .n)) (.c (.set 3 (.tag 1 (.var 6))) (.c (.set 4 (.bin .add (.var 4) (.lit (.int 1)))) .n)))))) (.c (.ret (.var 2)) .n)))))⟩
def F_rounds : FRec := ⟨"", "rounds", ["many", "ties", "start"], ["many", "ties", "start"], (.c (.expr (.call "need_ties" (.c (.var 0) (.c (.var 1) .n)))) (.c (.expr (.call "need_house" (.c (.var 2) (.c (.var 0) .n)))) (.c (.ret (.call "far_from" (.c (.call "beside" (.c (.var 0) (.c (.var 1) .n))) (.c (.lst (.c (.var 2) .n)) .n)))) .n)))⟩
def F_shows : FRec := ⟨"", "shows", ["many", "ties", "has", "wants", "rows"], ["many", "ties", "has", "wants", "rows", "near", "known", "number", "row", "here", "there", "house", "one"], (.c (.expr (.call "need_ties" (.c (.var 0) (.c (.var 1) .n)))) (.c (.expr (.call "need_some" (.c (.var 0) (.c (.var 2) .n)))) (.c (.expr (.call "need_some" (.c (.var 0) (.c (.var 3) .n)))) (.c (.set 5 (.call "beside" (.c (.var 0) (.c (.var 1) .n)))) (.c (.set 6 (.tag 0 (.bi .list (.c (.var 2) .n)))) (.c (.for_ (.t [7, 8]) (.enum (.var 4)) (.c (.ife (.or_ (.not_ (.bi .isinst (.c (.var 8) (.c (.lit (.ty "tuple")) .n)))) (.cmp .ne (.bi .len (.c (.var 8) .n)) (.lit (.int 2)))) (.c (.raise1 "BadRow" "number" (.var 7)) .n) .n) (.c (.ife (.cmp .ne (.lc (.var 12) (.v 12) (.over (.var 8)) (.s (.or_ (.not_ (.bi .isinst (.c (.var 12) (.c (.lit (.ty "int")) .n)))) (.or_ (.bi .isinst (.c (.var 12) (.c (.lit (.ty "bool")) .n))) (.not_ (.cmp2 .le .lt (.lit (.int 0)) (.var 12) (.var 0)))))) [12]) (.lst .n)) (.c (.raise1 "BadRow" "number" (.var 7)) .n) .n) .n))) (.c (.for_ (.t [9, 10]) (.over (.var 4)) (.c (.ife (.or_ (.cmp .nin (.var 9) (.var 6)) (.or_ (.cmp .inn (.var 10) (.var 6)) (.cmp .nin (.var 10) (.ix (.var 5) (.var 9))))) (.c (.ret (.lit (.bl false))) .n) .n) (.c (.expr (.lm (.var 6) .append (.c (.var 10) .n))) .n))) (.c (.ret (.cmp .eq (.lc (.var 11) (.v 11) (.over (.var 3)) (.s (.cmp .nin (.var 11) (.var 6))) [11]) (.lst .n))) .n))))))))⟩
def F__law_start : FRec := ⟨"", "_law_start", ["_law_script"], ["_law_script", "_law_mixed", "_law_cell"], (.c (.set 1 (.lit (.int 1))) (.c (.for_ (.v 2) (.over (.var 0)) (.c (.set 1 (.bin .mod (.bin .add (.bin .add (.bin .mul (.var 1) (.lit (.int 48271))) (.var 2)) (.lit (.int 7))) (.lit (.int 2147483647)))) .n)) (.c (.ret (.tag 0 (.lst (.c (.var 0) (.c (.lit (.int 0)) (.c (.var 1) (.c (.lit (.int 0)) .n))))))) .n)))⟩
def F__law_drawn : FRec := ⟨"", "_law_drawn", ["_law_state", "_law_many"], ["_law_state", "_law_many", "_law_found", "_law_cell"], (.c (.ife (.cmp .gt (.ix (.var 0) (.lit (.int 3))) (.lit (.int 0))) (.c (.set 2 (.bin .mod (.ix (.var 0) (.lit (.int 3))) (.var 1))) (.c (.setI (.var 0) (.lit (.int 3)) (.bin .fdiv (.ix (.var 0) (.lit (.int 3))) (.var 1))) (.c (.ret (.var 2)) .n))) .n) (.c (.setI (.var 0) (.lit (.int 1)) (.bin .add (.ix (.var 0) (.lit (.int 1))) (.lit (.int 1)))) (.c (.ife (.cmp .le (.ix (.var 0) (.lit (.int 1))) (.bi .len (.c (.ix (.var 0) (.lit (.int 0))) .n))) (.c (.set 3 (.ix (.ix (.var 0) (.lit (.int 0))) (.bin .sub (.ix (.var 0) (.lit (.int 1))) (.lit (.int 1))))) (.c (.setI (.var 0) (.lit (.int 3)) (.ife (.cmp .ge (.var 3) (.bin .pow (.lit (.int 10)) (.lit (.int 18)))) (.bin .fdiv (.var 3) (.var 1)) (.lit (.int 0)))) (.c (.ret (.bin .mod (.var 3) (.var 1))) .n))) .n) (.c (.setI (.var 0) (.lit (.int 2)) (.bin .mod (.bin .add (.bin .mul (.ix (.var 0) (.lit (.int 2))) (.lit (.int 48271))) (.lit (.int 11))) (.lit (.int 2147483647)))) (.c (.ret (.bin .mod (.bin .fdiv (.ix (.var 0) (.lit (.int 2))) (.lit (.int 7))) (.var 1))) .n)))))⟩
def F__law_same : FRec := ⟨"", "_law_same", ["_law_found", "_law_due"], ["_law_found", "_law_due", "_law_k"], (.c (.ife (.bi .isinst (.c (.var 1) (.c (.tup (.c (.lit (.ty "tuple")) (.c (.lit (.ty "list")) .n))) .n))) (.c (.ife (.or_ (.not_ (.bi .isinst (.c (.var 0) (.c (.tup (.c (.lit (.ty "tuple")) (.c (.lit (.ty "list")) .n))) .n)))) (.cmp .ne (.bi .isinst (.c (.var 0) (.c (.lit (.ty "list")) .n))) (.bi .isinst (.c (.var 1) (.c (.lit (.ty "list")) .n))))) (.c (.ret (.lit (.bl false))) .n) .n) (.c (.ife (.cmp .ne (.bi .len (.c (.var 0) .n)) (.bi .len (.c (.var 1) .n))) (.c (.ret (.lit (.bl false))) .n) .n) (.c (.ret (.cmp .eq (.lc (.var 2) (.v 2) (.rng (.bi .len (.c (.var 1) .n))) (.s (.not_ (.call "_law_same" (.c (.ix (.var 0) (.var 2)) (.c (.ix (.var 1) (.var 2)) .n))))) [2]) (.lst .n))) .n))) .n) (.c (.ife (.cmp .is (.var 1) (.lit .non)) (.c (.ret (.cmp .is (.var 0) (.lit .non))) .n) .n) (.c (.ife (.bi .isinst (.c (.var 1) (.c (.lit (.ty "str")) .n))) (.c (.ret (.and_ (.bi .isinst (.c (.var 0) (.c (.lit (.ty "str")) .n))) (.cmp .eq (.var 0) (.var 1)))) .n) .n) (.c (.ife (.or_ (.bi .isinst (.c (.var 1) (.c (.lit (.ty "bool")) .n))) (.bi .isinst (.c (.var 0) (.c (.lit (.ty "bool")) .n)))) (.c (.ret (.and_ (.bi .isinst (.c (.var 1) (.c (.lit (.ty "bool")) .n))) (.and_ (.bi .isinst (.c (.var 0) (.c (.lit (.ty "bool")) .n))) (.cmp .eq (.var 0) (.var 1))))) .n) .n) (.c (.ret (.and_ (.bi .isinst (.c (.var 0) (.c (.lit (.ty "int")) .n))) (.cmp .eq (.var 0) (.var 1)))) .n)))))⟩
def F_law_v7 : FRec := ⟨"", "law", ["_law_script"], ["_law_script", "_law_state", "_law_turn", "_law_many", "_law_ties_here", "_law_near_here", "_law_has", "_law_rows_here", "_law_some", "_law_wants", "_law_change", "_law_handed", "_law_at", "_law_far", "_law_odd", "_law_bad", "_law_k", "_law_row"], (.c (.set 1 (.call "_law_start" (.c (.var 0) .n))) (.c (.for_ (.v 2) (.rng (.lit (.int 6))) (.c (.set 3 (.bin .add (.lit (.int 2)) (.call "_law_drawn" (.c (.var 1) (.c (.lit (.int 7)) .n))))) (.c (.set 4 (.call "_law_ties" (.c (.var 1) (.c (.var 3) .n)))) (.c (.set 5 (.tag 1 (.call "_law_near" (.c (.var 3) (.c (.var 4) .n))))) (.c (.set 6 (.lc (.call "_law_drawn" (.c (.var 1) (.c (.var 3) .n))) (.v 16) (.rng (.bin .add (.lit (.int 1)) (.call "_law_drawn" (.c (.var 1) (.c (.lit (.int 3)) .n))))) .n [16])) (.c (.set 7 (.call "_law_rows" (.c (.var 1) (.c (.var 5) (.c (.var 6) .n))))) (.c (.set 8 (.bin .add (.lc (.ix (.var 17) (.lit (.int 1))) (.v 17) (.over (.var 7)) .n [17]) (.var 6))) (.c (.set 9 (.tag 0 (.lc (.ix (.var 8) (.call "_law_drawn" (.c (.var 1) (.c (.bi .len (.c (.var 8) .n)) .n)))) (.v 16) (.rng (.call "_law_drawn" (.c (.var 1) (.c (.lit (.int 5)) .n)))) .n [16]))) (.c (.ife (.cmp .eq (.call "_law_drawn" (.c (.var 1) (.c (.lit (.int 4)) .n))) (.lit (.int 0))) (.c (.expr (.lm (.var 9) .append (.c (.call "_law_drawn" (.c (.var 1) (.c (.var 3) .n))) .n))) .n) .n) (.c (.frz 9 (.for_ (.v 10) (.rng (.call "_law_drawn" (.c (.var 1) (.c (.lit (.int 4)) .n)))) (.c (.set 7 (.call "_law_spoilt" (.c (.var 1) (.c (.var 7) (.c (.var 3) .n))))) .n))) (.c (.set 11 (.lst (.c (.bi .list (.c (.var 4) .n)) (.c (.bi .list (.c (.var 6) .n)) (.c (.bi .list (.c (.var 9) .n)) (.c (.bi .list (.c (.var 7) .n)) .n)))))) (.c (.ife (.not_ (.call "_law_same" (.c (.call "shows" (.c (.var 3) (.c (.ix (.var 11) (.lit (.int 0))) (.c (.ix (.var 11) (.lit (.int 1))) (.c (.ix (.var 11) (.lit (.int 2))) (.c (.ix (.var 11) (.lit (.int 3))) .n)))))) (.c (.call "_law_does" (.c (.var 5) (.c (.var 6) (.c (.var 9) (.c (.var 7) .n))))) .n)))) (.c (.ret (.lit (.bl false))) .n) .n) (.c (.ife (.cmp .ne (.var 11) (.lst (.c (.var 4) (.c (.var 6) (.c (.var 9) (.c (.var 7) .n)))))) (.c (.ret (.lit (.bl false))) .n) .n) (.c (.set 12 (.call "_law_drawn" (.c (.var 1) (.c (.bin .add (.bi .len (.c (.var 7) .n)) (.lit (.int 1))) .n)))) (.c (.set 13 (.bin .add (.lit (.int 1)) (.call "_law_drawn" (.c (.var 1) (.c (.bin .pow (.lit (.int 10)) (.lit (.int 18))) .n))))) (.c (.set 14 (.ix (.lst (.c (.tup (.c (.lit (.int 0)) .n)) (.c (.tup .n) (.c (.tup (.c (.lit (.int 0)) (.c (.lit (.int 1)) (.c (.lit (.int 0)) .n)))) (.c (.tup (.c (.var 3) (.c (.lit (.int 0)) .n))) (.c (.tup (.c (.lit (.int 0)) (.c (.bin .add (.bin .sub (.var 3) (.lit (.int 1))) (.var 13)) .n))) (.c (.tup (.c (.bin .sub (.lit (.int 0)) (.var 13)) (.c (.lit (.int 0)) .n))) (.c (.tup (.c (.tup (.c (.lit (.int 0)) .n)) (.c (.lit (.int 1)) .n))) .n)))))))) (.call "_law_drawn" (.c (.var 1) (.c (.lit (.int 7)) .n))))) (.c (.set 15 (.bin .add (.bin .add (.bin .add (.slc (.var 7) .n (.s (.var 12))) (.lst (.c (.var 14) .n))) (.slc (.var 7) (.s (.var 12)) .n)) (.bin .mul (.lst (.c (.tup .n) .n)) (.call "_law_drawn" (.c (.var 1) (.c (.lit (.int 2)) .n)))))) (.c (.ife (.not_ (.call "_law_same" (.c (.word (.call "shows" (.c (.var 3) (.c (.var 4) (.c (.var 6) (.c (.var 9) (.c (.var 15) .n))))))) (.c (.tup (.c (.lit (.str "BadRow")) (.c (.var 12) .n))) .n)))) (.c (.ret (.lit (.bl false))) .n) .n) .n)))))))))))))))))) (.c (.ret (.lit (.bl true))) .n)))⟩
def F__law_ties : FRec := ⟨"", "_law_ties", ["_law_state", "_law_many"], ["_law_state", "_law_many", "_law_found", "_law_k", "_law_one", "_law_other", "_law_house"], (.c (.set 2 (.tag 0 (.lst .n))) (.c (.for_ (.v 3) (.rng (.call "_law_drawn" (.c (.var 0) (.c (.ix (.lst (.c (.lit (.int 3)) (.c (.bin .add (.var 1) (.lit (.int 1))) (.c (.bin .mul (.lit (.int 3)) (.var 1)) .n)))) (.call "_law_drawn" (.c (.var 0) (.c (.lit (.int 3)) .n)))) .n)))) (.c (.set 4 (.call "_law_drawn" (.c (.var 0) (.c (.var 1) .n)))) (.c (.set 5 (.bin .mod (.bin .add (.bin .add (.var 4) (.lit (.int 1))) (.call "_law_drawn" (.c (.var 0) (.c (.bin .sub (.var 1) (.lit (.int 1))) .n)))) (.var 1))) (.c (.expr (.lm (.var 2) .append (.c (.tup (.c (.var 4) (.c (.var 5) .n))) .n))) .n)))) (.c (.ife (.cmp .eq (.call "_law_drawn" (.c (.var 0) (.c (.lit (.int 3)) .n))) (.lit (.int 0))) (.c (.set 2 (.tag 0 (.bin .add (.var 2) (.slc (.lc (.tup (.c (.var 6) (.c (.bin .add (.var 6) (.lit (.int 1))) .n))) (.v 6) (.rng (.bin .sub (.var 1) (.lit (.int 1)))) .n [6]) (.s (.call "_law_drawn" (.c (.var 0) (.c (.lit (.int 2)) .n)))) .n)))) .n) .n) (.c (.ret (.tag 1 (.var 2))) .n))))⟩
def F__law_near : FRec := ⟨"", "_law_near", ["_law_many", "_law_ties_here"], ["_law_many", "_law_ties_here", "_law_house", "_law_k"], (.c (.ret (.tag 0 (.lc (.lc (.var 3) (.v 3) (.rng (.var 0)) (.s (.or_ (.cmp .inn (.tup (.c (.var 2) (.c (.var 3) .n))) (.var 1)) (.cmp .inn (.tup (.c (.var 3) (.c (.var 2) .n))) (.var 1)))) [3]) (.v 2) (.rng (.var 0)) .n [2]))) .n)⟩
def F__law_met : FRec := ⟨"", "_law_met", ["_law_near_here", "_law_some"], ["_law_near_here", "_law_some", "_law_found", "_law_turn", "_law_k", "_law_j"], (.c (.set 2 (.bi .sorted (.c (.bi .set (.c (.var 1) .n)) .n))) (.c (.for_ (.v 3) (.rng (.bi .len (.c (.var 0) .n))) (.c (.set 2 (.lc (.var 4) (.v 4) (.rng (.bi .len (.c (.var 0) .n))) (.s (.or_ (.cmp .inn (.var 4) (.var 2)) (.cmp .ne (.lc (.var 5) (.v 5) (.over (.ix (.var 0) (.var 4))) (.s (.cmp .inn (.var 5) (.var 2))) [5]) (.lst .n)))) [4])) .n)) (.c (.ret (.var 2)) .n)))⟩
def F__law_does_v1 : FRec := ⟨"", "_law_does", ["_law_near_here", "_law_has", "_law_wants", "_law_rows_here"], ["_law_near_here", "_law_has", "_law_wants", "_law_rows_here", "_law_known", "_law_here", "_law_there", "_law_house"], (.c (.set 4 (.tag 0 (.bi .list (.c (.var 1) .n)))) (.c (.for_ (.t [5, 6]) (.over (.var 3)) (.c (.ife (.or_ (.cmp .nin (.var 5) (.var 4)) (.or_ (.cmp .inn (.var 6) (.var 4)) (.cmp .nin (.var 6) (.ix (.var 0) (.var 5))))) (.c (.ret (.lit (.bl false))) .n) .n) (.c (.expr (.lm (.var 4) .append (.c (.var 6) .n))) .n))) (.c (.ret (.cmp .eq (.lc (.var 7) (.v 7) (.over (.var 2)) (.s (.cmp .nin (.var 7) (.var 4))) [7]) (.lst .n))) .n)))⟩
def F__law_rows : FRec := ⟨"", "_law_rows", ["_law_state", "_law_near_here", "_law_has"], ["_law_state", "_law_near_here", "_law_has", "_law_turn", "_law_known", "_law_found", "_law_pairs", "_law_here", "_law_there"], (.c (.unp (.t [4, 5]) (.tup (.c (.tag 0 (.bi .list (.c (.var 2) .n))) (.c (.tag 0 (.lst .n)) .n)))) (.c (.for_ (.v 3) (.rng (.call "_law_drawn" (.c (.var 0) (.c (.lit (.int 9)) .n)))) (.c (.set 6 (.lst .n)) (.c (.for_ (.v 7) (.over (.bi .sorted (.c (.bi .set (.c (.var 4) .n)) .n))) (.c (.set 6 (.bin .add (.var 6) (.lc (.tup (.c (.var 7) (.c (.var 8) .n))) (.v 8) (.over (.ix (.var 1) (.var 7))) (.s (.cmp .nin (.var 8) (.var 4))) [8]))) .n)) (.c (.ife (.cmp .ne (.var 6) (.lst .n)) (.c (.expr (.lm (.var 5) .append (.c (.ix (.var 6) (.call "_law_drawn" (.c (.var 0) (.c (.bi .len (.c (.var 6) .n)) .n)))) .n))) (.c (.expr (.lm (.var 4) .append (.c (.ix (.ix (.var 5) (.neg (.lit (.int 1)))) (.lit (.int 1))) .n))) .n)) .n) .n)))) (.c (.ret (.tag 1 (.var 5))) .n)))⟩
def F__law_spoilt : FRec := ⟨"", "_law_spoilt", ["_law_state", "_law_rows_here", "_law_many"], ["_law_state", "_law_rows_here", "_law_many", "_law_one", "_law_at", "_law_way", "_law_here", "_law_there"], (.c (.par [4, 5] (.c (.call "_law_drawn" (.c (.var 0) (.c (.bin .add (.bi .len (.c (.var 1) .n)) (.lit (.int 1))) .n))) (.c (.call "_law_drawn" (.c (.var 0) (.c (.lit (.int 6)) .n))) .n))) (.c (.set 3 (.tup (.c (.call "_law_drawn" (.c (.var 0) (.c (.var 2) .n))) (.c (.call "_law_drawn" (.c (.var 0) (.c (.var 2) .n))) .n)))) (.c (.ife (.or_ (.cmp .eq (.var 5) (.lit (.int 0))) (.cmp .eq (.var 4) (.bi .len (.c (.var 1) .n)))) (.c (.ret (.bin .add (.bin .add (.slc (.var 1) .n (.s (.var 4))) (.lst (.c (.var 3) .n))) (.slc (.var 1) (.s (.var 4)) .n))) .n) .n) (.c (.ife (.cmp .eq (.var 5) (.lit (.int 1))) (.c (.ret (.bin .add (.slc (.var 1) .n (.s (.var 4))) (.slc (.var 1) (.s (.bin .add (.var 4) (.lit (.int 1)))) .n))) .n) .n) (.c (.ife (.cmp .eq (.var 5) (.lit (.int 2))) (.c (.ret (.bin .add (.slc (.var 1) .n (.s (.bin .add (.var 4) (.lit (.int 1))))) (.slc (.var 1) (.s (.var 4)) .n))) .n) .n) (.c (.ife (.cmp .eq (.var 5) (.lit (.int 3))) (.c (.ret (.bin .add (.bin .add (.slc (.var 1) .n (.s (.var 4))) (.rev (.slc (.var 1) (.s (.var 4)) (.s (.bin .add (.var 4) (.lit (.int 2))))))) (.slc (.var 1) (.s (.bin .add (.var 4) (.lit (.int 2)))) .n))) .n) .n) (.c (.unp (.t [6, 7]) (.ix (.var 1) (.var 4))) (.c (.ret (.bin .add (.bin .add (.slc (.var 1) .n (.s (.var 4))) (.lst (.c (.ix (.lst (.c (.tup (.c (.var 7) (.c (.var 6) .n))) (.c (.tup (.c (.var 6) (.c (.ix (.var 3) (.lit (.int 1))) .n))) .n))) (.bin .sub (.var 5) (.lit (.int 4)))) .n))) (.slc (.var 1) (.s (.bin .add (.var 4) (.lit (.int 1)))) .n))) .n))))))))⟩
end Nf
set_option Elab.async false
set_option linter.all false
set_option maxRecDepth 100000
set_option maxHeartbeats 8000000
/-! NfFn: all defs of a program keep the promises that `run` makes. -/
namespace Nf
open PySem PySem.Spec L2
open PyProof.Rows hiding St

/-! ### binding -/
theorem lookup_zip {ps : List Str} {us : List Value} (hl : us.length = ps.length) {n : Str} (h : n ∈ ps) : ∃ u, (ps.zip us).lookup n = some u := by
  induction ps generalizing us with
  | nil => cases h
  | cons p ps ih =>
    cases us with
    | nil => simp at hl
    | cons u us =>
      by_cases e : n = p
      · subst e
        exact ⟨u, by simp [List.lookup]⟩
      · have h1 : (n == p) = false := by simpa using e
        obtain ⟨u', e'⟩ := ih (us := us) (by simpa using hl) ((List.mem_cons.mp h).resolve_left e)
        exact ⟨u', by simp only [List.zip_cons_cons, List.lookup, h1]; exact e'⟩
theorem filter_zip : ∀ {ps : List Str} {us : List Value}, ps.Nodup → us.length = ps.length → ps.filterMap (fun n => ((ps.zip us).lookup n).map (n, ·)) = ps.zip us
  | [], us, _, _ => by simp
  | p :: ps, [], _, hl => by simp at hl
  | p :: ps, u :: us, hn, hl => by
    obtain ⟨h1, h2⟩ := List.nodup_cons.mp hn
    have ih := filter_zip (us := us) h2 (by simpa using hl)
    rw [List.zip_cons_cons, List.filterMap_cons]
    have e0 : (((p, u) :: ps.zip us).lookup p).map (p, ·) = some (p, u) := by simp [List.lookup]
    rw [e0]
    simp only
    congr 1
    refine Eq.trans ?_ ih
    have key : ∀ l : List Str, (∀ n ∈ l, n ≠ p) → l.filterMap (fun n => (((p, u) :: ps.zip us).lookup n).map (n, ·)) = l.filterMap (fun n => ((ps.zip us).lookup n).map (n, ·)) := by
      intro l
      induction l with
      | nil => intro _; rfl
      | cons n l ih2 =>
        intro hq
        have hne : (n == p) = false := by simpa using hq n List.mem_cons_self
        rw [List.filterMap_cons, List.filterMap_cons, ih2 fun m hm => hq m (List.mem_cons_of_mem _ hm)]
        have e : ((p, u) :: ps.zip us).lookup n = (ps.zip us).lookup n := by simp only [List.lookup, hne]
        rw [e]
    exact key ps fun n hm z => h1 (z ▸ hm)
theorem bind_plain {x qual : Str} {as : List Arg} {body : List Stmt} {scope : Scope} {kV doc pm : Value} {an : Option Addr} {cdv ct : Value} {us : List Value} (hn : (as.map (·.arg)).Nodup) (hl : us.length = (as.map (·.arg)).length) :
    bindArgs (PySem.W.fnOf x qual ⟨[], as, none, [], [], none, []⟩ body scope .none kV doc pm an cdv ct) ⟨us, []⟩ = pure ((as.map (·.arg)).zip us) := by
  unfold bindArgs PySem.W.fnOf
  simp only [List.map_nil, List.nil_append, List.append_nil]
  generalize as.map (·.arg) = ps at hn hl
  have hmiss : (ps.take ps.length).filter (fun n => ((ps.zip us).lookup n).isNone) = [] := by
    rw [List.filter_eq_nil_iff]
    intro n hm
    obtain ⟨u, e⟩ := lookup_zip hl (List.mem_of_mem_take hm)
    simp [e]
  have e1 : notAStandIn Value.none = pure () := rfl
  simp [seqItems?, hl, e1, List.drop_nil]
  have e3 : (List.drop (Array.size (#[] : Array Value) - ps.length) ([] : List Value)).length = 0 := by simp
  rw [if_neg (by rw [e3, Nat.sub_zero, hmiss]; simp), filter_zip hn hl]

/-! ### a program's table -/
structure Tab where
  cls : List String
  flds : List String
  nums : List (String × Int)
  texts : List (String × String)
  exs : List String
  free : List String
  tbs : List (String × List (String × Int)) := []
  /-- defs in which lambdas are made -/
  lams : List String := []
  tries : Bool := false
  /-- exceptions with a field that are raised -/
  exi : List (String × String) := []
  word : Bool := false
def prgOf (recs : List FRec) : Prg := recs.map fun r => ((r.cls, r.name), ⟨r.ps.length, r.N.length, r.body⟩)
def fnsOf : List FRec → List String
  | [] => []
  | r :: rs => if r.cls = "" then r.name :: fnsOf rs else fnsOf rs
def msOf : List FRec → List (String × String)
  | [] => []
  | r :: rs => if r.cls = "" then msOf rs else (r.cls, r.name) :: msOf rs
def ckOf (T : Tab) (recs : List FRec) (N : List Str) (sc : Scope) (lam : Bool) : Ck where
  N := N
  sc := sc
  raw := sc
  cs := T.nums.map (fun p => (p.1, D.int p.2)) ++ T.texts.map fun p => (p.1, D.str p.2)
  free := T.free
  fns := fnsOf recs
  ms := msOf recs
  mks := T.cls
  exs := T.exs
  flds := T.flds
  tbs := T.tbs
  lam := lam
  try_ := T.tries
  exi := T.exi
def lamOf (T : Tab) (r : FRec) : Bool := (r.cls == "") && T.lams.contains r.name
def atOf (r : FRec) : Str × Option Str := if r.cls = "" then (os r.name, none) else (os r.cls, some (os r.name))
def parsOk : Arguments → List Str → Bool
  | ⟨[], as, none, [], [], none, []⟩, ps => decide (as.map (·.arg) = ps) && decide ps.Nodup
  | _, _ => false
def scOk (N P : List Str) (sc : Scope) : Bool :=
  decide (sc.kind = .function) && !sc.isCoroutine && !sc.isGenerator && decide N.Nodup && decide (N.take P.length = P) && (P.all fun x => match sc.names.lookup x with | some .local => true | some .cell => true | _ => false) && sc.names.all fun y => decide (y.2 ≠ .free)
def defOk (T : Tab) (recs : List FRec) (d : He.DefD) (r : FRec) : Bool :=
  decide (d.at_ = atOf r) && d.dfl.isEmpty && d.kwd.isEmpty && parsOk d.params (r.ps.map os) && scOk (r.N.map os) (r.ps.map os) d.scope && chkSs r.body (ckOf T recs (r.N.map os) d.scope (lamOf T r)) d.body && (!lamOf T r || decide (d.qual = os r.name))
def defsOk (T : Tab) (recs : List FRec) : List He.DefD → List FRec → Bool
  | [], [] => true
  | d :: ds, r :: rs => defOk T recs d r && defsOk T recs ds rs
  | _, _ => false
def faOf (T : Tab) (recs : List FRec) : List He.Fa :=
  (fnsOf recs).map (fun f => .glo (os f)) ++ (msOf recs).flatMap (fun p => [.cls (os p.1), .meth (os p.1) (os p.2)]) ++ T.cls.flatMap (fun x => [.glo (os x), .cls (os x), .mkr (os x)] ++ T.flds.map fun f => .noat (os x) (os f)) ++
  T.nums.map (fun p => .int (os p.1) p.2) ++ T.texts.map (fun p => .str (os p.1) (os p.2)) ++ T.exs.flatMap (fun x => [.glo (os x), .exc (os x)]) ++ (T.free.map (fun n => .free (os n)) ++ T.tbs.map fun p => .glo (os p.1))
def tabOk (T : Tab) (recs : List FRec) : Bool := decide ((recs.map fun r => (r.cls, r.name)).Nodup) && T.cls.all fun cl => !(cl == "") && recs.any fun r => r.cls == cl && r.name == "__init__"
theorem fns_mem {f : String} : ∀ {recs : List FRec}, f ∈ fnsOf recs → ∃ r ∈ recs, r.cls = "" ∧ r.name = f
  | [], h => by cases h
  | r :: rs, h => by
    unfold fnsOf at h
    split at h
    · rename_i e
      rcases List.mem_cons.mp h with h | h
      · exact ⟨r, List.mem_cons_self, e, h.symm⟩
      · obtain ⟨q, h1, h2⟩ := fns_mem h
        exact ⟨q, List.mem_cons_of_mem _ h1, h2⟩
    · obtain ⟨q, h1, h2⟩ := fns_mem h
      exact ⟨q, List.mem_cons_of_mem _ h1, h2⟩
theorem ms_mem {p : String × String} : ∀ {recs : List FRec}, p ∈ msOf recs → ∃ r ∈ recs, r.cls ≠ "" ∧ (r.cls, r.name) = p
  | [], h => by cases h
  | r :: rs, h => by
    unfold msOf at h
    split at h
    · obtain ⟨q, h1, h2⟩ := ms_mem h
      exact ⟨q, List.mem_cons_of_mem _ h1, h2⟩
    · rename_i e
      rcases List.mem_cons.mp h with h | h
      · exact ⟨r, List.mem_cons_self, e, h.symm⟩
      · obtain ⟨q, h1, h2⟩ := ms_mem h
        exact ⟨q, List.mem_cons_of_mem _ h1, h2⟩
theorem ms_of {r : FRec} : ∀ {recs : List FRec}, r ∈ recs → r.cls ≠ "" → (r.cls, r.name) ∈ msOf recs
  | [], h, _ => by cases h
  | q :: rs, h, hc => by
    unfold msOf
    rcases List.mem_cons.mp h with rfl | h
    · rw [if_neg hc]; exact List.mem_cons_self
    · split
      · exact ms_of h hc
      · exact List.mem_cons_of_mem _ (ms_of h hc)
theorem look_prg {r : FRec} : ∀ {recs : List FRec}, (recs.map fun r => (r.cls, r.name)).Nodup → r ∈ recs → (prgOf recs).lookup (r.cls, r.name) = some ⟨r.ps.length, r.N.length, r.body⟩
  | [], _, h => by cases h
  | q :: rs, hn, h => by
    obtain ⟨h1, h2⟩ := List.nodup_cons.mp hn
    show List.lookup _ (((q.cls, q.name), _) :: prgOf rs) = _
    rcases List.mem_cons.mp h with rfl | h
    · simp [List.lookup]
    · have hne : ((r.cls, r.name) == (q.cls, q.name)) = false := by
        rw [beq_eq_false_iff_ne]
        intro z
        exact h1 (List.mem_map.mpr ⟨r, h, z⟩)
      rw [List.lookup, hne]
      exact look_prg h2 h
theorem defs_at {T : Tab} {all : List FRec} : ∀ {fn : List He.DefD} {recs : List FRec} {r : FRec}, defsOk T all fn recs = true → r ∈ recs → ∃ d : He.DefD, d ∈ fn ∧ defOk T all d r = true
  | [], [], r, _, h => by cases h
  | d :: ds, q :: rs, r, hd, h => by
    unfold defsOk at hd
    rw [Bool.and_eq_true] at hd
    rcases List.mem_cons.mp h with rfl | h
    · exact ⟨d, List.mem_cons_self, hd.1⟩
    · obtain ⟨d', e, k⟩ := defs_at hd.2 h
      exact ⟨d', List.mem_cons_of_mem _ e, k⟩
  | [], q :: rs, r, hd, _ => by unfold defsOk at hd; cases hd
  | d :: ds, [], r, hd, h => by cases h
theorem pars_of {a : Arguments} {ps : List Str} (h : parsOk a ps = true) : ∃ as, a = ⟨[], as, none, [], [], none, []⟩ ∧ as.map (·.arg) = ps ∧ ps.Nodup := by
  unfold parsOk at h
  split at h
  · rw [Bool.and_eq_true, decide_eq_true_eq, decide_eq_true_eq] at h
    exact ⟨_, rfl, h.1, h.2⟩
  · cases h
theorem sc_of {N P : List Str} {sc : Scope} (h : scOk N P sc = true) : FnScope N P sc := by
  unfold scOk at h
  simp only [Bool.and_eq_true, decide_eq_true_eq, Bool.not_eq_true'] at h
  obtain ⟨⟨⟨⟨⟨⟨h1, h2⟩, h3⟩, h4⟩, h5⟩, h6⟩, h7⟩ := h
  refine ⟨h1, h2, h3, h4, h5, fun x hx => ?_, fun y hy => ?_⟩
  · have := List.all_eq_true.mp h6 x hx
    split at this
    · exact .inl (by assumption)
    · exact .inr (by assumption)
    · cases this
  · have := List.all_eq_true.mp h7 y hy
    exact of_decide_eq_true this
/-- the def of _law_word, as it must stand -/
def wordShape (free : List String) (sc : Scope) : List Stmt → Bool
  | [.Try [.Return (some (.Call (.Name a _) [] [] _)) _] [.ExceptHandler (some (.Name x _)) (some n) (b :: suite) _] [] [] _] => decide (a = os "_law_work") && decide (x = os "NewsError") && decide (n = os "e") && chkSs suiteM (ckW free sc) (b :: suite)
  | _ => false
def wordDef (free : List String) (d : He.DefD) : Bool :=
  decide (d.at_ = (os "_law_word", none)) && decide (d.name = os "_law_word") && decide (d.qual = os "_law_word") && d.dfl.isEmpty && d.kwd.isEmpty && parsOk d.params [os "_law_work"] && scOk NgW [os "_law_work"] d.scope &&
    decide (d.scope.names.lookup (os "e") = some .local) && decide (d.scope.names.lookup (os "NewsError") = some .globalImplicit) && wordShape free d.scope d.body
def iniDef (n f : String) (d : He.DefD) : Bool :=
  decide (d.at_ = (os n, some (os "__init__"))) && d.dfl.isEmpty && d.kwd.isEmpty && parsOk d.params [os "self", os f] && scOk [os "self", os f] [os "self", os f] d.scope && decide (d.scope.names.lookup (os "NewsError") = some .globalImplicit) && iniShape f d.body &&
    decide (f ≠ "self") && !(os f == ("__debug__" : Str)) && !(os f == ("__classdict__" : Str))
/-- what else the head must tell -/
structure More (T : Tab) (fnA : List He.DefD) (K : PySem.W.Frag) : Prop where
  wk : T.word = true → WordK K
  wd : T.lams ≠ [] → T.word = true ∧ (He.Fa.glo (os "_law_word")).ok K = true ∧ ∃ d ∈ fnA, wordDef T.free d = true
  dj : ∀ n ∈ T.lams, ∀ m ∈ T.lams, (He.cT K (os n, none)).2 = (He.cT K (os m, none)).2 → n = m
  tr : T.tries = true → T.word = true
  ei : ∀ p ∈ T.exi, T.word = true ∧ p.1 ∈ newsX ∧ OexN K p.1 p.2 ∧ initOf K (He.ga K (os "NewsError")) = true ∧ ∃ d ∈ fnA, iniDef p.1 p.2 d = true
section
variable {T : Tab} {recs : List FRec} {fn fnA : List He.DefD} {P : Program} {w : World} {K : PySem.W.Frag} {mg : Str → Option Value} {base : Heap}
theorem fa1 {f : String} (h : f ∈ fnsOf recs) : He.Fa.glo (os f) ∈ faOf T recs := by
  unfold faOf
  simp only [List.mem_append]
  exact .inl (.inl (.inl (.inl (.inl (.inl (List.mem_map.mpr ⟨f, h, rfl⟩))))))
theorem fa2 {p : String × String} (h : p ∈ msOf recs) : He.Fa.cls (os p.1) ∈ faOf T recs ∧ He.Fa.meth (os p.1) (os p.2) ∈ faOf T recs := by
  unfold faOf
  simp only [List.mem_append, List.mem_flatMap]
  exact ⟨.inl (.inl (.inl (.inl (.inl (.inr ⟨p, h, by simp⟩))))), .inl (.inl (.inl (.inl (.inl (.inr ⟨p, h, by simp⟩)))))⟩
theorem fa3 {x : String} (h : x ∈ T.cls) : He.Fa.glo (os x) ∈ faOf T recs ∧ He.Fa.cls (os x) ∈ faOf T recs ∧ He.Fa.mkr (os x) ∈ faOf T recs ∧ ∀ f ∈ T.flds, He.Fa.noat (os x) (os f) ∈ faOf T recs := by
  unfold faOf
  simp only [List.mem_append, List.mem_flatMap]
  exact ⟨.inl (.inl (.inl (.inl (.inr ⟨x, h, by simp⟩)))), .inl (.inl (.inl (.inl (.inr ⟨x, h, by simp⟩)))), .inl (.inl (.inl (.inl (.inr ⟨x, h, by simp⟩)))), fun f hf => .inl (.inl (.inl (.inl (.inr ⟨x, h, .inr (List.mem_map.mpr ⟨f, hf, rfl⟩)⟩))))⟩
theorem fa4 {p : String × Int} (h : p ∈ T.nums) : He.Fa.int (os p.1) p.2 ∈ faOf T recs := by
  unfold faOf
  simp only [List.mem_append]
  exact .inl (.inl (.inl (.inr (List.mem_map.mpr ⟨p, h, rfl⟩))))
theorem fa5 {p : String × String} (h : p ∈ T.texts) : He.Fa.str (os p.1) (os p.2) ∈ faOf T recs := by
  unfold faOf
  simp only [List.mem_append]
  exact .inl (.inl (.inr (List.mem_map.mpr ⟨p, h, rfl⟩)))
theorem fa6 {x : String} (h : x ∈ T.exs) : He.Fa.glo (os x) ∈ faOf T recs ∧ He.Fa.exc (os x) ∈ faOf T recs := by
  unfold faOf
  simp only [List.mem_append, List.mem_flatMap]
  exact ⟨.inl (.inr ⟨x, h, by simp⟩), .inl (.inr ⟨x, h, by simp⟩)⟩
theorem fa7 {n : String} (h : n ∈ T.free) : He.Fa.free (os n) ∈ faOf T recs := by
  unfold faOf
  simp only [List.mem_append]
  exact .inr (.inl (List.mem_map.mpr ⟨n, h, rfl⟩))
theorem fa8 {p : String × List (String × Int)} (h : p ∈ T.tbs) : He.Fa.glo (os p.1) ∈ faOf T recs := by
  unfold faOf
  simp only [List.mem_append]
  exact .inr (.inr (List.mem_map.mpr ⟨p, h, rfl⟩))
theorem say (c : He.SaysD (faOf T recs) fnA K) {f : He.Fa} (h : f ∈ faOf T recs) : f.ok K = true := by
  obtain ⟨i, hi, e⟩ := List.getElem_of_mem h
  exact c.fact i (f := f) (by rw [List.getElem?_eq_getElem hi, e])
/-- the tables of code objects -/
def lamT (T : Tab) (K : PySem.W.Frag) : List (Addr × Str) := T.lams.map fun n => ((He.cT K (os n, none)).2, os n ++ ".<locals>." ++ "<lambda>")
abbrev cfgOf (T : Tab) (P : Program) (w : World) (K : PySem.W.Frag) (mg : Str → Option Value) (base : Heap) : Cfg := ⟨P, w, K, mg, base, T.cls, T.flds, lamT T K, []⟩
theorem rep_start {c : Cfg} {H : Hp} {N : List Str} {ds : List D} {vs : List V} {n : Nat} (hn : n = N.length) (r : RepL c H ds vs) (hl : vs.length ≤ N.length) : RepSt c H (ds.map some ++ List.replicate (n - ds.length) none) (L2.start N vs) := by
  have e := r.length
  refine ⟨by simp [L2.start, e, hn], fun i d h => ?_⟩
  by_cases hi : i < ds.length
  · rw [List.getElem?_append_left (by simpa using hi), List.getElem?_map] at h
    obtain ⟨d', h1, h2⟩ := Option.map_eq_some_iff.mp h
    cases h2
    obtain ⟨v, h3, rv⟩ := r.get h1
    exact ⟨v, by unfold L2.start; rw [List.getElem?_append_left (by simp; omega), List.getElem?_map, h3]; rfl, rv⟩
  · rw [List.getElem?_append_right (by simp; omega), List.getElem?_replicate] at h
    split at h <;> cases h
theorem parts5 {a b d e f : Bool} (h : (a && b && d && e && f) = true) : a = true ∧ b = true ∧ d = true ∧ e = true ∧ f = true := by
  simp only [Bool.and_eq_true] at h
  exact ⟨h.1.1.1.1, h.1.1.1.2, h.1.1.2, h.1.2, h.2⟩
/-- a def that binds plainly -/
theorem def_binds (says : He.SaysD (faOf T recs) fnA K) {d : He.DefD} (hd : d ∈ fnA) {ps : List Str} (o2 : d.dfl.isEmpty = true) (o4 : parsOk d.params ps = true) : ∃ fd, FunD K d.name d.qual d.params d.body d.scope [] (d.kws K) (He.fAd K d.at_) fd ∧ Binds K fd ps [] ∧
    (∀ (s : Shared) (us : List Value), us.length = ps.length → BindsTo s fd ⟨us, []⟩ (ps.zip us)) := by
  obtain ⟨fd, F⟩ := He.SaysD.defs says hd
  have e2 : d.dvs K = [] := by unfold He.DefD.dvs; rw [List.isEmpty_iff.mp o2]; rfl
  rw [e2] at F
  obtain ⟨as, ea, ep, en⟩ := pars_of o4
  refine ⟨fd, F, ?_, ?_⟩
  · rw [ea] at F
    rw [← ep] at en ⊢
    exact F.bindsN fun kV doc pm an cdv ct us hl => bind_plain en hl
  · intro s us hl
    rw [ea] at F
    rw [← ep] at en hl ⊢
    exact F.bindsA (fun kV doc pm an cdv ct us hl => bind_plain en hl) s us hl
theorem prg_ok (says : He.SaysD (faOf T recs) fnA K) (tok : ∀ p ∈ T.tbs, TblOk K w p.1 p.2) (mo : More T fnA K) (hd : defsOk T recs fn recs = true) (hsub : ∀ d ∈ fn, d ∈ fnA) (ht : tabOk T recs = true) : ∀ (k : Nat) (r : FRec), r ∈ recs →
    ∃ fd, (∀ base : Heap, K.In base → base.Ns mainGlobals mg → (∀ n ∈ T.lams, LamX.TabB base mg (He.cT K (os n, none)).1 (He.cT K (os n, none)).2) → FnOk P w K mg base (L2.CX P w) (4 * k) (He.fAd K (atOf r)) fd (r.ps.map os) (liftSp (cfgOf T P w K mg base) (run (prgOf recs) k r.cls r.name))) ∧
      (∀ (s : Shared) (us : List Value), us.length = (r.ps.map os).length → BindsTo s fd ⟨us, []⟩ ((r.ps.map os).zip us)) ∧ Binds K fd (r.ps.map os) [] ∧ PySem.W.keepIn K (.ref (He.fAd K (atOf r))) = true := by
  unfold tabOk at ht
  rw [Bool.and_eq_true, decide_eq_true_eq] at ht
  obtain ⟨hnd, hini⟩ := ht
  intro k
  induction k with
  | zero =>
    intro r hr
    obtain ⟨d, hi, ok⟩ := defs_at hd hr
    unfold defOk at ok
    simp only [Bool.and_eq_true, decide_eq_true_eq] at ok
    obtain ⟨⟨⟨⟨⟨⟨o1, o2⟩, o3⟩, o4⟩, o5⟩, o6⟩, o7⟩ := ok
    obtain ⟨fd, F, hb, hbA⟩ := def_binds says (hsub d hi) o2 o4
    rw [o1] at F
    refine ⟨fd, fun base hK hG _ => ⟨fun vs H Q E h => ?_, fun A outer s H args us vs Q E hr e0 hb hv h => ?_⟩, hbA, hb, F.kp⟩
    · obtain ⟨ds, S, P, W, _, _, h, _⟩ := h
      cases h
    · obtain ⟨ds, S, P, W, _, _, h, _⟩ := h
      cases h
  | succ k ih =>
    intro r hr
    obtain ⟨d, hi, ok⟩ := defs_at hd hr
    unfold defOk at ok
    simp only [Bool.and_eq_true, decide_eq_true_eq, Bool.or_eq_true, Bool.not_eq_true'] at ok
    obtain ⟨⟨⟨⟨⟨⟨o1, o2⟩, o3⟩, o4⟩, o5⟩, o6⟩, o7⟩ := ok
    obtain ⟨fd, F, hb, hbA⟩ := def_binds says (hsub d hi) o2 o4
    rw [o1] at F
    have sc := sc_of o5
    have lk := look_prg hnd hr
    refine ⟨fd, fun base hK hG hTB => ?_, hbA, hb, F.kp⟩
    have sp_of : ∀ {vs : List V} {H : Hp} {Q : VK} {E : XK}, liftSp (cfgOf T P w K mg base) (run (prgOf recs) (k + 1) r.cls r.name) vs H Q E → ∃ ds S P' W, RepL (cfgOf T P w K mg base) H ds vs ∧ RepS (cfgOf T P w K mg base) H S ∧ ds.length = r.ps.length ∧
        wpSs (run (prgOf recs) k) W r.body ⟨fun _ S' => P' .non S', P'⟩ (ds.map some ++ List.replicate (r.N.length - r.ps.length) none) S ∧ Post (cfgOf T P w K mg base) H S P' Q ∧ PostX (cfgOf T P w K mg base) H S W E := fun {vs H Q E} h => by
      obtain ⟨ds, S, P', W, h1, h2, h3, h4, h5⟩ := h
      unfold run at h3
      rw [lk] at h3
      exact ⟨ds, S, P', W, h1, h2, h3.1, h3.2, h4, h5⟩
    obtain ⟨oc, od, dV, kV, doc, pm, an, cdv, ct, osl, efd, lkf, hcd, _, _⟩ := F.ex
    rw [efd] at lkf ⊢
    refine fn_of (k := 4 * k + 3) lkf hcd sc (fun vs H Q E h => ?_) (fun A outer s H vs Q E hro h => ?_)
    · obtain ⟨ds, S, P', W, h1, _, h3, _⟩ := sp_of h
      rw [List.length_map, ← h1.length, h3]
    · obtain ⟨ds, S, P', W, h1, h2, h3, h4, h5, h6⟩ := sp_of h
      have tk : Takes (cxOf (L2.CX P w) P w K mg base (r.N.map os) d.qual d.scope (He.fAd K (atOf r)) cdv A outer s H E) (fun cls d _ H => E cls d H) := takes_of rfl rfl rfl rfl
      have G : GoodS (cfgOf T P w K mg base) (ckOf T recs (r.N.map os) d.scope (lamOf T r)) (run (prgOf recs) k) (4 * k) (cxOf (L2.CX P w) P w K mg base (r.N.map os) d.qual d.scope (He.fAd K (atOf r)) cdv A outer s H E) E :=
        { hK := rfl
          hw := rfl
          hu := by have := hro.un; show (A.deeper _).units + 70 < cLine; omega
          hc := fun _ => rfl
          hN := rfl
          nd := sc.nd
          hsc := rfl
          st := fun x hx => ⟨hx, .inl rfl⟩
          cls := fun x hx => ⟨He.cls_ok (say says (fa3 hx).2.1), fun f hf => He.noat_ok (say says ((fa3 hx).2.2.2 f hf))⟩
          room := fun _ => hro.mono (by omega)
          ps := passes_call tk fun _ _ _ _ z => z
          cs := fun p hp => by
            rcases List.mem_append.mp hp with hp | hp
            · obtain ⟨q, hq, rfl⟩ := List.mem_map.mp hp
              obtain ⟨t, e⟩ := He.int_ok hK hG (say says (fa4 hq))
              exact ⟨.int q.2, _, e, ⟨t, rfl⟩, fun _ => rfl⟩
            · obtain ⟨q, hq, rfl⟩ := List.mem_map.mp hp
              obtain ⟨t, e⟩ := He.str_ok hK hG (say says (fa5 hq))
              exact ⟨.str (os q.2), _, e, ⟨t, rfl⟩, fun _ => rfl⟩
          free := fun n hn => He.free_ok hK hG (say says (fa7 hn))
          tbs := fun p hp => ⟨He.glo_ok hK hG (say says (fa8 hp)), tok p hp⟩
          fns := fun f hf => by
            obtain ⟨q, hq, hc, rfl⟩ := fns_mem hf
            obtain ⟨fd', a1, _, a2, a3⟩ := ih q hq
            have a1 := a1 base hK hG hTB
            have ea : atOf q = (os q.name, none) := by unfold atOf; rw [if_pos hc]
            rw [ea] at a1 a3
            rw [hc] at a1
            exact ⟨He.ga K (os q.name), fd', q.ps.map os, He.glo_ok hK hG (say says (fa1 hf)), a3, a2, a1⟩
          ms := fun p hp => by
            obtain ⟨q, hq, hc, rfl⟩ := ms_mem hp
            obtain ⟨fd', a1, _, a2, a3⟩ := ih q hq
            have a1 := a1 base hK hG hTB
            have ea : atOf q = (os q.cls, some (os q.name)) := by unfold atOf; rw [if_neg hc]
            rw [ea] at a1 a3
            exact ⟨He.ma K (He.ga K (os q.cls)) (os q.name), fd', q.ps.map os, He.cls_ok (say says (fa2 hp).1), He.meth_ok (say says (fa2 hp).2), a2, a1⟩
          mks := fun cl hcl => by
            have h7 := List.all_eq_true.mp hini cl hcl
            rw [Bool.and_eq_true, Bool.not_eq_true'] at h7
            obtain ⟨q, hq, h8⟩ := List.any_eq_true.mp h7.2
            rw [Bool.and_eq_true] at h8
            have hc1 : q.cls = cl := eq_of_beq h8.1
            have hc2 : q.name = "__init__" := eq_of_beq h8.2
            have hc : q.cls ≠ "" := by rw [hc1]; exact beq_eq_false_iff_ne.mp h7.1
            obtain ⟨fd', a1, _, a2, a3⟩ := ih q hq
            have a1 := a1 base hK hG hTB
            have ea : atOf q = (os q.cls, some (os q.name)) := by unfold atOf; rw [if_neg hc]
            rw [ea, hc1, hc2] at a1
            exact ⟨hcl, He.glo_ok hK hG (say says (fa3 hcl).1), _, fd', q.ps.map os, He.mkr_ok (say says (fa3 hcl).2.2.1), a2, a1⟩
          lam := fun hl params body scope p lpos pos td hgl hnp L hbody => by
            have hl' : lamOf T r = true := hl
            unfold lamOf at hl'
            rw [Bool.and_eq_true] at hl'
            have hrc : r.cls = "" := eq_of_beq hl'.1
            have hmem : r.name ∈ T.lams := List.contains_iff_mem.mp hl'.2
            have hq : d.qual = os r.name := o7.resolve_left (fun z => by rw [show lamOf T r = true from hl] at z; cases z)
            have ea : atOf r = (os r.name, none) := by unfold atOf; rw [if_pos hrc]
            obtain ⟨w1, w0, wd, w2, w3⟩ := mo.wd (fun z => by rw [z] at hmem; cases hmem)
            have WK := mo.wk w1
            unfold wordDef at w3
            simp only [Bool.and_eq_true, decide_eq_true_eq] at w3
            obtain ⟨⟨⟨⟨⟨⟨⟨⟨⟨v1, v2⟩, v3⟩, v4⟩, v5⟩, v6⟩, v7⟩, v8⟩, v9⟩, v10⟩ := w3
            obtain ⟨fdw, Fw, hbw, _⟩ := def_binds says w2 v4 v6
            unfold wordShape at v10
            split at v10
            · rename_i x1 q1 q2 q3 x2 q4 x3 b suite q5 q6 hbody2
              simp only [Bool.and_eq_true, decide_eq_true_eq] at v10
              obtain ⟨⟨⟨rfl, rfl⟩, rfl⟩, v11⟩ := v10
              obtain ⟨oc2, od2, dV2, kV2, doc2, pm2, an2, cdv2, ct2, osl2, efd2, lkf2, hcd2, _, _⟩ := Fw.ex
              rw [efd2, hbody2, v2, v3] at lkf2
              rw [efd2, hbody2, v2, v3] at hbw
              rw [v3] at hcd2
              have ew : He.fAd K wd.at_ = He.ga K (os "_law_word") := by rw [v1]; rfl
              rw [ew] at lkf2
              have kw := Fw.kp
              rw [ew] at kw
              obtain ⟨cc, ec⟩ := He.codeIn_ref hcd
              have ecode : He.codeOf K (os r.name, none) = cc := by
                have := He.codeOf_eq lkf (c := cc) (by rw [← efd]; rw [efd]; exact ec)
                rw [ea] at this
                exact this
              have tb := hTB r.name hmem
              have e1 : (He.cT K (os r.name, none)).1 = cc := ecode
              rw [e1] at tb
              refine word_pe (k := 4 * k) (free := T.free) (P := (He.cT K (os r.name, none)).2) rfl rfl hro (fun x hx => ⟨He.cls_ok (say says (fa3 hx).2.1), fun f hf => He.noat_ok (say says ((fa3 hx).2.2.2 f hf))⟩) (fun n hn => He.free_ok hK hG (say says (fa7 hn))) WK (fun n hn => He.glo_ok hK hG (WK.gl n hn)) v11 v8 v9
                hgl (He.glo_ok hK hG w0) kw lkf2 hcd2 hbw (sc_of v7) tb ec ?_ ?_ hnp L hbody
              · refine List.mem_map.mpr ⟨r.name, hmem, ?_⟩
                show _ = ((He.cT K (os r.name, none)).2, d.qual ++ ".<locals>." ++ "<lambda>")
                rw [hq]
              · intro p hp e
                obtain ⟨m, hm1, rfl⟩ := List.mem_map.mp hp
                have := mo.dj m hm1 r.name hmem e
                show os m ++ ".<locals>." ++ "<lambda>" = d.qual ++ ".<locals>." ++ "<lambda>"
                rw [hq, this]
            · cases v10
          isE := fun i cl e h => by rw [no_is rfl] at h; cases h
          exF := fun i f e h => by rw [no_fld rfl] at h; cases h
          hp := fun _ => passes_of rfl
          tk := tk
          try_ := fun ht => by
            have WK := mo.wk (mo.tr ht)
            exact ⟨rfl, rfl, He.glo_ok hK hG (WK.gl _ List.mem_cons_self), WK.exm⟩
          exi := fun q hq e te p pos rpos g1 g2 he hst hca => by
            obtain ⟨z1, z2, z3, z4, dd, z5, z6⟩ := mo.ei q hq
            have WK := mo.wk z1
            unfold iniDef at z6
            simp only [Bool.and_eq_true, decide_eq_true_eq, Bool.not_eq_true'] at z6
            obtain ⟨⟨⟨⟨⟨⟨⟨⟨⟨i1, i2⟩, i3⟩, i4⟩, i5⟩, i6⟩, i7⟩, i8⟩, i9⟩, i10⟩ := z6
            obtain ⟨fdi, Fi, hbi, _⟩ := def_binds says z5 i2 i4
            have ei : He.fAd K dd.at_ = He.ma K (He.ga K (os q.1)) "__init__" := by rw [i1]; rfl
            rw [ei] at Fi
            have Fo : FnOk P w K mg base C8.CX0 1 _ fdi [os "self", os q.2] (spI (He.ga K (os q.1)) (os q.2)) := ini_ok z3 z4 (He.glo_ok hK hG (WK.gl _ List.mem_cons_self)) Fi i8 i7 (sc_of i5) i6 i9 i10
            exact ds_raise1 hca rfl tk z3 Fo (hro.mono (by omega)) hbi g1 g2 (He.glo_ok hK hG (WK.gl _ (List.mem_cons_of_mem _ z2))) he hst
          kind := sc.kind
          flds := fun f hf => hf
          exs := fun x hx => by
            have f1 := say says (fa6 hx).1
            have f2 := say says (fa6 hx).2
            obtain ⟨g1, g2, g3, g4⟩ := He.exc_ok f2
            exact ⟨He.glo_ok hK hG f1, g2, raises_own g3 g4, _, _, _, _, PySem.F.excBase_ValueError, g1⟩ }
      refine ⟨_, sndSs r.body _ d.body _ E G o6, ds.map some ++ List.replicate (r.N.length - r.ps.length) none, S, W, _, _, ?_, h2, h4, fun δ' S' σ' H' hh f _ s' => h5 _ _ _ _ hh f rfl s', h5, h6⟩
      rw [← h3]
      refine rep_start (by rw [List.length_map]) h1 ?_
      have hp2 := sc.pre
      have hl2 := congrArg List.length hp2
      rw [List.length_take, List.length_map, List.length_map] at hl2
      rw [List.length_map, ← h1.length, h3]
      omega
end
end Nf
set_option linter.all false
set_option maxRecDepth 100000
namespace Nf
def recs : List FRec := [F_is_number, F_need_many, F_need_house, F_need_ties, F_need_some, F_beside, F_shows, F__law_start, F__law_drawn, F__law_same, F__law_ties, F__law_near, F__law_met, F__law_rows, F__law_spoilt, F__law_does_v1, F_law_v7]
def tab : Tab where
  cls := []
  flds := []
  nums := [("LEAST_HOUSES", 2), ("MOST_HOUSES", 8)]
  texts := []
  exs := ["BadHouse", "BadDay", "BadWorth", "BadLife", "NotOwn", "BadLetter", "BadTies", "NoWay"]
  free := ["ValueError", "bool", "enumerate", "int", "isinstance", "len", "list", "range", "set", "sorted", "str", "tuple"]
  tbs := []
  lams := ["law"]
  tries := false
  exi := [("BadRow", "number")]
  word := true
end Nf
set_option Elab.async false
set_option linter.all false
set_option maxRecDepth 100000
set_option maxHeartbeats 0
/-! NfEnd: a law's promise from what its run promises. -/
namespace Nf
open PySem PySem.Spec L2
open PyProof.Rows hiding St
/-- nothing flies: the world's name is no matter -/
theorem fnok0 {P : Program} {w : World} {K : PySem.W.Frag} {mg : Str → Option Value} {base : Heap} {k : Nat} {f : Addr} {fd : FuncData} {ps : List Str} {sp : Sp} (F : FnOk P w K mg base (L2.CX P w) k f fd ps sp) :
    FnOk P w K mg base L2.CX0 k f fd ps (fun vs H Q _ => sp vs H Q fun _ _ _ => False) := by
  refine ⟨fun vs H Q E h => F.len _ _ _ _ h, fun A outer s H args us vs Q E hr e0 hb hv h => codeAny_mono (F.run A outer s H args us vs Q _ hr e0 hb hv h) fun r s' g => ?_⟩
  match r, g with
  | .ok (.ret u), g => exact g
  | .error e, g =>
    obtain ⟨a, B, H', cls, d, e1, e2, e3, e4, e5, e6, e7, e8⟩ := g
    exact False.elim e8
/-- the numbers of a written dict -/
def valsI (K : PySem.W.Frag) (a : Addr) (kvs : List (String × Int)) : Bool := kvs.all fun q => match PySem.W.nsIn K a (os q.1) with
  | some (some (.int j _)) => decide (j = q.2)
  | _ => false
theorem lookup_in {s : String} {i : Int} : ∀ {kvs : List (String × Int)}, kvs.lookup s = some i → (s, i) ∈ kvs
  | [], h => by cases h
  | (k, v) :: r, h => by
    rw [List.lookup_cons] at h
    split at h
    · rename_i e
      cases h
      rw [eq_of_beq e]; exact List.mem_cons_self
    · exact List.mem_cons_of_mem _ (lookup_in h)
theorem tbl_ok {K : PySem.W.Frag} {w : World} {n : String} {kvs : List (String × Int)} (h : He.dicW K (He.ga K (os n)) = some (He.keysIn w.params (kvs.map fun q => os q.1))) (hv : valsI K (He.ga K (os n)) kvs = true) : TblOk K w n kvs := by
  obtain ⟨es, m, D⟩ := He.dicW_ok h
  have hk : es.toList.map He.keyOf = He.keysIn w.params (kvs.map fun q => os q.1) := by
    unfold He.dicW at h
    rw [D.at_] at h
    have lo := D.low
    simp only [decide_true, Bool.true_and, lo, Bool.not_false, Bool.and_true] at h
    exact Option.some.inj h
  refine ⟨es, m, D, fun s => ?_⟩
  cases e : kvs.lookup s with
  | some i =>
    have hm := lookup_in e
    have := List.all_eq_true.mp hv (s, i) hm
    simp only at this
    split at this
    · rename_i j t e2
      rw [decide_eq_true_eq] at this
      subst this
      exact ⟨t, e2⟩
    · cases this
  | none =>
    have nk : ∀ q ∈ kvs, q.1 ≠ s := fun q hq e2 => by
      subst e2
      have := List.lookup_eq_none_iff.mp e q hq
      simp at this
    have key : ∀ d ∈ es.toList, ∃ q ∈ kvs, ∃ t, d.key = .str (os q.1) t := fun d hd => by
      have h1 : He.keyOf d ∈ es.toList.map He.keyOf := List.mem_map_of_mem hd
      rw [hk] at h1
      unfold He.keysIn at h1
      obtain ⟨x, hx, h2⟩ := List.mem_map.mp h1
      obtain ⟨q, hq, rfl⟩ := List.mem_map.mp hx
      unfold He.keyOf at h2
      split at h2
      · rename_i y t e3
        have := Option.some.inj h2
        have h4 := (Prod.mk.inj this).1
        exact ⟨q, hq, t, by rw [e3, h4]⟩
      · cases h2
    show PySem.W.nsIn K (He.ga K (os n)) (os s) = some none
    unfold PySem.W.nsIn
    rw [D.at_]
    have hf : es.toList.find? (fun d => d.key.isStr (os s)) = none := by
      rw [List.find?_eq_none]
      intro d hd
      obtain ⟨q, hq, t, e3⟩ := key d hd
      rw [e3]
      have : os q.1 ≠ os s := fun z => nk q hq (os_inj z)
      simp only [Value.isStr]
      simpa using this
    have hr : es.toList.any (·.refKey) = false := by
      rw [List.any_eq_false]
      intro d hd
      obtain ⟨q, hq, t, e3⟩ := key d hd
      unfold DictEntry.refKey
      rw [e3]; simp
    simp only [hf, hr]
    rfl
variable {T : Tab} {recs : List FRec} {fn : List He.DefD}
/-- the tables, for the head -/
def tsOf (tbs : List (String × List (String × Int))) : List He.Tab := tbs.map fun p => ((fun K => He.ga K (os p.1)), p.2.map fun q => os q.1)
def exOf (tbs : List (String × List (String × Int))) (K : PySem.W.Frag) : Bool := tbs.all fun p => valsI K (He.ga K (os p.1)) p.2
/-! ### heads with lambdas, tries, own __init__s -/
def exB (T : Tab) (K : PySem.W.Frag) : Bool := exOf T.tbs K && (!T.word || wordB K) && (T.lams.isEmpty || (He.Fa.glo (os "_law_word")).ok K) &&
  (T.lams.all fun n => T.lams.all fun m => !decide ((He.cT K (os n, none)).2 = (He.cT K (os m, none)).2) || decide (n = m)) && (T.exi.all fun p => oexB K p.1 p.2 && initOf K (He.ga K (os "NewsError")))
def moreB (T : Tab) (fnA : List He.DefD) : Bool := (T.lams.isEmpty || (T.word && fnA.any (wordDef T.free))) && (!T.tries || T.word) && T.exi.all fun p => T.word && newsX.contains p.1 && fnA.any (iniDef p.1 p.2)
def lamDefs (T : Tab) : List He.Defn := T.lams.map fun n => (os n, none)
theorem more_of {T : Tab} {fnA : List He.DefD} {K : PySem.W.Frag} (h1 : exB T K = true) (h2 : moreB T fnA = true) : More T fnA K := by
  unfold exB at h1
  unfold moreB at h2
  simp only [Bool.and_eq_true, Bool.or_eq_true, Bool.not_eq_true', List.all_eq_true, List.any_eq_true, decide_eq_false_iff_not, decide_eq_true_eq, List.isEmpty_iff] at h1 h2
  obtain ⟨⟨⟨⟨h1, h12⟩, h13⟩, h14⟩, h15⟩ := h1
  obtain ⟨⟨h21, h22⟩, h23⟩ := h2
  refine ⟨fun z => wordB_ok (h12.resolve_left (by rw [z]; exact fun e => nomatch e)), fun z => ?_, fun n hn m hm e => (h14 n hn m hm).resolve_left (fun q => q e), fun z => h22.resolve_left (by rw [z]; exact fun e => nomatch e), fun p hp => ?_⟩
  · obtain ⟨a, b⟩ := h21.resolve_left z
    exact ⟨a, h13.resolve_left z, b⟩
  · obtain ⟨⟨a, b⟩, d⟩ := h23 p hp
    exact ⟨a, List.contains_iff_mem.mp b, oexB_ok (h15 p hp).1, (h15 p hp).2, d⟩
theorem tabs_okB {T : Tab} {fa : List He.Fa} {tf : List He.Defn} {w : World} {h : Heap} {K : PySem.W.Frag} (c : He.SaysX fa fn (tsOf T.tbs) tf (exB T) w h K) : ∀ p ∈ T.tbs, TblOk K w p.1 p.2 := fun p hp => by
  have hm : exOf T.tbs K = true := by
    have := c.more
    unfold exB at this
    simp only [Bool.and_eq_true] at this
    exact this.1.1.1.1
  refine tbl_ok ?_ (List.all_eq_true.mp hm p hp)
  have e : (tsOf T.tbs).map (fun t => He.dicW K (t.1 K)) = (tsOf T.tbs).map fun t => some (He.keysIn w.params t.2) := congrArg (fun z : He.AlT => z.2) c.t
  obtain ⟨i, hi, e1⟩ := List.mem_iff_getElem.mp hp
  have e2 := congrArg (fun l => l[i]?) e
  unfold tsOf at e2
  simp only [List.getElem?_map, List.getElem?_eq_getElem hi, e1, Option.map_some] at e2
  exact Option.some.inj e2
/-- the law's def, from its run -/
theorem law_at {l : PySem.W.OpenLaw} {fnA : List He.DefD} {fn : List He.DefD} {w : World} {K : PySem.W.Frag} {h : Heap} {mg : Str → Option Value} {f : Addr} (hd : defsOk T recs fn recs = true) (hsub : ∀ d ∈ fn, d ∈ fnA) (ht : tabOk T recs = true) (hmo : moreB T fnA = true) {r : FRec} (hr : r ∈ recs) (hc : r.cls = "") {x : String} (hx : r.ps = [x]) {n k : Nat}
    (spec : ∀ ns : List Int, ns.length ≤ n → run (prgOf recs) k "" r.name [.frz ns] (fun _ => none) (fun d _ => d = .bl true) WF)
    (X : K.In h) (G : h.Ns mainGlobals mg) (hfa : mg (os r.name) = some (.ref f)) (c : He.SaysX (faOf T recs) fnA (tsOf T.tbs) (lamDefs T) (exB T) w h K) :
    LamX.LawAtS l w K L2.CX0 (4 * k) n (os x) mg f h := by
  have mo := more_of c.more hmo
  obtain ⟨fd, a1, a2, a3, a4⟩ := prg_ok (P := l.prog) (w := w) (mg := mg) c.t.d (tabs_okB c) mo hd hsub ht k r hr
  have hm : r.name ∈ fnsOf recs := by
    clear hd ht spec c hfa a1 a2 a3 a4 hsub
    induction recs with
    | nil => cases hr
    | cons q rs ih =>
      unfold fnsOf
      rcases List.mem_cons.mp hr with rfl | hr
      · rw [if_pos hc]; exact List.mem_cons_self
      · split
        · exact List.mem_cons_of_mem _ (ih hr)
        · exact ih hr
  have e := hfa.symm.trans (He.glo_ok X G (say c.t.d (fa1 hm)))
  have ea : atOf r = (os r.name, none) := by unfold atOf; rw [if_pos hc]
  have ef : f = He.fAd K (atOf r) := by rw [ea]; cases e; rfl
  subst ef
  have mem : ∀ {q : Str × Option Str}, q ∈ lamDefs T → ∃ m ∈ T.lams, q = (os m, none) := fun {q} hq => by
    obtain ⟨m, h1, h2⟩ := List.mem_map.mp hq
    exact ⟨m, h1, h2.symm⟩
  have lam : ∀ m ∈ T.lams, ((os m, none) : He.Defn) ∈ lamDefs T := fun m hm => List.mem_map.mpr ⟨m, hm, rfl⟩
  refine ⟨fd, T.lams.map fun m => He.cT K (os m, none), fun vs H Q E => (∃ (a : Addr) (ns : List Int), vs = [.ref a] ∧ ns.length ≤ n ∧ (∀ m ∈ T.lams, H (He.cT K (os m, none)).2 = some (.tbl #[])) ∧ SqL K H a (ns.map V.int)) ∧ ∀ H', Q (.bl true) H',
    fun p hp => ?_, fun p hp => ?_, fun p hp => ?_, fun s v => ?_, fun H a ns hl _ hT hS => ⟨⟨a, ns, rfl, hl, fun m hm => hT _ (List.mem_map.mpr ⟨m, hm, rfl⟩), hS⟩, fun _ => rfl⟩, fun base hK hG hTB => ?_⟩
  · obtain ⟨m, h1, rfl⟩ := List.mem_map.mp hp; exact c.empty _ (lam m h1)
  · obtain ⟨m, h1, rfl⟩ := List.mem_map.mp hp; exact c.out _ (lam m h1)
  · obtain ⟨m, h1, rfl⟩ := List.mem_map.mp hp; exact PySem.W.codeHd_of_K X (c.hd _ (lam m h1))
  · have := a2 s [v] (by rw [hx]; rfl)
    rw [hx] at this
    exact this
  · have F0 := fnok0 (a1 base hK hG fun m hm => hTB _ (List.mem_map.mpr ⟨m, hm, rfl⟩))
    rw [hx] at F0
    have go : ∀ {A : Around} {outer : List Env} {s : Shared} {H : Hp} {args : Args} {us : List Value} {Q : VK} {E : XK} {a : Addr} {ns : List Int}, Room (4 * k) A → Env0 l.prog w K mg base A outer s H → BindsTo s fd args ([os x].zip us) → Vals [.ref a] us → ns.length ≤ n →
        (∀ m ∈ T.lams, H (He.cT K (os m, none)).2 = some (.tbl #[])) → ((∃ o, H a = some (.frz o (.lst (ns.map V.int)))) ∨ KSeq K a (ns.map V.int)) → (∀ H', Q (.bl true) H') → codeAny (model l.prog w) A (.call (.ref (He.fAd K (atOf r))) args) (CR L2.CX0 outer l.prog w H s Q E) s := by
      intro A outer s H args us Q E a ns hr' e0 hb hv hl hT hS hQ
      refine F0.run A outer s H args us [.ref a] Q E hr' e0 hb hv ⟨[.frz ns], fun _ => none, fun d _ => d = .bl true, WF, RepL.cons (by simp only [RepV]; exact ⟨a, rfl, hS⟩) RepL.nil, ⟨fun a o h => (nomatch (h : (none : Option DO) = some o)), fun p hp => (by cases hp), fun p hp => ?_⟩, ?_, fun d S' v H' h _ r _ => ?_, fun _ _ _ _ _ h => False.elim h⟩
      · obtain ⟨m, h1, rfl⟩ := List.mem_map.mp hp
        exact ⟨rfl, #[], hT m h1, True.intro, fun pos cv hcv => by
          have z : codeAmong pos [] = some cv := hcv
          simp [codeAmong] at z⟩
      · rw [hc]; exact spec ns hl
      · subst h; simp only [RepV] at r; subst r; exact hQ H'
    refine ⟨fun vs H Q E h => ?_, fun A outer s H args us vs Q E hr' e0 hb hv h => ?_⟩
    · obtain ⟨⟨a, ns, rfl, _⟩, _⟩ := h; rfl
    · obtain ⟨⟨a, ns, rfl, hl, hT, hS⟩, hQ⟩ := h
      rcases hS with hS | hS
      · rcases hS with hS | ⟨o, hS⟩
        · -- an open list: it is taken as a frozen one
          obtain ⟨z, its, m, rv, ho⟩ := (show ObjOk l.prog w H s.heap a (.lst (ns.map V.int)) from e0.hok a _ hS)
          have ne : ∀ {b : Addr} {u : HO}, H b = some u → (∀ xs, u ≠ .lst xs) → b ≠ a := fun {b u} q1 q2 q3 => by
            subst q3; rw [hS] at q1; cases q1; exact q2 _ rfl
          have nn : ∀ {b : Addr}, H b = none → b ≠ a := fun {b} q1 q2 => by subst q2; rw [hS] at q1; cases q1
          have hok' : HOk l.prog w (upd H a (.frz _ (.lst (ns.map V.int)))) s.heap := fun b u q => by
            by_cases hb : b = a
            · subst hb
              rw [upd_same] at q
              cases q
              exact ⟨ho, z, its, m, rv, ho⟩
            · rw [upd_ne hb] at q
              exact (e0.hok b u q).stay (fun _ _ _ y => y) (fun d y => by rw [upd_ne (ne y (fun xs z => by cases z))]; exact y) fun d xs y => by rw [upd_ne (ne y (fun xs z => by cases z))]; exact y
          have e1 : Env0 l.prog w K mg base A outer s (upd H a (.frz _ (.lst (ns.map V.int)))) := ⟨e0.frames, e0.mod, fun b o q => ⟨(e0.bs b o q).1, by rw [upd_ne (nn (e0.bs b o q).2)]; exact (e0.bs b o q).2⟩, e0.bsz, e0.funs, fun b q => by rw [upd_ne (nn (e0.frf b q))]; exact e0.frf b q, hok', e0.bare⟩
          refine codeAny_mono (go (Q := Q) (E := E) hr' e1 hb hv hl (fun m hm => by rw [upd_ne (ne (hT m hm) (fun xs z => by cases z))]; exact hT m hm) (.inl ⟨_, upd_same⟩) hQ) fun r s' g => ?_
          match r, g with
          | .ok (.ret u), g =>
            obtain ⟨v, H', q1, q2, un, q4, q5, q6⟩ := g
            exact ⟨v, H', q1, q2, ⟨fun b o y n => un.keep b o y (by rw [upd_ne (nn n)]; exact n), fun b o y n => un.slot b o y (by rw [upd_ne (nn n)]; exact n), fun b o y n => un.free b o y (by rw [upd_ne (nn n)]; exact n), un.there,
              fun b xs y => un.tups b xs (by rw [upd_ne (ne y (fun xs z => by cases z))]; exact y), fun b o u y => un.frzs b o u (by rw [upd_ne (ne y (fun xs z => by cases z))]; exact y), fun b ps y => un.tbls b ps (by rw [upd_ne (ne y (fun xs z => by cases z))]; exact y)⟩, q4, q5, q6⟩
          | .error e, g => exact False.elim g
        · exact go hr' e0 hb hv hl hT (.inl ⟨o, hS⟩) hQ
      · exact go hr' e0 hb hv hl hT (.inr hS) hQ

/-! ### the hook: the statics' table is told, too -/
def asY (n : Nat) (g : Addr → Option Obj) : List Addr := He.asD g n ++ [cStatics]
def obsY (n : Nat) (fa : List He.Fa) (fn : List He.DefD) (ts : List He.Tab) (tf : List He.Defn) (ex : PySem.W.Frag → Bool) (g : Addr → Option Obj) : He.AlX :=
  (He.obsT fa fn ts (He.frT g (asY n g)), ex (He.frT g (asY n g)) && He.tabsB g tf (He.frT g (asY n g)))
theorem saysY {n : Nat} {fa : List He.Fa} {fn : List He.DefD} {ts : List He.Tab} {tf : List He.Defn} {ex : PySem.W.Frag → Bool} {w : World} {h : Heap} (e : obsY n fa fn ts tf ex h.get? = He.valX fn ts w) :
    He.SaysX fa fn ts tf ex w h (He.frT h.get? (asY n h.get?)) := by
  have e2 : (ex (He.frT h.get? (asY n h.get?)) && He.tabsB h.get? tf (He.frT h.get? (asY n h.get?))) = true := congrArg Prod.snd e
  rw [Bool.and_eq_true] at e2
  have kk : ∀ p ∈ tf, PySem.W.codeHdIn (He.frT h.get? (asY n h.get?)) (He.cT (He.frT h.get? (asY n h.get?)) p).1 (He.cT (He.frT h.get? (asY n h.get?)) p).2 = true ∧ ∃ o, h.get? (He.cT (He.frT h.get? (asY n h.get?)) p).2 = some o ∧ He.emptyTab o = true := by
    intro p hp
    have h3 := List.all_eq_true.mp e2.2 p hp
    rw [Bool.and_eq_true] at h3
    refine ⟨h3.1, ?_⟩
    have h4 := h3.2
    split at h4
    · rename_i o ho
      exact ⟨o, ho, h4⟩
    · cases h4
  refine ⟨congrArg Prod.fst e, e2.1, fun p hp => (kk p hp).1, fun p hp => ?_, fun p hp => ?_⟩
  · obtain ⟨_, o, q, z⟩ := kk p hp
    exact He.frT_none q z
  · obtain ⟨_, o, q, z⟩ := kk p hp
    rw [q, He.emptyTab_eq z]
def hookY (n : Nat) (fa : List He.Fa) (fn : List He.DefD) (ts : List He.Tab) (tf : List He.Defn) (ex : PySem.W.Frag → Bool) : PySem.W.Hook where
  α := He.AlX
  obs := fun s => obsY n fa fn ts tf ex s.heap.get?
  val := fun w => He.valX fn ts w
  says := fun w h => ∃ K : PySem.W.Frag, K.In h ∧ He.SaysX fa fn ts tf ex w h K
  of := fun _ _ e => ⟨_, He.frT_in, saysY e⟩
  keeps := fun _ _ _ ⟨K, hK, c⟩ k => ⟨K, PySem.W.Frag.In.keeps hK k, c.t, c.more, c.hd, c.out, fun p hp => k _ _ (c.empty p hp)⟩
theorem obsY_eq {n : Nat} {fa : List He.Fa} {fn : List He.DefD} {ts : List He.Tab} {tf : List He.Defn} {ex : PySem.W.Frag → Bool} {g : Addr → Option Obj} {s : Shared} (h : ∀ a, g a = s.heap.get? a) : obsY n fa fn ts tf ex g = (hookY n fa fn ts tf ex).obs s := by
  rw [show g = s.heap.get? from funext h]
  rfl
end Nf
/-! NfT: the language once more, over trees: frozen lists are trees, what is changed has a number. What this promises, NfSem's wishes keep (NfTs). -/
set_option linter.all false
namespace Nf
inductive Tv where
  | non | bl (b : Bool) | int (i : Int) | str (s : String) | ty (n : String) | cls (n : String)
  | frz (ns : List Int) | tup (vs : List Tv) | lst (vs : List Tv) | obj (i : Nat)
  deriving Inhabited
mutual
def Tv.beq : Tv → Tv → Bool
  | .non, .non => true
  | .bl a, .bl b => a == b
  | .int a, .int b => a == b
  | .str a, .str b => a == b
  | .ty a, .ty b => a == b
  | .cls a, .cls b => a == b
  | .obj a, .obj b => a == b
  | .frz a, .frz b => a == b
  | .tup a, .tup b => Tv.beqL a b
  | .lst a, .lst b => Tv.beqL a b
  | _, _ => false
def Tv.beqL : List Tv → List Tv → Bool
  | [], [] => true
  | a :: as, b :: bs => Tv.beq a b && Tv.beqL as bs
  | _, _ => false
end
mutual
theorem Tv.beq_refl : ∀ a : Tv, Tv.beq a a = true
  | .non => rfl
  | .bl a => by simp [Tv.beq]
  | .int a => by simp [Tv.beq]
  | .str a => by simp [Tv.beq]
  | .ty a => by simp [Tv.beq]
  | .cls a => by simp [Tv.beq]
  | .obj a => by simp [Tv.beq]
  | .frz a => by simp [Tv.beq]
  | .tup a => by simp only [Tv.beq]; exact Tv.beqL_refl a
  | .lst a => by simp only [Tv.beq]; exact Tv.beqL_refl a
theorem Tv.beqL_refl : ∀ a : List Tv, Tv.beqL a a = true
  | [] => rfl
  | a :: as => by simp only [Tv.beqL, Tv.beq_refl a, Tv.beqL_refl as, Bool.and_self]
end
mutual
theorem Tv.eq_of_beq : ∀ a b : Tv, Tv.beq a b = true → a = b
  | .non, b, h => by cases b <;> simp_all [Tv.beq]
  | .bl a, b, h => by cases b <;> simp_all [Tv.beq]
  | .int a, b, h => by cases b <;> simp_all [Tv.beq]
  | .str a, b, h => by cases b <;> simp_all [Tv.beq]
  | .ty a, b, h => by cases b <;> simp_all [Tv.beq]
  | .cls a, b, h => by cases b <;> simp_all [Tv.beq]
  | .obj a, b, h => by cases b <;> simp_all [Tv.beq]
  | .frz a, b, h => by cases b <;> simp_all [Tv.beq]
  | .tup a, b, h => by
    cases b with
    | tup b => simp only [Tv.beq] at h; rw [Tv.eqL_of_beqL a b h]
    | _ => simp [Tv.beq] at h
  | .lst a, b, h => by
    cases b with
    | lst b => simp only [Tv.beq] at h; rw [Tv.eqL_of_beqL a b h]
    | _ => simp [Tv.beq] at h
theorem Tv.eqL_of_beqL : ∀ a b : List Tv, Tv.beqL a b = true → a = b
  | [], b, h => by cases b <;> simp_all [Tv.beqL]
  | a :: as, b, h => by
    cases b with
    | nil => simp [Tv.beqL] at h
    | cons b bs =>
      simp only [Tv.beqL, Bool.and_eq_true] at h
      rw [Tv.eq_of_beq a b h.1, Tv.eqL_of_beqL as bs h.2]
end
instance : DecidableEq Tv := fun a b => if h : Tv.beq a b = true then .isTrue (Tv.eq_of_beq a b h) else .isFalse fun e => h (e ▸ Tv.beq_refl a)

/-- what has a number -/
inductive To where
  | lst (vs : List Tv) | dic (kvs : List (Tv × Tv)) | fdc (kvs : List (Tv × Tv)) | set (ns : List Int) | ins (c : String) (fs : List (String × Tv)) | dead
abbrev Hs := List To
abbrev Tq := Tv → Hs → Prop
structure Tx where
  cls : String
  val : Option (String × Tv) := none
abbrev Tw := Tx → Hs → Prop
abbrev Tenv := String → String → List Tv → Hs → Tq → Tw → Prop
abbrev Tst := List (Option Tv)
def asTB (d : Tv) (k : Bool → Prop) : Prop := match d with | .bl b => k b | _ => False
def asTI (d : Tv) (k : Int → Prop) : Prop := match d with | .int i => k i | _ => False
def getT (δ : Tst) (i : Nat) (k : Tv → Prop) : Prop := match δ[i]? with | some (some d) => k d | _ => False
/-- a new list: frozen, or numbered -/
def tAl (m : Bool) (vs : List Tv) (h : Hs) (Q : Tq) : Prop := match m with
  | true => Q (.obj h.length) (h ++ [.lst vs])
  | false => Q (.lst vs) h
def newO (o : To) (h : Hs) (Q : Tq) : Prop := Q (.obj h.length) (h ++ [o])
/-- a list's items -/
def lsOf (h : Hs) : Tv → Option (List Tv)
  | .lst vs => some vs
  | .obj i => (match h[i]? with | some (.lst vs) => some vs | _ => none)
  | _ => none
def atL {α : Type} (xs : List α) (j : Int) (k : α → Prop) : Prop := match ixN xs.length j with
  | some n => (match xs[n]? with | some x => k x | none => False)
  | none => False
/-- read to a depth -/
def trT (h : Hs) : Nat → Tv → Option T
  | _, .non => some .non
  | _, .bl b => some (.bl b)
  | _, .int i => some (.int i)
  | _, .str s => some (.str s)
  | n + 1, .tup ds => (optL (ds.map (trT h n))).map .tup
  | n + 1, .frz ns => some (.lst (ns.map .int))
  | n + 1, .lst ds => (optL (ds.map (trT h n))).map .lst
  | n + 1, .obj a => match h[a]? with
    | some (.lst ds) => (optL (ds.map (trT h n))).map .lst
    | _ => none
  | _, _ => none
def tEq (h : Hs) (a b : Tv) (k : Bool → Prop) : Prop := match trT h deep a, trT h deep b with | some x, some y => k (eqT x y) | _, _ => False
mutual
def Tv.key : Nat → Tv → Bool
  | _, .int _ => true
  | _, .str _ => true
  | n + 1, .tup ds => Tv.keyL n ds
  | _, _ => false
def Tv.keyL : Nat → List Tv → Bool
  | _, [] => true
  | n, d :: ds => Tv.key n d && Tv.keyL n ds
end
def Tv.flatKey : Tv → Bool
  | .int _ => true
  | .str _ => true
  | _ => false
def Tv.tupKey : Tv → Bool
  | .tup ds => Tv.key 6 (.tup ds)
  | _ => false
def Tv.flat : Tv → Bool
  | .non => true
  | .bl _ => true
  | .int _ => true
  | .str _ => true
  | _ => false
def Tv.isInt : Tv → Bool
  | .int _ => true
  | _ => false
def Tv.isStr : Tv → Bool
  | .str _ => true
  | _ => false
def Tv.isPair : Tv → Bool
  | .tup [.int _, .int _] => true
  | _ => false
def Tv.isNon : Tv → Bool
  | .non => true
  | _ => false
def tKeysOk (k : Tv) (kvs : List (Tv × Tv)) : Prop := (k.flatKey = true ∧ ∀ p ∈ kvs, p.1.flatKey = true) ∨ (k.tupKey = true ∧ ∀ p ∈ kvs, p.1.tupKey = true)
def tKeysAll (kvs : List (Tv × Tv)) : Prop := (∀ p ∈ kvs, p.1.flatKey = true) ∨ (∀ p ∈ kvs, p.1.tupKey = true)
def tLook (kvs : List (Tv × Tv)) (k : Tv) : Option Tv := (kvs.find? fun p => decide (p.1 = k)).map (·.2)
def tHas (kvs : List (Tv × Tv)) (k : Tv) : Bool := (tLook kvs k).isSome
def tUpd1 (k v : Tv) (p : Tv × Tv) : Tv × Tv := if p.1 = k then (p.1, v) else p
def tPut (kvs : List (Tv × Tv)) (k v : Tv) : List (Tv × Tv) := if tHas kvs k then kvs.map (tUpd1 k v) else kvs ++ [(k, v)]
def tDrop (kvs : List (Tv × Tv)) (k : Tv) : List (Tv × Tv) := kvs.filter fun p => decide (p.1 ≠ k)
def tMerge (kvs : List (Tv × Tv)) : List (Tv × Tv) → List (Tv × Tv)
  | [] => kvs
  | (k, v) :: ps => tMerge (tPut kvs k v) ps
def tPairs : List Tv → Option (List (Tv × Tv))
  | [] => some []
  | .tup [k, v] :: ds => (tPairs ds).map ((k, v) :: ·)
  | _ => none
def tPairUp : List Tv → Option (List (Tv × Tv))
  | [] => some []
  | k :: v :: ds => (tPairUp ds).map ((k, v) :: ·)
  | _ => none
mutual
def ltT : Tv → Tv → Bool
  | .int i, .int j => decide (i < j)
  | .str x, .str y => decide (x.toList.map Char.toNat < y.toList.map Char.toNat)
  | .tup xs, .tup ys => ltTs xs ys
  | _, _ => false
def ltTs : List Tv → List Tv → Bool
  | [], [] => false
  | [], _ :: _ => true
  | _ :: _, [] => false
  | x :: xs, y :: ys => if x = y then ltTs xs ys else ltT x y
end
def tSortable (xs : List Tv) : Prop := (∀ x ∈ xs, x.isInt = true) ∨ (∀ x ∈ xs, x.isPair = true)
def tSorted (xs : List Tv) : Prop := xs.Pairwise fun a b => ltT b a = false
def tStrs : List Tv → Option (List String)
  | [] => some []
  | .str s :: ds => (tStrs ds).map (s :: ·)
  | _ => none
def tInts : List Tv → Option (List Int)
  | [] => some []
  | .int s :: ds => (tInts ds).map (s :: ·)
  | _ => none

/-! ### operators -/
def tCat (m : Bool) (xs ys : Option (List Tv)) (h : Hs) (Q : Tq) : Prop := match xs, ys with
  | some xs, some ys => xs.length + ys.length ≤ szLine ∧ tAl m (xs ++ ys) h Q
  | _, _ => False
def tAdd (m : Bool) (x y : Tv) (h : Hs) (Q : Tq) : Prop := match x, y with
  | .int i, .int j => Q (.int (i + j)) h
  | .str a, .str b => a.length + b.length ≤ szLine ∧ Q (.str (a ++ b)) h
  | .tup a, .tup b => a.length ≤ szLine ∧ b.length ≤ szLine ∧ a.length + b.length ≤ szLine ∧ Q (.tup (a ++ b)) h
  | .lst a, .lst b => tCat m (some a) (some b) h Q
  | .lst a, .obj j => tCat m (some a) (lsOf h (.obj j)) h Q
  | .obj i, .lst b => tCat m (lsOf h (.obj i)) (some b) h Q
  | .obj i, .obj j => tCat m (lsOf h (.obj i)) (lsOf h (.obj j)) h Q
  | _, _ => False
def tBin (m : Bool) (op : BOp) (x y : Tv) (h : Hs) (Q : Tq) : Prop := match op with
  | .add => tAdd m x y h Q
  | .sub => asTI x fun i => asTI y fun j => Q (.int (i - j)) h
  | .mul => (match x, y with
    | .int i, .int j => (i.natAbs < 2 ^ 64 ∨ j.natAbs < 2 ^ 64) ∧ Q (.int (i * j)) h
    | .lst xs, .int k => k < 2 ^ 62 ∧ -(2 ^ 62) < k ∧ xs.length * k.toNat ≤ szLine ∧ tAl m (List.replicate k.toNat xs).flatten h Q
    | _, _ => False)
  | .fdiv => asTI x fun i => asTI y fun j => 0 < j ∧ j < 2 ^ 1000 ∧ Q (.int (i / j)) h
  | .mod => asTI x fun i => asTI y fun j => 0 < j ∧ Q (.int (i % j)) h
  | .pow => asTI x fun i => asTI y fun j => 0 ≤ j ∧ j ≤ 1000 ∧ i.natAbs < 2 ^ 64 ∧ Q (.int (i ^ j.toNat)) h
def eqFT : Tv → Tv → Bool
  | .non, .non => true
  | .bl a, .bl b => a == b
  | .bl a, .int b => (if a then 1 else 0) == b
  | .int a, .bl b => a == (if b then 1 else 0)
  | .int a, .int b => a == b
  | .str a, .str b => a == b
  | _, _ => false
def tInL (x : Tv) (xs : Option (List Tv)) (h : Hs) (k : Bool → Prop) : Prop := match xs with
  | some xs => (match trT h deep x, optL (xs.map (trT h deep)) with
    | some t, some ts => k (ts.any fun u => eqT u t)
    | _, _ => False)
  | none => False
def tIn (x y : Tv) (h : Hs) (k : Bool → Prop) : Prop := match y with
  | .tup ds => x.flat = true ∧ ds.all Tv.flat = true ∧ k (ds.any fun u => eqFT u x)
  | .str s => (match x with
    | .str c => (match c.toList with
      | [ch] => k (decide (ch ∈ s.toList))
      | _ => False)
    | _ => False)
  | .lst vs => tInL x (some vs) h k
  | .obj a => (match h[a]? with
    | some (.lst vs) => tInL x (some vs) h k
    | some (.dic kvs) => tKeysOk x kvs ∧ k (tHas kvs x)
    | some (.fdc kvs) => tKeysOk x kvs ∧ k (tHas kvs x)
    | _ => False)
  | _ => False
def tCmp (op : COp) (x y : Tv) (h : Hs) (k : Bool → Prop) : Prop := match op with
  | .eq => tEq h x y k
  | .ne => tEq h x y fun b => k (!b)
  | .lt => asTI x fun i => asTI y fun j => k (decide (i < j))
  | .le => asTI x fun i => asTI y fun j => k (decide (i ≤ j))
  | .gt => asTI x fun i => asTI y fun j => k (decide (j < i))
  | .ge => asTI x fun i => asTI y fun j => k (decide (j ≤ i))
  | .inn => tIn x y h k
  | .nin => tIn x y h fun b => k (!b)
  | .is => y.isNon = true ∧ k x.isNon
  | .isn => y.isNon = true ∧ k (!x.isNon)
def tIx (x i : Tv) (h : Hs) (Q : Tq) : Prop := match x with
  | .tup ds => asTI i fun j => atL ds j fun d => Q d h
  | .frz ds => asTI i fun j => atL ds j fun d => Q (.int d) h
  | .str s => s.length ≤ szLine ∧ asTI i fun j => atL s.toList j fun c => Q (.str (String.ofList [c])) h
  | .lst ds => asTI i fun j => atL ds j fun d => Q d h
  | .obj a => (match h[a]? with
    | some (.lst ds) => asTI i fun j => atL ds j fun d => Q d h
    | some (.dic kvs) => tKeysOk i kvs ∧ (match tLook kvs i with | some d => Q d h | none => False)
    | some (.fdc kvs) => tKeysOk i kvs ∧ (match tLook kvs i with | some d => Q d h | none => False)
    | _ => False)
  | _ => False
def asTO (d : Option Tv) (k : Option Int → Prop) : Prop := match d with
  | none => k none
  | some (.int i) => k (some i)
  | _ => False
def tSlc (m : Bool) (x : Tv) (lo hi : Option Tv) (h : Hs) (Q : Tq) : Prop := asTO lo fun l => asTO hi fun r => match x with
  | .tup ds => Q (.tup (cutL ds l r)) h
  | .str s => s.length ≤ szLine ∧ Q (.str (cutS s l r)) h
  | .lst vs => tAl m (cutL vs l r) h Q
  | .obj a => (match h[a]? with
    | some (.lst vs) => tAl m (cutL vs l r) h Q
    | _ => False)
  | _ => False
def tRev (m : Bool) (x : Tv) (h : Hs) (Q : Tq) : Prop := match lsOf h x with
  | some vs => tAl m vs.reverse h Q
  | none => False
def isTyT (h : Hs) (d : Tv) (n : String) : Option Bool := match d with
  | .non => some (decide (n = "NoneType"))
  | .bl _ => some (decide (n = "bool" ∨ n = "int"))
  | .int _ => some (decide (n = "int"))
  | .str _ => some (decide (n = "str"))
  | .tup _ => some (decide (n = "tuple"))
  | .frz _ => some (decide (n = "list"))
  | .lst _ => some (decide (n = "list"))
  | .obj a => (match h[a]? with
    | some (.lst _) => some (decide (n = "list"))
    | _ => none)
  | _ => none
def tIsi (x t : Tv) (h : Hs) (k : Bool → Prop) : Prop := match t with
  | .ty n => n ∈ ["int", "bool", "str", "tuple", "list"] ∧ (match isTyT h x n with | some b => k b | none => False)
  | .tup [.ty n, .ty m] => (n ∈ ["int", "bool", "str", "tuple", "list"] ∧ m ∈ ["int", "bool", "str", "tuple", "list"]) ∧ (match isTyT h x n, isTyT h x m with | some b, some c => k (b || c) | _, _ => False)
  | _ => False
def tLen (x : Tv) (h : Hs) (Q : Tq) : Prop := match x with
  | .str s => s.length ≤ szLine ∧ Q (.int s.length) h
  | .tup xs => Q (.int xs.length) h
  | .frz xs => Q (.int xs.length) h
  | .lst xs => Q (.int xs.length) h
  | .obj a => (match h[a]? with
    | some (.lst xs) => Q (.int xs.length) h
    | some (.dic xs) => Q (.int xs.length) h
    | some (.fdc xs) => Q (.int xs.length) h
    | _ => False)
  | _ => False
def tList (m : Bool) (x : Tv) (h : Hs) (Q : Tq) : Prop := match x with
  | .tup xs => tAl m xs h Q
  | .frz xs => tAl m (xs.map .int) h Q
  | .lst xs => tAl m xs h Q
  | .obj a => (match h[a]? with
    | some (.lst xs) => tAl m xs h Q
    | _ => False)
  | _ => False
def tTuple (x : Tv) (h : Hs) (Q : Tq) : Prop := match x with
  | .tup xs => Q (.tup xs) h
  | .lst xs => Q (.tup xs) h
  | .obj a => (match h[a]? with
    | some (.lst xs) => Q (.tup xs) h
    | _ => False)
  | _ => False
def tSorted1 (m : Bool) (xs : List Tv) (h : Hs) (Q : Tq) : Prop := tSortable xs ∧ ∀ ys, ys.Perm xs → tSorted ys → tAl m ys h Q
def tSort (m : Bool) (x : Tv) (h : Hs) (Q : Tq) : Prop := match x with
  | .lst xs => tSorted1 m xs h Q
  | .obj a => (match h[a]? with
    | some (.lst xs) => tSorted1 m xs h Q
    | some (.dic kvs) => ((∀ p ∈ kvs, p.1.isPair = true) ∧ ∀ ys, ys.Perm (kvs.map (·.1)) → tSorted ys → tAl m ys h Q) ∨
        ((∀ p ∈ kvs, p.1.isStr = true) ∧ kvs.length < 60 ∧ ∀ ys, ys.Perm (kvs.map (·.1)) → tAl m ys h Q)
    | some (.set ns) => ns.length < 60 ∧ ∀ ys : List Int, ys.Pairwise (· < ·) → (∀ i, i ∈ ys ↔ i ∈ ns) → tAl m (ys.map .int) h Q
    | _ => False)
  | _ => False
def tBi (m : Bool) (f : BI) (ds : List Tv) (h : Hs) (Q : Tq) : Prop := match f, ds with
  | .len, [x] => tLen x h Q
  | .int, [x] => (match x with
    | .int i => Q (.int i) h
    | .bl b => Q (.int (if b then 1 else 0)) h
    | .str s => (match intOf s with | some i => Q (.int i) h | none => False)
    | _ => False)
  | .str, [x] => (match x with
    | .int i => i.natAbs < 2 ^ 64 ∧ Q (.str (toString i)) h
    | .str s => Q (.str s) h
    | _ => False)
  | .list, [x] => tList m x h Q
  | .tuple, [x] => tTuple x h Q
  | .dict, [x] => (match lsOf h x with
    | some xs => (match tPairs xs with | some ps => tKeysAll ps ∧ ps.length ≤ szLine ∧ newO (.dic (tMerge [] ps)) h Q | none => False)
    | none => False)
  | .set, [x] => (match lsOf h x with
    | some xs => (match tInts xs with | some ns => xs.length < 4000 ∧ newO (.set ns) h Q | none => False)
    | none => False)
  | .sorted, [x] => tSort m x h Q
  | .min, [x, y] => asTI x fun i => asTI y fun j => Q (.int (if j < i then j else i)) h
  | .max, [x, y] => asTI x fun i => asTI y fun j => Q (.int (if i < j then j else i)) h
  | .min, [x] => (match lsOf h x with
    | some xs => xs ≠ [] ∧ (∀ x ∈ xs, x.isInt = true) ∧ ∀ m, m ∈ xs → (∀ x ∈ xs, ltT x m = false) → Q m h
    | none => False)
  | .max, [x] => (match lsOf h x with
    | some xs => xs ≠ [] ∧ (∀ x ∈ xs, x.isInt = true) ∧ ∀ m, m ∈ xs → (∀ x ∈ xs, ltT m x = false) → Q m h
    | none => False)
  | .isinst, [x, t] => tIsi x t h fun b => Q (.bl b) h
  | _, _ => False
def isLs (h : Hs) (x : Tv) : Prop := (lsOf h x).isSome = true
def isDc (h : Hs) (x : Tv) : Prop := match x with
  | .obj a => (match h[a]? with | some (.dic _) => True | some (.fdc _) => True | _ => False)
  | _ => False
def tLm1 (a : Nat) (xs : List Tv) (m : LM) (ds : List Tv) (h : Hs) (Q : Tq) : Prop := match m with
  | .append => (match ds with
    | [y] => xs.length < szLine ∧ Q .non (h.set a (.lst (xs ++ [y])))
    | _ => False)
  | .extend => (match ds with
    | [y] => (match lsOf h y with
      | some ys => xs.length + ys.length ≤ szLine ∧ Q .non (h.set a (.lst (xs ++ ys)))
      | none => False)
    | _ => False)
  | .pop => (match ds with
    | [.int i] => (match ixN xs.length i with
      | some n => (match xs[n]? with | some y => Q y (h.set a (.lst (xs.eraseIdx n))) | none => False)
      | none => False)
    | _ => False)
  | .remove => (match ds with
    | [.int i] => (match tInts xs with
      | some ns => i ∈ ns ∧ Q .non (h.set a (.lst ((ns.erase i).map .int)))
      | none => False)
    | _ => False)
  | .reverse => (match ds with
    | [] => Q .non (h.set a (.lst xs.reverse))
    | _ => False)
  | .clear => (match ds with
    | [] => Q .non (h.set a (.lst []))
    | _ => False)
  | .index => False
def tIdx (xs : List Tv) (ds : List Tv) (h : Hs) (Q : Tq) : Prop := match ds with
  | [y] => (match trT h deep y, optL (xs.map (trT h deep)) with
    | some t, some ts => (match ts.findIdx? fun u => eqT u t with | some n => Q (.int n) h | none => False)
    | _, _ => False)
  | _ => False
def tLm (m : LM) (d : Tv) (ds : List Tv) (h : Hs) (Q : Tq) : Prop := match m with
  | .index => (match lsOf h d with
    | some xs => tIdx xs ds h Q
    | none => False)
  | m => (match d with
    | .obj a => (match h[a]? with
      | some (.lst xs) => tLm1 a xs m ds h Q
      | _ => False)
    | _ => False)
def tGet (kvs : List (Tv × Tv)) (ds : List Tv) (h : Hs) (Q : Tq) : Prop := match ds with
  | [k] => tKeysOk k kvs ∧ Q ((tLook kvs k).getD .non) h
  | [k, v] => tKeysOk k kvs ∧ Q ((tLook kvs k).getD v) h
  | _ => False
def tDm (m : DM) (d : Tv) (ds : List Tv) (h : Hs) (Q : Tq) : Prop := match d with
  | .obj a => (match h[a]? with
    | some (.dic kvs) => (match m with
      | .get => tGet kvs ds h Q
      | .pop => (match ds with
        | [k] => tKeysOk k kvs ∧ (match tLook kvs k with | some v => Q v (h.set a (.dic (tDrop kvs k))) | none => False)
        | [k, v] => tKeysOk k kvs ∧ Q ((tLook kvs k).getD v) (h.set a (.dic (tDrop kvs k)))
        | _ => False)
      | .update => (match ds with
        | [y] => (match lsOf h y with
          | some xs => (match tPairs xs with
            | some ps => tKeysAll (kvs ++ ps) ∧ kvs.length + ps.length ≤ szLine ∧ Q .non (h.set a (.dic (tMerge kvs ps)))
            | none => False)
          | none => (match y with
            | .obj j => (match h[j]? with
              | some (.dic ps) => (∀ p ∈ kvs ++ ps, p.1.flatKey = true) ∧ kvs.length + ps.length ≤ szLine ∧ j ≠ a ∧ Q .non (h.set a (.dic (tMerge kvs ps)))
              | _ => False)
            | _ => False))
        | _ => False))
    | some (.fdc kvs) => (match m with
      | .get => tGet kvs ds h Q
      | _ => False)
    | _ => False)
  | _ => False
def tSm (w : Bool) (m : SM) (d : Tv) (ds : List Tv) (h : Hs) (Q : Tq) : Prop := match m, d, ds with
  | .split, .str s, [.str c] => (match c.toList with
    | [ch] => ch.toNat < 256 ∧ s.length + 2 ≤ szLine ∧ tAl w ((splitC ch s.toList).map fun w => .str (String.ofList w)) h Q
    | _ => False)
  | .join, .str c, [x] => (match lsOf h x with
    | some xs => (match tStrs xs with
      | some ss => (ss.map String.length).sum + ss.length * c.length ≤ szLine ∧ Q (.str (joinS c ss)) h
      | none => False)
    | none => False)
  | _, _, _ => False
def isSt : Tv → Prop
  | .str _ => True
  | _ => False
def tAttr (d : Tv) (f : String) (h : Hs) (Q : Tq) : Prop := match d with
  | .obj a => (match h[a]? with
    | some (.ins _ fs) => (match fs.lookup f with | some v => Q v h | none => False)
    | _ => False)
  | _ => False
def tPutF (f : String) (v : Tv) : List (String × Tv) → List (String × Tv)
  | [] => [(f, v)]
  | (g, u) :: r => if g = f then (f, v) :: r else (g, u) :: tPutF f v r
def tSetA (d : Tv) (f : String) (v : Tv) (h : Hs) (K : Hs → Prop) : Prop := match d with
  | .obj a => (match h[a]? with
    | some (.ins c fs) => fs.length < 100 ∧ K (h.set a (.ins c (tPutF f v fs)))
    | _ => False)
  | _ => False
def tSetI (d i v : Tv) (h : Hs) (K : Hs → Prop) : Prop := match d with
  | .obj a => (match h[a]? with
    | some (.lst xs) => asTI i fun j => (match ixN xs.length j with | some n => K (h.set a (.lst (xs.set n v))) | none => False)
    | some (.dic kvs) => tKeysOk i kvs ∧ kvs.length < szLine ∧ K (h.set a (.dic (tPut kvs i v)))
    | _ => False)
  | _ => False

/-! ### targets, walks -/
def tSetNs (δ : Tst) : List Nat → List Tv → Option Tst
  | [], [] => some δ
  | i :: is, d :: ds => tSetNs (δ.set i (some d)) is ds
  | _, _ => none
def tTg (tg : Tg) (d : Tv) (δ : Tst) (K : Tst → Prop) : Prop := match tg with
  | .v i => K (δ.set i (some d))
  | .t is => (match d with
    | .tup ds => (match tSetNs δ is ds with | some δ' => K δ' | none => False)
    | _ => False)
def tWipe (δ : Tst) : List Nat → Tst
  | [] => δ
  | i :: is => (tWipe δ is).set i none
def tOver (d : Tv) (h : Hs) (K : List Tv → Prop) : Prop := match d with
  | .tup ds => K ds
  | .frz ns => K (ns.map .int)
  | .str s => K (s.toList.map fun c => .str (String.ofList [c]))
  | .lst ds => K ds
  | .obj a => (match h[a]? with
    | some (.fdc kvs) => K (kvs.map (·.1))
    | _ => False)
  | _ => False
def tRng (lo hi : Int) (K : List Tv → Prop) : Prop := -(2 ^ 61) < lo ∧ lo < 2 ^ 61 ∧ -(2 ^ 61) < hi ∧ hi < 2 ^ 61 ∧
  K ((List.range (hi - lo).toNat).map fun k => .int (lo + (k : Nat)))
def tEnum (d : Tv) (K : List Tv → Prop) : Prop := match d with
  | .lst xs => K ((List.range xs.length).map fun k => .tup [.int (k : Nat), xs.getD k .non])
  | _ => False
def tItems (tg : Tv → (Tst → Prop) → Prop) (ts : Tst → Hs → (Bool → Hs → Prop) → Prop) (el : Tst → Hs → Tq → Prop) (K : List Tv → Hs → Prop) : List Tv → List Tv → Hs → Prop
  | [], acc, h => K acc h
  | x :: xs, acc, h => tg x fun δ => ts δ h fun b h1 =>
      if b then el δ h1 fun d h2 => acc.length < szLine ∧ tItems tg ts el K xs (acc ++ [d]) h2 else tItems tg ts el K xs acc h1
/-- a marked expression: 0: its new list gets a number; else: its numbered list is frozen -/
def tFrz (v : Tv) (h : Hs) (Q : Tq) : Prop := match v with
  | .obj i => (match h[i]? with
    | some (.lst vs) => Q (.lst vs) (h.set i .dead)
    | _ => False)
  | _ => False
def tLock (v : Tv) (h : Hs) (k : Nat → List (Tv × Tv) → Prop) : Prop := match v with
  | .obj i => (match h[i]? with
    | some (.dic kvs) => k i kvs
    | _ => False)
  | _ => False
def isFd (h : Hs) (i : Nat) (kvs : List (Tv × Tv)) : Prop := h[i]? = some (.fdc kvs)

/-- how many, of unlike pairs -/
def tLens (x : Tv) (h : Hs) (Q : Tq) : Prop := match lsOf h x with
  | some xs => (∀ x ∈ xs, x.isPair = true) ∧ xs.Nodup ∧ xs.length < 64 ∧ Q (.int xs.length) h
  | none => False
def tTget (kvs : List (String × Int)) (ds : List Tv) (h : Hs) (Q : Tq) : Prop := match ds with
  | [.str s, .int i] => Q (.int ((kvs.lookup s).getD i)) h
  | _ => False
def wordT (x : Tx) (k : Tv → Prop) : Prop :=
  (x.cls ∈ plainX ∧ k (.tup [.str x.cls, .int 0])) ∨ (x.cls = "BadRow" ∧ ∃ i : Int, x.val = some ("number", .int i) ∧ k (.tup [.str x.cls, .int i])) ∨ (x.cls = "BadText" ∧ ∃ i : Int, x.val = some ("row", .int i) ∧ k (.tup [.str x.cls, .int i]))
mutual
def tE (Ψ : Tenv) (W : Tw) (m : Bool) : ME → Tst → Hs → Tq → Prop
  | .lit d, _, h, Q => (match d with
    | .non => Q .non h
    | .bl b => Q (.bl b) h
    | .int i => Q (.int i) h
    | .str s => Q (.str s) h
    | .ty n => Q (.ty n) h
    | .cls n => Q (.cls n) h
    | _ => False)
  | .var i, δ, h, Q => getT δ i fun d => Q d h
  | .bin op a b, δ, h, Q => tE Ψ W false a δ h fun x h1 => tE Ψ W false b δ h1 fun y h2 => tBin m op x y h2 Q
  | .neg a, δ, h, Q => tE Ψ W false a δ h fun x h1 => asTI x fun i => Q (.int (-i)) h1
  | .cmp op a b, δ, h, Q => tE Ψ W false a δ h fun x h1 => tE Ψ W false b δ h1 fun y h2 => tCmp op x y h2 fun k => Q (.bl k) h2
  | .cmp2 o1 o2 a b c, δ, h, Q => tE Ψ W false a δ h fun x h1 => tE Ψ W false b δ h1 fun y h2 => tCmp o1 x y h2 fun k =>
      if k then tE Ψ W false c δ h2 fun z h3 => tCmp o2 y z h3 fun k => Q (.bl k) h3 else Q (.bl false) h2
  | .and_ a b, δ, h, Q => tE Ψ W false a δ h fun x h1 => asTB x fun c => if c then tE Ψ W false b δ h1 Q else Q (.bl false) h1
  | .or_ a b, δ, h, Q => tE Ψ W false a δ h fun x h1 => asTB x fun c => if c then Q (.bl true) h1 else tE Ψ W false b δ h1 Q
  | .not_ a, δ, h, Q => tE Ψ W false a δ h fun x h1 => asTB x fun c => Q (.bl (!c)) h1
  | .ife c a b, δ, h, Q => tE Ψ W false c δ h fun x h1 => asTB x fun k => if k then tE Ψ W m a δ h1 Q else tE Ψ W m b δ h1 Q
  | .tup es, δ, h, Q => tEs Ψ W es δ h fun ds h1 => ds.length ≤ szLine ∧ Q (.tup ds) h1
  | .lst es, δ, h, Q => tEs Ψ W es δ h fun ds h1 => ds.length ≤ szLine ∧ tAl m ds h1 Q
  | .dct es, δ, h, Q => tEs Ψ W es δ h fun ds h1 => match tPairUp ds with | some ps => (∀ p ∈ ps, p.1.flatKey = true) ∧ ps.length ≤ 15 ∧ newO (.dic (tMerge [] ps)) h1 Q | none => False
  | .attr e f, δ, h, Q => tE Ψ W false e δ h fun d h1 => tAttr d f h1 Q
  | .ix e i, δ, h, Q => tE Ψ W false e δ h fun x h1 => tE Ψ W false i δ h1 fun y h2 => tIx x y h2 Q
  | .slc e lo hi, δ, h, Q => tE Ψ W false e δ h fun x h1 => tEo Ψ W lo δ h1 fun l h2 => asTO l fun _ => tEo Ψ W hi δ h2 fun r h3 => tSlc m x l r h3 Q
  | .rev e, δ, h, Q => tE Ψ W false e δ h fun x h1 => tRev m x h1 Q
  | .call f es, δ, h, Q => tEs Ψ W es δ h fun ds h1 => Ψ "" f ds h1 Q W
  | .mk c es, δ, h, Q => tEs Ψ W es δ h fun ds h1 => Ψ c "__init__" (.obj h1.length :: ds) (h1 ++ [.ins c []]) (fun d h2 => d.isNon = true ∧ Q (.obj h1.length) h2) W
  | .bi f es, δ, h, Q => tEs Ψ W es δ h fun ds h1 => tBi m f ds h1 Q
  | .om cl e f es, δ, h, Q => tE Ψ W false e δ h fun d h1 => match d with
    | .obj a => (match h1[a]? with
      | some (.ins c fs) => c = cl ∧ fs.lookup f = none ∧ tEs Ψ W es δ h1 fun ds h2 => Ψ cl f (.obj a :: ds) h2 Q W
      | _ => False)
    | _ => False
  | .lm e f es, δ, h, Q => tE Ψ W false e δ h fun d h1 => isLs h1 d ∧ tEs Ψ W es δ h1 fun ds h2 => tLm f d ds h2 Q
  | .dm e f es, δ, h, Q => tE Ψ W false e δ h fun d h1 => isDc h1 d ∧ tEs Ψ W es δ h1 fun ds h2 => tDm f d ds h2 Q
  | .sm e f es, δ, h, Q => tE Ψ W false e δ h fun d h1 => isSt d ∧ tEs Ψ W es δ h1 fun ds h2 => tSm m f d ds h2 Q
  | .alt a b, δ, h, Q => tE Ψ W m a δ h Q ∨ tE Ψ W m b δ h Q
  | .lock e, δ, h, Q => ∃ i kvs, h[i]? = some (.dic kvs) ∧ tE Ψ (fun _ _ => False) m e δ (h.set i (.fdc kvs)) fun d h' => isFd h' i kvs ∧ Q d (h'.set i (.dic kvs))
  | .tag n a, δ, h, Q => (match n with
    | 0 => tE Ψ W true a δ h Q
    | _ + 1 => tE Ψ W false a δ h fun v h1 => tFrz v h1 Q)
  | .lens e, δ, h, Q => tE Ψ W false e δ h fun d h1 => tLens d h1 Q
  | .word e, δ, h, Q => tE Ψ (fun x h' => wordT x fun d => Q d h') m e δ h Q
  | .isE _ _, _, _, _ => False
  | .exF _ _, _, _, _ => False
  | .cnt _ _, _, _, _ => False
  | .tget _ kvs es, δ, h, Q => tEs Ψ W es δ h fun ds h1 => tTget kvs ds h1 Q
  | .lc elt tg it ifs own, δ, h, Q => tI Ψ W it δ h fun its h1 =>
      tItems (fun d K => tTg tg d (tWipe δ own) K)
        (fun δ' h' K => tEo Ψ (fun _ _ => False) ifs δ' h' fun o h2 => match o with | none => K true h2 | some d => asTB d fun b => K b h2)
        (fun δ' h' Q => tE Ψ (fun _ _ => False) false elt δ' h' Q) (fun acc h2 => tAl m acc h2 Q) its [] h1
def tEs (Ψ : Tenv) (W : Tw) : MEs → Tst → Hs → (List Tv → Hs → Prop) → Prop
  | .n, _, h, Q => Q [] h
  | .c e es, δ, h, Q => tE Ψ W false e δ h fun d h1 => tEs Ψ W es δ h1 fun ds h2 => Q (d :: ds) h2
def tEo (Ψ : Tenv) (W : Tw) : MEo → Tst → Hs → (Option Tv → Hs → Prop) → Prop
  | .n, _, h, Q => Q none h
  | .s e, δ, h, Q => tE Ψ W false e δ h fun d h1 => Q (some d) h1
def tI (Ψ : Tenv) (W : Tw) : MI → Tst → Hs → (List Tv → Hs → Prop) → Prop
  | .over e, δ, h, K => tE Ψ W false e δ h fun d h1 => tOver d h1 fun J => K J h1
  | .rng e, δ, h, K => tE Ψ W false e δ h fun d h1 => asTI d fun j => tRng 0 j fun J => K J h1
  | .rng2 a b, δ, h, K => tE Ψ W false a δ h fun x h1 => tE Ψ W false b δ h1 fun y h2 => asTI x fun i => asTI y fun j => tRng i j fun J => K J h2
  | .enum e, δ, h, K => tE Ψ W false e δ h fun d h1 => tEnum d fun J => K J h1
end

structure Te where
  nx : Tst → Hs → Prop
  rt : Tq
def tFor (tg : Tv → Tst → (Tst → Prop) → Prop) (body : Te → Tst → Hs → Prop) (E : Te) : List Tv → Tst → Hs → Prop
  | [], δ, h => E.nx δ h
  | x :: xs, δ, h => tg x δ fun δ' => body ⟨fun δ2 h2 => tFor tg body E xs δ2 h2, E.rt⟩ δ' h
def tWhl (test : Tst → Hs → (Bool → Hs → Prop) → Prop) (body : Te → Tst → Hs → Prop) (E : Te) : Nat → Tst → Hs → Prop
  | 0, _, _ => False
  | n + 1, δ, h => test δ h fun b h1 => if b then body ⟨fun δ2 h2 => tWhl test body E n δ2 h2, E.rt⟩ δ h1 else E.nx δ h1
mutual
def tS (Ψ : Tenv) (W : Tw) : MS → Te → Tst → Hs → Prop
  | .expr e, E, δ, h => tE Ψ W false e δ h fun _ h1 => E.nx δ h1
  | .set i e, E, δ, h => tE Ψ W false e δ h fun d h1 => E.nx (δ.set i (some d)) h1
  | .setA o f e, E, δ, h => tE Ψ W false e δ h fun v h1 => tE Ψ W false o δ h1 fun d h2 => tSetA d f v h2 fun h3 => E.nx δ h3
  | .setI o i e, E, δ, h => tE Ψ W false e δ h fun v h1 => tE Ψ W false o δ h1 fun d h2 => tE Ψ W false i δ h2 fun j h3 => tSetI d j v h3 fun h4 => E.nx δ h4
  | .setI2 o1 i1 o2 i2 e1 e2, E, δ, h => tE Ψ W false e1 δ h fun v1 h1 => tE Ψ W false e2 δ h1 fun v2 h2 =>
      tE Ψ W false o1 δ h2 fun d h3 => tE Ψ W false i1 δ h3 fun j h4 => tSetI d j v1 h4 fun h5 =>
      tE Ψ W false o2 δ h5 fun d h6 => tE Ψ W false i2 δ h6 fun j h7 => tSetI d j v2 h7 fun h8 => E.nx δ h8
  | .unp tg e, E, δ, h => tE Ψ W false e δ h fun d h1 => tTg tg d δ fun δ' => E.nx δ' h1
  | .par is es, E, δ, h => tEs Ψ W es δ h fun ds h1 => match tSetNs δ is ds with | some δ' => E.nx δ' h1 | none => False
  | .ret e, E, δ, h => tE Ψ W false e δ h E.rt
  | .ret0, E, _, h => E.rt .non h
  | .pass, E, δ, h => E.nx δ h
  | .ife c a b, E, δ, h => tE Ψ W false c δ h fun d h1 => asTB d fun k => if k then tSs Ψ W a E δ h1 else tSs Ψ W b E δ h1
  | .for_ tg it body, E, δ, h => tI Ψ W it δ h fun J h1 => tFor (fun d δ' K => tTg tg d δ' K) (fun E' δ' h' => tSs Ψ W body E' δ' h') E J δ h1
  | .whl c body, E, δ, h => ∃ n, tWhl (fun δ' h' K => tE Ψ W false c δ' h' fun d h1 => asTB d fun b => K b h1) (fun E' δ' h' => tSs Ψ W body E' δ' h') E n δ h
  | .raise c, _, _, h => W ⟨c, none⟩ h
  | .never, _, _, _ => False
  | .frz i s, E, δ, h => getT δ i fun v => tFrz v h fun v' h' => tS Ψ W s E (δ.set i (some v')) h'
  | .tryR e d, E, δ, h => (match d with
    | .str s => tE Ψ (fun x h' => x.cls ∈ newsX ∧ E.rt (.str s) h') false e δ h E.rt
    | _ => False)
  | .raise1 c f e, _, δ, h => tE Ψ W false e δ h fun d h1 => W ⟨c, some (f, d)⟩ h1
  | .lock s, E, δ, h => ∃ i kvs, h[i]? = some (.dic kvs) ∧ tS Ψ (fun _ _ => False) s ⟨fun δ' h' => isFd h' i kvs ∧ E.nx δ' (h'.set i (.dic kvs)), fun v h' => isFd h' i kvs ∧ E.rt v (h'.set i (.dic kvs))⟩ δ (h.set i (.fdc kvs))
def tSs (Ψ : Tenv) (W : Tw) : MSs → Te → Tst → Hs → Prop
  | .n, E, δ, h => E.nx δ h
  | .c s ss, E, δ, h => tS Ψ W s ⟨fun δ' h' => tSs Ψ W ss E δ' h', E.rt⟩ δ h
end

/-! ### programs; what is left behind is dropped -/
mutual
def Tv.clos (n : Nat) : Tv → Bool
  | .obj i => decide (i < n)
  | .tup vs => Tv.closL n vs
  | .lst vs => Tv.closL n vs
  | _ => true
def Tv.closL (n : Nat) : List Tv → Bool
  | [] => true
  | v :: vs => Tv.clos n v && Tv.closL n vs
end
def To.clos (n : Nat) : To → Prop
  | .lst vs => Tv.closL n vs = true
  | .dic kvs => ∀ p ∈ kvs, p.2.clos n = true
  | .fdc kvs => ∀ p ∈ kvs, p.2.clos n = true
  | .ins _ fs => ∀ p ∈ fs, p.2.clos n = true
  | _ => True
/-- the heap behind a call, what was made there and isn't told left out -/
def Swept (h h' h2 : Hs) : Prop := (∃ g, h' = h2 ++ g) ∧ h.length ≤ h2.length ∧ ∀ (j : Nat) (o : To), h2[j]? = some o → h[j]? = some o ∨ o.clos h2.length
def gcQ (h : Hs) (Q : Tq) : Tq := fun v h' => Q v h' ∨ ∃ h2, Swept h h' h2 ∧ v.clos h2.length = true ∧ Q v h2
def gcW (h : Hs) (W : Tw) : Tw := fun x h' => W x h' ∨ ∃ h2, Swept h h' h2 ∧ (∀ p, x.val = some p → p.2.clos h2.length = true) ∧ W x h2
def trun (P : Prg) : Nat → Tenv
  | 0, _, _, _, _, _, _ => False
  | k + 1, c, f, args, h, Q, W => match P.lookup (c, f) with
    | some m => args.length = m.ar ∧ tSs (trun P k) (gcW h W) m.body ⟨fun _ h' => gcQ h Q .non h', gcQ h Q⟩ (args.map some ++ List.replicate (m.sl - m.ar) none) h
    | none => False
end Nf
/-! NfTs: what NfT's trees promise, NfSem's wishes keep: readings, and the operators. -/
set_option linter.all false
set_option maxHeartbeats 0
namespace Nf
/-- the frozen part, where the numbered things stand -/
structure Fr0 where
  F : Store
  r : List Nat
/-- and the store -/
structure Wd extends Fr0 where
  S : Store
mutual
def Rd (g : Fr0) : D → Tv → Prop
  | d, .non => d = .non
  | d, .bl b => d = .bl b
  | d, .int i => d = .int i
  | d, .str s => d = .str s
  | d, .ty s => d = .ty s
  | d, .cls s => d = .cls s
  | d, .frz ns => d = .frz ns
  | d, .tup vs => ∃ ds, d = .tup ds ∧ RdL g ds vs
  | d, .lst vs => ∃ a ds, d = .ref a ∧ g.F a = some (.lst ds) ∧ RdL g ds vs
  | d, .obj i => ∃ a, g.r[i]? = some a ∧ d = .ref a
def RdL (g : Fr0) : List D → List Tv → Prop
  | ds, [] => ds = []
  | ds, v :: vs => ∃ d ds', ds = d :: ds' ∧ Rd g d v ∧ RdL g ds' vs
end
/-! keys: data that are what they are -/
mutual
def Tv.toD : Tv → Option D
  | .non => some .non
  | .bl b => some (.bl b)
  | .int i => some (.int i)
  | .str s => some (.str s)
  | .tup vs => (Tv.toDs vs).map .tup
  | _ => none
def Tv.toDs : List Tv → Option (List D)
  | [] => some []
  | v :: vs => match Tv.toD v, Tv.toDs vs with | some d, some ds => some (d :: ds) | _, _ => none
end
def RdA (g : Fr0) {α : Type} : List (α × D) → List (α × Tv) → Prop
  | ds, [] => ds = []
  | ds, (k, v) :: r => ∃ d ds', ds = (k, d) :: ds' ∧ Rd g d v ∧ RdA g ds' r
def RdK (g : Fr0) : List (D × D) → List (Tv × Tv) → Prop
  | ds, [] => ds = []
  | ds, (k, v) :: r => ∃ kd d ds', ds = (kd, d) :: ds' ∧ k.toD = some kd ∧ Rd g d v ∧ RdK g ds' r
def RdO (g : Fr0) (o' : DO) : To → Prop
  | .lst vs => ∃ ds, o' = .lst ds ∧ RdL g ds vs
  | .dic kvs => ∃ ds, o' = .dic ds ∧ RdK g ds kvs
  | .fdc kvs => ∃ ds, o' = .fdc ds ∧ RdK g ds kvs
  | .set ns => o' = .set (ns.map .int)
  | .ins c fs => ∃ ds, o' = .ins c ds ∧ RdA g ds fs
  | .dead => True
structure Rel (g : Wd) (h : Hs) : Prop where
  le : Le g.F g.S
  len : g.r.length = h.length
  nd : g.r.Nodup
  ob : ∀ (i : Nat) (o : To), h[i]? = some o → ∃ a o', g.r[i]? = some a ∧ g.S a = some o' ∧ RdO g.toFr0 o' o ∧ (o ≠ .dead → g.F a = none)
structure Gf (g g' : Fr0) : Prop where
  le : Le g.F g'.F
  pre : g.r <+: g'.r
structure Gr (g g' : Wd) : Prop extends Gf g.toFr0 g'.toFr0 where
  lk : ∀ a kvs, g.S a = some (.fdc kvs) → g'.S a = some (.fdc kvs)
theorem Gr.refl (g : Wd) : Gr g g := ⟨⟨Le.refl _, List.prefix_refl _⟩, fun _ _ h => h⟩
theorem Gr.trans {a b c : Wd} (x : Gr a b) (y : Gr b c) : Gr a c := ⟨⟨x.le.trans y.le, x.pre.trans y.pre⟩, fun p k h => y.lk p k (x.lk p k h)⟩
theorem Gf.get {g g' : Fr0} (x : Gf g g') {i a : Nat} (h : g.r[i]? = some a) : g'.r[i]? = some a := by
  obtain ⟨t, e⟩ := x.pre
  rw [← e, List.getElem?_append_left (List.getElem?_eq_some_iff.mp h).1]
  exact h
mutual
theorem Rd.gf {g g' : Fr0} (x : Gf g g') : ∀ {v : Tv} {d : D}, Rd g d v → Rd g' d v
  | .non, _, h => h
  | .bl _, _, h => h
  | .int _, _, h => h
  | .str _, _, h => h
  | .ty _, _, h => h
  | .cls _, _, h => h
  | .frz _, _, h => h
  | .tup vs, d, h => by
    simp only [Rd] at h ⊢
    obtain ⟨ds, e, h⟩ := h
    exact ⟨ds, e, RdL.gf x h⟩
  | .lst vs, d, h => by
    simp only [Rd] at h ⊢
    obtain ⟨a, ds, e, f, h⟩ := h
    exact ⟨a, ds, e, x.le _ _ f, RdL.gf x h⟩
  | .obj i, d, h => by
    simp only [Rd] at h ⊢
    obtain ⟨a, e, h⟩ := h
    exact ⟨a, x.get e, h⟩
theorem RdL.gf {g g' : Fr0} (x : Gf g g') : ∀ {vs : List Tv} {ds : List D}, RdL g ds vs → RdL g' ds vs
  | [], _, h => h
  | v :: vs, ds, h => by
    simp only [RdL] at h ⊢
    obtain ⟨d, ds', e, h, t⟩ := h
    exact ⟨d, ds', e, Rd.gf x h, RdL.gf x t⟩
end
theorem RdA.gf {g g' : Fr0} {α : Type} (x : Gf g g') : ∀ {vs : List (α × Tv)} {ds : List (α × D)}, RdA g ds vs → RdA g' ds vs
  | [], _, h => h
  | (k, v) :: vs, ds, h => by
    simp only [RdA] at h ⊢
    obtain ⟨d, ds', e, h, t⟩ := h
    exact ⟨d, ds', e, Rd.gf x h, RdA.gf x t⟩
theorem RdK.gf {g g' : Fr0} (x : Gf g g') : ∀ {vs : List (Tv × Tv)} {ds : List (D × D)}, RdK g ds vs → RdK g' ds vs
  | [], _, h => h
  | (k, v) :: vs, ds, h => by
    simp only [RdK] at h ⊢
    obtain ⟨kd, d, ds', e, hk, h, t⟩ := h
    exact ⟨kd, d, ds', e, hk, Rd.gf x h, RdK.gf x t⟩
theorem RdO.gf {g g' : Fr0} (x : Gf g g') {o' : DO} : ∀ {o : To}, RdO g o' o → RdO g' o' o
  | .lst vs, h => by obtain ⟨ds, e, h⟩ := h; exact ⟨ds, e, h.gf x⟩
  | .dic vs, h => by obtain ⟨ds, e, h⟩ := h; exact ⟨ds, e, h.gf x⟩
  | .fdc vs, h => by obtain ⟨ds, e, h⟩ := h; exact ⟨ds, e, h.gf x⟩
  | .set vs, h => h
  | .ins c vs, h => by obtain ⟨ds, e, h⟩ := h; exact ⟨ds, e, h.gf x⟩
  | .dead, h => h

/-! ### lists read -/
section
variable {g : Fr0}
theorem RdL.len : ∀ {vs : List Tv} {ds : List D}, RdL g ds vs → ds.length = vs.length
  | [], _, h => by simp only [RdL] at h; rw [h]; rfl
  | v :: vs, _, h => by
    simp only [RdL] at h
    obtain ⟨d, ds, rfl, _, t⟩ := h
    simp [RdL.len t]
theorem RdL.nil : RdL g [] [] := rfl
theorem RdL.cons {d : D} {v : Tv} {ds : List D} {vs : List Tv} (h : Rd g d v) (t : RdL g ds vs) : RdL g (d :: ds) (v :: vs) := by
  simp only [RdL]; exact ⟨d, ds, rfl, h, t⟩
theorem RdL.cases {v : Tv} {vs : List Tv} {ds : List D} (h : RdL g ds (v :: vs)) : ∃ d ds', ds = d :: ds' ∧ Rd g d v ∧ RdL g ds' vs := by
  simp only [RdL] at h; exact h
theorem RdL.casesD {d : D} {ds : List D} {vs : List Tv} (h : RdL g (d :: ds) vs) : ∃ v vs', vs = v :: vs' ∧ Rd g d v ∧ RdL g ds vs' := by
  cases vs with
  | nil => simp [RdL] at h
  | cons v vs =>
    obtain ⟨d', ds', e, h, t⟩ := h.cases
    cases e
    exact ⟨v, vs, rfl, h, t⟩
theorem RdL.nilD {vs : List Tv} (h : RdL g [] vs) : vs = [] := by
  cases vs with
  | nil => rfl
  | cons v vs => obtain ⟨_, _, e, _⟩ := h.cases; cases e
theorem RdL.nilV {ds : List D} (h : RdL g ds []) : ds = [] := h
theorem RdL.app : ∀ {vs ws : List Tv} {ds es : List D}, RdL g ds vs → RdL g es ws → RdL g (ds ++ es) (vs ++ ws)
  | [], _, _, _, h, t => by rw [h.nilV]; exact t
  | v :: vs, _, _, _, h, t => by
    obtain ⟨d, ds, rfl, h1, h2⟩ := h.cases
    exact RdL.cons h1 (h2.app t)
theorem RdL.get : ∀ {vs : List Tv} {ds : List D} {i : Nat} {v : Tv}, RdL g ds vs → vs[i]? = some v → ∃ d, ds[i]? = some d ∧ Rd g d v
  | [], _, _, _, _, e => by simp at e
  | x :: vs, _, 0, v, h, e => by
    obtain ⟨d, ds, rfl, h1, h2⟩ := h.cases
    simp at e; subst e
    exact ⟨d, rfl, h1⟩
  | x :: vs, _, i + 1, v, h, e => by
    obtain ⟨d, ds, rfl, h1, h2⟩ := h.cases
    simp only [List.getElem?_cons_succ] at e ⊢
    exact h2.get e
theorem RdL.getD : ∀ {vs : List Tv} {ds : List D} {i : Nat} {d : D}, RdL g ds vs → ds[i]? = some d → ∃ v, vs[i]? = some v ∧ Rd g d v
  | [], _, _, _, h, e => by rw [h.nilV] at e; simp at e
  | x :: vs, _, 0, v, h, e => by
    obtain ⟨d, ds, rfl, h1, h2⟩ := h.cases
    simp at e; subst e
    exact ⟨x, rfl, h1⟩
  | x :: vs, _, i + 1, v, h, e => by
    obtain ⟨d, ds, rfl, h1, h2⟩ := h.cases
    simp only [List.getElem?_cons_succ] at e ⊢
    exact h2.getD e
theorem RdL.set {d : D} {v : Tv} (r : Rd g d v) : ∀ {vs : List Tv} {ds : List D} (i : Nat), RdL g ds vs → RdL g (ds.set i d) (vs.set i v)
  | [], _, _, h => by rw [h.nilV]; exact RdL.nil
  | x :: vs, _, 0, h => by
    obtain ⟨e, ds, rfl, h1, h2⟩ := h.cases
    exact RdL.cons r h2
  | x :: vs, _, i + 1, h => by
    obtain ⟨e, ds, rfl, h1, h2⟩ := h.cases
    exact RdL.cons h1 (h2.set r i)
theorem RdL.take : ∀ {vs : List Tv} {ds : List D} (n : Nat), RdL g ds vs → RdL g (ds.take n) (vs.take n)
  | _, _, 0, _ => RdL.nil
  | [], _, n + 1, h => by rw [h.nilV]; exact RdL.nil
  | x :: vs, _, n + 1, h => by
    obtain ⟨e, ds, rfl, h1, h2⟩ := h.cases
    exact RdL.cons h1 (h2.take n)
theorem RdL.drop : ∀ {vs : List Tv} {ds : List D} (n : Nat), RdL g ds vs → RdL g (ds.drop n) (vs.drop n)
  | _, _, 0, h => h
  | [], _, n + 1, h => by rw [h.nilV]; exact RdL.nil
  | x :: vs, _, n + 1, h => by
    obtain ⟨e, ds, rfl, h1, h2⟩ := h.cases
    exact h2.drop n
theorem RdL.eraseIdx : ∀ {vs : List Tv} {ds : List D} (n : Nat), RdL g ds vs → RdL g (ds.eraseIdx n) (vs.eraseIdx n)
  | [], _, _, h => by rw [h.nilV]; exact RdL.nil
  | x :: vs, _, 0, h => by
    obtain ⟨e, ds, rfl, h1, h2⟩ := h.cases
    exact h2
  | x :: vs, _, i + 1, h => by
    obtain ⟨e, ds, rfl, h1, h2⟩ := h.cases
    exact RdL.cons h1 (h2.eraseIdx i)
theorem RdL.rev : ∀ {vs : List Tv} {ds : List D}, RdL g ds vs → RdL g ds.reverse vs.reverse
  | [], _, h => by rw [h.nilV]; exact RdL.nil
  | x :: vs, _, h => by
    obtain ⟨e, ds, rfl, h1, h2⟩ := h.cases
    rw [List.reverse_cons, List.reverse_cons]
    exact h2.rev.app (RdL.cons h1 RdL.nil)
theorem RdL.rep {vs : List Tv} {ds : List D} (h : RdL g ds vs) : ∀ n : Nat, RdL g (List.replicate n ds).flatten (List.replicate n vs).flatten
  | 0 => RdL.nil
  | n + 1 => by rw [List.replicate_succ, List.replicate_succ, List.flatten_cons, List.flatten_cons]; exact h.app (h.rep n)
theorem RdL.mapI {α : Type} (f : α → D) (f' : α → Tv) (e : ∀ x, Rd g (f x) (f' x)) : ∀ xs : List α, RdL g (xs.map f) (xs.map f')
  | [] => RdL.nil
  | x :: xs => RdL.cons (e x) (RdL.mapI f f' e xs)
theorem Rd.ofInt {i : Int} : Rd g (.int i) (.int i) := by simp only [Rd]
theorem Rd.ofStr {i : String} : Rd g (.str i) (.str i) := by simp only [Rd]
theorem Rd.ofBl {i : Bool} : Rd g (.bl i) (.bl i) := by simp only [Rd]
theorem Rd.ofNon : Rd g .non .non := by simp only [Rd]
theorem Rd.ofTup {ds : List D} {vs : List Tv} (h : RdL g ds vs) : Rd g (.tup ds) (.tup vs) := by simp only [Rd]; exact ⟨ds, rfl, h⟩
end

/-! ### worlds changed -/
section
variable {g : Wd} {h : Hs}
def Wd.frozen (g : Wd) (p : Nat) (ds : List D) : Wd := ⟨⟨put g.F p (.lst ds), g.r⟩, put g.S p (.lst ds)⟩
def Wd.made (g : Wd) (p : Nat) (o : DO) : Wd := ⟨⟨g.F, g.r ++ [p]⟩, put g.S p o⟩
def Wd.upd (g : Wd) (a : Nat) (o : DO) : Wd := ⟨g.toFr0, put g.S a o⟩
def Wd.frz (g : Wd) (a : Nat) (ds : List D) : Wd := ⟨⟨put g.F a (.lst ds), g.r⟩, g.S⟩
theorem le_put {S : Store} {p : Nat} {o : DO} (h : S p = none) : Le S (put S p o) := fun a o' e => by
  rw [put_ne (fun x => by rw [x, h] at e; cases e)]; exact e
theorem le_put2 {F S : Store} {p : Nat} {o : DO} (h : Le F S) (e : F p = none) : Le F (put S p o) := fun a o' e' => by
  rw [put_ne (fun x => by rw [x, e] at e'; cases e')]; exact h a o' e'
theorem Rel.free (R : Rel g h) {p : Nat} (e : g.S p = none) : g.F p = none := by
  cases e' : g.F p with
  | none => rfl
  | some o => rw [R.le p o e'] at e; cases e
theorem Rel.notin (R : Rel g h) {p : Nat} (e : g.S p = none) : p ∉ g.r := fun m => by
  obtain ⟨i, hi, e2⟩ := List.getElem_of_mem m
  have hi2 : i < h.length := by rw [← R.len]; exact hi
  obtain ⟨a, o', h1, h2, _⟩ := R.ob i h[i] (List.getElem?_eq_getElem hi2)
  rw [List.getElem?_eq_getElem hi, e2] at h1
  cases h1
  rw [h2] at e; cases e
theorem Rel.at {i : Nat} {o : To} (R : Rel g h) (e : h[i]? = some o) : ∃ a o', g.r[i]? = some a ∧ g.S a = some o' ∧ RdO g.toFr0 o' o ∧ (o ≠ .dead → g.F a = none) := R.ob i o e
theorem Rel.ref {i : Nat} {o : To} {d : D} (R : Rel g h) (e : h[i]? = some o) (rd : Rd g.toFr0 d (.obj i)) : ∃ a o', d = .ref a ∧ g.r[i]? = some a ∧ g.S a = some o' ∧ RdO g.toFr0 o' o ∧ (o ≠ .dead → g.F a = none) := by
  simp only [Rd] at rd
  obtain ⟨a, h1, rfl⟩ := rd
  obtain ⟨a', o', h2, h3, h4, h5⟩ := R.ob i o e
  rw [h1] at h2; cases h2
  exact ⟨a, o', rfl, h1, h3, h4, h5⟩
theorem gr_frozen (R : Rel g h) {p : Nat} {ds : List D} (e : g.S p = none) : Gr g (g.frozen p ds) :=
  ⟨⟨le_put (R.free e), List.prefix_refl _⟩, fun a kvs h => le_put e _ _ h⟩
theorem rel_frozen (R : Rel g h) {p : Nat} {ds : List D} (e : g.S p = none) : Rel (g.frozen p ds) h := by
  refine ⟨fun a o h => ?_, R.len, R.nd, fun i o hi => ?_⟩
  · show put g.S p _ a = _
    have h : put g.F p (.lst ds) a = some o := h
    unfold put at h ⊢
    split
    · rename_i e; rw [if_pos e] at h; exact h
    · rename_i e; rw [if_neg e] at h; exact R.le _ _ h
  · obtain ⟨a, o', h1, h2, h3, h4⟩ := R.ob i o hi
    have ne : a ≠ p := fun x => by rw [x, e] at h2; cases h2
    exact ⟨a, o', h1, (put_ne ne).trans h2, h3.gf (gr_frozen R e).toGf, fun nd => (put_ne ne).trans (h4 nd)⟩
theorem rd_frozen {p : Nat} {ds : List D} {vs : List Tv} (R : Rel g h) (e : g.S p = none) (r : RdL g.toFr0 ds vs) : Rd (g.frozen p ds).toFr0 (.ref p) (.lst vs) := by
  simp only [Rd]
  exact ⟨p, ds, rfl, put_same, r.gf (gr_frozen R e).toGf⟩
theorem gr_made {p : Nat} {o' : DO} (e : g.S p = none) : Gr g (g.made p o') :=
  ⟨⟨Le.refl _, List.prefix_append _ _⟩, fun a kvs h => le_put e _ _ h⟩
theorem rel_made (R : Rel g h) {p : Nat} {o' : DO} {o : To} (e : g.S p = none) (r : RdO g.toFr0 o' o) : Rel (g.made p o') (h ++ [o]) := by
  refine ⟨fun a o h => le_put e _ _ (R.le _ _ h), by show (g.r ++ [p]).length = _; simp [R.len], ?_, fun i o1 hi => ?_⟩
  · show (g.r ++ [p]).Nodup
    rw [List.nodup_append]
    refine ⟨R.nd, by simp, fun a ha b hb => ?_⟩
    simp at hb; subst hb
    exact fun x => R.notin e (x ▸ ha)
  · rcases Nat.lt_or_ge i h.length with hl | hl
    · rw [List.getElem?_append_left hl] at hi
      obtain ⟨a, o2, h1, h2, h3, h4⟩ := R.ob i o1 hi
      exact ⟨a, o2, (gr_made (o' := o') e).get h1, le_put e _ _ h2, h3.gf (gr_made (o' := o') e).toGf, h4⟩
    · rw [List.getElem?_append_right hl] at hi
      cases hk : i - h.length with
      | zero =>
        rw [hk] at hi
        simp at hi; subst hi
        have : i = g.r.length := by have := R.len; omega
        subst this
        exact ⟨p, o', by show (g.r ++ [p])[g.r.length]? = _; simp, put_same, r.gf (gr_made (o' := o') e).toGf, fun _ => R.free e⟩
      | succ n => rw [hk] at hi; simp at hi
theorem rd_made (R : Rel g h) {p : Nat} {o' : DO} : Rd (g.made p o').toFr0 (.ref p) (.obj h.length) := by
  simp only [Rd]
  exact ⟨p, by show (g.r ++ [p])[h.length]? = _; rw [← R.len]; simp, rfl⟩
theorem gr_upd {a : Nat} {o1 o' : DO} (e : g.S a = some o1) (nf : ∀ kvs, o1 ≠ .fdc kvs) : Gr g (g.upd a o') :=
  ⟨⟨Le.refl _, List.prefix_refl _⟩, fun b kvs hb => (put_ne (fun x => by rw [x, e] at hb; exact nf kvs (Option.some.inj hb))).trans hb⟩
theorem rel_upd (R : Rel g h) {i a : Nat} {o : To} {o' : DO} (ha : g.r[i]? = some a) (hF : g.F a = none) (r : RdO g.toFr0 o' o) : Rel (g.upd a o') (h.set i o) := by
  refine ⟨le_put2 R.le hF, by rw [List.length_set]; exact R.len, R.nd, fun j o1 hj => ?_⟩
  rw [List.getElem?_set] at hj
  split at hj
  · rename_i e; subst e
    split at hj
    · cases hj
      exact ⟨a, o', ha, put_same, r, fun _ => hF⟩
    · cases hj
  · rename_i e
    obtain ⟨b, o2, h1, h2, h3, h4⟩ := R.ob j o1 hj
    have ne : b ≠ a := fun x => by
      subst x
      exact e ((List.getElem?_inj (List.getElem?_eq_some_iff.mp ha).1 R.nd).mp (ha.trans h1.symm))
    exact ⟨b, o2, h1, (put_ne ne).trans h2, h3, h4⟩
theorem gr_frz {a : Nat} {ds : List D} (hF : g.F a = none) : Gr g (g.frz a ds) :=
  ⟨⟨le_put hF, List.prefix_refl _⟩, fun _ _ h => h⟩
theorem rel_frz (R : Rel g h) {i a : Nat} {ds : List D} (ha : g.r[i]? = some a) (hF : g.F a = none) (hS : g.S a = some (.lst ds)) : Rel (g.frz a ds) (h.set i .dead) := by
  refine ⟨fun b o hb => ?_, by rw [List.length_set]; exact R.len, R.nd, fun j o1 hj => ?_⟩
  · have hb : put g.F a (.lst ds) b = some o := hb
    unfold put at hb
    split at hb
    · rename_i e; rw [e]; exact hS.trans hb
    · exact R.le _ _ hb
  · rw [List.getElem?_set] at hj
    split at hj
    · rename_i e; subst e
      split at hj
      · cases hj
        exact ⟨a, _, ha, hS, trivial, fun x => (x rfl).elim⟩
      · cases hj
    · rename_i e
      obtain ⟨b, o2, h1, h2, h3, h4⟩ := R.ob j o1 hj
      have ne : b ≠ a := fun x => by
        subst x
        exact e ((List.getElem?_inj (List.getElem?_eq_some_iff.mp ha).1 R.nd).mp (ha.trans h1.symm))
      exact ⟨b, o2, h1, h2, h3.gf (gr_frz hF).toGf, fun nd => (put_ne ne).trans (h4 nd)⟩
end

/-! ### wishes -/
/-- what is wished of trees gives what is wished of data -/
def Ok (g : Wd) (Q : Tq) (Q' : DQ) : Prop := ∀ v h' d (g' : Wd), Q v h' → Rel g' h' → Gr g g' → Rd g'.toFr0 d v → Q' d g'.S
def RdX (g : Fr0) (x' : DX) (x : Tx) : Prop := x'.cls = x.cls ∧ (match x.val with
  | none => x'.val = none
  | some (f, v) => ∃ d, x'.val = some (f, d) ∧ Rd g d v)
def OkW (g : Wd) (W : Tw) (W' : DE) : Prop := ∀ x h' x' (g' : Wd), W x h' → Rel g' h' → Gr g g' → RdX g'.toFr0 x' x → W' x' g'.S
def OkL (g : Wd) (Q : List Tv → Hs → Prop) (Q' : List D → Store → Prop) : Prop := ∀ v h' d (g' : Wd), Q v h' → Rel g' h' → Gr g g' → RdL g'.toFr0 d v → Q' d g'.S
def OkH (g : Wd) (K : Hs → Prop) (K' : Store → Prop) : Prop := ∀ h' (g' : Wd), K h' → Rel g' h' → Gr g g' → K' g'.S
theorem Ok.gr {g g1 : Wd} {Q : Tq} {Q' : DQ} (k : Ok g Q Q') (x : Gr g g1) : Ok g1 Q Q' := fun v h' d g' q R y r => k v h' d g' q R (x.trans y) r
theorem OkW.gr {g g1 : Wd} {Q : Tw} {Q' : DE} (k : OkW g Q Q') (x : Gr g g1) : OkW g1 Q Q' := fun v h' d g' q R y r => k v h' d g' q R (x.trans y) r
theorem OkL.gr {g g1 : Wd} {Q : List Tv → Hs → Prop} {Q' : List D → Store → Prop} (k : OkL g Q Q') (x : Gr g g1) : OkL g1 Q Q' := fun v h' d g' q R y r => k v h' d g' q R (x.trans y) r
theorem OkH.gr {g g1 : Wd} {Q : Hs → Prop} {Q' : Store → Prop} (k : OkH g Q Q') (x : Gr g g1) : OkH g1 Q Q' := fun h' g' q R y => k h' g' q R (x.trans y)
theorem okWF {g : Wd} : OkW g (fun _ _ => False) (fun _ _ => False) := fun _ _ _ _ h _ _ _ => h
section
variable {g : Wd} {h : Hs} {Q : Tq} {Q' : DQ}
theorem Ok.here (k : Ok g Q Q') (R : Rel g h) {v : Tv} {d : D} (q : Q v h) (r : Rd g.toFr0 d v) : Q' d g.S := k v h d g q R (Gr.refl g) r
/-- a new list -/
theorem s_al {m : Bool} {vs : List Tv} {ds : List D} (t : tAl m vs h Q) (R : Rel g h) (r : RdL g.toFr0 ds vs) (k : Ok g Q Q') : alloc g.S (.lst ds) Q' := by
  intro p e
  cases m with
  | false => exact k _ _ _ (g.frozen p ds) t (rel_frozen R e) (gr_frozen R e) (rd_frozen R e r)
  | true => exact k _ _ _ (g.made p (.lst ds)) t (rel_made R e ⟨ds, rfl, r⟩) (gr_made e) (rd_made R)
theorem s_new {o : To} {o' : DO} (t : newO o h Q) (R : Rel g h) (r : RdO g.toFr0 o' o) (k : Ok g Q Q') : alloc g.S o' Q' :=
  fun p e => k _ _ _ (g.made p o') t (rel_made R e r) (gr_made e) (rd_made R)
end
end Nf
/-! NfTo: the operators over trees keep NfSem's wishes. -/
set_option linter.all false
set_option maxHeartbeats 0
namespace Nf
section
variable {g : Fr0}
theorem Rd.toInt {d : D} {i : Int} (h : Rd g d (.int i)) : d = .int i := by simpa only [Rd] using h
theorem Rd.toStr {d : D} {i : String} (h : Rd g d (.str i)) : d = .str i := by simpa only [Rd] using h
theorem Rd.toBl {d : D} {i : Bool} (h : Rd g d (.bl i)) : d = .bl i := by simpa only [Rd] using h
theorem Rd.toNon {d : D} (h : Rd g d .non) : d = .non := by simpa only [Rd] using h
theorem Rd.toTy {d : D} {i : String} (h : Rd g d (.ty i)) : d = .ty i := by simpa only [Rd] using h
theorem Rd.toCls {d : D} {i : String} (h : Rd g d (.cls i)) : d = .cls i := by simpa only [Rd] using h
theorem Rd.toFrz {d : D} {i : List Int} (h : Rd g d (.frz i)) : d = .frz i := by simpa only [Rd] using h
theorem Rd.toTup {d : D} {vs : List Tv} (h : Rd g d (.tup vs)) : ∃ ds, d = .tup ds ∧ RdL g ds vs := by simpa only [Rd] using h
theorem Rd.toLst {d : D} {vs : List Tv} (h : Rd g d (.lst vs)) : ∃ a ds, d = .ref a ∧ g.F a = some (.lst ds) ∧ RdL g ds vs := by simpa only [Rd] using h
theorem Rd.toObj {d : D} {i : Nat} (h : Rd g d (.obj i)) : ∃ a, g.r[i]? = some a ∧ d = .ref a := by simpa only [Rd] using h
mutual
theorem rd_toD : ∀ {v : Tv} {d e : D}, Rd g d v → v.toD = some e → d = e
  | .non, _, _, h, t => by rw [h.toNon]; simpa [Tv.toD] using t
  | .bl b, _, _, h, t => by rw [h.toBl]; simpa [Tv.toD] using t
  | .int b, _, _, h, t => by rw [h.toInt]; simpa [Tv.toD] using t
  | .str b, _, _, h, t => by rw [h.toStr]; simpa [Tv.toD] using t
  | .tup vs, d, e, h, t => by
    obtain ⟨ds, rfl, h2⟩ := h.toTup
    simp only [Tv.toD, Option.map_eq_some_iff] at t
    obtain ⟨es, t, rfl⟩ := t
    rw [rd_toDs h2 t]
  | .ty _, _, _, h, t => by simp [Tv.toD] at t
  | .cls _, _, _, h, t => by simp [Tv.toD] at t
  | .frz _, _, _, h, t => by simp [Tv.toD] at t
  | .lst _, _, _, h, t => by simp [Tv.toD] at t
  | .obj _, _, _, h, t => by simp [Tv.toD] at t
theorem rd_toDs : ∀ {vs : List Tv} {ds es : List D}, RdL g ds vs → Tv.toDs vs = some es → ds = es
  | [], _, _, h, t => by rw [h.nilV]; simpa [Tv.toDs] using t
  | v :: vs, _, es, h, t => by
    obtain ⟨d, ds, rfl, h1, h2⟩ := h.cases
    unfold Tv.toDs at t
    split at t
    · rename_i e es' h3 h4
      cases t
      rw [rd_toD h1 h3, rd_toDs h2 h4]
    · cases t
end
mutual
theorem toD_inj : ∀ {v w : Tv} {e : D}, v.toD = some e → w.toD = some e → v = w
  | .non, w, e, h, k => by simp only [Tv.toD, Option.some.injEq] at h; subst h; cases w <;> simp_all [Tv.toD]
  | .bl b, w, e, h, k => by simp only [Tv.toD, Option.some.injEq] at h; subst h; cases w <;> simp_all [Tv.toD]
  | .int b, w, e, h, k => by simp only [Tv.toD, Option.some.injEq] at h; subst h; cases w <;> simp_all [Tv.toD]
  | .str b, w, e, h, k => by simp only [Tv.toD, Option.some.injEq] at h; subst h; cases w <;> simp_all [Tv.toD]
  | .tup vs, w, e, h, k => by
    simp only [Tv.toD, Option.map_eq_some_iff] at h
    obtain ⟨es, h, rfl⟩ := h
    cases w with
    | tup ws =>
      simp only [Tv.toD, Option.map_eq_some_iff] at k
      obtain ⟨es', k, q⟩ := k
      cases q
      rw [toDs_inj h k]
    | _ => simp [Tv.toD] at k
  | .ty _, _, _, h, k => by simp [Tv.toD] at h
  | .cls _, _, _, h, k => by simp [Tv.toD] at h
  | .frz _, _, _, h, k => by simp [Tv.toD] at h
  | .lst _, _, _, h, k => by simp [Tv.toD] at h
  | .obj _, _, _, h, k => by simp [Tv.toD] at h
theorem toDs_inj : ∀ {v w : List Tv} {e : List D}, Tv.toDs v = some e → Tv.toDs w = some e → v = w
  | [], w, e, h, k => by
    simp only [Tv.toDs, Option.some.injEq] at h; subst h
    cases w with
    | nil => rfl
    | cons w ws =>
      unfold Tv.toDs at k
      split at k <;> cases k
  | v :: vs, w, e, h, k => by
    unfold Tv.toDs at h
    split at h
    · rename_i e1 es h1 h2
      cases h
      cases w with
      | nil => simp [Tv.toDs] at k
      | cons w ws =>
        unfold Tv.toDs at k
        split at k
        · rename_i e3 es3 h3 h4
          cases k
          rw [toD_inj h1 h3, toDs_inj h2 h4]
        · cases k
    · cases h
end
mutual
theorem key_toD : ∀ {v : Tv} {n : Nat}, v.key n = true → ∃ d, v.toD = some d ∧ d.key n = true
  | .int i, n, h => ⟨.int i, by simp [Tv.toD], by cases n <;> simp [D.key]⟩
  | .str i, n, h => ⟨.str i, by simp [Tv.toD], by cases n <;> simp [D.key]⟩
  | .tup vs, 0, h => by simp [Tv.key] at h
  | .tup vs, n + 1, h => by
    simp only [Tv.key] at h
    obtain ⟨ds, h1, h2⟩ := keyL_toDs h
    exact ⟨.tup ds, by simp [Tv.toD, h1], by simp only [D.key]; exact h2⟩
  | .non, n, h => by cases n <;> simp [Tv.key] at h
  | .bl _, n, h => by cases n <;> simp [Tv.key] at h
  | .ty _, n, h => by cases n <;> simp [Tv.key] at h
  | .cls _, n, h => by cases n <;> simp [Tv.key] at h
  | .frz _, n, h => by cases n <;> simp [Tv.key] at h
  | .lst _, n, h => by cases n <;> simp [Tv.key] at h
  | .obj _, n, h => by cases n <;> simp [Tv.key] at h
theorem keyL_toDs : ∀ {v : List Tv} {n : Nat}, Tv.keyL n v = true → ∃ d, Tv.toDs v = some d ∧ D.keyL n d = true
  | [], n, h => ⟨[], by simp [Tv.toDs], by simp [D.keyL]⟩
  | v :: vs, n, h => by
    simp only [Tv.keyL, Bool.and_eq_true] at h
    obtain ⟨d, h1, h2⟩ := key_toD h.1
    obtain ⟨ds, h3, h4⟩ := keyL_toDs h.2
    exact ⟨d :: ds, by simp [Tv.toDs, h1, h3], by simp only [D.keyL, Bool.and_eq_true]; exact ⟨h2, h4⟩⟩
end
theorem flatKey_toD {v : Tv} (h : v.flatKey = true) : ∃ d, v.toD = some d ∧ d.flatKey = true := by
  cases v with
  | int i => exact ⟨.int i, by simp [Tv.toD], rfl⟩
  | str i => exact ⟨.str i, by simp [Tv.toD], rfl⟩
  | _ => cases h
theorem tupKey_toD {v : Tv} (h : v.tupKey = true) : ∃ d, v.toD = some d ∧ d.tupKey = true := by
  cases v with
  | tup vs =>
    obtain ⟨d, h1, h2⟩ := key_toD (show Tv.key 6 (.tup vs) = true from h)
    refine ⟨d, h1, ?_⟩
    simp only [Tv.toD, Option.map_eq_some_iff] at h1
    obtain ⟨ds, _, rfl⟩ := h1
    exact h2
  | _ => cases h
theorem RdK.nilV {ds : List (D × D)} (h : RdK g ds []) : ds = [] := h
theorem RdK.cases {k v : Tv} {vs : List (Tv × Tv)} {ds : List (D × D)} (h : RdK g ds ((k, v) :: vs)) : ∃ kd d ds', ds = (kd, d) :: ds' ∧ k.toD = some kd ∧ Rd g d v ∧ RdK g ds' vs := by
  simp only [RdK] at h; exact h
theorem RdK.cons {k v : Tv} {kd d : D} {vs : List (Tv × Tv)} {ds : List (D × D)} (h0 : k.toD = some kd) (h : Rd g d v) (t : RdK g ds vs) : RdK g ((kd, d) :: ds) ((k, v) :: vs) := by
  simp only [RdK]; exact ⟨kd, d, ds, rfl, h0, h, t⟩
theorem RdK.nil : RdK g [] [] := rfl
theorem RdK.app : ∀ {vs ws : List (Tv × Tv)} {ds es : List (D × D)}, RdK g ds vs → RdK g es ws → RdK g (ds ++ es) (vs ++ ws)
  | [], _, _, _, h, t => by rw [h.nilV]; exact t
  | (k, v) :: vs, _, _, _, h, t => by
    obtain ⟨kd, d, ds, rfl, h0, h1, h2⟩ := h.cases
    exact RdK.cons h0 h1 (h2.app t)
theorem RdK.len : ∀ {vs : List (Tv × Tv)} {ds : List (D × D)}, RdK g ds vs → ds.length = vs.length
  | [], _, h => by rw [h.nilV]; rfl
  | (k, v) :: vs, _, h => by
    obtain ⟨kd, d, ds, rfl, h0, h1, h2⟩ := h.cases
    simp [h2.len]
theorem RdK.look {x : Tv} {e : D} (hx : x.toD = some e) : ∀ {vs : List (Tv × Tv)} {ds : List (D × D)}, RdK g ds vs → (tLook vs x = none ∧ Nf.look ds e = none) ∨ ∃ v d, tLook vs x = some v ∧ Nf.look ds e = some d ∧ Rd g d v
  | [], _, h => by rw [h.nilV]; exact .inl ⟨rfl, rfl⟩
  | (k, v) :: vs, _, h => by
    obtain ⟨kd, d, ds, rfl, h0, h1, h2⟩ := h.cases
    unfold tLook Nf.look
    rw [List.find?_cons, List.find?_cons]
    by_cases q : k = x
    · subst q
      rw [hx] at h0; cases h0
      simp only [decide_true]
      exact .inr ⟨v, d, rfl, rfl, h1⟩
    · have q2 : kd ≠ e := fun y => by subst y; exact q (toD_inj h0 hx)
      simp only [q, q2, decide_false]
      exact h2.look hx
theorem RdK.has {x : Tv} {e : D} (hx : x.toD = some e) {vs : List (Tv × Tv)} {ds : List (D × D)} (h : RdK g ds vs) : has ds e = tHas vs x := by
  unfold Nf.has tHas
  rcases h.look hx with ⟨a, b⟩ | ⟨v, d, a, b, _⟩ <;> rw [a, b] <;> rfl
theorem RdK.map1 {x v : Tv} {e d : D} (hx : x.toD = some e) (hv : Rd g d v) : ∀ {vs : List (Tv × Tv)} {ds : List (D × D)}, RdK g ds vs → RdK g (ds.map (upd1 e d)) (vs.map (tUpd1 x v))
  | [], _, h => by rw [h.nilV]; exact RdK.nil
  | (k, u) :: vs, _, h => by
    obtain ⟨kd, d', ds, rfl, h0, h1, h2⟩ := h.cases
    rw [List.map_cons, List.map_cons]
    unfold upd1 tUpd1
    by_cases q : k = x
    · subst q
      rw [hx] at h0; cases h0
      simp only [if_true]
      exact RdK.cons hx hv (h2.map1 hx hv)
    · have q2 : kd ≠ e := fun y => by subst y; exact q (toD_inj h0 hx)
      simp only [q, q2, if_false]
      exact RdK.cons h0 h1 (h2.map1 hx hv)
theorem RdK.put {x v : Tv} {e d : D} (hx : x.toD = some e) (hv : Rd g d v) {vs : List (Tv × Tv)} {ds : List (D × D)} (h : RdK g ds vs) : RdK g (putK ds e d) (tPut vs x v) := by
  unfold putK tPut
  rw [h.has hx]
  split
  · exact h.map1 hx hv
  · exact h.app (RdK.cons hx hv RdK.nil)
theorem RdK.drop {x : Tv} {e : D} (hx : x.toD = some e) : ∀ {vs : List (Tv × Tv)} {ds : List (D × D)}, RdK g ds vs → RdK g (dropK ds e) (tDrop vs x)
  | [], _, h => by rw [h.nilV]; exact RdK.nil
  | (k, u) :: vs, _, h => by
    obtain ⟨kd, d', ds, rfl, h0, h1, h2⟩ := h.cases
    have ih := h2.drop hx
    unfold dropK tDrop at ih ⊢
    rw [List.filter_cons, List.filter_cons]
    by_cases q : k = x
    · subst q
      rw [hx] at h0; cases h0
      simpa using ih
    · have q2 : kd ≠ e := fun y => by subst y; exact q (toD_inj h0 hx)
      simp only [q, q2, ne_eq, not_false_eq_true, decide_true, if_true]
      exact RdK.cons h0 h1 ih
theorem RdK.merge : ∀ {ps : List (Tv × Tv)} {qs : List (D × D)} {vs : List (Tv × Tv)} {ds : List (D × D)}, RdK g qs ps → RdK g ds vs → RdK g (mergeK ds qs) (tMerge vs ps)
  | [], _, _, _, h, t => by rw [h.nilV]; exact t
  | (k, u) :: ps, _, _, _, h, t => by
    obtain ⟨kd, d', ds, rfl, h0, h1, h2⟩ := h.cases
    unfold mergeK tMerge
    exact RdK.merge h2 (t.put h0 h1)
theorem RdK.flat : ∀ {vs : List (Tv × Tv)} {ds : List (D × D)}, RdK g ds vs → (∀ p ∈ vs, p.1.flatKey = true) → ∀ p ∈ ds, p.1.flatKey = true
  | [], _, h, _ => by rw [h.nilV]; exact fun _ h => nomatch h
  | (k, u) :: vs, _, h, f => by
    obtain ⟨kd, d', ds, rfl, h0, h1, h2⟩ := h.cases
    obtain ⟨e, he, hf⟩ := flatKey_toD (f (k, u) List.mem_cons_self)
    rw [h0] at he; cases he
    intro p hp
    rcases List.mem_cons.mp hp with rfl | hp
    · exact hf
    · exact h2.flat (fun p hp => f p (List.mem_cons_of_mem _ hp)) p hp
theorem RdK.tupk : ∀ {vs : List (Tv × Tv)} {ds : List (D × D)}, RdK g ds vs → (∀ p ∈ vs, p.1.tupKey = true) → ∀ p ∈ ds, p.1.tupKey = true
  | [], _, h, _ => by rw [h.nilV]; exact fun _ h => nomatch h
  | (k, u) :: vs, _, h, f => by
    obtain ⟨kd, d', ds, rfl, h0, h1, h2⟩ := h.cases
    obtain ⟨e, he, hf⟩ := tupKey_toD (f (k, u) List.mem_cons_self)
    rw [h0] at he; cases he
    intro p hp
    rcases List.mem_cons.mp hp with rfl | hp
    · exact hf
    · exact h2.tupk (fun p hp => f p (List.mem_cons_of_mem _ hp)) p hp
theorem keysOk_of {x : Tv} {d : D} {vs : List (Tv × Tv)} {ds : List (D × D)} (h : RdK g ds vs) (hx : Rd g d x) (k : tKeysOk x vs) : x.toD = some d ∧ keysOk d ds := by
  rcases k with ⟨a, b⟩ | ⟨a, b⟩
  · obtain ⟨e, h1, h2⟩ := flatKey_toD a
    obtain rfl := rd_toD hx h1
    exact ⟨h1, .inl ⟨h2, h.flat b⟩⟩
  · obtain ⟨e, h1, h2⟩ := tupKey_toD a
    obtain rfl := rd_toD hx h1
    exact ⟨h1, .inr ⟨h2, h.tupk b⟩⟩
theorem keysAll_of {vs : List (Tv × Tv)} {ds : List (D × D)} (h : RdK g ds vs) (k : tKeysAll vs) : keysAll ds := by
  rcases k with b | b
  · exact .inl (h.flat b)
  · exact .inr (h.tupk b)
theorem keysAll_toD {vs : List (Tv × Tv)} (k : tKeysAll vs) : ∀ p ∈ vs, ∃ d, p.1.toD = some d := fun p hp => by
  rcases k with b | b
  · obtain ⟨e, h1, _⟩ := flatKey_toD (b p hp); exact ⟨e, h1⟩
  · obtain ⟨e, h1, _⟩ := tupKey_toD (b p hp); exact ⟨e, h1⟩
theorem pairs_of : ∀ {vs : List Tv} {ds : List D} {ps : List (Tv × Tv)}, RdL g ds vs → tPairs vs = some ps → (∀ p ∈ ps, ∃ d, p.1.toD = some d) → ∃ qs, pairsOf ds = some qs ∧ RdK g qs ps
  | [], _, ps, h, t, _ => by
    rw [h.nilV]; simp only [tPairs, Option.some.injEq] at t; subst t
    exact ⟨[], rfl, RdK.nil⟩
  | v :: vs, _, ps, h, t, k => by
    obtain ⟨d, ds, rfl, h1, h2⟩ := h.cases
    unfold tPairs at t
    split at t
    · cases ‹_ = []›
    · rename_i x y r heq
      cases heq
      simp only [Option.map_eq_some_iff] at t
      obtain ⟨ps', t, rfl⟩ := t
      obtain ⟨es, rfl, h3⟩ := h1.toTup
      obtain ⟨d1, es, rfl, r1, h3⟩ := h3.cases
      obtain ⟨d2, es, rfl, r2, h3⟩ := h3.cases
      rw [h3.nilV]
      obtain ⟨qs, e1, e2⟩ := pairs_of h2 t fun p hp => k p (List.mem_cons_of_mem _ hp)
      obtain ⟨e, hk⟩ := k (x, y) List.mem_cons_self
      obtain rfl := rd_toD r1 hk
      exact ⟨(d1, d2) :: qs, by simp [pairsOf, e1], RdK.cons hk r2 e2⟩
    · cases t
theorem pairUp_ofT : ∀ {vs : List Tv} {ds : List D} {ps : List (Tv × Tv)}, RdL g ds vs → tPairUp vs = some ps → (∀ p ∈ ps, ∃ d, p.1.toD = some d) → ∃ qs, pairUp ds = some qs ∧ RdK g qs ps
  | [], _, ps, h, t, _ => by
    rw [h.nilV]; simp only [tPairUp, Option.some.injEq] at t; subst t
    exact ⟨[], rfl, RdK.nil⟩
  | [v], _, ps, h, t, k => by simp [tPairUp] at t
  | x :: y :: vs, _, ps, h, t, k => by
    obtain ⟨d1, ds, rfl, r1, h2⟩ := h.cases
    obtain ⟨d2, ds, rfl, r2, h2⟩ := h2.cases
    simp only [tPairUp, Option.map_eq_some_iff] at t
    obtain ⟨ps', t, rfl⟩ := t
    obtain ⟨qs, e1, e2⟩ := pairUp_ofT h2 t fun p hp => k p (List.mem_cons_of_mem _ hp)
    obtain ⟨e, hk⟩ := k (x, y) List.mem_cons_self
    obtain rfl := rd_toD r1 hk
    exact ⟨(d1, d2) :: qs, by simp [pairUp, e1], RdK.cons hk r2 e2⟩
theorem RdK.keys : ∀ {vs : List (Tv × Tv)} {ds : List (D × D)}, RdK g ds vs → RdL g (ds.map (·.1)) (vs.map (·.1))
  | [], _, h => by rw [h.nilV]; exact RdL.nil
  | (k, u) :: vs, _, h => by
    obtain ⟨kd, d', ds, rfl, h0, h1, h2⟩ := h.cases
    exact RdL.cons (rd_of_toD h0) h2.keys
where
  rd_of_toD {g : Fr0} : ∀ {v : Tv} {d : D}, v.toD = some d → Rd g d v
  | .non, _, h => by simp only [Tv.toD, Option.some.injEq] at h; subst h; simp only [Rd]
  | .bl b, _, h => by simp only [Tv.toD, Option.some.injEq] at h; subst h; simp only [Rd]
  | .int b, _, h => by simp only [Tv.toD, Option.some.injEq] at h; subst h; simp only [Rd]
  | .str b, _, h => by simp only [Tv.toD, Option.some.injEq] at h; subst h; simp only [Rd]
  | .tup vs, _, h => by
    simp only [Tv.toD, Option.map_eq_some_iff] at h
    obtain ⟨es, h, rfl⟩ := h
    exact Rd.ofTup (rd_of_toDs h)
  | .ty _, _, h => by simp [Tv.toD] at h
  | .cls _, _, h => by simp [Tv.toD] at h
  | .frz _, _, h => by simp [Tv.toD] at h
  | .lst _, _, h => by simp [Tv.toD] at h
  | .obj _, _, h => by simp [Tv.toD] at h
  rd_of_toDs {g : Fr0} : ∀ {v : List Tv} {d : List D}, Tv.toDs v = some d → RdL g d v
  | [], _, h => by simp only [Tv.toDs, Option.some.injEq] at h; subst h; exact RdL.nil
  | v :: vs, _, h => by
    unfold Tv.toDs at h
    split at h
    · rename_i e1 es h1 h2
      cases h
      exact RdL.cons (rd_of_toD h1) (rd_of_toDs h2)
    · cases h
end
end Nf
/-! NfTp: the operators over trees keep NfSem's wishes, the operators themselves. -/
set_option linter.all false
set_option maxHeartbeats 0
namespace Nf
section
variable {g : Wd} {h : Hs} {Q : Tq} {Q' : DQ} {x y : Tv} {dx dy : D}
theorem s_ls {vs : List Tv} (R : Rel g h) (rx : Rd g.toFr0 dx x) (e : lsOf h x = some vs) : ∃ a ds, dx = .ref a ∧ g.S a = some (.lst ds) ∧ RdL g.toFr0 ds vs := by
  cases x with
  | lst ws =>
    simp only [lsOf, Option.some.injEq] at e; subst e
    obtain ⟨a, ds, rfl, f, r⟩ := rx.toLst
    exact ⟨a, ds, rfl, R.le _ _ f, r⟩
  | obj i =>
    simp only [lsOf] at e
    split at e
    · rename_i ws he
      cases e
      obtain ⟨a, o', rfl, _, h2, ⟨ds, rfl, h3⟩, _⟩ := R.ref he rx
      exact ⟨a, ds, rfl, h2, h3⟩
    · cases e
  | _ => simp [lsOf] at e
/-- what a number stands for -/
theorem s_ob {i : Nat} {o : To} (R : Rel g h) (rx : Rd g.toFr0 dx (.obj i)) (e : h[i]? = some o) : ∃ a o', dx = .ref a ∧ g.r[i]? = some a ∧ g.S a = some o' ∧ RdO g.toFr0 o' o ∧ (o ≠ .dead → g.F a = none) := R.ref e rx

mutual
theorem s_tr (R : Rel g h) : ∀ (n : Nat) (v : Tv) {d : D} {t : T}, Rd g.toFr0 d v → trT h n v = some t → res g.S n d = some t
  | n, .non, d, t, r, e => by rw [r.toNon]; cases n <;> simpa [trT, res] using e
  | n, .bl b, d, t, r, e => by rw [r.toBl]; cases n <;> simpa [trT, res] using e
  | n, .int b, d, t, r, e => by rw [r.toInt]; cases n <;> simpa [trT, res] using e
  | n, .str b, d, t, r, e => by rw [r.toStr]; cases n <;> simpa [trT, res] using e
  | n, .ty b, d, t, r, e => by cases n <;> simp [trT] at e
  | n, .cls b, d, t, r, e => by cases n <;> simp [trT] at e
  | 0, .frz b, d, t, r, e => by simp [trT] at e
  | n + 1, .frz b, d, t, r, e => by rw [r.toFrz]; simpa [trT, res] using e
  | 0, .tup b, d, t, r, e => by simp [trT] at e
  | n + 1, .tup b, d, t, r, e => by
    obtain ⟨ds, rfl, r2⟩ := r.toTup
    simp only [trT, Option.map_eq_some_iff] at e
    obtain ⟨ts, e, rfl⟩ := e
    simp only [res, s_trs R n b r2 e, Option.map_some]
  | 0, .lst b, d, t, r, e => by simp [trT] at e
  | n + 1, .lst b, d, t, r, e => by
    obtain ⟨a, ds, rfl, f, r⟩ := r.toLst
    simp only [trT, Option.map_eq_some_iff] at e
    obtain ⟨ts, e, rfl⟩ := e
    simp only [res, R.le _ _ f, s_trs R n b r e, Option.map_some]
  | 0, .obj b, d, t, r, e => by simp [trT] at e
  | n + 1, .obj b, d, t, r, e => by
    simp only [trT] at e
    split at e
    · rename_i ws he
      obtain ⟨a, o', rfl, _, h2, ⟨ds, rfl, h3⟩, _⟩ := R.ref he r
      simp only [Option.map_eq_some_iff] at e
      obtain ⟨ts, e, rfl⟩ := e
      simp only [res, h2, s_trs R n ws h3 e, Option.map_some]
    · cases e
termination_by n v => (n, sizeOf v)
theorem s_trs (R : Rel g h) : ∀ (n : Nat) (vs : List Tv) {ds : List D} {ts : List T}, RdL g.toFr0 ds vs → optL (vs.map (trT h n)) = some ts → optL (ds.map (res g.S n)) = some ts
  | n, [], ds, ts, r, e => by rw [r.nilV]; exact e
  | n, v :: vs, ds, ts, r, e => by
    obtain ⟨d, ds, rfl, r1, r2⟩ := r.cases
    rw [List.map_cons] at e ⊢
    unfold optL at e ⊢
    split at e
    · rename_i y ys h1 h2
      rw [s_tr R n v r1 h1, s_trs R n vs r2 h2]
      exact e
    · cases e
termination_by n vs => (n, sizeOf vs)
end
theorem s_eq {k k' : Bool → Prop} (R : Rel g h) (rx : Rd g.toFr0 dx x) (ry : Rd g.toFr0 dy y) (t : tEq h x y k) (i : ∀ b, k b → k' b) : eqD g.S dx dy k' := by
  unfold tEq at t
  split at t
  · rename_i a b h1 h2
    unfold eqD
    rw [s_tr R _ _ rx h1, s_tr R _ _ ry h2]
    exact i _ t
  · exact t.elim
theorem flat_toD {v : Tv} (e : v.flat = true) : ∃ d, v.toD = some d ∧ d.flat = true := by
  cases v with
  | non => exact ⟨.non, rfl, rfl⟩
  | bl b => exact ⟨.bl b, rfl, rfl⟩
  | int b => exact ⟨.int b, rfl, rfl⟩
  | str b => exact ⟨.str b, rfl, rfl⟩
  | _ => cases e
theorem eqF_of {u v : Tv} {a b : D} (h1 : u.toD = some a) (h2 : v.toD = some b) (f : u.flat = true) : eqF a b = eqFT u v := by
  cases u with
  | non => cases h1; cases v <;> simp [Tv.toD] at h2 <;> (first | (subst h2; rfl) | (obtain ⟨_, _, rfl⟩ := h2; rfl))
  | bl x => cases h1; cases v <;> simp [Tv.toD] at h2 <;> (first | (subst h2; rfl) | (obtain ⟨_, _, rfl⟩ := h2; rfl))
  | int x => cases h1; cases v <;> simp [Tv.toD] at h2 <;> (first | (subst h2; rfl) | (obtain ⟨_, _, rfl⟩ := h2; rfl))
  | str x => cases h1; cases v <;> simp [Tv.toD] at h2 <;> (first | (subst h2; rfl) | (obtain ⟨_, _, rfl⟩ := h2; rfl))
  | _ => cases f
theorem anyF_of {u : Tv} {a : D} (h1 : u.toD = some a) : ∀ {vs : List Tv} {ds : List D}, RdL g.toFr0 ds vs → vs.all Tv.flat = true → ds.all D.flat = true ∧ (ds.any fun w => eqF w a) = vs.any fun w => eqFT w u
  | [], _, r, _ => by rw [r.nilV]; exact ⟨rfl, rfl⟩
  | v :: vs, _, r, f => by
    obtain ⟨d, ds, rfl, r1, r2⟩ := r.cases
    rw [List.all_cons, Bool.and_eq_true] at f
    obtain ⟨e, e1, e2⟩ := flat_toD f.1
    obtain rfl := rd_toD r1 e1
    obtain ⟨i1, i2⟩ := anyF_of h1 r2 f.2
    rw [List.all_cons, List.any_cons, List.any_cons, i1, i2, e2, eqF_of e1 h1 f.1]
    exact ⟨rfl, rfl⟩
theorem s_inl {k k' : Bool → Prop} {vs : List Tv} {ds : List D} (R : Rel g h) (rx : Rd g.toFr0 dx x) (r : RdL g.toFr0 ds vs) (t : tInL x (some vs) h k) (i : ∀ b, k b → k' b) :
    match res g.S deep dx, optL (ds.map (res g.S deep)) with | some t, some ts => k' (ts.any fun u => eqT u t) | _, _ => False := by
  simp only [tInL] at t
  split at t
  · rename_i a b h1 h2
    rw [s_tr R _ _ rx h1, s_trs R _ _ r h2]
    exact i _ t
  · exact t.elim
theorem s_in {k k' : Bool → Prop} (R : Rel g h) (rx : Rd g.toFr0 dx x) (ry : Rd g.toFr0 dy y) (t : tIn x y h k) (i : ∀ b, k b → k' b) : rIn dx dy g.S k' := by
  cases y with
  | tup vs =>
    obtain ⟨ds, rfl, r⟩ := ry.toTup
    obtain ⟨t1, t2, t3⟩ := t
    obtain ⟨e, e1, e2⟩ := flat_toD t1
    obtain rfl := rd_toD rx e1
    obtain ⟨i1, i2⟩ := anyF_of e1 r t2
    simp only [rIn]
    exact ⟨e2, i1, by rw [i2]; exact i _ t3⟩
  | str s =>
    rw [ry.toStr]
    cases x with
    | str c =>
      rw [rx.toStr]
      simp only [tIn] at t
      simp only [rIn]
      split at t
      · rename_i ch he
        try rw [he]
        exact i _ t
      · exact t.elim
    | _ => exact t.elim
  | lst vs =>
    obtain ⟨a, ds, rfl, f, r⟩ := ry.toLst
    simp only [rIn, R.le _ _ f]
    exact s_inl R rx r t i
  | obj j =>
    simp only [tIn] at t
    split at t
    · rename_i vs he
      obtain ⟨a, o', rfl, _, h2, ⟨ds, rfl, h3⟩, _⟩ := R.ref he ry
      simp only [rIn, h2]
      exact s_inl R rx h3 t i
    · rename_i vs he
      obtain ⟨a, o', rfl, _, h2, ⟨ds, rfl, h3⟩, _⟩ := R.ref he ry
      obtain ⟨k1, k2⟩ := keysOk_of h3 rx t.1
      simp only [rIn, h2]
      exact ⟨k2, by rw [h3.has k1]; exact i _ t.2⟩
    · rename_i vs he
      obtain ⟨a, o', rfl, _, h2, ⟨ds, rfl, h3⟩, _⟩ := R.ref he ry
      obtain ⟨k1, k2⟩ := keysOk_of h3 rx t.1
      simp only [rIn, h2]
      exact ⟨k2, by rw [h3.has k1]; exact i _ t.2⟩
    · exact t.elim
  | _ => exact t.elim
theorem s_asI {k : Int → Prop} {k' : Int → Prop} (rx : Rd g.toFr0 dx x) (t : asTI x k) (i : ∀ j, k j → k' j) : asI dx k' := by
  cases x with
  | int j => rw [rx.toInt]; exact i _ t
  | _ => exact t.elim
theorem s_asB {k : Bool → Prop} {k' : Bool → Prop} (rx : Rd g.toFr0 dx x) (t : asTB x k) (i : ∀ j, k j → k' j) : asB dx k' := by
  cases x with
  | bl j => rw [rx.toBl]; exact i _ t
  | _ => exact t.elim
theorem non_of (rx : Rd g.toFr0 dx x) : decide (dx = .non) = x.isNon := by
  cases x with
  | non => rw [rx.toNon]; rfl
  | bl => rw [rx.toBl]; rfl
  | int => rw [rx.toInt]; rfl
  | str => rw [rx.toStr]; rfl
  | ty => rw [rx.toTy]; rfl
  | cls => rw [rx.toCls]; rfl
  | frz => rw [rx.toFrz]; rfl
  | tup => obtain ⟨ds, rfl, _⟩ := rx.toTup; rfl
  | lst => obtain ⟨a, ds, rfl, _⟩ := rx.toLst; rfl
  | obj => obtain ⟨a, _, rfl⟩ := rx.toObj; rfl
theorem s_cmp {op : COp} {k k' : Bool → Prop} (R : Rel g h) (rx : Rd g.toFr0 dx x) (ry : Rd g.toFr0 dy y) (t : tCmp op x y h k) (i : ∀ b, k b → k' b) : rCmp op dx dy g.S k' := by
  cases op with
  | eq => exact s_eq R rx ry t i
  | ne => exact s_eq (k := fun b => k (!b)) R rx ry t fun b hb => i _ hb
  | lt => exact s_asI rx t fun a ha => s_asI ry ha fun b hb => i _ hb
  | le => exact s_asI rx t fun a ha => s_asI ry ha fun b hb => i _ hb
  | gt => exact s_asI rx t fun a ha => s_asI ry ha fun b hb => i _ hb
  | ge => exact s_asI rx t fun a ha => s_asI ry ha fun b hb => i _ hb
  | inn => exact s_in R rx ry t i
  | nin => exact s_in (k := fun b => k (!b)) R rx ry t fun b hb => i _ hb
  | is =>
    obtain ⟨t1, t2⟩ := t
    have e := non_of ry
    rw [t1, decide_eq_true_eq] at e
    exact ⟨e, by rw [non_of rx]; exact i _ t2⟩
  | isn =>
    obtain ⟨t1, t2⟩ := t
    have e := non_of ry
    rw [t1, decide_eq_true_eq] at e
    exact ⟨e, by rw [non_of rx]; exact i _ t2⟩
theorem s_cat {m : Bool} {xs ys : Option (List Tv)} (R : Rel g h) (ax : ∀ vs, xs = some vs → ∃ a ds, dx = .ref a ∧ g.S a = some (.lst ds) ∧ RdL g.toFr0 ds vs) (ay : ∀ vs, ys = some vs → ∃ a ds, dy = .ref a ∧ g.S a = some (.lst ds) ∧ RdL g.toFr0 ds vs)
    (t : tCat m xs ys h Q) (k : Ok g Q Q') : rBin .add dx dy g.S Q' := by
  unfold tCat at t
  split at t
  · rename_i us vs
    obtain ⟨a, ds, rfl, e1, r1⟩ := ax _ rfl
    obtain ⟨b, es, rfl, e2, r2⟩ := ay _ rfl
    simp only [rBin, e1, e2]
    rw [r1.len, r2.len]
    exact ⟨t.1, s_al t.2 R (r1.app r2) k⟩
  · exact t.elim
theorem s_add {m : Bool} (R : Rel g h) (rx : Rd g.toFr0 dx x) (ry : Rd g.toFr0 dy y) (t : tAdd m x y h Q) (k : Ok g Q Q') : rBin .add dx dy g.S Q' := by
  cases x with
  | int i =>
    cases y with
    | int j => rw [rx.toInt, ry.toInt]; exact k.here R t Rd.ofInt
    | _ => exact t.elim
  | str i =>
    cases y with
    | str j => rw [rx.toStr, ry.toStr]; exact ⟨t.1, k.here R t.2 Rd.ofStr⟩
    | _ => exact t.elim
  | tup i =>
    cases y with
    | tup j =>
      obtain ⟨ds, rfl, r1⟩ := rx.toTup
      obtain ⟨es, rfl, r2⟩ := ry.toTup
      obtain ⟨t1, t2, t3, t4⟩ := t
      simp only [rBin, r1.len, r2.len]
      exact ⟨t1, t2, t3, k.here R t4 (Rd.ofTup (r1.app r2))⟩
    | _ => exact t.elim
  | lst i =>
    cases y with
    | lst j => exact s_cat (xs := some i) (ys := some j) R (fun vs e => s_ls R rx (by simpa [lsOf] using e)) (fun vs e => s_ls R ry (by simpa [lsOf] using e)) t k
    | obj j => exact s_cat (xs := some i) R (fun vs e => s_ls R rx (by simpa [lsOf] using e)) (fun vs e => s_ls R ry e) t k
    | _ => exact t.elim
  | obj i =>
    cases y with
    | lst j => exact s_cat (ys := some j) R (fun vs e => s_ls R rx e) (fun vs e => s_ls R ry (by simpa [lsOf] using e)) t k
    | obj j => exact s_cat R (fun vs e => s_ls R rx e) (fun vs e => s_ls R ry e) t k
    | _ => exact t.elim
  | _ => exact t.elim
theorem s_ii {f : Int → Int → Prop} {r : Prop} (rx : Rd g.toFr0 dx x) (ry : Rd g.toFr0 dy y) (t : asTI x fun i => asTI y fun j => f i j) (k : ∀ i j, dx = .int i → dy = .int j → f i j → r) : r := by
  cases x with
  | int i =>
    cases y with
    | int j => exact k i j rx.toInt ry.toInt t
    | _ => exact t.elim
  | _ => exact t.elim
theorem s_bin {m : Bool} {op : BOp} (R : Rel g h) (rx : Rd g.toFr0 dx x) (ry : Rd g.toFr0 dy y) (t : tBin m op x y h Q) (k : Ok g Q Q') : rBin op dx dy g.S Q' := by
  cases op with
  | add => exact s_add R rx ry t k
  | sub => exact s_ii rx ry t fun i j e1 e2 t => by rw [e1, e2]; exact k.here R t Rd.ofInt
  | fdiv => exact s_ii rx ry t fun i j e1 e2 t => by rw [e1, e2]; exact ⟨t.1, t.2.1, k.here R t.2.2 Rd.ofInt⟩
  | mod => exact s_ii rx ry t fun i j e1 e2 t => by rw [e1, e2]; exact ⟨t.1, k.here R t.2 Rd.ofInt⟩
  | pow => exact s_ii rx ry t fun i j e1 e2 t => by rw [e1, e2]; exact ⟨t.1, t.2.1, t.2.2.1, k.here R t.2.2.2 Rd.ofInt⟩
  | mul =>
    simp only [tBin] at t
    split at t
    · rw [rx.toInt, ry.toInt]; exact ⟨t.1, k.here R t.2 Rd.ofInt⟩
    · obtain ⟨a, ds, rfl, f, r⟩ := rx.toLst
      rw [ry.toInt]
      simp only [rBin, R.le _ _ f, r.len]
      exact ⟨t.1, t.2.1, t.2.2.1, s_al t.2.2.2 R (r.rep _) k⟩
    · exact t.elim
theorem s_atL {vs : List Tv} {ds : List D} {j : Int} {k : Tv → Prop} {k' : D → Prop} (r : RdL g.toFr0 ds vs) (t : atL vs j k) (i : ∀ v d, k v → Rd g.toFr0 d v → k' d) :
    match ixN ds.length j with | some n => (match ds[n]? with | some d => k' d | none => False) | none => False := by
  unfold atL at t
  rw [r.len]
  split at t
  · rename_i n hn
    split at t
    · rename_i v hv
      obtain ⟨d, e, rd⟩ := r.get hv
      simp only [hn, e]
      exact i _ _ t rd
    · exact t.elim
  · exact t.elim
theorem s_ix (R : Rel g h) (rx : Rd g.toFr0 dx x) (ry : Rd g.toFr0 dy y) (t : tIx x y h Q) (k : Ok g Q Q') : rIx dx dy g.S Q' := by
  cases x with
  | tup vs =>
    obtain ⟨ds, rfl, r⟩ := rx.toTup
    exact s_asI ry t fun j t => s_atL r t fun v d q rd => k.here R q rd
  | frz ns =>
    rw [rx.toFrz]
    refine s_asI ry t fun j t => ?_
    unfold atL at t
    split at t
    · rename_i n hn
      split at t
      · rename_i v hv
        simp only [hn, hv]
        exact k.here R t Rd.ofInt
      · exact t.elim
    · exact t.elim
  | str s =>
    rw [rx.toStr]
    refine ⟨t.1, s_asI ry t.2 fun j t => ?_⟩
    unfold atL at t
    split at t
    · rename_i n hn
      split at t
      · rename_i v hv
        simp only [hn, hv]
        exact k.here R t Rd.ofStr
      · exact t.elim
    · exact t.elim
  | lst vs =>
    obtain ⟨a, ds, rfl, f, r⟩ := rx.toLst
    simp only [rIx, R.le _ _ f]
    exact s_asI ry t fun j t => s_atL r t fun v d q rd => k.here R q rd
  | obj i =>
    simp only [tIx] at t
    split at t
    · rename_i vs he
      obtain ⟨a, o', rfl, _, h2, ⟨ds, rfl, h3⟩, _⟩ := R.ref he rx
      simp only [rIx, h2]
      exact s_asI ry t fun j t => s_atL h3 t fun v d q rd => k.here R q rd
    · rename_i vs he
      obtain ⟨a, o', rfl, _, h2, ⟨ds, rfl, h3⟩, _⟩ := R.ref he rx
      obtain ⟨k1, k2⟩ := keysOk_of h3 ry t.1
      simp only [rIx, h2]
      refine ⟨k2, ?_⟩
      rcases h3.look k1 with ⟨e1, e2⟩ | ⟨v, d, e1, e2, e3⟩
      · have := t.2; rw [e1] at this; exact this.elim
      · have := t.2; rw [e1] at this; simp only [e2]; exact k.here R this e3
    · rename_i vs he
      obtain ⟨a, o', rfl, _, h2, ⟨ds, rfl, h3⟩, _⟩ := R.ref he rx
      obtain ⟨k1, k2⟩ := keysOk_of h3 ry t.1
      simp only [rIx, h2]
      refine ⟨k2, ?_⟩
      rcases h3.look k1 with ⟨e1, e2⟩ | ⟨v, d, e1, e2, e3⟩
      · have := t.2; rw [e1] at this; exact this.elim
      · have := t.2; rw [e1] at this; simp only [e2]; exact k.here R this e3
    · exact t.elim
  | _ => exact t.elim
def RdOp (g : Fr0) : Option D → Option Tv → Prop
  | none, none => True
  | some d, some v => Rd g d v
  | _, _ => False
theorem s_asO {l : Option Tv} {dl : Option D} {k : Option Int → Prop} {k' : Option Int → Prop} (r : RdOp g.toFr0 dl l) (t : asTO l k) (i : ∀ j, k j → k' j) : asO dl k' := by
  cases l with
  | none =>
    cases dl with
    | none => exact i _ t
    | some d => exact r.elim
  | some v =>
    cases dl with
    | none => exact r.elim
    | some d =>
      cases v with
      | int j => rw [Rd.toInt (g := g.toFr0) r]; exact i _ t
      | _ => exact t.elim
theorem s_intO {l : Option Tv} {dl : Option D} {k : Option Int → Prop} (r : RdOp g.toFr0 dl l) (t : asTO l k) : intO dl := by
  cases l with
  | none =>
    cases dl with
    | none => trivial
    | some d => exact r.elim
  | some v =>
    cases dl with
    | none => exact r.elim
    | some d =>
      cases v with
      | int j => rw [Rd.toInt (g := g.toFr0) r]; trivial
      | _ => exact t.elim
theorem cut_of {vs : List Tv} {ds : List D} {lo hi : Option Int} (r : RdL g.toFr0 ds vs) : RdL g.toFr0 (cutL ds lo hi) (cutL vs lo hi) := by
  unfold cutL
  rw [r.len]
  exact (r.drop _).take _
theorem s_slc {m : Bool} {lo hi : Option Tv} {dlo dhi : Option D} (R : Rel g h) (rx : Rd g.toFr0 dx x) (rl : RdOp g.toFr0 dlo lo) (rh : RdOp g.toFr0 dhi hi) (t : tSlc m x lo hi h Q) (k : Ok g Q Q') : rSlc dx dlo dhi g.S Q' := by
  refine s_asO rl t fun l t => s_asO rh t fun u t => ?_
  cases x with
  | tup vs =>
    obtain ⟨ds, rfl, r⟩ := rx.toTup
    exact k.here R t (Rd.ofTup (cut_of r))
  | str s => rw [rx.toStr]; exact ⟨t.1, k.here R t.2 Rd.ofStr⟩
  | lst vs =>
    obtain ⟨a, ds, rfl, f, r⟩ := rx.toLst
    simp only [R.le _ _ f]
    exact s_al t R (cut_of r) k
  | obj i =>
    simp only at t
    split at t
    · rename_i vs he
      obtain ⟨a, o', rfl, _, h2, ⟨ds, rfl, h3⟩, _⟩ := R.ref he rx
      simp only [h2]
      exact s_al t R (cut_of h3) k
    · exact t.elim
  | _ => exact t.elim
theorem s_rev {m : Bool} (R : Rel g h) (rx : Rd g.toFr0 dx x) (t : tRev m x h Q) (k : Ok g Q Q') : rRev dx g.S Q' := by
  unfold tRev at t
  split at t
  · rename_i vs he
    obtain ⟨a, ds, rfl, e, r⟩ := s_ls R rx he
    simp only [rRev, e]
    exact s_al t R r.rev k
  · exact t.elim
theorem isTy_of {n : String} {b : Bool} (R : Rel g h) (rx : Rd g.toFr0 dx x) (e : isTyT h x n = some b) : isTy g.S dx n = some b := by
  cases x with
  | non => rw [rx.toNon]; exact e
  | bl => rw [rx.toBl]; exact e
  | int => rw [rx.toInt]; exact e
  | str => rw [rx.toStr]; exact e
  | ty => cases e
  | cls => cases e
  | frz => rw [rx.toFrz]; exact e
  | tup => obtain ⟨ds, rfl, _⟩ := rx.toTup; exact e
  | lst => obtain ⟨a, ds, rfl, f, _⟩ := rx.toLst; simp only [isTy, R.le _ _ f]; exact e
  | obj i =>
    simp only [isTyT] at e
    split at e
    · rename_i vs he
      obtain ⟨a, o', rfl, _, h2, ⟨ds, rfl, h3⟩, _⟩ := R.ref he rx
      simp only [isTy, h2]; exact e
    · cases e
theorem s_isi {k k' : Bool → Prop} (R : Rel g h) (rx : Rd g.toFr0 dx x) (ry : Rd g.toFr0 dy y) (t : tIsi x y h k) (i : ∀ b, k b → k' b) : rIsi dx dy g.S k' := by
  unfold tIsi at t
  split at t
  · rw [ry.toTy]
    refine ⟨t.1, ?_⟩
    have t := t.2
    split at t
    · rename_i b hb
      rw [isTy_of R rx hb]; exact i _ t
    · exact t.elim
  · obtain ⟨ds, rfl, r⟩ := ry.toTup
    obtain ⟨d1, ds, rfl, r1, r⟩ := r.cases
    obtain ⟨d2, ds, rfl, r2, r⟩ := r.cases
    rw [r.nilV, r1.toTy, r2.toTy]
    refine ⟨t.1, ?_⟩
    have t := t.2
    split at t
    · rename_i b c hb hc
      rw [isTy_of R rx hb, isTy_of R rx hc]; exact i _ t
    · exact t.elim
  · exact t.elim
end
end Nf
/-! NfTq: builtins, methods, targets over trees keep NfSem's wishes. -/
set_option linter.all false
set_option maxHeartbeats 0
namespace Nf
mutual
def ofD : D → Tv
  | .non => .non
  | .bl b => .bl b
  | .int i => .int i
  | .str s => .str s
  | .tup ds => .tup (ofDs ds)
  | _ => .non
def ofDs : List D → List Tv
  | [] => []
  | d :: ds => ofD d :: ofDs ds
end
mutual
theorem ofD_toD : ∀ {v : Tv} {d : D}, v.toD = some d → ofD d = v
  | .non, _, h => by simp only [Tv.toD, Option.some.injEq] at h; subst h; simp only [ofD]
  | .bl b, _, h => by simp only [Tv.toD, Option.some.injEq] at h; subst h; simp only [ofD]
  | .int b, _, h => by simp only [Tv.toD, Option.some.injEq] at h; subst h; simp only [ofD]
  | .str b, _, h => by simp only [Tv.toD, Option.some.injEq] at h; subst h; simp only [ofD]
  | .tup vs, _, h => by
    simp only [Tv.toD, Option.map_eq_some_iff] at h
    obtain ⟨es, h, rfl⟩ := h
    simp only [ofD, ofDs_toDs h]
  | .ty _, _, h => by simp [Tv.toD] at h
  | .cls _, _, h => by simp [Tv.toD] at h
  | .frz _, _, h => by simp [Tv.toD] at h
  | .lst _, _, h => by simp [Tv.toD] at h
  | .obj _, _, h => by simp [Tv.toD] at h
theorem ofDs_toDs : ∀ {v : List Tv} {d : List D}, Tv.toDs v = some d → ofDs d = v
  | [], _, h => by simp only [Tv.toDs, Option.some.injEq] at h; subst h; simp only [ofDs]
  | v :: vs, _, h => by
    unfold Tv.toDs at h
    split at h
    · rename_i e1 es h1 h2
      cases h
      simp only [ofDs, ofD_toD h1, ofDs_toDs h2]
    · cases h
end
section
variable {g : Wd} {h : Hs} {Q : Tq} {Q' : DQ} {x y : Tv} {dx dy : D}
theorem ints_of : ∀ {vs : List Tv} {ds : List D} {ns : List Int}, RdL g.toFr0 ds vs → tInts vs = some ns → ds = ns.map .int ∧ intsOf ds = some ns ∧ vs = ns.map .int
  | [], _, _, r, e => by
    simp only [tInts, Option.some.injEq] at e; subst e
    rw [r.nilV]; exact ⟨rfl, rfl, rfl⟩
  | v :: vs, _, _, r, e => by
    obtain ⟨d, ds, rfl, r1, r2⟩ := r.cases
    unfold tInts at e
    split at e
    · cases ‹_ = []›
    · rename_i i w heq
      cases heq
      simp only [Option.map_eq_some_iff] at e
      obtain ⟨ns, e, rfl⟩ := e
      obtain ⟨a, b, c⟩ := ints_of r2 e
      rw [r1.toInt]
      exact ⟨by rw [a]; rfl, by simp only [intsOf, b, Option.map_some], by rw [c]; rfl⟩
    · cases e
theorem strs_of : ∀ {vs : List Tv} {ds : List D} {ns : List String}, RdL g.toFr0 ds vs → tStrs vs = some ns → strsOf ds = some ns
  | [], _, _, r, e => by
    simp only [tStrs, Option.some.injEq] at e; subst e
    rw [r.nilV]; rfl
  | v :: vs, _, _, r, e => by
    obtain ⟨d, ds, rfl, r1, r2⟩ := r.cases
    unfold tStrs at e
    split at e
    · cases ‹_ = []›
    · rename_i i w heq
      cases heq
      simp only [Option.map_eq_some_iff] at e
      obtain ⟨ns, e, rfl⟩ := e
      rw [r1.toStr]
      simp only [strsOf, strs_of r2 e, Option.map_some]
    · cases e
/-- all of a list are data -/
theorem data_of {P : Tv → Prop} (hP : ∀ v, P v → ∃ d, v.toD = some d) : ∀ {vs : List Tv} {ds : List D}, RdL g.toFr0 ds vs → (∀ v ∈ vs, P v) → ds.map ofD = vs ∧ (∀ d ∈ ds, Rd g.toFr0 d (ofD d)) ∧ ∀ d ∈ ds, P (ofD d)
  | [], _, r, _ => by rw [r.nilV]; exact ⟨rfl, fun _ h => (nomatch h), fun _ h => (nomatch h)⟩
  | v :: vs, _, r, p => by
    obtain ⟨d, ds, rfl, r1, r2⟩ := r.cases
    obtain ⟨e, he⟩ := hP v (p v List.mem_cons_self)
    obtain rfl := rd_toD r1 he
    obtain ⟨i1, i2, i3⟩ := data_of hP r2 fun v hv => p v (List.mem_cons_of_mem _ hv)
    have q := ofD_toD he
    refine ⟨by rw [List.map_cons, q, i1], fun e hm => ?_, fun e hm => ?_⟩
    · rcases List.mem_cons.mp hm with rfl | hm
      · rw [q]; exact r1
      · exact i2 e hm
    · rcases List.mem_cons.mp hm with rfl | hm
      · rw [q]; exact p v List.mem_cons_self
      · exact i3 e hm
theorem rdl_of : ∀ {ds : List D}, (∀ d ∈ ds, Rd g.toFr0 d (ofD d)) → RdL g.toFr0 ds (ds.map ofD)
  | [], _ => RdL.nil
  | d :: ds, p => RdL.cons (p d List.mem_cons_self) (rdl_of fun e h => p e (List.mem_cons_of_mem _ h))
theorem isInt_d {v : Tv} (p : v.isInt = true) : ∃ d, v.toD = some d := by cases v <;> simp [Tv.isInt, Tv.isStr] at p <;> simp [Tv.toD]
theorem isStr_d {v : Tv} (p : v.isStr = true) : ∃ d, v.toD = some d := by cases v <;> simp [Tv.isInt, Tv.isStr] at p <;> simp [Tv.toD]
theorem isPair_v {v : Tv} (p : v.isPair = true) : ∃ i j, v = .tup [.int i, .int j] := by
  unfold Tv.isPair at p
  split at p
  · exact ⟨_, _, rfl⟩
  · cases p
theorem isPair_d {v : Tv} (p : v.isPair = true) : ∃ d, v.toD = some d := by
  obtain ⟨i, j, rfl⟩ := isPair_v p
  exact ⟨.tup [.int i, .int j], by simp [Tv.toD, Tv.toDs]⟩
theorem int_ofD {d : D} (p : (ofD d).isInt = true) : ∃ i, d = .int i := by
  cases d <;> simp [ofD, Tv.isInt] at p
  exact ⟨_, rfl⟩
theorem str_ofD {d : D} (p : (ofD d).isStr = true) : ∃ i, d = .str i := by
  cases d <;> simp [ofD, Tv.isStr] at p
  exact ⟨_, rfl⟩
theorem pair_ofD {d : D} (p : (ofD d).isPair = true) : ∃ i j, d = .tup [.int i, .int j] := by
  obtain ⟨i, j, e⟩ := isPair_v p
  cases d with
  | tup ds =>
    simp only [ofD, Tv.tup.injEq] at e
    match ds with
    | [] => simp [ofDs] at e
    | [a] => simp [ofDs] at e
    | [a, b] =>
      simp only [ofDs, List.cons.injEq, and_true] at e
      obtain ⟨e1, e2⟩ := e
      cases a <;> simp [ofD] at e1
      cases b <;> simp [ofD] at e2
      exact ⟨_, _, rfl⟩
    | a :: b :: c :: r => simp [ofDs] at e
  | _ => simp [ofD] at e
theorem lt_ofD {a b : D} (p : (ofD a).isInt = true ∧ (ofD b).isInt = true ∨ (ofD a).isPair = true ∧ (ofD b).isPair = true) : ltT (ofD a) (ofD b) = ltD a b := by
  rcases p with ⟨p, q⟩ | ⟨p, q⟩
  · obtain ⟨i, rfl⟩ := int_ofD p
    obtain ⟨j, rfl⟩ := int_ofD q
    simp [ofD, ltT, ltD]
  · obtain ⟨i, j, rfl⟩ := pair_ofD p
    obtain ⟨k, l, rfl⟩ := pair_ofD q
    simp [ofD, ofDs, ltT, ltTs, ltD, ltL]
/-- a sorted list of data -/
theorem s_sorted {m : Bool} {P : Tv → Prop} {vs : List Tv} {ds ys : List D} (hP : ∀ v, P v → ∃ d, v.toD = some d) (hl : ∀ a b, P (ofD a) → P (ofD b) → ltT (ofD a) (ofD b) = ltD a b) (R : Rel g h) (r : RdL g.toFr0 ds vs) (p : ∀ v ∈ vs, P v)
    (t : ∀ ys, ys.Perm vs → tSorted ys → tAl m ys h Q) (k : Ok g Q Q') (hy : ys.Perm ds) (hs : sorted1 ys) : alloc g.S (.lst ys) Q' := by
  obtain ⟨i1, i2, i3⟩ := data_of hP r p
  have mm : ∀ d ∈ ys, d ∈ ds := fun d hd => hy.mem_iff.mp hd
  refine s_al (t (ys.map ofD) (i1 ▸ hy.map ofD) ?_) R (rdl_of fun d hd => i2 d (mm d hd)) k
  unfold tSorted
  rw [List.pairwise_map]
  exact hs.imp_of_mem fun {a b} ha hb hab => (hl b a (i3 b (mm b hb)) (i3 a (mm a ha))).trans hab
theorem s_sortedP {m : Bool} {P : Tv → Prop} {vs : List Tv} {ds ys : List D} (hP : ∀ v, P v → ∃ d, v.toD = some d) (R : Rel g h) (r : RdL g.toFr0 ds vs) (p : ∀ v ∈ vs, P v)
    (t : ∀ ys, ys.Perm vs → tAl m ys h Q) (k : Ok g Q Q') (hy : ys.Perm ds) : alloc g.S (.lst ys) Q' := by
  obtain ⟨i1, i2, i3⟩ := data_of hP r p
  have mm : ∀ d ∈ ys, d ∈ ds := fun d hd => hy.mem_iff.mp hd
  exact s_al (t (ys.map ofD) (i1 ▸ hy.map ofD)) R (rdl_of fun d hd => i2 d (mm d hd)) k
theorem all_int {vs : List Tv} {ds : List D} (r : RdL g.toFr0 ds vs) (p : ∀ v ∈ vs, v.isInt = true) : ∀ d ∈ ds, d.isInt = true := fun d hd => by
  obtain ⟨i1, i2, i3⟩ := data_of (P := fun v => v.isInt = true) (fun v => isInt_d) r p
  obtain ⟨i, rfl⟩ := int_ofD (i3 d hd); rfl
theorem all_pair {vs : List Tv} {ds : List D} (r : RdL g.toFr0 ds vs) (p : ∀ v ∈ vs, v.isPair = true) : ∀ d ∈ ds, d.isPair = true := fun d hd => by
  obtain ⟨i1, i2, i3⟩ := data_of (P := fun v => v.isPair = true) (fun v => isPair_d) r p
  obtain ⟨i, j, rfl⟩ := pair_ofD (i3 d hd); rfl
theorem all_str {vs : List Tv} {ds : List D} (r : RdL g.toFr0 ds vs) (p : ∀ v ∈ vs, v.isStr = true) : ∀ d ∈ ds, d.isStr = true := fun d hd => by
  obtain ⟨i1, i2, i3⟩ := data_of (P := fun v => v.isStr = true) (fun v => isStr_d) r p
  obtain ⟨i, rfl⟩ := str_ofD (i3 d hd); rfl
theorem s_sort1 {m : Bool} {vs : List Tv} {ds : List D} (R : Rel g h) (r : RdL g.toFr0 ds vs) (t : tSorted1 m vs h Q) (k : Ok g Q Q') : sortable ds ∧ ∀ ys, ys.Perm ds → sorted1 ys → alloc g.S (.lst ys) Q' := by
  obtain ⟨t1, t2⟩ := t
  rcases t1 with p | p
  · exact ⟨.inl (all_int r p), fun ys hy hs => s_sorted (P := fun v => v.isInt = true) (fun v => isInt_d) (fun a b pa pb => lt_ofD (.inl ⟨pa, pb⟩)) R r p t2 k hy hs⟩
  · exact ⟨.inr (all_pair r p), fun ys hy hs => s_sorted (P := fun v => v.isPair = true) (fun v => isPair_d) (fun a b pa pb => lt_ofD (.inr ⟨pa, pb⟩)) R r p t2 k hy hs⟩
theorem key_pair {p : D × D} : p.1.isPair = true ↔ p.1.isPair = true := Iff.rfl
theorem s_sort {m : Bool} (R : Rel g h) (rx : Rd g.toFr0 dx x) (t : tSort m x h Q) (k : Ok g Q Q') : rBi .sorted [dx] g.S Q' := by
  cases x with
  | lst vs =>
    obtain ⟨a, ds, rfl, f, r⟩ := rx.toLst
    simp only [rBi, R.le _ _ f]
    exact s_sort1 R r t k
  | obj i =>
    simp only [tSort] at t
    split at t
    · rename_i vs he
      obtain ⟨a, o', rfl, _, h2, ⟨ds, rfl, h3⟩, _⟩ := R.ref he rx
      simp only [rBi, h2]
      exact s_sort1 R h3 t k
    · rename_i kvs he
      obtain ⟨a, o', rfl, _, h2, ⟨ds, rfl, h3⟩, _⟩ := R.ref he rx
      simp only [rBi, h2]
      have hk := h3.keys
      rcases t with ⟨p, t⟩ | ⟨p, l, t⟩
      · have p2 : ∀ v ∈ kvs.map (·.1), v.isPair = true := fun v hv => by
          obtain ⟨q, hq, rfl⟩ := List.mem_map.mp hv; exact p q hq
        exact .inl ⟨fun q hq => all_pair hk p2 q.1 (List.mem_map_of_mem hq), fun ys hy hs => s_sorted (P := fun v => v.isPair = true) (fun v => isPair_d) (fun a b pa pb => lt_ofD (.inr ⟨pa, pb⟩)) R hk p2 t k hy hs⟩
      · have p2 : ∀ v ∈ kvs.map (·.1), v.isStr = true := fun v hv => by
          obtain ⟨q, hq, rfl⟩ := List.mem_map.mp hv; exact p q hq
        exact .inr ⟨fun q hq => all_str hk p2 q.1 (List.mem_map_of_mem hq), by rw [h3.len]; exact l, fun ys hy => s_sortedP (P := fun v => v.isStr = true) (fun v => isStr_d) R hk p2 t k hy⟩
    · rename_i ns he
      obtain ⟨a, o', rfl, _, h2, h3, _⟩ := R.ref he rx
      obtain rfl : o' = .set (ns.map .int) := h3
      simp only [rBi, h2]
      refine ⟨by rw [List.length_map]; exact t.1, fun x hx => ?_, fun ys hp hm => s_al (t.2 ys hp fun i => ?_) R (RdL.mapI _ _ (fun _ => Rd.ofInt) ys) k⟩
      · obtain ⟨i, _, rfl⟩ := List.mem_map.mp hx; rfl
      · rw [hm i, List.mem_map]
        exact ⟨fun ⟨j, hj, e⟩ => by cases e; exact hj, fun hi => ⟨i, hi, rfl⟩⟩
    · exact t.elim
  | _ => exact t.elim
theorem ltT_int {a b : D} (pa : (ofD a).isInt = true) (pb : (ofD b).isInt = true) : ltT (ofD a) (ofD b) = ltD a b := lt_ofD (.inl ⟨pa, pb⟩)
theorem s_bi {m : Bool} {f : BI} {vs : List Tv} {ds : List D} (R : Rel g h) (r : RdL g.toFr0 ds vs) (t : tBi m f vs h Q) (k : Ok g Q Q') : rBi f ds g.S Q' := by
  unfold tBi at t
  split at t
  · -- len
    rename_i x
    obtain ⟨d, ds, rfl, r1, r2⟩ := r.cases
    rw [r2.nilV]
    cases x with
    | str s => rw [r1.toStr]; exact ⟨t.1, k.here R t.2 Rd.ofInt⟩
    | tup vs => obtain ⟨ds, rfl, q⟩ := r1.toTup; simp only [rBi, q.len]; exact k.here R t Rd.ofInt
    | frz ns => rw [r1.toFrz]; exact k.here R t Rd.ofInt
    | lst vs =>
      obtain ⟨a, ds, rfl, f, q⟩ := r1.toLst
      simp only [rBi, R.le _ _ f, q.len]; exact k.here R t Rd.ofInt
    | obj i =>
      simp only [tLen] at t
      split at t
      · rename_i vs he
        obtain ⟨a, o', rfl, _, h2, ⟨ds, rfl, h3⟩, _⟩ := R.ref he r1
        simp only [rBi, h2, h3.len]; exact k.here R t Rd.ofInt
      · rename_i vs he
        obtain ⟨a, o', rfl, _, h2, ⟨ds, rfl, h3⟩, _⟩ := R.ref he r1
        simp only [rBi, h2, h3.len]; exact k.here R t Rd.ofInt
      · rename_i vs he
        obtain ⟨a, o', rfl, _, h2, ⟨ds, rfl, h3⟩, _⟩ := R.ref he r1
        simp only [rBi, h2, h3.len]; exact k.here R t Rd.ofInt
      · exact t.elim
    | _ => exact t.elim
  · -- int
    rename_i x
    obtain ⟨d, ds, rfl, r1, r2⟩ := r.cases
    rw [r2.nilV]
    cases x with
    | int i => rw [r1.toInt]; exact k.here R t Rd.ofInt
    | bl i => rw [r1.toBl]; exact k.here R t Rd.ofInt
    | str i =>
      rw [r1.toStr]
      simp only at t
      split at t
      · rename_i j hj
        simp only [rBi, hj]
        exact k.here R t Rd.ofInt
      · exact t.elim
    | _ => exact t.elim
  · -- str
    rename_i x
    obtain ⟨d, ds, rfl, r1, r2⟩ := r.cases
    rw [r2.nilV]
    cases x with
    | int i => rw [r1.toInt]; exact ⟨t.1, k.here R t.2 Rd.ofStr⟩
    | str z => rw [r1.toStr]; exact k.here R t Rd.ofStr
    | _ => exact t.elim
  · -- list
    rename_i x
    obtain ⟨d, ds, rfl, r1, r2⟩ := r.cases
    rw [r2.nilV]
    cases x with
    | tup vs => obtain ⟨ds, rfl, q⟩ := r1.toTup; exact s_al t R q k
    | frz ns => rw [r1.toFrz]; exact s_al t R (RdL.mapI _ _ (fun _ => Rd.ofInt) ns) k
    | lst vs =>
      obtain ⟨a, ds, rfl, f, q⟩ := r1.toLst
      simp only [rBi, R.le _ _ f]; exact s_al t R q k
    | obj i =>
      simp only [tList] at t
      split at t
      · rename_i vs he
        obtain ⟨a, o', rfl, _, h2, ⟨ds, rfl, h3⟩, _⟩ := R.ref he r1
        simp only [rBi, h2]; exact s_al t R h3 k
      · exact t.elim
    | _ => exact t.elim
  · -- tuple
    rename_i x
    obtain ⟨d, ds, rfl, r1, r2⟩ := r.cases
    rw [r2.nilV]
    cases x with
    | tup vs => obtain ⟨ds, rfl, q⟩ := r1.toTup; exact k.here R t (Rd.ofTup q)
    | lst vs =>
      obtain ⟨a, ds, rfl, f, q⟩ := r1.toLst
      simp only [rBi, R.le _ _ f]; exact k.here R t (Rd.ofTup q)
    | obj i =>
      simp only [tTuple] at t
      split at t
      · rename_i vs he
        obtain ⟨a, o', rfl, _, h2, ⟨ds, rfl, h3⟩, _⟩ := R.ref he r1
        simp only [rBi, h2]; exact k.here R t (Rd.ofTup h3)
      · exact t.elim
    | _ => exact t.elim
  · -- dict
    rename_i x
    obtain ⟨d, ds, rfl, r1, r2⟩ := r.cases
    rw [r2.nilV]
    split at t
    · rename_i xs hx
      split at t
      · rename_i ps hp
        obtain ⟨a, ds, rfl, e, q⟩ := s_ls R r1 hx
        obtain ⟨qs, e1, e2⟩ := pairs_of q hp (keysAll_toD t.1)
        simp only [rBi, e, e1]
        exact ⟨keysAll_of e2 t.1, by rw [e2.len]; exact t.2.1, s_new t.2.2 R ⟨_, rfl, RdK.merge e2 RdK.nil⟩ k⟩
      · exact t.elim
    · exact t.elim
  · -- set
    rename_i x
    obtain ⟨d, ds, rfl, r1, r2⟩ := r.cases
    rw [r2.nilV]
    split at t
    · rename_i xs hx
      split at t
      · rename_i ns hp
        obtain ⟨a, ds, rfl, e, q⟩ := s_ls R r1 hx
        obtain ⟨e1, e2, e3⟩ := ints_of q hp
        simp only [rBi, e]
        refine ⟨fun x hx => ?_, by rw [q.len]; exact t.1, s_new t.2 R (by show DO.set ds = _; rw [e1]) k⟩
        rw [e1] at hx
        obtain ⟨i, _, rfl⟩ := List.mem_map.mp hx; rfl
      · exact t.elim
    · exact t.elim
  · -- sorted
    obtain ⟨d, ds, rfl, r1, r2⟩ := r.cases
    rw [r2.nilV]
    exact s_sort R r1 t k
  · -- min2
    obtain ⟨d, ds, rfl, r1, r2⟩ := r.cases
    obtain ⟨d2, ds, rfl, r3, r2⟩ := r2.cases
    rw [r2.nilV]
    exact s_ii r1 r3 t fun i j e1 e2 t => by rw [e1, e2]; exact k.here R t Rd.ofInt
  · obtain ⟨d, ds, rfl, r1, r2⟩ := r.cases
    obtain ⟨d2, ds, rfl, r3, r2⟩ := r2.cases
    rw [r2.nilV]
    exact s_ii r1 r3 t fun i j e1 e2 t => by rw [e1, e2]; exact k.here R t Rd.ofInt
  · -- min
    rename_i x
    obtain ⟨d, ds, rfl, r1, r2⟩ := r.cases
    rw [r2.nilV]
    split at t
    · rename_i xs hx
      obtain ⟨a, ds, rfl, e, q⟩ := s_ls R r1 hx
      obtain ⟨t1, t2, t3⟩ := t
      obtain ⟨i1, i2, i3⟩ := data_of (P := fun v => v.isInt = true) (fun v => isInt_d) q t2
      simp only [rBi, e]
      refine ⟨fun z => t1 (by rw [← i1, z]; rfl), all_int q t2, fun m hm hl => k.here R (t3 (ofD m) (i1 ▸ List.mem_map_of_mem hm) fun v hv => ?_) (i2 m hm)⟩
      rw [← i1] at hv
      obtain ⟨b, hb, rfl⟩ := List.mem_map.mp hv
      exact (ltT_int (i3 b hb) (i3 m hm)).trans (hl b hb)
    · exact t.elim
  · rename_i x
    obtain ⟨d, ds, rfl, r1, r2⟩ := r.cases
    rw [r2.nilV]
    split at t
    · rename_i xs hx
      obtain ⟨a, ds, rfl, e, q⟩ := s_ls R r1 hx
      obtain ⟨t1, t2, t3⟩ := t
      obtain ⟨i1, i2, i3⟩ := data_of (P := fun v => v.isInt = true) (fun v => isInt_d) q t2
      simp only [rBi, e]
      refine ⟨fun z => t1 (by rw [← i1, z]; rfl), all_int q t2, fun m hm hl => k.here R (t3 (ofD m) (i1 ▸ List.mem_map_of_mem hm) fun v hv => ?_) (i2 m hm)⟩
      rw [← i1] at hv
      obtain ⟨b, hb, rfl⟩ := List.mem_map.mp hv
      exact (ltT_int (i3 m hm) (i3 b hb)).trans (hl b hb)
    · exact t.elim
  · obtain ⟨d, ds, rfl, r1, r2⟩ := r.cases
    obtain ⟨d2, ds, rfl, r3, r2⟩ := r2.cases
    rw [r2.nilV]
    exact s_isi R r1 r3 t fun b hb => k.here R hb Rd.ofBl
  · exact t.elim
theorem rdoL {g : Fr0} {vs : List Tv} {ds : List D} (r : RdL g ds vs) : RdO g (.lst ds) (.lst vs) := ⟨_, rfl, r⟩
theorem rdoD {g : Fr0} {vs : List (Tv × Tv)} {ds : List (D × D)} (r : RdK g ds vs) : RdO g (.dic ds) (.dic vs) := ⟨_, rfl, r⟩
theorem rdoI {g : Fr0} {c : String} {vs : List (String × Tv)} {ds : List (String × D)} (r : RdA g ds vs) : RdO g (.ins c ds) (.ins c vs) := ⟨_, rfl, r⟩
/-- something numbered is changed -/
theorem s_upd {i : Nat} {o o2 : To} {o' : DO} {v : Tv} {d : D} {a : Nat} (R : Rel g h) (he : h[i]? = some o) (al : o ≠ .dead) (nf : ∀ kvs, o ≠ .fdc kvs) (ha : g.r[i]? = some a) (r : RdO g.toFr0 o' o2) (q : Q v (h.set i o2)) (rd : Rd g.toFr0 d v) (k : Ok g Q Q') : Q' d (put g.S a o') := by
  obtain ⟨a', o1, h1, h2, h3, h4⟩ := R.ob i o he
  rw [ha] at h1; cases h1
  refine k v (h.set i o2) d (g.upd a o') q (rel_upd R ha (h4 al) r) (gr_upd h2 fun kvs e => ?_) rd
  subst e
  cases o with
  | fdc kvs => exact nf kvs rfl
  | dead => exact al rfl
  | lst vs => obtain ⟨ds, e, _⟩ := h3; cases e
  | dic vs => obtain ⟨ds, e, _⟩ := h3; cases e
  | set ns => cases h3
  | ins c fs => obtain ⟨ds, e, _⟩ := h3; cases e
theorem s_updH {K : Hs → Prop} {K' : Store → Prop} {i : Nat} {o o2 : To} {o' : DO} {a : Nat} (R : Rel g h) (he : h[i]? = some o) (al : o ≠ .dead) (nf : ∀ kvs, o ≠ .fdc kvs) (ha : g.r[i]? = some a) (r : RdO g.toFr0 o' o2) (q : K (h.set i o2)) (k : OkH g K K') : K' (put g.S a o') :=
  s_upd (Q := fun _ h => K h) (Q' := fun _ S => K' S) (v := .non) (d := .non) R he al nf ha r q Rd.ofNon fun v h' d g' q R x _ => k h' g' q R x
theorem s_idx {vs ws : List Tv} {ds es : List D} {a : Nat} (m : LM) (hm : m = .index) (R : Rel g h) (hS : g.S a = some (.lst ds)) (r : RdL g.toFr0 ds vs) (r2 : RdL g.toFr0 es ws) (t : tIdx vs ws h Q) (k : Ok g Q Q') : rLm m (.ref a) es g.S Q' := by
  subst hm
  unfold tIdx at t
  split at t
  · obtain ⟨d, ds, rfl, r3, r4⟩ := r2.cases
    rw [r4.nilV]
    split at t
    · rename_i y u ts h1 h2
      split at t
      · rename_i n hn
        simp only [rLm, hS, s_tr R _ _ r3 h1, s_trs R _ _ r h2, hn]
        exact k.here R t Rd.ofInt
      · exact t.elim
    · exact t.elim
  · exact t.elim
theorem s_lm1 {i a : Nat} {xs ws : List Tv} {ds es : List D} {m : LM} (R : Rel g h) (he : h[i]? = some (.lst xs)) (ha : g.r[i]? = some a) (hS : g.S a = some (.lst ds)) (r : RdL g.toFr0 ds xs) (r2 : RdL g.toFr0 es ws) (t : tLm1 i xs m ws h Q) (k : Ok g Q Q') : rLm m (.ref a) es g.S Q' := by
  have al : To.lst xs ≠ .dead := fun e => by cases e
  have nf : ∀ kvs, To.lst xs ≠ .fdc kvs := fun _ e => by cases e
  cases m with
  | append =>
    simp only [tLm1] at t
    split at t
    · obtain ⟨d, ds, rfl, r3, r4⟩ := r2.cases
      rw [r4.nilV]
      simp only [rLm, hS, r.len]
      exact ⟨t.1, s_upd R he al nf ha (rdoL (r.app (RdL.cons r3 RdL.nil))) t.2 Rd.ofNon k⟩
    · exact t.elim
  | extend =>
    simp only [tLm1] at t
    split at t
    · obtain ⟨d, ds, rfl, r3, r4⟩ := r2.cases
      rw [r4.nilV]
      split at t
      · rename_i ys hy
        obtain ⟨b, es, rfl, e, q⟩ := s_ls R r3 hy
        simp only [rLm, hS, e, r.len, q.len]
        exact ⟨t.1, s_upd R he al nf ha (rdoL (r.app q)) t.2 Rd.ofNon k⟩
      · exact t.elim
    · exact t.elim
  | pop =>
    simp only [tLm1] at t
    split at t
    · obtain ⟨d, ds, rfl, r3, r4⟩ := r2.cases
      rw [r4.nilV, r3.toInt]
      split at t
      · rename_i n hn
        split at t
        · rename_i y hy
          obtain ⟨dy, e, rd⟩ := r.get hy
          simp only [rLm, hS, r.len, hn, e]
          exact s_upd R he al nf ha (rdoL (r.eraseIdx n)) t rd k
        · exact t.elim
      · exact t.elim
    · exact t.elim
  | remove =>
    simp only [tLm1] at t
    split at t
    · obtain ⟨d, ds, rfl, r3, r4⟩ := r2.cases
      rw [r4.nilV, r3.toInt]
      split at t
      · rename_i ns hn
        obtain ⟨e1, e2, e3⟩ := ints_of r hn
        simp only [rLm, hS, e2]
        exact ⟨t.1, s_upd R he al nf ha (rdoL (RdL.mapI _ _ (fun _ => Rd.ofInt) _)) t.2 Rd.ofNon k⟩
      · exact t.elim
    · exact t.elim
  | reverse =>
    simp only [tLm1] at t
    split at t
    · rw [r2.nilV]
      simp only [rLm, hS]
      exact s_upd R he al nf ha (rdoL r.rev) t Rd.ofNon k
    · exact t.elim
  | clear =>
    simp only [tLm1] at t
    split at t
    · rw [r2.nilV]
      simp only [rLm, hS]
      exact s_upd R he al nf ha (rdoL RdL.nil) t Rd.ofNon k
    · exact t.elim
  | index => exact t.elim
theorem s_lm {m : LM} {ws : List Tv} {es : List D} (R : Rel g h) (rx : Rd g.toFr0 dx x) (r2 : RdL g.toFr0 es ws) (t : tLm m x ws h Q) (k : Ok g Q Q') : rLm m dx es g.S Q' := by
  unfold tLm at t
  split at t
  · split at t
    · rename_i xs hx
      obtain ⟨a, ds, rfl, e, q⟩ := s_ls R rx hx
      exact s_idx .index rfl R e q r2 t k
    · exact t.elim
  · split at t
    · split at t
      · rename_i xs he
        obtain ⟨a, o', rfl, h1, h2, ⟨ds, rfl, h3⟩, _⟩ := R.ref he rx
        exact s_lm1 R he h1 h2 h3 r2 t k
      · exact t.elim
    · exact t.elim
theorem s_get {kvs : List (Tv × Tv)} {dk : List (D × D)} {ws : List Tv} {es : List D} {a : Nat} (R : Rel g h) (hS : g.S a = some (.dic dk) ∨ g.S a = some (.fdc dk)) (r : RdK g.toFr0 dk kvs) (r2 : RdL g.toFr0 es ws) (t : tGet kvs ws h Q) (k : Ok g Q Q') : rDm .get (.ref a) es g.S Q' := by
  unfold tGet at t
  split at t
  · obtain ⟨d, ds, rfl, r3, r4⟩ := r2.cases
    rw [r4.nilV]
    obtain ⟨k1, k2⟩ := keysOk_of r r3 t.1
    have : keysOk d dk ∧ Q' ((look dk d).getD .non) g.S := by
      refine ⟨k2, ?_⟩
      rcases r.look k1 with ⟨e1, e2⟩ | ⟨v, dv, e1, e2, e3⟩
      · have t := t.2; rw [e1] at t; rw [e2]; exact k.here R t Rd.ofNon
      · have t := t.2; rw [e1] at t; rw [e2]; exact k.here R t e3
    rcases hS with e | e <;> simp only [rDm, e] <;> exact this
  · obtain ⟨d, ds, rfl, r3, r4⟩ := r2.cases
    obtain ⟨d2, ds, rfl, r5, r4⟩ := r4.cases
    rw [r4.nilV]
    obtain ⟨k1, k2⟩ := keysOk_of r r3 t.1
    have : keysOk d dk ∧ Q' ((look dk d).getD d2) g.S := by
      refine ⟨k2, ?_⟩
      rcases r.look k1 with ⟨e1, e2⟩ | ⟨v, dv, e1, e2, e3⟩
      · have t := t.2; rw [e1] at t; rw [e2]; exact k.here R t r5
      · have t := t.2; rw [e1] at t; rw [e2]; exact k.here R t e3
    rcases hS with e | e <;> simp only [rDm, e] <;> exact this
  · exact t.elim
theorem s_dm {m : DM} {ws : List Tv} {es : List D} (R : Rel g h) (rx : Rd g.toFr0 dx x) (r2 : RdL g.toFr0 es ws) (t : tDm m x ws h Q) (k : Ok g Q Q') : rDm m dx es g.S Q' := by
  unfold tDm at t
  split at t
  · split at t
    · rename_i i _ kvs he
      obtain ⟨a, o', rfl, h1, h2, ⟨dk, rfl, r⟩, hF⟩ := R.ref he rx
      have al : To.dic kvs ≠ .dead := fun e => by cases e
      have nf : ∀ l, To.dic kvs ≠ .fdc l := fun _ e => by cases e
      split at t
      · exact s_get R (.inl h2) r r2 t k
      · split at t
        · obtain ⟨d, ds, rfl, r3, r4⟩ := r2.cases
          rw [r4.nilV]
          obtain ⟨k1, k2⟩ := keysOk_of r r3 t.1
          simp only [rDm, h2]
          refine ⟨k2, ?_⟩
          rcases r.look k1 with ⟨e1, e2⟩ | ⟨v, dv, e1, e2, e3⟩
          · have t := t.2; rw [e1] at t; exact t.elim
          · have t := t.2; rw [e1] at t; simp only [e2]; exact s_upd R he al nf h1 (rdoD (r.drop k1)) t e3 k
        · obtain ⟨d, ds, rfl, r3, r4⟩ := r2.cases
          obtain ⟨d2, ds, rfl, r5, r4⟩ := r4.cases
          rw [r4.nilV]
          obtain ⟨k1, k2⟩ := keysOk_of r r3 t.1
          simp only [rDm, h2]
          refine ⟨k2, ?_⟩
          rcases r.look k1 with ⟨e1, e2⟩ | ⟨v, dv, e1, e2, e3⟩
          · have t := t.2; rw [e1] at t; rw [e2]; exact s_upd R he al nf h1 (rdoD (r.drop k1)) t r5 k
          · have t := t.2; rw [e1] at t; rw [e2]; exact s_upd R he al nf h1 (rdoD (r.drop k1)) t e3 k
        · exact t.elim
      · split at t
        · obtain ⟨d, ds, rfl, r3, r4⟩ := r2.cases
          rw [r4.nilV]
          split at t
          · rename_i xs hx
            split at t
            · rename_i ps hp
              obtain ⟨b, ds, rfl, e, q⟩ := s_ls R r3 hx
              obtain ⟨qs, e1, e2⟩ := pairs_of q hp fun p hp => keysAll_toD t.1 p (List.mem_append_right _ hp)
              simp only [rDm, h2, e, e1]
              refine ⟨keysAll_of (r.app e2) t.1, by rw [r.len, e2.len]; exact t.2.1, fun z => ?_, s_upd R he al nf h1 (rdoD (RdK.merge e2 r)) t.2.2 Rd.ofNon k⟩
              subst z
              rw [h2] at e; cases e
            · exact t.elim
          · split at t
            · rename_i j _
              split at t
              · rename_i _ ps he2
                obtain ⟨b, o2, rfl, h3, h4, ⟨qs, rfl, e2⟩, hF2⟩ := R.ref he2 r3
                simp only [rDm, h2, h4]
                refine ⟨(r.app e2).flat t.1, by rw [r.len, e2.len]; exact t.2.1, fun z => ?_, s_upd R he al nf h1 (rdoD (RdK.merge e2 r)) t.2.2.2 Rd.ofNon k⟩
                subst z
                have l1 := (List.getElem?_eq_some_iff.mp h1).1
                have l3 := (List.getElem?_eq_some_iff.mp h3).1
                have := (List.getElem_inj (xs := g.r) (h₀ := l3) (h₁ := l1) R.nd).mp (by rw [(List.getElem?_eq_some_iff.mp h1).2, (List.getElem?_eq_some_iff.mp h3).2])
                exact t.2.2.1 this
              · exact t.elim
            · exact t.elim
        · exact t.elim
    · rename_i i _ kvs he
      obtain ⟨a, o', rfl, h1, h2, ⟨dk, rfl, r⟩, hF⟩ := R.ref he rx
      split at t
      · exact s_get R (.inr h2) r r2 t k
      · exact t.elim
    · exact t.elim
  · exact t.elim
theorem s_sm {w : Bool} {m : SM} {ws : List Tv} {es : List D} (R : Rel g h) (rx : Rd g.toFr0 dx x) (r2 : RdL g.toFr0 es ws) (t : tSm w m x ws h Q) (k : Ok g Q Q') : rSm m dx es g.S Q' := by
  unfold tSm at t
  split at t
  · obtain ⟨d, ds, rfl, r3, r4⟩ := r2.cases
    rw [r4.nilV, r3.toStr, rx.toStr]
    split at t
    · rename_i ch hc
      simp only [rSm, hc]
      exact ⟨t.1, t.2.1, s_al t.2.2 R (RdL.mapI _ _ (fun _ => Rd.ofStr) _) k⟩
    · exact t.elim
  · obtain ⟨d, ds, rfl, r3, r4⟩ := r2.cases
    rw [r4.nilV, rx.toStr]
    split at t
    · rename_i xs hx
      split at t
      · rename_i ss hs
        obtain ⟨a, ds, rfl, e, q⟩ := s_ls R r3 hx
        simp only [rSm, e, strs_of q hs]
        exact ⟨t.1, k.here R t.2 Rd.ofStr⟩
      · exact t.elim
    · exact t.elim
  · exact t.elim
theorem isPair_toD {g : Fr0} {d : D} {v : Tv} (r : Rd g d v) (h : v.isPair = true) : v.toD = some d ∧ d.isPair = true := by
  unfold Tv.isPair at h
  split at h
  · obtain ⟨ds, rfl, q⟩ := r.toTup
    obtain ⟨d1, ds, rfl, r1, q⟩ := q.cases
    obtain ⟨d2, ds, rfl, r2, q⟩ := q.cases
    rw [q.nilV, r1.toInt, r2.toInt]
    exact ⟨by simp [Tv.toD, Tv.toDs], rfl⟩
  · cases h
theorem pairs_toD {g : Fr0} : ∀ {vs : List Tv} {ds : List D}, RdL g ds vs → (∀ v ∈ vs, v.isPair = true) → vs.Nodup → (∀ d ∈ ds, d.isPair = true) ∧ ds.Nodup ∧ ∀ d ∈ ds, ∃ v ∈ vs, v.toD = some d
  | [], ds, r, _, _ => by rw [r.nilV]; exact ⟨fun d hd => (by cases hd), List.nodup_nil, fun d hd => (by cases hd)⟩
  | v :: vs, ds, r, h, nd => by
    obtain ⟨d, ds, rfl, r1, r2⟩ := r.cases
    rw [List.nodup_cons] at nd
    obtain ⟨p1, p2, p3⟩ := pairs_toD r2 (fun x hx => h x (List.mem_cons_of_mem _ hx)) nd.2
    have hv := h v List.mem_cons_self
    obtain ⟨e1, e2⟩ := isPair_toD r1 hv
    refine ⟨fun x hx => ?_, List.nodup_cons.mpr ⟨fun hm => ?_, p2⟩, fun x hx => ?_⟩
    · rcases List.mem_cons.mp hx with rfl | hx
      · exact e2
      · exact p1 x hx
    · obtain ⟨w, hw, e3⟩ := p3 d hm
      have hw2 := h w (List.mem_cons_of_mem _ hw)
      have : v = w := by
        unfold Tv.isPair at hv hw2
        split at hv
        · split at hw2
          · simp only [Tv.toD, Tv.toDs, Option.map_some, Option.some.injEq] at e1 e3
            rw [← e1] at e3
            simp only [D.tup.injEq, List.cons.injEq, D.int.injEq, and_true] at e3
            rw [e3.1, e3.2]
          · cases hw2
        · cases hv
      exact nd.1 (this ▸ hw)
    · rcases List.mem_cons.mp hx with rfl | hx
      · exact ⟨v, List.mem_cons_self, e1⟩
      · obtain ⟨w, hw, e⟩ := p3 x hx
        exact ⟨w, List.mem_cons_of_mem _ hw, e⟩
theorem s_lens {x : Tv} {dx : D} (R : Rel g h) (rx : Rd g.toFr0 dx x) (t : tLens x h Q) (k : Ok g Q Q') : rLens dx g.S Q' := by
  unfold tLens at t
  split at t
  · rename_i xs hx
    obtain ⟨a, ds, rfl, e, q⟩ := s_ls R rx hx
    obtain ⟨p1, p2, _⟩ := pairs_toD q t.1 t.2.1
    simp only [rLens, e]
    refine ⟨p1, p2, by rw [q.len]; exact t.2.2.1, ?_⟩
    rw [q.len]
    exact k.here R t.2.2.2 Rd.ofInt
  · exact t.elim
theorem s_tget {kvs : List (String × Int)} {ws : List Tv} {es : List D} (R : Rel g h) (r2 : RdL g.toFr0 es ws) (t : tTget kvs ws h Q) (k : Ok g Q Q') : rTget kvs es g.S Q' := by
  unfold tTget at t
  split at t
  · obtain ⟨d, ds, rfl, r3, r4⟩ := r2.cases
    obtain ⟨d2, ds2, rfl, r5, r6⟩ := r4.cases
    rw [r6.nilV, r3.toStr, r5.toInt]
    exact k.here R t Rd.ofInt
  · exact t.elim
theorem RdA.cases {α : Type} {g : Fr0} {k : α} {v : Tv} {vs : List (α × Tv)} {ds : List (α × D)} (h : RdA g ds ((k, v) :: vs)) : ∃ d ds', ds = (k, d) :: ds' ∧ Rd g d v ∧ RdA g ds' vs := by
  simp only [RdA] at h; exact h
theorem RdA.nilV {α : Type} {g : Fr0} {ds : List (α × D)} (h : RdA g ds []) : ds = [] := h
theorem RdA.cons {α : Type} {g : Fr0} {k : α} {v : Tv} {d : D} {vs : List (α × Tv)} {ds : List (α × D)} (h : Rd g d v) (t : RdA g ds vs) : RdA g ((k, d) :: ds) ((k, v) :: vs) := by
  simp only [RdA]; exact ⟨d, ds, rfl, h, t⟩
theorem RdA.look {g : Fr0} {f : String} : ∀ {vs : List (String × Tv)} {ds : List (String × D)}, RdA g ds vs → (vs.lookup f = none ∧ ds.lookup f = none) ∨ ∃ v d, vs.lookup f = some v ∧ ds.lookup f = some d ∧ Rd g d v
  | [], _, h => by rw [h.nilV]; exact .inl ⟨rfl, rfl⟩
  | (k, u) :: vs, _, h => by
    obtain ⟨d, ds, rfl, h1, h2⟩ := h.cases
    rw [List.lookup_cons, List.lookup_cons]
    split
    · exact .inr ⟨_, _, rfl, rfl, h1⟩
    · exact h2.look
theorem RdA.len {g : Fr0} : ∀ {vs : List (String × Tv)} {ds : List (String × D)}, RdA g ds vs → ds.length = vs.length
  | [], _, h => by rw [h.nilV]; rfl
  | (k, u) :: vs, _, h => by
    obtain ⟨d, ds, rfl, h1, h2⟩ := h.cases
    simp [h2.len]
theorem RdA.put {g : Fr0} {f : String} {v : Tv} {e : D} (r : Rd g e v) : ∀ {vs : List (String × Tv)} {ds : List (String × D)}, RdA g ds vs → RdA g (putF f e ds) (tPutF f v vs)
  | [], _, h => by rw [h.nilV]; exact RdA.cons r (by simp [RdA])
  | (k, u) :: vs, _, h => by
    obtain ⟨d, ds, rfl, h1, h2⟩ := h.cases
    unfold putF tPutF
    split
    · exact RdA.cons r h2
    · exact RdA.cons h1 (h2.put r)
theorem s_attr {f : String} (R : Rel g h) (rx : Rd g.toFr0 dx x) (t : tAttr x f h Q) (k : Ok g Q Q') : rAttr dx f g.S Q' := by
  unfold tAttr at t
  split at t
  · split at t
    · rename_i i _ c fs he
      obtain ⟨a, o', rfl, h1, h2, ⟨ds, rfl, r⟩, hF⟩ := R.ref he rx
      simp only [rAttr, h2]
      rcases r.look (f := f) with ⟨e1, e2⟩ | ⟨v, d, e1, e2, e3⟩
      · rw [e1] at t; exact t.elim
      · rw [e1] at t; simp only [e2]; exact k.here R t e3
    · exact t.elim
  · exact t.elim
theorem s_setA {K : Hs → Prop} {K' : Store → Prop} {f : String} (R : Rel g h) (rx : Rd g.toFr0 dx x) (ry : Rd g.toFr0 dy y) (t : tSetA x f y h K) (k : OkH g K K') : rSetA dx f dy g.S K' := by
  unfold tSetA at t
  split at t
  · split at t
    · rename_i i _ c fs he
      obtain ⟨a, o', rfl, h1, h2, ⟨ds, rfl, r⟩, hF⟩ := R.ref he rx
      simp only [rSetA, h2, r.len]
      exact ⟨t.1, s_updH R he (fun e => by cases e) (fun _ e => by cases e) h1 (rdoI (r.put ry)) t.2 k⟩
    · exact t.elim
  · exact t.elim
theorem s_setI {K : Hs → Prop} {K' : Store → Prop} {z : Tv} {dz : D} (R : Rel g h) (rx : Rd g.toFr0 dx x) (ry : Rd g.toFr0 dy y) (rz : Rd g.toFr0 dz z) (t : tSetI x y z h K) (k : OkH g K K') : rSetI dx dy dz g.S K' := by
  unfold tSetI at t
  split at t
  · split at t
    · rename_i i _ xs he
      obtain ⟨a, o', rfl, h1, h2, ⟨ds, rfl, r⟩, hF⟩ := R.ref he rx
      simp only [rSetI, h2, r.len]
      refine s_asI ry t fun j t => ?_
      split at t
      · rename_i n hn
        try rw [hn]
        exact s_updH R he (fun e => by cases e) (fun _ e => by cases e) h1 (rdoL (r.set rz n)) t k
      · exact t.elim
    · rename_i i _ kvs he
      obtain ⟨a, o', rfl, h1, h2, ⟨ds, rfl, r⟩, hF⟩ := R.ref he rx
      obtain ⟨k1, k2⟩ := keysOk_of r ry t.1
      simp only [rSetI, h2, r.len]
      exact ⟨k2, t.2.1, s_updH R he (fun e => by cases e) (fun _ e => by cases e) h1 (rdoD (r.put k1 rz)) t.2.2 k⟩
    · exact t.elim
  · exact t.elim
end
end Nf
/-! NfTr: what a program promises over trees, it keeps over the store. -/
set_option linter.all false
set_option maxHeartbeats 0
namespace Nf
def RdSt (g : Fr0) (δ : DSt) (τ : Tst) : Prop := δ.length = τ.length ∧ ∀ (i : Nat) (v : Tv), τ[i]? = some (some v) → ∃ d, δ[i]? = some (some d) ∧ Rd g d v
theorem RdSt.gf {g g' : Fr0} (x : Gf g g') {δ : DSt} {τ : Tst} (h : RdSt g δ τ) : RdSt g' δ τ := ⟨h.1, fun i v e => by obtain ⟨d, e1, e2⟩ := h.2 i v e; exact ⟨d, e1, e2.gf x⟩⟩
theorem RdSt.set {g : Fr0} {δ : DSt} {τ : Tst} (h : RdSt g δ τ) (i : Nat) {d : D} {v : Tv} (r : Rd g d v) : RdSt g (δ.set i (some d)) (τ.set i (some v)) := by
  refine ⟨by rw [List.length_set, List.length_set]; exact h.1, fun j w e => ?_⟩
  rw [List.getElem?_set] at e ⊢
  split at e
  · split at e
    · cases e
      exact ⟨d, by rw [h.1]; rename_i a b; rw [if_pos a, if_pos b], r⟩
    · cases e
  · obtain ⟨d', e1, e2⟩ := h.2 j w e
    rename_i a
    exact ⟨d', by rw [if_neg a]; exact e1, e2⟩
theorem RdSt.unset {g : Fr0} {δ : DSt} {τ : Tst} (h : RdSt g δ τ) (i : Nat) : RdSt g (δ.set i none) (τ.set i none) := by
  refine ⟨by rw [List.length_set, List.length_set]; exact h.1, fun j w e => ?_⟩
  rw [List.getElem?_set] at e ⊢
  split at e
  · split at e <;> cases e
  · obtain ⟨d', e1, e2⟩ := h.2 j w e
    rename_i a
    exact ⟨d', by rw [if_neg a]; exact e1, e2⟩
theorem RdSt.wipe {g : Fr0} {δ : DSt} {τ : Tst} (h : RdSt g δ τ) : ∀ l : List Nat, RdSt g (Nf.wipe δ l) (tWipe τ l)
  | [] => h
  | i :: l => (h.wipe l).unset i
theorem RdSt.sets {g : Fr0} : ∀ {is : List Nat} {δ : DSt} {τ τ' : Tst} {ds : List D} {vs : List Tv}, RdSt g δ τ → RdL g ds vs → tSetNs τ is vs = some τ' → ∃ δ', setNs δ is ds = some δ' ∧ RdSt g δ' τ'
  | [], δ, τ, τ', ds, [], h, r, e => by
    rw [r.nilV]; simp only [tSetNs, Option.some.injEq] at e; subst e; exact ⟨δ, rfl, h⟩
  | [], δ, τ, τ', ds, v :: vs, h, r, e => by simp [tSetNs] at e
  | i :: is, δ, τ, τ', ds, [], h, r, e => by simp [tSetNs] at e
  | i :: is, δ, τ, τ', ds, v :: vs, h, r, e => by
    obtain ⟨d, ds, rfl, r1, r2⟩ := r.cases
    simp only [tSetNs] at e
    simp only [setNs]
    exact (h.set i r1).sets r2 e
theorem s_get1 {g : Wd} {δ : DSt} {τ : Tst} {i : Nat} {k : Tv → Prop} {k' : D → Prop} (h : RdSt g.toFr0 δ τ) (t : getT τ i k) (q : ∀ v d, k v → Rd g.toFr0 d v → k' d) : getS δ i k' := by
  unfold getT at t
  split at t
  · rename_i v e
    obtain ⟨d, e1, e2⟩ := h.2 i v e
    unfold getS
    rw [e1]
    exact q v d t e2
  · exact t.elim
theorem s_tg {g : Wd} {tg : Tg} {x : Tv} {dx : D} {S : Store} {δ : DSt} {τ : Tst} {K : Tst → Prop} {K' : DSt → Prop} (h : RdSt g.toFr0 δ τ) (rx : Rd g.toFr0 dx x) (t : tTg tg x τ K) (k : ∀ τ' δ', K τ' → RdSt g.toFr0 δ' τ' → K' δ') : rTg tg dx S δ K' := by
  cases tg with
  | v i => exact k _ _ t (h.set i rx)
  | t is =>
    simp only [tTg] at t
    split at t
    · obtain ⟨ds, rfl, r⟩ := rx.toTup
      split at t
      · rename_i τ' e
        obtain ⟨δ', e1, e2⟩ := h.sets r e
        simp only [rTg, e1]
        exact k _ _ t e2
      · exact t.elim
    · exact t.elim
/-- what is walked stands -/
def Stands (g : Wd) (J : Walk) : Prop := ∀ g' h', Gr g g' → Rel g' h' → J.ok g'.S
theorem s_over {g : Wd} {h : Hs} {x : Tv} {dx : D} {K : List Tv → Prop} {K' : Walk → Prop} (R : Rel g h) (rx : Rd g.toFr0 dx x) (t : tOver x h K) (k : ∀ vs J, K vs → RdL g.toFr0 J.its vs → Stands g J → K' J) : wOver dx g.S K' := by
  cases x with
  | tup vs =>
    obtain ⟨ds, rfl, r⟩ := rx.toTup
    exact k _ _ t r fun _ _ _ _ => trivial
  | frz ns =>
    rw [rx.toFrz]
    exact k _ _ t (RdL.mapI _ _ (fun _ => Rd.ofInt) ns) fun _ _ _ _ => trivial
  | str s =>
    rw [rx.toStr]
    exact k _ _ t (RdL.mapI _ _ (fun _ => Rd.ofStr) s.toList) fun _ _ _ _ => trivial
  | lst vs =>
    obtain ⟨a, ds, rfl, f, r⟩ := rx.toLst
    unfold wOver items
    simp only [R.le _ _ f]
    exact k _ _ t r fun g' h' x R' => (R'.le _ _ (x.le _ _ f)).trans (R.le _ _ f).symm
  | obj i =>
    simp only [tOver] at t
    split at t
    · rename_i kvs he
      obtain ⟨a, o', rfl, _, h2, ⟨ds, rfl, h3⟩, _⟩ := R.ref he rx
      unfold wOver items
      simp only [h2]
      exact k _ _ t h3.keys fun g' h' x R' => (x.lk _ _ h2).trans h2.symm
    · exact t.elim
  | _ => exact t.elim
theorem s_rng {g : Wd} {lo hi : Int} {K : List Tv → Prop} {K' : Walk → Prop} (t : tRng lo hi K) (k : ∀ vs J, K vs → RdL g.toFr0 J.its vs → Stands g J → K' J) : wRng lo hi K' :=
  ⟨t.1, t.2.1, t.2.2.1, t.2.2.2.1, k _ ⟨_, _⟩ t.2.2.2.2 (RdL.mapI _ _ (fun _ => Rd.ofInt) _) fun _ _ _ _ => trivial⟩
theorem s_enum {g : Wd} {h : Hs} {x : Tv} {dx : D} {K : List Tv → Prop} {K' : Walk → Prop} (R : Rel g h) (rx : Rd g.toFr0 dx x) (t : tEnum x K) (k : ∀ vs J, K vs → RdL g.toFr0 J.its vs → Stands g J → K' J) : wEnum dx g.S K' := by
  cases x with
  | lst vs =>
    obtain ⟨a, ds, rfl, f, r⟩ := rx.toLst
    unfold wEnum
    simp only [R.le _ _ f]
    refine k _ _ t ?_ fun g' h' x R' => (R'.le _ _ (x.le _ _ f)).trans (R.le _ _ f).symm
    rw [r.len]
    refine RdL.mapI _ _ (fun n => Rd.ofTup (RdL.cons Rd.ofInt (RdL.cons ?_ RdL.nil))) _
    rw [List.getD_eq_getElem?_getD, List.getD_eq_getElem?_getD]
    cases e : vs[n]? with
    | some v => obtain ⟨d, e1, e2⟩ := r.get e; rw [e1]; exact e2
    | none =>
      cases e1 : ds[n]? with
      | some d => obtain ⟨v, e2, _⟩ := r.getD e1; rw [e] at e2; cases e2
      | none => exact Rd.ofNon
  | _ => exact t.elim
/-- functions kept -/
def Keeps (Φ : Fenv) (Ψ : Tenv) : Prop := ∀ c f vs h Q W (g : Wd) ds Q' W', Ψ c f vs h Q W → Rel g h → RdL g.toFr0 ds vs → Ok g Q Q' → OkW g W W' → Φ c f ds g.S Q' W'
theorem s_items {tg : Tv → (Tst → Prop) → Prop} {ts : Tst → Hs → (Bool → Hs → Prop) → Prop} {el : Tst → Hs → Tq → Prop} {K : List Tv → Hs → Prop}
    {tg' : D → Store → (DSt → Prop) → Prop} {ts' : DSt → Store → (Bool → Store → Prop) → Prop} {el' : DSt → Store → DQ → Prop} {K' : List D → Store → Prop} {ok : Store → Prop} {g0 : Wd}
    (htg : ∀ (g : Wd) x dx (k : Tst → Prop) (k' : DSt → Prop), Gr g0 g → Rd g.toFr0 dx x → tg x k → (∀ τ δ, k τ → RdSt g.toFr0 δ τ → k' δ) → tg' dx g.S k')
    (hts : ∀ (g : Wd) h τ δ (k : Bool → Hs → Prop) (k' : Bool → Store → Prop), Gr g0 g → Rel g h → RdSt g.toFr0 δ τ → ts τ h k → (∀ b h' (g' : Wd), k b h' → Rel g' h' → Gr g g' → k' b g'.S) → ts' δ g.S k')
    (hel : ∀ (g : Wd) h τ δ (k : Tq) (k' : DQ), Gr g0 g → Rel g h → RdSt g.toFr0 δ τ → el τ h k → Ok g k k' → el' δ g.S k')
    (hok : ∀ (g : Wd) h, Gr g0 g → Rel g h → ok g.S) :
    ∀ (vs : List Tv) (acc : List Tv) (h : Hs) (g : Wd) (ds accD : List D), Gr g0 g → Rel g h → RdL g.toFr0 ds vs → RdL g.toFr0 accD acc → tItems tg ts el K vs acc h → OkL g K K' → lcItems tg' ts' el' ok K' ds accD g.S
  | [], acc, h, g, ds, accD, x, R, r, ra, t, k => by
    rw [r.nilV]
    exact ⟨hok g h x R, k _ _ _ g t R (Gr.refl g) ra⟩
  | v :: vs, acc, h, g, ds, accD, x, R, r, ra, t, k => by
    obtain ⟨d, ds, rfl, r1, r2⟩ := r.cases
    refine ⟨hok g h x R, htg g v d _ _ x r1 t fun τ δ t rs => hts g h τ δ _ _ x R rs t fun b h1 g1 t R1 y => ?_⟩
    cases b with
    | false => exact s_items htg hts hel hok vs acc h1 g1 ds accD (x.trans y) R1 (r2.gf y.toGf) (ra.gf y.toGf) t (k.gr y)
    | true =>
      refine hel g1 h1 τ δ _ _ (x.trans y) R1 (rs.gf y.toGf) t fun w h2 e g2 t R2 z rw => ?_
      have yz := y.trans z
      exact ⟨by rw [ra.len]; exact t.1, s_items htg hts hel hok vs (acc ++ [w]) h2 g2 ds (accD ++ [e]) (x.trans yz) R2 (r2.gf yz.toGf) ((ra.gf yz.toGf).app (RdL.cons rw RdL.nil)) t.2 (k.gr yz)⟩
theorem s_frz {g : Wd} {h : Hs} {Q : Tq} {Q' : DQ} {x : Tv} {dx : D} (R : Rel g h) (rx : Rd g.toFr0 dx x) (t : tFrz x h Q) (k : Ok g Q Q') : Q' dx g.S := by
  unfold tFrz at t
  split at t
  · split at t
    · rename_i i _ vs he
      obtain ⟨a, o', rfl, h1, h2, ⟨ds, rfl, h3⟩, hF⟩ := R.ref he rx
      have hF := hF fun e => by cases e
      refine k _ _ _ (g.frz a ds) t (rel_frz R h1 hF h2) (gr_frz hF) ?_
      simp only [Rd]
      exact ⟨a, ds, rfl, put_same, h3.gf (gr_frz (ds := ds) hF).toGf⟩
    · exact t.elim
  · exact t.elim
theorem s_frz2 {g : Wd} {h : Hs} {Q : Tq} {x : Tv} {dx : D} (R : Rel g h) (rx : Rd g.toFr0 dx x) (t : tFrz x h Q) : ∃ (g' : Wd) (v : Tv) (h' : Hs), Q v h' ∧ Rel g' h' ∧ Gr g g' ∧ g'.S = g.S ∧ Rd g'.toFr0 dx v := by
  unfold tFrz at t
  split at t
  · split at t
    · rename_i i _ vs he
      obtain ⟨a, o', rfl, h1, h2, ⟨ds, rfl, h3⟩, hF⟩ := R.ref he rx
      have hF := hF fun e => by cases e
      refine ⟨g.frz a ds, _, _, t, rel_frz R h1 hF h2, gr_frz hF, rfl, ?_⟩
      simp only [Rd]
      exact ⟨a, ds, rfl, put_same, h3.gf (gr_frz (ds := ds) hF).toGf⟩
    · exact t.elim
  · exact t.elim
/-- a dict locked -/
theorem s_lock {g : Wd} {h : Hs} {i : Nat} {kvs : List (Tv × Tv)} (R : Rel g h) (he : h[i]? = some (.dic kvs)) : ∃ a dk, g.S a = some (.dic dk) ∧ Rel (g.upd a (.fdc dk)) (h.set i (.fdc kvs)) ∧ Gr g (g.upd a (.fdc dk)) ∧
    ∀ g' h', Gr (g.upd a (.fdc dk)) g' → Rel g' h' → isFd h' i kvs → g'.S a = some (.fdc dk) ∧ Rel (g'.upd a (.dic dk)) (h'.set i (.dic kvs)) ∧ Gr g (g'.upd a (.dic dk)) := by
  obtain ⟨a, o', h1, h2, ⟨dk, rfl, r⟩, hF⟩ := R.ob i _ he
  have hF := hF fun e => by cases e
  have gr1 : Gr g (g.upd a (.fdc dk)) := gr_upd h2 fun _ e => by cases e
  refine ⟨a, dk, h2, rel_upd R h1 hF ⟨dk, rfl, r⟩, gr1, fun g' h' x R' f => ?_⟩
  obtain ⟨a', o2, q1, q2, q3, q4⟩ := R'.ob i _ f
  have q4 := q4 fun e => by cases e
  have e : g'.r[i]? = some a := x.get (g := (g.upd a (.fdc dk)).toFr0) h1
  rw [e] at q1; cases q1
  have y := gr1.trans x
  refine ⟨x.lk _ _ put_same, rel_upd R' e q4 ⟨dk, rfl, r.gf y.toGf⟩, ⟨y.toGf, fun b l hb => ?_⟩⟩
  have ne : b ≠ a := fun z => by rw [z, h2] at hb; cases hb
  exact (put_ne ne).trans (y.lk _ _ hb)
theorem isNon_d {g : Fr0} {d : D} {v : Tv} (r : Rd g d v) (e : v.isNon = true) : d = .non := by
  cases v with
  | non => exact r.toNon
  | _ => cases e
theorem s_isLs {g : Wd} {h : Hs} {x : Tv} {dx : D} (R : Rel g h) (rx : Rd g.toFr0 dx x) (t : isLs h x) : ∃ a ds, dx = .ref a ∧ g.S a = some (.lst ds) := by
  obtain ⟨vs, e⟩ := Option.isSome_iff_exists.mp t
  obtain ⟨a, ds, rfl, e, q⟩ := s_ls R rx e
  exact ⟨a, ds, rfl, e⟩
theorem s_isDc {g : Wd} {h : Hs} {x : Tv} {dx : D} (R : Rel g h) (rx : Rd g.toFr0 dx x) (t : isDc h x) : ∃ a, dx = .ref a ∧ ((∃ k, g.S a = some (.dic k)) ∨ ∃ k, g.S a = some (.fdc k)) := by
  unfold isDc at t
  split at t
  · split at t
    · rename_i kvs he
      obtain ⟨a, o', rfl, _, h2, ⟨ds, rfl, h3⟩, _⟩ := R.ref he rx
      exact ⟨a, rfl, .inl ⟨_, h2⟩⟩
    · rename_i kvs he
      obtain ⟨a, o', rfl, _, h2, ⟨ds, rfl, h3⟩, _⟩ := R.ref he rx
      exact ⟨a, rfl, .inr ⟨_, h2⟩⟩
    · exact t.elim
  · exact t.elim
theorem s_isSt {g : Wd} {x : Tv} {dx : D} (rx : Rd g.toFr0 dx x) (t : isSt x) : ∃ s, dx = .str s := by
  cases x with
  | str s => exact ⟨s, rx.toStr⟩
  | _ => exact t.elim
theorem asTO_none {k : Option Int → Prop} : asTO none k = k none := rfl
theorem asTO_int {k : Option Int → Prop} {i : Int} : asTO (some (.int i)) k = k (some i) := rfl
theorem s_lit {g : Wd} {h : Hs} {Q : Tq} {Q' : DQ} {d : D} (R : Rel g h) (k : Ok g Q Q') (t : match d with
    | .non => Q .non h
    | .bl b => Q (.bl b) h
    | .int i => Q (.int i) h
    | .str s => Q (.str s) h
    | .ty n => Q (.ty n) h
    | .cls n => Q (.cls n) h
    | _ => False) : Q' d g.S := by
  cases d with
  | non => exact k.here R t (by simp only [Rd])
  | bl => exact k.here R t (by simp only [Rd])
  | int => exact k.here R t (by simp only [Rd])
  | str => exact k.here R t (by simp only [Rd])
  | ty => exact k.here R t (by simp only [Rd])
  | cls => exact k.here R t (by simp only [Rd])
  | _ => exact t.elim
def OkO (g : Wd) (Q : Option Tv → Hs → Prop) (Q' : Option D → Store → Prop) : Prop := ∀ v h' d (g' : Wd), Q v h' → Rel g' h' → Gr g g' → RdOp g'.toFr0 d v → Q' d g'.S
def OkI (g : Wd) (Q : List Tv → Hs → Prop) (Q' : Walk → Store → Prop) : Prop := ∀ vs h' J (g' : Wd), Q vs h' → Rel g' h' → Gr g g' → RdL g'.toFr0 J.its vs → Stands g' J → Q' J g'.S
theorem RdOp.gf {g g' : Fr0} (x : Gf g g') {d : Option D} {v : Option Tv} (h : RdOp g d v) : RdOp g' d v := by
  cases v <;> cases d <;> first | exact h | exact Rd.gf x h
section
variable {Φ : Fenv} {Ψ : Tenv} (H : Keeps Φ Ψ)
include H
mutual
theorem sE : ∀ (e : ME) (m : Bool) (W : Tw) (W' : DE) (τ : Tst) (h : Hs) (Q : Tq) (Q' : DQ) (g : Wd) (δ : DSt), tE Ψ W m e τ h Q → Rel g h → RdSt g.toFr0 δ τ → Ok g Q Q' → OkW g W W' → wpE Φ W' e δ g.S Q'
  | .lit d, m, W, W', τ, h, Q, Q', g, δ, t, R, rs, k, kw => by
    unfold tE at t; unfold wpE
    exact s_lit R k t
  | .var i, m, W, W', τ, h, Q, Q', g, δ, t, R, rs, k, kw => by
    unfold tE at t; unfold wpE
    exact s_get1 rs t fun v d q r => k.here R q r
  | .bin op a b, m, W, W', τ, h, Q, Q', g, δ, t, R, rs, k, kw => by
    unfold tE at t; unfold wpE
    refine sE a _ _ _ _ _ _ _ g δ t R rs (fun x h1 dx g1 t R1 y1 rx => ?_) kw
    refine sE b _ _ _ _ _ _ _ g1 δ t R1 (rs.gf y1.toGf) (fun y h2 dy g2 t R2 y2 ry => ?_) (kw.gr y1)
    exact s_bin R2 (rx.gf y2.toGf) ry t (k.gr (y1.trans y2))
  | .neg a, m, W, W', τ, h, Q, Q', g, δ, t, R, rs, k, kw => by
    unfold tE at t; unfold wpE
    refine sE a _ _ _ _ _ _ _ g δ t R rs (fun x h1 dx g1 t R1 y1 rx => ?_) kw
    exact s_asI rx t fun j q => (k.gr y1).here R1 q Rd.ofInt
  | .cmp op a b, m, W, W', τ, h, Q, Q', g, δ, t, R, rs, k, kw => by
    unfold tE at t; unfold wpE
    refine sE a _ _ _ _ _ _ _ g δ t R rs (fun x h1 dx g1 t R1 y1 rx => ?_) kw
    refine sE b _ _ _ _ _ _ _ g1 δ t R1 (rs.gf y1.toGf) (fun y h2 dy g2 t R2 y2 ry => ?_) (kw.gr y1)
    exact s_cmp R2 (rx.gf y2.toGf) ry t fun b q => (k.gr (y1.trans y2)).here R2 q Rd.ofBl
  | .cmp2 o1 o2 a b c, m, W, W', τ, h, Q, Q', g, δ, t, R, rs, k, kw => by
    unfold tE at t; unfold wpE
    refine sE a _ _ _ _ _ _ _ g δ t R rs (fun x h1 dx g1 t R1 y1 rx => ?_) kw
    refine sE b _ _ _ _ _ _ _ g1 δ t R1 (rs.gf y1.toGf) (fun y h2 dy g2 t R2 y2 ry => ?_) (kw.gr y1)
    have y12 := y1.trans y2
    refine s_cmp R2 (rx.gf y2.toGf) ry t fun b q => ?_
    cases b with
    | false => exact (k.gr y12).here R2 q Rd.ofBl
    | true =>
      refine sE c _ _ _ _ _ _ _ g2 δ q R2 (rs.gf y12.toGf) (fun z h3 dz g3 t R3 y3 rz => ?_) (kw.gr y12)
      exact s_cmp R3 (ry.gf y3.toGf) rz t fun b q => (k.gr (y12.trans y3)).here R3 q Rd.ofBl
  | .and_ a b, m, W, W', τ, h, Q, Q', g, δ, t, R, rs, k, kw => by
    unfold tE at t; unfold wpE
    refine sE a _ _ _ _ _ _ _ g δ t R rs (fun x h1 dx g1 t R1 y1 rx => ?_) kw
    refine s_asB rx t fun c q => ?_
    cases c with
    | true => exact sE b _ _ _ _ _ _ _ g1 δ q R1 (rs.gf y1.toGf) (k.gr y1) (kw.gr y1)
    | false => exact (k.gr y1).here R1 q Rd.ofBl
  | .or_ a b, m, W, W', τ, h, Q, Q', g, δ, t, R, rs, k, kw => by
    unfold tE at t; unfold wpE
    refine sE a _ _ _ _ _ _ _ g δ t R rs (fun x h1 dx g1 t R1 y1 rx => ?_) kw
    refine s_asB rx t fun c q => ?_
    cases c with
    | false => exact sE b _ _ _ _ _ _ _ g1 δ q R1 (rs.gf y1.toGf) (k.gr y1) (kw.gr y1)
    | true => exact (k.gr y1).here R1 q Rd.ofBl
  | .not_ a, m, W, W', τ, h, Q, Q', g, δ, t, R, rs, k, kw => by
    unfold tE at t; unfold wpE
    refine sE a _ _ _ _ _ _ _ g δ t R rs (fun x h1 dx g1 t R1 y1 rx => ?_) kw
    exact s_asB rx t fun c q => (k.gr y1).here R1 q Rd.ofBl
  | .ife c a b, m, W, W', τ, h, Q, Q', g, δ, t, R, rs, k, kw => by
    unfold tE at t; unfold wpE
    refine sE c _ _ _ _ _ _ _ g δ t R rs (fun x h1 dx g1 t R1 y1 rx => ?_) kw
    refine s_asB rx t fun c q => ?_
    cases c with
    | true => exact sE a _ _ _ _ _ _ _ g1 δ q R1 (rs.gf y1.toGf) (k.gr y1) (kw.gr y1)
    | false => exact sE b _ _ _ _ _ _ _ g1 δ q R1 (rs.gf y1.toGf) (k.gr y1) (kw.gr y1)
  | .tup es, m, W, W', τ, h, Q, Q', g, δ, t, R, rs, k, kw => by
    unfold tE at t; unfold wpE
    refine sEs es _ _ _ _ _ _ g δ t R rs (fun x h1 dx g1 t R1 y1 rx => ?_) kw
    exact ⟨by rw [rx.len]; exact t.1, (k.gr y1).here R1 t.2 (Rd.ofTup rx)⟩
  | .lst es, m, W, W', τ, h, Q, Q', g, δ, t, R, rs, k, kw => by
    unfold tE at t; unfold wpE
    refine sEs es _ _ _ _ _ _ g δ t R rs (fun x h1 dx g1 t R1 y1 rx => ?_) kw
    exact ⟨by rw [rx.len]; exact t.1, s_al t.2 R1 rx (k.gr y1)⟩
  | .dct es, m, W, W', τ, h, Q, Q', g, δ, t, R, rs, k, kw => by
    unfold tE at t; unfold wpE
    refine sEs es _ _ _ _ _ _ g δ t R rs (fun x h1 dx g1 t R1 y1 rx => ?_) kw
    split at t
    · rename_i ps hp
      obtain ⟨qs, e1, e2⟩ := pairUp_ofT rx hp fun p hp => by obtain ⟨d, e, _⟩ := flatKey_toD (t.1 p hp); exact ⟨d, e⟩
      simp only [e1]
      exact ⟨e2.flat t.1, by rw [e2.len]; exact t.2.1, s_new t.2.2 R1 (rdoD (RdK.merge e2 RdK.nil)) (k.gr y1)⟩
    · exact t.elim
  | .attr a f, m, W, W', τ, h, Q, Q', g, δ, t, R, rs, k, kw => by
    unfold tE at t; unfold wpE
    refine sE a _ _ _ _ _ _ _ g δ t R rs (fun x h1 dx g1 t R1 y1 rx => ?_) kw
    exact s_attr R1 rx t (k.gr y1)
  | .ix a b, m, W, W', τ, h, Q, Q', g, δ, t, R, rs, k, kw => by
    unfold tE at t; unfold wpE
    refine sE a _ _ _ _ _ _ _ g δ t R rs (fun x h1 dx g1 t R1 y1 rx => ?_) kw
    refine sE b _ _ _ _ _ _ _ g1 δ t R1 (rs.gf y1.toGf) (fun y h2 dy g2 t R2 y2 ry => ?_) (kw.gr y1)
    exact s_ix R2 (rx.gf y2.toGf) ry t (k.gr (y1.trans y2))
  | .slc a lo hi, m, W, W', τ, h, Q, Q', g, δ, t, R, rs, k, kw => by
    unfold tE at t; unfold wpE
    refine sE a _ _ _ _ _ _ _ g δ t R rs (fun x h1 dx g1 t R1 y1 rx => ?_) kw
    refine sEo lo _ _ _ _ _ _ g1 δ t R1 (rs.gf y1.toGf) (fun y h2 dy g2 t R2 y2 ry => ?_) (kw.gr y1)
    have y12 := y1.trans y2
    refine ⟨s_intO ry t, ?_⟩
    have t : tEo Ψ W hi τ h2 fun r h3 => tSlc m x y r h3 Q := by
      cases y with
      | none => exact t
      | some v =>
        cases v with
        | int i => exact t
        | _ => exact t.elim
    refine sEo hi _ _ _ _ _ _ g2 δ t R2 (rs.gf y12.toGf) (fun z h3 dz g3 t R3 y3 rz => ?_) (kw.gr y12)
    have t' := t
    have rx3 := rx.gf (y2.trans y3).toGf
    refine ⟨?_, s_slc R3 rx3 (ry.gf y3.toGf) rz t (k.gr (y12.trans y3))⟩
    unfold tSlc at t'
    cases y with
    | none => rw [asTO_none] at t'; exact s_intO rz t'
    | some v =>
      cases v with
      | int i => rw [asTO_int] at t'; exact s_intO rz t'
      | _ => exact t'.elim
  | .rev a, m, W, W', τ, h, Q, Q', g, δ, t, R, rs, k, kw => by
    unfold tE at t; unfold wpE
    refine sE a _ _ _ _ _ _ _ g δ t R rs (fun x h1 dx g1 t R1 y1 rx => ?_) kw
    exact s_rev R1 rx t (k.gr y1)
  | .call f es, m, W, W', τ, h, Q, Q', g, δ, t, R, rs, k, kw => by
    unfold tE at t; unfold wpE
    refine sEs es _ _ _ _ _ _ g δ t R rs (fun x h1 dx g1 t R1 y1 rx => ?_) kw
    exact H _ _ _ _ _ _ g1 _ _ _ t R1 rx (k.gr y1) (kw.gr y1)
  | .mk c es, m, W, W', τ, h, Q, Q', g, δ, t, R, rs, k, kw => by
    unfold tE at t; unfold wpE
    refine sEs es _ _ _ _ _ _ g δ t R rs (fun x h1 dx g1 t R1 y1 rx => ?_) kw
    intro p hp
    have y2 : Gr g1 (g1.made p (.ins c [])) := gr_made hp
    have r0 : Rd (g1.made p (.ins c [])).toFr0 (.ref p) (.obj h1.length) := rd_made R1
    refine H _ _ _ _ _ _ (g1.made p (.ins c [])) _ _ _ t (rel_made R1 hp ⟨[], rfl, by simp [RdA]⟩) (RdL.cons r0 (rx.gf y2.toGf)) (fun v h2 d g2 q R2 y3 rv => ?_) (kw.gr (y1.trans y2))
    exact ⟨isNon_d rv q.1, k _ _ _ g2 q.2 R2 ((y1.trans y2).trans y3) (r0.gf y3.toGf)⟩
  | .bi f es, m, W, W', τ, h, Q, Q', g, δ, t, R, rs, k, kw => by
    unfold tE at t; unfold wpE
    refine sEs es _ _ _ _ _ _ g δ t R rs (fun x h1 dx g1 t R1 y1 rx => ?_) kw
    exact s_bi R1 rx t (k.gr y1)
  | .om cl a f es, m, W, W', τ, h, Q, Q', g, δ, t, R, rs, k, kw => by
    unfold tE at t; unfold wpE
    refine sE a _ _ _ _ _ _ _ g δ t R rs (fun x h1 dx g1 t R1 y1 rx => ?_) kw
    split at t
    · split at t
      · rename_i i c fs he
        obtain ⟨a, o', rfl, q1, q2, ⟨ds, rfl, q3⟩, _⟩ := R1.ref he rx
        simp only [q2]
        refine ⟨t.1, ?_, ?_⟩
        · rcases q3.look (f := f) with ⟨e1, e2⟩ | ⟨v, d, e1, e2, e3⟩
          · exact e2
          · have := t.2.1; rw [e1] at this; cases this
        · refine sEs es _ _ _ _ _ _ g1 δ t.2.2 R1 (rs.gf y1.toGf) (fun x h2 dx g2 t R2 y2 rx2 => ?_) (kw.gr y1)
          have y12 := y1.trans y2
          exact H _ _ _ _ _ _ g2 _ _ _ t R2 (RdL.cons (rx.gf y2.toGf) rx2) (k.gr y12) (kw.gr y12)
      · exact t.elim
    · exact t.elim
  | .lm a f es, m, W, W', τ, h, Q, Q', g, δ, t, R, rs, k, kw => by
    unfold tE at t; unfold wpE
    refine sE a _ _ _ _ _ _ _ g δ t R rs (fun x h1 dx g1 t R1 y1 rx => ?_) kw
    refine ⟨by obtain ⟨a, ds, rfl, e⟩ := s_isLs R1 rx t.1; simp only [e], sEs es _ _ _ _ _ _ g1 δ t.2 R1 (rs.gf y1.toGf) (fun y h2 dy g2 t R2 y2 ry => ?_) (kw.gr y1)⟩
    exact s_lm R2 (rx.gf y2.toGf) ry t (k.gr (y1.trans y2))
  | .dm a f es, m, W, W', τ, h, Q, Q', g, δ, t, R, rs, k, kw => by
    unfold tE at t; unfold wpE
    refine sE a _ _ _ _ _ _ _ g δ t R rs (fun x h1 dx g1 t R1 y1 rx => ?_) kw
    refine ⟨by obtain ⟨a, rfl, ⟨q, e⟩ | ⟨q, e⟩⟩ := s_isDc R1 rx t.1 <;> simp only [e], sEs es _ _ _ _ _ _ g1 δ t.2 R1 (rs.gf y1.toGf) (fun y h2 dy g2 t R2 y2 ry => ?_) (kw.gr y1)⟩
    exact s_dm R2 (rx.gf y2.toGf) ry t (k.gr (y1.trans y2))
  | .sm a f es, m, W, W', τ, h, Q, Q', g, δ, t, R, rs, k, kw => by
    unfold tE at t; unfold wpE
    refine sE a _ _ _ _ _ _ _ g δ t R rs (fun x h1 dx g1 t R1 y1 rx => ?_) kw
    refine ⟨by obtain ⟨a, rfl⟩ := s_isSt rx t.1; trivial, sEs es _ _ _ _ _ _ g1 δ t.2 R1 (rs.gf y1.toGf) (fun y h2 dy g2 t R2 y2 ry => ?_) (kw.gr y1)⟩
    exact s_sm R2 (rx.gf y2.toGf) ry t (k.gr (y1.trans y2))
  | .word a, m, W, W', τ, h, Q, Q', g, δ, t, R, rs, k, kw => by
    unfold tE at t; unfold wpE
    refine sE a _ _ _ _ _ _ _ g δ t R rs k fun x h' x' g' hw R' y rx => ?_
    obtain ⟨e1, e2⟩ := rx
    unfold wordD
    rw [e1]
    rcases hw with ⟨z1, z2⟩ | ⟨z1, i, z2, z3⟩ | ⟨z1, i, z2, z3⟩
    · exact .inl ⟨z1, k _ _ _ g' z2 R' y (Rd.ofTup (RdL.cons Rd.ofStr (RdL.cons Rd.ofInt RdL.nil)))⟩
    · rw [z2] at e2
      obtain ⟨d, e3, e4⟩ := e2
      rw [e4.toInt] at e3
      exact .inr (.inl ⟨z1, i, e3, k _ _ _ g' z3 R' y (Rd.ofTup (RdL.cons Rd.ofStr (RdL.cons Rd.ofInt RdL.nil)))⟩)
    · rw [z2] at e2
      obtain ⟨d, e3, e4⟩ := e2
      rw [e4.toInt] at e3
      exact .inr (.inr ⟨z1, i, e3, k _ _ _ g' z3 R' y (Rd.ofTup (RdL.cons Rd.ofStr (RdL.cons Rd.ofInt RdL.nil)))⟩)
  | .isE _ _, m, W, W', τ, h, Q, Q', g, δ, t, R, rs, k, kw => by
    unfold tE at t
    exact t.elim
  | .exF _ _, m, W, W', τ, h, Q, Q', g, δ, t, R, rs, k, kw => by
    unfold tE at t
    exact t.elim
  | .cnt _ _, m, W, W', τ, h, Q, Q', g, δ, t, R, rs, k, kw => by
    unfold tE at t
    exact t.elim
  | .lens a, m, W, W', τ, h, Q, Q', g, δ, t, R, rs, k, kw => by
    unfold tE at t; unfold wpE
    refine sE a _ _ _ _ _ _ _ g δ t R rs (fun x h1 dx g1 t R1 y1 rx => ?_) kw
    exact s_lens R1 rx t (k.gr y1)
  | .tget n kvs es, m, W, W', τ, h, Q, Q', g, δ, t, R, rs, k, kw => by
    unfold tE at t; unfold wpE
    refine sEs es _ _ _ _ _ _ g δ t R rs (fun y h2 dy g2 t R2 y2 ry => ?_) kw
    exact s_tget R2 ry t (k.gr y2)
  | .alt a b, m, W, W', τ, h, Q, Q', g, δ, t, R, rs, k, kw => by
    unfold tE at t; unfold wpE
    rcases t with t | t
    · exact .inl (sE a _ _ _ _ _ _ _ g δ t R rs k kw)
    · exact .inr (sE b _ _ _ _ _ _ _ g δ t R rs k kw)
  | .lock a, m, W, W', τ, h, Q, Q', g, δ, t, R, rs, k, kw => by
    unfold tE at t; unfold wpE
    obtain ⟨i, kvs, he, t⟩ := t
    obtain ⟨p, dk, e, R1, y1, un⟩ := s_lock R he
    refine ⟨p, dk, e, sE a _ _ _ _ _ _ _ (g.upd p (.fdc dk)) δ t R1 (rs.gf y1.toGf) (fun v h2 d g2 q R2 y2 rv => ?_) okWF⟩
    obtain ⟨u1, u2, u3⟩ := un g2 h2 y2 R2 q.1
    exact ⟨u1, k _ _ _ (g2.upd p (.dic dk)) q.2 u2 u3 rv⟩
  | .tag n a, m, W, W', τ, h, Q, Q', g, δ, t, R, rs, k, kw => by
    unfold tE at t; unfold wpE
    cases n with
    | zero => exact sE a _ _ _ _ _ _ _ g δ t R rs k kw
    | succ n =>
      refine sE a _ _ _ _ _ _ _ g δ t R rs (fun x h1 dx g1 t R1 y1 rx => ?_) kw
      exact s_frz R1 rx t (k.gr y1)
  | .lc elt tg it ifs own, m, W, W', τ, h, Q, Q', g, δ, t, R, rs, k, kw => by
    unfold tE at t; unfold wpE
    refine sI it _ _ _ _ _ _ g δ t R rs (fun vs h1 J g1 t R1 y1 rJ st => ?_) kw
    refine s_items (g0 := g1) ?_ ?_ ?_ (fun g2 h2 x R2 => st g2 h2 x R2) vs [] h1 g1 J.its [] (Gr.refl g1) R1 rJ RdL.nil t (fun acc h2 accD g2 q R2 y2 ra => s_al q R2 ra (k.gr (y1.trans y2)))
    · intro g2 x dx kk kk' y2 rx t q
      exact s_tg ((rs.gf (y1.trans y2).toGf).wipe own) rx t q
    · intro g2 h2 τ' δ' kk kk' y2 R2 rs' t q
      refine sEo ifs _ _ _ _ _ _ g2 δ' t R2 rs' (fun o h3 od g3 t R3 y3 ro => ?_) okWF
      cases o with
      | none =>
        cases od with
        | none => exact q _ _ g3 t R3 y3
        | some _ => exact ro.elim
      | some v =>
        cases od with
        | none => exact ro.elim
        | some d => exact s_asB (g := g3) ro t fun b t => q _ _ g3 t R3 y3
    · intro g2 h2 τ' δ' kk kk' y2 R2 rs' t q
      exact sE elt _ _ _ _ _ _ _ g2 δ' t R2 rs' q okWF
theorem sEs : ∀ (e : MEs) (W : Tw) (W' : DE) (τ : Tst) (h : Hs) (Q : List Tv → Hs → Prop) (Q' : List D → Store → Prop) (g : Wd) (δ : DSt), tEs Ψ W e τ h Q → Rel g h → RdSt g.toFr0 δ τ → OkL g Q Q' → OkW g W W' → wpEs Φ W' e δ g.S Q'
  | .n, W, W', τ, h, Q, Q', g, δ, t, R, rs, k, kw => by
    unfold tEs at t; unfold wpEs
    exact k _ _ _ g t R (Gr.refl g) RdL.nil
  | .c e es, W, W', τ, h, Q, Q', g, δ, t, R, rs, k, kw => by
    unfold tEs at t; unfold wpEs
    refine sE e _ _ _ _ _ _ _ g δ t R rs (fun x h1 dx g1 t R1 y1 rx => ?_) kw
    refine sEs es _ _ _ _ _ _ g1 δ t R1 (rs.gf y1.toGf) (fun y h2 dy g2 t R2 y2 ry => ?_) (kw.gr y1)
    exact k _ _ _ g2 t R2 (y1.trans y2) (RdL.cons (rx.gf y2.toGf) ry)
theorem sEo : ∀ (e : MEo) (W : Tw) (W' : DE) (τ : Tst) (h : Hs) (Q : Option Tv → Hs → Prop) (Q' : Option D → Store → Prop) (g : Wd) (δ : DSt), tEo Ψ W e τ h Q → Rel g h → RdSt g.toFr0 δ τ → OkO g Q Q' → OkW g W W' → wpEo Φ W' e δ g.S Q'
  | .n, W, W', τ, h, Q, Q', g, δ, t, R, rs, k, kw => by
    unfold tEo at t; unfold wpEo
    exact k _ _ _ g t R (Gr.refl g) trivial
  | .s e, W, W', τ, h, Q, Q', g, δ, t, R, rs, k, kw => by
    unfold tEo at t; unfold wpEo
    refine sE e _ _ _ _ _ _ _ g δ t R rs (fun x h1 dx g1 t R1 y1 rx => ?_) kw
    exact k _ _ _ g1 t R1 y1 rx
theorem sI : ∀ (e : MI) (W : Tw) (W' : DE) (τ : Tst) (h : Hs) (Q : List Tv → Hs → Prop) (Q' : Walk → Store → Prop) (g : Wd) (δ : DSt), tI Ψ W e τ h Q → Rel g h → RdSt g.toFr0 δ τ → OkI g Q Q' → OkW g W W' → wpI Φ W' e δ g.S Q'
  | .over e, W, W', τ, h, Q, Q', g, δ, t, R, rs, k, kw => by
    unfold tI at t; unfold wpI
    refine sE e _ _ _ _ _ _ _ g δ t R rs (fun x h1 dx g1 t R1 y1 rx => ?_) kw
    exact s_over R1 rx t fun vs J q r st => k _ _ _ g1 q R1 y1 r st
  | .rng e, W, W', τ, h, Q, Q', g, δ, t, R, rs, k, kw => by
    unfold tI at t; unfold wpI
    refine sE e _ _ _ _ _ _ _ g δ t R rs (fun x h1 dx g1 t R1 y1 rx => ?_) kw
    exact s_asI rx t fun j t => s_rng t fun vs J q r st => k _ _ _ g1 q R1 y1 r st
  | .rng2 a b, W, W', τ, h, Q, Q', g, δ, t, R, rs, k, kw => by
    unfold tI at t; unfold wpI
    refine sE a _ _ _ _ _ _ _ g δ t R rs (fun x h1 dx g1 t R1 y1 rx => ?_) kw
    refine sE b _ _ _ _ _ _ _ g1 δ t R1 (rs.gf y1.toGf) (fun y h2 dy g2 t R2 y2 ry => ?_) (kw.gr y1)
    exact s_asI (rx.gf y2.toGf) t fun i t => s_asI ry t fun j t => s_rng t fun vs J q r st => k _ _ _ g2 q R2 (y1.trans y2) r st
  | .enum e, W, W', τ, h, Q, Q', g, δ, t, R, rs, k, kw => by
    unfold tI at t; unfold wpI
    refine sE e _ _ _ _ _ _ _ g δ t R rs (fun x h1 dx g1 t R1 y1 rx => ?_) kw
    exact s_enum R1 rx t fun vs J q r st => k _ _ _ g1 q R1 y1 r st
end
end
end Nf
/-! NfTz: statements and whole programs. -/
set_option linter.all false
set_option maxHeartbeats 0
namespace Nf
/-- ends -/
def OkE (g : Wd) (E : Te) (E' : DEnds) : Prop := (∀ τ h δ (g' : Wd), E.nx τ h → Rel g' h → Gr g g' → RdSt g'.toFr0 δ τ → E'.nx δ g'.S) ∧ Ok g E.rt E'.rt
theorem OkE.gr {g g1 : Wd} {E : Te} {E' : DEnds} (k : OkE g E E') (x : Gr g g1) : OkE g1 E E' := ⟨fun τ h δ g' q R y r => k.1 τ h δ g' q R (x.trans y) r, k.2.gr x⟩
theorem OkE.here {g : Wd} {E : Te} {E' : DEnds} (k : OkE g E E') {h : Hs} {τ : Tst} {δ : DSt} (R : Rel g h) (t : E.nx τ h) (r : RdSt g.toFr0 δ τ) : E'.nx δ g.S := k.1 τ h δ g t R (Gr.refl g) r
theorem s_for {tg : Tv → Tst → (Tst → Prop) → Prop} {body : Te → Tst → Hs → Prop} {E : Te} {tg' : D → Store → DSt → (DSt → Prop) → Prop} {body' : DEnds → DSt → Store → Prop} {E' : DEnds} {ok : Store → Prop} {g0 : Wd}
    (htg : ∀ (g : Wd) x dx τ δ (k : Tst → Prop) (k' : DSt → Prop), Rd g.toFr0 dx x → RdSt g.toFr0 δ τ → tg x τ k → (∀ τ δ, k τ → RdSt g.toFr0 δ τ → k' δ) → tg' dx g.S δ k')
    (hb : ∀ (g : Wd) h τ δ (F : Te) (F' : DEnds), Gr g0 g → Rel g h → RdSt g.toFr0 δ τ → body F τ h → OkE g F F' → body' F' δ g.S)
    (hok : ∀ (g : Wd) h, Gr g0 g → Rel g h → ok g.S) :
    ∀ (vs : List Tv) (h : Hs) (g : Wd) (τ : Tst) (δ : DSt) (ds : List D), Gr g0 g → Rel g h → RdSt g.toFr0 δ τ → RdL g.toFr0 ds vs → tFor tg body E vs τ h → OkE g E E' → forItems tg' ok body' E' ds δ g.S
  | [], h, g, τ, δ, ds, x, R, rs, r, t, k => by
    rw [r.nilV]
    exact ⟨hok g h x R, k.here R t rs⟩
  | v :: vs, h, g, τ, δ, ds, x, R, rs, r, t, k => by
    obtain ⟨d, ds, rfl, r1, r2⟩ := r.cases
    refine ⟨hok g h x R, htg g v d τ δ _ _ r1 rs t fun τ1 δ1 t rs1 => hb g h τ1 δ1 _ _ x R rs1 t ⟨fun τ2 h2 δ2 g2 t R2 y rs2 => ?_, k.2⟩⟩
    exact s_for htg hb hok vs h2 g2 τ2 δ2 ds (x.trans y) R2 rs2 (r2.gf y.toGf) t (k.gr y)
theorem s_whl {test : Tst → Hs → (Bool → Hs → Prop) → Prop} {body : Te → Tst → Hs → Prop} {E : Te} {test' : DSt → Store → (Bool → Store → Prop) → Prop} {body' : DEnds → DSt → Store → Prop} {E' : DEnds} {g0 : Wd}
    (ht : ∀ (g : Wd) h τ δ (k : Bool → Hs → Prop) (k' : Bool → Store → Prop), Gr g0 g → Rel g h → RdSt g.toFr0 δ τ → test τ h k → (∀ b h' (g' : Wd), k b h' → Rel g' h' → Gr g g' → k' b g'.S) → test' δ g.S k')
    (hb : ∀ (g : Wd) h τ δ (F : Te) (F' : DEnds), Gr g0 g → Rel g h → RdSt g.toFr0 δ τ → body F τ h → OkE g F F' → body' F' δ g.S) :
    ∀ (n : Nat) (h : Hs) (g : Wd) (τ : Tst) (δ : DSt), Gr g0 g → Rel g h → RdSt g.toFr0 δ τ → tWhl test body E n τ h → OkE g E E' → whileN test' body' E' n δ g.S
  | 0, h, g, τ, δ, x, R, rs, t, k => t.elim
  | n + 1, h, g, τ, δ, x, R, rs, t, k => by
    refine ht g h τ δ _ _ x R rs t fun b h1 g1 t R1 y => ?_
    cases b with
    | false => exact (k.gr y).here R1 t (rs.gf y.toGf)
    | true => exact hb g1 h1 τ δ _ _ (x.trans y) R1 (rs.gf y.toGf) t ⟨fun τ2 h2 δ2 g2 t R2 z rs2 => s_whl ht hb n h2 g2 τ2 δ2 ((x.trans y).trans z) R2 rs2 t (k.gr (y.trans z)), (k.gr y).2⟩
section
variable {Φ : Fenv} {Ψ : Tenv} (H : Keeps Φ Ψ)
include H
mutual
theorem sS : ∀ (s : MS) (W : Tw) (W' : DE) (E : Te) (E' : DEnds) (τ : Tst) (h : Hs) (g : Wd) (δ : DSt), tS Ψ W s E τ h → Rel g h → RdSt g.toFr0 δ τ → OkE g E E' → OkW g W W' → wpS Φ W' s E' δ g.S
  | .expr e, W, W', E, E', τ, h, g, δ, t, R, rs, k, kw => by
    unfold tS at t; unfold wpS
    exact sE H e _ _ _ _ _ _ _ g δ t R rs (fun x h1 dx g1 t R1 y1 rx => (k.gr y1).here R1 t (rs.gf y1.toGf)) kw
  | .set i e, W, W', E, E', τ, h, g, δ, t, R, rs, k, kw => by
    unfold tS at t; unfold wpS
    exact sE H e _ _ _ _ _ _ _ g δ t R rs (fun x h1 dx g1 t R1 y1 rx => (k.gr y1).here R1 t ((rs.gf y1.toGf).set i rx)) kw
  | .setA o f e, W, W', E, E', τ, h, g, δ, t, R, rs, k, kw => by
    unfold tS at t; unfold wpS
    refine sE H e _ _ _ _ _ _ _ g δ t R rs (fun x h1 dx g1 t R1 y1 rx => ?_) kw
    refine sE H o _ _ _ _ _ _ _ g1 δ t R1 (rs.gf y1.toGf) (fun y h2 dy g2 t R2 y2 ry => ?_) (kw.gr y1)
    exact s_setA R2 ry (rx.gf y2.toGf) t fun h3 g3 t R3 y3 => (k.gr ((y1.trans y2).trans y3)).here R3 t (rs.gf ((y1.trans y2).trans y3).toGf)
  | .setI o i e, W, W', E, E', τ, h, g, δ, t, R, rs, k, kw => by
    unfold tS at t; unfold wpS
    refine sE H e _ _ _ _ _ _ _ g δ t R rs (fun x h1 dx g1 t R1 y1 rx => ?_) kw
    refine sE H o _ _ _ _ _ _ _ g1 δ t R1 (rs.gf y1.toGf) (fun y h2 dy g2 t R2 y2 ry => ?_) (kw.gr y1)
    have y12 := y1.trans y2
    refine sE H i _ _ _ _ _ _ _ g2 δ t R2 (rs.gf y12.toGf) (fun z h3 dz g3 t R3 y3 rz => ?_) (kw.gr y12)
    exact s_setI R3 (ry.gf y3.toGf) rz (rx.gf (y2.trans y3).toGf) t fun h4 g4 t R4 y4 => (k.gr ((y12.trans y3).trans y4)).here R4 t (rs.gf ((y12.trans y3).trans y4).toGf)
  | .setI2 o1 i1 o2 i2 e1 e2, W, W', E, E', τ, h, g, δ, t, R, rs, k, kw => by
    unfold tS at t; unfold wpS
    simp only [wpE, wpEs]
    refine sE H e1 _ _ _ _ _ _ _ g δ t R rs (fun v1 h1 d1 g1 t R1 y1 r1 => ?_) kw
    refine sE H e2 _ _ _ _ _ _ _ g1 δ t R1 (rs.gf y1.toGf) (fun v2 h2 d2 g2 t R2 y2 r2 => ?_) (kw.gr y1)
    have z2 := y1.trans y2
    refine ⟨by simp [szLine], ?_⟩
    refine sE H o1 _ _ _ _ _ _ _ g2 δ t R2 (rs.gf z2.toGf) (fun v3 h3 d3 g3 t R3 y3 r3 => ?_) (kw.gr z2)
    have z3 := z2.trans y3
    refine sE H i1 _ _ _ _ _ _ _ g3 δ t R3 (rs.gf z3.toGf) (fun v4 h4 d4 g4 t R4 y4 r4 => ?_) (kw.gr z3)
    have z4 := z3.trans y4
    have r1' := r1.gf ((y2.trans y3).trans y4).toGf
    have r3' := r3.gf y4.toGf
    refine s_setI R4 r3' r4 r1' t fun h5 g5 t R5 y5 => ?_
    have z5 := z4.trans y5
    refine sE H o2 _ _ _ _ _ _ _ g5 δ t R5 (rs.gf z5.toGf) (fun v6 h6 d6 g6 t R6 y6 r6 => ?_) (kw.gr z5)
    have z6 := z5.trans y6
    refine sE H i2 _ _ _ _ _ _ _ g6 δ t R6 (rs.gf z6.toGf) (fun v7 h7 d7 g7 t R7 y7 r7 => ?_) (kw.gr z6)
    have z7 := z6.trans y7
    have r2' := r2.gf ((((y3.trans y4).trans y5).trans y6).trans y7).toGf
    have r6' := r6.gf y7.toGf
    exact s_setI R7 r6' r7 r2' t fun h8 g8 t R8 y8 => (k.gr (z7.trans y8)).here R8 t (rs.gf (z7.trans y8).toGf)
  | .unp tg e, W, W', E, E', τ, h, g, δ, t, R, rs, k, kw => by
    unfold tS at t; unfold wpS
    refine sE H e _ _ _ _ _ _ _ g δ t R rs (fun x h1 dx g1 t R1 y1 rx => ?_) kw
    exact s_tg (rs.gf y1.toGf) rx t fun τ' δ' t rs' => (k.gr y1).here R1 t rs'
  | .par is es, W, W', E, E', τ, h, g, δ, t, R, rs, k, kw => by
    unfold tS at t; unfold wpS
    refine sEs H es _ _ _ _ _ _ g δ t R rs (fun x h1 dx g1 t R1 y1 rx => ?_) kw
    split at t
    · rename_i τ' e
      obtain ⟨δ', e1, e2⟩ := (rs.gf y1.toGf).sets rx e
      simp only [e1]
      exact (k.gr y1).here R1 t e2
    · exact t.elim
  | .ret e, W, W', E, E', τ, h, g, δ, t, R, rs, k, kw => by
    unfold tS at t; unfold wpS
    exact sE H e _ _ _ _ _ _ _ g δ t R rs k.2 kw
  | .ret0, W, W', E, E', τ, h, g, δ, t, R, rs, k, kw => by
    unfold tS at t; unfold wpS
    exact k.2.here R t Rd.ofNon
  | .pass, W, W', E, E', τ, h, g, δ, t, R, rs, k, kw => by
    unfold tS at t; unfold wpS
    exact k.here R t rs
  | .ife c a b, W, W', E, E', τ, h, g, δ, t, R, rs, k, kw => by
    unfold tS at t; unfold wpS
    refine sE H c _ _ _ _ _ _ _ g δ t R rs (fun x h1 dx g1 t R1 y1 rx => ?_) kw
    refine s_asB rx t fun c q => ?_
    cases c with
    | true => exact sSs a _ _ _ _ _ _ g1 δ q R1 (rs.gf y1.toGf) (k.gr y1) (kw.gr y1)
    | false => exact sSs b _ _ _ _ _ _ g1 δ q R1 (rs.gf y1.toGf) (k.gr y1) (kw.gr y1)
  | .for_ tg it body, W, W', E, E', τ, h, g, δ, t, R, rs, k, kw => by
    unfold tS at t; unfold wpS
    refine sI H it _ _ _ _ _ _ g δ t R rs (fun vs h1 J g1 t R1 y1 rJ st => ?_) kw
    refine s_for (g0 := g1) (fun g2 x dx τ' δ' kk kk' rx rs' t q => s_tg rs' rx t q) (fun g2 h2 τ' δ' F F' y2 R2 rs' t kF => ?_) (fun g2 h2 x R2 => st g2 h2 x R2) vs h1 g1 τ δ J.its (Gr.refl g1) R1 (rs.gf y1.toGf) rJ t (k.gr y1)
    exact sSs body _ _ _ _ _ _ g2 δ' t R2 rs' kF (kw.gr (y1.trans y2))
  | .whl c body, W, W', E, E', τ, h, g, δ, t, R, rs, k, kw => by
    unfold tS at t; unfold wpS
    obtain ⟨n, t⟩ := t
    refine ⟨n, s_whl (g0 := g) (fun g2 h2 τ' δ' kk kk' y2 R2 rs' t q => ?_) (fun g2 h2 τ' δ' F F' y2 R2 rs' t kF => ?_) n h g τ δ (Gr.refl g) R rs t k⟩
    · refine sE H c _ _ _ _ _ _ _ g2 δ' t R2 rs' (fun x h3 dx g3 t R3 y3 rx => ?_) (kw.gr y2)
      exact s_asB rx t fun b t => q _ _ g3 t R3 y3
    · exact sSs body _ _ _ _ _ _ g2 δ' t R2 rs' kF (kw.gr y2)
  | .raise c, W, W', E, E', τ, h, g, δ, t, R, rs, k, kw => by
    unfold tS at t; unfold wpS
    exact kw _ _ _ g t R (Gr.refl g) ⟨rfl, rfl⟩
  | .never, W, W', E, E', τ, h, g, δ, t, R, rs, k, kw => by
    unfold tS at t
    exact t.elim
  | .frz i s, W, W', E, E', τ, h, g, δ, t, R, rs, k, kw => by
    unfold tS at t; unfold wpS
    unfold getT at t
    split at t
    · rename_i v e
      obtain ⟨d, e1, rv⟩ := rs.2 i v e
      obtain ⟨g', v', h', q, R', y, eS, r'⟩ := s_frz2 R rv t
      rw [← eS]
      refine sS s _ _ _ _ _ _ g' δ q R' ?_ (k.gr y) (kw.gr y)
      have z := (rs.gf y.toGf).set i r'
      have ed : δ.set i (some d) = δ := by
        apply List.ext_getElem?
        intro j
        rw [List.getElem?_set]
        split
        · rename_i hij
          subst hij
          rw [e1]
          split
          · rfl
          · rename_i hl
            exact absurd (List.getElem?_eq_some_iff.mp e1).1 hl
        · rfl
      rw [ed] at z
      exact z
    · exact t.elim
  | .tryR e d, W, W', E, E', τ, h, g, δ, t, R, rs, k, kw => by
    unfold tS at t; unfold wpS
    split at t
    · refine sE H e _ _ _ _ _ _ _ g δ t R rs k.2 fun x h' x' g' hw R' y rx => ?_
      exact ⟨by rw [rx.1]; exact hw.1, k.2 _ _ _ g' hw.2 R' y Rd.ofStr⟩
    · exact t.elim
  | .raise1 c f e, W, W', E, E', τ, h, g, δ, t, R, rs, k, kw => by
    unfold tS at t; unfold wpS
    refine sE H e _ _ _ _ _ _ _ g δ t R rs (fun x h1 dx g1 t R1 y1 rx => ?_) kw
    exact kw _ _ _ g1 t R1 y1 ⟨rfl, dx, rfl, rx⟩
  | .lock s, W, W', E, E', τ, h, g, δ, t, R, rs, k, kw => by
    unfold tS at t; unfold wpS
    obtain ⟨i, kvs, he, t⟩ := t
    obtain ⟨p, dk, e, R1, y1, un⟩ := s_lock R he
    refine ⟨p, dk, e, sS s _ _ _ _ _ _ (g.upd p (.fdc dk)) δ t R1 (rs.gf y1.toGf) ⟨fun τ2 h2 δ2 g2 q R2 y2 rs2 => ?_, fun v h2 d g2 q R2 y2 rv => ?_⟩ okWF⟩
    · obtain ⟨u1, u2, u3⟩ := un g2 h2 y2 R2 q.1
      exact ⟨u1, k.1 _ _ _ (g2.upd p (.dic dk)) q.2 u2 u3 rs2⟩
    · obtain ⟨u1, u2, u3⟩ := un g2 h2 y2 R2 q.1
      exact ⟨u1, k.2 _ _ _ (g2.upd p (.dic dk)) q.2 u2 u3 rv⟩
theorem sSs : ∀ (s : MSs) (W : Tw) (W' : DE) (E : Te) (E' : DEnds) (τ : Tst) (h : Hs) (g : Wd) (δ : DSt), tSs Ψ W s E τ h → Rel g h → RdSt g.toFr0 δ τ → OkE g E E' → OkW g W W' → wpSs Φ W' s E' δ g.S
  | .n, W, W', E, E', τ, h, g, δ, t, R, rs, k, kw => by
    unfold tSs at t; unfold wpSs
    exact k.here R t rs
  | .c s ss, W, W', E, E', τ, h, g, δ, t, R, rs, k, kw => by
    unfold tSs at t; unfold wpSs
    refine sS s _ _ _ _ _ _ g δ t R rs ⟨fun τ2 h2 δ2 g2 t R2 y2 rs2 => ?_, k.2⟩ kw
    exact ⟨g2.S, Le.refl _, sSs ss _ _ _ _ _ _ g2 δ2 t R2 rs2 (k.gr y2) (kw.gr y2)⟩
end
end

/-! ### what is left behind -/
mutual
theorem rd_clos {F : Store} {r : List Nat} : ∀ {v : Tv} {d : D}, Rd ⟨F, r⟩ d v → v.clos r.length = true
  | .obj i, d, h => by
    obtain ⟨a, e, _⟩ := h.toObj
    simp only [Tv.clos, decide_eq_true_eq]
    exact (List.getElem?_eq_some_iff.mp e).1
  | .tup vs, d, h => by
    obtain ⟨ds, _, h⟩ := h.toTup
    simp only [Tv.clos]
    exact rdL_clos h
  | .lst vs, d, h => by
    obtain ⟨a, ds, _, _, h⟩ := h.toLst
    simp only [Tv.clos]
    exact rdL_clos h
  | .non, _, _ => by simp only [Tv.clos]
  | .bl _, _, _ => by simp only [Tv.clos]
  | .int _, _, _ => by simp only [Tv.clos]
  | .str _, _, _ => by simp only [Tv.clos]
  | .ty _, _, _ => by simp only [Tv.clos]
  | .cls _, _, _ => by simp only [Tv.clos]
  | .frz _, _, _ => by simp only [Tv.clos]
theorem rdL_clos {F : Store} {r : List Nat} : ∀ {v : List Tv} {d : List D}, RdL ⟨F, r⟩ d v → Tv.closL r.length v = true
  | [], _, _ => by simp only [Tv.closL]
  | v :: vs, _, h => by
    obtain ⟨d, ds, _, h1, h2⟩ := h.cases
    simp only [Tv.closL, Bool.and_eq_true]
    exact ⟨rd_clos h1, rdL_clos h2⟩
end
theorem rdA_clos {α : Type} {g : Fr0} : ∀ {v : List (α × Tv)} {d : List (α × D)}, RdA g d v → ∀ p ∈ v, p.2.clos g.r.length = true
  | [], _, _ => fun _ h => (nomatch h)
  | (k, v) :: vs, _, h => by
    obtain ⟨d, ds, _, h1, h2⟩ := h.cases
    intro p hp
    rcases List.mem_cons.mp hp with rfl | hp
    · exact rd_clos h1
    · exact rdA_clos h2 p hp
theorem rdK_clos {g : Fr0} : ∀ {v : List (Tv × Tv)} {d : List (D × D)}, RdK g d v → ∀ p ∈ v, p.2.clos g.r.length = true
  | [], _, _ => fun _ h => (nomatch h)
  | (k, v) :: vs, _, h => by
    obtain ⟨kd, d, ds, _, _, h1, h2⟩ := h.cases
    intro p hp
    rcases List.mem_cons.mp hp with rfl | hp
    · exact rd_clos h1
    · exact rdK_clos h2 p hp
theorem rdO_clos {g : Fr0} {o' : DO} : ∀ {o : To}, RdO g o' o → o.clos g.r.length
  | .lst vs, h => by obtain ⟨ds, e, h⟩ := h; exact rdL_clos h
  | .dic vs, h => by obtain ⟨ds, e, h⟩ := h; exact rdK_clos h
  | .fdc vs, h => by obtain ⟨ds, e, h⟩ := h; exact rdK_clos h
  | .set vs, h => trivial
  | .ins c vs, h => by obtain ⟨ds, e, h⟩ := h; exact rdA_clos h
  | .dead, h => trivial
mutual
theorem rd_take {F : Store} {r : List Nat} {n : Nat} : ∀ {v : Tv} {d : D}, Rd ⟨F, r⟩ d v → v.clos n = true → Rd ⟨F, r.take n⟩ d v
  | .obj i, d, h, c => by
    obtain ⟨a, e, rfl⟩ := h.toObj
    simp only [Tv.clos, decide_eq_true_eq] at c
    simp only [Rd]
    exact ⟨a, by rw [List.getElem?_take, if_pos c]; exact e, rfl⟩
  | .tup vs, d, h, c => by
    obtain ⟨ds, rfl, h2⟩ := h.toTup
    simp only [Tv.clos] at c
    exact Rd.ofTup (rdL_take h2 c)
  | .lst vs, d, h, c => by
    obtain ⟨a, ds, rfl, f, h⟩ := h.toLst
    simp only [Tv.clos] at c
    simp only [Rd]
    exact ⟨a, ds, rfl, f, rdL_take h c⟩
  | .non, _, h, _ => by simp only [Rd] at h ⊢; exact h
  | .bl _, _, h, _ => by simp only [Rd] at h ⊢; exact h
  | .int _, _, h, _ => by simp only [Rd] at h ⊢; exact h
  | .str _, _, h, _ => by simp only [Rd] at h ⊢; exact h
  | .ty _, _, h, _ => by simp only [Rd] at h ⊢; exact h
  | .cls _, _, h, _ => by simp only [Rd] at h ⊢; exact h
  | .frz _, _, h, _ => by simp only [Rd] at h ⊢; exact h
theorem rdL_take {F : Store} {r : List Nat} {n : Nat} : ∀ {v : List Tv} {d : List D}, RdL ⟨F, r⟩ d v → Tv.closL n v = true → RdL ⟨F, r.take n⟩ d v
  | [], _, h, _ => by rw [h.nilV]; exact RdL.nil
  | v :: vs, _, h, c => by
    obtain ⟨d, ds, rfl, h1, h2⟩ := h.cases
    simp only [Tv.closL, Bool.and_eq_true] at c
    exact RdL.cons (rd_take h1 c.1) (rdL_take h2 c.2)
end
theorem rdA_take {α : Type} {F : Store} {r : List Nat} {n : Nat} : ∀ {v : List (α × Tv)} {d : List (α × D)}, RdA ⟨F, r⟩ d v → (∀ p ∈ v, p.2.clos n = true) → RdA ⟨F, r.take n⟩ d v
  | [], _, h, _ => by rw [h.nilV]; simp [RdA]
  | (k, v) :: vs, _, h, c => by
    obtain ⟨d, ds, rfl, h1, h2⟩ := h.cases
    exact RdA.cons (rd_take h1 (c _ List.mem_cons_self)) (rdA_take h2 fun p hp => c p (List.mem_cons_of_mem _ hp))
theorem rdK_take {F : Store} {r : List Nat} {n : Nat} : ∀ {v : List (Tv × Tv)} {d : List (D × D)}, RdK ⟨F, r⟩ d v → (∀ p ∈ v, p.2.clos n = true) → RdK ⟨F, r.take n⟩ d v
  | [], _, h, _ => by rw [h.nilV]; exact RdK.nil
  | (k, v) :: vs, _, h, c => by
    obtain ⟨kd, d, ds, rfl, h0, h1, h2⟩ := h.cases
    exact RdK.cons h0 (rd_take h1 (c _ List.mem_cons_self)) (rdK_take h2 fun p hp => c p (List.mem_cons_of_mem _ hp))
theorem rdO_take {F : Store} {r : List Nat} {n : Nat} {o' : DO} : ∀ {o : To}, RdO ⟨F, r⟩ o' o → o.clos n → RdO ⟨F, r.take n⟩ o' o
  | .lst vs, h, c => by obtain ⟨ds, e, h⟩ := h; exact ⟨ds, e, rdL_take h c⟩
  | .dic vs, h, c => by obtain ⟨ds, e, h⟩ := h; exact ⟨ds, e, rdK_take h c⟩
  | .fdc vs, h, c => by obtain ⟨ds, e, h⟩ := h; exact ⟨ds, e, rdK_take h c⟩
  | .set vs, h, c => h
  | .ins _ vs, h, c => by obtain ⟨ds, e, h⟩ := h; exact ⟨ds, e, rdA_take h c⟩
  | .dead, h, c => trivial
mutual
theorem clos_le {n m : Nat} (hl : n ≤ m) : ∀ {v : Tv}, v.clos n = true → v.clos m = true
  | .obj i, h => by simp only [Tv.clos, decide_eq_true_eq] at h ⊢; omega
  | .tup vs, h => by simp only [Tv.clos] at h ⊢; exact closL_le hl h
  | .lst vs, h => by simp only [Tv.clos] at h ⊢; exact closL_le hl h
  | .non, _ => by simp only [Tv.clos]
  | .bl _, _ => by simp only [Tv.clos]
  | .int _, _ => by simp only [Tv.clos]
  | .str _, _ => by simp only [Tv.clos]
  | .ty _, _ => by simp only [Tv.clos]
  | .cls _, _ => by simp only [Tv.clos]
  | .frz _, _ => by simp only [Tv.clos]
theorem closL_le {n m : Nat} (hl : n ≤ m) : ∀ {v : List Tv}, Tv.closL n v = true → Tv.closL m v = true
  | [], _ => by simp only [Tv.closL]
  | v :: vs, h => by
    simp only [Tv.closL, Bool.and_eq_true] at h ⊢
    exact ⟨clos_le hl h.1, closL_le hl h.2⟩
end
theorem To.clos_le {n m : Nat} (hl : n ≤ m) : ∀ {o : To}, o.clos n → o.clos m
  | .lst vs, h => closL_le hl h
  | .dic vs, h => fun p hp => Nf.clos_le hl (h p hp)
  | .fdc vs, h => fun p hp => Nf.clos_le hl (h p hp)
  | .set vs, h => h
  | .ins c vs, h => fun p hp => Nf.clos_le hl (h p hp)
  | .dead, h => h
theorem swept_rel {g g' : Wd} {h h' h2 : Hs} (R : Rel g h) (R' : Rel g' h') (x : Gr g g') (s : Swept h h' h2) :
    Rel ⟨⟨g'.F, g'.r.take h2.length⟩, g'.S⟩ h2 ∧ Gr g ⟨⟨g'.F, g'.r.take h2.length⟩, g'.S⟩ := by
  obtain ⟨⟨u, rfl⟩, hl, hc⟩ := s
  have hr : (g'.r.take h2.length).length = h2.length := by
    have := R'.len
    rw [List.length_append] at this
    rw [List.length_take]; omega
  refine ⟨⟨R'.le, hr, (List.take_sublist _ _).nodup R'.nd, fun i o hi => ?_⟩, ⟨⟨x.le, ?_⟩, x.lk⟩⟩
  · have hi2 : i < h2.length := (List.getElem?_eq_some_iff.mp hi).1
    obtain ⟨a, o', e1, e2, e3, e4⟩ := R'.ob i o (by rw [List.getElem?_append_left hi2]; exact hi)
    refine ⟨a, o', ?_, e2, ?_, e4⟩
    · show (g'.r.take h2.length)[i]? = _
      rw [List.getElem?_take, if_pos hi2]; exact e1
    · have cl : o.clos h2.length := by
        rcases hc i o hi with q | q
        · obtain ⟨_, _, _, _, e5, _⟩ := R.ob i o q
          have := rdO_clos e5
          rw [R.len] at this; exact To.clos_le hl this
        · exact q
      exact rdO_take e3 cl
  · show g.r <+: g'.r.take h2.length
    obtain ⟨t, e⟩ := x.pre
    rw [← e, List.take_append, List.take_of_length_le (by rw [R.len]; exact hl)]
    exact List.prefix_append _ _
theorem ok_gc {g : Wd} {h : Hs} {Q : Tq} {Q' : DQ} (R : Rel g h) (k : Ok g Q Q') : Ok g (gcQ h Q) Q' := by
  intro v h' d g' q R' x r
  rcases q with q | ⟨h2, s, c, q⟩
  · exact k v h' d g' q R' x r
  · obtain ⟨R2, x2⟩ := swept_rel R R' x s
    exact k v h2 d ⟨⟨g'.F, g'.r.take h2.length⟩, g'.S⟩ q R2 x2 (rd_take r c)
theorem okW_gc {g : Wd} {h : Hs} {Q : Tw} {Q' : DE} (R : Rel g h) (k : OkW g Q Q') : OkW g (gcW h Q) Q' := by
  intro v h' d g' q R' x r
  rcases q with q | ⟨h2, s, c, q⟩
  · exact k v h' d g' q R' x r
  · obtain ⟨R2, x2⟩ := swept_rel R R' x s
    refine k v h2 d ⟨⟨g'.F, g'.r.take h2.length⟩, g'.S⟩ q R2 x2 ⟨r.1, ?_⟩
    have r := r.2
    cases e : v.val with
    | none => rw [e] at r; exact r
    | some p =>
      rw [e] at r
      obtain ⟨dd, e1, e2⟩ := r
      exact ⟨dd, e1, rd_take e2 (c p e)⟩
theorem rs_start {g : Fr0} : ∀ {ds : List D} {vs : List Tv} (n : Nat), RdL g ds vs → RdSt g (ds.map some ++ List.replicate n none) (vs.map some ++ List.replicate n none) := by
  intro ds vs n r
  refine ⟨by simp [r.len], fun i v e => ?_⟩
  rcases Nat.lt_or_ge i vs.length with hl | hl
  · rw [List.getElem?_append_left (by simpa using hl), List.getElem?_map] at e
    rw [List.getElem?_append_left (by simpa [r.len] using hl), List.getElem?_map]
    cases e2 : vs[i]? with
    | none => rw [e2] at e; cases e
    | some w =>
      rw [e2] at e; cases e
      obtain ⟨d, e3, e4⟩ := r.get e2
      exact ⟨d, by rw [e3]; rfl, e4⟩
  · rw [List.getElem?_append_right (by simpa using hl), List.getElem?_replicate] at e
    split at e <;> cases e
/-- programs kept -/
theorem trun_ok (P : Prg) : ∀ k, Keeps (run P k) (trun P k)
  | 0 => fun c f vs h Q W g ds Q' W' t _ _ _ _ => t.elim
  | k + 1 => fun c f vs h Q W g ds Q' W' t R r q qw => by
    unfold trun at t
    unfold run
    split at t
    · rename_i m e
      try rw [e]
      refine ⟨by rw [r.len]; exact t.1, sSs (trun_ok P k) m.body _ _ _ _ _ _ g _ t.2 R (rs_start _ r) ⟨fun τ h' δ g' q' R' x _ => ?_, ok_gc R q⟩ (okW_gc R qw)⟩
      exact ok_gc R q _ _ _ g' q' R' x Rd.ofNon
    · exact t.elim
/-- a law -/
theorem law_of {P : Prg} {k : Nat} {f : String} {ns : List Int} (t : trun P k "" f [.frz ns] [] (fun v _ => v = .bl true) (fun _ _ => False)) :
    run P k "" f [.frz ns] (fun _ => none) (fun d _ => d = .bl true) (fun _ _ => False) := by
  have e0 : (fun _ => none : Store) = (⟨⟨fun _ => none, []⟩, fun _ => none⟩ : Wd).S := rfl
  rw [e0]
  refine trun_ok P k "" f _ _ _ _ _ [.frz ns] _ _ t ⟨fun _ _ h => h, rfl, List.nodup_nil, fun i o h => by simp at h⟩ (RdL.cons (by simp only [Rd]) RdL.nil) (fun v h' d g' q R x r => ?_) (fun _ _ _ _ h _ _ _ => h)
  subst q
  exact r.toBl
end Nf
/-! NfU: for working with trees. -/
set_option linter.all false
set_option maxHeartbeats 0
set_option maxRecDepth 100000
namespace Nf
def Hd (P : Prg) (r : FRec) : Prop := P.lookup (r.cls, r.name) = some ⟨r.ps.length, r.N.length, r.body⟩
theorem call_of {P : Prg} {k : Nat} {r : FRec} {c f : String} {args : List Tv} {h : Hs} {Q : Tq} {W : Tw} (p : Hd P r) (hc : r.cls = c) (hf : r.name = f) (hl : args.length = r.ps.length)
    (t : tSs (trun P k) (gcW h W) r.body ⟨fun _ h' => gcQ h Q .non h', gcQ h Q⟩ (args.map some ++ List.replicate (r.N.length - r.ps.length) none) h) : trun P (k + 1) c f args h Q W := by
  subst hc; subst hf
  unfold trun
  rw [p]
  exact ⟨hl, t⟩
theorem getT_0 {d : Tv} {δ : Tst} {k : Tv → Prop} : getT (some d :: δ) 0 k = k d := rfl
theorem getT_s {x : Option Tv} {δ : Tst} {i : Nat} {k : Tv → Prop} : getT (x :: δ) (i + 1) k = getT δ i k := rfl
/-- a loop over known things, by its turns -/
theorem tFor_inv {tg : Tv → Tst → (Tst → Prop) → Prop} {body : Te → Tst → Hs → Prop} {E : Te} {α : Type} {e : α → Tv} (I : List α → Tst → Hs → Prop)
    (hend : ∀ τ h, I [] τ h → E.nx τ h)
    (hstep : ∀ x xs τ h (K : Tst → Hs → Prop), I (x :: xs) τ h → (∀ τ2 h2, I xs τ2 h2 → K τ2 h2) → tg (e x) τ fun τ' => body ⟨K, E.rt⟩ τ' h) :
    ∀ (xs : List α) (τ : Tst) (h : Hs), I xs τ h → tFor tg body E (xs.map e) τ h
  | [], τ, h, i => hend τ h i
  | x :: xs, τ, h, i => hstep x xs τ h _ i fun τ2 h2 i2 => tFor_inv I hend hstep xs τ2 h2 i2
/-- the same, with the number of the turn -/
theorem tFor_num {tg : Tv → Tst → (Tst → Prop) → Prop} {body : Te → Tst → Hs → Prop} {E : Te} {α : Type} {e : α → Tv} {its : List α} (I : Nat → Tst → Hs → Prop) {τ : Tst} {h : Hs} (h0 : I 0 τ h)
    (hend : ∀ τ h, I its.length τ h → E.nx τ h)
    (hstep : ∀ n x τ h (K : Tst → Hs → Prop), its[n]? = some x → I n τ h → (∀ τ2 h2, I (n + 1) τ2 h2 → K τ2 h2) → tg (e x) τ fun τ' => body ⟨K, E.rt⟩ τ' h) :
    tFor tg body E (its.map e) τ h := by
  refine tFor_inv (fun xs τ h => ∃ n, xs = its.drop n ∧ n ≤ its.length ∧ I n τ h) (fun τ h ⟨n, e1, e2, i⟩ => ?_) (fun x xs τ h K ⟨n, e1, e2, i⟩ hk => ?_) its τ h ⟨0, by simp, by simp, h0⟩
  · have : n = its.length := by
      have := congrArg List.length e1
      simp at this; omega
    subst this
    exact hend τ h i
  · have hx : its[n]? = some x := by
      have := congrArg (fun l => l[0]?) e1
      simp at this
      exact this.symm
    have hlt := (List.getElem?_eq_some_iff.mp hx).1
    refine hstep n x τ h K hx i fun τ2 h2 i2 => hk τ2 h2 ⟨n + 1, ?_, by omega, i2⟩
    have := congrArg List.tail e1
    simpa [List.tail_drop] using this
/-- a loop over a range -/
theorem tFor_rng {tg : Tv → Tst → (Tst → Prop) → Prop} {body : Te → Tst → Hs → Prop} {E : Te} {lo : Int} {m : Nat} (I : Nat → Tst → Hs → Prop) {τ : Tst} {h : Hs} (h0 : I 0 τ h)
    (hend : ∀ τ h, I m τ h → E.nx τ h)
    (hstep : ∀ n τ h (K : Tst → Hs → Prop), n < m → I n τ h → (∀ τ2 h2, I (n + 1) τ2 h2 → K τ2 h2) → tg (.int (lo + (n : Nat))) τ fun τ' => body ⟨K, E.rt⟩ τ' h) :
    tFor tg body E ((List.range m).map fun k => .int (lo + (k : Nat))) τ h := by
  refine tFor_num (e := fun k : Nat => Tv.int (lo + (k : Nat))) I h0 (fun τ h i => hend τ h (by simpa using i)) fun n x τ h K hx i hk => ?_
  have hx2 := List.getElem?_eq_some_iff.mp hx
  obtain ⟨hl, hx2⟩ := hx2
  simp at hx2 hl
  subst hx2
  exact hstep n τ h K hl i hk
theorem tWhl_inv {test : Tst → Hs → (Bool → Hs → Prop) → Prop} {body : Te → Tst → Hs → Prop} {E : Te} (I : Nat → Tst → Hs → Prop)
    (hstep : ∀ n τ h (K : Tst → Hs → Prop), I n τ h → (∀ j, j < n → ∀ τ2 h2, I j τ2 h2 → K τ2 h2) → test τ h fun b h1 => if b then body ⟨K, E.rt⟩ τ h1 else E.nx τ h1)
    {n : Nat} {τ : Tst} {h : Hs} (i : I n τ h) : ∃ N, tWhl test body E N τ h := by
  have key : ∀ N n, n < N → ∀ τ h, I n τ h → tWhl test body E N τ h := by
    intro N
    induction N with
    | zero => intro n hn; omega
    | succ N ih =>
      intro n hn τ h i
      exact hstep n τ h _ i fun j hj τ2 h2 i2 => ih j (by omega) τ2 h2 i2
  exact ⟨n + 1, key (n + 1) n (by omega) τ h i⟩
/-- a comprehension that leaves all else alone -/
theorem tItems_pure {tg : Tv → (Tst → Prop) → Prop} {ts : Tst → Hs → (Bool → Hs → Prop) → Prop} {el : Tst → Hs → Tq → Prop} {K : List Tv → Hs → Prop} {α : Type} {e : α → Tv} (p : α → Bool) (f : α → Tv) {h : Hs} :
    ∀ (xs : List α) (acc : List Tv), (∀ x ∈ xs, ∀ (K1 : Tv → Hs → Prop) (K2 : Hs → Prop), (p x = true → K1 (f x) h) → (p x = false → K2 h) → tg (e x) fun δ => ts δ h fun b h1 => if b then el δ h1 K1 else K2 h1) →
      acc.length + xs.length ≤ szLine → K (acc ++ (xs.filter p).map f) h → tItems tg ts el K (xs.map e) acc h
  | [], acc, hx, hl, hk => by simpa [tItems] using hk
  | x :: xs, acc, hx, hl, hk => by
    simp only [List.length_cons] at hl
    refine hx x List.mem_cons_self _ _ (fun hp => ⟨by omega, ?_⟩) (fun hp => ?_)
    · refine tItems_pure p f xs (acc ++ [f x]) (fun y hy => hx y (List.mem_cons_of_mem _ hy)) (by simp; omega) ?_
      rw [List.filter_cons, if_pos hp] at hk
      simpa using hk
    · refine tItems_pure p f xs acc (fun y hy => hx y (List.mem_cons_of_mem _ hy)) (by omega) ?_
      rw [List.filter_cons, if_neg (by rw [hp]; decide)] at hk
      exact hk
/-! ### plain data -/
class Enc (α : Type) where
  tv : α → Tv
  tr : α → T
  dp : Nat
  trT : ∀ (h : Hs) (n : Nat) (a : α), dp ≤ n → Nf.trT h n (tv a) = some (tr a)
  eqT : ∀ a b : α, Nf.eqT (tr a) (tr b) = true ↔ a = b
theorem trT_map {α : Type} {h : Hs} {n : Nat} {f : α → Tv} {t : α → T} (e : ∀ a, trT h n (f a) = some (t a)) : ∀ xs : List α, optL ((xs.map f).map (trT h n)) = some (xs.map t)
  | [] => rfl
  | x :: xs => by simp only [List.map_cons, optL, e x, trT_map e xs]
theorem eqTs_map {α : Type} {t : α → T} (e : ∀ a b, eqT (t a) (t b) = true ↔ a = b) : ∀ xs ys : List α, eqTs (xs.map t) (ys.map t) = true ↔ xs = ys
  | [], [] => by simp [eqTs]
  | [], y :: ys => by simp [eqTs]
  | x :: xs, [] => by simp [eqTs]
  | x :: xs, y :: ys => by simp only [List.map_cons, eqTs, Bool.and_eq_true, e x y, eqTs_map e xs ys, List.cons.injEq]
instance : Enc Int := ⟨.int, .int, 0, fun h n a _ => by cases n <;> simp [trT], fun a b => by simp [eqT]⟩
instance : Enc Nat := ⟨fun n => .int n, fun n => .int n, 0, fun h n a _ => by cases n <;> simp [trT], fun a b => by simp [eqT]; omega⟩
instance : Enc String := ⟨.str, .str, 0, fun h n a _ => by cases n <;> simp [trT], fun a b => by simp [eqT]⟩
instance : Enc Bool := ⟨.bl, .bl, 0, fun h n a _ => by cases n <;> simp [trT], fun a b => by simp [eqT]⟩
/-- a number, or None -/
def oTv : Option Nat → Tv
  | none => .non
  | some n => .int n
instance : Enc (Option Nat) := ⟨oTv, fun o => match o with | none => .non | some n => .int n, 0, fun h n a _ => by cases a <;> cases n <;> simp [trT, oTv], fun a b => by cases a <;> cases b <;> simp [eqT] ; omega⟩
instance {α β : Type} [Enc α] [Enc β] : Enc (α × β) := ⟨fun p => .tup [Enc.tv p.1, Enc.tv p.2], fun p => .tup [Enc.tr p.1, Enc.tr p.2], max (Enc.dp α) (Enc.dp β) + 1, fun h n a hn => by
  cases n with
  | zero => omega
  | succ n => simp only [trT, List.map_cons, List.map_nil, optL, Enc.trT h n a.1 (by omega), Enc.trT h n a.2 (by omega), Option.map_some],
  fun a b => by
    simp only [eqT, eqTs, Bool.and_eq_true, Enc.eqT, and_true]
    exact ⟨fun ⟨x, y⟩ => Prod.ext x y, fun e => by subst e; exact ⟨rfl, rfl⟩⟩⟩
instance {α : Type} [Enc α] : Enc (List α) := ⟨fun l => .lst (l.map Enc.tv), fun l => .lst (l.map Enc.tr), Enc.dp α + 1, fun h n a hn => by
  cases n with
  | zero => omega
  | succ n => simp only [trT, trT_map (fun a : α => Enc.trT h n a (Nat.le_of_succ_le_succ hn)), Option.map_some],
  fun a b => by simp only [eqT]; exact eqTs_map Enc.eqT a b⟩
theorem tEq_enc {α : Type} [Enc α] [DecidableEq α] {h : Hs} {a b : α} {k : Bool → Prop} (hd : Enc.dp α ≤ deep) (q : k (decide (a = b))) : tEq h (Enc.tv a) (Enc.tv b) k := by
  unfold tEq
  rw [Enc.trT h deep a hd, Enc.trT h deep b hd]
  show k _
  have : eqT (Enc.tr a) (Enc.tr b) = decide (a = b) := by
    rw [Bool.eq_iff_iff, Enc.eqT, decide_eq_true_eq]
  rw [this]; exact q
/-- a numbered list compared with data -/
theorem tEq_obj {α : Type} [Enc α] [DecidableEq α] {h : Hs} {i : Nat} {a b : List α} {k : Bool → Prop} (hi : h[i]? = some (.lst (a.map Enc.tv))) (hd : Enc.dp α < deep) (q : k (decide (a = b))) : tEq h (.obj i) (.lst (b.map Enc.tv)) k := by
  have e : trT h deep (.obj i) = trT h deep (Enc.tv a) := by
    show trT h (11 + 1) _ = trT h (11 + 1) (.lst (a.map Enc.tv))
    simp only [trT, hi]
  have := tEq_enc (h := h) (a := a) (b := b) (k := k) hd q
  unfold tEq at this ⊢
  rw [e]; exact this
theorem tInL_enc {α : Type} [Enc α] [DecidableEq α] {h : Hs} {a : α} {xs : List α} {k : Bool → Prop} (hd : Enc.dp α ≤ deep) (q : k (decide (a ∈ xs))) : tInL (Enc.tv a) (some (xs.map Enc.tv)) h k := by
  unfold tInL
  simp only
  rw [Enc.trT h deep a hd, trT_map (fun a => Enc.trT h deep a hd)]
  show k _
  have : (List.any (xs.map Enc.tr) fun u => eqT u (Enc.tr a)) = decide (a ∈ xs) := by
    rw [Bool.eq_iff_iff, List.any_eq_true, decide_eq_true_eq]
    constructor
    · rintro ⟨u, hu, e⟩
      obtain ⟨b, hb, rfl⟩ := List.mem_map.mp hu
      rw [Enc.eqT] at e; subst e; exact hb
    · exact fun ha => ⟨_, List.mem_map_of_mem ha, (Enc.eqT a a).mpr rfl⟩
  rw [this]; exact q
end Nf
/-! NfU2: the operators at known values, as equations. -/
set_option linter.all false
set_option maxHeartbeats 0
namespace Nf
theorem asTI_int {i : Int} {k : Int → Prop} : asTI (.int i) k = k i := rfl
theorem asTB_bl {b : Bool} {k : Bool → Prop} : asTB (.bl b) k = k b := rfl
/-- a comprehension that changes things -/
theorem tItems_inv {tg : Tv → (Tst → Prop) → Prop} {ts : Tst → Hs → (Bool → Hs → Prop) → Prop} {el : Tst → Hs → Tq → Prop} {K : List Tv → Hs → Prop} {α : Type} {e : α → Tv} {its : List α} (I : Nat → List Tv → Hs → Prop)
    (hend : ∀ acc h, I its.length acc h → K acc h)
    (hstep : ∀ j x acc h (K' : List Tv → Hs → Prop), its[j]? = some x → I j acc h → (∀ acc' h', I (j + 1) acc' h' → K' acc' h') → tg (e x) fun δ => ts δ h fun b h1 => if b then el δ h1 fun d h2 => acc.length < szLine ∧ K' (acc ++ [d]) h2 else K' acc h1)
    {h : Hs} (h0 : I 0 [] h) : tItems tg ts el K (its.map e) [] h := by
  have key : ∀ (xs : List α) (j : Nat) acc h, xs = its.drop j → j ≤ its.length → I j acc h → tItems tg ts el K (xs.map e) acc h := by
    intro xs
    induction xs with
    | nil =>
      intro j acc h e1 e2 i
      have : j = its.length := by
        have := congrArg List.length e1
        simp at this; omega
      subst this
      exact hend acc h i
    | cons x xs ih =>
      intro j acc h e1 e2 i
      have hx : its[j]? = some x := by
        have := congrArg (fun l => l[0]?) e1
        simp at this
        exact this.symm
      have hlt := (List.getElem?_eq_some_iff.mp hx).1
      refine hstep j x acc h (fun acc' h' => tItems tg ts el K (xs.map e) acc' h') hx i fun acc' h' i' => ih (j + 1) acc' h' ?_ (by omega) i'
      have := congrArg List.tail e1
      simpa [List.tail_drop] using this
  exact key its 0 [] h rfl (Nat.zero_le _) h0
theorem tRng_nat {n : Nat} {K : List Tv → Prop} (hn : n < 2 ^ 60) (k : K ((List.range n).map fun k : Nat => .int (k : Nat))) : tRng 0 (n : Nat) K := by
  refine ⟨by omega, by omega, by omega, by omega, ?_⟩
  have e : ((n : Int) - 0).toNat = n := by omega
  rw [e]
  have : (fun k : Nat => Tv.int (0 + (k : Nat))) = fun k : Nat => Tv.int (k : Nat) := by funext k; rw [Int.zero_add]
  rw [this]; exact k
theorem sort_nat {i : Nat} {xs : List Nat} {h : Hs} {Q : Tq} {m : Bool} (hi : h[i]? = some (.lst (xs.map Enc.tv))) (q : ∀ ys : List Nat, ys.Perm xs → ys.Pairwise (· ≤ ·) → tAl m (ys.map Enc.tv) h Q) : tSort m (.obj i) h Q := by
  unfold tSort
  simp only [hi]
  refine ⟨.inl fun v hv => ?_, fun ys hp hs => ?_⟩
  · obtain ⟨x, _, rfl⟩ := List.mem_map.mp hv; rfl
  · have hm : ∀ v ∈ ys, ∃ x ∈ xs, v = Tv.int (x : Nat) := fun v hv => by
      obtain ⟨x, hx, rfl⟩ := List.mem_map.mp (hp.mem_iff.mp hv)
      exact ⟨x, hx, rfl⟩
    let f : Tv → Nat := fun v => match v with | .int i => i.toNat | _ => 0
    have hy : ys = (ys.map f).map Enc.tv := by
      rw [List.map_map]
      conv => lhs; rw [← List.map_id ys]
      refine List.map_congr_left fun v hv => ?_
      obtain ⟨x, _, rfl⟩ := hm v hv
      rfl
    rw [hy]
    refine q _ ?_ ?_
    · have := hp.map f
      rw [List.map_map] at this
      have e : xs.map (f ∘ Enc.tv) = xs := by
        conv => rhs; rw [← List.map_id xs]
        exact List.map_congr_left fun x _ => by show ((x : Nat) : Int).toNat = x; simp
      rw [e] at this; exact this
    · rw [List.pairwise_map]
      refine hs.imp_of_mem fun {a b} ha hb hab => ?_
      obtain ⟨x, _, rfl⟩ := hm a ha
      obtain ⟨y, _, rfl⟩ := hm b hb
      simp only [ltT, decide_eq_false_iff_not] at hab
      show ((x : Nat) : Int).toNat ≤ ((y : Nat) : Int).toNat
      omega
theorem isNon_non : Tv.isNon .non = true := rfl
theorem isNon_int {i : Int} : Tv.isNon (.int i) = false := rfl
theorem isNon_o {o : Option Nat} : Tv.isNon (oTv o) = o.isNone := by cases o <;> rfl
theorem sz1 : (1 ≤ szLine) = True := by simp [szLine]
theorem sz2 : (2 ≤ szLine) = True := by simp [szLine]
theorem sz3 : (3 ≤ szLine) = True := by simp [szLine]
theorem sz4 : (4 ≤ szLine) = True := by simp [szLine]
theorem tInts_nat : ∀ ss : List Nat, tInts (ss.map Enc.tv) = some (ss.map fun n : Nat => (n : Int))
  | [] => rfl
  | s :: ss => by
    show (match (Tv.int (s : Nat) :: ss.map Enc.tv) with | [] => some [] | .int i :: ds => (tInts ds).map (i :: ·) | _ => none) = _
    simp only [tInts_nat ss, Option.map_some, List.map_cons]
theorem bi_set_nat {m : Bool} {ss : List Nat} {h : Hs} {Q : Tq} (hl : ss.length < 4000) (q : newO (.set (ss.map fun n : Nat => (n : Int))) h Q) : tBi m .set [.lst (ss.map Enc.tv)] h Q := by
  show (match lsOf h (.lst (ss.map Enc.tv)) with
    | some xs => (match tInts xs with | some ns => xs.length < 4000 ∧ newO (.set ns) h Q | none => False)
    | none => False)
  simp only [lsOf, tInts_nat, List.length_map]
  exact ⟨hl, q⟩
theorem sort_set_nat {i : Nat} {ss : List Nat} {h : Hs} {Q : Tq} (hi : h[i]? = some (.set (ss.map fun n : Nat => (n : Int)))) (hl : ss.length < 60) (q : ∀ ys : List Nat, ys.Pairwise (· < ·) → (∀ x, x ∈ ys ↔ x ∈ ss) → Q (.lst (ys.map Enc.tv)) h) : tSort false (.obj i) h Q := by
  unfold tSort
  simp only [hi]
  refine ⟨by simpa using hl, fun ys hp hm => ?_⟩
  have hy : ys.map Tv.int = (ys.map Int.toNat).map Enc.tv := by
    rw [List.map_map]
    refine List.map_congr_left fun y hy => ?_
    obtain ⟨s, _, rfl⟩ := List.mem_map.mp ((hm y).mp hy)
    rfl
  rw [hy]
  refine q _ ?_ fun x => ?_
  · rw [List.pairwise_map]
    refine hp.imp_of_mem fun {a b} ha hb hab => ?_
    obtain ⟨s, _, rfl⟩ := List.mem_map.mp ((hm a).mp ha)
    obtain ⟨t, _, rfl⟩ := List.mem_map.mp ((hm b).mp hb)
    simp; omega
  · rw [List.mem_map]
    constructor
    · rintro ⟨a, ha, rfl⟩
      obtain ⟨s, hs, rfl⟩ := List.mem_map.mp ((hm a).mp ha)
      simpa using hs
    · intro hx
      exact ⟨(x : Nat), (hm _).mpr (List.mem_map.mpr ⟨x, hx, rfl⟩), by simp⟩
def optB (o : Option Bool) (k : Bool → Prop) : Prop := match o with | some b => k b | none => False
theorem optB_some {b : Bool} {k : Bool → Prop} : optB (some b) k = k b := rfl
section
variable {h : Hs} {Q : Tq} {k : Bool → Prop} {m : Bool} {x y : Tv} {n n' : String} {i j : Int} {vs ws : List Tv} {s : String} {a : Nat} {ns : List Int} {b : Bool}
theorem tIsi_ty : tIsi x (.ty n) h k = (n ∈ ["int", "bool", "str", "tuple", "list"] ∧ optB (isTyT h x n) k) := rfl
theorem tIsi_ty2 (p : n ∈ ["int", "bool", "str", "tuple", "list"] ∧ n' ∈ ["int", "bool", "str", "tuple", "list"]) : tIsi x (.tup [.ty n, .ty n']) h k = optB (isTyT h x n) fun b => optB (isTyT h x n') fun c => k (b || c) := by
  unfold tIsi optB
  simp only [p, and_self, true_and]
  generalize isTyT h x n = u
  generalize isTyT h x n' = v
  cases u <;> cases v <;> rfl
theorem ty_non : isTyT h .non n = some (decide (n = "NoneType")) := rfl
theorem ty_bl : isTyT h (.bl b) n = some (decide (n = "bool" ∨ n = "int")) := rfl
theorem ty_int : isTyT h (.int i) n = some (decide (n = "int")) := rfl
theorem ty_str : isTyT h (.str s) n = some (decide (n = "str")) := rfl
theorem ty_tup : isTyT h (.tup vs) n = some (decide (n = "tuple")) := rfl
theorem ty_lst : isTyT h (.lst vs) n = some (decide (n = "list")) := rfl
theorem ty_frz : isTyT h (.frz ns) n = some (decide (n = "list")) := rfl
theorem ty_obj (e : h[a]? = some (.lst vs)) : isTyT h (.obj a) n = some (decide (n = "list")) := by unfold isTyT; simp only [e]
theorem bi_len : tBi m .len [x] h Q = tLen x h Q := rfl
theorem bi_int_i : tBi m .int [.int i] h Q = Q (.int i) h := rfl
theorem bi_int_b : tBi m .int [.bl b] h Q = Q (.int (if b then 1 else 0)) h := rfl
theorem bi_str : tBi m .str [.int i] h Q = (i.natAbs < 2 ^ 64 ∧ Q (.str (toString i)) h) := rfl
theorem bi_list : tBi m .list [x] h Q = tList m x h Q := rfl
theorem bi_tuple : tBi m .tuple [x] h Q = tTuple x h Q := rfl
theorem bi_sorted : tBi m .sorted [x] h Q = tSort m x h Q := rfl
theorem bi_min2 : tBi m .min [.int i, .int j] h Q = Q (.int (if j < i then j else i)) h := rfl
theorem bi_max2 : tBi m .max [.int i, .int j] h Q = Q (.int (if i < j then j else i)) h := rfl
theorem bi_isi : tBi m .isinst [x, y] h Q = tIsi x y h fun b => Q (.bl b) h := rfl
theorem len_str : tLen (.str s) h Q = (s.length ≤ szLine ∧ Q (.int s.length) h) := rfl
theorem len_tup : tLen (.tup vs) h Q = Q (.int vs.length) h := rfl
theorem len_lst : tLen (.lst vs) h Q = Q (.int vs.length) h := rfl
theorem len_frz : tLen (.frz ns) h Q = Q (.int ns.length) h := rfl
theorem len_obj (e : h[a]? = some (.lst vs)) : tLen (.obj a) h Q = Q (.int vs.length) h := by unfold tLen; simp only [e]
theorem list_lst : tList m (.lst vs) h Q = tAl m vs h Q := rfl
theorem list_tup : tList m (.tup vs) h Q = tAl m vs h Q := rfl
theorem list_frz : tList m (.frz ns) h Q = tAl m (ns.map .int) h Q := rfl
theorem list_obj (e : h[a]? = some (.lst vs)) : tList m (.obj a) h Q = tAl m vs h Q := by unfold tList; simp only [e]
theorem al_f : tAl false vs h Q = Q (.lst vs) h := rfl
theorem al_t : tAl true vs h Q = Q (.obj h.length) (h ++ [.lst vs]) := rfl
theorem cmp_eq : tCmp .eq x y h k = tEq h x y k := rfl
theorem cmp_ne : tCmp .ne x y h k = tEq h x y fun b => k (!b) := rfl
theorem cmp_lt : tCmp .lt (.int i) (.int j) h k = k (decide (i < j)) := rfl
theorem cmp_le : tCmp .le (.int i) (.int j) h k = k (decide (i ≤ j)) := rfl
theorem cmp_gt : tCmp .gt (.int i) (.int j) h k = k (decide (j < i)) := rfl
theorem cmp_ge : tCmp .ge (.int i) (.int j) h k = k (decide (j ≤ i)) := rfl
theorem cmp_inn : tCmp .inn x y h k = tIn x y h k := rfl
theorem cmp_nin : tCmp .nin x y h k = tIn x y h fun b => k (!b) := rfl
theorem cmp_is : tCmp .is x .non h k = k x.isNon := by simp [tCmp, Tv.isNon]
theorem cmp_isn : tCmp .isn x .non h k = k (!x.isNon) := by simp [tCmp, Tv.isNon]
theorem eq_int : tEq h (.int i) (.int j) k = k (decide (i = j)) := by
  unfold tEq trT
  simp only [eqT]
  congr 1

theorem eq_str : tEq h (.str s) (.str n) k = k (decide (s = n)) := by
  unfold tEq trT
  simp only [eqT]
  congr 1

theorem in_lst : tIn x (.lst vs) h k = tInL x (some vs) h k := rfl
theorem in_obj (e : h[a]? = some (.lst vs)) : tIn x (.obj a) h k = tInL x (some vs) h k := by unfold tIn; simp only [e]
theorem bin_add : tBin m .add x y h Q = tAdd m x y h Q := rfl
theorem bin_sub : tBin m .sub (.int i) (.int j) h Q = Q (.int (i - j)) h := rfl
theorem bin_mul : tBin m .mul (.int i) (.int j) h Q = ((i.natAbs < 2 ^ 64 ∨ j.natAbs < 2 ^ 64) ∧ Q (.int (i * j)) h) := rfl
theorem bin_rep : tBin m .mul (.lst vs) (.int j) h Q = (j < 2 ^ 62 ∧ -(2 ^ 62) < j ∧ vs.length * j.toNat ≤ szLine ∧ tAl m (List.replicate j.toNat vs).flatten h Q) := rfl
theorem bin_fdiv : tBin m .fdiv (.int i) (.int j) h Q = (0 < j ∧ j < 2 ^ 1000 ∧ Q (.int (i / j)) h) := rfl
theorem bin_mod : tBin m .mod (.int i) (.int j) h Q = (0 < j ∧ Q (.int (i % j)) h) := rfl
theorem bin_pow : tBin m .pow (.int i) (.int j) h Q = (0 ≤ j ∧ j ≤ 1000 ∧ i.natAbs < 2 ^ 64 ∧ Q (.int (i ^ j.toNat)) h) := rfl
theorem add_int : tAdd m (.int i) (.int j) h Q = Q (.int (i + j)) h := rfl
theorem add_str : tAdd m (.str s) (.str n) h Q = (s.length + n.length ≤ szLine ∧ Q (.str (s ++ n)) h) := rfl
theorem add_tup : tAdd m (.tup vs) (.tup ws) h Q = (vs.length ≤ szLine ∧ ws.length ≤ szLine ∧ vs.length + ws.length ≤ szLine ∧ Q (.tup (vs ++ ws)) h) := rfl
theorem add_ll : tAdd m (.lst vs) (.lst ws) h Q = (vs.length + ws.length ≤ szLine ∧ tAl m (vs ++ ws) h Q) := rfl
theorem add_ol (e : h[a]? = some (.lst vs)) : tAdd m (.obj a) (.lst ws) h Q = (vs.length + ws.length ≤ szLine ∧ tAl m (vs ++ ws) h Q) := by simp only [tAdd, lsOf, e, tCat]
theorem add_lo (e : h[a]? = some (.lst vs)) : tAdd m (.lst ws) (.obj a) h Q = (ws.length + vs.length ≤ szLine ∧ tAl m (ws ++ vs) h Q) := by simp only [tAdd, lsOf, e, tCat]
theorem ix_tup : tIx (.tup vs) (.int i) h Q = atL vs i fun d => Q d h := rfl
theorem ix_lst : tIx (.lst vs) (.int i) h Q = atL vs i fun d => Q d h := rfl
theorem ix_frz : tIx (.frz ns) (.int i) h Q = atL ns i fun d => Q (.int d) h := rfl
theorem ix_obj (e : h[a]? = some (.lst vs)) : tIx (.obj a) (.int i) h Q = atL vs i fun d => Q d h := by unfold tIx; simp only [e, asTI]
theorem atL_nat {α : Type} {xs : List α} {n : Nat} {v : α} {k : α → Prop} (e : xs[n]? = some v) : atL xs (n : Int) k = k v := by
  have hl := (List.getElem?_eq_some_iff.mp e).1
  unfold atL ixN
  rw [if_pos (by omega), if_pos (by omega)]
  simp [e]
theorem atL_0 {α : Type} {v : α} {xs : List α} {k : α → Prop} : atL (v :: xs) 0 k = k v := atL_nat (n := 0) rfl
theorem atL_1 {α : Type} {u v : α} {xs : List α} {k : α → Prop} : atL (u :: v :: xs) 1 k = k v := atL_nat (n := 1) rfl
theorem atL_2 {α : Type} {u v w : α} {xs : List α} {k : α → Prop} : atL (u :: v :: w :: xs) 2 k = k w := atL_nat (n := 2) rfl
theorem atL_3 {α : Type} {u v w z : α} {xs : List α} {k : α → Prop} : atL (u :: v :: w :: z :: xs) 3 k = k z := atL_nat (n := 3) rfl
theorem tg_v {d : Tv} {δ : Tst} {K : Tst → Prop} : tTg (.v a) d δ K = K (δ.set a (some d)) := rfl
theorem tg_t {is : List Nat} {δ : Tst} {K : Tst → Prop} : tTg (.t is) (.tup vs) δ K = (match tSetNs δ is vs with | some δ' => K δ' | none => False) := rfl
theorem over_tup {K : List Tv → Prop} : tOver (.tup vs) h K = K vs := rfl
theorem over_lst {K : List Tv → Prop} : tOver (.lst vs) h K = K vs := rfl
theorem over_frz {K : List Tv → Prop} : tOver (.frz ns) h K = K (ns.map .int) := rfl
theorem lm_app {Q : Tq} (e : h[a]? = some (.lst vs)) : tLm .append (.obj a) [x] h Q = (vs.length < szLine ∧ Q .non (h.set a (.lst (vs ++ [x])))) := by unfold tLm; simp only [e, tLm1]
theorem lm_ext {Q : Tq} (e : h[a]? = some (.lst vs)) : tLm .extend (.obj a) [.lst ws] h Q = (vs.length + ws.length ≤ szLine ∧ Q .non (h.set a (.lst (vs ++ ws)))) := by unfold tLm; simp only [e, tLm1, lsOf]
theorem isLs_obj (e : h[a]? = some (.lst vs)) : isLs h (.obj a) = True := by simp [isLs, lsOf, e]
theorem seti_lst {K : Hs → Prop} {c : Nat} (e : h[a]? = some (.lst vs)) (hc : c < vs.length) : tSetI (.obj a) (.int (c : Nat)) x h K = K (h.set a (.lst (vs.set c x))) := by
  unfold tSetI
  simp only [e, asTI, ixN]
  rw [if_pos (by omega), if_pos (by omega)]
  rfl
theorem frz_obj (e : h[a]? = some (.lst vs)) : tFrz (.obj a) h Q = Q (.lst vs) (h.set a .dead) := by unfold tFrz; simp only [e]
theorem gc0 {v : Tv} {h' : Hs} (q : Q v h') : gcQ h Q v h' := .inl q
/-- garbage behind what there was -/
theorem gc1 {v : Tv} {g : Hs} (c : v.clos h.length = true) (q : Q v h) : gcQ h Q v (h ++ g) := .inr ⟨h, ⟨⟨g, rfl⟩, Nat.le_refl _, fun j o e => .inl e⟩, c, q⟩
/-- one new thing stays -/
theorem gc2 {v : Tv} {g : Hs} {o : To} (c : v.clos (h.length + 1) = true) (co : o.clos (h.length + 1)) (q : Q v (h ++ [o])) : gcQ h Q v (h ++ o :: g) := by
  refine .inr ⟨h ++ [o], ⟨⟨g, by simp⟩, by simp, fun j u e => ?_⟩, by simpa using c, q⟩
  rcases Nat.lt_or_ge j h.length with hl | hl
  · rw [List.getElem?_append_left hl] at e; exact .inl e
  · rw [List.getElem?_append_right hl] at e
    cases hk : j - h.length with
    | zero => rw [hk] at e; simp at e; subst e; exact .inr (by simpa using co)
    | succ m => rw [hk] at e; simp at e
end
/-! ### statement by statement -/
section
variable {Ψ : Tenv} {W : Tw} {h : Hs}
/-- a state predicate between two statements -/
theorem tSs_cut {s : MS} {ss : MSs} {E : Te} {δ : Tst} (J : Tst → Hs → Prop) (hJ : ∀ δ h, J δ h → tSs Ψ W ss E δ h) (hs : ∀ T : Tst → Hs → Prop, (∀ δ h, J δ h → T δ h) → tS Ψ W s ⟨T, E.rt⟩ δ h) : tSs Ψ W (.c s ss) E δ h := by
  rw [tSs]; exact hs _ hJ
theorem tSs_c {s : MS} {ss : MSs} {E : Te} {δ : Tst} : tSs Ψ W (.c s ss) E δ h = tS Ψ W s ⟨fun δ' h' => tSs Ψ W ss E δ' h', E.rt⟩ δ h := by rw [tSs]
theorem tSs_n {E : Te} {δ : Tst} : tSs Ψ W .n E δ h = E.nx δ h := by rw [tSs]
/-- an exception told: nothing that is new goes with it -/
theorem gcx {h g : Hs} {x : Tx} {W : Tw} (hv : ∀ p, x.val = some p → p.2.clos h.length = true) (w : W x h) : gcW h W x (h ++ g) := .inr ⟨h, ⟨⟨g, rfl⟩, Nat.le_refl _, fun j o e => .inl e⟩, hv, w⟩
theorem gcx0 {h h' : Hs} {x : Tx} {W : Tw} (w : W x h') : gcW h W x h' := .inl w
end
end Nf
/-! NfP1: checks and ties. -/
set_option linter.all false
set_option maxHeartbeats 0
set_option maxRecDepth 100000
namespace Nf
local macro_rules | `(tactic| decreasing_trivial_pre_omega) => `(tactic| (try simp only [tSs, tS, tE, tEs, tEo, tI, asTI_int, asTB_bl, asTO_none, asTO_int, getT_0, getT_s, optB_some, tIsi_ty, tIsi_ty2, ty_non, ty_bl, ty_int, ty_str, ty_tup, ty_lst, ty_frz, bi_len, bi_int_i, bi_int_b, bi_str, bi_list, bi_tuple, bi_sorted, bi_min2, bi_max2, bi_isi, len_str, len_tup, len_lst, len_frz, list_lst, list_tup, list_frz, al_f, al_t, cmp_eq, cmp_ne, cmp_lt, cmp_le, cmp_gt, cmp_ge, cmp_inn, cmp_nin, cmp_is, cmp_isn, eq_int, eq_str, in_lst, bin_add, bin_sub, bin_mul, bin_rep, bin_fdiv, bin_mod, bin_pow, add_int, add_str, add_tup, add_ll, ix_tup, ix_lst, ix_frz, atL_0, atL_1, atL_2, atL_3, tg_v, tg_t, over_tup, over_lst, over_frz, tSetNs, tWipe, List.map_cons, List.map_nil, List.cons_append, List.nil_append, List.replicate_zero, List.replicate_succ, List.append_nil, List.set_cons_zero, List.set_cons_succ, List.set_nil, List.length_cons, List.length_nil, Nat.sub_self, Nat.reduceAdd, Nat.reduceSub, Nat.add_one_sub_one, Bool.not_true, Bool.not_false, Bool.or_false, Bool.or_true, Bool.false_or, Bool.true_or, if_true, if_false, Bool.false_eq_true, reduceIte, decide_true, decide_false, List.mem_cons, List.not_mem_nil, true_or, or_true, false_or, or_false, true_and, and_true, and_self, String.reduceEq, decide_eq_true_eq, not_true, not_false_iff, eq_self_iff_true, isNon_non, isNon_int, isNon_o, Nat.zero_le, sz1, sz2, sz3, sz4, Int.cast_ofNat_Int, Int.reduceEq, Int.reduceLT, Int.reduceLE, Int.reduceAdd, Int.reduceSub, Int.reduceNeg]))
theorem sp_is_number {P : Prg} (p : Hd P F_is_number) {k : Nat} {i lo hi : Int} {h : Hs} {Q : Tq} {W : Tw} (q : Q (.bl (decide (lo ≤ i ∧ i ≤ hi))) h) : trun P (k + 1) "" "is_number" [.int i, .int lo, .int hi] h Q W := by
  refine call_of p rfl rfl rfl ?_
  unfold F_is_number
  decreasing_trivial_pre_omega
  split
  · refine gc0 ?_
    have e : decide (lo ≤ i ∧ i ≤ hi) = decide (i ≤ hi) := by rename_i a; simp [a]
    rw [e] at q; exact q
  · refine gc0 ?_
    have e : decide (lo ≤ i ∧ i ≤ hi) = false := by rename_i a; simp [a]
    rw [e] at q; exact q
theorem sp_need_many {P : Prg} (p : Hd P F_need_many) (p1 : Hd P F_is_number) {k : Nat} {i : Int} {h : Hs} {Q : Tq} {W : Tw} (hi : 2 ≤ i ∧ i ≤ 8) (q : Q .non h) : trun P (k + 2) "" "need_many" [.int i] h Q W := by
  refine call_of p rfl rfl rfl ?_
  unfold F_need_many
  decreasing_trivial_pre_omega
  refine sp_is_number p1 ?_
  simp only [hi]
  decreasing_trivial_pre_omega
  exact gc0 q
theorem sp_need_house {P : Prg} (p : Hd P F_need_house) (p1 : Hd P F_is_number) {k : Nat} {i n : Int} {h : Hs} {Q : Tq} {W : Tw} (hi : 0 ≤ i ∧ i < n) (q : Q .non h) : trun P (k + 2) "" "need_house" [.int i, .int n] h Q W := by
  refine call_of p rfl rfl rfl ?_
  unfold F_need_house
  decreasing_trivial_pre_omega
  refine sp_is_number p1 ?_
  have e : 0 ≤ i ∧ i ≤ n - 1 := by omega
  simp only [e]
  decreasing_trivial_pre_omega
  exact gc0 q
theorem sp_need_ties {P : Prg} (p : Hd P F_need_ties) (p1 : Hd P F_is_number) (p2 : Hd P F_need_many) {k : Nat} {n : Nat} {ts : List (Nat × Nat)} {h : Hs} {Q : Tq} {W : Tw} (hn : 2 ≤ n ∧ n ≤ 8) (ht : ∀ t ∈ ts, t.1 < n ∧ t.2 < n ∧ t.1 ≠ t.2) (q : Q .non h) : trun P (k + 3) "" "need_ties" [.int n, .lst (ts.map Enc.tv)] h Q W := by
  refine call_of p rfl rfl rfl ?_
  unfold F_need_ties
  decreasing_trivial_pre_omega
  refine sp_need_many p2 p1 (by omega) ?_
  refine tFor_num (e := Enc.tv) (its := ts) (fun _ τ h' => (∃ x, τ = [some (.int n), some (.lst (ts.map Enc.tv)), x]) ∧ h' = h) ⟨⟨_, rfl⟩, rfl⟩ (fun τ h' i => ?_) (fun m t τ h' K hm i hk => ?_)
  · rw [i.2]; exact gc0 q
  · obtain ⟨⟨x, rfl⟩, rfl⟩ := i
    obtain ⟨t1, t2, t3⟩ := ht t (List.mem_of_getElem? hm)
    have et : (Enc.tv t : Tv) = .tup [.int (t.1 : Nat), .int (t.2 : Nat)] := rfl
    rw [et]
    decreasing_trivial_pre_omega
    rw [if_neg (by omega)]
    refine sp_is_number p1 ?_
    rw [asTB_bl, show decide (0 ≤ (t.1 : Int) ∧ (t.1 : Int) ≤ n - 1) = true by simp; omega]
    refine sp_is_number p1 ?_
    rw [asTB_bl, show decide (0 ≤ (t.2 : Int) ∧ (t.2 : Int) ≤ n - 1) = true by simp; omega]
    exact hk _ _ ⟨⟨_, rfl⟩, rfl⟩
end Nf
/-! NfQ1: what the laws share: drawing, the same. -/
set_option linter.all false
set_option maxHeartbeats 0
set_option maxRecDepth 100000
namespace Nf
local macro_rules | `(tactic| decreasing_trivial_pre_omega) => `(tactic| (try simp only [tSs, tS, tE, tEs, tEo, tI, asTI_int, asTB_bl, asTO_none, asTO_int, getT_0, getT_s, optB_some, tIsi_ty, tIsi_ty2, ty_non, ty_bl, ty_int, ty_str, ty_tup, ty_lst, ty_frz, bi_len, bi_int_i, bi_int_b, bi_str, bi_list, bi_tuple, bi_sorted, bi_min2, bi_max2, bi_isi, len_str, len_tup, len_lst, len_frz, list_lst, list_tup, list_frz, al_f, al_t, cmp_eq, cmp_ne, cmp_lt, cmp_le, cmp_gt, cmp_ge, cmp_inn, cmp_nin, cmp_is, cmp_isn, eq_int, eq_str, in_lst, bin_add, bin_sub, bin_mul, bin_rep, bin_fdiv, bin_mod, bin_pow, add_int, add_str, add_tup, add_ll, ix_tup, ix_lst, ix_frz, atL_0, atL_1, atL_2, atL_3, tg_v, tg_t, over_tup, over_lst, over_frz, tSetNs, tWipe, List.map_cons, List.map_nil, List.cons_append, List.nil_append, List.replicate_zero, List.replicate_succ, List.append_nil, List.set_cons_zero, List.set_cons_succ, List.set_nil, List.length_cons, List.length_nil, Nat.sub_self, Nat.reduceAdd, Nat.reduceSub, Nat.add_one_sub_one, Bool.not_true, Bool.not_false, Bool.or_false, Bool.or_true, Bool.false_or, Bool.true_or, if_true, if_false, Bool.false_eq_true, reduceIte, decide_true, decide_false, List.mem_cons, List.not_mem_nil, true_or, or_true, false_or, or_false, true_and, and_true, and_self, String.reduceEq, decide_eq_true_eq, not_true, not_false_iff, eq_self_iff_true, isNon_non, isNon_int, isNon_o, Nat.zero_le, sz1, sz2, sz3, sz4, Int.cast_ofNat_Int, Int.reduceEq, Int.reduceLT, Int.reduceLE, Int.reduceAdd, Int.reduceSub, Int.reduceNeg]))
/-- where drawing stands -/
structure Dr where
  ns : List Int
  c : Nat
  mixed : Int
  rest : Int
def Dr.ok (s : Dr) : Prop := 0 ≤ s.mixed ∧ s.mixed < 2147483647 ∧ 0 ≤ s.rest
def Dr.to (s : Dr) : To := .lst [.frz s.ns, .int (s.c : Nat), .int s.mixed, .int s.rest]
theorem sp_start {P : Prg} (p : Hd P F__law_start) {k : Nat} {ns : List Int} {h : Hs} {Q : Tq} {W : Tw} (q : ∀ m : Int, 0 ≤ m → m < 2147483647 → Q (.obj h.length) (h ++ [Dr.to ⟨ns, 0, m, 0⟩])) : trun P (k + 1) "" "_law_start" [.frz ns] h Q W := by
  refine call_of p rfl rfl rfl ?_
  unfold F__law_start
  decreasing_trivial_pre_omega
  refine tFor_num (e := Tv.int) (its := ns) (fun _ τ h' => (∃ m x, τ = [some (.frz ns), some (.int m), x] ∧ 0 ≤ m ∧ m < 2147483647) ∧ h' = h) ⟨⟨1, _, rfl, by decide, by decide⟩, rfl⟩ (fun τ h' i => ?_) (fun j x τ h' K hj i hk => ?_)
  · obtain ⟨⟨m, x, rfl, h1, h2⟩, rfl⟩ := i
    decreasing_trivial_pre_omega
    exact gc0 (q m h1 h2)
  · obtain ⟨⟨m, x, rfl, h1, h2⟩, rfl⟩ := i
    decreasing_trivial_pre_omega
    refine ⟨by omega, hk _ _ ⟨⟨_, _, rfl, ?_, ?_⟩, rfl⟩⟩
    · exact Int.emod_nonneg _ (by decide)
    · exact Int.emod_lt_of_pos _ (by decide)
theorem seti_k {a : Nat} {x : Tv} {h : Hs} {K : Hs → Prop} {vs : List Tv} (c : Nat) {j : Int} (hj : j = c) (e : h[a]? = some (.lst vs)) (hc : c < vs.length) : tSetI (.obj a) (.int j) x h K = K (h.set a (.lst (vs.set c x))) := by
  subst hj; exact seti_lst e hc
theorem set_get {h : Hs} {i : Nat} {o o' : To} (e : h[i]? = some o) : (h.set i o')[i]? = some o' := by
  have := (List.getElem?_eq_some_iff.mp e).1
  rw [List.getElem?_set_self this]
/-- a number drawn, below another one -/
theorem sp_drawn {P : Prg} (p : Hd P F__law_drawn) {k i : Nat} {n : Nat} {s : Dr} {h : Hs} {Q : Tq} {W : Tw} (hs : s.ok) (hi : h[i]? = some s.to) (hn : 0 < n ∧ n < 2 ^ 64) (q : ∀ (r : Nat) (s' : Dr), r < n → s'.ok → s'.ns = s.ns → Q (.int (r : Nat)) (h.set i s'.to)) : trun P (k + 1) "" "_law_drawn" [.obj i, .int n] h Q W := by
  refine call_of p rfl rfl rfl ?_
  unfold F__law_drawn
  decreasing_trivial_pre_omega
  obtain ⟨ns, c, mx, rest⟩ := s
  obtain ⟨h1, h2, h3⟩ := hs
  unfold Dr.to at hi
  simp only at hi h1 h2 h3 q
  have nn : (0 : Int) < n := by omega
  have nb : (n : Int) < 2 ^ 1000 := by
    have : (n : Int) < 2 ^ 64 := by exact_mod_cast hn.2
    exact Int.lt_trans this (by decide)
  have fin : ∀ (z : Int) (s' : Dr), s'.ok → s'.ns = ns → gcQ h Q (.int (z % n)) (h.set i s'.to) := fun z s' o e => by
    have e1 := Int.emod_nonneg z (b := n) (by omega)
    have e2 := Int.emod_lt_of_pos z nn
    have := q (z % n).toNat s' (by omega) o e
    rw [Int.toNat_of_nonneg e1] at this
    exact gc0 this
  rw [ix_obj hi]
  decreasing_trivial_pre_omega
  split
  · rw [ix_obj hi]
    decreasing_trivial_pre_omega
    refine ⟨nn, ?_⟩
    rw [ix_obj hi]
    decreasing_trivial_pre_omega
    refine ⟨nn, nb, ?_⟩
    rw [seti_k (j := 3) 3 rfl hi (by simp)]
    exact fin rest ⟨ns, c, mx, rest / n⟩ ⟨h1, h2, Int.ediv_nonneg h3 (by omega)⟩ rfl
  · rw [ix_obj hi]
    decreasing_trivial_pre_omega
    rw [seti_k (j := 1) 1 rfl hi (by simp)]
    decreasing_trivial_pre_omega
    rw [ix_obj (set_get hi)]
    decreasing_trivial_pre_omega
    rw [ix_obj (set_get hi)]
    decreasing_trivial_pre_omega
    split
    · rename_i hc
      rw [ix_obj (set_get hi)]
      decreasing_trivial_pre_omega
      rw [ix_obj (set_get hi)]
      decreasing_trivial_pre_omega
      have e1 : ((c : Nat) : Int) + 1 - 1 = (c : Nat) := by omega
      have hcl : c < ns.length := by omega
      rw [e1, atL_nat (v := ns[c]) (by rw [List.getElem?_eq_getElem hcl])]
      refine ⟨by decide, ?_⟩
      split
      · rename_i hg
        refine ⟨nn, nb, ?_⟩
        rw [seti_k (j := 3) 3 rfl (set_get hi) (by simp), List.set_set]
        decreasing_trivial_pre_omega
        refine ⟨nn, fin _ ⟨ns, c + 1, mx, ns[c] / n⟩ ⟨h1, h2, Int.ediv_nonneg ?_ (by omega)⟩ rfl⟩
        have : (0 : Int) ≤ 10 ^ Int.toNat 18 := by decide

        omega
      · rw [seti_k (j := 3) 3 rfl (set_get hi) (by simp), List.set_set]
        decreasing_trivial_pre_omega
        exact ⟨nn, fin _ ⟨ns, c + 1, mx, 0⟩ ⟨h1, h2, Int.le_refl 0⟩ rfl⟩
    · rw [ix_obj (set_get hi)]
      decreasing_trivial_pre_omega
      refine ⟨by omega, ?_⟩
      rw [seti_k (j := 2) 2 rfl (set_get hi) (by simp), List.set_set]
      decreasing_trivial_pre_omega
      rw [ix_obj (set_get hi)]
      decreasing_trivial_pre_omega
      refine ⟨by decide, nn, fin _ ⟨ns, c + 1, (mx * 48271 + 11) % 2147483647, rest⟩ ⟨Int.emod_nonneg _ (by decide), Int.emod_lt_of_pos _ (by decide), h3⟩ rfl⟩
end Nf
/-! NfQ2: what the laws share: the same. -/
set_option linter.all false
set_option maxHeartbeats 0
set_option maxRecDepth 100000
namespace Nf
local macro_rules | `(tactic| decreasing_trivial_pre_omega) => `(tactic| (try simp only [tSs, tS, tE, tEs, tEo, tI, asTI_int, asTB_bl, asTO_none, asTO_int, getT_0, getT_s, optB_some, tIsi_ty, tIsi_ty2, ty_non, ty_bl, ty_int, ty_str, ty_tup, ty_lst, ty_frz, bi_len, bi_int_i, bi_int_b, bi_str, bi_list, bi_tuple, bi_sorted, bi_min2, bi_max2, bi_isi, len_str, len_tup, len_lst, len_frz, list_lst, list_tup, list_frz, al_f, al_t, cmp_eq, cmp_ne, cmp_lt, cmp_le, cmp_gt, cmp_ge, cmp_inn, cmp_nin, cmp_is, cmp_isn, eq_int, eq_str, in_lst, bin_add, bin_sub, bin_mul, bin_rep, bin_fdiv, bin_mod, bin_pow, add_int, add_str, add_tup, add_ll, ix_tup, ix_lst, ix_frz, atL_0, atL_1, atL_2, atL_3, tg_v, tg_t, over_tup, over_lst, over_frz, tSetNs, tWipe, List.map_cons, List.map_nil, List.cons_append, List.nil_append, List.replicate_zero, List.replicate_succ, List.append_nil, List.set_cons_zero, List.set_cons_succ, List.set_nil, List.length_cons, List.length_nil, Nat.sub_self, Nat.reduceAdd, Nat.reduceSub, Nat.add_one_sub_one, Bool.not_true, Bool.not_false, Bool.or_false, Bool.or_true, Bool.false_or, Bool.true_or, if_true, if_false, Bool.false_eq_true, reduceIte, decide_true, decide_false, List.mem_cons, List.not_mem_nil, true_or, or_true, false_or, or_false, true_and, and_true, and_self, String.reduceEq, decide_eq_true_eq, not_true, not_false_iff, eq_self_iff_true, isNon_non, isNon_int, isNon_o, Nat.zero_le, sz1, sz2, sz3, sz4, Int.cast_ofNat_Int, Int.reduceEq, Int.reduceLT, Int.reduceLE, Int.reduceAdd, Int.reduceSub, Int.reduceNeg]))
theorem optL_get {α : Type} : ∀ {xs : List (Option α)} {ys : List α} {k : Nat} {y : α}, optL xs = some ys → ys[k]? = some y → xs[k]? = some (some y)
  | [], ys, k, y, e, h => by simp [optL] at e; subst e; simp at h
  | x :: xs, ys, k, y, e, h => by
    unfold optL at e
    split at e
    · rename_i z zs e1
      cases e
      cases k with
      | zero => simp at h; subst h; rfl
      | succ k => simp at h ⊢; exact optL_get e1 h
    · cases e
theorem optL_len {α : Type} : ∀ {xs : List (Option α)} {ys : List α}, optL xs = some ys → xs.length = ys.length
  | [], ys, e => by simp [optL] at e; subst e; rfl
  | x :: xs, ys, e => by
    unfold optL at e
    split at e
    · rename_i z zs e1
      cases e
      simp [optL_len e1]
    · cases e
/-- what has items -/
structure Its (h : Hs) (v : Tv) (n : String) (us : List Tv) : Prop where
  ix : ∀ (k : Nat) (u : Tv) (Q : Tq), us[k]? = some u → Q u h → tIx v (.int (k : Nat)) h Q
  len : ∀ (Q : Tq), Q (.int us.length) h → tLen v h Q
  ty : ∀ m, isTyT h v m = some (decide (m = n))
theorem its_lst {h : Hs} {d : Nat} {v : Tv} {ts : List T} (e : trT h (d + 1) v = some (.lst ts)) : ∃ us, Its h v "list" us ∧ optL (us.map (trT h d)) = some ts := by
  cases v with
  | lst us =>
    simp only [trT, Option.map_eq_some_iff, T.lst.injEq, exists_eq_right] at e
    exact ⟨us, ⟨fun k u Q hk q => by rw [ix_lst, atL_nat hk]; exact q, fun Q q => q, fun m => rfl⟩, e⟩
  | frz ns =>
    simp only [trT, Option.some.injEq, T.lst.injEq] at e
    subst e
    refine ⟨ns.map .int, ⟨fun k u Q hk q => ?_, fun Q q => by rw [len_frz]; simpa using q, fun m => rfl⟩, ?_⟩
    · rw [List.getElem?_map] at hk
      cases e : ns[k]? with
      | none => rw [e] at hk; cases hk
      | some z => rw [e] at hk; cases hk; rw [ix_frz, atL_nat e]; exact q
    · exact trT_map (fun a => by cases d <;> simp [trT]) ns
  | obj i =>
    simp only [trT] at e
    split at e
    · rename_i us he
      simp only [Option.map_eq_some_iff, T.lst.injEq, exists_eq_right] at e
      exact ⟨us, ⟨fun k u Q hk q => by rw [ix_obj he, atL_nat hk]; exact q, fun Q q => by rw [len_obj he]; exact q, fun m => ty_obj he⟩, e⟩
    · cases e
  | tup us => simp [trT] at e
  | non => simp [trT] at e
  | bl => simp [trT] at e
  | int => simp [trT] at e
  | str => simp [trT] at e
  | ty => simp [trT] at e
  | cls => simp [trT] at e
theorem its_tup {h : Hs} {d : Nat} {v : Tv} {ts : List T} (e : trT h (d + 1) v = some (.tup ts)) : ∃ us, Its h v "tuple" us ∧ optL (us.map (trT h d)) = some ts := by
  cases v with
  | tup us =>
    simp only [trT, Option.map_eq_some_iff, T.tup.injEq, exists_eq_right] at e
    exact ⟨us, ⟨fun k u Q hk q => by rw [ix_tup, atL_nat hk]; exact q, fun Q q => q, fun m => rfl⟩, e⟩
  | obj i =>
    simp only [trT] at e
    split at e
    · simp at e
    · cases e
  | lst us => simp [trT] at e
  | frz us => simp [trT] at e
  | non => simp [trT] at e
  | bl => simp [trT] at e
  | int => simp [trT] at e
  | str => simp [trT] at e
  | ty => simp [trT] at e
  | cls => simp [trT] at e
theorem eq_bl {h : Hs} {a b : Bool} {k : Bool → Prop} : tEq h (.bl a) (.bl b) k = k (a == b) := by
  unfold tEq trT
  simp only [eqT]
theorem tr_non {h : Hs} {n : Nat} {v : Tv} (e : trT h n v = some .non) : v = .non := by
  cases v <;> cases n <;> simp [trT] at e <;> first | rfl | skip
  split at e <;> simp at e
theorem tr_bl {h : Hs} {n : Nat} {v : Tv} {b : Bool} (e : trT h n v = some (.bl b)) : v = .bl b := by
  cases v <;> cases n <;> simp [trT] at e <;> first | (subst e; rfl) | skip
  split at e <;> simp at e
theorem tr_int {h : Hs} {n : Nat} {v : Tv} {b : Int} (e : trT h n v = some (.int b)) : v = .int b := by
  cases v <;> cases n <;> simp [trT] at e <;> first | (subst e; rfl) | skip
  split at e <;> simp at e
theorem tr_str {h : Hs} {n : Nat} {v : Tv} {b : String} (e : trT h n v = some (.str b)) : v = .str b := by
  cases v <;> cases n <;> simp [trT] at e <;> first | (subst e; rfl) | skip
  split at e <;> simp at e
theorem same_flat {P : Prg} (p : Hd P F__law_same) {k : Nat} {v : Tv} {h : Hs} {Q : Tq} {W : Tw} (hv : v.flat = true) (q : Q (.bl true) h) : trun P (k + 1) "" "_law_same" [v, v] h Q W := by
  refine call_of p rfl rfl rfl ?_
  unfold F__law_same
  decreasing_trivial_pre_omega
  cases v with
  | non => decreasing_trivial_pre_omega; exact gc0 q
  | bl b =>
    decreasing_trivial_pre_omega
    simp only [Tv.isNon]
    decreasing_trivial_pre_omega
    rw [eq_bl, beq_self_eq_true]; exact gc0 q
  | int i =>
    decreasing_trivial_pre_omega
    exact gc0 q
  | str s =>
    decreasing_trivial_pre_omega
    simp only [Tv.isNon]
    decreasing_trivial_pre_omega
    exact gc0 q
  | _ => cases hv
theorem tEq_nil {h : Hs} {k : Bool → Prop} (q : k true) : tEq h (.lst []) (.lst []) k := by
  have : tEq h (Enc.tv ([] : List Int)) (Enc.tv ([] : List Int)) k := tEq_enc (by decide) (by simpa using q)
  exact this
theorem same_items {P : Prg} (p : Hd P F__law_same) {k : Nat} {v w : Tv} {us ws : List Tv} {n : String} {h : Hs} {Q : Tq} {W : Tw} (hn : n = "list" ∨ n = "tuple") (iv : Its h v n us) (iw : Its h w n ws) (hl : us.length = ws.length) (hl2 : ws.length < 2 ^ 24)
    (ih : ∀ (j : Nat) (u w' : Tv) (Q : Tq) (W : Tw), us[j]? = some u → ws[j]? = some w' → Q (.bl true) h → trun P k "" "_law_same" [u, w'] h Q W) (q : Q (.bl true) h) : trun P (k + 1) "" "_law_same" [v, w] h Q W := by
  refine call_of p rfl rfl rfl ?_
  unfold F__law_same
  decreasing_trivial_pre_omega
  rw [iw.ty, iw.ty, iv.ty, iv.ty]
  have e1 : ∀ b, (decide (n = "tuple") || decide (n = "list")) = b ↔ b = true := by
    intro b
    rcases hn with rfl | rfl <;> simp [eq_comm]
  have e2 : (decide ("tuple" = n) || decide ("list" = n)) = true := by rcases hn with rfl | rfl <;> simp
  simp only [optB_some, e2, Bool.not_true, Bool.false_eq_true, if_true, if_false, eq_bl, beq_self_eq_true]
  refine iv.len _ (iw.len _ ?_)
  rw [hl]
  decreasing_trivial_pre_omega
  refine iw.len _ ?_
  decreasing_trivial_pre_omega
  refine tRng_nat (by omega) ?_
  refine tItems_pure (e := fun k : Nat => .int (k : Nat)) (p := fun _ => false) (f := fun _ => .non) _ [] (fun j hj K1 K2 k1 k2 => ?_) (by simp [szLine]; omega) ?_
  · have hjl := List.mem_range.mp hj
    decreasing_trivial_pre_omega
    have g1 : us[j]? = some us[j] := List.getElem?_eq_getElem (by omega)
    have g2 : ws[j]? = some ws[j] := List.getElem?_eq_getElem (by omega)
    refine iv.ix j _ _ g1 ?_
    decreasing_trivial_pre_omega
    refine iw.ix j _ _ g2 ?_
    refine ih j _ _ _ _ g1 g2 ?_
    decreasing_trivial_pre_omega
    exact k2 rfl
  · rw [List.filter_eq_nil_iff.mpr (by simp)]
    exact tEq_nil (gc0 q)
mutual
/-- how wide -/
def T.ok : T → Prop
  | .tup ts => ts.length < 2 ^ 24 ∧ T.okL ts
  | .lst ts => ts.length < 2 ^ 24 ∧ T.okL ts
  | _ => True
def T.okL : List T → Prop
  | [] => True
  | t :: ts => T.ok t ∧ T.okL ts
end
theorem T.okL_get : ∀ {ts : List T} {j : Nat} {t : T}, T.okL ts → ts[j]? = some t → t.ok
  | [], _, _, _, e => by simp at e
  | x :: ts, 0, t, h, e => by simp at e; subst e; simp only [T.okL] at h; exact h.1
  | x :: ts, j + 1, t, h, e => by simp at e; simp only [T.okL] at h; exact T.okL_get h.2 e
theorem sp_same {P : Prg} (p : Hd P F__law_same) : ∀ (d k : Nat) {v w : Tv} {t : T} {h : Hs} {Q : Tq} {W : Tw}, t.ok → trT h d v = some t → trT h d w = some t → Q (.bl true) h → trun P (k + d + 1) "" "_law_same" [v, w] h Q W := by
  intro d
  induction d with
  | zero =>
    intro k v w t h Q W ok ev ew q
    cases t with
    | non => rw [tr_non ev, tr_non ew]; exact same_flat p rfl q
    | bl => rw [tr_bl ev, tr_bl ew]; exact same_flat p rfl q
    | int => rw [tr_int ev, tr_int ew]; exact same_flat p rfl q
    | str => rw [tr_str ev, tr_str ew]; exact same_flat p rfl q
    | tup => cases v <;> simp [trT] at ev
    | lst => cases v <;> simp [trT] at ev
  | succ d ih =>
    intro k v w t h Q W ok ev ew q
    cases t with
    | non => rw [tr_non ev, tr_non ew]; exact same_flat p rfl q
    | bl => rw [tr_bl ev, tr_bl ew]; exact same_flat p rfl q
    | int => rw [tr_int ev, tr_int ew]; exact same_flat p rfl q
    | str => rw [tr_str ev, tr_str ew]; exact same_flat p rfl q
    | tup ts =>
      obtain ⟨us, iv, e1⟩ := its_tup ev
      obtain ⟨ws, iw, e2⟩ := its_tup ew
      have l1 := optL_len e1
      have l2 := optL_len e2
      rw [List.length_map] at l1 l2
      simp only [T.ok] at ok
      refine same_items p (.inr rfl) iv iw (by omega) (by omega) (fun j u w' Q W h1 h2 q => ?_) q
      have hj : j < ts.length := by rw [← l1]; exact (List.getElem?_eq_some_iff.mp h1).1
      have g := List.getElem?_eq_getElem hj
      have a1 := optL_get e1 g
      have a2 := optL_get e2 g
      rw [List.getElem?_map, h1] at a1
      rw [List.getElem?_map, h2] at a2
      exact ih k (T.okL_get ok.2 g) (by simpa using a1) (by simpa using a2) q
    | lst ts =>
      obtain ⟨us, iv, e1⟩ := its_lst ev
      obtain ⟨ws, iw, e2⟩ := its_lst ew
      have l1 := optL_len e1
      have l2 := optL_len e2
      rw [List.length_map] at l1 l2
      simp only [T.ok] at ok
      refine same_items p (.inl rfl) iv iw (by omega) (by omega) (fun j u w' Q W h1 h2 q => ?_) q
      have hj : j < ts.length := by rw [← l1]; exact (List.getElem?_eq_some_iff.mp h1).1
      have g := List.getElem?_eq_getElem hj
      have a1 := optL_get e1 g
      have a2 := optL_get e2 g
      rw [List.getElem?_map, h1] at a1
      rw [List.getElem?_map, h2] at a2
      exact ih k (T.okL_get ok.2 g) (by simpa using a1) (by simpa using a2) q
end Nf
/-! NfG1: rounds over ties, plain. -/
set_option linter.all false
namespace Nf
/-- whether two houses are tied -/
def adj (ts : List (Nat × Nat)) (a b : Nat) : Bool := decide ((a, b) ∈ ts ∨ (b, a) ∈ ts)
theorem adj_comm (ts : List (Nat × Nat)) (a b : Nat) : adj ts a b = adj ts b a := by unfold adj; exact decide_eq_decide.mpr or_comm
/-- a house's neighbours, rising -/
def nearOf (n : Nat) (A : Nat → Nat → Bool) (a : Nat) : List Nat := (List.range n).filter (A a)
/-- where a note is after so many rounds -/
def rch (n : Nat) (A : Nat → Nat → Bool) (I : Nat → Bool) : Nat → Nat → Bool
  | 0, k => I k
  | c + 1, k => rch n A I c k || (List.range n).any fun j => A k j && rch n A I c j
/-- the round in which it comes, of the first so many -/
def dst (n : Nat) (A : Nat → Nat → Bool) (I : Nat → Bool) : Nat → Nat → Option Nat
  | 0, _ => none
  | c + 1, k => match dst n A I c k with
    | some d => some d
    | none => if rch n A I c k then some c else none
section
variable {n : Nat} {A : Nat → Nat → Bool} {I : Nat → Bool}
theorem rch_mono {c k : Nat} (h : rch n A I c k = true) : rch n A I (c + 1) k = true := by
  unfold rch; rw [h]; rfl
theorem rch_le {c d k : Nat} (hd : c ≤ d) (h : rch n A I c k = true) : rch n A I d k = true := by
  induction hd with
  | refl => exact h
  | step _ ih => exact rch_mono ih
theorem dst_none {c k : Nat} : dst n A I c k = none ↔ ∀ d, d < c → rch n A I d k = false := by
  induction c with
  | zero => simp [dst]
  | succ c ih =>
    unfold dst
    cases e : dst n A I c k with
    | some d =>
      simp only [reduceCtorEq, false_iff]
      intro h
      rw [e] at ih
      have := ih.mpr fun d hd => h d (by omega)
      cases this
    | none =>
      rw [e] at ih
      simp only [true_iff] at ih
      by_cases r : rch n A I c k = true
      · simp only [r, if_true, reduceCtorEq, false_iff]
        intro h
        have := h c (by omega)
        rw [r] at this; cases this
      · simp only [r, Bool.false_eq_true, if_false, true_iff]
        intro d hd
        rcases Nat.lt_or_ge d c with h | h
        · exact ih d h
        · obtain rfl : d = c := by omega
          simpa using r
theorem dst_none1 {c k : Nat} : dst n A I (c + 1) k = none ↔ rch n A I c k = false := by
  rw [dst_none]
  constructor
  · exact fun h => h c (by omega)
  · intro h d hd
    cases e : rch n A I d k with
    | false => rfl
    | true => rw [rch_le (by omega) e] at h; cases h
/-- nothing new in a round: nothing new from then on -/
theorem rch_stop {c : Nat} (h : ∀ k, k < n → rch n A I (c + 1) k = rch n A I c k) : ∀ d, c ≤ d → ∀ k, k < n → rch n A I d k = rch n A I c k := by
  intro d hd
  induction hd with
  | refl => exact fun _ _ => rfl
  | @step d hd ih =>
    intro k hk
    rw [← h k hk]
    unfold rch
    rw [ih k hk]
    congr 1
    rw [Bool.eq_iff_iff, List.any_eq_true, List.any_eq_true]
    constructor
    · rintro ⟨j, hj, e⟩
      have hj2 := List.mem_range.mp hj
      exact ⟨j, hj, by rw [← ih j hj2]; exact e⟩
    · rintro ⟨j, hj, e⟩
      have hj2 := List.mem_range.mp hj
      exact ⟨j, hj, by rw [ih j hj2]; exact e⟩
theorem dst_stop {c : Nat} (h : ∀ k, k < n → rch n A I (c + 1) k = rch n A I c k) : ∀ d, c + 1 ≤ d → ∀ k, k < n → dst n A I d k = dst n A I (c + 1) k := by
  intro d hd
  induction hd with
  | refl => exact fun _ _ => rfl
  | @step d hd ih =>
    intro k hk
    rw [← ih k hk]
    show (match dst n A I d k with | some e => some e | none => if rch n A I d k then some d else none) = dst n A I d k
    cases e : dst n A I d k with
    | some x => rfl
    | none =>
      rw [ih k hk, dst_none1] at e
      rw [rch_stop h d (Nat.le_of_succ_le hd) k hk, e]
      rfl
/-- how many -/
def cnt (n : Nat) (f : Nat → Bool) : Nat := ((List.range n).filter f).length
theorem cnt_le (n : Nat) (f : Nat → Bool) : cnt n f ≤ n := by
  have := List.length_filter_le f (List.range n)
  simpa [cnt] using this
theorem filt_mono {f g : Nat → Bool} : ∀ {l : List Nat}, (∀ k ∈ l, f k = true → g k = true) → (l.filter f).length ≤ (l.filter g).length
  | [], _ => Nat.le_refl _
  | k :: l, h => by
    have ih := filt_mono (l := l) fun k hk => h k (List.mem_cons_of_mem _ hk)
    rw [List.filter_cons, List.filter_cons]
    by_cases e : f k = true
    · rw [if_pos e, if_pos (h k List.mem_cons_self e)]; simpa using ih
    · rw [if_neg e]; split <;> simp <;> omega
theorem filt_lt {f g : Nat → Bool} {x : Nat} : ∀ {l : List Nat}, (∀ k ∈ l, f k = true → g k = true) → x ∈ l → f x = false → g x = true → (l.filter f).length < (l.filter g).length
  | [], _, hx, _, _ => by cases hx
  | k :: l, h, hx, e1, e2 => by
    have hm := filt_mono (l := l) (f := f) (g := g) fun k hk => h k (List.mem_cons_of_mem _ hk)
    rw [List.filter_cons, List.filter_cons]
    rcases List.mem_cons.mp hx with rfl | hx
    · rw [if_neg (by rw [e1]; decide), if_pos e2]; simp; omega
    · have ih := filt_lt (l := l) (fun k hk => h k (List.mem_cons_of_mem _ hk)) hx e1 e2
      by_cases e : f k = true
      · rw [if_pos e, if_pos (h k List.mem_cons_self e)]; simpa using ih
      · rw [if_neg e]; split <;> simp <;> omega
theorem cnt_mono {f g : Nat → Bool} (h : ∀ k, k < n → f k = true → g k = true) : cnt n f ≤ cnt n g := filt_mono fun k hk => h k (List.mem_range.mp hk)
theorem cnt_lt {f g : Nat → Bool} {x : Nat} (h : ∀ k, k < n → f k = true → g k = true) (hx : x < n) (e1 : f x = false) (e2 : g x = true) : cnt n f < cnt n g := filt_lt (fun k hk => h k (List.mem_range.mp hk)) (List.mem_range.mpr hx) e1 e2
/-- as long as there is something new, there is more and more -/
theorem cnt_grow (i0 : ∃ k, k < n ∧ I k = true) : ∀ c, (∀ d, d < c → ∃ k, k < n ∧ rch n A I (d + 1) k ≠ rch n A I d k) → c + 1 ≤ cnt n (rch n A I c)
  | 0, _ => by
    obtain ⟨k, hk, e⟩ := i0
    have := cnt_lt (n := n) (f := fun _ => false) (g := rch n A I 0) (x := k) (fun _ _ h => by cases h) hk rfl e
    have e0 : cnt n (fun _ => false) = 0 := by simp [cnt]
    omega
  | c + 1, h => by
    have ih := cnt_grow i0 c fun d hd => h d (by omega)
    obtain ⟨k, hk, e⟩ := h c (by omega)
    have e1 : rch n A I c k = false := by
      cases q : rch n A I c k with
      | false => rfl
      | true => rw [q, rch_mono q] at e; exact (e rfl).elim
    have e2 : rch n A I (c + 1) k = true := by
      cases q : rch n A I (c + 1) k with
      | true => rfl
      | false => rw [q, e1] at e; exact (e rfl).elim
    have := cnt_lt (n := n) (f := rch n A I c) (g := rch n A I (c + 1)) (x := k) (fun _ _ h => rch_mono h) hk e1 e2
    omega
/-- behind as many rounds as there are houses there is nothing new -/
theorem rch_end (i0 : ∃ k, k < n ∧ I k = true) : ∃ c, c + 1 ≤ n ∧ ∀ k, k < n → rch n A I (c + 1) k = rch n A I c k := by
  apply Classical.byContradiction
  intro hn
  have h : ∀ d, d < n → ∃ k, k < n ∧ rch n A I (d + 1) k ≠ rch n A I d k := by
    intro d hd
    apply Classical.byContradiction
    intro hx
    refine hn ⟨d, hd, fun k hk => ?_⟩
    apply Classical.byContradiction
    exact fun hy => hx ⟨k, hk, hy⟩
  have := cnt_grow (A := A) (I := I) i0 n h
  have := cnt_le n (rch n A I n)
  omega
theorem dst_end (i0 : ∃ k, k < n ∧ I k = true) {d : Nat} (hd : n ≤ d) {k : Nat} (hk : k < n) : dst n A I d k = dst n A I n k := by
  obtain ⟨c, hc, h⟩ := rch_end (A := A) i0
  rw [dst_stop h d (by omega) k hk, dst_stop h n (by omega) k hk]
/-- the last round -/
theorem dst_fin {c : Nat} (hc : c ≤ n) (h : ∀ k, k < n → rch n A I c k = true → dst n A I c k ≠ none) : ∀ k, k < n → dst n A I n k = dst n A I c k := by
  intro k hk
  cases c with
  | zero =>
    have h0 : ∀ k, k < n → rch n A I 0 k = false := fun k hk => by
      cases e : rch n A I 0 k with
      | false => rfl
      | true => exact (h k hk e rfl).elim
    have h1 : ∀ k, k < n → rch n A I (0 + 1) k = rch n A I 0 k := fun k hk => by
      rw [h0 k hk]
      unfold rch
      rw [h0 k hk, Bool.false_or, List.any_eq_false]
      intro j hj
      rw [h0 j (List.mem_range.mp hj), Bool.and_false]; decide
    rw [dst_stop h1 n (by omega) k hk]
    show dst n A I 1 k = none
    rw [dst_none1]; exact h0 k hk
  | succ c =>
    have h1 : ∀ k, k < n → rch n A I (c + 1) k = rch n A I c k := fun k hk => by
      cases e : rch n A I (c + 1) k with
      | true =>
        have := h k hk e
        rw [ne_eq, dst_none1, Bool.not_eq_false] at this
        exact this.symm
      | false =>
        cases e2 : rch n A I c k with
        | false => rfl
        | true => rw [rch_mono e2] at e; cases e
    exact dst_stop h1 n hc k hk
theorem dst_succ {c k : Nat} : dst n A I (c + 1) k = match dst n A I c k with | some d => some d | none => if rch n A I c k then some c else none := rfl
/-- a level -/
def Lev (n : Nat) (A : Nat → Nat → Bool) (I : Nat → Bool) (c : Nat) (lv : List Nat) : Prop := lv.Nodup ∧ (∀ x ∈ lv, x < n) ∧ ∀ k, k < n → (k ∈ lv ↔ rch n A I c k = true ∧ dst n A I c k = none)
theorem lev_found {c k : Nat} {lv : List Nat} (h : Lev n A I c lv) (hk : k < n) : dst n A I (c + 1) k = if k ∈ lv then some c else dst n A I c k := by
  rw [dst_succ]
  have := h.2.2 k hk
  cases e : dst n A I c k with
  | some d =>
    have hn : k ∉ lv := fun z => by have q := (this.mp z).2; rw [e] at q; cases q
    simp [hn]
  | none =>
    by_cases r : rch n A I c k = true
    · have hn : k ∈ lv := this.mpr ⟨r, e⟩
      simp [hn, r]
    · have hn : k ∉ lv := fun z => r (this.mp z).1
      simp [hn, r]
theorem lev_next {c : Nat} {lv L : List Nat} (hA : ∀ a b, A a b = A b a) (h : Lev n A I c lv) (nd : L.Nodup) (hl : ∀ x ∈ L, x < n) (hL : ∀ k, k < n → (k ∈ L ↔ dst n A I (c + 1) k = none ∧ ∃ x ∈ lv, A x k = true)) : Lev n A I (c + 1) L := by
  refine ⟨nd, hl, fun k hk => ?_⟩
  rw [hL k hk]
  constructor
  · rintro ⟨e, x, hx, a⟩
    refine ⟨?_, e⟩
    have hxn := h.2.1 x hx
    have := ((h.2.2 x hxn).mp hx).1
    unfold rch
    rw [Bool.or_eq_true, List.any_eq_true]
    exact .inr ⟨x, List.mem_range.mpr hxn, by rw [hA, a, this]; rfl⟩
  · rintro ⟨e1, e2⟩
    refine ⟨e2, ?_⟩
    have e3 := dst_none1.mp e2
    unfold rch at e1
    rw [e3, Bool.false_or, List.any_eq_true] at e1
    obtain ⟨j, hj, e4⟩ := e1
    have hjn := List.mem_range.mp hj
    rw [Bool.and_eq_true] at e4
    refine ⟨j, (h.2.2 j hjn).mpr ⟨e4.2, ?_⟩, by rw [hA]; exact e4.1⟩
    cases c with
    | zero => rfl
    | succ c =>
      rw [dst_none1]
      cases e5 : rch n A I c j with
      | false => rfl
      | true =>
        have : rch n A I (c + 1) k = true := by
          unfold rch
          rw [Bool.or_eq_true, List.any_eq_true]
          exact .inr ⟨j, hj, by rw [e4.1, e5]; rfl⟩
        rw [this] at e3; cases e3
theorem lev_less {c : Nat} {lv : List Nat} (h : Lev n A I c lv) (hne : lv ≠ []) : cnt n (fun k => (dst n A I (c + 1) k).isNone) < cnt n (fun k => (dst n A I c k).isNone) := by
  obtain ⟨x, hx⟩ := List.exists_mem_of_ne_nil lv hne
  have hxn := h.2.1 x hx
  refine cnt_lt (x := x) (fun k hk e => ?_) hxn ?_ ?_
  · rw [lev_found h hk] at e
    split at e
    · cases e
    · exact e
  · rw [lev_found h hxn, if_pos hx]; rfl
  · rw [((h.2.2 x hxn).mp hx).2]; rfl
theorem nodup_len : ∀ {n : Nat} {l : List Nat}, l.Nodup → (∀ x ∈ l, x < n) → l.length ≤ n
  | 0, l, _, h => by
    cases l with
    | nil => simp
    | cons x l => have := h x List.mem_cons_self; omega
  | n + 1, l, nd, h => by
    by_cases hm : n ∈ l
    · have := nodup_len (n := n) (l := l.erase n) (nd.erase n) fun x hx => by
        have h1 := (nd.mem_erase_iff.mp hx)
        have := h x h1.2
        omega
      rw [List.length_erase_of_mem hm] at this
      omega
    · have := nodup_len (n := n) (l := l) nd fun x hx => by
        have h1 := h x hx
        have : x ≠ n := fun e => hm (e ▸ hx)
        omega
      omega
end
end Nf
/-! NfP2: rounds over ties, the program's. -/
set_option linter.all false
set_option maxHeartbeats 0
set_option maxRecDepth 100000
namespace Nf
local macro_rules | `(tactic| decreasing_trivial_pre_omega) => `(tactic| (try simp only [tSs, tS, tE, tEs, tEo, tI, asTI_int, asTB_bl, asTO_none, asTO_int, getT_0, getT_s, optB_some, tIsi_ty, tIsi_ty2, ty_non, ty_bl, ty_int, ty_str, ty_tup, ty_lst, ty_frz, bi_len, bi_int_i, bi_int_b, bi_str, bi_list, bi_tuple, bi_sorted, bi_min2, bi_max2, bi_isi, len_str, len_tup, len_lst, len_frz, list_lst, list_tup, list_frz, al_f, al_t, cmp_eq, cmp_ne, cmp_lt, cmp_le, cmp_gt, cmp_ge, cmp_inn, cmp_nin, cmp_is, cmp_isn, eq_int, eq_str, in_lst, bin_add, bin_sub, bin_mul, bin_rep, bin_fdiv, bin_mod, bin_pow, add_int, add_str, add_tup, add_ll, ix_tup, ix_lst, ix_frz, atL_0, atL_1, atL_2, atL_3, tg_v, tg_t, over_tup, over_lst, over_frz, tSetNs, tWipe, List.map_cons, List.map_nil, List.cons_append, List.nil_append, List.replicate_zero, List.replicate_succ, List.append_nil, List.set_cons_zero, List.set_cons_succ, List.set_nil, List.length_cons, List.length_nil, Nat.sub_self, Nat.reduceAdd, Nat.reduceSub, Nat.add_one_sub_one, Bool.not_true, Bool.not_false, Bool.or_false, Bool.or_true, Bool.false_or, Bool.true_or, if_true, if_false, Bool.false_eq_true, reduceIte, decide_true, decide_false, List.mem_cons, List.not_mem_nil, true_or, or_true, false_or, or_false, true_and, and_true, and_self, String.reduceEq, decide_eq_true_eq, not_true, not_false_iff, eq_self_iff_true, isNon_non, isNon_int, isNon_o, Nat.zero_le, sz1, sz2, sz3, sz4, Int.cast_ofNat_Int, Int.reduceEq, Int.reduceLT, Int.reduceLE, Int.reduceAdd, Int.reduceSub, Int.reduceNeg]))
theorem getT_eq {δ : Tst} {i : Nat} {v : Tv} {k : Tv → Prop} (e : δ[i]? = some (some v)) : getT δ i k = k v := by unfold getT; rw [e]
/-- what far_from has found behind so many rounds -/
def foundAt (n : Nat) (A : Nat → Nat → Bool) (I : Nat → Bool) (c : Nat) : List Tv := (List.range n).map fun k => oTv (dst n A I c k)
theorem foundAt_get {n : Nat} {A : Nat → Nat → Bool} {I : Nat → Bool} {c k : Nat} (hk : k < n) : (foundAt n A I c)[k]? = some (oTv (dst n A I c k)) := by
  unfold foundAt
  rw [List.getElem?_map, List.getElem?_range hk]; rfl
theorem rep_flat {α : Type} (x : α) : ∀ n, (List.replicate n [x]).flatten = List.replicate n x
  | 0 => rfl
  | n + 1 => by rw [List.replicate_succ, List.flatten_cons, rep_flat x n]; rfl
theorem found0 {n : Nat} {A : Nat → Nat → Bool} {I : Nat → Bool} : List.replicate n Tv.non = foundAt n A I 0 := by
  unfold foundAt
  have : (fun k => oTv (dst n A I 0 k)) = fun _ => Tv.non := by funext k; rfl
  rw [this]
  rw [List.map_const', List.length_range]
theorem closL_map {α : Type} {m : Nat} {f : α → Tv} (e : ∀ x, (f x).clos m = true) : ∀ l : List α, Tv.closL m (l.map f) = true
  | [] => by simp only [List.map_nil, Tv.closL]
  | x :: l => by simp only [List.map_cons, Tv.closL, e x, closL_map e l, Bool.and_self]
theorem clos_o {m : Nat} {o : Option Nat} : (oTv o).clos m = true := by cases o <;> simp only [oTv, Tv.clos]
theorem at1 {h g : Hs} {o : To} : (h ++ o :: g)[h.length]? = some o := by simp
theorem set1 {h g : Hs} {o o' : To} : (h ++ o :: g).set h.length o' = h ++ o' :: g := by simp
theorem map_set_range {α : Type} {n x : Nat} {f : Nat → α} {v : α} : ((List.range n).map f).set x v = (List.range n).map fun k => if k = x then v else f k := by
  apply List.ext_getElem?
  intro i
  rw [List.getElem?_set, List.getElem?_map, List.getElem?_map, List.length_map, List.length_range]
  by_cases e : x = i
  · subst e
    by_cases hl : x < n
    · simp [hl, List.getElem?_range]
    · simp [hl]
  · rw [if_neg e]
    by_cases hl : i < n
    · simp [List.getElem?_range hl, Ne.symm e]
    · rw [List.getElem?_eq_none (by simpa using hl)]; rfl
theorem at2 {h g : Hs} {o u : To} : (h ++ o :: (g ++ [u]))[(h ++ o :: g).length]? = some u := by
  have : h ++ o :: (g ++ [u]) = (h ++ o :: g) ++ [u] := by simp
  rw [this]; simp
theorem set2 {h g : Hs} {o u u' : To} : (h ++ o :: (g ++ [u])).set (h ++ o :: g).length u' = h ++ o :: (g ++ [u']) := by
  have : h ++ o :: (g ++ [u]) = (h ++ o :: g) ++ [u] := by simp
  rw [this, List.set_append_right _ _ (Nat.le_refl _)]; simp
theorem sp_far_from {P : Prg} (p : Hd P F_far_from) {k n : Nat} {A : Nat → Nat → Bool} {ss : List Nat} {h : Hs} {Q : Tq} {W : Tw} (hn : n ≤ 60) (hA : ∀ a b, A a b = A b a) (hs : ∀ x ∈ ss, x < n) (hl : ss.length < 60)
    (q : Q (.obj h.length) (h ++ [.lst (foundAt n A (fun x => decide (x ∈ ss)) n)])) : trun P (k + 1) "" "far_from" [.lst ((List.range n).map fun a => Enc.tv (nearOf n A a)), .lst (ss.map Enc.tv)] h Q W := by
  refine call_of p rfl rfl rfl ?_
  unfold F_far_from
  decreasing_trivial_pre_omega
  have hlen : (List.map (fun a => (Enc.tv (nearOf n A a) : Tv)) (List.range n)).length = n := by simp
  rw [hlen]
  refine ⟨by omega, by omega, by simp [szLine]; omega, ?_⟩
  rw [Int.toNat_natCast, rep_flat, found0 (A := A) (I := fun x => decide (x ∈ ss))]
  refine bi_set_nat (by omega) ?_
  unfold newO
  refine sort_set_nat (ss := ss) (by simp) hl fun ys hy1 hy2 => ?_
  refine tWhl_inv (fun m τ h' => ∃ (c : Nat) (lv : List Nat) (g : Hs) (x5 x6 : Option Tv), τ = [some (.lst ((List.range n).map fun a => Enc.tv (nearOf n A a))), some (.lst (ss.map Enc.tv)), some (.obj h.length), some (.lst (lv.map Enc.tv)), some (.int (c : Nat)), x5, x6, none] ∧
    h' = h ++ .lst (foundAt n A (fun x => decide (x ∈ ss)) c) :: g ∧ Lev n A (fun x => decide (x ∈ ss)) c lv ∧ m = cnt n (fun k => (dst n A (fun x => decide (x ∈ ss)) c k).isNone) ∧ c + m ≤ n)
    (fun m τ h' K i hk => ?_) (n := cnt n (fun k => (dst n A (fun x => decide (x ∈ ss)) 0 k).isNone)) ⟨0, ys, [.set (ss.map fun n : Nat => (n : Int))], none, none, rfl, by simp, ⟨hy1.imp fun h => Nat.ne_of_lt h, fun x hx => hs x ((hy2 x).mp hx), fun k hk => ?_⟩, rfl, by have := cnt_le n (fun k => (dst n A (fun x => decide (x ∈ ss)) 0 k).isNone); omega⟩
  · obtain ⟨c, lv, g, x5, x6, rfl, rfl, hlv, rfl, hcm⟩ := i
    decreasing_trivial_pre_omega
    refine tEq_enc (a := lv) (b := ([] : List Nat)) (by decide) ?_
    by_cases hne : lv = []
    · simp only [hne, decide_true, Bool.not_true, Bool.false_eq_true, if_false]
      refine gc2 (by simp [Tv.clos]) (closL_map (fun x => clos_o) _) ?_
      have e : foundAt n A (fun x => decide (x ∈ ss)) c = foundAt n A (fun x => decide (x ∈ ss)) n := by
        unfold foundAt
        refine List.map_congr_left fun k hk => ?_
        rw [dst_fin (c := c) (by omega) (fun k hk e1 e2 => ?_) k (List.mem_range.mp hk)]
        have := (hlv.2.2 k hk).mpr ⟨e1, e2⟩
        rw [hne] at this; cases this
      rw [e]; exact q
    · simp only [hne, decide_false, Bool.not_false, if_true]
      decreasing_trivial_pre_omega
      refine tFor_num (e := Enc.tv) (its := lv) (fun j τ h' => ∃ x5, τ = [some (.lst ((List.range n).map fun a => Enc.tv (nearOf n A a))), some (.lst (ss.map Enc.tv)), some (.obj h.length), some (.lst (lv.map Enc.tv)), some (.int (c : Nat)), x5, x6, none] ∧
        h' = h ++ .lst ((List.range n).map fun k => oTv (if k ∈ lv.take j then some c else dst n A (fun x => decide (x ∈ ss)) c k)) :: g) ⟨x5, rfl, ?_⟩ (fun τ h' i => ?_) (fun j x τ h' K2 hj i hk2 => ?_)
      · simp [foundAt]
      · obtain ⟨x5, rfl, rfl⟩ := i
        have e : ((List.range n).map fun k => oTv (if k ∈ lv.take lv.length then some c else dst n A (fun x => decide (x ∈ ss)) c k)) = foundAt n A (fun x => decide (x ∈ ss)) (c + 1) := by
          unfold foundAt
          refine List.map_congr_left fun k hk => ?_
          rw [lev_found hlv (List.mem_range.mp hk), List.take_length]
        rw [e]
        decreasing_trivial_pre_omega
        refine tFor_num (e := Enc.tv) (its := lv) (fun j τ h' => ∃ x5 L, τ = [some (.lst ((List.range n).map fun a => Enc.tv (nearOf n A a))), some (.lst (ss.map Enc.tv)), some (.obj h.length), some (.lst (lv.map Enc.tv)), some (.int (c : Nat)), x5, some (.obj (h ++ .lst (foundAt n A (fun x => decide (x ∈ ss)) (c + 1)) :: g).length), none] ∧
          h' = h ++ .lst (foundAt n A (fun x => decide (x ∈ ss)) (c + 1)) :: (g ++ [.lst (L.map Enc.tv)]) ∧ L.Nodup ∧ (∀ x ∈ L, x < n) ∧ ∀ k, k < n → (k ∈ L ↔ dst n A (fun x => decide (x ∈ ss)) (c + 1) k = none ∧ ∃ x ∈ lv.take j, A x k = true)) ⟨x5, [], rfl, by simp, List.nodup_nil, by simp, by simp⟩ (fun τ h' i => ?_) (fun j x τ h' K2 hj i hk2 => ?_)
        · obtain ⟨x5, L, rfl, rfl, nd, hL1, hL2⟩ := i
          decreasing_trivial_pre_omega
          rw [frz_obj at2, set2]
          decreasing_trivial_pre_omega
          rw [List.take_length] at hL2
          refine hk _ (lev_less hlv hne) _ _ ⟨c + 1, L, g ++ [.dead], x5, _, rfl, rfl, lev_next hA hlv nd hL1 hL2, rfl, ?_⟩
          have := lev_less hlv hne
          omega
        · obtain ⟨x5, L, rfl, rfl, nd, hL1, hL2⟩ := i
          have hx := hlv.2.1 x (List.mem_of_getElem? hj)
          have ex : (Enc.tv x : Tv) = .int (x : Nat) := rfl
          rw [ex]
          decreasing_trivial_pre_omega
          refine ⟨by rw [isLs_obj at2]; trivial, ?_⟩
          rw [atL_nat (v := .lst ((nearOf n A x).map Enc.tv)) (by rw [List.getElem?_map, List.getElem?_range hx]; rfl)]
          decreasing_trivial_pre_omega
          refine tItems_pure (p := fun k => (dst n A (fun x => decide (x ∈ ss)) (c + 1) k).isNone && !decide (k ∈ L)) (f := Enc.tv) _ [] (fun y hy K3 K4 k3 k4 => ?_) ?_ ?_
          · have hyn := List.mem_range.mp (List.mem_filter.mp hy).1
            have ey : (Enc.tv y : Tv) = .int (y : Nat) := rfl
            rw [ey]
            decreasing_trivial_pre_omega
            rw [ix_obj at1, atL_nat (foundAt_get hyn)]
            decreasing_trivial_pre_omega
            by_cases e2 : (dst n A (fun x => decide (x ∈ ss)) (c + 1) y).isNone = true
            · rw [if_pos e2, in_obj at2]
              refine tInL_enc (a := y) (xs := L) (by decide) ?_
              by_cases e3 : y ∈ L
              · simp only [e3, decide_true, Bool.not_true, Bool.false_eq_true, if_false]
                exact k4 (by rw [e2]; simp [e3])
              · simp only [e3, decide_false, Bool.not_false, if_true]
                exact k3 (by rw [e2]; simp [e3])
            · rw [if_neg e2]
              exact k4 (by simp [e2])
          · have := nodup_len (n := n) (l := nearOf n A x) (List.nodup_range.filter _) fun y hy => List.mem_range.mp (List.mem_filter.mp hy).1
            simp [szLine]; omega
          · have hN := nodup_len nd hL1
            have hM := nodup_len (n := n) (l := (nearOf n A x).filter fun k => (dst n A (fun x => decide (x ∈ ss)) (c + 1) k).isNone && !decide (k ∈ L)) ((List.nodup_range.filter _).filter _) fun y hy => List.mem_range.mp (List.mem_filter.mp (List.mem_filter.mp hy).1).1
            rw [List.nil_append, lm_ext at2, set2, ← List.map_append]
            refine ⟨by rw [List.length_map, List.length_map]; simp only [szLine]; omega, hk2 _ _ ⟨_, _, rfl, rfl, ?_, ?_, ?_⟩⟩
            · rw [List.nodup_append]
              refine ⟨nd, (List.nodup_range.filter _).filter _, fun a ha b hb e => ?_⟩
              subst e
              have := (List.mem_filter.mp hb).2
              simp [ha] at this
            · intro y hy
              rcases List.mem_append.mp hy with hy | hy
              · exact hL1 y hy
              · exact List.mem_range.mp (List.mem_filter.mp (List.mem_filter.mp hy).1).1
            · intro y hy
              rw [List.mem_append, hL2 y hy, List.mem_filter, List.take_succ, hj]
              unfold nearOf
              rw [List.mem_filter, List.mem_range, Bool.and_eq_true, Option.isNone_iff_eq_none]
              constructor
              · rintro (⟨q1, z, hz, q2⟩ | ⟨⟨_, q1⟩, q2, _⟩)
                · exact ⟨q1, z, List.mem_append_left _ hz, q2⟩
                · exact ⟨q2, x, by simp, q1⟩
              · rintro ⟨q1, z, hz, q2⟩
                by_cases e3 : y ∈ L
                · exact .inl ((hL2 y hy).mp e3)
                · rcases List.mem_append.mp hz with hz | hz
                  · exact .inl ⟨q1, z, hz, q2⟩
                  · simp at hz; subst hz
                    exact .inr ⟨⟨hy, q2⟩, q1, by simp [e3]⟩
      · obtain ⟨x5, rfl, rfl⟩ := i
        have hx := hlv.2.1 x (List.mem_of_getElem? hj)
        have ex : (Enc.tv x : Tv) = .int (x : Nat) := rfl
        rw [ex]
        decreasing_trivial_pre_omega
        rw [seti_lst at1 (by simpa using hx), set1]
        refine hk2 _ _ ⟨_, rfl, ?_⟩
        rw [map_set_range]
        congr 3
        refine List.map_congr_left fun k hk => ?_
        rw [List.take_succ, hj]
        by_cases e : k = x
        · subst e; simp [oTv]
        · simp [e]
  · show k ∈ ys ↔ decide (k ∈ ss) = true ∧ none = none
    rw [hy2 k]; simp
end Nf
/-! NfP3: beside, rounds. -/
set_option linter.all false
set_option maxHeartbeats 0
set_option maxRecDepth 100000
namespace Nf
local macro_rules | `(tactic| decreasing_trivial_pre_omega) => `(tactic| (try simp only [tSs, tS, tE, tEs, tEo, tI, asTI_int, asTB_bl, asTO_none, asTO_int, getT_0, getT_s, optB_some, tIsi_ty, tIsi_ty2, ty_non, ty_bl, ty_int, ty_str, ty_tup, ty_lst, ty_frz, bi_len, bi_int_i, bi_int_b, bi_str, bi_list, bi_tuple, bi_sorted, bi_min2, bi_max2, bi_isi, len_str, len_tup, len_lst, len_frz, list_lst, list_tup, list_frz, al_f, al_t, cmp_eq, cmp_ne, cmp_lt, cmp_le, cmp_gt, cmp_ge, cmp_inn, cmp_nin, cmp_is, cmp_isn, eq_int, eq_str, in_lst, bin_add, bin_sub, bin_mul, bin_rep, bin_fdiv, bin_mod, bin_pow, add_int, add_str, add_tup, add_ll, ix_tup, ix_lst, ix_frz, atL_0, atL_1, atL_2, atL_3, tg_v, tg_t, over_tup, over_lst, over_frz, tSetNs, tWipe, List.map_cons, List.map_nil, List.cons_append, List.nil_append, List.replicate_zero, List.replicate_succ, List.append_nil, List.set_cons_zero, List.set_cons_succ, List.set_nil, List.length_cons, List.length_nil, Nat.sub_self, Nat.reduceAdd, Nat.reduceSub, Nat.add_one_sub_one, Bool.not_true, Bool.not_false, Bool.or_false, Bool.or_true, Bool.false_or, Bool.true_or, if_true, if_false, Bool.false_eq_true, reduceIte, decide_true, decide_false, List.mem_cons, List.not_mem_nil, true_or, or_true, false_or, or_false, true_and, and_true, and_self, String.reduceEq, decide_eq_true_eq, not_true, not_false_iff, eq_self_iff_true, isNon_non, isNon_int, isNon_o, Nat.zero_le, sz1, sz2, sz3, sz4, Int.cast_ofNat_Int, Int.reduceEq, Int.reduceLT, Int.reduceLE, Int.reduceAdd, Int.reduceSub, Int.reduceNeg]))
theorem row_get {h : Hs} {n a : Nat} {f : Nat → To} (ha : a < n) : (h ++ (List.range n).map f)[h.length + a]? = some (f a) := by
  rw [List.getElem?_append_right (by omega), Nat.add_sub_cancel_left, List.getElem?_map, List.getElem?_range ha]; rfl
theorem row_set {h : Hs} {n a : Nat} {f : Nat → To} {o : To} : (h ++ (List.range n).map f).set (h.length + a) o = h ++ (List.range n).map fun k => if k = a then o else f k := by
  rw [List.set_append_right _ _ (by omega), Nat.add_sub_cancel_left, map_set_range]
/-- strictly rising lists of the same numbers -/
theorem rise_eq : ∀ {xs ys : List Nat}, xs.Pairwise (· < ·) → ys.Pairwise (· < ·) → (∀ a, a ∈ xs ↔ a ∈ ys) → xs = ys
  | [], [], _, _, _ => rfl
  | [], y :: ys, _, _, h => by have := (h y).mpr List.mem_cons_self; cases this
  | x :: xs, [], _, _, h => by have := (h x).mp List.mem_cons_self; cases this
  | x :: xs, y :: ys, hx, hy, h => by
    rw [List.pairwise_cons] at hx hy
    have e : x = y := by
      rcases List.mem_cons.mp ((h x).mp List.mem_cons_self) with e | e1
      · exact e
      · rcases List.mem_cons.mp ((h y).mpr List.mem_cons_self) with e | e2
        · exact e.symm
        · have := hy.1 x e1; have := hx.1 y e2; omega
    subst e
    rw [rise_eq hx.2 hy.2 fun a => ?_]
    constructor
    · intro ha
      rcases List.mem_cons.mp ((h a).mp (List.mem_cons_of_mem _ ha)) with e | e
      · subst e; have := hx.1 a ha; omega
      · exact e
    · intro ha
      rcases List.mem_cons.mp ((h a).mpr (List.mem_cons_of_mem _ ha)) with e | e
      · subst e; have := hy.1 a ha; omega
      · exact e
theorem near_rise {n a : Nat} {A : Nat → Nat → Bool} : (nearOf n A a).Pairwise (· < ·) := List.pairwise_lt_range.filter _
/-- a neighbour more -/
def addN (R : Nat → List Nat) (a b : Nat) : Nat → List Nat := fun k => if k = a then (if b ∈ R a then R a else R a ++ [b]) else R k
theorem mem_addN {R : Nat → List Nat} {a b k x : Nat} : x ∈ addN R a b k ↔ x ∈ R k ∨ (k = a ∧ x = b) := by
  unfold addN
  by_cases e : k = a
  · subst e
    simp only [if_true, true_and]
    by_cases hb : b ∈ R k
    · simp only [hb, if_true]
      exact ⟨.inl, fun h => h.elim id fun e => e ▸ hb⟩
    · simp [hb]
  · simp [e]
theorem nodup_addN {R : Nat → List Nat} {a b : Nat} (h : ∀ k, (R k).Nodup) : ∀ k, (addN R a b k).Nodup := fun k => by
  unfold addN
  by_cases e : k = a
  · subst e
    simp only [if_true]
    by_cases hb : b ∈ R k
    · simp only [hb, if_true]; exact h k
    · simp only [hb, if_false]
      rw [List.nodup_append]
      refine ⟨h k, by simp, fun x hx y hy e => ?_⟩
      simp at hy; subst hy; subst e; exact hb hx
  · simp only [e, if_false]; exact h k
def rowsH (n : Nat) (R : Nat → List Nat) : Hs := (List.range n).map fun a => .lst ((R a).map Enc.tv)
theorem rowsH_get {h : Hs} {n a : Nat} {R : Nat → List Nat} (ha : a < n) : (h ++ rowsH n R)[h.length + a]? = some (.lst ((R a).map Enc.tv)) := row_get ha
theorem rowsH_add {h : Hs} {n a b : Nat} {R : Nat → List Nat} (hb : b ∉ R a) : (h ++ rowsH n R).set (h.length + a) (.lst ((R a).map Enc.tv ++ [Enc.tv b])) = h ++ rowsH n (addN R a b) := by
  unfold rowsH
  rw [row_set]
  congr 1
  refine List.map_congr_left fun k hk => ?_
  unfold addN
  by_cases e : k = a
  · subst e; simp [hb]
  · simp [e]
theorem rowsH_same {n a b : Nat} {R : Nat → List Nat} (hb : b ∈ R a) : rowsH n (addN R a b) = rowsH n R := by
  unfold rowsH
  refine List.map_congr_left fun k hk => ?_
  unfold addN
  by_cases e : k = a
  · subst e; simp [hb]
  · simp [e]
theorem sp_beside {P : Prg} (p : Hd P F_beside) {k n : Nat} {ts : List (Nat × Nat)} {h : Hs} {Q : Tq} {W : Tw} (hn : n ≤ 60) (ht : ∀ t ∈ ts, t.1 < n ∧ t.2 < n ∧ t.1 ≠ t.2)
    (q : Q (.lst ((List.range n).map fun a => Enc.tv (nearOf n (adj ts) a))) h) : trun P (k + 1) "" "beside" [.int n, .lst (ts.map Enc.tv)] h Q W := by
  refine call_of p rfl rfl rfl ?_
  unfold F_beside
  decreasing_trivial_pre_omega
  refine tRng_nat (by omega) ?_
  refine tItems_inv (e := fun k : Nat => .int (k : Nat)) (its := List.range n) (fun j acc h' => acc = (List.range j).map (fun a => .obj (h.length + a)) ∧ h' = h ++ rowsH j fun _ => []) (fun acc h' i => ?_) (fun j x acc h' K' hj i hk => ?_) ⟨rfl, by simp [rowsH]⟩
  · rw [List.length_range] at i
    obtain ⟨rfl, rfl⟩ := i
    refine tFor_num (e := Enc.tv) (its := ts) (fun j τ h' => ∃ x3 x4 x6 x7 R, τ = [some (.int n), some (.lst (ts.map Enc.tv)), some (.lst ((List.range n).map fun a => .obj (h.length + a))), x3, x4, none, x6, x7, none] ∧ h' = h ++ rowsH n R ∧ (∀ a, (R a).Nodup) ∧ ∀ a b, b ∈ R a ↔ (a, b) ∈ ts.take j ∨ (b, a) ∈ ts.take j) ⟨none, none, none, none, fun _ => [], rfl, rfl, fun _ => List.nodup_nil, by simp⟩ (fun τ h' i => ?_) (fun j x τ h' K hj i hk => ?_)
    · obtain ⟨x3, x4, x6, x7, R, rfl, rfl, nd, hR⟩ := i
      rw [List.take_length] at hR
      decreasing_trivial_pre_omega
      refine tItems_pure (e := fun a => .obj (h.length + a)) (p := fun _ => true) (f := fun a => Enc.tv (nearOf n (adj ts) a)) _ [] (fun a ha K1 K2 k1 k2 => ?_) (by simp [szLine]; omega) ?_
      · have han := List.mem_range.mp ha
        decreasing_trivial_pre_omega
        refine sort_nat (rowsH_get han) fun ys hp hs => ?_
        have e : ys = nearOf n (adj ts) a := by
          refine rise_eq ?_ near_rise fun b => ?_
          · exact (hs.and ((hp.nodup_iff).mpr (nd a))).imp fun {x y} h => by have := h.1; have := h.2; omega
          · rw [hp.mem_iff, hR]
            unfold nearOf adj
            rw [List.mem_filter, List.mem_range, decide_eq_true_eq]
            refine ⟨fun h => ⟨?_, h⟩, fun h => h.2⟩
            rcases h with h | h
            · exact (ht _ h).2.1
            · exact (ht _ h).1
        rw [e]
        exact k1 rfl
      · rw [List.nil_append, List.filter_eq_self.mpr fun _ _ => rfl]
        refine gc1 ?_ q
        simp only [Tv.clos]
        exact closL_map (fun a => by simp only [Enc.tv, Tv.clos]; exact closL_map (fun b => by simp only [Tv.clos]) _) _
    · obtain ⟨x3, x4, x6, x7, R, rfl, rfl, nd, hR⟩ := i
      obtain ⟨t1, t2, t3⟩ := ht x (List.mem_of_getElem? hj)
      have ex : (Enc.tv x : Tv) = .tup [.int (x.1 : Nat), .int (x.2 : Nat)] := rfl
      rw [ex]
      decreasing_trivial_pre_omega
      refine tFor_num (e := Enc.tv) (its := [(x.1, x.2), (x.2, x.1)]) (fun i τ h' => ∃ x6 x7 R', τ = [some (.int n), some (.lst (ts.map Enc.tv)), some (.lst ((List.range n).map fun a => .obj (h.length + a))), some (.int (x.1 : Nat)), some (.int (x.2 : Nat)), none, x6, x7, none] ∧
        h' = h ++ rowsH n R' ∧ (∀ a, (R' a).Nodup) ∧ ∀ a b, b ∈ R' a ↔ b ∈ R a ∨ (a, b) ∈ [(x.1, x.2), (x.2, x.1)].take i) ⟨x6, x7, R, rfl, rfl, nd, by simp⟩ (fun τ h' i => ?_) (fun i y τ h' K2 hy i2 hk2 => ?_)
      · obtain ⟨x6, x7, R', rfl, rfl, nd', hR'⟩ := i
        refine hk _ _ ⟨_, _, x6, x7, R', rfl, rfl, nd', fun a b => ?_⟩
        rw [hR' a b, hR, List.take_succ, hj]
        obtain ⟨x1, x2⟩ := x
        simp
        constructor
        · rintro ((h | h) | ⟨rfl, rfl⟩ | ⟨rfl, rfl⟩)
          · exact .inl (.inl h)
          · exact .inr (.inl h)
          · exact .inl (.inr ⟨rfl, rfl⟩)
          · exact .inr (.inr ⟨rfl, rfl⟩)
        · rintro ((h | ⟨rfl, rfl⟩) | (h | ⟨rfl, rfl⟩))
          · exact .inl (.inl h)
          · exact .inr (.inl ⟨rfl, rfl⟩)
          · exact .inl (.inr h)
          · exact .inr (.inr ⟨rfl, rfl⟩)
      · obtain ⟨x6, x7, R', rfl, rfl, nd', hR'⟩ := i2
        have hyn : y.1 < n ∧ y.2 < n := by
          have := List.mem_of_getElem? hy
          simp at this
          rcases this with e | e <;> rw [e] <;> exact ⟨by assumption, by assumption⟩
        have ey : (Enc.tv y : Tv) = .tup [.int (y.1 : Nat), .int (y.2 : Nat)] := rfl
        rw [ey]
        decreasing_trivial_pre_omega
        rw [atL_nat (v := .obj (h.length + y.1)) (by rw [List.getElem?_map, List.getElem?_range hyn.1]; rfl)]
        rw [in_obj (rowsH_get hyn.1)]
        refine tInL_enc (a := y.2) (xs := R' y.1) (by decide) ?_
        have fin : ∀ a b, b ∈ addN R' y.1 y.2 a ↔ b ∈ R a ∨ (a, b) ∈ [(x.1, x.2), (x.2, x.1)].take (i + 1) := fun a b => by
          rw [mem_addN, hR' a b, List.take_succ, hy]
          obtain ⟨y1, y2⟩ := y
          simp [or_assoc]
        by_cases hm : y.2 ∈ R' y.1
        · simp only [hm, decide_true, Bool.not_true, Bool.false_eq_true, if_false]
          refine hk2 _ _ ⟨_, _, addN R' y.1 y.2, rfl, by rw [rowsH_same hm], nodup_addN nd', fin⟩
        · simp only [hm, decide_false, Bool.not_false, if_true]
          rw [atL_nat (v := .obj (h.length + y.1)) (by rw [List.getElem?_map, List.getElem?_range hyn.1]; rfl)]
          rw [isLs_obj (rowsH_get hyn.1)]
          refine ⟨trivial, ?_⟩
          have e2 : (Tv.int (y.2 : Nat)) = Enc.tv y.2 := rfl
          rw [lm_app (rowsH_get hyn.1), e2, rowsH_add hm]
          refine ⟨?_, hk2 _ _ ⟨_, _, addN R' y.1 y.2, rfl, rfl, nodup_addN nd', fin⟩⟩
          have := nodup_len (n := n) (nd' y.1) fun b hb => ?_
          · rw [List.length_map]; simp only [szLine]; omega
          · rcases (hR' _ _).mp hb with h | h
            · rcases (hR _ _).mp h with h | h
              · exact (ht _ (List.mem_of_mem_take h)).2.1
              · exact (ht _ (List.mem_of_mem_take h)).1
            · have := List.mem_of_mem_take h
              simp at this
              rcases this with ⟨_, e⟩ | ⟨_, e⟩ <;> rw [e] <;> assumption
  · obtain ⟨rfl, rfl⟩ := i
    have hjn := (List.getElem?_eq_some_iff.mp hj).1
    rw [List.length_range] at hjn
    decreasing_trivial_pre_omega
    refine ⟨by simp [szLine]; omega, hk _ _ ⟨?_, ?_⟩⟩
    · rw [List.range_succ, List.map_append]; simp [rowsH]
    · simp [rowsH, List.range_succ]
/-- just one -/
def one (s : Nat) : Nat → Bool := fun x => decide (x ∈ [s])
theorem sp_rounds {P : Prg} (p : Hd P F_rounds) (p1 : Hd P F_is_number) (p2 : Hd P F_need_many) (p3 : Hd P F_need_house) (p4 : Hd P F_need_ties) (p5 : Hd P F_beside) (p6 : Hd P F_far_from) {k n s : Nat} {ts : List (Nat × Nat)} {h : Hs} {Q : Tq} {W : Tw} (hn : 2 ≤ n ∧ n ≤ 8) (ht : ∀ t ∈ ts, t.1 < n ∧ t.2 < n ∧ t.1 ≠ t.2) (hs : s < n)
    (q : Q (.obj h.length) (h ++ [.lst (foundAt n (adj ts) (one s) n)])) : trun P (k + 4) "" "rounds" [.int n, .lst (ts.map Enc.tv), .int s] h Q W := by
  refine call_of p rfl rfl rfl ?_
  unfold F_rounds
  decreasing_trivial_pre_omega
  refine sp_need_ties p4 p1 p2 hn ht ?_
  refine sp_need_house p3 p1 (by omega) ?_
  refine sp_beside p5 (by omega) ht ?_
  refine sp_far_from p6 (ss := [s]) (by omega) (adj_comm ts) (by simpa using hs) (by simp) (gc0 q)
end Nf
/-! NfQ3: ties drawn, near -/
set_option linter.all false
set_option maxHeartbeats 0
set_option maxRecDepth 100000
namespace Nf
local macro_rules | `(tactic| decreasing_trivial_pre_omega) => `(tactic| (try simp only [tSs, tS, tE, tEs, tEo, tI, asTI_int, asTB_bl, asTO_none, asTO_int, getT_0, getT_s, optB_some, tIsi_ty, tIsi_ty2, ty_non, ty_bl, ty_int, ty_str, ty_tup, ty_lst, ty_frz, bi_len, bi_int_i, bi_int_b, bi_str, bi_list, bi_tuple, bi_sorted, bi_min2, bi_max2, bi_isi, len_str, len_tup, len_lst, len_frz, list_lst, list_tup, list_frz, al_f, al_t, cmp_eq, cmp_ne, cmp_lt, cmp_le, cmp_gt, cmp_ge, cmp_inn, cmp_nin, cmp_is, cmp_isn, eq_int, eq_str, in_lst, bin_add, bin_sub, bin_mul, bin_rep, bin_fdiv, bin_mod, bin_pow, add_int, add_str, add_tup, add_ll, ix_tup, ix_lst, ix_frz, atL_0, atL_1, atL_2, atL_3, tg_v, tg_t, over_tup, over_lst, over_frz, tSetNs, tWipe, List.map_cons, List.map_nil, List.cons_append, List.nil_append, List.replicate_zero, List.replicate_succ, List.append_nil, List.set_cons_zero, List.set_cons_succ, List.set_nil, List.length_cons, List.length_nil, Nat.sub_self, Nat.reduceAdd, Nat.reduceSub, Nat.add_one_sub_one, Bool.not_true, Bool.not_false, Bool.or_false, Bool.or_true, Bool.false_or, Bool.true_or, if_true, if_false, Bool.false_eq_true, reduceIte, decide_true, decide_false, List.mem_cons, List.not_mem_nil, true_or, or_true, false_or, or_false, true_and, and_true, and_self, String.reduceEq, decide_eq_true_eq, not_true, not_false_iff, eq_self_iff_true, isNon_non, isNon_int, isNon_o, Nat.zero_le, sz1, sz2, sz3, sz4, Int.cast_ofNat_Int, Int.reduceEq, Int.reduceLT, Int.reduceLE, Int.reduceAdd, Int.reduceSub, Int.reduceNeg]))
theorem tFor_rng' {tg : Tv → Tst → (Tst → Prop) → Prop} {body : Te → Tst → Hs → Prop} {E : Te} {m : Nat} (I : Nat → Tst → Hs → Prop) {τ : Tst} {h : Hs} (h0 : I 0 τ h)
    (hend : ∀ τ h, I m τ h → E.nx τ h)
    (hstep : ∀ n τ h (K : Tst → Hs → Prop), n < m → I n τ h → (∀ τ2 h2, I (n + 1) τ2 h2 → K τ2 h2) → tg (.int (n : Nat)) τ fun τ' => body ⟨K, E.rt⟩ τ' h) :
    tFor tg body E ((List.range m).map fun k : Nat => .int (k : Nat)) τ h := by
  refine tFor_num (e := fun k : Nat => Tv.int (k : Nat)) I h0 (fun τ h i => hend τ h (by simpa using i)) fun n x τ h K hx i hk => ?_
  have hx2 := List.getElem?_eq_some_iff.mp hx
  obtain ⟨hl, hx2⟩ := hx2
  simp at hx2 hl
  subst hx2
  exact hstep n τ h K hl i hk
theorem atL_all {α : Type} {xs : List α} {r : Nat} {k : α → Prop} (hr : r < xs.length) (hk : ∀ x ∈ xs, k x) : atL xs (r : Int) k := by
  rw [atL_nat (List.getElem?_eq_getElem hr)]
  exact hk _ (List.getElem_mem hr)
theorem sp_drawnZ {P : Prg} (p : Hd P F__law_drawn) {k i : Nat} {z : Int} {s : Dr} {h : Hs} {Q : Tq} {W : Tw} (hs : s.ok) (hi : h[i]? = some s.to) (hn : 0 < z ∧ z < 2 ^ 64) (q : ∀ (r : Nat) (s' : Dr), (r : Int) < z → s'.ok → s'.ns = s.ns → (h.set i s'.to)[i]? = some s'.to → Q (.int (r : Nat)) (h.set i s'.to)) : trun P (k + 1) "" "_law_drawn" [.obj i, .int z] h Q W := by
  obtain ⟨n, rfl⟩ : ∃ n : Nat, z = n := ⟨z.toNat, by omega⟩
  exact sp_drawn p hs hi (by omega) fun r s' a b c => q r s' (by omega) b c (set_get hi)
/-- what is told when only one thing was changed -/
theorem gc3 {v : Tv} {h g : Hs} {Q : Tq} {i : Nat} {o : To} (c : v.clos h.length = true) (co : o.clos h.length) (q : Q v (h.set i o)) : gcQ h Q v (h.set i o ++ g) := by
  refine .inr ⟨h.set i o, ⟨⟨g, rfl⟩, by simp, fun j u e => ?_⟩, by simpa using c, q⟩
  rw [List.getElem?_set] at e
  by_cases e1 : i = j
  · subst e1
    rw [if_pos rfl] at e
    split at e
    · cases e; exact .inr (by simpa using co)
    · cases e
  · rw [if_neg e1] at e; exact .inl e
theorem Dr.clos {s : Dr} {n : Nat} : s.to.clos n := by
  simp only [Dr.to, To.clos, Tv.closL, Tv.clos, Bool.and_self]
theorem clos_ties {n : Nat} {ts : List (Nat × Nat)} : (Tv.lst (ts.map Enc.tv)).clos n = true := by
  simp only [Tv.clos]
  exact closL_map (fun a => by simp only [Enc.tv, Tv.clos, Tv.closL, Bool.and_self]) _
theorem tRng_natZ {z : Int} (n : Nat) {K : List Tv → Prop} (e : z = n) (hn : n < 2 ^ 60) (k : K ((List.range n).map fun k : Nat => .int (k : Nat))) : tRng 0 z K := by
  subst e; exact tRng_nat hn k
theorem cutT_map {α β : Type} {f : α → β} {xs : List α} {lo hi : Option Int} : cutL (xs.map f) lo hi = (cutL xs lo hi).map f := by
  unfold cutL
  rw [List.length_map, List.map_take, List.map_drop]
theorem cutL_len {α : Type} (xs : List α) (lo hi : Option Int) : (cutL xs lo hi).length ≤ xs.length := by
  unfold cutL
  rw [List.length_take, List.length_drop]; omega
theorem cutL_mem {α : Type} {xs : List α} {lo hi : Option Int} {x : α} (h : x ∈ cutL xs lo hi) : x ∈ xs := List.mem_of_mem_drop (List.mem_of_mem_take h)
def tiesOk (n : Nat) (ts : List (Nat × Nat)) : Prop := ∀ t ∈ ts, t.1 < n ∧ t.2 < n ∧ t.1 ≠ t.2
theorem sp_ties {P : Prg} (p : Hd P F__law_ties) (p1 : Hd P F__law_drawn) {k i n : Nat} {s : Dr} {h : Hs} {Q : Tq} {W : Tw} (hs : s.ok) (hi : h[i]? = some s.to) (hn : 2 ≤ n ∧ n ≤ 8)
    (q : ∀ (ts : List (Nat × Nat)) (s' : Dr), tiesOk n ts → ts.length ≤ 100 → s'.ok → s'.ns = s.ns → Q (.lst (ts.map Enc.tv)) (h.set i s'.to)) : trun P (k + 2) "" "_law_ties" [.obj i, .int n] h Q W := by
  refine call_of p rfl rfl rfl ?_
  unfold F__law_ties
  decreasing_trivial_pre_omega
  have hil := (List.getElem?_eq_some_iff.mp hi).1
  refine ⟨.inl (by decide), ?_⟩
  refine sp_drawnZ (z := 3) p1 (s := s) (h := h ++ [.lst []]) hs (by rw [List.getElem?_append_left hil]; exact hi) (by omega) fun r s1 hr o1 n1 g1 => ?_
  refine atL_all (by simp; omega) fun x hx => ?_
  obtain ⟨m, rfl, hm⟩ : ∃ m : Int, x = .int m ∧ 0 < m ∧ m < 30 := by
    simp at hx
    rcases hx with rfl | rfl | rfl
    · exact ⟨_, rfl, by omega, by omega⟩
    · exact ⟨_, rfl, by omega, by omega⟩
    · exact ⟨_, rfl, by omega, by omega⟩
  decreasing_trivial_pre_omega
  have e1 : (h ++ [To.lst []]).set i s1.to = h.set i s1.to ++ [.lst []] := List.set_append_left _ _ hil
  rw [e1] at g1 ⊢
  refine sp_drawnZ p1 (s := s1) o1 g1 (by omega) fun r2 s2 hr2 o2 n2 g2 => ?_
  decreasing_trivial_pre_omega
  have e2 : (h.set i s1.to ++ [To.lst []]).set i s2.to = h.set i s2.to ++ [.lst []] := by rw [List.set_append_left _ _ (by simpa using hil), List.set_set]
  rw [e2]
  refine tRng_nat (by omega) ?_
  refine tFor_num (e := fun k : Nat => .int (k : Nat)) (its := List.range r2) (fun j τ h' => ∃ (ts : List (Nat × Nat)) (s' : Dr) (x3 x4 x5 : Option Tv), τ = [some (.obj i), some (.int n), some (.obj h.length), x3, x4, x5, none] ∧ h' = h.set i s'.to ++ [.lst (ts.map Enc.tv)] ∧ s'.ok ∧ s'.ns = s.ns ∧ tiesOk n ts ∧ ts.length = j) ⟨[], s2, none, none, none, by simp, by simp, o2, by rw [n2, n1], (fun t ht => by cases ht), rfl⟩ (fun τ h' I => ?_) (fun j x τ h' K hj I hk => ?_)
  · obtain ⟨ts, s', x3, x4, x5, rfl, rfl, o3, n3, tk, tl⟩ := I
    rw [List.length_range] at tl
    decreasing_trivial_pre_omega
    refine sp_drawnZ (z := 3) p1 (s := s') (h := h.set i s'.to ++ [.lst (ts.map Enc.tv)]) o3 (by rw [List.getElem?_append_left (by simpa using hil)]; exact set_get hi) (by omega) fun r4 s4 hr4 o4 n4 g4 => ?_
    have e4 : (h.set i s'.to ++ [To.lst (ts.map Enc.tv)]).set i s4.to = h.set i s4.to ++ [.lst (ts.map Enc.tv)] := by rw [List.set_append_left _ _ (by simpa using hil), List.set_set]
    rw [e4] at g4 ⊢
    decreasing_trivial_pre_omega
    split
    · refine tRng_natZ (n - 1) (by omega) (by omega) ?_
      refine tItems_pure (e := fun k : Nat => .int (k : Nat)) (p := fun _ => true) (f := fun k : Nat => Enc.tv (k, k + 1)) (List.range (n - 1)) [] (fun x hx K1 K2 k1 k2 => ?_) (by simp [szLine]; omega) ?_
      · decreasing_trivial_pre_omega
        exact k1 rfl
      · rw [List.nil_append, List.filter_eq_self.mpr fun _ _ => rfl]
        refine sp_drawnZ (z := 2) p1 (s := s4) (h := h.set i s4.to ++ [.lst (ts.map Enc.tv)]) o4 g4 (by omega) fun r5 s5 hr5 o5 n5 g5 => ?_
        have e6 : (h.set i s4.to ++ [To.lst (ts.map Enc.tv)]).set i s5.to = h.set i s5.to ++ [.lst (ts.map Enc.tv)] := by rw [List.set_append_left _ _ (by simpa using hil), List.set_set]
        rw [e6]
        decreasing_trivial_pre_omega
        unfold tSlc
        decreasing_trivial_pre_omega
        have e7 : (List.range (n - 1)).map (fun k : Nat => (Enc.tv (k, k + 1) : Tv)) = ((List.range (n - 1)).map fun k : Nat => (k, k + 1)).map Enc.tv := by rw [List.map_map]; rfl
        rw [e7, cutT_map, add_ol (vs := ts.map Enc.tv) (by simp)]
        have hc := cutL_len ((List.range (n - 1)).map fun k : Nat => (k, k + 1)) (some (r5 : Int)) none
        rw [List.length_map, List.length_range] at hc
        refine ⟨by rw [List.length_map, List.length_map]; simp only [szLine]; omega, ?_⟩
        decreasing_trivial_pre_omega
        rw [frz_obj (vs := ts.map Enc.tv ++ (cutL ((List.range (n - 1)).map fun k : Nat => (k, k + 1)) (some (r5 : Int)) none).map Enc.tv) (by simp), ← List.map_append]
        have e8 : ∀ o o', (h.set i s5.to ++ [To.lst (ts.map Enc.tv)] ++ [o]).set (h.set i s5.to ++ [To.lst (ts.map Enc.tv)]).length o' = h.set i s5.to ++ [To.lst (ts.map Enc.tv), o'] := fun o o' => by rw [List.set_append_right _ _ (by simp)]; simp
        rw [e8]
        refine gc3 clos_ties Dr.clos (q _ s5 (fun t ht => ?_) ?_ o5 (by rw [n5, n4, n3]))
        · rcases List.mem_append.mp ht with ht | ht
          · exact tk t ht
          · have := cutL_mem ht
            obtain ⟨z, hz, rfl⟩ := List.mem_map.mp this
            have := List.mem_range.mp hz
            exact ⟨by simp; omega, by simp; omega, by simp⟩
        · rw [List.length_append]; omega
    · rw [frz_obj (vs := ts.map Enc.tv) (by simp)]
      have e5 : (h.set i s4.to ++ [To.lst (ts.map Enc.tv)]).set h.length To.dead = h.set i s4.to ++ [.dead] := by rw [List.set_append_right _ _ (by simp)]; simp
      rw [e5]
      exact gc3 clos_ties Dr.clos (q ts s4 tk (by omega) o4 (by rw [n4, n3]))
  · obtain ⟨ts, s', x3, x4, x5, rfl, rfl, o3, n3, tk, tl⟩ := I
    decreasing_trivial_pre_omega
    have ap : ∀ (s'' : Dr), (h.set i s''.to ++ [To.lst (ts.map Enc.tv)])[i]? = some s''.to := fun s'' => by rw [List.getElem?_append_left (by simpa using hil)]; exact set_get hi
    have es : ∀ (s'' s3 : Dr), (h.set i s''.to ++ [To.lst (ts.map Enc.tv)]).set i s3.to = h.set i s3.to ++ [.lst (ts.map Enc.tv)] := fun s'' s3 => by rw [List.set_append_left _ _ (by simpa using hil), List.set_set]
    refine sp_drawnZ (z := n) p1 (s := s') (h := h.set i s'.to ++ [.lst (ts.map Enc.tv)]) o3 (ap s') (by omega) fun a s4 ha o4 n4 g4 => ?_
    rw [es]
    decreasing_trivial_pre_omega
    refine sp_drawnZ (z := n - 1) p1 (s := s4) (h := h.set i s4.to ++ [.lst (ts.map Enc.tv)]) o4 (ap s4) (by omega) fun b s5 hb o5 n5 g5 => ?_
    rw [es]
    decreasing_trivial_pre_omega
    refine ⟨by omega, by rw [isLs_obj (vs := ts.map Enc.tv) (by simp)]; trivial, ?_⟩
    rw [lm_app (vs := ts.map Enc.tv) (by simp)]
    have e9 : (h.set i s5.to ++ [To.lst (ts.map Enc.tv)]).set h.length (.lst (ts.map Enc.tv ++ [Tv.tup [.int (a : Nat), .int (((a : Nat) + 1 + (b : Nat) : Int) % (n : Nat))]])) = h.set i s5.to ++ [.lst ((ts ++ [(a, (a + 1 + b) % n)]).map Enc.tv)] := by
      rw [List.set_append_right _ _ (by simp)]
      simp [Enc.tv]
    rw [e9]
    have hjl := (List.getElem?_eq_some_iff.mp hj).1
    rw [List.length_range] at hjl
    refine ⟨by rw [List.length_map]; simp only [szLine]; omega, hk _ _ ⟨_, s5, _, _, _, rfl, rfl, o5, by rw [n5, n4, n3], fun t ht => ?_, by simp [tl]⟩⟩
    rcases List.mem_append.mp ht with ht | ht
    · exact tk t ht
    · simp at ht
      subst ht
      refine ⟨by simp; omega, Nat.mod_lt _ (by omega), ?_⟩
      show a ≠ (a + 1 + b) % n
      rcases Nat.lt_or_ge (a + 1 + b) n with hl | hl
      · rw [Nat.mod_eq_of_lt hl]; omega
      · rw [Nat.mod_eq_sub_mod hl, Nat.mod_eq_of_lt (by omega)]; omega
theorem clos_rows {m : Nat} {R : List (List Nat)} : (Tv.lst (R.map Enc.tv)).clos m = true := by
  simp only [Tv.clos]
  exact closL_map (fun a => by simp only [Enc.tv, Tv.clos]; exact closL_map (fun b => by simp only [Tv.clos]) _) _
/-- the neighbours, by the law -/
theorem sp_near {P : Prg} (p : Hd P F__law_near) {k n : Nat} {ts : List (Nat × Nat)} {h : Hs} {Q : Tq} {W : Tw} (hn : n ≤ 60)
    (q : Q (.obj h.length) (h ++ [.lst ((List.range n).map fun a => Enc.tv (nearOf n (adj ts) a))])) : trun P (k + 1) "" "_law_near" [.int n, .lst (ts.map Enc.tv)] h Q W := by
  refine call_of p rfl rfl rfl ?_
  unfold F__law_near
  decreasing_trivial_pre_omega
  refine tRng_natZ n rfl (by omega) ?_
  refine tItems_pure (e := fun k : Nat => .int (k : Nat)) (p := fun _ => true) (f := fun a => Enc.tv (nearOf n (adj ts) a)) (List.range n) [] (fun a ha K1 K2 k1 k2 => ?_) (by simp [szLine]; omega) ?_
  · decreasing_trivial_pre_omega
    refine tRng_natZ n rfl (by omega) ?_
    refine tItems_pure (e := fun k : Nat => .int (k : Nat)) (p := adj ts a) (f := fun a => Enc.tv a) (List.range n) [] (fun b hb K3 K4 k3 k4 => ?_) (by simp [szLine]; omega) ?_
    · decreasing_trivial_pre_omega
      refine tInL_enc (a := ((a, b) : Nat × Nat)) (xs := ts) (by decide) ?_
      by_cases e1 : (a, b) ∈ ts
      · simp only [e1, decide_true, if_true]
        exact k3 (by simp [adj, e1])
      · simp only [e1, decide_false, Bool.false_eq_true, if_false]
        refine tInL_enc (a := ((b, a) : Nat × Nat)) (xs := ts) (by decide) ?_
        by_cases e2 : (b, a) ∈ ts
        · simp only [e2, decide_true, if_true]
          exact k3 (by simp [adj, e2])
        · simp only [e2, decide_false, Bool.false_eq_true, if_false]
          exact k4 (by simp [adj, e1, e2])
    · rw [List.nil_append]
      exact k1 rfl
  · rw [List.nil_append, List.filter_eq_self.mpr fun _ _ => rfl]
    exact gc0 q
theorem T.okL_map {α : Type} {f : α → T} (e : ∀ a, (f a).ok) : ∀ l : List α, T.okL (l.map f)
  | [] => trivial
  | a :: l => ⟨e a, T.okL_map e l⟩
theorem trT_obj {h : Hs} {i n : Nat} {vs : List Tv} (e : h[i]? = some (.lst vs)) : trT h (n + 1) (.obj i) = trT h (n + 1) (.lst vs) := by simp only [trT, e]
end Nf
/-! NfV09: k09: hand-ons shown -/
set_option linter.all false
set_option maxHeartbeats 0
set_option maxRecDepth 100000
namespace Nf
local macro_rules | `(tactic| decreasing_trivial_pre_omega) => `(tactic| ((try simp only [tSs_n, tS, tE, tEs, tEo, tI, asTI_int, asTB_bl, asTO_none, asTO_int, getT_0, getT_s, optB_some, tIsi_ty, tIsi_ty2, ty_non, ty_bl, ty_int, ty_str, ty_tup, ty_lst, ty_frz, bi_len, bi_int_i, bi_int_b, bi_str, bi_list, bi_tuple, bi_sorted, bi_min2, bi_max2, bi_isi, len_str, len_tup, len_lst, len_frz, list_lst, list_tup, list_frz, al_f, al_t, cmp_eq, cmp_ne, cmp_lt, cmp_le, cmp_gt, cmp_ge, cmp_inn, cmp_nin, cmp_is, cmp_isn, eq_int, eq_str, in_lst, bin_add, bin_sub, bin_mul, bin_rep, bin_fdiv, bin_mod, bin_pow, add_int, add_str, add_tup, add_ll, ix_tup, ix_lst, ix_frz, atL_0, Function.comp, atL_1, atL_2, atL_3, tg_v, tg_t, over_tup, over_lst, over_frz, tSetNs, tWipe, List.map_cons, List.map_nil, List.cons_append, List.nil_append, List.replicate_zero, List.replicate_succ, List.append_nil, List.set_cons_zero, List.set_cons_succ, List.set_nil, List.length_cons, List.length_nil, Nat.sub_self, Nat.reduceAdd, Nat.reduceSub, Nat.add_one_sub_one, Bool.not_true, Bool.not_false, Bool.or_false, Bool.or_true, Bool.false_or, Bool.true_or, if_true, if_false, Bool.false_eq_true, reduceIte, decide_true, decide_false, List.mem_cons, List.not_mem_nil, true_or, or_true, false_or, or_false, true_and, and_true, and_self, String.reduceEq, decide_eq_true_eq, not_true, not_false_iff, eq_self_iff_true, isNon_non, isNon_int, isNon_o, Nat.zero_le, sz1, sz2, sz3, sz4, Int.cast_ofNat_Int, Int.reduceEq, Int.reduceLT, Int.reduceLE, Int.reduceAdd, Int.reduceSub, Int.reduceNeg]); (try rw [tSs_c]); (try simp only [tSs_n, tS, tE, tEs, tEo, tI, asTI_int, asTB_bl, asTO_none, asTO_int, getT_0, getT_s, optB_some, tIsi_ty, tIsi_ty2, ty_non, ty_bl, ty_int, ty_str, ty_tup, ty_lst, ty_frz, bi_len, bi_int_i, bi_int_b, bi_str, bi_list, bi_tuple, bi_sorted, bi_min2, bi_max2, bi_isi, len_str, len_tup, len_lst, len_frz, list_lst, list_tup, list_frz, al_f, al_t, cmp_eq, cmp_ne, cmp_lt, cmp_le, cmp_gt, cmp_ge, cmp_inn, cmp_nin, cmp_is, cmp_isn, eq_int, eq_str, in_lst, bin_add, bin_sub, bin_mul, bin_rep, bin_fdiv, bin_mod, bin_pow, add_int, add_str, add_tup, add_ll, ix_tup, ix_lst, ix_frz, atL_0, Function.comp, atL_1, atL_2, atL_3, tg_v, tg_t, over_tup, over_lst, over_frz, tSetNs, tWipe, List.map_cons, List.map_nil, List.cons_append, List.nil_append, List.replicate_zero, List.replicate_succ, List.append_nil, List.set_cons_zero, List.set_cons_succ, List.set_nil, List.length_cons, List.length_nil, Nat.sub_self, Nat.reduceAdd, Nat.reduceSub, Nat.add_one_sub_one, Bool.not_true, Bool.not_false, Bool.or_false, Bool.or_true, Bool.false_or, Bool.true_or, if_true, if_false, Bool.false_eq_true, reduceIte, decide_true, decide_false, List.mem_cons, List.not_mem_nil, true_or, or_true, false_or, or_false, true_and, and_true, and_self, String.reduceEq, decide_eq_true_eq, not_true, not_false_iff, eq_self_iff_true, isNon_non, isNon_int, isNon_o, Nat.zero_le, sz1, sz2, sz3, sz4, Int.cast_ofNat_Int, Int.reduceEq, Int.reduceLT, Int.reduceLE, Int.reduceAdd, Int.reduceSub, Int.reduceNeg])))
local macro_rules | `(tactic| exists $es,*) => `(tactic| (try simp only [tSs_n, tS, tE, tEs, tEo, tI, asTI_int, asTB_bl, asTO_none, asTO_int, getT_0, getT_s, optB_some, tIsi_ty, tIsi_ty2, ty_non, ty_bl, ty_int, ty_str, ty_tup, ty_lst, ty_frz, bi_len, bi_int_i, bi_int_b, bi_str, bi_list, bi_tuple, bi_sorted, bi_min2, bi_max2, bi_isi, len_str, len_tup, len_lst, len_frz, list_lst, list_tup, list_frz, al_f, al_t, cmp_eq, cmp_ne, cmp_lt, cmp_le, cmp_gt, cmp_ge, cmp_inn, cmp_nin, cmp_is, cmp_isn, eq_int, eq_str, in_lst, bin_add, bin_sub, bin_mul, bin_rep, bin_fdiv, bin_mod, bin_pow, add_int, add_str, add_tup, add_ll, ix_tup, ix_lst, ix_frz, atL_0, Function.comp, atL_1, atL_2, atL_3, tg_v, tg_t, over_tup, over_lst, over_frz, tSetNs, tWipe, List.map_cons, List.map_nil, List.cons_append, List.nil_append, List.replicate_zero, List.replicate_succ, List.append_nil, List.set_cons_zero, List.set_cons_succ, List.set_nil, List.length_cons, List.length_nil, Nat.sub_self, Nat.reduceAdd, Nat.reduceSub, Nat.add_one_sub_one, Bool.not_true, Bool.not_false, Bool.or_false, Bool.or_true, Bool.false_or, Bool.true_or, if_true, if_false, Bool.false_eq_true, reduceIte, decide_true, decide_false, List.mem_cons, List.not_mem_nil, true_or, or_true, false_or, or_false, true_and, and_true, and_self, String.reduceEq, decide_eq_true_eq, not_true, not_false_iff, eq_self_iff_true, isNon_non, isNon_int, isNon_o, Nat.zero_le, sz1, sz2, sz3, sz4, Int.cast_ofNat_Int, Int.reduceEq, Int.reduceLT, Int.reduceLE, Int.reduceAdd, Int.reduceSub, Int.reduceNeg, $[$es:term],*]))
/-- whether hand-ons do it -/
def doesB (N : Nat → List Nat) (ws : List Nat) : List Nat → List (Nat × Nat) → Bool
  | kn, [] => decide (ws.filter (fun w => !decide (w ∈ kn)) = [])
  | kn, (a, b) :: r => if a ∉ kn ∨ b ∈ kn ∨ b ∉ N a then false else doesB N ws (kn ++ [b]) r
def okRow (n : Nat) (r : Nat × Nat) : Prop := r.1 < n ∧ r.2 < n
section
variable {P : Prg} {k n : Nat} {h : Hs} {Q : Tq} {W : Tw} {ts : List (Nat × Nat)} {has ws : List Nat} {rs : List (Nat × Nat)} {A : Nat → Nat → Bool}
theorem sp_need_some (p : Hd P F_need_some) (p1 : Hd P F_need_house) (p2 : Hd P F_is_number) (hx : ∀ x ∈ has, x < n) (q : Q .non h) : trun P (k + 3) "" "need_some" [.int n, .lst (has.map Enc.tv)] h Q W := by
  refine call_of p rfl rfl rfl ?_
  unfold F_need_some
  decreasing_trivial_pre_omega
  refine tFor_num (e := Enc.tv) (its := has) (fun _ τ h' => (∃ x, τ = [some (.int n), some (.lst (has.map Enc.tv)), x]) ∧ h' = h) ⟨⟨_, rfl⟩, rfl⟩ (fun τ h' i => ?_) (fun m t τ h' K hm i hk => ?_)
  · rw [i.2]; exact gc0 q
  · obtain ⟨⟨x, rfl⟩, rfl⟩ := i
    have := hx t (List.mem_of_getElem? hm)
    have et : (Enc.tv t : Tv) = .int (t : Nat) := rfl
    rw [et]
    decreasing_trivial_pre_omega
    exact sp_need_house p1 p2 (by omega) (hk _ _ ⟨⟨_, rfl⟩, rfl⟩)
/-- the going, as both write it -/
theorem sp_does (p : Hd P F__law_does_v1) (hr : ∀ r ∈ rs, okRow n r) (hl : has.length + rs.length < 1000) (hw : ws.length < 1000) (q : Q (.bl (doesB (nearOf n A) ws has rs)) h) :
    trun P (k + 1) "" "_law_does" [.lst ((List.range n).map fun a => Enc.tv (nearOf n A a)), .lst (has.map Enc.tv), .lst (ws.map Enc.tv), .lst (rs.map Enc.tv)] h Q W := by
  refine call_of p rfl rfl rfl ?_
  unfold F__law_does_v1
  decreasing_trivial_pre_omega
  refine tFor_inv (e := Enc.tv) (fun xs τ h' => ∃ (kn : List Nat) (x5 x6 : Option Tv), τ = [some (.lst ((List.range n).map fun a => Enc.tv (nearOf n A a))), some (.lst (has.map Enc.tv)), some (.lst (ws.map Enc.tv)), some (.lst (rs.map Enc.tv)), some (.obj h.length), x5, x6, none] ∧
    h' = h ++ [.lst (kn.map Enc.tv)] ∧ (∀ r ∈ xs, okRow n r) ∧ kn.length + xs.length < 1000 ∧ doesB (nearOf n A) ws kn xs = doesB (nearOf n A) ws has rs) (fun τ h' I => ?_) (fun r xs τ h' K I hk => ?_) rs _ _ ⟨has, none, none, rfl, rfl, hr, hl, rfl⟩
  · obtain ⟨kn, x5, x6, rfl, rfl, _, _, e⟩ := I
    decreasing_trivial_pre_omega
    refine tItems_pure (p := fun w => !decide (w ∈ kn)) (f := Enc.tv) ws [] (fun y hy K3 K4 k3 k4 => ?_) (by simp [szLine]; omega) ?_
    · decreasing_trivial_pre_omega
      rw [in_obj (vs := kn.map Enc.tv) (by simp)]
      refine tInL_enc (a := y) (xs := kn) (by decide) ?_
      by_cases e3 : y ∈ kn
      · simp only [e3, decide_true, Bool.not_true, Bool.false_eq_true, if_false]
        exact k4 (by simp [e3])
      · simp only [e3, decide_false, Bool.not_false, if_true]
        exact k3 (by simp [e3])
    · rw [List.nil_append]
      refine tEq_enc (a := ws.filter fun w => !decide (w ∈ kn)) (b := ([] : List Nat)) (by decide) ?_
      refine gc1 rfl ?_
      rw [← e] at q
      exact q
  · obtain ⟨kn, x5, x6, rfl, rfl, h1, h2, e⟩ := I
    obtain ⟨a, b⟩ := r
    have hab := h1 (a, b) List.mem_cons_self
    have et : (Enc.tv (a, b) : Tv) = .tup [.int (a : Nat), .int (b : Nat)] := rfl
    rw [et]
    decreasing_trivial_pre_omega
    rw [in_obj (vs := kn.map Enc.tv) (by simp)]
    refine tInL_enc (a := a) (xs := kn) (by decide) ?_
    rw [show doesB (nearOf n A) ws kn ((a, b) :: xs) = if a ∉ kn ∨ b ∈ kn ∨ b ∉ nearOf n A a then false else doesB (nearOf n A) ws (kn ++ [b]) xs from rfl] at e
    by_cases ha : a ∈ kn
    · simp only [ha, decide_true, Bool.not_true, Bool.false_eq_true, if_false]
      rw [in_obj (vs := kn.map Enc.tv) (by simp)]
      refine tInL_enc (a := b) (xs := kn) (by decide) ?_
      by_cases hb : b ∈ kn
      · simp only [hb, decide_true, if_true]
        rw [if_pos (.inr (.inl hb))] at e
        exact gc1 rfl (by rw [← e] at q; exact q)
      · simp only [hb, decide_false, Bool.false_eq_true, if_false]
        rw [atL_nat (v := .lst ((nearOf n A a).map Enc.tv)) (by rw [List.getElem?_map, List.getElem?_range hab.1]; rfl)]
        decreasing_trivial_pre_omega
        refine tInL_enc (a := b) (xs := nearOf n A a) (by decide) ?_
        by_cases hn : b ∈ nearOf n A a
        · simp only [hn, decide_true, Bool.not_true, Bool.false_eq_true, if_false]
          decreasing_trivial_pre_omega
          rw [isLs_obj (vs := kn.map Enc.tv) (by simp), lm_app (vs := kn.map Enc.tv) (by simp)]
          rw [if_neg (by simp [ha, hb, hn])] at e
          simp only [List.length_cons] at h2
          refine ⟨trivial, by simp [szLine]; omega, hk _ _ ⟨kn ++ [b], _, _, rfl, by simp; rfl, fun r hr => h1 r (List.mem_cons_of_mem _ hr), by simp; omega, e⟩⟩
        · simp only [hn, decide_false, Bool.not_false, if_true]
          rw [if_pos (.inr (.inr hn))] at e
          exact gc1 rfl (by rw [← e] at q; exact q)
    · simp only [ha, decide_false, Bool.not_false, if_true]
      rw [if_pos (.inl ha)] at e
      exact gc1 rfl (by rw [← e] at q; exact q)
/-- a row of shows's that is none -/
def oddRow (n : Nat) (v : Tv) : Prop := ∃ vs, v = .tup vs ∧ (vs.length ≠ 2 ∨ (∃ a b : Int, vs = [.int a, .int b] ∧ ¬ (0 ≤ a ∧ a < n ∧ 0 ≤ b ∧ b < n)) ∨ ∃ b : Int, vs = [.tup [.int 0], .int b])
/-- the look at a row: all told -/
def rowLook : MSs := (.c (.ife (.or_ (.not_ (.bi .isinst (.c (.var 8) (.c (.lit (.ty "tuple")) .n)))) (.cmp .ne (.bi .len (.c (.var 8) .n)) (.lit (.int 2)))) (.c (.raise1 "BadRow" "number" (.var 7)) .n) .n) (.c (.ife (.cmp .ne (.lc (.var 12) (.v 12) (.over (.var 8)) (.s (.or_ (.not_ (.bi .isinst (.c (.var 12) (.c (.lit (.ty "int")) .n)))) (.or_ (.bi .isinst (.c (.var 12) (.c (.lit (.ty "bool")) .n))) (.not_ (.cmp2 .le .lt (.lit (.int 0)) (.var 12) (.var 0)))))) [12]) (.lst .n)) (.c (.raise1 "BadRow" "number" (.var 7)) .n) .n) .n))
theorem look_ints {j : Nat} {x9 x10 x11 x12 : Option Tv} {v1 v2 v3 v4 v5 v6 : Tv} {K : Tst → Hs → Prop} {E : Tq} {a b : Int}
    (h1 : 0 ≤ a ∧ a < n ∧ 0 ≤ b ∧ b < n → K [some (.int (n : Nat)), some v1, some v2, some v3, some v4, some v5, some v6, some (.int (j : Nat)), some (.tup [.int a, .int b]), x9, x10, x11, x12] h)
    (h2 : ¬ (0 ≤ a ∧ a < n ∧ 0 ≤ b ∧ b < n) → W ⟨"BadRow", some ("number", .int (j : Nat))⟩ h) :
    tSs (trun P k) W rowLook ⟨K, E⟩ [some (.int (n : Nat)), some v1, some v2, some v3, some v4, some v5, some v6, some (.int (j : Nat)), some (.tup [.int a, .int b]), x9, x10, x11, x12] h := by
  unfold rowLook
  decreasing_trivial_pre_omega
  decreasing_trivial_pre_omega
  refine tItems_pure (e := Tv.int) (p := fun i => !decide (0 ≤ i ∧ i < (n : Int))) (f := Tv.int) [a, b] [] (fun y hy K3 K4 k3 k4 => ?_) (by simp [szLine]) ?_
  · decreasing_trivial_pre_omega
    by_cases y1 : 0 ≤ y
    · rw [if_pos y1]
      by_cases y2 : y < (n : Int)
      · simp only [y2, decide_true, Bool.not_true, Bool.false_eq_true, if_false]
        exact k4 (by simp [y1, y2])
      · simp only [y2, decide_false, Bool.not_false, if_true]
        exact k3 (by simp [y2])
    · rw [if_neg y1]
      exact k3 (by simp [y1])
  · rw [List.nil_append]
    refine tEq_enc (a := [a, b].filter fun i => !decide (0 ≤ i ∧ i < (n : Int))) (b := ([] : List Int)) (by decide) ?_
    by_cases hg : 0 ≤ a ∧ a < n ∧ 0 ≤ b ∧ b < n
    · have : ([a, b].filter fun i => !decide (0 ≤ i ∧ i < (n : Int))) = [] := by simp [hg]
      rw [this]
      simp only [decide_true, Bool.not_true, Bool.false_eq_true, if_false]
      exact h1 hg
    · have : ([a, b].filter fun i => !decide (0 ≤ i ∧ i < (n : Int))) ≠ [] := by
        intro z
        simp only [List.filter_cons, List.filter_nil] at z
        split at z
        · cases z
        · split at z
          · cases z
          · rename_i q1 q2
            simp at q1 q2
            omega
      simp only [this, decide_false, Bool.not_false, if_true]
      decreasing_trivial_pre_omega
      exact h2 hg
theorem look_odd {j : Nat} {x9 x10 x11 x12 : Option Tv} {v v1 v2 v3 v4 v5 v6 : Tv} {K : Tst → Hs → Prop} {E : Tq} (ho : oddRow n v)
    (h2 : W ⟨"BadRow", some ("number", .int (j : Nat))⟩ h) :
    tSs (trun P k) W rowLook ⟨K, E⟩ [some (.int (n : Nat)), some v1, some v2, some v3, some v4, some v5, some v6, some (.int (j : Nat)), some v, x9, x10, x11, x12] h := by
  obtain ⟨vs, rfl, h3 | ⟨a, b, rfl, h3⟩ | ⟨b, rfl⟩⟩ := ho
  · unfold rowLook
    decreasing_trivial_pre_omega
    rw [if_pos (by simpa using fun z : (vs.length : Int) = 2 => h3 (by omega))]
    decreasing_trivial_pre_omega
    exact h2
  · exact look_ints (fun z => absurd z h3) fun _ => h2
  · unfold rowLook
    decreasing_trivial_pre_omega
    decreasing_trivial_pre_omega
    have cons : ∀ {tg : Tv → (Tst → Prop) → Prop} {ts : Tst → Hs → (Bool → Hs → Prop) → Prop} {el : Tst → Hs → Tq → Prop} {K : List Tv → Hs → Prop} {x : Tv} {xs acc : List Tv} {h : Hs},
        (tg x fun δ => ts δ h fun b h1 => if b then el δ h1 fun d h2 => acc.length < szLine ∧ tItems tg ts el K xs (acc ++ [d]) h2 else tItems tg ts el K xs acc h1) → tItems tg ts el K (x :: xs) acc h := fun h => h
    have fin : ∀ {l : List Int} {k : Bool → Prop}, k false → tEq h (.lst (.tup [.int 0] :: l.map Tv.int)) (.lst []) k := fun {l k} z => by
      have e1 : trT h deep (.lst (.tup [.int 0] :: l.map Tv.int)) = some (.lst (.tup [.int 0] :: l.map T.int)) := by
        have : ∀ l : List Int, optL ((l.map Tv.int).map (trT h 11)) = some (l.map T.int) := fun l => trT_map (fun a => by simp [trT]) l
        show (optL ((Tv.tup [.int 0] :: l.map Tv.int).map (trT h 11))).map T.lst = _
        rw [List.map_cons]
        have e2 : trT h 11 (Tv.tup [.int 0]) = some (.tup [.int 0]) := rfl
        rw [e2]
        simp only [optL, this, Option.map_some]
      unfold tEq
      rw [e1]
      exact z
    have nil : ∀ {tg : Tv → (Tst → Prop) → Prop} {ts : Tst → Hs → (Bool → Hs → Prop) → Prop} {el : Tst → Hs → Tq → Prop} {K : List Tv → Hs → Prop} {acc : List Tv} {h : Hs}, K acc h → tItems tg ts el K [] acc h := fun h => h
    refine cons ?_
    decreasing_trivial_pre_omega
    refine ⟨by simp [szLine], cons ?_⟩
    decreasing_trivial_pre_omega
    by_cases y1 : 0 ≤ b
    · rw [if_pos y1]
      by_cases y2 : b < (n : Int)
      · simp only [y2, decide_true, Bool.not_true, Bool.false_eq_true, if_false]
        refine nil (fin (l := []) ?_)
        decreasing_trivial_pre_omega
        exact h2
      · simp only [y2, decide_false, Bool.not_false, if_true]
        refine ⟨by simp [szLine], nil (fin (l := [b]) ?_)⟩
        decreasing_trivial_pre_omega
        exact h2
    · rw [if_neg y1]
      refine ⟨by simp [szLine], nil (fin (l := [b]) ?_)⟩
      decreasing_trivial_pre_omega
      exact h2
/-- shows -/
theorem sp_shows (p : Hd P F_shows) (p1 : Hd P F_is_number) (p2 : Hd P F_need_many) (p3 : Hd P F_need_house) (p4 : Hd P F_need_ties) (p5 : Hd P F_need_some) (p6 : Hd P F_beside) (hn : 2 ≤ n ∧ n ≤ 8) (ht : tiesOk n ts) (hh : ∀ x ∈ has, x < n) (hw : ∀ x ∈ ws, x < n) (hr : ∀ r ∈ rs, okRow n r) (hl : has.length + rs.length < 1000) (hwl : ws.length < 1000)
    {es : List Tv} (hes : es = [] ∧ Q (.bl (doesB (nearOf n (adj ts)) ws has rs)) h ∨ ∃ o r, es = o :: r ∧ oddRow n o ∧ W ⟨"BadRow", some ("number", .int rs.length)⟩ h) (hle : es.length < 1000) :
    trun P (k + 4) "" "shows" [.int n, .lst (ts.map Enc.tv), .lst (has.map Enc.tv), .lst (ws.map Enc.tv), .lst (rs.map Enc.tv ++ es)] h Q W := by
  refine call_of p rfl rfl rfl ?_
  unfold F_shows
  decreasing_trivial_pre_omega
  refine sp_need_ties p4 p1 p2 hn ht ?_
  decreasing_trivial_pre_omega
  refine sp_need_some p5 p3 p1 hh ?_
  decreasing_trivial_pre_omega
  refine sp_need_some p5 p3 p1 hw ?_
  decreasing_trivial_pre_omega
  refine sp_beside p6 (by omega) ht ?_
  rw [tSs_c]
  exists tS
  have hlen : (rs.map Enc.tv ++ es : List Tv).length = rs.length + es.length := by simp
  refine tFor_num (e := fun k : Nat => Tv.tup [.int (k : Nat), (rs.map Enc.tv ++ es).getD k .non]) (its := List.range (rs.map Enc.tv ++ es).length) (fun j τ h' => (∃ x7 x8 : Option Tv, τ = [some (.int (n : Nat)), some (.lst (ts.map Enc.tv)), some (.lst (has.map Enc.tv)), some (.lst (ws.map Enc.tv)), some (.lst (rs.map Enc.tv ++ es)), some (.lst ((List.range n).map fun a => Enc.tv (nearOf n (adj ts) a))), some (.obj h.length), x7, x8, none, none, none, none]) ∧
    h' = h ++ [.lst (has.map Enc.tv)] ∧ j ≤ rs.length) ⟨⟨none, none, rfl⟩, rfl, Nat.zero_le _⟩ (fun τ h' I => ?_) (fun j y τ h' K hj I hk => ?_)
  · obtain ⟨⟨x7, x8, rfl⟩, rfl, hj⟩ := I
    rw [List.length_range, hlen] at hj
    have he0 : es = [] := List.length_eq_zero_iff.mp (by omega)
    subst he0
    rcases hes with ⟨_, q⟩ | ⟨o, r, z, _⟩
    · simp only [List.append_nil]
      rw [tSs_c]
      exists tS
      refine tFor_inv (e := Enc.tv) (fun xs τ h' => ∃ (kn : List Nat) (x9 x10 : Option Tv), τ = [some (.int (n : Nat)), some (.lst (ts.map Enc.tv)), some (.lst (has.map Enc.tv)), some (.lst (ws.map Enc.tv)), some (.lst (rs.map Enc.tv)), some (.lst ((List.range n).map fun a => Enc.tv (nearOf n (adj ts) a))), some (.obj h.length), x7, x8, x9, x10, none, none] ∧
        h' = h ++ [.lst (kn.map Enc.tv)] ∧ (∀ r ∈ xs, okRow n r) ∧ kn.length + xs.length < 1000 ∧ doesB (nearOf n (adj ts)) ws kn xs = doesB (nearOf n (adj ts)) ws has rs) (fun τ h' I => ?_) (fun r xs τ h' K I hk => ?_) rs _ _ ⟨has, none, none, rfl, rfl, hr, hl, rfl⟩
      · obtain ⟨kn, x5, x6, rfl, rfl, _, _, e⟩ := I
        decreasing_trivial_pre_omega
        refine tItems_pure (p := fun w => !decide (w ∈ kn)) (f := Enc.tv) ws [] (fun y hy K3 K4 k3 k4 => ?_) (by simp [szLine]; omega) ?_
        · decreasing_trivial_pre_omega
          rw [in_obj (vs := kn.map Enc.tv) (by simp)]
          refine tInL_enc (a := y) (xs := kn) (by decide) ?_
          by_cases e3 : y ∈ kn
          · simp only [e3, decide_true, Bool.not_true, Bool.false_eq_true, if_false]
            exact k4 (by simp [e3])
          · simp only [e3, decide_false, Bool.not_false, if_true]
            exact k3 (by simp [e3])
        · rw [List.nil_append]
          refine tEq_enc (a := ws.filter fun w => !decide (w ∈ kn)) (b := ([] : List Nat)) (by decide) ?_
          refine gc1 rfl ?_
          rw [← e] at q
          exact q
      · obtain ⟨kn, x5, x6, rfl, rfl, h1, h2, e⟩ := I
        obtain ⟨a, b⟩ := r
        have hab := h1 (a, b) List.mem_cons_self
        have et : (Enc.tv (a, b) : Tv) = .tup [.int (a : Nat), .int (b : Nat)] := rfl
        rw [et]
        decreasing_trivial_pre_omega
        rw [in_obj (vs := kn.map Enc.tv) (by simp)]
        refine tInL_enc (a := a) (xs := kn) (by decide) ?_
        rw [show doesB (nearOf n (adj ts)) ws kn ((a, b) :: xs) = if a ∉ kn ∨ b ∈ kn ∨ b ∉ nearOf n (adj ts) a then false else doesB (nearOf n (adj ts)) ws (kn ++ [b]) xs from rfl] at e
        by_cases ha : a ∈ kn
        · simp only [ha, decide_true, Bool.not_true, Bool.false_eq_true, if_false]
          rw [in_obj (vs := kn.map Enc.tv) (by simp)]
          refine tInL_enc (a := b) (xs := kn) (by decide) ?_
          by_cases hb : b ∈ kn
          · simp only [hb, decide_true, if_true]
            rw [if_pos (.inr (.inl hb))] at e
            exact gc1 rfl (by rw [← e] at q; exact q)
          · simp only [hb, decide_false, Bool.false_eq_true, if_false]
            rw [atL_nat (v := .lst ((nearOf n (adj ts) a).map Enc.tv)) (by rw [List.getElem?_map, List.getElem?_range hab.1]; rfl)]
            decreasing_trivial_pre_omega
            refine tInL_enc (a := b) (xs := nearOf n (adj ts) a) (by decide) ?_
            by_cases hn : b ∈ nearOf n (adj ts) a
            · simp only [hn, decide_true, Bool.not_true, Bool.false_eq_true, if_false]
              decreasing_trivial_pre_omega
              rw [isLs_obj (vs := kn.map Enc.tv) (by simp), lm_app (vs := kn.map Enc.tv) (by simp)]
              rw [if_neg (by simp [ha, hb, hn])] at e
              simp only [List.length_cons] at h2
              refine ⟨trivial, by simp [szLine]; omega, hk _ _ ⟨kn ++ [b], _, _, rfl, by simp; rfl, fun r hr => h1 r (List.mem_cons_of_mem _ hr), by simp; omega, e⟩⟩
            · simp only [hn, decide_false, Bool.not_false, if_true]
              rw [if_pos (.inr (.inr hn))] at e
              exact gc1 rfl (by rw [← e] at q; exact q)
        · simp only [ha, decide_false, Bool.not_false, if_true]
          rw [if_pos (.inl ha)] at e
          exact gc1 rfl (by rw [← e] at q; exact q)
    · cases z
  · obtain ⟨⟨x7, x8, rfl⟩, rfl, hj2⟩ := I
    obtain ⟨hjl, rfl⟩ := List.getElem?_eq_some_iff.mp hj
    rw [List.length_range, hlen] at hjl
    rw [List.getElem_range]
    by_cases hjr : j < rs.length
    · have e1 : (rs.map Enc.tv ++ es : List Tv).getD j .non = .tup [.int ((rs[j].1 : Nat) : Int), .int ((rs[j].2 : Nat) : Int)] := by
        rw [List.getD_eq_getElem?_getD, List.getElem?_append_left (by simpa using hjr), List.getElem?_map, List.getElem?_eq_getElem hjr]; rfl
      rw [e1]
      have hok := hr rs[j] (List.getElem_mem hjr)
      refine look_ints (n := n) (fun _ => hk _ _ ⟨⟨_, _, rfl⟩, rfl, by omega⟩) fun z => absurd ⟨by omega, by have := hok.1; omega, by omega, by have := hok.2; omega⟩ z
    · have ej : j = rs.length := by omega
      subst ej
      rcases hes with ⟨z, _⟩ | ⟨o, r, z, ho, hw2⟩
      · subst z; simp at hjl
      · subst z
        have e1 : (rs.map Enc.tv ++ o :: r : List Tv).getD rs.length .non = o := by
          rw [List.getD_eq_getElem?_getD, List.getElem?_append_right (by simp)]; simp
        rw [e1]
        exact look_odd (n := n) ho (gcx (by intro p hp; cases hp; rfl) hw2)
end
end Nf
/-! NfW09: k09: drawing hand-ons -/
set_option linter.all false
set_option maxHeartbeats 0
set_option maxRecDepth 100000
namespace Nf
local macro_rules | `(tactic| decreasing_trivial_pre_omega) => `(tactic| ((try simp only [tSs_n, tS, tE, tEs, tEo, tI, asTI_int, asTB_bl, asTO_none, asTO_int, getT_0, getT_s, optB_some, tIsi_ty, tIsi_ty2, ty_non, ty_bl, ty_int, ty_str, ty_tup, ty_lst, ty_frz, bi_len, bi_int_i, bi_int_b, bi_str, bi_list, bi_tuple, bi_sorted, bi_min2, bi_max2, bi_isi, len_str, len_tup, len_lst, len_frz, list_lst, list_tup, list_frz, al_f, al_t, cmp_eq, cmp_ne, cmp_lt, cmp_le, cmp_gt, cmp_ge, cmp_inn, cmp_nin, cmp_is, cmp_isn, eq_int, eq_str, in_lst, bin_add, bin_sub, bin_mul, bin_rep, bin_fdiv, bin_mod, bin_pow, add_int, add_str, add_tup, add_ll, ix_tup, ix_lst, ix_frz, atL_0, Function.comp, atL_1, atL_2, atL_3, tg_v, tg_t, over_tup, over_lst, over_frz, tSetNs, tWipe, List.map_cons, List.map_nil, List.cons_append, List.nil_append, List.replicate_zero, List.replicate_succ, List.append_nil, List.set_cons_zero, List.set_cons_succ, List.set_nil, List.length_cons, List.length_nil, Nat.sub_self, Nat.reduceAdd, Nat.reduceSub, Nat.add_one_sub_one, Bool.not_true, Bool.not_false, Bool.or_false, Bool.or_true, Bool.false_or, Bool.true_or, if_true, if_false, Bool.false_eq_true, reduceIte, decide_true, decide_false, List.mem_cons, List.not_mem_nil, true_or, or_true, false_or, or_false, true_and, and_true, and_self, String.reduceEq, decide_eq_true_eq, not_true, not_false_iff, eq_self_iff_true, isNon_non, isNon_int, isNon_o, Nat.zero_le, sz1, sz2, sz3, sz4, Int.cast_ofNat_Int, Int.reduceEq, Int.reduceLT, Int.reduceLE, Int.reduceAdd, Int.reduceSub, Int.reduceNeg]); (try rw [tSs_c]); (try simp only [tSs_n, tS, tE, tEs, tEo, tI, asTI_int, asTB_bl, asTO_none, asTO_int, getT_0, getT_s, optB_some, tIsi_ty, tIsi_ty2, ty_non, ty_bl, ty_int, ty_str, ty_tup, ty_lst, ty_frz, bi_len, bi_int_i, bi_int_b, bi_str, bi_list, bi_tuple, bi_sorted, bi_min2, bi_max2, bi_isi, len_str, len_tup, len_lst, len_frz, list_lst, list_tup, list_frz, al_f, al_t, cmp_eq, cmp_ne, cmp_lt, cmp_le, cmp_gt, cmp_ge, cmp_inn, cmp_nin, cmp_is, cmp_isn, eq_int, eq_str, in_lst, bin_add, bin_sub, bin_mul, bin_rep, bin_fdiv, bin_mod, bin_pow, add_int, add_str, add_tup, add_ll, ix_tup, ix_lst, ix_frz, atL_0, Function.comp, atL_1, atL_2, atL_3, tg_v, tg_t, over_tup, over_lst, over_frz, tSetNs, tWipe, List.map_cons, List.map_nil, List.cons_append, List.nil_append, List.replicate_zero, List.replicate_succ, List.append_nil, List.set_cons_zero, List.set_cons_succ, List.set_nil, List.length_cons, List.length_nil, Nat.sub_self, Nat.reduceAdd, Nat.reduceSub, Nat.add_one_sub_one, Bool.not_true, Bool.not_false, Bool.or_false, Bool.or_true, Bool.false_or, Bool.true_or, if_true, if_false, Bool.false_eq_true, reduceIte, decide_true, decide_false, List.mem_cons, List.not_mem_nil, true_or, or_true, false_or, or_false, true_and, and_true, and_self, String.reduceEq, decide_eq_true_eq, not_true, not_false_iff, eq_self_iff_true, isNon_non, isNon_int, isNon_o, Nat.zero_le, sz1, sz2, sz3, sz4, Int.cast_ofNat_Int, Int.reduceEq, Int.reduceLT, Int.reduceLE, Int.reduceAdd, Int.reduceSub, Int.reduceNeg])))
local macro_rules | `(tactic| exists $es,*) => `(tactic| (try simp only [tSs_n, tS, tE, tEs, tEo, tI, asTI_int, asTB_bl, asTO_none, asTO_int, getT_0, getT_s, optB_some, tIsi_ty, tIsi_ty2, ty_non, ty_bl, ty_int, ty_str, ty_tup, ty_lst, ty_frz, bi_len, bi_int_i, bi_int_b, bi_str, bi_list, bi_tuple, bi_sorted, bi_min2, bi_max2, bi_isi, len_str, len_tup, len_lst, len_frz, list_lst, list_tup, list_frz, al_f, al_t, cmp_eq, cmp_ne, cmp_lt, cmp_le, cmp_gt, cmp_ge, cmp_inn, cmp_nin, cmp_is, cmp_isn, eq_int, eq_str, in_lst, bin_add, bin_sub, bin_mul, bin_rep, bin_fdiv, bin_mod, bin_pow, add_int, add_str, add_tup, add_ll, ix_tup, ix_lst, ix_frz, atL_0, Function.comp, atL_1, atL_2, atL_3, tg_v, tg_t, over_tup, over_lst, over_frz, tSetNs, tWipe, List.map_cons, List.map_nil, List.cons_append, List.nil_append, List.replicate_zero, List.replicate_succ, List.append_nil, List.set_cons_zero, List.set_cons_succ, List.set_nil, List.length_cons, List.length_nil, Nat.sub_self, Nat.reduceAdd, Nat.reduceSub, Nat.add_one_sub_one, Bool.not_true, Bool.not_false, Bool.or_false, Bool.or_true, Bool.false_or, Bool.true_or, if_true, if_false, Bool.false_eq_true, reduceIte, decide_true, decide_false, List.mem_cons, List.not_mem_nil, true_or, or_true, false_or, or_false, true_and, and_true, and_self, String.reduceEq, decide_eq_true_eq, not_true, not_false_iff, eq_self_iff_true, isNon_non, isNon_int, isNon_o, Nat.zero_le, sz1, sz2, sz3, sz4, Int.cast_ofNat_Int, Int.reduceEq, Int.reduceLT, Int.reduceLE, Int.reduceAdd, Int.reduceSub, Int.reduceNeg, $[$es:term],*]))
theorem atL_last {α : Type} {x : α} {xs : List α} {k : α → Prop} : atL (xs ++ [x]) (-1) k = k x := by
  unfold atL ixN
  rw [if_neg (by omega), if_pos (by simp; omega)]
  have e : ((-1 : Int) + ((xs ++ [x]).length : Int)).toNat = xs.length := by simp; omega
  simp only [e]
  simp
section
variable {P : Prg} {k n i : Nat} {h g : Hs} {Q : Tq} {W : Tw} {s s1 : Dr} {o u : To}
theorem dr_get (hi : i < h.length) : (h.set i s.to ++ g)[i]? = some s.to := by
  rw [List.getElem?_append_left (by simpa using hi), List.getElem?_set_self hi]
theorem dr_set (hi : i < h.length) : (h.set i s.to ++ g).set i s1.to = h.set i s1.to ++ g := by
  rw [List.set_append_left _ _ (by simpa using hi), List.set_set]
theorem dr_same (e : h[i]? = some s.to) : h.set i s.to = h := by
  apply List.ext_getElem?
  intro j
  rw [List.getElem?_set]
  split
  · rename_i q; subst q
    have := (List.getElem?_eq_some_iff.mp e).1
    rw [if_pos this, e]
  · rfl
theorem dr_0 : (h.set i s.to ++ o :: g)[h.length]? = some o := by
  rw [List.getElem?_append_right (by simp)]; simp
theorem dr_1 : (h.set i s.to ++ o :: u :: g)[h.length + 1]? = some u := by
  rw [List.getElem?_append_right (by simp)]; simp
theorem dr_s0 {o' : To} : (h.set i s.to ++ o :: g).set h.length o' = h.set i s.to ++ o' :: g := by
  rw [List.set_append_right _ _ (by simp)]; simp
theorem dr_s1 {o' : To} : (h.set i s.to ++ o :: u :: g).set (h.length + 1) o' = h.set i s.to ++ o :: o' :: g := by
  rw [List.set_append_right _ _ (by simp)]; simp
theorem bi_set_obj {m : Bool} {a : Nat} {ss : List Nat} (e : h[a]? = some (.lst (ss.map Enc.tv))) (hl : ss.length < 4000) (q : newO (.set (ss.map fun n : Nat => (n : Int))) h Q) : tBi m .set [.obj a] h Q := by
  show (match lsOf h (.obj a) with
    | some xs => (match tInts xs with | some ns => xs.length < 4000 ∧ newO (.set ns) h Q | none => False)
    | none => False)
  simp only [lsOf, e, tInts_nat, List.length_map]
  exact ⟨hl, q⟩
theorem rise_len : ∀ {n : Nat} {ys : List Nat}, ys.Pairwise (· < ·) → (∀ y ∈ ys, y < n) → ys.length ≤ n := fun {n ys} h1 h2 => nodup_len (h1.imp fun h => Nat.ne_of_lt h) h2
theorem gcD {v : Tv} {gs : Hs} (hv : v.clos h.length = true) (q : Q v (h.set i s.to)) : gcQ h Q v (h.set i s.to ++ gs) := .inr ⟨h.set i s.to, ⟨⟨gs, rfl⟩, by simp, fun j o e => by
  rw [List.getElem?_set] at e
  split at e
  · split at e
    · cases e; exact .inr Dr.clos
    · cases e
  · exact .inl e⟩, by simpa using hv, q⟩
/-- hand-ons one by one -/
theorem sp_lrows (p : Hd P F__law_rows) (p1 : Hd P F__law_drawn) {A : Nat → Nat → Bool} {has : List Nat} (hs : s.ok) (hi : h[i]? = some s.to) (hn : n ≤ 8) (hh : ∀ x ∈ has, x < n) (hhl : has.length ≤ 10)
    (q : ∀ (rs : List (Nat × Nat)) (s' : Dr), (∀ r ∈ rs, okRow n r) → rs.length ≤ 9 → s'.ok → s'.ns = s.ns → Q (.lst (rs.map Enc.tv)) (h.set i s'.to)) :
    trun P (k + 2) "" "_law_rows" [.obj i, .lst ((List.range n).map fun a => Enc.tv (nearOf n A a)), .lst (has.map Enc.tv)] h Q W := by
  have hil := (List.getElem?_eq_some_iff.mp hi).1
  refine call_of p rfl rfl rfl ?_
  unfold F__law_rows
  decreasing_trivial_pre_omega
  rw [tSs_c]
  exists tS
  refine sp_drawnZ p1 hs (s := s) (by rw [List.append_assoc, List.getElem?_append_left hil]; exact hi) (by decide) fun r s0 hr0 o0 n0 _ => ?_
  rw [show (h ++ [To.lst (has.map Enc.tv)] ++ [To.lst []]).set i s0.to = h.set i s0.to ++ .lst (has.map Enc.tv) :: .lst (([] : List (Nat × Nat)).map Enc.tv) :: [] by rw [List.append_assoc, List.set_append_left _ _ hil]; rfl]
  exists tS
  refine tRng_natZ r rfl (by omega) ?_
  refine tFor_rng' (fun j τ h' => ∃ (kn : List Nat) (fd : List (Nat × Nat)) (s1 : Dr) (g : Hs) (x3 x6 x7 : Option Tv), τ = [some (.obj i), some (.lst ((List.range n).map fun a => Enc.tv (nearOf n A a))), some (.lst (has.map Enc.tv)), x3, some (.obj h.length), some (.obj (h.length + 1)), x6, x7, none] ∧
    h' = h.set i s1.to ++ .lst (kn.map Enc.tv) :: .lst (fd.map Enc.tv) :: g ∧ s1.ok ∧ s1.ns = s.ns ∧ (∀ x ∈ kn, x < n) ∧ kn.length ≤ 10 + j ∧ (∀ r ∈ fd, okRow n r) ∧ fd.length ≤ j)
    ⟨has, [], s0, [], none, none, none, by simp, rfl, o0, n0, hh, by omega, by simp, by simp⟩ (fun τ h' I => ?_) (fun j τ h' K hj I hk => ?_)
  · obtain ⟨kn, fd, s1, g, x3, x6, x7, rfl, rfl, o1, n1, hk1, hk2, hf1, hf2⟩ := I
    decreasing_trivial_pre_omega
    rw [frz_obj dr_1, dr_s1]
    exact gcD (closL_map (fun x => rfl) _) (q fd s1 hf1 (by omega) o1 n1)
  · obtain ⟨kn, fd, s1, g, x3, x6, x7, rfl, rfl, o1, n1, hk1, hk2, hf1, hf2⟩ := I
    decreasing_trivial_pre_omega
    rw [tSs_c]
    exists tS
    refine bi_set_obj dr_0 (by omega) ?_
    unfold newO
    exists tS
    refine sort_set_nat (ss := kn) (by simp) (by omega) fun ys y1 y2 => ?_
    exists tS
    have hys : ∀ y ∈ ys, y < n := fun y hy => hk1 y ((y2 y).mp hy)
    have hyl := rise_len y1 hys
    rw [show h.set i s1.to ++ .lst (kn.map Enc.tv) :: .lst (fd.map Enc.tv) :: g ++ [To.set (kn.map fun n : Nat => (n : Int))] = h.set i s1.to ++ .lst (kn.map Enc.tv) :: .lst (fd.map Enc.tv) :: (g ++ [To.set (kn.map fun n : Nat => (n : Int))]) by simp]
    generalize g ++ [To.set (kn.map fun n : Nat => (n : Int))] = g1
    refine tFor_num (e := Enc.tv) (its := ys) (fun m τ h' => ∃ (ps : List (Nat × Nat)) (x7 : Option Tv), τ = [some (.obj i), some (.lst ((List.range n).map fun a => Enc.tv (nearOf n A a))), some (.lst (has.map Enc.tv)), some (.int (j : Nat)), some (.obj h.length), some (.obj (h.length + 1)), some (.lst (ps.map Enc.tv)), x7, none] ∧
      h' = h.set i s1.to ++ .lst (kn.map Enc.tv) :: .lst (fd.map Enc.tv) :: g1 ∧ (∀ r ∈ ps, okRow n r) ∧ ps.length ≤ 8 * m) ⟨[], x7, rfl, rfl, by simp, by simp⟩ (fun τ h' I => ?_) (fun m y τ h' K2 hm I hk2 => ?_)
    · obtain ⟨ps, x7, rfl, rfl, hp1, hp2⟩ := I
      decreasing_trivial_pre_omega
      refine tEq_enc (a := ps) (b := ([] : List (Nat × Nat))) (by decide) ?_
      by_cases hp0 : ps = []
      · subst hp0
        simp only [decide_true, Bool.not_true, Bool.false_eq_true, if_false]
        exists tSs_n
        exact hk _ _ ⟨kn, fd, s1, g1, _, _, _, rfl, rfl, o1, n1, hk1, by omega, hf1, by omega⟩
      · simp only [hp0, decide_false, Bool.not_false, if_true]
        rw [tSs_c]
        exists tS
        rw [isLs_obj dr_1]
        refine ⟨trivial, ?_⟩
        have hpl : 0 < ps.length := List.length_pos_iff.mpr hp0
        refine sp_drawnZ p1 o1 (dr_get hil) (by rw [List.length_map]; omega) fun r2 s2 hr2 o2 n2 _ => ?_
        rw [dr_set hil]
        rw [List.length_map] at hr2
        have hr2' : r2 < ps.length := by omega
        exists tS
        rw [atL_nat (v := Enc.tv ps[r2]) (by rw [List.getElem?_map, List.getElem?_eq_getElem hr2']; rfl)]
        rw [lm_app dr_1, dr_s1]
        refine ⟨by rw [List.length_map]; simp only [szLine]; omega, ?_⟩
        rw [show fd.map Enc.tv ++ [Enc.tv ps[r2]] = (fd ++ [ps[r2]]).map Enc.tv by simp]
        rw [tSs_c]
        exists tS
        rw [isLs_obj dr_0]
        refine ⟨trivial, ?_⟩
        rw [ix_obj dr_1]
        rw [show ((fd ++ [ps[r2]]).map Enc.tv : List Tv) = fd.map Enc.tv ++ [Enc.tv ps[r2]] by simp, atL_last]
        have et : (Enc.tv ps[r2] : Tv) = .tup [.int (ps[r2].1 : Nat), .int (ps[r2].2 : Nat)] := rfl
        rw [et]
        exists tS
        rw [lm_app dr_0, dr_s0]
        refine ⟨by rw [List.length_map]; simp only [szLine]; omega, ?_⟩
        exists tSs_n
        have hokr := hp1 ps[r2] (List.getElem_mem hr2')
        refine hk _ _ ⟨kn ++ [ps[r2].2], fd ++ [ps[r2]], s2, g1, _, _, _, rfl, by simp; exact ⟨rfl, rfl⟩, o2, n2.trans n1, fun x hx => ?_, by simp; omega, fun x hx => ?_, by simp; omega⟩
        · rcases List.mem_append.mp hx with hx | hx
          · exact hk1 x hx
          · rw [List.mem_singleton.mp hx]; exact hokr.2
        · rcases List.mem_append.mp hx with hx | hx
          · exact hf1 x hx
          · rw [List.mem_singleton.mp hx]; exact hokr
    · obtain ⟨ps, x7, rfl, rfl, hp1, hp2⟩ := I
      have hy := hys y (List.mem_of_getElem? hm)
      have hml := (List.getElem?_eq_some_iff.mp hm).1
      have et : (Enc.tv y : Tv) = .int (y : Nat) := rfl
      rw [et]
      decreasing_trivial_pre_omega
      rw [atL_nat (v := .lst ((nearOf n A y).map Enc.tv)) (by rw [List.getElem?_map, List.getElem?_range hy]; rfl)]
      exists tS
      have hnl := nodup_len (n := n) (l := nearOf n A y) (List.nodup_range.filter _) fun y hy => List.mem_range.mp (List.mem_filter.mp hy).1
      refine tItems_pure (p := fun w => !decide (w ∈ kn)) (f := fun w => Enc.tv (y, w)) (nearOf n A y) [] (fun w hw K3 K4 k3 k4 => ?_) (by simp [szLine]; omega) ?_
      · decreasing_trivial_pre_omega
        rw [in_obj dr_0]
        refine tInL_enc (a := w) (xs := kn) (by decide) ?_
        by_cases e3 : w ∈ kn
        · simp only [e3, decide_true, Bool.not_true, Bool.false_eq_true, if_false]
          exact k4 (by simp [e3])
        · simp only [e3, decide_false, Bool.not_false, if_true]
          exact k3 (by simp [e3])
      · rw [List.nil_append]
        exists tS
        have hfl := List.length_filter_le (fun w => !decide (w ∈ kn)) (nearOf n A y)
        refine ⟨by rw [List.length_map, List.length_map]; simp only [szLine]; omega, ?_⟩
        exists tSs_n
        refine hk2 _ _ ⟨ps ++ ((nearOf n A y).filter fun w => !decide (w ∈ kn)).map fun w => (y, w), some (.int (y : Nat)), ?_, rfl, fun x hx => ?_, by simp; omega⟩
        · rw [List.map_append, List.map_map]; rfl
        · rcases List.mem_append.mp hx with hx | hx
          · exact hp1 x hx
          · obtain ⟨w, hw, rfl⟩ := List.mem_map.mp hx
            exact ⟨hy, List.mem_range.mp (List.mem_filter.mp (List.mem_filter.mp hw).1).1⟩
end
end Nf
/-! NfX09: k09: hand-ons spoilt -/
set_option linter.all false
set_option maxHeartbeats 0
set_option maxRecDepth 100000
namespace Nf
local macro_rules | `(tactic| decreasing_trivial_pre_omega) => `(tactic| ((try simp only [tSs_n, tS, tE, tEs, tEo, tI, asTI_int, asTB_bl, asTO_none, asTO_int, getT_0, getT_s, optB_some, tIsi_ty, tIsi_ty2, ty_non, ty_bl, ty_int, ty_str, ty_tup, ty_lst, ty_frz, bi_len, bi_int_i, bi_int_b, bi_str, bi_list, bi_tuple, bi_sorted, bi_min2, bi_max2, bi_isi, len_str, len_tup, len_lst, len_frz, list_lst, list_tup, list_frz, al_f, al_t, cmp_eq, cmp_ne, cmp_lt, cmp_le, cmp_gt, cmp_ge, cmp_inn, cmp_nin, cmp_is, cmp_isn, eq_int, eq_str, in_lst, bin_add, bin_sub, bin_mul, bin_rep, bin_fdiv, bin_mod, bin_pow, add_int, add_str, add_tup, add_ll, ix_tup, ix_lst, ix_frz, atL_0, Function.comp, atL_1, atL_2, atL_3, tg_v, tg_t, over_tup, over_lst, over_frz, tSetNs, tWipe, List.map_cons, List.map_nil, List.cons_append, List.nil_append, List.replicate_zero, List.replicate_succ, List.append_nil, List.set_cons_zero, List.set_cons_succ, List.set_nil, List.length_cons, List.length_nil, Nat.sub_self, Nat.reduceAdd, Nat.reduceSub, Nat.add_one_sub_one, Bool.not_true, Bool.not_false, Bool.or_false, Bool.or_true, Bool.false_or, Bool.true_or, if_true, if_false, Bool.false_eq_true, reduceIte, decide_true, decide_false, List.mem_cons, List.not_mem_nil, true_or, or_true, false_or, or_false, true_and, and_true, and_self, String.reduceEq, decide_eq_true_eq, not_true, not_false_iff, eq_self_iff_true, isNon_non, isNon_int, isNon_o, Nat.zero_le, sz1, sz2, sz3, sz4, Int.cast_ofNat_Int, Int.reduceEq, Int.reduceLT, Int.reduceLE, Int.reduceAdd, Int.reduceSub, Int.reduceNeg]); (try rw [tSs_c]); (try simp only [tSs_n, tS, tE, tEs, tEo, tI, asTI_int, asTB_bl, asTO_none, asTO_int, getT_0, getT_s, optB_some, tIsi_ty, tIsi_ty2, ty_non, ty_bl, ty_int, ty_str, ty_tup, ty_lst, ty_frz, bi_len, bi_int_i, bi_int_b, bi_str, bi_list, bi_tuple, bi_sorted, bi_min2, bi_max2, bi_isi, len_str, len_tup, len_lst, len_frz, list_lst, list_tup, list_frz, al_f, al_t, cmp_eq, cmp_ne, cmp_lt, cmp_le, cmp_gt, cmp_ge, cmp_inn, cmp_nin, cmp_is, cmp_isn, eq_int, eq_str, in_lst, bin_add, bin_sub, bin_mul, bin_rep, bin_fdiv, bin_mod, bin_pow, add_int, add_str, add_tup, add_ll, ix_tup, ix_lst, ix_frz, atL_0, Function.comp, atL_1, atL_2, atL_3, tg_v, tg_t, over_tup, over_lst, over_frz, tSetNs, tWipe, List.map_cons, List.map_nil, List.cons_append, List.nil_append, List.replicate_zero, List.replicate_succ, List.append_nil, List.set_cons_zero, List.set_cons_succ, List.set_nil, List.length_cons, List.length_nil, Nat.sub_self, Nat.reduceAdd, Nat.reduceSub, Nat.add_one_sub_one, Bool.not_true, Bool.not_false, Bool.or_false, Bool.or_true, Bool.false_or, Bool.true_or, if_true, if_false, Bool.false_eq_true, reduceIte, decide_true, decide_false, List.mem_cons, List.not_mem_nil, true_or, or_true, false_or, or_false, true_and, and_true, and_self, String.reduceEq, decide_eq_true_eq, not_true, not_false_iff, eq_self_iff_true, isNon_non, isNon_int, isNon_o, Nat.zero_le, sz1, sz2, sz3, sz4, Int.cast_ofNat_Int, Int.reduceEq, Int.reduceLT, Int.reduceLE, Int.reduceAdd, Int.reduceSub, Int.reduceNeg])))
local macro_rules | `(tactic| exists $es,*) => `(tactic| (try simp only [tSs_n, tS, tE, tEs, tEo, tI, asTI_int, asTB_bl, asTO_none, asTO_int, getT_0, getT_s, optB_some, tIsi_ty, tIsi_ty2, ty_non, ty_bl, ty_int, ty_str, ty_tup, ty_lst, ty_frz, bi_len, bi_int_i, bi_int_b, bi_str, bi_list, bi_tuple, bi_sorted, bi_min2, bi_max2, bi_isi, len_str, len_tup, len_lst, len_frz, list_lst, list_tup, list_frz, al_f, al_t, cmp_eq, cmp_ne, cmp_lt, cmp_le, cmp_gt, cmp_ge, cmp_inn, cmp_nin, cmp_is, cmp_isn, eq_int, eq_str, in_lst, bin_add, bin_sub, bin_mul, bin_rep, bin_fdiv, bin_mod, bin_pow, add_int, add_str, add_tup, add_ll, ix_tup, ix_lst, ix_frz, atL_0, Function.comp, atL_1, atL_2, atL_3, tg_v, tg_t, over_tup, over_lst, over_frz, tSetNs, tWipe, List.map_cons, List.map_nil, List.cons_append, List.nil_append, List.replicate_zero, List.replicate_succ, List.append_nil, List.set_cons_zero, List.set_cons_succ, List.set_nil, List.length_cons, List.length_nil, Nat.sub_self, Nat.reduceAdd, Nat.reduceSub, Nat.add_one_sub_one, Bool.not_true, Bool.not_false, Bool.or_false, Bool.or_true, Bool.false_or, Bool.true_or, if_true, if_false, Bool.false_eq_true, reduceIte, decide_true, decide_false, List.mem_cons, List.not_mem_nil, true_or, or_true, false_or, or_false, true_and, and_true, and_self, String.reduceEq, decide_eq_true_eq, not_true, not_false_iff, eq_self_iff_true, isNon_non, isNon_int, isNon_o, Nat.zero_le, sz1, sz2, sz3, sz4, Int.cast_ofNat_Int, Int.reduceEq, Int.reduceLT, Int.reduceLE, Int.reduceAdd, Int.reduceSub, Int.reduceNeg, $[$es:term],*]))
theorem slc_nn {vs : List Tv} {m : Bool} {h : Hs} {Q : Tq} : tSlc m (.lst vs) none none h Q = tAl m (cutL vs none none) h Q := rfl
theorem slc_ni {vs : List Tv} {m : Bool} {h : Hs} {Q : Tq} {j : Int} : tSlc m (.lst vs) none (some (.int j)) h Q = tAl m (cutL vs none (some j)) h Q := rfl
theorem slc_in {vs : List Tv} {m : Bool} {h : Hs} {Q : Tq} {j : Int} : tSlc m (.lst vs) (some (.int j)) none h Q = tAl m (cutL vs (some j) none) h Q := rfl
theorem slc_ii {vs : List Tv} {m : Bool} {h : Hs} {Q : Tq} {i j : Int} : tSlc m (.lst vs) (some (.int i)) (some (.int j)) h Q = tAl m (cutL vs (some i) (some j)) h Q := rfl
theorem rev_lst {vs : List Tv} {m : Bool} {h : Hs} {Q : Tq} : tRev m (.lst vs) h Q = tAl m vs.reverse h Q := rfl
section
variable {P : Prg} {k n i : Nat} {h g : Hs} {Q : Tq} {W : Tw} {s s1 : Dr} {rs : List (Nat × Nat)}
theorem cut_ok {lo hi : Option Int} (hr : ∀ r ∈ rs, okRow n r) : ∀ r ∈ cutL rs lo hi, okRow n r := fun r h => hr r (cutL_mem h)
theorem sp_lspoilt (p : Hd P F__law_spoilt) (p1 : Hd P F__law_drawn) (hs : s.ok) (hi : h[i]? = some s.to) (hn : 2 ≤ n ∧ n ≤ 8) (hr : ∀ r ∈ rs, okRow n r) (hl : rs.length ≤ 500)
    (q : ∀ (rs' : List (Nat × Nat)) (s' : Dr), (∀ r ∈ rs', okRow n r) → rs'.length ≤ 3 * rs.length + 1 → s'.ok → s'.ns = s.ns → Q (.lst (rs'.map Enc.tv)) (h.set i s'.to)) :
    trun P (k + 2) "" "_law_spoilt" [.obj i, .lst (rs.map Enc.tv), .int n] h Q W := by
  have hil := (List.getElem?_eq_some_iff.mp hi).1
  refine call_of p rfl rfl rfl ?_
  unfold F__law_spoilt
  decreasing_trivial_pre_omega
  rw [List.length_map]
  refine sp_drawnZ p1 hs hi (by omega) fun at_ s2 hat o2 n2 g2 => ?_
  exists tS
  refine sp_drawnZ p1 o2 g2 (by decide) fun way s3 hway o3 n3 g3 => ?_
  rw [List.set_set] at g3 ⊢
  exists tS
  rw [tSs_c]
  exists tS
  refine sp_drawnZ p1 o3 g3 (by omega) fun o1 s4 ho1 o4 n4 g4 => ?_
  rw [List.set_set] at g4 ⊢
  exists tS
  refine sp_drawnZ p1 o4 g4 (by omega) fun o2' s5 ho2 o5 n5 g5 => ?_
  rw [List.set_set] at g5 ⊢
  exists tS
  have hone : okRow n (o1, o2') := ⟨by show o1 < n; omega, by show o2' < n; omega⟩
  have fin : ∀ {rs' : List (Nat × Nat)} {vs : List Tv}, vs = rs'.map Enc.tv → (∀ r ∈ rs', okRow n r) → rs'.length ≤ 3 * rs.length + 1 → gcQ h Q (.lst vs) (h.set i s5.to) := fun {rs' vs} e h1 h2 => by
    subst e
    exact gc0 (q rs' s5 h1 h2 o5 ((n5.trans n4).trans (n3.trans n2)))
  have app2 : ∀ {xs ys : List (Nat × Nat)}, (∀ r ∈ xs, okRow n r) → (∀ r ∈ ys, okRow n r) → ∀ r ∈ xs ++ ys, okRow n r := fun {xs ys} a b r hr => (List.mem_append.mp hr).elim (a r) (b r)
  have one1 : ∀ {x : Nat × Nat}, okRow n x → ∀ r ∈ [x], okRow n r := fun {x} hx r hr => by rw [List.mem_singleton.mp hr]; exact hx
  have cl : ∀ lo hi, (cutL rs lo hi).length ≤ rs.length := cutL_len rs
  have clm : ∀ lo hi, (cutL (rs.map (Enc.tv : Nat × Nat → Tv)) lo hi).length ≤ rs.length := fun lo hi => by rw [cutT_map, List.length_map]; exact cl lo hi
  have two : ∀ {a b : Option Int} {c d : Option Int}, (cutL rs a b ++ [(o1, o2')] ++ cutL rs c d).length ≤ 3 * rs.length + 1 := fun {a b c d} => by
    have h1 := cl a b
    have h2 := cl c d
    simp; omega
  have sz : ∀ {j : Nat}, j ≤ 3 * rs.length + 1 → j ≤ szLine := fun {j} h => by simp only [szLine]; omega
  have way0 : gcQ h Q (.lst (cutL (rs.map (Enc.tv : Nat × Nat → Tv)) none (some (at_ : Nat)) ++ [.tup [.int (o1 : Nat), .int (o2' : Nat)]] ++ cutL (rs.map (Enc.tv : Nat × Nat → Tv)) (some (at_ : Nat)) none)) (h.set i s5.to) :=
    fin (rs' := cutL rs none (some (at_ : Nat)) ++ [(o1, o2')] ++ cutL rs (some (at_ : Nat)) none) (by rw [cutT_map, cutT_map, List.map_append, List.map_append]; rfl) (app2 (app2 (cut_ok hr) (one1 hone)) (cut_ok hr)) two
  rw [tSs_c]
  exists tS
  have go : ∀ N, tSs (trun P (k + 1)) (gcW h W) (.c (.ret (.bin .add (.bin .add (.slc (.var 1) .n (.s (.var 4))) (.lst (.c (.var 3) .n))) (.slc (.var 1) (.s (.var 4)) .n))) .n) ⟨N, gcQ h Q⟩
      [some (.obj i), some (.lst (rs.map Enc.tv)), some (.int n), some (.tup [.int (o1 : Nat), .int (o2' : Nat)]), some (.int (at_ : Nat)), some (.int (way : Nat)), none, none] (h.set i s5.to) := fun N => by
    have q1 := clm none (some (at_ : Nat))
    have q2 := clm (some (at_ : Nat)) none
    rw [tSs_c]
    exists tS, slc_nn, slc_ni, slc_in, slc_ii
    refine ⟨by simp only [szLine]; omega, ?_⟩
    exists slc_nn, slc_ni, slc_in, slc_ii
    exact ⟨by simp only [List.length_append, List.length_cons, List.length_nil, szLine]; omega, way0⟩
  by_cases w0 : way = 0
  · rw [if_pos (by omega)]
    exact go _
  rw [if_neg (by omega)]
  rw [List.length_map]
  by_cases w1 : at_ = rs.length
  · rw [if_pos (by omega)]
    exact go _
  rw [if_neg (by omega)]
  have hat2 : at_ < rs.length := by omega
  rw [tSs_c]
  exists tS
  by_cases w2 : way = 1
  · rw [if_pos (by omega)]
    rw [tSs_c]
    exists tS, slc_nn, slc_ni, slc_in, slc_ii
    refine ⟨by have := clm none (some (at_ : Nat)); have := clm (some (at_ + 1 : Int)) none; simp only [szLine]; omega, ?_⟩
    exact fin (rs' := cutL rs none (some (at_ : Nat)) ++ cutL rs (some (at_ + 1 : Int)) none) (by rw [cutT_map, cutT_map, List.map_append]) (app2 (cut_ok hr) (cut_ok hr)) (by have := cl none (some (at_ : Nat)); have := cl (some (at_ + 1 : Int)) none; simp; omega)
  rw [if_neg (by omega)]
  rw [tSs_c]
  exists tS
  by_cases w3 : way = 2
  · rw [if_pos (by omega)]
    rw [tSs_c]
    exists tS, slc_nn, slc_ni, slc_in, slc_ii
    refine ⟨by have := clm none (some (at_ + 1 : Int)); have := clm (some (at_ : Nat)) none; simp only [szLine]; omega, ?_⟩
    exact fin (rs' := cutL rs none (some (at_ + 1 : Int)) ++ cutL rs (some (at_ : Nat)) none) (by rw [cutT_map, cutT_map, List.map_append]) (app2 (cut_ok hr) (cut_ok hr)) (by have := cl none (some (at_ + 1 : Int)); have := cl (some (at_ : Nat)) none; simp; omega)
  rw [if_neg (by omega)]
  rw [tSs_c]
  exists tS
  by_cases w4 : way = 3
  · rw [if_pos (by omega)]
    rw [tSs_c]
    have c1 := clm none (some (at_ : Nat))
    have c2 := clm (some (at_ : Nat)) (some (at_ + 2 : Int))
    have c3 := clm (some (at_ + 2 : Int)) none
    have d1 := cl none (some (at_ : Nat))
    have d2 := cl (some (at_ : Nat)) (some (at_ + 2 : Int))
    have d3 := cl (some (at_ + 2 : Int)) none
    exists tS, slc_nn, slc_ni, slc_in, slc_ii, rev_lst
    refine ⟨by simp only [List.length_reverse, szLine]; omega, ?_⟩
    exists slc_nn, slc_ni, slc_in, slc_ii
    refine ⟨by simp only [List.length_append, List.length_reverse, szLine]; omega, ?_⟩
    exact fin (rs' := cutL rs none (some (at_ : Nat)) ++ (cutL rs (some (at_ : Nat)) (some (at_ + 2 : Int))).reverse ++ cutL rs (some (at_ + 2 : Int)) none) (by rw [cutT_map, cutT_map, cutT_map, List.map_append, List.map_append, List.map_reverse]) (app2 (app2 (cut_ok hr) fun r hr' => cut_ok hr r (List.mem_reverse.mp hr')) (cut_ok hr)) (by simp; omega)
  rw [if_neg (by omega)]
  rw [tSs_c]
  exists tS
  rw [atL_nat (v := Enc.tv rs[at_]) (by rw [List.getElem?_map, List.getElem?_eq_getElem hat2]; rfl)]
  have et : (Enc.tv rs[at_] : Tv) = .tup [.int (rs[at_].1 : Nat), .int (rs[at_].2 : Nat)] := rfl
  have hok := hr rs[at_] (List.getElem_mem hat2)
  rw [et]
  exists tS
  rw [tSs_c]
  have c1 := clm none (some (at_ : Nat))
  have c3 := clm (some (at_ + 1 : Int)) none
  have d1 := cl none (some (at_ : Nat))
  have d3 := cl (some (at_ + 1 : Int)) none
  exists tS, slc_nn, slc_ni, slc_in, slc_ii, rev_lst
  obtain ⟨w, hw, hw2⟩ : ∃ w : Nat, (way : Int) - 4 = (w : Nat) ∧ w < 2 := ⟨way - 4, by omega, by omega⟩
  rw [hw]
  have key : ∀ {x : Nat × Nat} {v : Tv}, okRow n x → v = Enc.tv x → (cutL (rs.map (Enc.tv : Nat × Nat → Tv)) none (some (at_ : Nat))).length + 1 ≤ szLine ∧
      (cutL (rs.map (Enc.tv : Nat × Nat → Tv)) none (some (at_ : Nat)) ++ [v]).length + (cutL (rs.map (Enc.tv : Nat × Nat → Tv)) (some (at_ + 1 : Int)) none).length ≤ szLine ∧
      gcQ h Q (.lst (cutL (rs.map (Enc.tv : Nat × Nat → Tv)) none (some (at_ : Nat)) ++ [v] ++ cutL (rs.map (Enc.tv : Nat × Nat → Tv)) (some (at_ + 1 : Int)) none)) (h.set i s5.to) := fun {x v} hx hv => by
    subst hv
    refine ⟨by simp only [szLine]; omega, by simp only [List.length_append, List.length_cons, List.length_nil, szLine]; omega, ?_⟩
    exact fin (rs' := cutL rs none (some (at_ : Nat)) ++ [x] ++ cutL rs (some (at_ + 1 : Int)) none) (by rw [cutT_map, cutT_map, List.map_append, List.map_append]; rfl) (app2 (app2 (cut_ok hr) (one1 hx)) (cut_ok hr)) (by simp; omega)
  refine atL_all (by simpa using hw2) fun x hx => ?_
  simp only [List.mem_cons, List.not_mem_nil, or_false] at hx
  rcases hx with rfl | rfl
  · exact key (x := (rs[at_].2, rs[at_].1)) ⟨hok.2, hok.1⟩ rfl
  · exact key (x := (rs[at_].1, o2')) ⟨hok.1, hone.2⟩ rfl
end
end Nf
/-! NfS09: k09: its law over trees -/
set_option linter.all false
set_option maxHeartbeats 0
set_option maxRecDepth 100000
namespace Nf
local macro_rules | `(tactic| decreasing_trivial_pre_omega) => `(tactic| ((try simp only [tSs_n, tS, tE, tEs, tEo, tI, asTI_int, asTB_bl, asTO_none, asTO_int, getT_0, getT_s, optB_some, tIsi_ty, tIsi_ty2, ty_non, ty_bl, ty_int, ty_str, ty_tup, ty_lst, ty_frz, bi_len, bi_int_i, bi_int_b, bi_str, bi_list, bi_tuple, bi_sorted, bi_min2, bi_max2, bi_isi, len_str, len_tup, len_lst, len_frz, list_lst, list_tup, list_frz, al_f, al_t, cmp_eq, cmp_ne, cmp_lt, cmp_le, cmp_gt, cmp_ge, cmp_inn, cmp_nin, cmp_is, cmp_isn, eq_int, eq_str, in_lst, bin_add, bin_sub, bin_mul, bin_rep, bin_fdiv, bin_mod, bin_pow, add_int, add_str, add_tup, add_ll, ix_tup, ix_lst, ix_frz, atL_0, Function.comp, atL_1, atL_2, atL_3, tg_v, tg_t, over_tup, over_lst, over_frz, tSetNs, tWipe, List.map_cons, List.map_nil, List.cons_append, List.nil_append, List.replicate_zero, List.replicate_succ, List.append_nil, List.set_cons_zero, List.set_cons_succ, List.set_nil, List.length_cons, List.length_nil, Nat.sub_self, Nat.reduceAdd, Nat.reduceSub, Nat.add_one_sub_one, Bool.not_true, Bool.not_false, Bool.or_false, Bool.or_true, Bool.false_or, Bool.true_or, if_true, if_false, Bool.false_eq_true, reduceIte, decide_true, decide_false, List.mem_cons, List.not_mem_nil, true_or, or_true, false_or, or_false, true_and, and_true, and_self, String.reduceEq, decide_eq_true_eq, not_true, not_false_iff, eq_self_iff_true, isNon_non, isNon_int, isNon_o, Nat.zero_le, sz1, sz2, sz3, sz4, Int.cast_ofNat_Int, Int.reduceEq, Int.reduceLT, Int.reduceLE, Int.reduceAdd, Int.reduceSub, Int.reduceNeg]); (try rw [tSs_c]); (try simp only [tSs_n, tS, tE, tEs, tEo, tI, asTI_int, asTB_bl, asTO_none, asTO_int, getT_0, getT_s, optB_some, tIsi_ty, tIsi_ty2, ty_non, ty_bl, ty_int, ty_str, ty_tup, ty_lst, ty_frz, bi_len, bi_int_i, bi_int_b, bi_str, bi_list, bi_tuple, bi_sorted, bi_min2, bi_max2, bi_isi, len_str, len_tup, len_lst, len_frz, list_lst, list_tup, list_frz, al_f, al_t, cmp_eq, cmp_ne, cmp_lt, cmp_le, cmp_gt, cmp_ge, cmp_inn, cmp_nin, cmp_is, cmp_isn, eq_int, eq_str, in_lst, bin_add, bin_sub, bin_mul, bin_rep, bin_fdiv, bin_mod, bin_pow, add_int, add_str, add_tup, add_ll, ix_tup, ix_lst, ix_frz, atL_0, Function.comp, atL_1, atL_2, atL_3, tg_v, tg_t, over_tup, over_lst, over_frz, tSetNs, tWipe, List.map_cons, List.map_nil, List.cons_append, List.nil_append, List.replicate_zero, List.replicate_succ, List.append_nil, List.set_cons_zero, List.set_cons_succ, List.set_nil, List.length_cons, List.length_nil, Nat.sub_self, Nat.reduceAdd, Nat.reduceSub, Nat.add_one_sub_one, Bool.not_true, Bool.not_false, Bool.or_false, Bool.or_true, Bool.false_or, Bool.true_or, if_true, if_false, Bool.false_eq_true, reduceIte, decide_true, decide_false, List.mem_cons, List.not_mem_nil, true_or, or_true, false_or, or_false, true_and, and_true, and_self, String.reduceEq, decide_eq_true_eq, not_true, not_false_iff, eq_self_iff_true, isNon_non, isNon_int, isNon_o, Nat.zero_le, sz1, sz2, sz3, sz4, Int.cast_ofNat_Int, Int.reduceEq, Int.reduceLT, Int.reduceLE, Int.reduceAdd, Int.reduceSub, Int.reduceNeg])))
local macro_rules | `(tactic| exists $es,*) => `(tactic| (try simp only [tSs_n, tS, tE, tEs, tEo, tI, asTI_int, asTB_bl, asTO_none, asTO_int, getT_0, getT_s, optB_some, tIsi_ty, tIsi_ty2, ty_non, ty_bl, ty_int, ty_str, ty_tup, ty_lst, ty_frz, bi_len, bi_int_i, bi_int_b, bi_str, bi_list, bi_tuple, bi_sorted, bi_min2, bi_max2, bi_isi, len_str, len_tup, len_lst, len_frz, list_lst, list_tup, list_frz, al_f, al_t, cmp_eq, cmp_ne, cmp_lt, cmp_le, cmp_gt, cmp_ge, cmp_inn, cmp_nin, cmp_is, cmp_isn, eq_int, eq_str, in_lst, bin_add, bin_sub, bin_mul, bin_rep, bin_fdiv, bin_mod, bin_pow, add_int, add_str, add_tup, add_ll, ix_tup, ix_lst, ix_frz, atL_0, Function.comp, atL_1, atL_2, atL_3, tg_v, tg_t, over_tup, over_lst, over_frz, tSetNs, tWipe, List.map_cons, List.map_nil, List.cons_append, List.nil_append, List.replicate_zero, List.replicate_succ, List.append_nil, List.set_cons_zero, List.set_cons_succ, List.set_nil, List.length_cons, List.length_nil, Nat.sub_self, Nat.reduceAdd, Nat.reduceSub, Nat.add_one_sub_one, Bool.not_true, Bool.not_false, Bool.or_false, Bool.or_true, Bool.false_or, Bool.true_or, if_true, if_false, Bool.false_eq_true, reduceIte, decide_true, decide_false, List.mem_cons, List.not_mem_nil, true_or, or_true, false_or, or_false, true_and, and_true, and_self, String.reduceEq, decide_eq_true_eq, not_true, not_false_iff, eq_self_iff_true, isNon_non, isNon_int, isNon_o, Nat.zero_le, sz1, sz2, sz3, sz4, Int.cast_ofNat_Int, Int.reduceEq, Int.reduceLT, Int.reduceLE, Int.reduceAdd, Int.reduceSub, Int.reduceNeg, $[$es:term],*]))
theorem hd {r : FRec} (i : Nat) (h : recs[i]? = some r) : Hd (prgOf recs) r := look_prg (by decide +kernel) (List.mem_of_getElem? h)
mutual
theorem eqT_refl : ∀ t : T, eqT t t = true
  | .non => rfl
  | .bl a => by simp [eqT]
  | .int a => by simp [eqT]
  | .str a => by simp [eqT]
  | .tup ts => by simp only [eqT]; exact eqTs_refl ts
  | .lst ts => by simp only [eqT]; exact eqTs_refl ts
theorem eqTs_refl : ∀ ts : List T, eqTs ts ts = true
  | [] => rfl
  | t :: ts => by simp only [eqTs, eqT_refl t, eqTs_refl ts, Bool.and_self]
end
theorem tEq_same {h : Hs} {v : Tv} {t : T} {k : Bool → Prop} (e : trT h deep v = some t) (q : k true) : tEq h v v k := by
  unfold tEq
  rw [e]
  show k (eqT t t)
  rw [eqT_refl]; exact q
theorem cut_take {α : Type} {xs : List α} {j : Nat} (hj : j ≤ xs.length) : cutL xs none (some (j : Int)) = xs.take j := by
  unfold cutL sIx
  simp only [List.drop_zero, Nat.sub_zero]
  rw [if_neg (by omega)]
  congr 1
  simp; omega
theorem rep_odd {x : Tv} : ∀ n, (List.replicate n [x]).flatten = List.replicate n x := rep_flat x
theorem law_t (ns : List Int) : trun (prgOf recs) 12 "" "law" [.frz ns] [] (fun v _ => v = .bl true) (fun _ _ => False) := by
  have d0 := hd 0 rfl
  have d1 := hd 1 rfl
  have d2 := hd 2 rfl
  have d3 := hd 3 rfl
  have d4 := hd 4 rfl
  have d5 := hd 5 rfl
  have d6 := hd 6 rfl
  have d7 := hd 7 rfl
  have d8 := hd 8 rfl
  have d9 := hd 9 rfl
  have d10 := hd 10 rfl
  have d11 := hd 11 rfl
  have d13 := hd 13 rfl
  have d14 := hd 14 rfl
  have d15 := hd 15 rfl
  have d16 := hd 16 rfl
  refine call_of d16 rfl rfl rfl ?_
  unfold F_law_v7
  decreasing_trivial_pre_omega
  refine sp_start d7 fun m hm1 hm2 => ?_
  exists tS
  rw [tSs_c]
  exists tS
  refine tRng_natZ 6 rfl (by decide) ?_
  refine tFor_rng' (fun _ τ h' => ∃ (s : Dr) (x2 x3 x4 x5 x6 x7 x8 x9 x10 x11 x12 x13 x14 x15 x16 x17 : Option Tv), τ = [some (.frz ns), some (.obj 0), x2, x3, x4, x5, x6, x7, x8, x9, x10, x11, x12, x13, x14, x15, x16, x17] ∧ h'[0]? = some s.to ∧ s.ok)
    ⟨⟨ns, 0, m, 0⟩, none, none, none, none, none, none, none, none, none, none, none, none, none, none, none, none, rfl, rfl, hm1, hm2, Int.le_refl 0⟩ (fun τ h' I => ?_) (fun j τ h' K hj I hk => ?_)
  · obtain ⟨s, x2, x3, x4, x5, x6, x7, x8, x9, x10, x11, x12, x13, x14, x15, x16, x17, rfl, o⟩ := I
    decreasing_trivial_pre_omega
    exact gc0 rfl
  · obtain ⟨s, x2, x3, x4, x5, x6, x7, x8, x9, x10, x11, x12, x13, x14, x15, x16, x17, rfl, hs, o⟩ := I
    decreasing_trivial_pre_omega
    generalize ((j : Nat) : Int) = j0 at *
    refine sp_drawnZ (z := 7) d8 (s := s) o hs (by omega) fun r s1 hr o1 n1 g1 => ?_
    exists tS
    obtain ⟨n, hn, hn2⟩ : ∃ n : Nat, (2 : Int) + (r : Nat) = (n : Nat) ∧ 2 ≤ n ∧ n ≤ 8 := ⟨2 + r, by omega, by omega, by omega⟩
    rw [hn]
    generalize h'.set 0 s1.to = h1 at *
    rw [tSs_c]
    exists tS
    refine sp_ties d10 d8 (s := s1) o1 g1 hn2 fun ts s2 tk tl o2 n2 => ?_
    have g2 := set_get (o' := s2.to) g1
    generalize h1.set 0 s2.to = h2 at *
    rw [tSs_c]
    exists tS
    refine sp_near d11 (by omega) ?_
    rw [frz_obj (vs := (List.range n).map fun a => Enc.tv (nearOf n (adj ts) a)) (by simp)]
    have g3 : ((h2 ++ [To.lst ((List.range n).map fun a => Enc.tv (nearOf n (adj ts) a))]).set h2.length .dead)[0]? = some s2.to := by
      have h0 := (List.getElem?_eq_some_iff.mp g2).1
      rw [List.set_append_right _ _ (Nat.le_refl _), List.getElem?_append_left h0]; exact g2
    generalize (h2 ++ [To.lst ((List.range n).map fun a => Enc.tv (nearOf n (adj ts) a))]).set h2.length .dead = h3 at *
    rw [tSs_c]
    exists tS
    refine sp_drawnZ (z := 3) d8 (s := s2) o2 g3 (by omega) fun r4 s4 hr4 o4 n4 g4 => ?_
    exists tS
    generalize h3.set 0 s4.to = h4 at *
    refine tRng_natZ (1 + r4) (by omega) (by omega) ?_
    refine tItems_inv (e := fun k : Nat => Tv.int (k : Nat)) (its := List.range (1 + r4)) (fun j acc h' => ∃ (xs : List Nat) (s : Dr), acc = xs.map Enc.tv ∧ xs.length = j ∧ (∀ x ∈ xs, x < n) ∧ h'[0]? = some s.to ∧ s.ok) (fun acc h5 I => ?_) (fun j x acc h5 K2 hj2 I hk2 => ?_) ⟨[], s4, rfl, rfl, by simp, g4, o4⟩
    · obtain ⟨has, s5, rfl, hl1, hx1, g5, o5⟩ := I
      rw [List.length_range] at hl1
      rw [tSs_c]
      exists tS
      refine sp_lrows d13 d8 (s := s5) o5 g5 hn2.2 hx1 (by omega) fun rs s6 hr1 hrl o6 n6 => ?_
      have g6 := set_get (o' := s6.to) g5
      generalize h5.set 0 s6.to = h6 at *
      rw [tSs_c]
      exists tS
      refine tItems_pure (e := Enc.tv) (p := fun _ => true) (f := fun r : Nat × Nat => Enc.tv r.2) rs [] (fun y hy K3 K4 k3 k4 => ?_) (by simp [szLine]; omega) ?_
      · have et : (Enc.tv y : Tv) = .tup [.int (y.1 : Nat), .int (y.2 : Nat)] := rfl
        rw [et]
        decreasing_trivial_pre_omega
        exact k3 rfl
      · rw [List.nil_append, List.filter_eq_self.mpr fun _ _ => rfl]
        exists tS
        refine ⟨by simp only [List.length_map, szLine]; omega, ?_⟩
        have esome : (rs.map (fun r : Nat × Nat => (Enc.tv r.2 : Tv)) ++ has.map Enc.tv) = (rs.map (·.2) ++ has).map Enc.tv := by rw [List.map_append, List.map_map]; rfl
        rw [esome]
        have hsm : ∀ x ∈ rs.map (·.2) ++ has, x < n := fun x hx => by
          rcases List.mem_append.mp hx with hx | hx
          · obtain ⟨y, hy, rfl⟩ := List.mem_map.mp hx; exact (hr1 y hy).2
          · exact hx1 x hx
        have hsl : 0 < (rs.map (·.2) ++ has).length ∧ (rs.map (·.2) ++ has).length < 100 := by simp; omega
        generalize rs.map (·.2) ++ has = som at *
        rw [tSs_c]
        exists tS
        refine sp_drawnZ (z := 5) d8 (s := s6) o6 g6 (by omega) fun r7 s7 hr7 o7 n7 g7 => ?_
        exists tS
        generalize h6.set 0 s7.to = h7 at *
        refine tRng_natZ r7 rfl (by omega) ?_
        refine tItems_inv (e := fun k : Nat => Tv.int (k : Nat)) (its := List.range r7) (fun j acc h' => ∃ (xs : List Nat) (s : Dr), acc = xs.map Enc.tv ∧ xs.length = j ∧ (∀ x ∈ xs, x < n) ∧ h'[0]? = some s.to ∧ s.ok) (fun acc h8 I => ?_) (fun j x acc h8 K2 hj2 I hk2 => ?_) ⟨[], s7, rfl, rfl, by simp, g7, o7⟩
        · obtain ⟨ws, s8, rfl, hl8, hx8, g8, o8⟩ := I
          rw [List.length_range] at hl8
          have hw0 : h8.length ≠ 0 := by
            have := (List.getElem?_eq_some_iff.mp g8).1; omega
          refine tSs_cut (fun δ h' => ∃ (ws : List Nat) (s : Dr), δ = [some (.frz ns), some (.obj 0), some (.int j0), some (.int (n : Nat)), some (.lst (ts.map Enc.tv)), some (.lst ((List.range n).map fun a => Enc.tv (nearOf n (adj ts) a))), some (.lst (has.map Enc.tv)), some (.lst (rs.map Enc.tv)), some (.lst (som.map Enc.tv)), some (.obj h8.length), x10, x11, x12, x13, x14, x15, x16, x17] ∧
            h'[0]? = some s.to ∧ s.ok ∧ h'[h8.length]? = some (.lst (ws.map Enc.tv)) ∧ (∀ x ∈ ws, x < n) ∧ ws.length ≤ 10) (fun δ h' I => ?_) (fun T hT => ?_)
          · obtain ⟨ws, s9, rfl, g9, o9, gw, hw1, hw2⟩ := I
            rw [tSs_c]
            exists tS, frz_obj gw
            have ga : (h'.set h8.length To.dead)[0]? = some s9.to := by rw [List.getElem?_set_ne hw0]; exact g9
            generalize h'.set h8.length .dead = ha at *
            refine sp_drawnZ (z := 4) d8 (s := s9) o9 ga (by omega) fun rb sb hrb ob nb gb => ?_
            exists tS
            generalize ha.set 0 sb.to = hb at *
            refine tRng_natZ rb rfl (by omega) ?_
            refine tFor_rng' (fun m τ h' => ∃ (rs : List (Nat × Nat)) (s : Dr) (x10 : Option Tv), τ = [some (.frz ns), some (.obj 0), some (.int j0), some (.int (n : Nat)), some (.lst (ts.map Enc.tv)), some (.lst ((List.range n).map fun a => Enc.tv (nearOf n (adj ts) a))), some (.lst (has.map Enc.tv)), some (.lst (rs.map Enc.tv)), some (.lst (som.map Enc.tv)), some (.lst (ws.map Enc.tv)), x10, x11, x12, x13, x14, x15, x16, x17] ∧
              h'[0]? = some s.to ∧ s.ok ∧ (∀ r ∈ rs, okRow n r) ∧ rs.length < 10 * 3 ^ m) ⟨rs, sb, x10, rfl, gb, ob, hr1, by omega⟩ (fun τ h' I => ?_) (fun m τ h' K3 hm I hk3 => ?_)
            · obtain ⟨rs, sc, x10, rfl, gc, oc, hr1, hrl⟩ := I
              have hrl : rs.length < 300 := by
                have : 3 ^ rb ≤ 3 ^ 3 := Nat.pow_le_pow_right (by decide) (by omega)
                omega
              exists tS
              rw [tSs_c]
              exists tS
              have hsh : ∀ {Q : Tq} {W : Tw}, Q (.bl (doesB (nearOf n (adj ts)) ws has rs)) h' → trun (prgOf recs) 11 "" "shows" [.int n, .lst (ts.map Enc.tv), .lst (has.map Enc.tv), .lst (ws.map Enc.tv), .lst (rs.map Enc.tv)] h' Q W := fun {Q W} q => by
                have := sp_shows (k := 7) (es := []) (W := W) d6 d0 d1 d2 d3 d4 d5 hn2 tk hx1 hw1 hr1 (by omega) (by omega) (.inl ⟨rfl, q⟩) (by simp)
                rw [List.append_nil] at this
                exact this
              rw [tSs_c]
              exists tS
              refine hsh ?_
              refine sp_does (k := 10) d15 hr1 (by omega) (by omega) ?_
              refine same_flat (k := 10) d9 (v := .bl (doesB (nearOf n (adj ts)) ws has rs)) rfl ?_
              exists tSs_n
              rw [tSs_c]
              exists tS
              have ehd : trT h' deep (.lst [.lst (ts.map Enc.tv), .lst (has.map Enc.tv), .lst (ws.map Enc.tv), .lst (rs.map Enc.tv)]) = some (.lst [Enc.tr ts, Enc.tr has, Enc.tr ws, Enc.tr rs]) := by
                have e1 := Enc.trT h' 11 ts (by decide)
                have e2 := Enc.trT h' 11 has (by decide)
                have e3 := Enc.trT h' 11 ws (by decide)
                have e4 := Enc.trT h' 11 rs (by decide)
                show (optL ([Enc.tv ts, Enc.tv has, Enc.tv ws, Enc.tv rs].map (trT h' 11))).map T.lst = _
                simp only [List.map_cons, List.map_nil, e1, e2, e3, e4, optL, Option.map_some]
              refine tEq_same ehd ?_
              exists tSs_n
              rw [tSs_c]
              exists tS
              rw [List.length_map]
              refine sp_drawnZ d8 (s := sc) oc gc (by omega) fun at_ sd hat od nd gd => ?_
              exists tS
              generalize h'.set 0 sd.to = hd' at *
              rw [tSs_c]
              exists tS
              refine ⟨by decide, ?_⟩
              rw [show (10 : Int) ^ Int.toNat 18 = 1000000000000000000 from by decide]
              refine sp_drawnZ (z := 1000000000000000000) d8 (s := sd) od gd (by decide) fun rf se hrf oe ne ge => ?_
              exists tS
              generalize hd'.set 0 se.to = he at *
              rw [tSs_c]
              exists tS
              refine ⟨by simp [szLine], ?_⟩
              refine sp_drawnZ (z := 7) d8 (s := se) oe ge (by decide) fun rg sg hrg og ng gg => ?_
              exists tS
              generalize he.set 0 sg.to = hg at *
              refine atL_all (by simpa using (by omega : rg < 7)) fun odd hodd => ?_
              have hat2 : at_ ≤ rs.length := by omega
              have ho : oddRow n odd := by
                simp only [List.mem_cons, List.not_mem_nil, or_false] at hodd
                rcases hodd with rfl | rfl | rfl | rfl | rfl | rfl | rfl
                · exact ⟨_, rfl, .inl (by simp)⟩
                · exact ⟨_, rfl, .inl (by simp)⟩
                · exact ⟨_, rfl, .inl (by simp)⟩
                · exact ⟨_, rfl, .inr (.inl ⟨n, 0, rfl, by omega⟩)⟩
                · exact ⟨_, rfl, .inr (.inl ⟨0, _, rfl, by omega⟩)⟩
                · exact ⟨_, rfl, .inr (.inl ⟨_, 0, rfl, by omega⟩)⟩
                · exact ⟨_, rfl, .inr (.inr ⟨1, rfl⟩)⟩
              rw [tSs_c]
              exists tS, slc_nn, slc_ni, slc_in, slc_ii
              have c1 : (cutL (rs.map (Enc.tv : Nat × Nat → Tv)) none (some (at_ : Nat))).length ≤ rs.length := by rw [cutT_map, List.length_map]; exact cutL_len _ _ _
              have c2 : (cutL (rs.map (Enc.tv : Nat × Nat → Tv)) (some (at_ : Nat)) none).length ≤ rs.length := by rw [cutT_map, List.length_map]; exact cutL_len _ _ _
              refine ⟨by simp only [szLine]; omega, by simp only [List.length_append, List.length_cons, List.length_nil, szLine]; omega, ?_⟩
              refine sp_drawnZ (z := 2) d8 (s := sg) og gg (by decide) fun ri si hri oi ni gi => ?_
              exists tS
              generalize hg.set 0 si.to = hi at *
              refine ⟨by omega, by omega, by simp only [szLine]; omega, ?_⟩
              rw [Int.toNat_natCast, rep_flat]
              exists tS
              refine ⟨by simp only [List.length_append, List.length_cons, List.length_nil, List.length_replicate, szLine]; omega, ?_⟩
              rw [show cutL (rs.map (Enc.tv : Nat × Nat → Tv)) none (some (at_ : Nat)) ++ [odd] ++ cutL (rs.map (Enc.tv : Nat × Nat → Tv)) (some (at_ : Nat)) none ++ List.replicate ri (Tv.tup []) = (rs.take at_).map Enc.tv ++ odd :: (cutL (rs.map (Enc.tv : Nat × Nat → Tv)) (some (at_ : Nat)) none ++ List.replicate ri (Tv.tup [])) by rw [cutT_map (lo := none), cut_take hat2]; simp]
              rw [tSs_c]
              exists tS
              have htk : (rs.take at_).length = at_ := by simp; omega
              refine sp_shows (k := 7) (rs := rs.take at_) d6 d0 d1 d2 d3 d4 d5 hn2 tk hx1 hw1 (fun r hr => hr1 r (List.mem_of_mem_take hr)) (by omega) (by omega) (.inr ⟨odd, _, rfl, ho, .inr (.inl ⟨rfl, at_, by rw [htk], ?_⟩)⟩) (by simp; omega)
              exists tS
              refine sp_same d9 (k := 9) 1 (v := .tup [.str "BadRow", .int (at_ : Nat)]) (w := .tup [.str "BadRow", .int (at_ : Nat)]) (t := .tup [.str "BadRow", .int (at_ : Nat)]) ⟨show 2 < 2 ^ 24 by decide, trivial, trivial, trivial⟩ rfl rfl ?_
              exists tSs_n
              exact hk _ _ ⟨si, _, _, _, _, _, _, _, _, _, _, _, _, _, _, _, _, rfl, gi, oi⟩
            · obtain ⟨rs, sc, x10, rfl, gc, oc, hr1, hrl⟩ := I
              decreasing_trivial_pre_omega
              have h3 : 3 ^ m ≤ 3 ^ 3 := Nat.pow_le_pow_right (by decide) (by omega)
              refine sp_lspoilt d14 d8 (s := sc) oc gc hn2 hr1 (by omega) fun rs' sd q1 q2 od nd => ?_
              exists tSs_n
              exact hk3 _ _ ⟨rs', sd, _, rfl, set_get gc, od, q1, by rw [Nat.pow_succ]; omega⟩
          · exists tS
            refine sp_drawnZ (z := 4) d8 (s := s8) o8 (by rw [List.getElem?_append_left (by omega)]; exact g8) (by omega) fun r9 s9 hr9 o9 n9 g9 => ?_
            have gw : ((h8 ++ [To.lst (ws.map Enc.tv)]).set 0 s9.to)[h8.length]? = some (.lst (ws.map Enc.tv)) := by
              rw [List.getElem?_set_ne (Ne.symm hw0)]; simp
            generalize (h8 ++ [To.lst (ws.map Enc.tv)]).set 0 s9.to = h9 at *
            exists tS
            by_cases q9 : (r9 : Int) = 0
            · rw [if_pos q9]
              rw [tSs_c]
              exists tS
              rw [isLs_obj gw]
              refine ⟨trivial, ?_⟩
              refine sp_drawnZ (z := n) d8 (s := s9) o9 g9 (by omega) fun ra sa hra oa na ga => ?_
              have gw2 : (h9.set 0 sa.to)[h8.length]? = some (.lst (ws.map Enc.tv)) := by
                rw [List.getElem?_set_ne (Ne.symm hw0)]; exact gw
              rw [lm_app gw2]
              refine ⟨by rw [List.length_map]; simp only [szLine]; omega, ?_⟩
              exists tSs_n
              refine hT _ _ ⟨ws ++ [ra], sa, rfl, by rw [List.getElem?_set_ne hw0]; exact ga, oa, ?_, fun x hx => ?_, by simp; omega⟩
              · rw [List.getElem?_set_self (List.getElem?_eq_some_iff.mp gw2).1]; simp; rfl
              · rcases List.mem_append.mp hx with hx | hx
                · exact hx8 x hx
                · rw [List.mem_singleton.mp hx]; omega
            · rw [if_neg q9]
              exists tSs_n
              exact hT _ _ ⟨ws, s9, rfl, g9, o9, gw, hx8, by omega⟩
        · obtain ⟨xs, s8, rfl, hl8, hx8, g8, o8⟩ := I
          exists tS
          rw [List.length_map]
          refine sp_drawnZ d8 (s := s8) o8 g8 (by omega) fun ra sa hra oa na ga => ?_
          have hra' : ra < som.length := by omega
          exists tS
          rw [atL_nat (v := Enc.tv som[ra]) (by rw [List.getElem?_map, List.getElem?_eq_getElem hra']; rfl)]
          have hj3 := (List.getElem?_eq_some_iff.mp hj2).1
          rw [List.length_range] at hj3
          refine ⟨by rw [List.length_map]; simp only [szLine]; omega, hk2 _ _ ⟨xs ++ [som[ra]], sa, by simp, by simp; omega, fun x hx => ?_, ga, oa⟩⟩
          rcases List.mem_append.mp hx with hx | hx
          · exact hx8 x hx
          · rw [List.mem_singleton.mp hx]; exact hsm _ (List.getElem_mem hra')
    · obtain ⟨xs, s8, rfl, hl8, hx8, g8, o8⟩ := I
      exists tS
      refine sp_drawnZ (z := n) d8 (s := s8) o8 g8 (by omega) fun ra sa hra oa na ga => ?_
      have hj3 := (List.getElem?_eq_some_iff.mp hj2).1
      rw [List.length_range] at hj3
      refine ⟨by rw [List.length_map]; simp only [szLine]; omega, hk2 _ _ ⟨xs ++ [ra], sa, by simp; rfl, by simp; omega, fun x hx => ?_, ga, oa⟩⟩
      rcases List.mem_append.mp hx with hx | hx
      · exact hx8 x hx
      · rw [List.mem_singleton.mp hx]; omega
theorem law_spec (ns : List Int) (h : ns.length ≤ 63) : run (prgOf recs) 12 "" "law" [.frz ns] (fun _ => none) (fun d _ => d = .bl true) WF := law_of (law_t ns)
end Nf
set_option Elab.async false
set_option linter.all false
set_option maxRecDepth 100000
set_option maxHeartbeats 0
namespace Nf
open PySem PySem.Spec L2
open PyProof.Rows hiding St
def nms : List Str := ["NewsError", "BadRow", "BadText", "BadHouse", "BadDay", "BadWorth", "BadLife", "NotOwn", "BadLetter", "BadTies", "NoWay", "LEAST_HOUSES", "MOST_HOUSES", "is_number", "need_many", "need_house", "need_ties", "need_some", "beside", "shows", "_law_start", "_law_drawn", "_law_same", "_law_word", "_law_ties", "_law_near", "_law_met", "_law_rows", "_law_spoilt", "_law_does", "__name__"]
abbrev R : PySem.W.OpenRow := PySem.W.OpenLaw.row PySem.Challenge.rw_newsflood_k09_hand_ons_shown
def defOne (q : Option Str) : Stmt → List He.DefD
  | .FunctionDef n a b _ _ _ sc _ _ _ => (match q with
    | none => [⟨(n, none), n, n, a, b, sc, [], []⟩]
    | some c => [⟨(c, some n), n, c ++ "." ++ n, a, b, sc, [], []⟩])
  | _ => []
def defsOf : List Stmt → List He.DefD
  | [] => []
  | .ClassDef n _ _ b _ _ _ _ _ _ _ :: r => b.flatMap (defOne (some n)) ++ defsOf r
  | s :: r => defOne none s ++ defsOf r
def fnAll : List He.DefD := defsOf R.prog.main.body
def fn : List He.DefD := fnAll.filter fun d => (recs.map atOf).contains d.at_
theorem fn_sub : ∀ d ∈ fn, d ∈ fnAll := fun d h => (List.mem_filter.mp h).1
def fa : List He.Fa := faOf tab recs
theorem table_ok : tabOk tab recs = true := by decide +kernel
theorem defs_ok : defsOk tab recs fn recs = true := by decide +kernel
theorem more_ok : moreB tab fnAll = true := by decide +kernel
abbrev hk : PySem.W.Hook := hookY 4 fa fnAll (tsOf tab.tbs) (lamDefs tab) (exB tab)
def ob (s : PySem.W.SharedT) : He.AlX := obsY 4 fa fnAll (tsOf tab.tbs) (lamDefs tab) (exB tab) (HandSHeadRun.getT s)
theorem ob_eq (s : PySem.W.SharedT) : ob s = hk.obs s.abs := obsY_eq (HandSHeadRun.getT_eq s)
theorem head_run (w : World) : HandSHeadRun.RunEq R (PySem.W.view R.prog [34]) hk ob 6000 nms w := by
  intro os
  kernel_rfl
end Nf
set_option Elab.async false
set_option linter.all false
set_option maxRecDepth 100000
set_option maxHeartbeats 0
open PySem PySem.W PySem.Calls PyProof.Rows
theorem PySem.Challenge.cw_newsflood_k09_hand_ons_shown_holds : PySem.Challenge.rw_newsflood_k09_hand_ons_shown.Holds := by
  w_on; o_law
  refine HandSHeadRun.head_any (r := OpenLaw.row PySem.Challenge.rw_newsflood_k09_hand_ons_shown) (q := view (OpenLaw.row PySem.Challenge.rw_newsflood_k09_hand_ons_shown).prog [34]) (H := Nf.hk) (ob := Nf.ob) (M := 6000) (loose := Nf.nms) (d := HandSHeadRun.topDef (OpenLaw.row PySem.Challenge.rw_newsflood_k09_hand_ons_shown).prog 34) (kwd := []) Nf.ob_eq
    (by kernel_rfl) (fun s => by kernel_rfl) Nf.head_run (by kernel_rfl) (by kernel_rfl) (by kernel_rfl) (by rfl) (by first | assumption | decide +kernel) (by decide +kernel) ⟨rfl, rfl, rfl, rfl, rfl, by decide +kernel⟩ ?hw ?hc
  case hw => w_witness2
  case hc =>
    refine LamX.walk_ofTsE (l := PySem.Challenge.rw_newsflood_k09_hand_ons_shown) (n := 63) (k := 4 * 12) (x := Nf.os "_law_script") (CX := fun _ => L2.CX0) rfl (by decide) (by kernel_rfl) ⟨rfl, by decide, by decide⟩ ?F (fun _ _ _ _ _ z => z)
    intro w mg fa h Y G hmg0
    obtain ⟨K, KX, c⟩ := Y
    have hmg : mg (Nf.os "law") = some (.ref fa) := by
      have e : (HandSHeadRun.topDef (OpenLaw.row PySem.Challenge.rw_newsflood_k09_hand_ons_shown).prog 34).name = Nf.os "law" := by kernel_rfl
      rw [← e]
      exact hmg0
    exact ⟨K, KX, Nf.law_at (l := PySem.Challenge.rw_newsflood_k09_hand_ons_shown) (r := Nf.F_law_v7) (x := "_law_script") (k := 12) (n := 63) Nf.defs_ok Nf.fn_sub Nf.table_ok Nf.more_ok (List.mem_of_getElem? (i := 16) rfl) rfl rfl Nf.law_spec KX G hmg c⟩
