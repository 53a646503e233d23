import PyProof.Rows.All
import Wide.All
import OpenK.AllK
import Wide.FinOn
import HandS.ForMost
import HandS.ForExc
import HandS.IsInst
import HandS.TupAny
import HandS.TupMul
import HandS.Deep
import HandS.Style
import HandS.Wide
import HandS.WordsDict
import HandS.More
import HandS.Iter
import HandS.Codes
import PyProof.Rows.StrIntSpec
import HandS.Strs
import HandS.NoneIn
import HandS.Flow
import HandS.Words
import HandS.WordsExc
import HandS.Defaults
import KE.KStateDown
import HandS.Head0
import HandS.Head1
import HandS.Head2
import HandS.HeadEnd
import HandS.HeadHook1
import HandS.HeadHook2
import HandS.HeadHook3
import PySem.Challenge.RW_onceroom_k44_functions_of_anything
set_option Elab.async false
set_option linter.all false
set_option autoImplicit false
set_option maxRecDepth 100000
/-! UA: a small language of its own (position-free), and what its pieces ask (weakest preconditions over data as trees). No machine here. Lists that nobody writes are trees (rol). -/
namespace Tq
open PySem

/-- data as trees; rol: a list that nobody writes; ref: an object by its address -/
inductive D where
  | non
  | bl (b : Bool)
  | int (i : Int)
  | str (cs : List Nat)
  | tup (xs : List D)
  | rol (xs : List D)
  | scr (xs : List D)
  | ref (a : Nat)
  | ty (n : String)
  | glo (x : Str)
  deriving Inhabited
/-- keys of the simple dicts -/
inductive Ky where
  | i (n : Int)
  | s (cs : List Nat)
  deriving DecidableEq, Inhabited
def Ky.d : Ky → D
  | .i n => .int n
  | .s cs => .str cs
/-- what may stand at an address -/
inductive TO where
  | lst (xs : List D)
  | dK (kvs : List (Ky × D))
  | rdK (kvs : List (Ky × D))
  | ins (c : Str) (fs : List (Str × D))
  deriving Inhabited
abbrev TH := Nat → Option TO
def ups (h : TH) (a : Nat) (o : TO) : TH := fun b => if b = a then some o else h b
/-- what stands at a is out of sight -/
def del (h : TH) (a : Nat) : TH := fun b => if b = a then none else h b
theorem ups_same {h : TH} {a : Nat} {o : TO} : ups h a o a = some o := by unfold ups; rw [if_pos rfl]
theorem ups_ne {h : TH} {a b : Nat} {o : TO} (n : b ≠ a) : ups h a o b = h b := by unfold ups; rw [if_neg n]
/-- a smaller view -/
def Le (h k : TH) : Prop := ∀ a o, h a = some o → k a = some o
theorem Le.refl (h : TH) : Le h h := fun _ _ e => e
theorem Le.trans {h k l : TH} (a : Le h k) (b : Le k l) : Le h l := fun c o e => b c o (a c o e)
theorem Le.up {h : TH} {a : Nat} {o : TO} (e : h a = none) : Le h (ups h a o) := fun b u q => by
  have n : b ≠ a := fun z => by subst z; rw [e] at q; cases q
  rw [ups_ne n]; exact q
theorem Le.ups {h k : TH} {a : Nat} {o : TO} (l : Le h k) : Le (ups h a o) (ups k a o) := fun b u q => by
  by_cases n : b = a
  · subst n; rw [ups_same] at q ⊢; exact q
  · rw [ups_ne n] at q ⊢; exact l b u q
/-- an exception: its class, its own word -/
structure XN where
  cls : Str
  arg : Option D
abbrev Sl := List (Option D)
abbrev KQ := D → TH → Prop
abbrev EQ := XN → Sl → TH → Prop
abbrev FQ := XN → TH → Prop
/-- nothing is let out -/
def noE : EQ := fun _ _ _ => False
/-- the view may be made smaller -/
def wk (h : TH) (Q : TH → Prop) : Prop := ∃ k, Le k h ∧ Q k
theorem wk_self {h : TH} {Q : TH → Prop} (q : Q h) : wk h Q := ⟨h, Le.refl h, q⟩

inductive Bf where
  | len | max | min | int | tuple | list | sorted | all | any | sum | str | dict | abs
  deriving DecidableEq, Inhabited
inductive Ty where
  | str | int | bool | tuple | list | dict
  deriving DecidableEq, Inhabited
/-- methods of the built-in types -/
inductive Bm where
  | append | extend | lpop0 | lindex | dget | dpop | upper | split | join | replace | wget | sindex | strip
  deriving DecidableEq, Inhabited
inductive Tg where
  | nm (i : Nat)
  | tp (is : List Nat)
  deriving Inhabited
mutual
inductive Ex where
  | slot (i : Nat)
  | kint (i : Int)
  | kbl (b : Bool)
  | knon
  | kstr (cs : List Nat)
  | glo (x : Str)
  | bin (op : Operator) (a b : Ex)
  | neg (a : Ex)
  | not (a : Ex)
  | bop (conj : Bool) (a : Ex) (r : ExL)
  | orT (a b : Ex)
  | cmp (op : CmpOp) (a b : Ex)
  | chn (op op2 : CmpOp) (a b c : Ex)
  | ife (c a b : Ex)
  | ix (a b : Ex)
  | sl (a : Ex) (lo hi : ExO)
  | sl2 (a : Ex) (od : Bool)
  | tup (es : ExL)
  | lst (es : ExL)
  | lstR (es : ExL)
  | mkl (e : Ex)
  | frz (i : Nat)
  | dic (ps : ExP)
  | dsel (ps : ExP) (k d : Ex)
  | call (f : Str) (es : ExL)
  | blt (f : Bf) (es : ExL)
  | lset (e : Ex)
  | lzip (a b : Ex)
  | isi (a : Ex) (t : Ty)
  | isi2 (a : Ex) (ts : List Ty)
  | meth (c m f : Str) (o : Ex) (es : ExL)
  | bm (b : Bm) (o : Ex) (es : ExL)
  | new (c f : Str) (es : ExL)
  | fld (o : Ex) (c f : Str)
  | comp (elt : Ex) (tg : Tg) (it : It) (ifs : ExL) (own : List (Str × Nat))
  | compR (elt : Ex) (tg : Tg) (it : It) (ifs : ExL) (own : List (Str × Nat))
inductive ExL where
  | nil
  | cons (e : Ex) (r : ExL)
inductive ExP where
  | nil
  | cons (k v : Ex) (r : ExP)
inductive ExO where
  | no
  | yes (e : Ex)
inductive It where
  | of (e : Ex)
  | rng1 (a : Ex)
  | rng2 (a b : Ex)
  | rng3 (a b : Ex) (c : Int)
  | zip (a b : Ex)
  | enum (a : Ex)
end
mutual
inductive Sm where
  | set (i : Nat) (e : Ex)
  | setT (is : List Nat) (e : Ex)
  | par (i j : Nat) (a b : Ex)
  | setSub (o i e : Ex)
  | aug (i : Nat) (op : Operator) (e : Ex)
  | setF (o : Ex) (c f : Str) (e : Ex)
  | augF (o : Ex) (c f : Str) (op : Operator) (e : Ex)
  | ex (e : Ex)
  | iff (c : Ex) (a b : SmL)
  | whl (c : Ex) (b : SmL)
  | for (tg : Tg) (it : It) (b : SmL)
  | ret (e : Ex)
  | retN
  | pass
  | brk
  | cont
  | nev
  | rs (c : Str) (e : Ex)
inductive SmL where
  | nil
  | cons (s : Sm) (r : SmL)
end
instance : Inhabited Ex := ⟨.knon⟩
instance : Inhabited Sm := ⟨.pass⟩

/-! ### texts as lists of signs -/
def splC (c : Nat) : List Nat → List Nat → List (List Nat)
  | acc, [] => [acc]
  | acc, x :: r => if x = c then acc :: splC c [] r else splC c (acc ++ [x]) r
def upC (c : Nat) : Nat := if 97 ≤ c ∧ c ≤ 122 then c - 32 else c
def gluT (sep : List Nat) : List (List Nat) → List Nat
  | [] => []
  | [x] => x
  | x :: y :: r => x ++ (sep ++ gluT sep (y :: r))
/-- the first of this sign is left out -/
def dropC (c : Nat) : List Nat → List Nat
  | [] => []
  | x :: r => if x = c then r else x :: dropC c r
/-- figures of a number -/
def figsOf (n : Nat) : List Nat := if h : n < 10 then [48 + n] else figsOf (n / 10) ++ [48 + n % 10]
termination_by n
decreasing_by omega
def intTxt (i : Int) : List Nat := if i < 0 then 45 :: figsOf i.natAbs else figsOf i.natAbs

/-! ### what the operations ask -/
def LINE : Nat := 2 ^ 24
def need {α : Type} (o : Option α) (k : α → Prop) : Prop := match o with
  | some a => k a
  | none => False
theorem need_some {α : Type} (a : α) (k : α → Prop) : need (some a) k = k a := rfl
theorem need_none {α : Type} (k : α → Prop) : need (none : Option α) k = False := rfl
def ixN (n : Nat) (i : Int) : Option Nat := if 0 ≤ i then (if i < n then some i.toNat else none) else if -(n : Int) ≤ i then some (i + n).toNat else none
def atI {α : Type} (xs : List α) (i : Int) : Option α := (ixN xs.length i).bind fun j => xs[j]?
def sIx (n d : Nat) : Option Int → Nat
  | none => d
  | some v => if v < 0 then (v + (n : Int)).toNat else min v.toNat n
def cut {α : Type} (xs : List α) (lo hi : Option Int) : List α := (xs.drop (sIx xs.length 0 lo)).take (sIx xs.length xs.length hi - sIx xs.length 0 lo)
def ltL : List Nat → List Nat → Bool
  | [], [] => false
  | [], _ :: _ => true
  | _ :: _, [] => false
  | a :: x, b :: y => if a = b then ltL x y else decide (a < b)
/-- every second thing -/
def evs {α : Type} : List α → List α
  | [] => []
  | [x] => [x]
  | x :: _ :: r => x :: evs r
mutual
/-- no objects within -/
def pureD : D → Bool
  | .non => true
  | .bl _ => true
  | .int _ => true
  | .str _ => true
  | .tup xs => pureL xs
  | .rol xs => pureL xs
  | .scr _ => false
  | .ref _ => false
  | .ty _ => false
  | .glo _ => false
def pureL : List D → Bool
  | [] => true
  | x :: r => pureD x && pureL r
end
mutual
/-- == of data without objects -/
def eqv : D → D → Bool
  | .non, .non => true
  | .bl a, .bl b => a == b
  | .bl a, .int b => (if a then 1 else 0) == b
  | .int a, .bl b => a == (if b then 1 else 0)
  | .int a, .int b => a == b
  | .str a, .str b => a == b
  | .tup a, .tup b => eqvL a b
  | .rol a, .rol b => eqvL a b
  | _, _ => false
def eqvL : List D → List D → Bool
  | [], [] => true
  | x :: a, y :: b => eqv x y && eqvL a b
  | _, _ => false
end
mutual
/-- how deep -/
def dep : D → Nat
  | .tup xs => depL xs + 1
  | .rol xs => depL xs + 1
  | _ => 0
def depL : List D → Nat
  | [] => 0
  | x :: r => max (dep x) (depL r)
end
mutual
/-- texts within are of signs -/
def okD : D → Bool
  | .str cs => cs.all fun c => decide (c < 1114112)
  | .tup xs => okL xs
  | .rol xs => okL xs
  | _ => true
def okL : List D → Bool
  | [] => true
  | x :: r => okD x && okL r
end
/-- flat data -/
def flat : D → Bool
  | .non => true
  | .bl _ => true
  | .int _ => true
  | .str _ => true
  | _ => false
/-- data that == tells of -/
def goodD (x : D) : Prop := pureD x = true ∧ okD x = true ∧ dep x ≤ 60
/-- a list at the outermost place read -/
def res (h : TH) : D → Option D
  | .ref a => match h a with
    | some (.lst xs) => some (.rol xs)
    | _ => none
  | d => some d
def cmpD (h : TH) (x y : D) (k : Bool → Prop) : Prop := (flat x = true ∧ flat y = true ∧ k (eqv x y)) ∨ ((flat x = false ∨ flat y = false) ∧ need (res h x) fun x' => need (res h y) fun y' => goodD x' ∧ goodD y' ∧ k (eqv x' y'))
def toKy : D → Option Ky
  | .int n => some (.i n)
  | .str cs => some (.s cs)
  | _ => none
def look {α : Type} (kvs : List (Ky × α)) (k : Ky) : Option α := (kvs.find? fun p => decide (p.1 = k)).map (·.2)
def putK {α : Type} (kvs : List (Ky × α)) (k : Ky) (v : α) : List (Ky × α) := if (look kvs k).isSome then kvs.map fun p => if p.1 = k then (p.1, v) else p else kvs ++ [(k, v)]
def dropK {α : Type} (kvs : List (Ky × α)) (k : Ky) : List (Ky × α) := kvs.filter fun p => decide (p.1 ≠ k)
def mergeK {α : Type} (a b : List (Ky × α)) : List (Ky × α) := b.foldl (fun l p => putK l p.1 p.2) a
/-- a field's value anew -/
def putF (f : Str) (v : D) : List (Str × D) → List (Str × D)
  | [] => [(f, v)]
  | (g, u) :: r => if g = f then (f, v) :: r else (g, u) :: putF f v r

/-- what is known of the text: calls of its defs, its written dicts and constants -/
structure Env where
  fn : Str → List D → TH → KQ → FQ → Prop
  wd : Str → Option (List (List Nat × D))
  gl : Str → Option D
def wLook (w : List (List Nat × D)) (cs : List Nat) : Option D := (w.find? fun p => decide (p.1 = cs)).map (·.2)
def lstAt (h : TH) : D → Option (List D)
  | .rol xs => some xs
  | .ref a => match h a with
    | some (.lst xs) => some xs
    | _ => none
  | _ => none

def binT : Operator → D → D → TH → (D → Prop) → Prop
  | .Add, .int i, .int j, h, k => k (.int (i + j))
  | .Add, .str a, .str b, h, k => a.length + b.length ≤ LINE ∧ k (.str (a ++ b))
  | .Add, .tup a, .tup b, h, k => a.length + b.length ≤ LINE ∧ k (.tup (a ++ b))
  | .Add, .rol a, y, h, k => need (lstAt h y) fun b => a.length + b.length ≤ LINE ∧ k (.rol (a ++ b))
  | .Add, .ref p, y, h, k => need (lstAt h (.ref p)) fun a => need (lstAt h y) fun b => a.length + b.length ≤ LINE ∧ k (.rol (a ++ b))
  | .Sub, .int i, .int j, h, k => k (.int (i - j))
  | .Mult, .int i, .int j, h, k => ((-(2 ^ 64) < i ∧ i < 2 ^ 64) ∨ (-(2 ^ 64) < j ∧ j < 2 ^ 64)) ∧ k (.int (i * j))
  | .Mult, .str cs, .int j, h, k => 0 ≤ j ∧ j ≤ 1000000 ∧ cs.length ≤ 10 ∧ k (.str (List.replicate j.toNat cs).flatten)
  | .Mult, .tup xs, .int j, h, k => xs ≠ [] ∧ 2 ≤ j ∧ j ≤ 1000 ∧ xs.length ≤ 1000 ∧ k (.tup (List.replicate j.toNat xs).flatten)
  | .Mult, .rol xs, .int j, h, k => 0 ≤ j ∧ j ≤ 1000 ∧ xs.length ≤ 1000 ∧ k (.rol (List.replicate j.toNat xs).flatten)
  | .FloorDiv, .int i, .int j, h, k => 0 < j ∧ j < 1073741824 ∧ k (.int (i / j))
  | .Mod, .int i, .int j, h, k => 0 < j ∧ k (.int (i % j))
  | .Pow, .int i, .int j, h, k => 0 ≤ j ∧ j ≤ 1000000 ∧ i.natAbs < 2 ^ 64 ∧ k (.int (i ^ j.toNat))
  | _, _, _, _, _ => False
/-- x in a list or tuple of such things -/
def inSeq (x : D) (ys : List D) (k : Bool → Prop) : Prop := ((flat x = true ∧ ys.all flat = true) ∨ (goodD x ∧ goodD (.tup ys))) ∧ k (ys.any fun z => eqv z x)
def inT (P : Env) (h : TH) (x y : D) (k : Bool → Prop) : Prop := match y with
  | .tup ys => inSeq x ys k
  | .rol ys => inSeq x ys k
  | .str ys => match x with
    | .str [c] => k (decide (c ∈ ys))
    | _ => False
  | .ref a => match h a with
    | some (.lst ys) => inSeq x ys k
    | some (.dK kvs) => need (toKy x) fun q => k (look kvs q).isSome
    | some (.rdK kvs) => need (toKy x) fun q => k (look kvs q).isSome
    | _ => False
  | .glo g => need (P.wd g) fun w => match x with
    | .str cs => k (wLook w cs).isSome
    | _ => False
  | _ => False
def isNon : D → Bool
  | .non => true
  | _ => false
def isT : D → D → (Bool → Prop) → Prop
  | x, .non, k => k (isNon x)
  | .bl a, .bl b, k => k (a == b)
  | _, _, _ => False
def cmpT (P : Env) : CmpOp → D → D → TH → (Bool → Prop) → Prop
  | .Eq, x, y, h, k => cmpD h x y k
  | .NotEq, x, y, h, k => cmpD h x y fun b => k (!b)
  | .Lt, .int i, .int j, h, k => k (decide (i < j))
  | .LtE, .int i, .int j, h, k => k (decide (i ≤ j))
  | .Gt, .int i, .int j, h, k => k (decide (j < i))
  | .GtE, .int i, .int j, h, k => k (decide (j ≤ i))
  | .Is, x, y, h, k => isT x y k
  | .IsNot, x, y, h, k => isT x y fun b => k (!b)
  | .In, x, y, h, k => inT P h x y k
  | .NotIn, x, y, h, k => inT P h x y fun b => k (!b)
  | _, _, _, _, _ => False
def truT (h : TH) : D → (Bool → Prop) → Prop
  | .non, k => k false
  | .bl b, k => k b
  | .int i, k => k (i != 0)
  | .str cs, k => cs.length ≤ LINE ∧ k (!cs.isEmpty)
  | .tup xs, k => k (!xs.isEmpty)
  | .rol xs, k => k (!xs.isEmpty)
  | .ref a, k => match h a with
    | some (.lst xs) => k (!xs.isEmpty)
    | some (.dK kvs) => k (!kvs.isEmpty)
    | _ => False
  | _, _ => False
def ixT (P : Env) (x y : D) (h : TH) (k : D → Prop) : Prop := match x, y with
  | .tup xs, .int i => need (atI xs i) k
  | .rol xs, .int i => need (atI xs i) k
  | .scr xs, .int i => need (atI xs i) k
  | .str cs, .int i => cs.length ≤ LINE ∧ need (atI cs i) fun c => k (.str [c])
  | .ref a, y => match h a with
    | some (.lst xs) => match y with
      | .int i => need (atI xs i) k
      | _ => False
    | some (.dK kvs) => need (toKy y) fun q => need (look kvs q) k
    | some (.rdK kvs) => need (toKy y) fun q => need (look kvs q) k
    | _ => False
  | .glo g, .str cs => need (P.wd g) fun w => need (wLook w cs) k
  | _, _ => False
def slT (x : D) (lo hi : Option Int) (h : TH) (k : D → Prop) : Prop := match x with
  | .str cs => cs.length ≤ LINE ∧ k (.str (cut cs lo hi))
  | .tup xs => k (.tup (cut xs lo hi))
  | .rol xs => k (.rol (cut xs lo hi))
  | .scr xs => k (.rol (cut xs lo hi))
  | .ref a => match h a with
    | some (.lst xs) => k (.rol (cut xs lo hi))
    | _ => False
  | _ => False
/-- x[::2], x[1::2] -/
def sl2T (x : D) (od : Bool) (k : D → Prop) : Prop := match x with
  | .tup xs => xs.length ≤ 1000 ∧ k (.tup (evs (if od then xs.drop 1 else xs)))
  | .rol xs => xs.length ≤ 1000 ∧ k (.rol (evs (if od then xs.drop 1 else xs)))
  | _ => False
def lenT (h : TH) : D → (Nat → Prop) → Prop
  | .str cs, k => cs.length ≤ LINE ∧ k cs.length
  | .tup xs, k => k xs.length
  | .rol xs, k => k xs.length
  | .scr xs, k => k xs.length
  | .ref a, k => match h a with
    | some (.lst xs) => k xs.length
    | some (.dK kvs) => k kvs.length
    | _ => False
  | _, _ => False
/-- the numbers that figures write -/
def figs (cs : List Nat) : Option Int := if cs ≠ [] ∧ cs.length ≤ 4300 ∧ cs.all (fun c => decide (48 ≤ c) && decide (c ≤ 57)) = true then some ((cs.foldl (fun a c => a * 10 + (c - 48)) 0 : Nat) : Int) else none
def allInt : List D → Option (List Int)
  | [] => some []
  | .int i :: r => (allInt r).map (i :: ·)
  | _ => none
def allBl : List D → Option (List Bool)
  | [] => some []
  | .bl b :: r => (allBl r).map (b :: ·)
  | _ => none
def allStr : List D → Option (List (List Nat))
  | [] => some []
  | .str b :: r => (allStr r).map (b :: ·)
  | _ => none
def seqAt (h : TH) : D → Option (List D)
  | .tup xs => some xs
  | .rol xs => some xs
  | .scr xs => some xs
  | .ref a => match h a with
    | some (.lst xs) => some xs
    | _ => none
  | _ => none
/-- texts, rising -/
def sortedL : List (List Nat) → Bool
  | [] => true
  | [_] => true
  | a :: b :: r => !ltL b a && sortedL (b :: r)
/-- a list's things, or a text's signs -/
def seqT (h : TH) (d : D) (k : List D → Prop) : Prop := match d with
  | .str cs => cs.length ≤ LINE ∧ k (cs.map fun c => .str [c])
  | d => need (seqAt h d) k
def bltT : Bf → List D → TH → (D → Prop) → Prop
  | .len, [x], h, k => lenT h x fun n => k (.int n)
  | .max, [.int i, .int j], h, k => k (.int (if j > i then j else i))
  | .min, [.int i, .int j], h, k => k (.int (if j < i then j else i))
  | .int, [.int i], h, k => k (.int i)
  | .int, [.bl b], h, k => k (.int (if b then 1 else 0))
  | .int, [.str cs], h, k => need (figs cs) fun n => k (.int n)
  | .str, [.int i], h, k => i.natAbs < 2 ^ 1000 ∧ k (.str (intTxt i))
  | .tuple, [x], h, k => need (seqAt h x) fun xs => k (.tup xs)
  | .list, [x], h, k => need (seqAt h x) fun xs => k (.rol xs)
  | .all, [x], h, k => need (lstAt h x) fun xs => need (allBl xs) fun bs => k (.bl (bs.all id))
  | .any, [x], h, k => need (lstAt h x) fun xs => need (allBl xs) fun bs => k (.bl (bs.any id))
  | .sum, [x], h, k => need (lstAt h x) fun xs => need (allInt xs) fun ns => k (.int ns.sum)
  | .sorted, [.ref a], h, k => match h a with
    | some (.dK kvs) => need (allStr (kvs.map fun p => p.1.d)) fun ks => ks.length < 64 ∧ ∀ ys, ys.Perm ks → sortedL ys = true → k (.rol (ys.map D.str))
    | _ => False
  | _, _, _, _ => False
/-- how many unlike ones -/
def uniq (l : List (List Nat)) : List (List Nat) := l.foldl (fun a x => if x ∈ a then a else a ++ [x]) []
def isiT (h : TH) (t : Ty) : D → Option Bool
  | .non => some false
  | .bl _ => some (t == .bool || t == .int)
  | .int _ => some (t == .int)
  | .str _ => some (t == .str)
  | .tup _ => some (t == .tuple)
  | .rol _ => some (t == .list)
  | .ref a => match h a with
    | some (.lst _) => some (t == .list)
    | some (.dK _) => some (t == .dict)
    | _ => none
  | _ => none
def isiL (h : TH) (d : D) : List Ty → Option Bool
  | [] => some false
  | t :: r => (isiT h t d).bind fun b => (isiL h d r).map fun c => b || c
def bmT (P : Env) : Bm → D → List D → TH → KQ → Prop
  | .append, .ref a, [v], h, Q => match h a with
    | some (.lst xs) => xs.length < LINE ∧ Q .non (ups h a (.lst (xs ++ [v])))
    | _ => False
  | .dget, .ref a, [k], h, Q => match h a with
    | some (.dK kvs) => need (toKy k) fun q => Q ((look kvs q).getD .non) h
    | _ => False
  | .dget, .ref a, [k, v], h, Q => match h a with
    | some (.dK kvs) => need (toKy k) fun q => Q ((look kvs q).getD v) h
    | _ => False
  | .upper, .str cs, [], h, Q => cs.length ≤ 1000000 ∧ cs.all (fun c => decide (c < 128)) = true ∧ Q (.str (cs.map upC)) h
  | .split, .str cs, [.str [c]], h, Q => c < 128 ∧ cs.length ≤ 1000000 ∧ Q (.rol ((splC c [] cs).map D.str)) h
  | .join, .str cs, [x], h, Q => need (seqAt h x) fun xs => need (allStr xs) fun ys => (ys.map List.length).sum + ys.length * cs.length ≤ LINE ∧ Q (.str (gluT cs ys)) h
  | .wget, .glo g, [.str cs], h, Q => need (P.wd g) fun w => Q ((wLook w cs).getD .non) h
  | .replace, .str cs, [.str [c], .str [], .int 1], h, Q => cs.length ≤ 10000 ∧ Q (.str (dropC c cs)) h
  | .sindex, .str cs, [.str [c]], h, Q => cs.length ≤ 10000 ∧ c ∈ cs ∧ Q (.int (cs.idxOf c : Nat)) h
  | _, _, _, _, _ => False
/-- of what sort the receiver is, ahead of the arguments -/
def isLst (h : TH) (a : Nat) : Prop := match h a with
  | some (.lst _) => True
  | _ => False
def isDic (h : TH) (a : Nat) : Prop := match h a with
  | some (.dK _) => True
  | _ => False
def bmPre (P : Env) : Bm → D → TH → Prop
  | .append, .ref a, h => isLst h a
  | .dget, .ref a, h => isDic h a
  | .upper, .str _, _ => True
  | .split, .str _, _ => True
  | .join, .str _, _ => True
  | .wget, .glo g, _ => (P.wd g).isSome = true
  | .replace, .str _, _ => True
  | .sindex, .str _, _ => True
  | _, _, _ => False
/-- xs[i] = v, d[k] = v -/
def setT (o i v : D) (h : TH) (k : TH → Prop) : Prop := match o with
  | .ref a => match h a with
    | some (.lst xs) => match i with
      | .int n => need (ixN xs.length n) fun j => k (ups h a (.lst (xs.set j v)))
      | _ => False
    | some (.dK kvs) => need (toKy i) fun q => kvs.length < LINE ∧ k (ups h a (.dK (putK kvs q v)))
    | _ => False
  | _ => False
/-- an instance of class c and its fields -/
def insAt (h : TH) (c : Str) : D → Option (Nat × List (Str × D))
  | .ref a => match h a with
    | some (.ins c' fs) => if c' = c then some (a, fs) else none
    | _ => none
  | _ => none
def bindT : Tg → D → Sl → (Sl → Prop) → Prop
  | .nm i, d, σ, k => k (σ.set i (some d))
  | .tp is, .tup xs, σ, k => xs.length = is.length ∧ k ((is.zip xs).foldl (fun s p => s.set p.1 (some p.2)) σ)
  | .tp is, .rol xs, σ, k => xs.length = is.length ∧ k ((is.zip xs).foldl (fun s p => s.set p.1 (some p.2)) σ)
  | _, _, _, _ => False
def wipe (σ : Sl) : List Nat → Sl
  | [] => σ
  | v :: vs => (wipe σ vs).set v none
structure Ends where
  nx : Sl → TH → Prop
  rt : KQ
  bk : Sl → TH → Prop
  ct : Sl → TH → Prop
/-- a comprehension's turns: p the list that is made, g what the walk leans on -/
def loopC (p : Nat) (g : TH → Prop) (step : D → TH → (D → TH → Prop) → (TH → Prop) → Prop) : List D → TH → (TH → Prop) → Prop
  | [], h, done => g h ∧ done h
  | d :: ds, h, done => g h ∧ step d h (fun v h' => ∃ acc, h' p = some (.lst acc) ∧ acc.length < LINE ∧ wk (ups h' p (.lst (acc ++ [v]))) fun k => loopC p g step ds k done) fun h' => wk h' fun k => loopC p g step ds k done
/-- .. whose list nobody else sees -/
def loopR (g : TH → Prop) (step : D → TH → (D → TH → Prop) → (TH → Prop) → Prop) : List D → List D → TH → (List D → TH → Prop) → Prop
  | [], acc, h, done => g h ∧ done acc h
  | d :: ds, acc, h, done => g h ∧ step d h (fun v h' => acc.length < LINE ∧ loopR g step ds (acc ++ [v]) h' done) fun h' => loopR g step ds acc h' done
/-- a for's turns -/
def loopL (g : TH → Prop) (step : D → Sl → TH → (Sl → TH → Prop) → Prop) : List D → Sl → TH → (Sl → TH → Prop) → Prop
  | [], σ, h, done => g h ∧ done σ h
  | d :: ds, σ, h, done => g h ∧ step d σ h fun σ' h' => wk h' fun k => loopL g step ds σ' k done
/-- a while's, n at most -/
def loopW (test : Sl → TH → (Bool → TH → Prop) → Prop) (step : Sl → TH → (Sl → TH → Prop) → Prop) (done : Sl → TH → Prop) : Nat → Sl → TH → Prop
  | 0, _, _ => False
  | n + 1, σ, h => test σ h fun b h1 => if b = true then step σ h1 fun σ' h' => wk h' fun k => loopW test step done n σ' k else done σ h1
/-- a range's numbers -/
def rngL (lo : Int) (n : Nat) : List D := (List.range n).map fun i => D.int (lo + (i : Nat))
def rngC (lo c : Int) (n : Nat) : List D := (List.range n).map fun i => D.int (lo + (i : Nat) * c)
/-- what is walked: the things, and what must stay -/
def walkT (d : D) (h : TH) (k : List D → (TH → Prop) → Prop) : Prop := match d with
  | .tup xs => k xs fun _ => True
  | .rol xs => k xs fun _ => True
  | .scr xs => k xs fun _ => True
  | .str cs => cs.length ≤ LINE ∧ k (cs.map fun c => D.str [c]) fun _ => True
  | .ref a => match h a with
    | some (.lst xs) => k xs fun h' => h' a = some (.lst xs)
    | _ => False
  | _ => False
def zipT (x y : D) (k : List D → Prop) : Prop := match x, y with
  | .rol xs, .rol ys => k ((xs.zip ys).map fun p => D.tup [p.1, p.2])
  | .tup xs, .tup ys => k ((xs.zip ys).map fun p => D.tup [p.1, p.2])
  | _, _ => False
def enumT (x : D) (k : List D → Prop) : Prop := match x with
  | .rol xs => k ((xs.zipIdx).map fun p => D.tup [.int (p.2 : Nat), p.1])
  | _ => False
mutual
def wE (P : Env) : Ex → Sl → TH → KQ → EQ → Prop
  | .slot i, σ, h, Q, E => need (σ[i]?.join) fun v => Q v h
  | .kint i, σ, h, Q, E => Q (.int i) h
  | .kbl b, σ, h, Q, E => Q (.bl b) h
  | .knon, σ, h, Q, E => Q .non h
  | .kstr cs, σ, h, Q, E => Q (.str cs) h
  | .glo x, σ, h, Q, E => need (P.gl x) fun v => Q v h
  | .bin op a b, σ, h, Q, E => wE P a σ h (fun x h1 => wE P b σ h1 (fun y h2 => binT op x y h2 fun d => Q d h2) E) E
  | .neg a, σ, h, Q, E => wE P a σ h (fun x h1 => match x with | .int i => Q (.int (-i)) h1 | _ => False) E
  | .not a, σ, h, Q, E => wE P a σ h (fun x h1 => truT h1 x fun b => Q (.bl (!b)) h1) E
  | .bop c a r, σ, h, Q, E => wE P a σ h (fun x h1 => match x with | .bl b => if b = c then wB P c r σ h1 Q E else Q (.bl b) h1 | _ => False) E
  | .orT a b, σ, h, Q, E => wE P a σ h (fun x h1 => truT h1 x fun t => if t = true then Q x h1 else wE P b σ h1 Q E) E
  | .cmp op a b, σ, h, Q, E => wE P a σ h (fun x h1 => wE P b σ h1 (fun y h2 => cmpT P op x y h2 fun t => Q (.bl t) h2) E) E
  | .chn op op2 a b c, σ, h, Q, E => wE P a σ h (fun x h1 => wE P b σ h1 (fun y h2 => cmpT P op x y h2 fun t => if t = true then wE P c σ h2 (fun z h3 => cmpT P op2 y z h3 fun t => Q (.bl t) h3) E else Q (.bl false) h2) E) E
  | .ife c a b, σ, h, Q, E => wT P c σ h (fun t h1 => if t = true then wE P a σ h1 Q E else wE P b σ h1 Q E) E
  | .ix a b, σ, h, Q, E => wE P a σ h (fun x h1 => wE P b σ h1 (fun y h2 => ixT P x y h2 fun d => Q d h2) E) E
  | .sl a lo hi, σ, h, Q, E => wE P a σ h (fun x h1 => wO P lo σ h1 (fun l h2 => wO P hi σ h2 (fun u h3 => slT x l u h3 fun d => Q d h3) E) E) E
  | .sl2 a od, σ, h, Q, E => wE P a σ h (fun x h1 => sl2T x od fun d => Q d h1) E
  | .tup es, σ, h, Q, E => wL P es σ h (fun ds h1 => ds.length ≤ LINE ∧ Q (.tup ds) h1) E
  | .lst es, σ, h, Q, E => wL P es σ h (fun ds h1 => ds.length ≤ LINE ∧ ∀ p, h1 p = none → Q (.ref p) (ups h1 p (.lst ds))) E
  | .lstR es, σ, h, Q, E => wL P es σ h (fun ds h1 => ds.length ≤ LINE ∧ Q (.rol ds) h1) E
  | .mkl e, σ, h, Q, E => wE P e σ h (fun x h1 => need (seqAt h1 x) fun xs => ∀ p, h1 p = none → Q (.ref p) (ups h1 p (.lst xs))) E
  | .frz i, σ, h, Q, E => need (σ[i]?.join) fun x => match x with
      | .ref a => match h a with
        | some (.lst xs) => Q (.rol xs) (del h a)
        | _ => False
      | _ => False
  | .dic ps, σ, h, Q, E => ∀ p, h p = none → wD P ps σ (ups h p (.dK [])) (fun ps h1 => h1 p = some (.dK []) ∧ Q (.ref p) (ups h1 p (.dK (mergeK [] ps)))) E
  | .dsel ps k d, σ, h, Q, E => wD P ps σ h (fun kvs h1 => wE P k σ h1 (fun x h2 => wE P d σ h2 (fun y h3 => need (toKy x) fun q => Q ((look (mergeK [] kvs) q).getD y) h3) E) E) E
  | .call f es, σ, h, Q, E => wL P es σ h (fun ds h1 => P.fn f ds h1 Q fun x h2 => E x σ h2) E
  | .blt f es, σ, h, Q, E => wL P es σ h (fun ds h1 => bltT f ds h1 fun d => Q d h1) E
  | .lset e, σ, h, Q, E => wE P e σ h (fun x h1 => need (seqAt h1 x) fun xs => need (allStr xs) fun ys => ys.length ≤ 1000 ∧ Q (.int ((uniq ys).length : Nat)) h1) E
  | .lzip a b, σ, h, Q, E => wE P a σ h (fun x h1 => wE P b σ h1 (fun y h2 => zipT x y fun l => Q (.rol l) h2) E) E
  | .isi a t, σ, h, Q, E => wE P a σ h (fun x h1 => need (isiT h1 t x) fun b => Q (.bl b) h1) E
  | .isi2 a ts, σ, h, Q, E => wE P a σ h (fun x h1 => need (isiL h1 x ts) fun b => Q (.bl b) h1) E
  | .meth c m f o es, σ, h, Q, E => wE P o σ h (fun x h1 => need (insAt h1 c x) fun r => r.2.lookup m = none ∧ wL P es σ h1 (fun ds h2 => P.fn f (x :: ds) h2 Q fun x h3 => E x σ h3) E) E
  | .bm b o es, σ, h, Q, E => wE P o σ h (fun x h1 => bmPre P b x h1 ∧ wL P es σ h1 (fun ds h2 => bmT P b x ds h2 Q) E) E
  | .new c f es, σ, h, Q, E => wL P es σ h (fun ds h1 => ∀ p, h1 p = none → P.fn f (.ref p :: ds) (ups h1 p (.ins c [])) (fun _ h2 => Q (.ref p) h2) fun x h3 => E x σ h3) E
  | .fld o c f, σ, h, Q, E => wE P o σ h (fun x h1 => need (insAt h1 c x) fun r => need (r.2.lookup f) fun v => Q v h1) E
  | .comp elt tg it ifs own, σ, h, Q, E => wI P it σ h (fun ds g h1 => ∀ p, h1 p = none →
      loopC p g (fun d h2 kv kn => bindT tg d (wipe σ (own.map (·.2))) fun σ2 => wC P ifs σ2 h2 (fun b h3 => if b = true then wE P elt σ2 h3 kv noE else kn h3) noE) ds (ups h1 p (.lst [])) fun h2 => Q (.ref p) h2) E
  | .compR elt tg it ifs own, σ, h, Q, E => wI P it σ h (fun ds g h1 =>
      loopR g (fun d h2 kv kn => bindT tg d (wipe σ (own.map (·.2))) fun σ2 => wC P ifs σ2 h2 (fun b h3 => if b = true then wE P elt σ2 h3 kv noE else kn h3) noE) ds [] h1 fun vs h2 => Q (.rol vs) h2) E
termination_by structural x => x
def wL (P : Env) : ExL → Sl → TH → (List D → TH → Prop) → EQ → Prop
  | .nil, σ, h, Q, E => Q [] h
  | .cons e r, σ, h, Q, E => wE P e σ h (fun d h1 => wL P r σ h1 (fun ds h2 => Q (d :: ds) h2) E) E
termination_by structural x => x
/-- a and b and .. as a value, behind the first -/
def wB (P : Env) (c : Bool) : ExL → Sl → TH → KQ → EQ → Prop
  | .nil, σ, h, Q, E => False
  | .cons e .nil, σ, h, Q, E => wE P e σ h Q E
  | .cons e r, σ, h, Q, E => wE P e σ h (fun x h1 => match x with | .bl b => if b = c then wB P c r σ h1 Q E else Q (.bl b) h1 | _ => False) E
termination_by structural x => x
/-- .. as a test -/
def wBT (P : Env) (c : Bool) : ExL → Sl → TH → (Bool → TH → Prop) → EQ → Prop
  | .nil, σ, h, Q, E => Q c h
  | .cons e r, σ, h, Q, E => wT P e σ h (fun b h1 => if b = c then wBT P c r σ h1 Q E else Q b h1) E
termination_by structural x => x
def wT (P : Env) : Ex → Sl → TH → (Bool → TH → Prop) → EQ → Prop
  | .not a, σ, h, Q, E => wT P a σ h (fun b h1 => Q (!b) h1) E
  | .bop c a r, σ, h, Q, E => wT P a σ h (fun b h1 => if b = c then wBT P c r σ h1 Q E else Q b h1) E
  | .cmp op a b, σ, h, Q, E => wE P a σ h (fun x h1 => wE P b σ h1 (fun y h2 => cmpT P op x y h2 fun t => Q t h2) E) E
  | .chn op op2 a b c, σ, h, Q, E => wE P a σ h (fun x h1 => wE P b σ h1 (fun y h2 => cmpT P op x y h2 fun t => if t = true then wE P c σ h2 (fun z h3 => cmpT P op2 y z h3 fun t => Q t h3) E else Q false h2) E) E
  | .slot i, σ, h, Q, E => need (σ[i]?.join) fun v => truT h v fun b => Q b h
  | .isi a t, σ, h, Q, E => wE P a σ h (fun x h1 => need (isiT h1 t x) fun b => Q b h1) E
  | .isi2 a ts, σ, h, Q, E => wE P a σ h (fun x h1 => need (isiL h1 x ts) fun b => Q b h1) E
  | .call f es, σ, h, Q, E => wL P es σ h (fun ds h1 => P.fn f ds h1 (fun x h2 => truT h2 x fun b => Q b h2) fun x h2 => E x σ h2) E
  | .meth c m f o es, σ, h, Q, E => wE P o σ h (fun x h1 => need (insAt h1 c x) fun r => r.2.lookup m = none ∧ wL P es σ h1 (fun ds h2 => P.fn f (x :: ds) h2 (fun x h2 => truT h2 x fun b => Q b h2) fun x h3 => E x σ h3) E) E
  | .blt f es, σ, h, Q, E => wL P es σ h (fun ds h1 => bltT f ds h1 fun x => truT h1 x fun b => Q b h1) E
  | .ix a b, σ, h, Q, E => wE P a σ h (fun x h1 => wE P b σ h1 (fun y h2 => ixT P x y h2 fun x => truT h2 x fun b => Q b h2) E) E
  | .bm b o es, σ, h, Q, E => wE P o σ h (fun x h1 => bmPre P b x h1 ∧ wL P es σ h1 (fun ds h2 => bmT P b x ds h2 fun x h2 => truT h2 x fun b => Q b h2) E) E
  | _, σ, h, Q, E => False
termination_by structural x => x
/-- the ifs of a comprehension -/
def wC (P : Env) : ExL → Sl → TH → (Bool → TH → Prop) → EQ → Prop
  | .nil, σ, h, Q, E => Q true h
  | .cons e r, σ, h, Q, E => wT P e σ h (fun b h1 => if b = true then wC P r σ h1 Q E else Q false h1) E
termination_by structural x => x
def wO (P : Env) : ExO → Sl → TH → (Option Int → TH → Prop) → EQ → Prop
  | .no, σ, h, Q, E => Q none h
  | .yes e, σ, h, Q, E => wE P e σ h (fun x h1 => match x with | .int i => Q (some i) h1 | _ => False) E
termination_by structural x => x
def wD (P : Env) : ExP → Sl → TH → (List (Ky × D) → TH → Prop) → EQ → Prop
  | .nil, σ, h, Q, E => Q [] h
  | .cons k v r, σ, h, Q, E => wE P k σ h (fun x h1 => wE P v σ h1 (fun y h2 => wD P r σ h2 (fun ps h3 => need (toKy x) fun q => Q ((q, y) :: ps) h3) E) E) E
termination_by structural x => x
def wI (P : Env) : It → Sl → TH → (List D → (TH → Prop) → TH → Prop) → EQ → Prop
  | .of e, σ, h, Q, E => wE P e σ h (fun d h1 => walkT d h1 fun ds g => Q ds g h1) E
  | .rng1 a, σ, h, Q, E => wE P a σ h (fun d h1 => match d with | .int n => -(2 ^ 62) ≤ n ∧ n < 2 ^ 62 ∧ Q (rngL 0 n.toNat) (fun _ => True) h1 | _ => False) E
  | .rng2 a b, σ, h, Q, E => wE P a σ h (fun x h1 => wE P b σ h1 (fun y h2 => match x, y with | .int m, .int n => -(2 ^ 62) ≤ m ∧ m < 2 ^ 62 ∧ -(2 ^ 62) ≤ n ∧ n < 2 ^ 62 ∧ Q (rngL m (n - m).toNat) (fun _ => True) h2 | _, _ => False) E) E
  | .rng3 a b c, σ, h, Q, E => wE P a σ h (fun x h1 => wE P b σ h1 (fun y h2 => match x, y with | .int m, .int n => 0 ≤ m ∧ m ≤ n ∧ n < 2 ^ 60 ∧ 0 < c ∧ c < 1000 ∧ Q (rngC m c ((n - m + c - 1) / c).toNat) (fun _ => True) h2 | _, _ => False) E) E
  | .zip a b, σ, h, Q, E => wE P a σ h (fun x h1 => wE P b σ h1 (fun y h2 => zipT x y fun l => Q l (fun _ => True) h2) E) E
  | .enum a, σ, h, Q, E => wE P a σ h (fun x h1 => enumT x fun l => Q l (fun _ => True) h1) E
termination_by structural x => x
end
mutual
def wS (P : Env) : Sm → Sl → TH → Ends → EQ → Prop
  | .set i e, σ, h, D, E => wE P e σ h (fun d h1 => D.nx (σ.set i (some d)) h1) E
  | .setT is e, σ, h, D, E => wE P e σ h (fun d h1 => bindT (.tp is) d σ fun σ' => D.nx σ' h1) E
  | .par i j a b, σ, h, D, E => wE P a σ h (fun x h1 => wE P b σ h1 (fun y h2 => D.nx ((σ.set i (some x)).set j (some y)) h2) E) E
  | .setSub o i e, σ, h, D, E => wE P e σ h (fun v h1 => wE P o σ h1 (fun x h2 => wE P i σ h2 (fun y h3 => setT x y v h3 fun h4 => D.nx σ h4) E) E) E
  | .aug i op e, σ, h, D, E => need (σ[i]?.join) fun v => wE P e σ h (fun w h1 => match v, w with
      | .int m, .int n => binT op (.int m) (.int n) h1 fun d => D.nx (σ.set i (some d)) h1
      | _, _ => False) E
  | .setF o c f e, σ, h, D, E => wE P e σ h (fun v h1 => wE P o σ h1 (fun x h2 => need (insAt h2 c x) fun r => r.2.length < 100 ∧ D.nx σ (ups h2 r.1 (.ins c (putF f v r.2)))) E) E
  | .augF o c f op e, σ, h, D, E => wE P o σ h (fun x h1 => need (insAt h1 c x) fun r => need (r.2.lookup f) fun v => wE P e σ h1 (fun w h2 => need (insAt h2 c x) fun r2 => r2.2.length < 100 ∧ (match v, w with
      | .int m, .int n => binT op (.int m) (.int n) h2 fun d => D.nx σ (ups h2 r2.1 (.ins c (putF f d r2.2)))
      | _, _ => False)) E) E
  | .ex e, σ, h, D, E => wE P e σ h (fun _ h1 => D.nx σ h1) E
  | .iff c a b, σ, h, D, E => wT P c σ h (fun t h1 => if t = true then wSs P a σ h1 D E else wSs P b σ h1 D E) E
  | .whl c b, σ, h, D, E => ∃ n, loopW (fun σ h k => wT P c σ h k E) (fun σ h k => wSs P b σ h { nx := k, rt := D.rt, bk := D.nx, ct := k } E) D.nx n σ h
  | .for tg it b, σ, h, D, E => wI P it σ h (fun ds g h1 => loopL g (fun d σ h k => bindT tg d σ fun σ' => wSs P b σ' h { nx := k, rt := D.rt, bk := D.nx, ct := k } E) ds σ h1 D.nx) E
  | .ret e, σ, h, D, E => wE P e σ h D.rt E
  | .retN, σ, h, D, E => D.rt .non h
  | .pass, σ, h, D, E => D.nx σ h
  | .brk, σ, h, D, E => D.bk σ h
  | .cont, σ, h, D, E => D.ct σ h
  | .nev, σ, h, D, E => False
  | .rs c e, σ, h, D, E => wE P e σ h (fun d h1 => match d with | .str _ => E ⟨c, none⟩ σ h1 | _ => False) E
termination_by structural x => x
def wSs (P : Env) : SmL → Sl → TH → Ends → EQ → Prop
  | .nil, σ, h, D, E => D.nx σ h
  | .cons s r, σ, h, D, E => wS P s σ h { nx := fun σ' h' => wSs P r σ' h' D E, rt := D.rt, bk := D.bk, ct := D.ct } E
termination_by structural x => x
end
/-! ### a text's defs -/
structure Fn where
  name : Str
  params : Nat
  names : List Str
  body : SmL
/-- a class: its name, its methods, its fields -/
structure Cl where
  name : Str
  meths : List Str
  flds : List Str
structure Pg where
  fns : List Fn
  wd : List (Str × List (List Nat × D))
  gl : List (Str × D)
  cls : List Cl := []
  exc : List Str := []
def Pg.get (p : Pg) (f : Str) : Option Fn := p.fns.find? fun x => decide (x.name = f)
def Pg.glv (p : Pg) (x : Str) : Option D := match p.wd.lookup x with
  | some _ => some (.glo x)
  | none => p.gl.lookup x
def Pg.env (p : Pg) (fn : Str → List D → TH → KQ → FQ → Prop) : Env := ⟨fn, fun x => p.wd.lookup x, fun x => p.glv x⟩
def entry (n : Nat) (ds : List D) : Sl := ds.map some ++ List.replicate (n - ds.length) none
def runB (P : Env) (f : Fn) (ds : List D) (h : TH) (Q : KQ) (E : FQ) : Prop :=
  ds.length = f.params ∧ wSs P f.body (entry f.names.length ds) h { nx := fun _ h' => wk h' (Q .non), rt := fun d h' => wk h' (Q d), bk := fun _ _ => False, ct := fun _ _ => False } fun x _ h' => wk h' (E x)
/-- what a call asks, n calls deep at most -/
def semF (p : Pg) : Nat → Str → List D → TH → KQ → FQ → Prop
  | 0, _, _, _, _, _ => False
  | n + 1, f, ds, h, Q, E => need (p.get f) fun fd => runB (p.env (semF p n)) fd ds h Q E
end Tq
/-! UR: what is asked at a view is asked at a related one: monotony and frames in one. -/
namespace Tq
open PySem
structure Rel (R : TH → TH → Prop) : Prop where
  at_ : ∀ {h h' a o}, R h h' → h a = some o → h' a = some o
  fr : ∀ {h h' : TH} {p : Nat}, R h h' → h' p = none → h p = none
  new : ∀ {h h' : TH} {p : Nat} {o : TO}, R h h' → h' p = none → R (ups h p o) (ups h' p o)
  put : ∀ {h h' : TH} {a : Nat} {u o : TO}, R h h' → h a = some u → R (ups h a o) (ups h' a o)
  wk_ : ∀ {h h' k : TH}, R h h' → Le k h → ∃ k', Le k' h' ∧ R k k'
  del : ∀ {h h' : TH} {a : Nat} {u : TO}, R h h' → h a = some u → R (Tq.del h a) (Tq.del h' a)
def FnR (fn : Str → List D → TH → KQ → FQ → Prop) : Prop := ∀ (R : TH → TH → Prop), Rel R → ∀ (f : Str) (ds : List D) (h h' : TH) (Q Q' : KQ) (E E' : FQ), R h h' → (∀ d h1 h2, R h1 h2 → Q d h1 → Q' d h2) → (∀ x h1 h2, R h1 h2 → E x h1 → E' x h2) → fn f ds h Q E → fn f ds h' Q' E'
theorem need_iff {α : Type} {o : Option α} {k : α → Prop} : need o k ↔ ∃ a, o = some a ∧ k a := by
  cases o with
  | none => exact ⟨fun h => h.elim, fun ⟨_, h, _⟩ => by cases h⟩
  | some a => exact ⟨fun h => ⟨a, rfl, h⟩, fun ⟨b, e, h⟩ => by cases e; exact h⟩
theorem need_imp {α : Type} {o o' : Option α} {k k' : α → Prop} (ho : ∀ a, o = some a → o' = some a) (i : ∀ a, k a → k' a) (h : need o k) : need o' k' := by
  obtain ⟨a, e, q⟩ := need_iff.mp h
  exact need_iff.mpr ⟨a, ho a e, i a q⟩
theorem need_i {α : Type} {o : Option α} {k k' : α → Prop} (i : ∀ a, k a → k' a) (h : need o k) : need o k' := need_imp (fun _ e => e) i h
section
variable {h h' : TH} (L : Le h h')
include L
theorem lstAt_le {d : D} {xs : List D} (e : lstAt h d = some xs) : lstAt h' d = some xs := by
  cases d with
  | ref a =>
    unfold lstAt at e ⊢
    simp only at e ⊢
    split at e
    · rename_i ys ea
      rw [L _ _ ea]
      exact e
    · cases e
  | _ => exact e
theorem seqAt_le {d : D} {xs : List D} (e : seqAt h d = some xs) : seqAt h' d = some xs := by
  cases d with
  | ref a =>
    unfold seqAt at e ⊢
    simp only at e ⊢
    split at e
    · rename_i ys ea
      rw [L _ _ ea]
      exact e
    · cases e
  | _ => exact e
theorem res_le {d x : D} (e : res h d = some x) : res h' d = some x := by
  cases d with
  | ref a =>
    unfold res at e ⊢
    simp only at e ⊢
    split at e
    · rename_i ys ea
      rw [L _ _ ea]
      exact e
    · cases e
  | _ => exact e
theorem isiT_le {t : Ty} {d : D} {b : Bool} (e : isiT h t d = some b) : isiT h' t d = some b := by
  cases d with
  | ref a =>
    unfold isiT at e ⊢
    simp only at e ⊢
    split at e
    · rename_i ys ea
      rw [L _ _ ea]
      exact e
    · rename_i ys ea
      rw [L _ _ ea]
      exact e
    · cases e
  | _ => exact e
theorem isiL_le {d : D} : ∀ {ts : List Ty} {b : Bool}, isiL h d ts = some b → isiL h' d ts = some b
  | [], b, e => e
  | t :: r, b, e => by
    unfold isiL at e ⊢
    cases q : isiT h t d with
    | none => rw [q] at e; cases e
    | some c =>
      rw [q] at e
      rw [isiT_le L q]
      cases q2 : isiL h d r with
      | none => rw [q2] at e; cases e
      | some c2 =>
        rw [q2] at e
        rw [isiL_le q2]
        exact e
theorem insAt_le {c : Str} {d : D} {r : Nat × List (Str × D)} (e : insAt h c d = some r) : insAt h' c d = some r := by
  cases d with
  | ref a =>
    unfold insAt at e ⊢
    simp only at e ⊢
    split at e
    · rename_i c' fs ea
      rw [L _ _ ea]
      exact e
    · cases e
  | _ => exact e
omit L in
theorem insAt_is {c : Str} {d : D} {r : Nat × List (Str × D)} (e : insAt h c d = some r) : d = .ref r.1 ∧ h r.1 = some (.ins c r.2) := by
  cases d with
  | ref a =>
    unfold insAt at e
    simp only at e
    split at e
    · rename_i c' fs ea
      split at e
      · rename_i ec
        subst ec
        cases e
        exact ⟨rfl, ea⟩
      · cases e
    · cases e
  | _ => cases e
theorem binT_le {op : Operator} {x y : D} {k k' : D → Prop} (i : ∀ d, k d → k' d) (q : binT op x y h k) : binT op x y h' k' := by
  have nn : ∀ {o1 o2 : Option (List D)} {o1' o2' : Option (List D)}, (∀ a, o1 = some a → o1' = some a) → (∀ a, o2 = some a → o2' = some a) →
      (need o1 fun a => need o2 fun b => a.length + b.length ≤ LINE ∧ k (.rol (a ++ b))) → (need o1' fun a => need o2' fun b => a.length + b.length ≤ LINE ∧ k' (.rol (a ++ b))) := fun f g z => need_imp f (fun a z => need_imp g (fun b z => ⟨z.1, i _ z.2⟩) z) z
  cases op with
  | Add =>
    cases x with
    | int a => cases y <;> first | exact i _ q | exact q.elim
    | str a => cases y <;> first | exact ⟨q.1, i _ q.2⟩ | exact q.elim
    | tup a => cases y <;> first | exact ⟨q.1, i _ q.2⟩ | exact q.elim
    | rol a => exact need_imp (fun b e => lstAt_le L e) (fun b z => ⟨z.1, i _ z.2⟩) q
    | ref a => exact nn (fun b e => lstAt_le L e) (fun b e => lstAt_le L e) q
    | _ => exact q.elim
  | Sub => cases x <;> first | (cases y <;> first | exact i _ q | exact q.elim) | exact q.elim
  | Mult =>
    cases x with
    | int a => cases y <;> first | exact ⟨q.1, i _ q.2⟩ | exact q.elim
    | str a => cases y <;> first | exact ⟨q.1, q.2.1, q.2.2.1, i _ q.2.2.2⟩ | exact q.elim
    | tup a => cases y <;> first | exact ⟨q.1, q.2.1, q.2.2.1, q.2.2.2.1, i _ q.2.2.2.2⟩ | exact q.elim
    | rol a => cases y <;> first | exact ⟨q.1, q.2.1, q.2.2.1, i _ q.2.2.2⟩ | exact q.elim
    | _ => exact q.elim
  | FloorDiv => cases x <;> first | (cases y <;> first | exact ⟨q.1, q.2.1, i _ q.2.2⟩ | exact q.elim) | exact q.elim
  | Mod => cases x <;> first | (cases y <;> first | exact ⟨q.1, i _ q.2⟩ | exact q.elim) | exact q.elim
  | Pow => cases x <;> first | (cases y <;> first | exact ⟨q.1, q.2.1, q.2.2.1, i _ q.2.2.2⟩ | exact q.elim) | exact q.elim
  | _ => exact q.elim
omit L in
theorem inSeq_i {x : D} {ys : List D} {k k' : Bool → Prop} (i : ∀ b, k b → k' b) (q : inSeq x ys k) : inSeq x ys k' := ⟨q.1, i _ q.2⟩
theorem inT_le {P : Env} {x y : D} {k k' : Bool → Prop} (i : ∀ d, k d → k' d) (q : inT P h x y k) : inT P h' x y k' := by
  cases y with
  | tup ys => exact inSeq_i i q
  | rol ys => exact inSeq_i i q
  | str ys =>
    cases x with
    | str cs =>
      cases cs with
      | nil => exact q.elim
      | cons c r =>
        cases r with
        | nil => exact i _ q
        | cons _ _ => exact q.elim
    | _ => exact q.elim
  | ref a =>
    unfold inT at q ⊢
    simp only at q ⊢
    split at q
    · rename_i ys ea; rw [L _ _ ea]; exact inSeq_i i q
    · rename_i ys ea; rw [L _ _ ea]; exact need_i (fun _ z => i _ z) q
    · rename_i ys ea; rw [L _ _ ea]; exact need_i (fun _ z => i _ z) q
    · exact q.elim
  | glo g =>
    refine need_i (fun w z => ?_) q
    cases x <;> first | exact i _ z | exact z.elim
  | _ => exact q.elim
theorem cmpD_le {x y : D} {k k' : Bool → Prop} (i : ∀ d, k d → k' d) (q : cmpD h x y k) : cmpD h' x y k' := by
  rcases q with ⟨a, b, c⟩ | ⟨a, c⟩
  · exact .inl ⟨a, b, i _ c⟩
  · exact .inr ⟨a, need_imp (fun d e => res_le L e) (fun d z => need_imp (fun d e => res_le L e) (fun e z => ⟨z.1, z.2.1, i _ z.2.2⟩) z) c⟩
omit L in
theorem isT_i {x y : D} {k k' : Bool → Prop} (i : ∀ d, k d → k' d) (q : isT x y k) : isT x y k' := by
  cases y with
  | non => cases x <;> exact i _ q
  | bl b => cases x <;> first | exact i _ q | exact q.elim
  | _ => cases x <;> exact q.elim
theorem cmpT_le {P : Env} {op : CmpOp} {x y : D} {k k' : Bool → Prop} (i : ∀ d, k d → k' d) (q : cmpT P op x y h k) : cmpT P op x y h' k' := by
  cases op with
  | Eq => exact cmpD_le L i q
  | NotEq => exact cmpD_le L (fun b z => i _ z) q
  | Is => exact isT_i i q
  | IsNot => exact isT_i (fun b z => i _ z) q
  | In => exact inT_le L i q
  | NotIn => exact inT_le L (fun b z => i _ z) q
  | _ => cases x <;> first | (cases y <;> first | exact i _ q | exact q.elim) | exact q.elim
theorem truT_le {x : D} {k k' : Bool → Prop} (i : ∀ d, k d → k' d) (q : truT h x k) : truT h' x k' := by
  cases x with
  | ref a =>
    unfold truT at q ⊢
    simp only at q ⊢
    split at q
    · rename_i ys ea; rw [L _ _ ea]; exact i _ q
    · rename_i ys ea; rw [L _ _ ea]; exact i _ q
    · exact q.elim
  | str cs => exact ⟨q.1, i _ q.2⟩
  | ty _ => exact q.elim
  | scr _ => exact q.elim
  | glo _ => exact q.elim
  | _ => exact i _ q
theorem ixT_le {P : Env} {x y : D} {k k' : D → Prop} (i : ∀ d, k d → k' d) (q : ixT P x y h k) : ixT P x y h' k' := by
  cases x with
  | ref a =>
    unfold ixT at q ⊢
    simp only at q ⊢
    split at q
    · rename_i ys ea
      rw [L _ _ ea]
      cases y <;> first | exact need_i i q | exact q.elim
    · rename_i ys ea; rw [L _ _ ea]; exact need_i (fun _ z => need_i i z) q
    · rename_i ys ea; rw [L _ _ ea]; exact need_i (fun _ z => need_i i z) q
    · exact q.elim
  | tup xs => cases y <;> first | exact need_i i q | exact q.elim
  | rol xs => cases y <;> first | exact need_i i q | exact q.elim
  | scr xs => cases y <;> first | exact need_i i q | exact q.elim
  | str xs => cases y <;> first | exact ⟨q.1, need_i (fun _ z => i _ z) q.2⟩ | exact q.elim
  | glo g => cases y <;> first | exact need_i (fun _ z => need_i i z) q | exact q.elim
  | _ => exact q.elim
theorem slT_le {x : D} {lo hi : Option Int} {k k' : D → Prop} (i : ∀ d, k d → k' d) (q : slT x lo hi h k) : slT x lo hi h' k' := by
  cases x with
  | ref a =>
    unfold slT at q ⊢
    simp only at q ⊢
    split at q
    · rename_i ys ea; rw [L _ _ ea]; exact i _ q
    · exact q.elim
  | str cs => exact ⟨q.1, i _ q.2⟩
  | tup cs => exact i _ q
  | rol cs => exact i _ q
  | scr cs => exact i _ q
  | _ => exact q.elim
omit L in
theorem sl2T_i {x : D} {od : Bool} {k k' : D → Prop} (i : ∀ d, k d → k' d) (q : sl2T x od k) : sl2T x od k' := by
  cases x <;> first | exact ⟨q.1, i _ q.2⟩ | exact q.elim
omit L in
theorem zipT_i {x y : D} {k k' : List D → Prop} (i : ∀ d, k d → k' d) (q : zipT x y k) : zipT x y k' := by
  cases x <;> first | (cases y <;> first | exact i _ q | exact q.elim) | exact q.elim
omit L in
theorem enumT_i {x : D} {k k' : List D → Prop} (i : ∀ d, k d → k' d) (q : enumT x k) : enumT x k' := by
  cases x <;> first | exact i _ q | exact q.elim
theorem lenT_le {x : D} {k k' : Nat → Prop} (i : ∀ d, k d → k' d) (q : lenT h x k) : lenT h' x k' := by
  cases x with
  | ref a =>
    unfold lenT at q ⊢
    simp only at q ⊢
    split at q
    · rename_i ys ea; rw [L _ _ ea]; exact i _ q
    · rename_i ys ea; rw [L _ _ ea]; exact i _ q
    · exact q.elim
  | str cs => exact ⟨q.1, i _ q.2⟩
  | tup cs => exact i _ q
  | rol cs => exact i _ q
  | scr cs => exact i _ q
  | _ => exact q.elim
theorem seqT_le {x : D} {k k' : List D → Prop} (i : ∀ d, k d → k' d) (q : seqT h x k) : seqT h' x k' := by
  have key : ∀ x, need (seqAt h x) k → need (seqAt h' x) k' := fun x z => need_imp (fun xs e => seqAt_le L e) i z
  cases x with
  | str cs => exact ⟨q.1, i _ q.2⟩
  | non => exact key .non q
  | bl b => exact key (.bl b) q
  | int b => exact key (.int b) q
  | tup b => exact key (.tup b) q
  | rol b => exact key (.rol b) q
  | scr b => exact key (.scr b) q
  | ref b => exact key (.ref b) q
  | ty b => exact key (.ty b) q
  | glo b => exact key (.glo b) q
theorem bltT_le {f : Bf} {ds : List D} {k k' : D → Prop} (i : ∀ d, k d → k' d) (q : bltT f ds h k) : bltT f ds h' k' := by
  match f, ds, q with
  | .len, [x], q => exact lenT_le L (fun n z => i _ z) q
  | .max, [.int a, .int b], q => exact i _ q
  | .min, [.int a, .int b], q => exact i _ q
  | .int, [.int a], q => exact i _ q
  | .int, [.bl a], q => exact i _ q
  | .int, [.str a], q => exact need_i (fun n z => i _ z) q
  | .str, [.int a], q => exact ⟨q.1, i _ q.2⟩
  | .tuple, [x], q => exact need_imp (fun xs e => seqAt_le L e) (fun xs z => i _ z) q
  | .list, [x], q => exact need_imp (fun xs e => seqAt_le L e) (fun xs z => i _ z) q
  | .all, [x], q => exact need_imp (fun xs e => lstAt_le L e) (fun xs z => need_i (fun bs z => i _ z) z) q
  | .any, [x], q => exact need_imp (fun xs e => lstAt_le L e) (fun xs z => need_i (fun bs z => i _ z) z) q
  | .sum, [x], q => exact need_imp (fun xs e => lstAt_le L e) (fun xs z => need_i (fun bs z => i _ z) z) q
  | .sorted, [.ref a], q =>
    unfold bltT at q ⊢
    simp only at q ⊢
    split at q
    · rename_i kvs ea
      rw [L _ _ ea]
      exact need_i (fun ks z => ⟨z.1, fun ys p s => i _ (z.2 ys p s)⟩) q
    · exact q.elim
end
theorem bindT_i {tg : Tg} {d : D} {σ : Sl} {k k' : Sl → Prop} (i : ∀ s, k s → k' s) (q : bindT tg d σ k) : bindT tg d σ k' := by
  cases tg with
  | nm _ => exact i _ q
  | tp _ => cases d <;> first | exact ⟨q.1, i _ q.2⟩ | exact q.elim
section
variable {R : TH → TH → Prop} (RR : Rel R)
include RR
theorem Rel.le {h h' : TH} (r : R h h') : Le h h' := fun a o e => RR.at_ r e
theorem wk_rel {h h' : TH} {Q Q' : TH → Prop} (r : R h h') (i : ∀ k k', R k k' → Q k → Q' k') (q : wk h Q) : wk h' Q' := by
  obtain ⟨k, l, q⟩ := q
  obtain ⟨k', l', r'⟩ := RR.wk_ r l
  exact ⟨k', l', i _ _ r' q⟩
theorem bmT_rel {P : Env} {b : Bm} {x : D} {ds : List D} {h h' : TH} {Q Q' : KQ} (r : R h h') (i : ∀ d h1 h2, R h1 h2 → Q d h1 → Q' d h2) (q : bmT P b x ds h Q) : bmT P b x ds h' Q' := by
  have L := RR.le r
  match b, x, ds, q with
  | .append, .ref a, [v], q =>
    unfold bmT at q ⊢
    simp only at q ⊢
    split at q
    · rename_i xs ea
      rw [L _ _ ea]
      exact ⟨q.1, i _ _ _ (RR.put r ea) q.2⟩
    · exact q.elim
  | .dget, .ref a, [k], q =>
    unfold bmT at q ⊢
    simp only at q ⊢
    split at q
    · rename_i xs ea
      rw [L _ _ ea]
      exact need_i (fun _ z => i _ _ _ r z) q
    · exact q.elim
  | .dget, .ref a, [k, v], q =>
    unfold bmT at q ⊢
    simp only at q ⊢
    split at q
    · rename_i xs ea
      rw [L _ _ ea]
      exact need_i (fun _ z => i _ _ _ r z) q
    · exact q.elim
  | .upper, .str cs, [], q => exact ⟨q.1, q.2.1, i _ _ _ r q.2.2⟩
  | .split, .str cs, [.str [c]], q => exact ⟨q.1, q.2.1, i _ _ _ r q.2.2⟩
  | .join, .str cs, [x], q => exact need_imp (fun xs e => seqAt_le L e) (fun xs z => need_i (fun ys z => ⟨z.1, i _ _ _ r z.2⟩) z) q
  | .wget, .glo g, [.str cs], q => exact need_i (fun w z => i _ _ _ r z) q
  | .replace, .str cs, [.str [c], .str [], .int 1], q => exact ⟨q.1, i _ _ _ r q.2⟩
  | .sindex, .str cs, [.str [c]], q => exact ⟨q.1, q.2.1, i _ _ _ r q.2.2⟩
omit RR in
theorem bmPre_le {P : Env} {b : Bm} {x : D} {h h' : TH} (L : Le h h') (q : bmPre P b x h) : bmPre P b x h' := by
  cases b with
  | append =>
    cases x with
    | ref a =>
      have q : isLst h a := q
      unfold isLst at q
      split at q
      · rename_i xs ea
        show isLst h' a
        unfold isLst
        rw [L _ _ ea]
        trivial
      · exact q.elim
    | _ => exact q.elim
  | dget =>
    cases x with
    | ref a =>
      have q : isDic h a := q
      unfold isDic at q
      split at q
      · rename_i xs ea
        show isDic h' a
        unfold isDic
        rw [L _ _ ea]
        trivial
      · exact q.elim
    | _ => exact q.elim
  | _ => cases x <;> first | exact q | exact q.elim
theorem setT_rel {o i v : D} {h h' : TH} {k k' : TH → Prop} (r : R h h') (im : ∀ h1 h2, R h1 h2 → k h1 → k' h2) (q : setT o i v h k) : setT o i v h' k' := by
  have L := RR.le r
  cases o with
  | ref a =>
    unfold setT at q ⊢
    simp only at q ⊢
    split at q
    · rename_i xs ea
      rw [L _ _ ea]
      cases i <;> first | exact need_i (fun j z => im _ _ (RR.put r ea) z) q | exact q.elim
    · rename_i kvs ea
      rw [L _ _ ea]
      exact need_i (fun j z => ⟨z.1, im _ _ (RR.put r ea) z.2⟩) q
    · exact q.elim
  | _ => exact q.elim
theorem walkT_rel {d : D} {h h' : TH} {k k' : List D → (TH → Prop) → Prop} (r : R h h') (i : ∀ ds g g', (∀ h1 h2, R h1 h2 → g h1 → g' h2) → k ds g → k' ds g') (q : walkT d h k) : walkT d h' k' := by
  have L := RR.le r
  have tt : ∀ h1 h2 : TH, R h1 h2 → True → True := fun _ _ _ z => z
  cases d with
  | ref a =>
    unfold walkT at q ⊢
    simp only at q ⊢
    split at q
    · rename_i xs ea
      rw [L _ _ ea]
      exact i _ _ _ (fun h1 h2 r2 z => RR.at_ r2 z) q
    · exact q.elim
  | tup _ => exact i _ _ _ tt q
  | rol _ => exact i _ _ _ tt q
  | scr _ => exact i _ _ _ tt q
  | str _ => exact ⟨q.1, i _ _ _ tt q.2⟩
  | _ => exact q.elim
theorem loopC_rel {p : Nat} {g g' : TH → Prop} {st st' : D → TH → (D → TH → Prop) → (TH → Prop) → Prop} {done done' : TH → Prop} (hg : ∀ h h', R h h' → g h → g' h') (hd : ∀ h h', R h h' → done h → done' h')
    (hs : ∀ d h h' kv kn kv' kn', R h h' → (∀ v h1 h2, R h1 h2 → kv v h1 → kv' v h2) → (∀ h1 h2, R h1 h2 → kn h1 → kn' h2) → st d h kv kn → st' d h' kv' kn') :
    ∀ (ds : List D) (h h' : TH), R h h' → loopC p g st ds h done → loopC p g' st' ds h' done'
  | [], h, h', r, q => ⟨hg _ _ r q.1, hd _ _ r q.2⟩
  | d :: ds, h, h', r, q => by
    refine ⟨hg _ _ r q.1, hs d h h' _ _ _ _ r ?_ ?_ q.2⟩
    · rintro v h1 h2 r2 ⟨acc, e, l, w⟩
      exact ⟨acc, RR.at_ r2 e, l, wk_rel RR (RR.put r2 e) (fun k k' r3 z => loopC_rel hg hd hs ds k k' r3 z) w⟩
    · intro h1 h2 r2 w
      exact wk_rel RR r2 (fun k k' r3 z => loopC_rel hg hd hs ds k k' r3 z) w
theorem loopR_rel {g g' : TH → Prop} {st st' : D → TH → (D → TH → Prop) → (TH → Prop) → Prop} {done done' : List D → TH → Prop} (hg : ∀ h h', R h h' → g h → g' h') (hd : ∀ l h h', R h h' → done l h → done' l h')
    (hs : ∀ d h h' kv kn kv' kn', R h h' → (∀ v h1 h2, R h1 h2 → kv v h1 → kv' v h2) → (∀ h1 h2, R h1 h2 → kn h1 → kn' h2) → st d h kv kn → st' d h' kv' kn') :
    ∀ (ds acc : List D) (h h' : TH), R h h' → loopR g st ds acc h done → loopR g' st' ds acc h' done'
  | [], acc, h, h', r, q => ⟨hg _ _ r q.1, hd _ _ _ r q.2⟩
  | d :: ds, acc, h, h', r, q => by
    refine ⟨hg _ _ r q.1, hs d h h' _ _ _ _ r ?_ ?_ q.2⟩
    · rintro v h1 h2 r2 ⟨l, w⟩
      exact ⟨l, loopR_rel hg hd hs ds _ _ _ r2 w⟩
    · intro h1 h2 r2 w
      exact loopR_rel hg hd hs ds _ _ _ r2 w
theorem loopL_rel {g g' : TH → Prop} {st st' : D → Sl → TH → (Sl → TH → Prop) → Prop} {done done' : Sl → TH → Prop} (hg : ∀ h h', R h h' → g h → g' h') (hd : ∀ l h h', R h h' → done l h → done' l h')
    (hs : ∀ d σ h h' k k', R h h' → (∀ s h1 h2, R h1 h2 → k s h1 → k' s h2) → st d σ h k → st' d σ h' k') :
    ∀ (ds : List D) (σ : Sl) (h h' : TH), R h h' → loopL g st ds σ h done → loopL g' st' ds σ h' done'
  | [], σ, h, h', r, q => ⟨hg _ _ r q.1, hd _ _ _ r q.2⟩
  | d :: ds, σ, h, h', r, q => ⟨hg _ _ r q.1, hs d σ h h' _ _ r (fun s h1 h2 r2 w => wk_rel RR r2 (fun k k' r3 z => loopL_rel hg hd hs ds _ k k' r3 z) w) q.2⟩
theorem loopW_rel {ts ts' : Sl → TH → (Bool → TH → Prop) → Prop} {st st' : Sl → TH → (Sl → TH → Prop) → Prop} {done done' : Sl → TH → Prop} (hd : ∀ l h h', R h h' → done l h → done' l h')
    (ht : ∀ σ h h' k k', R h h' → (∀ b h1 h2, R h1 h2 → k b h1 → k' b h2) → ts σ h k → ts' σ h' k') (hs : ∀ σ h h' k k', R h h' → (∀ s h1 h2, R h1 h2 → k s h1 → k' s h2) → st σ h k → st' σ h' k') :
    ∀ (n : Nat) (σ : Sl) (h h' : TH), R h h' → loopW ts st done n σ h → loopW ts' st' done' n σ h'
  | 0, _, _, _, _, q => q.elim
  | n + 1, σ, h, h', r, q => by
    refine ht σ h h' _ _ r (fun b h1 h2 r2 z => ?_) q
    cases b with
    | true => exact hs σ h1 h2 _ _ r2 (fun s h3 h4 r3 w => wk_rel RR r3 (fun k k' r5 z => loopW_rel hd ht hs n _ k k' r5 z) w) z
    | false => exact hd _ _ _ r2 z
end
def EqR (R : TH → TH → Prop) (E E' : EQ) : Prop := ∀ x s h1 h2, R h1 h2 → E x s h1 → E' x s h2
theorem noE_rel (R : TH → TH → Prop) : EqR R noE noE := fun _ _ _ _ _ z => z
section
variable {P : Env} (F : FnR P.fn) {R : TH → TH → Prop} (RR : Rel R)
include F RR
mutual
theorem wE_rel : ∀ (e : Ex) (σ : Sl) {h h' : TH} {Q Q' : KQ} {E E' : EQ}, R h h' → EqR R E E' → (∀ d h1 h2, R h1 h2 → Q d h1 → Q' d h2) → wE P e σ h Q E → wE P e σ h' Q' E'
  | .slot i, σ, h, h', Q, Q', E, E', r, ee, i', q => need_i (fun v z => i' _ _ _ r z) q
  | .kint i, σ, h, h', Q, Q', E, E', r, ee, i', q => i' _ _ _ r q
  | .kbl i, σ, h, h', Q, Q', E, E', r, ee, i', q => i' _ _ _ r q
  | .knon, σ, h, h', Q, Q', E, E', r, ee, i', q => i' _ _ _ r q
  | .kstr i, σ, h, h', Q, Q', E, E', r, ee, i', q => i' _ _ _ r q
  | .glo x, σ, h, h', Q, Q', E, E', r, ee, i', q => need_i (fun v z => i' _ _ _ r z) q
  | .bin op a b, σ, h, h', Q, Q', E, E', r, ee, i', q => wE_rel a σ r ee (fun x h1 h2 r1 z => wE_rel b σ r1 ee (fun y h3 h4 r2 z => binT_le (RR.le r2) (fun d z => i' _ _ _ r2 z) z) z) q
  | .neg a, σ, h, h', Q, Q', E, E', r, ee, i', q => wE_rel a σ r ee (fun x h1 h2 r1 z => by cases x <;> first | exact i' _ _ _ r1 z | exact z.elim) q
  | .not a, σ, h, h', Q, Q', E, E', r, ee, i', q => wE_rel a σ r ee (fun x h1 h2 r1 z => truT_le (RR.le r1) (fun b z => i' _ _ _ r1 z) z) q
  | .bop c a rr, σ, h, h', Q, Q', E, E', r, ee, i', q => wE_rel a σ r ee (fun x h1 h2 r1 z => by
      cases x with
      | bl b =>
        have z : if b = c then wB P c rr σ h1 Q E else Q (.bl b) h1 := z
        show if b = c then wB P c rr σ h2 Q' E' else Q' (.bl b) h2
        by_cases e : b = c
        · rw [if_pos e] at z ⊢; exact wB_rel c rr σ r1 ee i' z
        · rw [if_neg e] at z ⊢; exact i' _ _ _ r1 z
      | _ => exact z.elim) q
  | .orT a b, σ, h, h', Q, Q', E, E', r, ee, i', q => wE_rel a σ r ee (fun x h1 h2 r1 z => truT_le (RR.le r1) (fun t z => by
      cases t with
      | true => exact i' _ _ _ r1 z
      | false => exact wE_rel b σ r1 ee i' z) z) q
  | .cmp op a b, σ, h, h', Q, Q', E, E', r, ee, i', q => wE_rel a σ r ee (fun x h1 h2 r1 z => wE_rel b σ r1 ee (fun y h3 h4 r2 z => cmpT_le (RR.le r2) (fun d z => i' _ _ _ r2 z) z) z) q
  | .chn op op2 a b c, σ, h, h', Q, Q', E, E', r, ee, i', q => wE_rel a σ r ee (fun x h1 h2 r1 z => wE_rel b σ r1 ee (fun y h3 h4 r2 z => cmpT_le (RR.le r2) (fun t z => by
      cases t with
      | true => exact wE_rel c σ r2 ee (fun w h5 h6 r3 z => cmpT_le (RR.le r3) (fun t z => i' _ _ _ r3 z) z) z
      | false => exact i' _ _ _ r2 z) z) z) q
  | .ife c a b, σ, h, h', Q, Q', E, E', r, ee, i', q => wT_rel c σ r ee (fun t h1 h2 r1 z => by
      cases t with
      | true => exact wE_rel a σ r1 ee i' z
      | false => exact wE_rel b σ r1 ee i' z) q
  | .ix a b, σ, h, h', Q, Q', E, E', r, ee, i', q => wE_rel a σ r ee (fun x h1 h2 r1 z => wE_rel b σ r1 ee (fun y h3 h4 r2 z => ixT_le (RR.le r2) (fun d z => i' _ _ _ r2 z) z) z) q
  | .sl a lo hi, σ, h, h', Q, Q', E, E', r, ee, i', q => wE_rel a σ r ee (fun x h1 h2 r1 z => wO_rel lo σ r1 ee (fun y h3 h4 r2 z => wO_rel hi σ r2 ee (fun y h5 h6 r3 z => slT_le (RR.le r3) (fun d z => i' _ _ _ r3 z) z) z) z) q
  | .sl2 a od, σ, h, h', Q, Q', E, E', r, ee, i', q => wE_rel a σ r ee (fun x h1 h2 r1 z => sl2T_i (fun d z => i' _ _ _ r1 z) z) q
  | .tup es, σ, h, h', Q, Q', E, E', r, ee, i', q => wL_rel es σ r ee (fun ds h1 h2 r1 z => ⟨z.1, i' _ _ _ r1 z.2⟩) q
  | .lst es, σ, h, h', Q, Q', E, E', r, ee, i', q => wL_rel es σ r ee (fun ds h1 h2 r1 z => ⟨z.1, fun p hp => i' _ _ _ (RR.new r1 hp) (z.2 p (RR.fr r1 hp))⟩) q
  | .lstR es, σ, h, h', Q, Q', E, E', r, ee, i', q => wL_rel es σ r ee (fun ds h1 h2 r1 z => ⟨z.1, i' _ _ _ r1 z.2⟩) q
  | .mkl a, σ, h, h', Q, Q', E, E', r, ee, i', q => wE_rel a σ r ee (fun x h1 h2 r1 z => need_imp (fun xs e => seqAt_le (RR.le r1) e) (fun xs z p hp => i' _ _ _ (RR.new r1 hp) (z p (RR.fr r1 hp))) z) q
  | .frz i, σ, h, h', Q, Q', E, E', r, ee, i', q => need_i (fun x z => by
      cases x with
      | ref a =>
        simp only at z ⊢
        split at z
        · rename_i xs ea
          rw [RR.at_ r ea]
          exact i' _ _ _ (RR.del r ea) z
        · exact z.elim
      | _ => exact z.elim) q
  | .dic ps, σ, h, h', Q, Q', E, E', r, ee, i', q => fun p hp => wD_rel ps σ (RR.new r hp) ee (fun ps h1 h2 r1 z => ⟨RR.at_ r1 z.1, i' _ _ _ (RR.put r1 z.1) z.2⟩) (q p (RR.fr r hp))
  | .dsel ps k d, σ, h, h', Q, Q', E, E', r, ee, i', q => wD_rel ps σ r ee (fun kvs h1 h2 r1 z => wE_rel k σ r1 ee (fun x h3 h4 r2 z => wE_rel d σ r2 ee (fun y h5 h6 r3 z => need_i (fun q z => i' _ _ _ r3 z) z) z) z) q
  | .call f es, σ, h, h', Q, Q', E, E', r, ee, i', q => wL_rel es σ r ee (fun ds h1 h2 r1 z => F R RR f ds h1 h2 _ _ _ _ r1 i' (fun x h3 h4 r2 z => ee _ _ _ _ r2 z) z) q
  | .blt f es, σ, h, h', Q, Q', E, E', r, ee, i', q => wL_rel es σ r ee (fun ds h1 h2 r1 z => bltT_le (RR.le r1) (fun d z => i' _ _ _ r1 z) z) q
  | .lset a, σ, h, h', Q, Q', E, E', r, ee, i', q => wE_rel a σ r ee (fun x h1 h2 r1 z => need_imp (fun xs e => seqAt_le (RR.le r1) e) (fun xs z => need_i (fun ys z => ⟨z.1, i' _ _ _ r1 z.2⟩) z) z) q
  | .lzip a b, σ, h, h', Q, Q', E, E', r, ee, i', q => wE_rel a σ r ee (fun x h1 h2 r1 z => wE_rel b σ r1 ee (fun y h3 h4 r2 z => zipT_i (fun d z => i' _ _ _ r2 z) z) z) q
  | .isi a t, σ, h, h', Q, Q', E, E', r, ee, i', q => wE_rel a σ r ee (fun x h1 h2 r1 z => need_imp (fun xs e => isiT_le (RR.le r1) e) (fun b z => i' _ _ _ r1 z) z) q
  | .isi2 a ts, σ, h, h', Q, Q', E, E', r, ee, i', q => wE_rel a σ r ee (fun x h1 h2 r1 z => need_imp (fun xs e => isiL_le (RR.le r1) e) (fun b z => i' _ _ _ r1 z) z) q
  | .meth c m f o es, σ, h, h', Q, Q', E, E', r, ee, i', q => wE_rel o σ r ee (fun x h1 h2 r1 z => need_imp (fun xs e => insAt_le (RR.le r1) e) (fun rr z => ⟨z.1, wL_rel es σ r1 ee (fun ds h3 h4 r2 z => F R RR f _ h3 h4 _ _ _ _ r2 i' (fun x h5 h6 r3 z => ee _ _ _ _ r3 z) z) z.2⟩) z) q
  | .bm b o es, σ, h, h', Q, Q', E, E', r, ee, i', q => wE_rel o σ r ee (fun x h1 h2 r1 z => ⟨bmPre_le (RR.le r1) z.1, wL_rel es σ r1 ee (fun ds h3 h4 r2 z => bmT_rel RR r2 i' z) z.2⟩) q
  | .new c f es, σ, h, h', Q, Q', E, E', r, ee, i', q => wL_rel es σ r ee (fun ds h1 h2 r1 z p hp => F R RR f _ _ _ _ _ _ _ (RR.new r1 hp) (fun d h3 h4 r2 z => i' _ _ _ r2 z) (fun x h3 h4 r2 z => ee _ _ _ _ r2 z) (z p (RR.fr r1 hp))) q
  | .fld o c f, σ, h, h', Q, Q', E, E', r, ee, i', q => wE_rel o σ r ee (fun x h1 h2 r1 z => need_imp (fun xs e => insAt_le (RR.le r1) e) (fun rr z => need_i (fun v z => i' _ _ _ r1 z) z) z) q
  | .comp elt tg it ifs own, σ, h, h', Q, Q', E, E', r, ee, i', q => wI_rel it σ r ee (fun ds g g' h1 h2 r1 gg z p hp => loopC_rel RR gg (fun h3 h4 r2 z => i' _ _ _ r2 z) (fun d h3 h4 kv kn kv' kn' r2 iv inn z => bindT_i (tg := tg) (d := d) (σ := wipe σ (own.map (·.2))) (k := fun s => wC P ifs s h3 (fun b h5 => if b = true then wE P elt s h5 kv noE else kn h5) noE) (k' := fun s => wC P ifs s h4 (fun b h5 => if b = true then wE P elt s h5 kv' noE else kn' h5) noE) (fun s z => wC_rel ifs s r2 (noE_rel R) (fun b h5 h6 r3 z => by
      cases b with
      | true => exact wE_rel elt s r3 (noE_rel R) iv z
      | false => exact inn _ _ r3 z) z) z) ds _ _ (RR.new r1 hp) (z p (RR.fr r1 hp))) q
  | .compR elt tg it ifs own, σ, h, h', Q, Q', E, E', r, ee, i', q => wI_rel it σ r ee (fun ds g g' h1 h2 r1 gg z => loopR_rel RR gg (fun l h3 h4 r2 z => i' (.rol l) _ _ r2 z) (fun d h3 h4 kv kn kv' kn' r2 iv inn z => bindT_i (tg := tg) (d := d) (σ := wipe σ (own.map (·.2))) (k := fun s => wC P ifs s h3 (fun b h5 => if b = true then wE P elt s h5 kv noE else kn h5) noE) (k' := fun s => wC P ifs s h4 (fun b h5 => if b = true then wE P elt s h5 kv' noE else kn' h5) noE) (fun s z => wC_rel ifs s r2 (noE_rel R) (fun b h5 h6 r3 z => by
      cases b with
      | true => exact wE_rel elt s r3 (noE_rel R) iv z
      | false => exact inn _ _ r3 z) z) z) ds [] _ _ r1 z) q
termination_by structural e => e
theorem wL_rel : ∀ (e : ExL) (σ : Sl) {h h' : TH} {Q Q' : List D → TH → Prop} {E E' : EQ}, R h h' → EqR R E E' → (∀ d h1 h2, R h1 h2 → Q d h1 → Q' d h2) → wL P e σ h Q E → wL P e σ h' Q' E'
  | .nil, σ, h, h', Q, Q', E, E', r, ee, i', q => i' _ _ _ r q
  | .cons e rr, σ, h, h', Q, Q', E, E', r, ee, i', q => wE_rel e σ r ee (fun d h1 h2 r1 z => wL_rel rr σ r1 ee (fun ds h3 h4 r2 z => i' _ _ _ r2 z) z) q
termination_by structural e => e
theorem wB_rel (c : Bool) : ∀ (e : ExL) (σ : Sl) {h h' : TH} {Q Q' : KQ} {E E' : EQ}, R h h' → EqR R E E' → (∀ d h1 h2, R h1 h2 → Q d h1 → Q' d h2) → wB P c e σ h Q E → wB P c e σ h' Q' E'
  | .nil, σ, h, h', Q, Q', E, E', r, ee, i', q => q.elim
  | .cons e .nil, σ, h, h', Q, Q', E, E', r, ee, i', q => wE_rel e σ r ee i' q
  | .cons e (.cons e2 rr), σ, h, h', Q, Q', E, E', r, ee, i', q => wE_rel e σ r ee (fun x h1 h2 r1 z => by
      cases x with
      | bl b =>
        have z : if b = c then wB P c (.cons e2 rr) σ h1 Q E else Q (.bl b) h1 := z
        show if b = c then wB P c (.cons e2 rr) σ h2 Q' E' else Q' (.bl b) h2
        by_cases e : b = c
        · rw [if_pos e] at z ⊢; exact wB_rel c (.cons e2 rr) σ r1 ee i' z
        · rw [if_neg e] at z ⊢; exact i' _ _ _ r1 z
      | _ => exact z.elim) q
termination_by structural e => e
theorem wBT_rel (c : Bool) : ∀ (e : ExL) (σ : Sl) {h h' : TH} {Q Q' : Bool → TH → Prop} {E E' : EQ}, R h h' → EqR R E E' → (∀ d h1 h2, R h1 h2 → Q d h1 → Q' d h2) → wBT P c e σ h Q E → wBT P c e σ h' Q' E'
  | .nil, σ, h, h', Q, Q', E, E', r, ee, i', q => i' _ _ _ r q
  | .cons e rr, σ, h, h', Q, Q', E, E', r, ee, i', q => wT_rel e σ r ee (fun b h1 h2 r1 z => by
        have z : if b = c then wBT P c rr σ h1 Q E else Q b h1 := z
        show if b = c then wBT P c rr σ h2 Q' E' else Q' b h2
        by_cases e : b = c
        · rw [if_pos e] at z ⊢; exact wBT_rel c rr σ r1 ee i' z
        · rw [if_neg e] at z ⊢; exact i' _ _ _ r1 z) q
termination_by structural e => e
theorem wT_rel : ∀ (e : Ex) (σ : Sl) {h h' : TH} {Q Q' : Bool → TH → Prop} {E E' : EQ}, R h h' → EqR R E E' → (∀ d h1 h2, R h1 h2 → Q d h1 → Q' d h2) → wT P e σ h Q E → wT P e σ h' Q' E'
  | .not a, σ, h, h', Q, Q', E, E', r, ee, i', q => wT_rel a σ r ee (fun b h1 h2 r1 z => i' _ _ _ r1 z) q
  | .bop c a rr, σ, h, h', Q, Q', E, E', r, ee, i', q => wT_rel a σ r ee (fun b h1 h2 r1 z => by
        have z : if b = c then wBT P c rr σ h1 Q E else Q b h1 := z
        show if b = c then wBT P c rr σ h2 Q' E' else Q' b h2
        by_cases e : b = c
        · rw [if_pos e] at z ⊢; exact wBT_rel c rr σ r1 ee i' z
        · rw [if_neg e] at z ⊢; exact i' _ _ _ r1 z) q
  | .cmp op a b, σ, h, h', Q, Q', E, E', r, ee, i', q => wE_rel a σ r ee (fun x h1 h2 r1 z => wE_rel b σ r1 ee (fun y h3 h4 r2 z => cmpT_le (RR.le r2) (fun d z => i' _ _ _ r2 z) z) z) q
  | .chn op op2 a b c, σ, h, h', Q, Q', E, E', r, ee, i', q => wE_rel a σ r ee (fun x h1 h2 r1 z => wE_rel b σ r1 ee (fun y h3 h4 r2 z => cmpT_le (RR.le r2) (fun t z => by
      cases t with
      | true => exact wE_rel c σ r2 ee (fun w h5 h6 r3 z => cmpT_le (RR.le r3) (fun t z => i' _ _ _ r3 z) z) z
      | false => exact i' _ _ _ r2 z) z) z) q
  | .slot i, σ, h, h', Q, Q', E, E', r, ee, i', q => need_i (fun v z => truT_le (RR.le r) (fun b z => i' _ _ _ r z) z) q
  | .isi a t, σ, h, h', Q, Q', E, E', r, ee, i', q => wE_rel a σ r ee (fun x h1 h2 r1 z => need_imp (fun xs e => isiT_le (RR.le r1) e) (fun b z => i' _ _ _ r1 z) z) q
  | .isi2 a ts, σ, h, h', Q, Q', E, E', r, ee, i', q => wE_rel a σ r ee (fun x h1 h2 r1 z => need_imp (fun xs e => isiL_le (RR.le r1) e) (fun b z => i' _ _ _ r1 z) z) q
  | .call f es, σ, h, h', Q, Q', E, E', r, ee, i', q => wL_rel es σ r ee (fun ds h1 h2 r1 z => F R RR f ds h1 h2 _ _ _ _ r1 (fun d h3 h4 r2 z => truT_le (RR.le r2) (fun b z => i' _ _ _ r2 z) z) (fun x h3 h4 r2 z => ee _ _ _ _ r2 z) z) q
  | .meth c m f o es, σ, h, h', Q, Q', E, E', r, ee, i', q => wE_rel o σ r ee (fun x h1 h2 r1 z => need_imp (fun xs e => insAt_le (RR.le r1) e) (fun rr z => ⟨z.1, wL_rel es σ r1 ee (fun ds h3 h4 r2 z => F R RR f _ h3 h4 _ _ _ _ r2 (fun d h5 h6 r3 z => truT_le (RR.le r3) (fun b z => i' _ _ _ r3 z) z) (fun x h5 h6 r3 z => ee _ _ _ _ r3 z) z) z.2⟩) z) q
  | .blt f es, σ, h, h', Q, Q', E, E', r, ee, i', q => wL_rel es σ r ee (fun ds h1 h2 r1 z => bltT_le (RR.le r1) (fun d z => truT_le (RR.le r1) (fun b z => i' _ _ _ r1 z) z) z) q
  | .ix a b, σ, h, h', Q, Q', E, E', r, ee, i', q => wE_rel a σ r ee (fun x h1 h2 r1 z => wE_rel b σ r1 ee (fun y h3 h4 r2 z => ixT_le (RR.le r2) (fun d z => truT_le (RR.le r2) (fun b z => i' _ _ _ r2 z) z) z) z) q
  | .bm b o es, σ, h, h', Q, Q', E, E', r, ee, i', q => wE_rel o σ r ee (fun x h1 h2 r1 z => ⟨bmPre_le (RR.le r1) z.1, wL_rel es σ r1 ee (fun ds h3 h4 r2 z => bmT_rel RR r2 (fun d h5 h6 r3 z => truT_le (RR.le r3) (fun b z => i' _ _ _ r3 z) z) z) z.2⟩) q
  | .kint i, σ, h, h', Q, Q', E, E', r, ee, i', q => False.elim q
  | .kbl i, σ, h, h', Q, Q', E, E', r, ee, i', q => False.elim q
  | .knon, σ, h, h', Q, Q', E, E', r, ee, i', q => False.elim q
  | .kstr i, σ, h, h', Q, Q', E, E', r, ee, i', q => False.elim q
  | .glo x, σ, h, h', Q, Q', E, E', r, ee, i', q => False.elim q
  | .bin op a b, σ, h, h', Q, Q', E, E', r, ee, i', q => False.elim q
  | .neg a, σ, h, h', Q, Q', E, E', r, ee, i', q => False.elim q
  | .orT a b, σ, h, h', Q, Q', E, E', r, ee, i', q => False.elim q
  | .ife a b c, σ, h, h', Q, Q', E, E', r, ee, i', q => False.elim q
  | .sl a b c, σ, h, h', Q, Q', E, E', r, ee, i', q => False.elim q
  | .sl2 a b, σ, h, h', Q, Q', E, E', r, ee, i', q => False.elim q
  | .tup a, σ, h, h', Q, Q', E, E', r, ee, i', q => False.elim q
  | .lst a, σ, h, h', Q, Q', E, E', r, ee, i', q => False.elim q
  | .lstR a, σ, h, h', Q, Q', E, E', r, ee, i', q => False.elim q
  | .mkl a, σ, h, h', Q, Q', E, E', r, ee, i', q => False.elim q
  | .frz a, σ, h, h', Q, Q', E, E', r, ee, i', q => False.elim q
  | .dic a, σ, h, h', Q, Q', E, E', r, ee, i', q => False.elim q
  | .dsel a b c, σ, h, h', Q, Q', E, E', r, ee, i', q => False.elim q
  | .lset a, σ, h, h', Q, Q', E, E', r, ee, i', q => False.elim q
  | .lzip a b, σ, h, h', Q, Q', E, E', r, ee, i', q => False.elim q
  | .new a b c, σ, h, h', Q, Q', E, E', r, ee, i', q => False.elim q
  | .fld a b c, σ, h, h', Q, Q', E, E', r, ee, i', q => False.elim q
  | .comp a b c d e, σ, h, h', Q, Q', E, E', r, ee, i', q => False.elim q
  | .compR a b c d e, σ, h, h', Q, Q', E, E', r, ee, i', q => False.elim q
termination_by structural e => e
theorem wC_rel : ∀ (e : ExL) (σ : Sl) {h h' : TH} {Q Q' : Bool → TH → Prop} {E E' : EQ}, R h h' → EqR R E E' → (∀ d h1 h2, R h1 h2 → Q d h1 → Q' d h2) → wC P e σ h Q E → wC P e σ h' Q' E'
  | .nil, σ, h, h', Q, Q', E, E', r, ee, i', q => i' _ _ _ r q
  | .cons e rr, σ, h, h', Q, Q', E, E', r, ee, i', q => wT_rel e σ r ee (fun b h1 h2 r1 z => by
      cases b with
      | true => exact wC_rel rr σ r1 ee i' z
      | false => exact i' _ _ _ r1 z) q
termination_by structural e => e
theorem wO_rel : ∀ (e : ExO) (σ : Sl) {h h' : TH} {Q Q' : Option Int → TH → Prop} {E E' : EQ}, R h h' → EqR R E E' → (∀ d h1 h2, R h1 h2 → Q d h1 → Q' d h2) → wO P e σ h Q E → wO P e σ h' Q' E'
  | .no, σ, h, h', Q, Q', E, E', r, ee, i', q => i' _ _ _ r q
  | .yes e, σ, h, h', Q, Q', E, E', r, ee, i', q => wE_rel e σ r ee (fun x h1 h2 r1 z => by cases x <;> first | exact i' _ _ _ r1 z | exact z.elim) q
termination_by structural e => e
theorem wD_rel : ∀ (e : ExP) (σ : Sl) {h h' : TH} {Q Q' : List (Ky × D) → TH → Prop} {E E' : EQ}, R h h' → EqR R E E' → (∀ d h1 h2, R h1 h2 → Q d h1 → Q' d h2) → wD P e σ h Q E → wD P e σ h' Q' E'
  | .nil, σ, h, h', Q, Q', E, E', r, ee, i', q => i' _ _ _ r q
  | .cons k v rr, σ, h, h', Q, Q', E, E', r, ee, i', q => wE_rel k σ r ee (fun x h1 h2 r1 z => wE_rel v σ r1 ee (fun y h3 h4 r2 z => wD_rel rr σ r2 ee (fun ps h5 h6 r3 z => need_i (fun q z => i' _ _ _ r3 z) z) z) z) q
termination_by structural e => e
theorem wI_rel : ∀ (e : It) (σ : Sl) {h h' : TH} {Q Q' : List D → (TH → Prop) → TH → Prop} {E E' : EQ}, R h h' → EqR R E E' → (∀ ds g g' h1 h2, R h1 h2 → (∀ h3 h4, R h3 h4 → g h3 → g' h4) → Q ds g h1 → Q' ds g' h2) → wI P e σ h Q E → wI P e σ h' Q' E'
  | .of e, σ, h, h', Q, Q', E, E', r, ee, i', q => wE_rel e σ r ee (fun d h1 h2 r1 z => walkT_rel RR r1 (fun ds g g' gg z => i' _ _ _ _ _ r1 gg z) z) q
  | .rng1 a, σ, h, h', Q, Q', E, E', r, ee, i', q => wE_rel a σ r ee (fun d h1 h2 r1 z => by
      cases d <;> first | exact ⟨z.1, z.2.1, i' _ _ _ _ _ r1 (fun _ _ _ z => z) z.2.2⟩ | exact z.elim) q
  | .rng2 a b, σ, h, h', Q, Q', E, E', r, ee, i', q => wE_rel a σ r ee (fun x h1 h2 r1 z => wE_rel b σ r1 ee (fun y h3 h4 r2 z => by
      cases x <;> first | (cases y <;> first | exact ⟨z.1, z.2.1, z.2.2.1, z.2.2.2.1, i' _ _ _ _ _ r2 (fun _ _ _ z => z) z.2.2.2.2⟩ | exact z.elim) | exact z.elim) z) q
  | .rng3 a b c, σ, h, h', Q, Q', E, E', r, ee, i', q => wE_rel a σ r ee (fun x h1 h2 r1 z => wE_rel b σ r1 ee (fun y h3 h4 r2 z => by
      cases x <;> first | (cases y <;> first | exact ⟨z.1, z.2.1, z.2.2.1, z.2.2.2.1, z.2.2.2.2.1, i' _ _ _ _ _ r2 (fun _ _ _ z => z) z.2.2.2.2.2⟩ | exact z.elim) | exact z.elim) z) q
  | .zip a b, σ, h, h', Q, Q', E, E', r, ee, i', q => wE_rel a σ r ee (fun x h1 h2 r1 z => wE_rel b σ r1 ee (fun y h3 h4 r2 z => zipT_i (fun l z => i' _ _ _ _ _ r2 (fun _ _ _ z => z) z) z) z) q
  | .enum a, σ, h, h', Q, Q', E, E', r, ee, i', q => wE_rel a σ r ee (fun x h1 h2 r1 z => enumT_i (fun l z => i' _ _ _ _ _ r1 (fun _ _ _ z => z) z) z) q
termination_by structural e => e
end
structure EndsR (R : TH → TH → Prop) (D D' : Ends) : Prop where
  nx : ∀ s h1 h2, R h1 h2 → D.nx s h1 → D'.nx s h2
  rt : ∀ d h1 h2, R h1 h2 → D.rt d h1 → D'.rt d h2
  bk : ∀ s h1 h2, R h1 h2 → D.bk s h1 → D'.bk s h2
  ct : ∀ s h1 h2, R h1 h2 → D.ct s h1 → D'.ct s h2
mutual
theorem wS_rel : ∀ (e : Sm) (σ : Sl) {h h' : TH} {D D' : Ends} {E E' : EQ}, R h h' → EqR R E E' → EndsR R D D' → wS P e σ h D E → wS P e σ h' D' E'
  | .set i e, σ, h, h', D, D', E, E', r, ee, dd, q => wE_rel F RR e σ r ee (fun d h1 h2 r1 z => dd.nx _ _ _ r1 z) q
  | .setT is e, σ, h, h', D, D', E, E', r, ee, dd, q => wE_rel F RR e σ r ee (fun d h1 h2 r1 z => bindT_i (fun s z => dd.nx _ _ _ r1 z) z) q
  | .par i j a b, σ, h, h', D, D', E, E', r, ee, dd, q => wE_rel F RR a σ r ee (fun x h1 h2 r1 z => wE_rel F RR b σ r1 ee (fun y h3 h4 r2 z => dd.nx _ _ _ r2 z) z) q
  | .setSub o i e, σ, h, h', D, D', E, E', r, ee, dd, q => wE_rel F RR e σ r ee (fun v h1 h2 r1 z => wE_rel F RR o σ r1 ee (fun x h3 h4 r2 z => wE_rel F RR i σ r2 ee (fun y h5 h6 r3 z => setT_rel RR r3 (fun h7 h8 r4 z => dd.nx _ _ _ r4 z) z) z) z) q
  | .aug i op e, σ, h, h', D, D', E, E', r, ee, dd, q => need_i (fun v z => wE_rel F RR e σ r ee (fun w h1 h2 r1 z => by
      cases v <;> first | (cases w <;> first | exact binT_le (RR.le r1) (fun d z => dd.nx _ _ _ r1 z) z | exact z.elim) | exact z.elim) z) q
  | .setF o c f e, σ, h, h', D, D', E, E', r, ee, dd, q => wE_rel F RR e σ r ee (fun v h1 h2 r1 z => wE_rel F RR o σ r1 ee (fun x h3 h4 r2 z => by
      obtain ⟨rr, e1, l, z⟩ := need_iff.mp z
      exact need_iff.mpr ⟨rr, insAt_le (RR.le r2) e1, l, dd.nx _ _ _ (RR.put r2 (insAt_is e1).2) z⟩) z) q
  | .augF o c f op e, σ, h, h', D, D', E, E', r, ee, dd, q => wE_rel F RR o σ r ee (fun x h1 h2 r1 z => by
      refine need_imp (fun xs e => insAt_le (RR.le r1) e) (fun rr z => need_i (fun v z => wE_rel F RR e σ r1 ee (fun w h3 h4 r2 z => ?_) z) z) z
      obtain ⟨rr2, e1, l, z⟩ := need_iff.mp z
      refine need_iff.mpr ⟨rr2, insAt_le (RR.le r2) e1, l, ?_⟩
      cases v <;> first | (cases w <;> first | exact binT_le (RR.le r2) (fun d z => dd.nx _ _ _ (RR.put r2 (insAt_is e1).2) z) z | exact z.elim) | exact z.elim) q
  | .ex e, σ, h, h', D, D', E, E', r, ee, dd, q => wE_rel F RR e σ r ee (fun d h1 h2 r1 z => dd.nx _ _ _ r1 z) q
  | .iff c a b, σ, h, h', D, D', E, E', r, ee, dd, q => wT_rel F RR c σ r ee (fun t h1 h2 r1 z => by
      cases t with
      | true => exact wSs_rel a σ r1 ee dd z
      | false => exact wSs_rel b σ r1 ee dd z) q
  | .whl c b, σ, h, h', D, D', E, E', r, ee, dd, ⟨n, q⟩ => ⟨n, loopW_rel RR (fun l h1 h2 r1 z => dd.nx l _ _ r1 z) (fun s h1 h2 k k' r1 i z => wT_rel F RR c s r1 ee i z) (fun s h1 h2 k k' r1 i z => wSs_rel b s (D := { nx := k, rt := D.rt, bk := D.nx, ct := k }) (D' := { nx := k', rt := D'.rt, bk := D'.nx, ct := k' }) r1 ee ⟨i, dd.rt, dd.nx, i⟩ z) n σ h h' r q⟩
  | .for tg it b, σ, h, h', D, D', E, E', r, ee, dd, q => wI_rel F RR it σ r ee (fun ds g g' h1 h2 r1 gg z => loopL_rel RR gg (fun l h3 h4 r2 z => dd.nx l _ _ r2 z) (fun d s h3 h4 k k' r2 i z => bindT_i (tg := tg) (d := d) (σ := s) (k := fun s => wSs P b s h3 { nx := k, rt := D.rt, bk := D.nx, ct := k } E) (k' := fun s => wSs P b s h4 { nx := k', rt := D'.rt, bk := D'.nx, ct := k' } E') (fun s z => wSs_rel b s (D := { nx := k, rt := D.rt, bk := D.nx, ct := k }) (D' := { nx := k', rt := D'.rt, bk := D'.nx, ct := k' }) r2 ee ⟨i, dd.rt, dd.nx, i⟩ z) z) ds σ _ _ r1 z) q
  | .ret e, σ, h, h', D, D', E, E', r, ee, dd, q => wE_rel F RR e σ r ee dd.rt q
  | .retN, σ, h, h', D, D', E, E', r, ee, dd, q => dd.rt _ _ _ r q
  | .pass, σ, h, h', D, D', E, E', r, ee, dd, q => dd.nx _ _ _ r q
  | .brk, σ, h, h', D, D', E, E', r, ee, dd, q => dd.bk _ _ _ r q
  | .cont, σ, h, h', D, D', E, E', r, ee, dd, q => dd.ct _ _ _ r q
  | .nev, σ, h, h', D, D', E, E', r, ee, dd, q => q.elim
  | .rs c e, σ, h, h', D, D', E, E', r, ee, dd, q => wE_rel F RR e σ r ee (fun d h1 h2 r1 z => by cases d <;> first | exact ee _ _ _ _ r1 z | exact z.elim) q
termination_by structural e => e
theorem wSs_rel : ∀ (e : SmL) (σ : Sl) {h h' : TH} {D D' : Ends} {E E' : EQ}, R h h' → EqR R E E' → EndsR R D D' → wSs P e σ h D E → wSs P e σ h' D' E'
  | .nil, σ, h, h', D, D', E, E', r, ee, dd, q => dd.nx _ _ _ r q
  | .cons s rr, σ, h, h', D, D', E, E', r, ee, dd, q => wS_rel s σ (D := { nx := fun σ' h' => wSs P rr σ' h' D E, rt := D.rt, bk := D.bk, ct := D.ct }) (D' := { nx := fun σ' h' => wSs P rr σ' h' D' E', rt := D'.rt, bk := D'.bk, ct := D'.ct }) r ee ⟨fun s h1 h2 r1 z => wSs_rel rr s r1 ee dd z, dd.rt, dd.bk, dd.ct⟩ q
termination_by structural e => e
end
end
theorem semF_rel (p : Pg) : ∀ n, FnR (semF p n)
  | 0 => fun R RR f ds h h' Q Q' E E' r i j q => q.elim
  | n + 1 => fun R RR f ds h h' Q Q' E E' r i j q => by
    refine need_i (fun fd z => ⟨z.1, ?_⟩) q
    exact wSs_rel (P := p.env (semF p n)) (semF_rel p n) RR fd.body _ r (fun x s h1 h2 r1 z => wk_rel RR r1 (fun k k' r2 z => j _ _ _ r2 z) z)
      ⟨fun s h1 h2 r1 z => wk_rel RR r1 (fun k k' r2 z => i _ _ _ r2 z) z, fun d h1 h2 r1 z => wk_rel RR r1 (fun k k' r2 z => i _ _ _ r2 z) z, fun s h1 h2 r1 z => z, fun s h1 h2 r1 z => z⟩ z.2
/-! ### two relations -/
theorem Rel.eq : Rel (fun h h' => h = h') where
  at_ := fun e q => by rw [← e]; exact q
  fr := fun e q => by rw [e]; exact q
  new := fun e _ => by rw [e]
  put := fun e _ => by rw [e]
  wk_ := fun e l => by rw [← e]; exact ⟨_, l, rfl⟩
  del := fun e _ => by rw [e]
theorem ups_swap {h : TH} {a b : Nat} {o u : TO} (n : a ≠ b) : ups (ups h a o) b u = ups (ups h b u) a o := by
  funext c
  unfold ups
  by_cases h1 : c = a
  · by_cases h2 : c = b
    · exact absurd (h1.symm.trans h2) n
    · simp [h1, h2, n]
  · by_cases h2 : c = b
    · subst h2
      simp [Ne.symm n]
    · simp [h1, h2]
/-- one more object that nobody sees -/
theorem Rel.one (p : Nat) (o : TO) : Rel (fun h h' => h p = none ∧ h' = ups h p o) where
  at_ := fun {h h' a u} r q => by
    obtain ⟨n, rfl⟩ := r
    exact Le.up n _ _ q
  fr := fun {h h' q} r e => by
    obtain ⟨n, rfl⟩ := r
    by_cases z : q = p
    · rw [z]; exact n
    · rw [ups_ne z] at e; exact e
  new := fun {h h' q u} r e => by
    obtain ⟨n, rfl⟩ := r
    have z : q ≠ p := fun z => by rw [z, ups_same] at e; cases e
    exact ⟨by rw [ups_ne (Ne.symm z)]; exact n, ups_swap (Ne.symm z)⟩
  put := fun {h h' a u v} r e => by
    obtain ⟨n, rfl⟩ := r
    have z : a ≠ p := fun z => by rw [z, n] at e; cases e
    exact ⟨by rw [ups_ne (Ne.symm z)]; exact n, ups_swap (Ne.symm z)⟩
  wk_ := fun {h h' k} r l => by
    obtain ⟨n, rfl⟩ := r
    have e : k p = none := by
      cases q : k p with
      | none => rfl
      | some u => rw [l p u q] at n; cases n
    exact ⟨ups k p o, Le.ups l, e, rfl⟩
  del := fun {h h' a u} r e => by
    obtain ⟨n, rfl⟩ := r
    have z : a ≠ p := fun z => by rw [z, n] at e; cases e
    refine ⟨?_, ?_⟩
    · show (if p = a then none else h p) = none
      rw [n]; split <;> rfl
    · funext b
      show (if b = a then none else (if b = p then some o else h b)) = (if b = p then some o else (if b = a then none else h b))
      by_cases h1 : b = a
      · rw [if_pos h1, if_neg (fun h2 => z (h1.symm.trans h2)), if_pos h1]
      · rw [if_neg h1, if_neg h1]
end Tq
/-! UB1: how data stand in the abstract heap. -/
namespace Tq
open PySem L2
abbrev Mg := Str → Option Value
def kyK : Ky → Key
  | .i n => Sum.inl n
  | .s cs => Sum.inr ⟨cs.toArray⟩
/-- a tuple that stays -/
def TupAt (K : PySem.W.Frag) (H : Hp) (a : Addr) (xs : List V) : Prop := H a = some (.tup xs) ∨
    ∃ (o : Obj) (its : Array Value) (n : Nat), K.lookup a = some o ∧ o.cls = .type "tuple" ∧ o.data = .seq its n ∧ its.size ≤ sizeLine ∧ Vals xs its.toList
theorem TupAt.sq {K : PySem.W.Frag} {H : Hp} {a : Addr} {xs : List V} (h : TupAt K H a xs) : SqT K H a xs := by
  rcases h with h | h
  · exact .inl (.inl h)
  · exact .inr h
/-- a list that stays -/
def FrzAt (K : PySem.W.Frag) (H : Hp) (a : Addr) (xs : List V) : Prop := (∃ o, H a = some (.frz o (.lst xs))) ∨
    ∃ (its : Array Value) (n : Nat), K.lookup a = some { cls := .type "list", data := .seq its n } ∧ its.size ≤ sizeLine ∧ Vals xs its.toList
theorem FrzAt.sq {K : PySem.W.Frag} {H : Hp} {a : Addr} {xs : List V} (h : FrzAt K H a xs) : SqL K H a xs := by
  rcases h with ⟨o, h⟩ | ⟨its, n, h, z, r⟩
  · exact .inl (.inr ⟨o, h⟩)
  · exact .inr ⟨_, its, n, h, rfl, rfl, rfl, z, r⟩
/-- the script: a list that stays, whatever hangs on it -/
def ScrAt (K : PySem.W.Frag) (H : Hp) (a : Addr) (xs : List V) : Prop := (∃ o, H a = some (.frz o (.lst xs))) ∨
    ∃ (o : Obj) (its : Array Value) (n : Nat), K.lookup a = some o ∧ o.cls = .type "list" ∧ o.dict = none ∧ o.data = .seq its n ∧ its.size ≤ sizeLine ∧ Vals xs its.toList
theorem ScrAt.sq {K : PySem.W.Frag} {H : Hp} {a : Addr} {xs : List V} (h : ScrAt K H a xs) : SqL K H a xs := by
  rcases h with ⟨o, h⟩ | h
  · exact .inl (.inr ⟨o, h⟩)
  · exact .inr h
/-- tuples and locked lists stay -/
def Keep (H H' : Hp) : Prop := ∀ a xs, (H a = some (.tup xs) → H' a = some (.tup xs)) ∧ ∀ o, H a = some (.frz o (.lst xs)) → H' a = some (.frz o (.lst xs))
theorem Keep.refl (H : Hp) : Keep H H := fun _ _ => ⟨id, fun _ => id⟩
theorem Keep.trans {H H1 H2 : Hp} (a : Keep H H1) (b : Keep H1 H2) : Keep H H2 := fun c xs => ⟨fun h => (b c xs).1 ((a c xs).1 h), fun o h => (b c xs).2 o ((a c xs).2 o h)⟩
theorem Keep.new {H : Hp} {p : Addr} {o : HO} (n : H p = none) : Keep H (upd H p o) := fun a xs => by
  refine ⟨fun h => ?_, fun o' h => ?_⟩ <;> (rw [upd_ne (ne_of_none h n)]; exact h)
theorem Keep.put {H : Hp} {p : Addr} {o u : HO} (e : H p = some u) (h1 : ∀ xs, u ≠ .tup xs) (h2 : ∀ ob xs, u ≠ .frz ob (.lst xs)) : Keep H (upd H p o) := fun a xs => by
  refine ⟨fun h => ?_, fun o' h => ?_⟩
  · rw [upd_ne]
    · exact h
    · rintro rfl; rw [e] at h; exact h1 xs (Option.some.inj h)
  · rw [upd_ne]
    · exact h
    · rintro rfl; rw [e] at h; exact h2 o' xs (Option.some.inj h)
section
variable (K : PySem.W.Frag) (mg : Mg)
mutual
def Rep (H : Hp) : D → V → Prop
  | .non, v => v = .non
  | .bl b, v => v = .bl b
  | .int i, v => v = .int i
  | .str cs, v => v = .str ⟨cs.toArray⟩
  | .tup ds, v => ∃ a vs, v = .ref a ∧ TupAt K H a vs ∧ RepL H ds vs
  | .rol ds, v => ∃ a vs, v = .ref a ∧ FrzAt K H a vs ∧ RepL H ds vs
  | .scr ds, v => ∃ a vs, v = .ref a ∧ ScrAt K H a vs ∧ RepL H ds vs
  | .ref a, v => v = .ref a
  | .ty n, v => v = .ty n
  | .glo x, v => ∃ a, v = .ref a ∧ mg x = some (.ref a)
def RepL (H : Hp) : List D → List V → Prop
  | [], vs => vs = []
  | d :: ds, vs => ∃ v r, vs = v :: r ∧ Rep H d v ∧ RepL H ds r
end
def RepK (H : Hp) : List (Ky × D) → List (Key × V) → Prop
  | [], ws => ws = []
  | (k, d) :: r, ws => ∃ v w, ws = (kyK k, v) :: w ∧ Rep K mg H d v ∧ RepK H r w
def RepF (H : Hp) : List (Str × D) → List (Str × V) → Prop
  | [], ws => ws = []
  | (k, d) :: r, ws => ∃ v w, ws = (k, v) :: w ∧ Rep K mg H d v ∧ RepF H r w
def RepO (H : Hp) (a : Addr) : TO → Prop
  | .lst ds => ∃ vs, H a = some (.lst vs) ∧ RepL K mg H ds vs
  | .dK kvs => ∃ ws, H a = some (.dK ws) ∧ RepK K mg H kvs ws
  | .rdK kvs => ∃ o ws, H a = some (.frz o (.dK ws)) ∧ RepK K mg H kvs ws
  | .ins c fs => ∃ C dx ws, mg c = some (.ref C) ∧ H a = some (.ins C dx ws) ∧ RepF K mg H fs ws
def RepH (H : Hp) (th : TH) : Prop := ∀ a o, th a = some o → RepO K mg H a o
def RepS (H : Hp) (sd : Sl) (σ : L2.St) : Prop := σ.length = sd.length ∧ ∀ (i : Nat) (d : D), sd[i]? = some (some d) → ∃ v : V, σ[i]? = some (some v) ∧ Rep K mg H d v
end
section
variable {K : PySem.W.Frag} {mg : Mg} {H H' : Hp}
theorem TupAt.keep {a : Addr} {xs : List V} (k : Keep H H') (h : TupAt K H a xs) : TupAt K H' a xs := by
  rcases h with h | h
  · exact .inl ((k a xs).1 h)
  · exact .inr h
theorem FrzAt.keep {a : Addr} {xs : List V} (k : Keep H H') (h : FrzAt K H a xs) : FrzAt K H' a xs := by
  rcases h with ⟨o, h⟩ | h
  · exact .inl ⟨o, (k a xs).2 o h⟩
  · exact .inr h
theorem ScrAt.keep {a : Addr} {xs : List V} (k : Keep H H') (h : ScrAt K H a xs) : ScrAt K H' a xs := by
  rcases h with ⟨o, h⟩ | h
  · exact .inl ⟨o, (k a xs).2 o h⟩
  · exact .inr h
mutual
theorem Rep.keep (k : Keep H H') : ∀ {d : D} {v : V}, Rep K mg H d v → Rep K mg H' d v
  | .non, _, h => h
  | .bl _, _, h => h
  | .int _, _, h => h
  | .str _, _, h => h
  | .tup _, _, ⟨a, vs, e, t, l⟩ => ⟨a, vs, e, t.keep k, RepL.keep k l⟩
  | .rol _, _, ⟨a, vs, e, t, l⟩ => ⟨a, vs, e, t.keep k, RepL.keep k l⟩
  | .scr _, _, ⟨a, vs, e, t, l⟩ => ⟨a, vs, e, t.keep k, RepL.keep k l⟩
  | .ref _, _, h => h
  | .ty _, _, h => h
  | .glo _, _, h => h
theorem RepL.keep (k : Keep H H') : ∀ {ds : List D} {vs : List V}, RepL K mg H ds vs → RepL K mg H' ds vs
  | [], _, h => h
  | _ :: _, _, ⟨v, r, e, h, l⟩ => ⟨v, r, e, Rep.keep k h, RepL.keep k l⟩
end
theorem RepK.keep (k : Keep H H') : ∀ {l : List (Ky × D)} {ws : List (Key × V)}, RepK K mg H l ws → RepK K mg H' l ws
  | [], _, h => h
  | (_, _) :: _, _, ⟨v, w, e, h, l⟩ => ⟨v, w, e, h.keep k, RepK.keep k l⟩
theorem RepF.keep (k : Keep H H') : ∀ {l : List (Str × D)} {ws : List (Str × V)}, RepF K mg H l ws → RepF K mg H' l ws
  | [], _, h => h
  | (_, _) :: _, _, ⟨v, w, e, h, l⟩ => ⟨v, w, e, h.keep k, RepF.keep k l⟩
theorem RepS.keep {sd : Sl} {σ : L2.St} (k : Keep H H') (h : RepS K mg H sd σ) : RepS K mg H' sd σ :=
  ⟨h.1, fun i d e => let ⟨v, a, b⟩ := h.2 i d e; ⟨v, a, b.keep k⟩⟩
theorem RepO.keep {a : Addr} {o : TO} (k : Keep H H') (e : H' a = H a) (h : RepO K mg H a o) : RepO K mg H' a o := by
  cases o with
  | lst ds => obtain ⟨vs, q, l⟩ := h; exact ⟨vs, e.trans q, l.keep k⟩
  | dK ds => obtain ⟨vs, q, l⟩ := h; exact ⟨vs, e.trans q, l.keep k⟩
  | rdK ds => obtain ⟨o, vs, q, l⟩ := h; exact ⟨o, vs, e.trans q, l.keep k⟩
  | ins c fs => obtain ⟨C, dx, ws, m, q, l⟩ := h; exact ⟨C, dx, ws, m, e.trans q, l.keep k⟩
theorem RepO.there {a : Addr} {o : TO} (h : RepO K mg H a o) : ∃ u, H a = some u := by
  cases o with
  | lst ds => obtain ⟨vs, q, l⟩ := h; exact ⟨_, q⟩
  | dK ds => obtain ⟨vs, q, l⟩ := h; exact ⟨_, q⟩
  | rdK ds => obtain ⟨o, vs, q, l⟩ := h; exact ⟨_, q⟩
  | ins c fs => obtain ⟨C, dx, ws, m, q, l⟩ := h; exact ⟨_, q⟩
theorem RepH.free {th : TH} {p : Addr} (h : RepH K mg H th) (n : H p = none) : th p = none := by
  cases e : th p with
  | none => rfl
  | some o =>
    obtain ⟨u, q⟩ := (h p o e).there
    rw [n] at q
    cases q
theorem RepH.le {th k : TH} (h : RepH K mg H th) (l : Le k th) : RepH K mg H k := fun a o e => h a o (l a o e)
/-- a tuple is laid -/
theorem RepH.tup {th : TH} {p : Addr} {xs : List V} (h : RepH K mg H th) (n : H p = none) : RepH K mg (upd H p (.tup xs)) th := fun a o e => by
  obtain ⟨u, q⟩ := (h a o e).there
  exact (h a o e).keep (Keep.new n) (upd_ne (ne_of_none q n))
/-- an object is laid -/
theorem RepH.new {th : TH} {p : Addr} {o : TO} {u : HO} (h : RepH K mg H th) (n : H p = none) (r : RepO K mg (upd H p u) p o) : RepH K mg (upd H p u) (ups th p o) := fun a o' e => by
  by_cases q : a = p
  · subst q
    rw [ups_same] at e
    cases e
    exact r
  · rw [ups_ne q] at e
    exact (h a o' e).keep (Keep.new n) (upd_ne q)
/-- an object is written -/
theorem RepH.put {th : TH} {p : Addr} {o : TO} {u : HO} (h : RepH K mg H th) (k : Keep H (upd H p u)) (r : RepO K mg (upd H p u) p o) : RepH K mg (upd H p u) (ups th p o) := fun a o' e => by
  by_cases q : a = p
  · subst q
    rw [ups_same] at e
    cases e
    exact r
  · rw [ups_ne q] at e
    exact (h a o' e).keep k (upd_ne q)
/-- an object that nobody sees is laid -/
theorem RepH.any {th : TH} {p : Addr} {u : HO} (h : RepH K mg H th) (n : H p = none) : RepH K mg (upd H p u) th := fun a o e => by
  obtain ⟨v, q⟩ := (h a o e).there
  exact (h a o e).keep (Keep.new n) (upd_ne (ne_of_none q n))
theorem RepF.look : ∀ {l : List (Str × D)} {ws : List (Str × V)} {f : Str} {d : D}, RepF K mg H l ws → l.lookup f = some d → ∃ v, ws.lookup f = some v ∧ Rep K mg H d v
  | [], _, _, _, _, e => by cases e
  | (k, d0) :: r, _, f, d, ⟨v, w, e0, h, l⟩, e => by
    subst e0
    rw [List.lookup_cons] at e ⊢
    cases q : (f == k) with
    | true => rw [q] at e; cases e; exact ⟨v, rfl, h⟩
    | false => rw [q] at e; exact RepF.look l e
theorem RepF.none : ∀ {l : List (Str × D)} {ws : List (Str × V)} {f : Str}, RepF K mg H l ws → l.lookup f = none → ws.lookup f = none
  | [], _, _, h, e => by cases h; rfl
  | (k, d0) :: r, _, f, ⟨v, w, e0, h, l⟩, e => by
    subst e0
    rw [List.lookup_cons] at e ⊢
    cases q : (f == k) with
    | true => rw [q] at e; cases e
    | false => rw [q] at e; exact RepF.none l e
theorem RepF.length : ∀ {l : List (Str × D)} {ws : List (Str × V)}, RepF K mg H l ws → ws.length = l.length
  | [], _, h => by cases h; rfl
  | (k, d0) :: r, _, ⟨v, w, e0, h, l⟩ => by subst e0; simp [RepF.length l]
theorem RepF.put : ∀ {l : List (Str × D)} {ws : List (Str × V)} {f : Str} {d : D} {v : V}, RepF K mg H l ws → Rep K mg H d v → RepF K mg H (Tq.putF f d l) (L2.putF f v ws)
  | [], _, f, d, v, h, r => by cases h; exact ⟨v, [], rfl, r, rfl⟩
  | (k, d0) :: r0, _, f, d, v, ⟨v0, w, e0, h, l⟩, r => by
    subst e0
    unfold Tq.putF L2.putF
    by_cases e : k = f
    · first
        | (rw [if_pos e, if_pos e]; exact ⟨v, w, rfl, r, l⟩)
        | (subst e; simp; exact ⟨v, w, rfl, r, l⟩)
    · first
        | (rw [if_neg e, if_neg e]; exact ⟨v0, _, rfl, h, RepF.put l r⟩)
        | (simp [e]; exact ⟨v0, _, rfl, h, RepF.put l r⟩)
theorem RepL.length : ∀ {ds : List D} {vs : List V}, RepL K mg H ds vs → vs.length = ds.length
  | [], _, h => by cases h; rfl
  | _ :: _, _, ⟨v, r, e, _, l⟩ => by subst e; simp [RepL.length l]
theorem RepL.get : ∀ {ds : List D} {vs : List V} {i : Nat} {d : D}, RepL K mg H ds vs → ds[i]? = some d → ∃ v, vs[i]? = some v ∧ Rep K mg H d v
  | [], _, _, _, _, e => by simp at e
  | _ :: _, _, 0, _, ⟨v, r, e, h, l⟩, q => by subst e; simp at q; subst q; exact ⟨v, rfl, h⟩
  | _ :: _, _, i + 1, _, ⟨v, r, e, h, l⟩, q => by
    subst e
    obtain ⟨w, a, b⟩ := RepL.get (i := i) l (by simpa using q)
    exact ⟨w, by simpa using a, b⟩
theorem RepL.back {ds : List D} {vs : List V} {i : Nat} {v : V} (h : RepL K mg H ds vs) (e : vs[i]? = some v) : ∃ d, ds[i]? = some d ∧ Rep K mg H d v := by
  have l := h.length
  have hi : i < ds.length := by rw [← l]; exact (List.getElem?_eq_some_iff.mp e).1
  obtain ⟨w, a, b⟩ := h.get (List.getElem?_eq_getElem hi)
  rw [e] at a
  cases a
  exact ⟨_, List.getElem?_eq_getElem hi, b⟩
theorem RepL.append : ∀ {ds es : List D} {vs ws : List V}, RepL K mg H ds vs → RepL K mg H es ws → RepL K mg H (ds ++ es) (vs ++ ws)
  | [], _, _, _, h, q => by cases h; exact q
  | _ :: _, _, _, _, ⟨v, r, e, h, l⟩, q => by subst e; exact ⟨v, r ++ _, rfl, h, RepL.append l q⟩
theorem RepL.drop : ∀ {ds : List D} {vs : List V} (n : Nat), RepL K mg H ds vs → RepL K mg H (ds.drop n) (vs.drop n)
  | _, _, 0, h => h
  | [], _, _ + 1, h => by cases h; rfl
  | _ :: _, _, n + 1, ⟨v, r, e, h, l⟩ => by subst e; exact RepL.drop n l
theorem RepL.take : ∀ {ds : List D} {vs : List V} (n : Nat), RepL K mg H ds vs → RepL K mg H (ds.take n) (vs.take n)
  | _, _, 0, _ => by simp [RepL]
  | [], _, _ + 1, h => by cases h; simp [RepL]
  | _ :: _, _, n + 1, ⟨v, r, e, h, l⟩ => by subst e; exact ⟨v, r.take n, rfl, h, RepL.take n l⟩
theorem RepL.set : ∀ {ds : List D} {vs : List V} {d : D} {v : V} (n : Nat), RepL K mg H ds vs → Rep K mg H d v → RepL K mg H (ds.set n d) (vs.set n v)
  | [], _, _, _, _, h, _ => by cases h; simp [RepL]
  | _ :: _, _, d, v, 0, ⟨w, r, e, h, l⟩, q => by subst e; exact ⟨v, r, rfl, q, l⟩
  | _ :: _, _, d, v, n + 1, ⟨w, r, e, h, l⟩, q => by subst e; exact ⟨w, r.set n v, rfl, h, RepL.set n l q⟩
theorem RepL.rep {ds : List D} {vs : List V} (n : Nat) (h : RepL K mg H ds vs) : RepL K mg H (List.replicate n ds).flatten (List.replicate n vs).flatten := by
  induction n with
  | zero => simp [RepL]
  | succ n ih => rw [List.replicate_succ, List.replicate_succ, List.flatten_cons, List.flatten_cons]; exact h.append ih
theorem RepL.ints : ∀ {ns : List Int}, RepL K mg H (ns.map D.int) (ns.map V.int)
  | [] => rfl
  | _ :: _ => ⟨_, _, rfl, rfl, RepL.ints⟩
theorem RepS.set {sd : Sl} {σ : L2.St} {d : D} {v : V} (i : Nat) (h : RepS K mg H sd σ) (r : Rep K mg H d v) : RepS K mg H (sd.set i (some d)) (σ.set i (some v)) := by
  refine ⟨by simp [h.1], fun j e q => ?_⟩
  by_cases hj : i = j
  · subst hj
    have hl : i < sd.length := by
      have := (List.getElem?_eq_some_iff.mp q).1
      simpa using this
    rw [List.getElem?_set_self hl] at q
    cases q
    exact ⟨v, by rw [List.getElem?_set_self (by rw [h.1]; exact hl)], r⟩
  · rw [List.getElem?_set_ne hj] at q ⊢
    exact h.2 j e q
theorem RepS.wipe {sd : Sl} {σ : L2.St} (h : RepS K mg H sd σ) : ∀ vs : List Nat, RepS K mg H (Tq.wipe sd vs) (L2.wipe σ vs)
  | [] => h
  | v :: vs => by
    have ih := RepS.wipe h vs
    unfold Tq.wipe L2.wipe
    refine ⟨by simp [ih.1], fun j e q => ?_⟩
    by_cases hj : v = j
    · subst hj
      have hl : v < (Tq.wipe sd vs).length := by
        have := (List.getElem?_eq_some_iff.mp q).1
        simpa using this
      rw [List.getElem?_set_self hl] at q
      cases q
    · rw [List.getElem?_set_ne hj] at q ⊢
      exact ih.2 j e q
theorem sIx_eq (n d : Nat) (o : Option Int) : Tq.sIx n d o = HT.sIx n d o := by cases o <;> rfl
theorem ixN_eq (n : Nat) (i : Int) : Tq.ixN n i = L2.ixN n i := rfl
theorem atI_rep {ds : List D} {vs : List V} {i : Int} {d : D} (h : RepL K mg H ds vs) (e : Tq.atI ds i = some d) : ∃ v, L2.atI vs i = some v ∧ Rep K mg H d v := by
  unfold Tq.atI at e
  unfold L2.atI
  rw [h.length, ← ixN_eq]
  cases q : Tq.ixN ds.length i with
  | none => rw [q] at e; cases e
  | some j =>
    rw [q] at e
    exact h.get e
theorem cut_rep {ds : List D} {vs : List V} (lo hi : Option Int) (h : RepL K mg H ds vs) : RepL K mg H (Tq.cut ds lo hi) (L2.cutV vs lo hi) := by
  unfold Tq.cut L2.cutV
  rw [h.length, sIx_eq, sIx_eq]
  exact (h.drop _).take _
end
end Tq
/-! UB2: operators by values. -/
namespace Tq
open PySem L2 PyProof.Rows
/-- what is wanted of a result, said of data -/
def LQ (K : PySem.W.Frag) (mg : Mg) (Qt : KQ) (H : Hp) (Q : VK) : Prop := ∀ d th v H', Qt d th → Keep H H' → Rep K mg H' d v → RepH K mg H' th → Q v H'
def OpL (X : Cx) (f : Value → Value → Sem Value) (o : D → D → TH → KQ → Prop) : Prop :=
  OpR X f fun x y H Q => ∃ d e th Qt, Rep X.K X.mg H d x ∧ Rep X.K X.mg H e y ∧ RepH X.K X.mg H th ∧ o d e th Qt ∧ LQ X.K X.mg Qt H Q
section
variable {X : Cx} {pins : List (Addr × Obj)} {s : Shared} {σ : L2.St} {H : Hp} {x y : V} {v u : Value} {Q : VK}
theorem LQ.at {K : PySem.W.Frag} {mg : Mg} {Qt : KQ} {d : D} {th : TH} {v : V} (h : LQ K mg Qt H Q) (q : Qt d th) (r : Rep K mg H d v) (rh : RepH K mg H th) : Q v H := h d th v H q (Keep.refl H) r rh
theorem LINE_eq : LINE = sizeLine := rfl
theorem str_len (cs : List Nat) : (⟨cs.toArray⟩ : Str).length = cs.length := by show cs.toArray.size = _; simp
theorem str_app (a b : List Nat) : (⟨a.toArray⟩ : Str) ++ (⟨b.toArray⟩ : Str) = ⟨(a ++ b).toArray⟩ := by
  show (⟨a.toArray ++ b.toArray⟩ : Str) = _
  simp
theorem flat_rep (cs : List Nat) : ∀ (n : Nat) (acc : Array Nat), (List.replicate n cs.toArray).foldl (· ++ ·) acc = acc ++ ((List.replicate n cs).flatten).toArray
  | 0, acc => by simp
  | n + 1, acc => by rw [List.replicate_succ, List.foldl_cons, flat_rep cs n, List.replicate_succ, List.flatten_cons]; simp [Array.append_assoc]
theorem mul_txt (cs : List Nat) (j : Int) (h0 : 0 ≤ j) : Txt.mul ⟨cs.toArray⟩ j = ⟨((List.replicate j.toNat cs).flatten).toArray⟩ := by
  unfold Txt.mul
  by_cases h1 : j < 1
  · rw [if_pos h1]
    have e : j = 0 := by omega
    subst e
    rfl
  · rw [if_neg h1]
    by_cases h2 : (j == 1 || (⟨cs.toArray⟩ : Str).length == 0) = true
    · rw [if_pos h2, str_len] at *
      rw [Bool.or_eq_true, beq_iff_eq, beq_iff_eq] at h2
      rcases h2 with h2 | h2
      · subst h2; simp
      · have e : cs = [] := List.length_eq_zero_iff.mp h2
        subst e
        simp
    · rw [if_neg h2, flat_rep]
      simp
/-- a new list that nobody writes -/
def frzQ (Q : VK) : VK := fun v H => ∃ a xs, v = .ref a ∧ H a = some (.lst xs) ∧ ∀ od, Q v (upd H a (.frz od (.lst xs)))
theorem ep_frz (h : EP X pins σ (frzQ Q) u s) : EP X pins σ Q u s := by
  obtain ⟨x, H1, I, r, a, xs, e, ea, q⟩ := h
  obtain ⟨od, I2⟩ := I.lock ea trivial
  exact ⟨x, _, I2, r, q od⟩
theorem to_frz {m : Sem Value} {A : Around} {E : Value → Shared → Prop} (h : wpAny (model X.prog X.w) A m (EP X pins σ (frzQ Q)) E s) : wpAny (model X.prog X.w) A m (EP X pins σ Q) E s := thn h fun u s1 ep => ep_frz ep
theorem frz_new {K : PySem.W.Frag} {mg : Mg} {Qt : KQ} {ds : List D} {th : TH} {p : Addr} {vs : List V} (hq : LQ K mg Qt H Q) (q : Qt (.rol ds) th) (hn : H p = none) (l : RepL K mg H ds vs) (rh : RepH K mg H th) : frzQ Q (.ref p) (upd H p (.lst vs)) := by
  refine ⟨p, vs, rfl, upd_same, fun od => ?_⟩
  rw [upd_upd]
  exact hq _ _ _ _ q (Keep.new hn) ⟨p, vs, rfl, .inl ⟨od, upd_same⟩, l.keep (Keep.new hn)⟩ (rh.any hn)
/-- a list as it lies -/
def LsAt (K : PySem.W.Frag) (H : Hp) (a : Addr) (xs : List V) : Prop := H a = some (.lst xs) ∨ FrzAt K H a xs
theorem LsAt.sq {K : PySem.W.Frag} {H : Hp} {a : Addr} {xs : List V} (h : LsAt K H a xs) : SqL K H a xs := by
  rcases h with h | h
  · exact SqL.of h
  · exact h.sq
theorem LsAt.raw (I : Inv X pins σ H s) {a : Addr} {xs : List V} (h : LsAt X.K H a xs) : ∃ (its : List Value) (n : Nat), Vals xs its ∧ xs.length = its.length ∧ xs.length ≤ sizeLine ∧ s.heap.get? a = some { cls := .type "list", data := .seq its.toArray n } := by
  rcases h with h | ⟨o, h⟩ | ⟨its, n, h, z, r⟩
  · obtain ⟨z, its, n, r, hl, e⟩ := I.lstM h
    exact ⟨its, n, r, hl, z, e⟩
  · obtain ⟨e, z, its, n, r, e2⟩ := I.hok a _ h
    exact ⟨its, n, r, r.length, z, e2⟩
  · have l := r.length
    refine ⟨its.toList, n, r, l, by rw [l]; simpa using z, ?_⟩
    rw [Array.toArray_toList]
    exact I.kIn a _ h
theorem lst_rep {K : PySem.W.Frag} {mg : Mg} {H : Hp} {th : TH} {d : D} {v : V} {xs : List D} (rh : RepH K mg H th) (r : Rep K mg H d v) (e : lstAt th d = some xs) : ∃ p vs, v = .ref p ∧ LsAt K H p vs ∧ RepL K mg H xs vs := by
  cases d with
  | rol ys =>
    obtain ⟨p, vs, rfl, tp, lp⟩ := r
    cases e
    exact ⟨p, vs, rfl, .inr tp, lp⟩
  | ref a =>
    cases r
    unfold lstAt at e
    simp only at e
    split at e
    · rename_i ys ea
      cases e
      obtain ⟨vs, q, l⟩ := rh _ _ ea
      exact ⟨a, vs, rfl, .inl q, l⟩
    · cases e
  | _ => cases e
abbrev binQ (op : Operator) : D → D → TH → KQ → Prop := fun x y h Q => binT op x y h fun d => Q d h
theorem add_L : OpL X (binaryOp .Add) (binQ .Add) := by
  rintro pins s σ H x y v u Q I rx ry ⟨d, e, th, Qt, rd, re, rh, h, hq⟩
  have cat : ∀ {d : D}, Rep X.K X.mg H d x → (need (lstAt th d) fun a => need (lstAt th e) fun b => a.length + b.length ≤ LINE ∧ Qt (.rol (a ++ b)) th) → wpAny (model X.prog X.w) X.A (binaryOp .Add v u) (EP X pins σ Q) X.xe s := by
    intro d rd h
    obtain ⟨xs, ex, h⟩ := need_iff.mp h
    obtain ⟨ys, ey, hz, h⟩ := need_iff.mp h
    obtain ⟨p, vs, rfl, sp, lp⟩ := lst_rep rh rd ex
    obtain ⟨q, ws, rfl, sq, lq⟩ := lst_rep rh re ey
    cases rx
    cases ry
    obtain ⟨its, n, r, hl, z, e1⟩ := sp.raw I
    obtain ⟨its2, n2, r2, hl2, z2, e2⟩ := sq.raw I
    have hz2 : vs.length + ws.length ≤ sizeLine := by rw [lp.length, lq.length]; exact hz
    refine to_frz (PySem.P.add_list e1 e2 ?_ (by rw [List.size_toArray, List.size_toArray]; omega))
    have ea : its.toArray ++ its2.toArray = (its ++ its2).toArray := by simp
    rw [ea]
    exact ⟨.ref _, _, I.lnew (t' := s.toks) (r.append r2) (by rw [List.length_append]; omega), rfl, frz_new hq h I.fresh (lp.append lq) rh⟩
  cases d with
  | int i =>
    cases e with
    | int j =>
      cases rd; cases re
      exact op_add pins s σ H _ _ v u Q I rx ry ⟨i, j, rfl, rfl, hq.at h rfl rh⟩
    | _ => exact h.elim
  | str a =>
    cases e with
    | str b =>
      cases rd; cases re
      refine op_add_str pins s σ H _ _ v u Q I rx ry ⟨_, _, rfl, rfl, ?_, ?_⟩
      · rw [str_len, str_len]; exact h.1
      · rw [str_app]; exact hq.at h.2 rfl rh
    | _ => exact h.elim
  | tup a =>
    cases e with
    | tup b =>
      obtain ⟨p, vs, rfl, tp, lp⟩ := id rd
      obtain ⟨q, ws, rfl, tq, lq⟩ := id re
      refine op_catA pins s σ H _ _ v u Q I rx ry ⟨p, q, vs, ws, rfl, rfl, tp.sq, tq.sq, ?_, fun e => ?_, fun _ e => ?_, fun _ _ r hr => ?_⟩
      · rw [lp.length, lq.length]; exact h.1
      · subst e
        have ea : a = [] := List.length_eq_zero_iff.mp lp.length.symm
        subst ea
        exact hq.at h.2 re rh
      · subst e
        have ea : b = [] := List.length_eq_zero_iff.mp lq.length.symm
        subst ea
        refine hq.at h.2 ?_ rh
        rw [List.append_nil]
        exact rd
      · exact hq _ _ _ _ h.2 (Keep.new hr) ⟨r, _, rfl, .inl upd_same, (lp.append lq).keep (Keep.new hr)⟩ (rh.tup hr)
    | _ => exact h.elim
  | rol a =>
    have h : need (lstAt th (.rol a)) fun a => need (lstAt th e) fun b => a.length + b.length ≤ LINE ∧ Qt (.rol (a ++ b)) th := h
    exact cat rd h
  | ref a => exact cat rd h
  | _ => exact h.elim
theorem sub_L : OpL X (binaryOp .Sub) (binQ .Sub) := by
  rintro pins s σ H x y v u Q I rx ry ⟨d, e, th, Qt, rd, re, rh, h, hq⟩
  cases d with
  | int i =>
    cases e with
    | int j =>
      cases rd; cases re
      exact op_sub pins s σ H _ _ v u Q I rx ry ⟨i, j, rfl, rfl, hq.at h rfl rh⟩
    | _ => exact h.elim
  | _ => exact h.elim
theorem flat_len {α : Type} (xs : List α) (n : Nat) : (List.replicate n xs).flatten.length = n * xs.length := by
  induction n with
  | zero => simp
  | succ n ih => rw [List.replicate_succ, List.flatten_cons, List.length_append, ih, Nat.succ_mul, Nat.add_comm]
theorem fold_app {α : Type} (l : List α) : ∀ (n : Nat) (acc : List α), List.foldl (fun x y => x ++ y) acc.toArray (List.replicate n l.toArray) = (acc ++ (List.replicate n l).flatten).toArray
  | 0, acc => by simp
  | n + 1, acc => by
    rw [List.replicate_succ, List.foldl_cons]
    have e : acc.toArray ++ l.toArray = (acc ++ l).toArray := by simp
    rw [e, fold_app l n, List.replicate_succ, List.flatten_cons, List.append_assoc]
/-- a list times a number -/
theorem rep_frz {p : Addr} {j : Int} {vs : List V} (I : Inv X pins σ H s) (h : LsAt X.K H p vs) (rx : RelV (.ref p) v) (ry : RelV (.int j) u) (h0 : -(2 ^ 63) ≤ j) (h1 : j < 2 ^ 63) (hz : vs.length * j.toNat ≤ sizeLine)
    (q : ∀ r, H r = none → Q (.ref r) (upd H r (.lst (List.replicate j.toNat vs).flatten))) : wpAny (model X.prog X.w) X.A (binaryOp .Mult v u) (EP X pins σ Q) X.xe s := by
  cases rx
  obtain ⟨t, rfl⟩ := ry
  obtain ⟨its, n, r, hl, z, e⟩ := h.raw I
  have c1 : its.toArray.size * j.toNat ≤ sizeLine := by rw [List.size_toArray, ← hl]; exact hz
  have c2 : ¬ its.toArray.size * j.toNat > (2 ^ 63 - 1) / 8 := by
    have : (sizeLine : Nat) ≤ (2 ^ 63 - 1) / 8 := by decide
    omega
  have c3 : ¬ (!Builtin.List.listFitsIndex j) = true := by rw [fitsIndex_both h0 h1]; decide
  have c4 : ¬ Builtin.List.listTooLong (its.toArray.size * j.toNat) = true := by rw [notLongL c1]; decide
  have made : List.foldl (fun x1 x2 => x1 ++ x2) #[] (List.replicate (if its.toArray.isEmpty = true then 0 else j.toNat) its.toArray) = (List.replicate j.toNat its).flatten.toArray := by
    have f := fun m => fold_app its m []
    simp only [List.nil_append] at f
    cases its with
    | nil => simp
    | cons a r => rw [if_neg (by simp)]; exact f _
  refine wpAny_binaryOp_repeat_ref (T := "list") (U := "int") (by decide) ⟨_, e, rfl⟩ (fun s2 => typeIs_int s2 j t) noFill_list_mul F.fills_int_mul F.slot_int_rmul repeat_list F.slot_int_index.lookup
    (call_meets F.slot_int_rmul (typeIs_int s j t) F.entry_int_rmul (F.args_int_rmul_2 _ _) (int___rmul___int_list j t p its.toArray n)
      ⟨e, rfl, ⟨_, e, rfl⟩, call_meets F.slot_list_mul ⟨_, e, rfl⟩ F.entry_list_mul (F.args_list_mul_2 _ _) (AutoListH.list___mul___list_int_3 p its.toArray n j t c3 c2 c4) ⟨e, ?_⟩⟩)
  rw [made]
  exact ⟨.ref _, _, I.lnew (t' := s.toks) (r.rep j.toNat) (by rw [flat_len, Nat.mul_comm]; exact hz), rfl, q _ I.fresh⟩
theorem mul_L : OpL X (binaryOp .Mult) (binQ .Mult) := by
  rintro pins s σ H x y v u Q I rx ry ⟨d, e, th, Qt, rd, re, rh, h, hq⟩
  cases d with
  | int i =>
    cases e with
    | int j =>
      cases rd; cases re
      exact op_mul pins s σ H _ _ v u Q I rx ry ⟨i, j, rfl, rfl, h.1, hq.at h.2 rfl rh⟩
    | _ => exact h.elim
  | str cs =>
    cases e with
    | int j =>
      cases rd; cases re
      obtain ⟨h0, h1, h2, h3⟩ := h
      obtain ⟨t, rfl⟩ := rx
      obtain ⟨t', rfl⟩ := ry
      refine SB.mul ⟨?_, fun _ _ => ?_, fun _ _ => ?_⟩ fun t' k => ⟨.str _, H, I.tok _, ⟨t', rfl⟩, ?_⟩
      · rw [decide_eq_false (by omega), decide_eq_false (by omega)]; rfl
      · rw [str_len]
        have : (cs.length : Int) ≤ 10 := by omega
        have h5 : (10 : Int) * j ≤ 2 ^ 63 - 1 := by omega
        have h6 : (10 : Int) ≤ (2 ^ 63 - 1) / j := by
          rw [Int.le_ediv_iff_mul_le (by omega)]; exact h5
        omega
      · rw [str_len]
        have h7 : cs.length * j.toNat ≤ 10 * 1000000 := Nat.mul_le_mul h2 (by omega)
        have e24 : sizeLine = 16777216 := rfl
        unfold Builtin.Str.tooLong
        exact decide_eq_false (by omega)
      · rw [mul_txt _ _ h0]
        exact hq.at h3 rfl rh
    | _ => exact h.elim
  | tup xs =>
    cases e with
    | int j =>
      cases re
      obtain ⟨h0, h1, h2, h3, h4⟩ := h
      obtain ⟨p, vs, rfl, tp, lp⟩ := id rd
      refine op_repT pins s σ H _ _ v u Q I rx ry ⟨p, j, vs, rfl, rfl, tp.sq, fun e => ?_, h1, h2, ?_, fun r hr => ?_⟩
      · subst e; exact h0 (List.length_eq_zero_iff.mp lp.length.symm)
      · rw [lp.length]; exact h3
      · exact hq _ _ _ _ h4 (Keep.new hr) ⟨r, _, rfl, .inl upd_same, (lp.rep _).keep (Keep.new hr)⟩ (rh.tup hr)
    | _ => exact h.elim
  | rol xs =>
    cases e with
    | int j =>
      cases re
      obtain ⟨h0, h1, h2, h3⟩ := h
      obtain ⟨p, vs, rfl, tp, lp⟩ := id rd
      refine to_frz (rep_frz I (.inr tp) rx ry (by omega) (by omega) ?_ fun r hr => frz_new hq h3 hr (lp.rep _) rh)
      rw [lp.length]
      have e24 : sizeLine = 16777216 := rfl
      have := Nat.mul_le_mul h2 (show j.toNat ≤ 1000 by omega)
      omega
    | _ => exact h.elim
  | _ => exact h.elim
theorem fdv_L : OpL X (binaryOp .FloorDiv) (binQ .FloorDiv) := by
  rintro pins s σ H x y v u Q I rx ry ⟨d, e, th, Qt, rd, re, rh, h, hq⟩
  cases d with
  | int i =>
    cases e with
    | int j =>
      cases rd; cases re
      exact op_fdiv pins s σ H _ _ v u Q I rx ry ⟨i, j, rfl, rfl, ⟨h.1, h.2.1⟩, hq.at h.2.2 rfl rh⟩
    | _ => exact h.elim
  | _ => exact h.elim
theorem mod_L : OpL X (binaryOp .Mod) (binQ .Mod) := by
  rintro pins s σ H x y v u Q I rx ry ⟨d, e, th, Qt, rd, re, rh, h, hq⟩
  cases d with
  | int i =>
    cases e with
    | int j =>
      cases rd; cases re
      exact op_mod pins s σ H _ _ v u Q I rx ry ⟨i, j, rfl, rfl, h.1, hq.at h.2 rfl rh⟩
    | _ => exact h.elim
  | _ => exact h.elim
theorem pow_L : OpL X (binaryOp .Pow) (binQ .Pow) := by
  rintro pins s σ H x y v u Q I rx ry ⟨d, e, th, Qt, rd, re, rh, h, hq⟩
  cases d with
  | int i =>
    cases e with
    | int j =>
      cases rd; cases re
      exact op_pow pins s σ H _ _ v u Q I rx ry ⟨i, j, rfl, rfl, ⟨h.1, h.2.1, h.2.2.1⟩, hq.at h.2.2.2 rfl rh⟩
    | _ => exact h.elim
  | _ => exact h.elim
theorem bin_L (op : Operator) : OpL X (binaryOp op) (binQ op) := by
  cases op with
  | Add => exact add_L
  | Sub => exact sub_L
  | Mult => exact mul_L
  | FloorDiv => exact fdv_L
  | Mod => exact mod_L
  | Pow => exact pow_L
  | _ =>
    rintro pins s σ H x y v u Q I rx ry ⟨d, e, th, Qt, rd, re, rh, h, hq⟩
    exact h.elim

/-! ### == -/
mutual
def toP : D → PyData
  | .non => .none
  | .bl b => .bool b
  | .int i => .int i
  | .str cs => .str ⟨cs.toArray⟩
  | .tup xs => .tuple (toPs xs)
  | .rol xs => .list (toPs xs)
  | _ => .none
def toPs : List D → List PyData
  | [] => []
  | x :: r => toP x :: toPs r
end
theorem arr_inj {a b : List Nat} : ((⟨a.toArray⟩ : Str) = ⟨b.toArray⟩) ↔ a = b := by
  constructor
  · intro h
    have := congrArg (fun z : Str => z.cps.toList) h
    simpa using this
  · rintro rfl; rfl
theorem str_beq (a b : List Nat) : ((⟨a.toArray⟩ : Str) == ⟨b.toArray⟩) = (a == b) := by
  by_cases e : a = b
  · subst e; simp
  · have h1 : ¬ (⟨a.toArray⟩ : Str) = ⟨b.toArray⟩ := fun q => e (arr_inj.mp q)
    rw [beq_eq_false_iff_ne.mpr h1, beq_eq_false_iff_ne.mpr e]
mutual
theorem toP_eqv : ∀ (a b : D), pureD a = true → pureD b = true → PyData.eqv (toP a) (toP b) = eqv a b
  | .str a, .str b, _, _ => by simp [toP, PyData.eqv, eqv, str_beq]
  | .tup a, .tup b, h, k => by simp only [toP, PyData.eqv, eqv]; exact toPs_eqv a b (by simpa [pureD] using h) (by simpa [pureD] using k)
  | .rol a, .rol b, h, k => by simp only [toP, PyData.eqv, eqv]; exact toPs_eqv a b (by simpa [pureD] using h) (by simpa [pureD] using k)
  | .non, b, _, k => by cases b <;> first | rfl | (exfalso; simp [pureD] at k)
  | .bl a, b, _, k => by cases b <;> first | rfl | (exfalso; simp [pureD] at k)
  | .int a, b, _, k => by cases b <;> first | rfl | (exfalso; simp [pureD] at k)
  | .str a, .non, _, k => rfl
  | .str a, .bl _, _, k => rfl
  | .str a, .int _, _, k => rfl
  | .str a, .tup _, _, k => rfl
  | .str a, .rol _, _, k => rfl
  | .str a, .scr _, _, k => by simp [pureD] at k
  | .str a, .ref _, _, k => by simp [pureD] at k
  | .str a, .ty _, _, k => by simp [pureD] at k
  | .str a, .glo _, _, k => by simp [pureD] at k
  | .tup a, .non, _, k => rfl
  | .tup a, .bl _, _, k => rfl
  | .tup a, .int _, _, k => rfl
  | .tup a, .str _, _, k => rfl
  | .tup a, .rol _, _, k => rfl
  | .tup a, .scr _, _, k => by simp [pureD] at k
  | .tup a, .ref _, _, k => by simp [pureD] at k
  | .tup a, .ty _, _, k => by simp [pureD] at k
  | .tup a, .glo _, _, k => by simp [pureD] at k
  | .rol a, .non, _, k => rfl
  | .rol a, .bl _, _, k => rfl
  | .rol a, .int _, _, k => rfl
  | .rol a, .str _, _, k => rfl
  | .rol a, .tup _, _, k => rfl
  | .rol a, .scr _, _, k => by simp [pureD] at k
  | .rol a, .ref _, _, k => by simp [pureD] at k
  | .rol a, .ty _, _, k => by simp [pureD] at k
  | .rol a, .glo _, _, k => by simp [pureD] at k
  | .scr _, _, h, _ => by simp [pureD] at h
  | .ref _, _, h, _ => by simp [pureD] at h
  | .ty _, _, h, _ => by simp [pureD] at h
  | .glo _, _, h, _ => by simp [pureD] at h
theorem toPs_eqv : ∀ (a b : List D), pureL a = true → pureL b = true → PyData.eqvAll (toPs a) (toPs b) = eqvL a b
  | [], [], _, _ => rfl
  | [], _ :: _, _, _ => rfl
  | _ :: _, [], _, _ => rfl
  | x :: a, y :: b, h, k => by
    simp only [pureL, Bool.and_eq_true] at h k
    simp only [toPs, PyData.eqvAll, eqvL]
    rw [toP_eqv x y h.1 k.1, toPs_eqv a b h.2 k.2]
end
mutual
theorem toP_dep : ∀ a : D, (toP a).depth ≤ dep a
  | .tup a => by simp only [toP, PyData.depth, dep]; exact Nat.succ_le_succ (toPs_dep a)
  | .rol a => by simp only [toP, PyData.depth, dep]; exact Nat.succ_le_succ (toPs_dep a)
  | .non => Nat.zero_le _
  | .bl _ => Nat.zero_le _
  | .int _ => Nat.zero_le _
  | .str _ => Nat.zero_le _
  | .scr _ => Nat.zero_le _
  | .ref _ => Nat.zero_le _
  | .ty _ => Nat.zero_le _
  | .glo _ => Nat.zero_le _
theorem toPs_dep : ∀ a : List D, PyData.depthAll (toPs a) ≤ depL a
  | [] => Nat.le_refl _
  | x :: r => by
    simp only [toPs, PyData.depthAll, depL]
    have h1 := toP_dep x
    have h2 := toPs_dep r
    omega
end
theorem strOk_of {cs : List Nat} (h : cs.all (fun c => decide (c < 1114112)) = true) : PyData.strOk ⟨cs.toArray⟩ = true := by
  unfold PyData.strOk
  simpa using h
mutual
theorem toP_ok : ∀ a : D, okD a = true → (toP a).canLay0 = true
  | .tup a, h => by simp only [toP, PyData.canLay0]; exact toPs_ok a (by simpa [okD] using h)
  | .rol a, h => by simp only [toP, PyData.canLay0]; exact toPs_ok a (by simpa [okD] using h)
  | .non, _ => rfl
  | .bl _, _ => rfl
  | .int _, _ => rfl
  | .str cs, h => strOk_of (by simpa [okD] using h)
  | .scr _, _ => rfl
  | .ref _, _ => rfl
  | .ty _, _ => rfl
  | .glo _, _ => rfl
theorem toPs_ok : ∀ a : List D, okL a = true → PyData.canLayAll0 (toPs a) = true
  | [], _ => rfl
  | x :: r, h => by
    simp only [okL, Bool.and_eq_true] at h
    simp only [toPs, PyData.canLayAll0, toP_ok x h.1, toPs_ok r h.2]
    rfl
end
theorem good_shaped {a : D} (h : goodD a) : SeqAt.shaped (toP a) = true := by
  unfold SeqAt.shaped
  rw [Bool.and_eq_true]
  exact ⟨toP_ok a h.2.1, decide_eq_true (Nat.le_trans (toP_dep a) (Nat.le_trans h.2.2 (by decide)))⟩
mutual
theorem dp_of {K : PySem.W.Frag} {mg : Mg} {H : Hp} : ∀ {a : D} {v : V}, pureD a = true → Rep K mg H a v → Dp K H v (toP a)
  | .non, _, _, h => by cases h; exact .non
  | .bl _, _, _, h => by cases h; exact .bl _
  | .int _, _, _, h => by cases h; exact .int _
  | .str _, _, _, h => by cases h; exact .str _
  | .tup xs, _, k, ⟨p, vs, e, t, l⟩ => by subst e; exact .tup t.sq (dps_of (by simpa [pureD] using k) l)
  | .rol xs, _, k, ⟨p, vs, e, t, l⟩ => by subst e; exact .lst t.sq (dps_of (by simpa [pureD] using k) l)
  | .scr _, _, k, _ => by simp [pureD] at k
  | .ref _, _, k, _ => by simp [pureD] at k
  | .ty _, _, k, _ => by simp [pureD] at k
  | .glo _, _, k, _ => by simp [pureD] at k
theorem dps_of {K : PySem.W.Frag} {mg : Mg} {H : Hp} : ∀ {a : List D} {v : List V}, pureL a = true → RepL K mg H a v → DpAll K H v (toPs a)
  | [], _, _, h => by cases h; exact .nil
  | _ :: _, _, k, ⟨w, r, e, h, l⟩ => by
    subst e
    simp only [pureL, Bool.and_eq_true] at k
    exact .cons (dp_of k.1 h) (dps_of k.2 l)
end
/-- a list read at the outermost place is data -/
theorem dp_res {K : PySem.W.Frag} {mg : Mg} {H : Hp} {th : TH} {d d' : D} {v : V} (rh : RepH K mg H th) (r : Rep K mg H d v) (e : res th d = some d') (g : pureD d' = true) : Dp K H v (toP d') := by
  unfold res at e
  split at e
  · rename_i a
    split at e
    · rename_i xs ex
      cases e
      cases r
      obtain ⟨vs, q, l⟩ := rh _ _ ex
      exact .lst (SqL.of q) (dps_of (by simpa [pureD] using g) l)
    · cases e
  · cases e
    exact dp_of g r
theorem flat_V {K : PySem.W.Frag} {mg : Mg} {H : Hp} {d : D} {v : V} (r : Rep K mg H d v) (h : flat d = true) : flatV v = true := by
  cases d with
  | non => cases r; rfl
  | bl _ => cases r; rfl
  | int _ => cases r; rfl
  | str _ => cases r; rfl
  | _ => cases h
theorem flat_pure {d : D} (h : flat d = true) : pureD d = true := by cases d <;> first | rfl | cases h
theorem flat_dep {d : D} (h : flat d = true) : dep d = 0 := by cases d <;> first | rfl | cases h
theorem flat_scal {K : PySem.W.Frag} {mg : Mg} {H : Hp} {d e : D} {v w : V} (r : Rep K mg H d v) (q : Rep K mg H e w) (hd : flat d = true) (he : flat e = true) (nb : ¬ ((∃ b i, d = .bl b ∧ e = .int i) ∨ ∃ b i, d = .int i ∧ e = .bl b)) :
    scal v w = true ∧ decide (v = w) = eqv d e := by
  cases d <;> (try exact Bool.noConfusion (show false = true from hd)) <;> cases e <;> (try exact Bool.noConfusion (show false = true from he)) <;> first
    | (exfalso; exact nb (.inl ⟨_, _, rfl, rfl⟩))
    | (exfalso; exact nb (.inr ⟨_, _, rfl, rfl⟩))
    | (cases r; cases q; refine ⟨rfl, ?_⟩; first | rfl | (rw [Bool.eq_iff_iff]; simp [eqv, arr_inj]))
theorem good_flat (d : D) (h : flat d = true) (n : ∀ cs, d ≠ .str cs) : goodD d := by
  cases d <;> first
    | exact ⟨rfl, rfl, Nat.zero_le _⟩
    | exact Bool.noConfusion (show false = true from h)
    | exact absurd rfl (n _)
theorem eq_L (hu : X.A.units + 64 < cLine) : OpL X (compareOp .Eq) (fun a b h Q => cmpD h a b fun t => Q (.bl t) h) := by
  rintro pins s σ H x y v u Q I rx ry ⟨d, e, th, Qt, rd, re, rh, h, hq⟩
  rcases h with ⟨h1, h2, h3⟩ | ⟨_, h⟩
  · by_cases nb : (∃ b i, d = .bl b ∧ e = .int i) ∨ ∃ b i, d = .int i ∧ e = .bl b
    · have g1 : goodD d := good_flat d h1 (by rintro cs rfl; rcases nb with ⟨_, _, z, _⟩ | ⟨_, _, z, _⟩ <;> cases z)
      have g2 : goodD e := good_flat e h2 (by rintro cs rfl; rcases nb with ⟨_, _, _, z⟩ | ⟨_, _, _, z⟩ <;> cases z)
      refine op_eqD hu pins s σ H x y v u Q I rx ry ⟨_, _, dp_of g1.1 rd, dp_of g2.1 re, good_shaped g1, good_shaped g2, ?_⟩
      rw [toP_eqv _ _ g1.1 g2.1]
      exact hq.at h3 rfl rh
    · obtain ⟨s1, s2⟩ := flat_scal rd re h1 h2 nb
      refine op_eq pins s σ H x y v u Q I rx ry ⟨s1, ?_⟩
      rw [s2]
      exact hq.at h3 rfl rh
  · obtain ⟨d', e1, h⟩ := need_iff.mp h
    obtain ⟨e', e2, g1, g2, h⟩ := need_iff.mp h
    refine op_eqD hu pins s σ H x y v u Q I rx ry ⟨_, _, dp_res rh rd e1 g1.1, dp_res rh re e2 g2.1, good_shaped g1, good_shaped g2, ?_⟩
    rw [toP_eqv _ _ g1.1 g2.1]
    exact hq.at h rfl rh
theorem ne_L (hu : X.A.units + 64 < cLine) : OpL X (compareOp .NotEq) (fun a b h Q => cmpD h a b fun t => Q (.bl (!t)) h) := by
  rintro pins s σ H x y v u Q I rx ry ⟨d, e, th, Qt, rd, re, rh, h, hq⟩
  rcases h with ⟨h1, h2, h3⟩ | ⟨_, h⟩
  · by_cases nb : (∃ b i, d = .bl b ∧ e = .int i) ∨ ∃ b i, d = .int i ∧ e = .bl b
    · have g1 : goodD d := good_flat d h1 (by rintro cs rfl; rcases nb with ⟨_, _, z, _⟩ | ⟨_, _, z, _⟩ <;> cases z)
      have g2 : goodD e := good_flat e h2 (by rintro cs rfl; rcases nb with ⟨_, _, _, z⟩ | ⟨_, _, _, z⟩ <;> cases z)
      refine op_neD hu pins s σ H x y v u Q I rx ry ⟨_, _, dp_of g1.1 rd, dp_of g2.1 re, good_shaped g1, good_shaped g2, ?_⟩
      rw [toP_eqv _ _ g1.1 g2.1]
      exact hq.at h3 rfl rh
    · obtain ⟨s1, s2⟩ := flat_scal rd re h1 h2 nb
      refine op_ne pins s σ H x y v u Q I rx ry ⟨s1, ?_⟩
      rw [s2]
      exact hq.at h3 rfl rh
  · obtain ⟨d', e1, h⟩ := need_iff.mp h
    obtain ⟨e', e2, g1, g2, h⟩ := need_iff.mp h
    refine op_neD hu pins s σ H x y v u Q I rx ry ⟨_, _, dp_res rh rd e1 g1.1, dp_res rh re e2 g2.1, good_shaped g1, good_shaped g2, ?_⟩
    rw [toP_eqv _ _ g1.1 g2.1]
    exact hq.at h rfl rh
end
end Tq
/-! UB3: comparisons, subscripts, slices, built-ins by values. -/
namespace Tq
open PySem L2 PyProof.Rows
/-- the written dicts are what is said of them -/
def WdOk (X : Cx) (P : Env) : Prop := ∀ g w, P.wd g = some w → ∃ a es n, X.mg g = some (.ref a) ∧ KDict X.K X.w a es n ∧ ∀ cs : List Nat, ∃ r : Option Value, PySem.W.nsIn X.K a ⟨cs.toArray⟩ = some r ∧
  (match wLook w cs with
    | some d => ∃ u v, r = some u ∧ RelV v u ∧ ∀ H, Rep X.K X.mg H d v
    | none => r = none)
theorem WdOk.is {X : Cx} {P : Env} (W : WdOk X P) {g : Str} {w : List (List Nat × D)} (e : P.wd g = some w) {H : Hp} {y : V} (re : Rep X.K X.mg H (.glo g) y) : ∃ a es n, y = .ref a ∧ KDict X.K X.w a es n ∧ ∀ cs : List Nat, ∃ r : Option Value, PySem.W.nsIn X.K a ⟨cs.toArray⟩ = some r ∧
  (match wLook w cs with
    | some d => ∃ u v, r = some u ∧ RelV v u ∧ ∀ H, Rep X.K X.mg H d v
    | none => r = none) := by
  obtain ⟨a, es, n, m, D, f⟩ := W g w e
  obtain ⟨a', rfl, m'⟩ := re
  rw [m] at m'
  cases m'
  exact ⟨a, es, n, rfl, D, f⟩
section
variable {X : Cx} {P : Env}
theorem some_iff {o : Option D} {r : Option Value} {K : PySem.W.Frag} {mg : Mg} (h : match o with
    | some d => ∃ u v, r = some u ∧ RelV v u ∧ ∀ H, Rep K mg H d v
    | none => r = none) : r.isSome = o.isSome := by
  cases o with
  | none => rw [show r = none from h]; rfl
  | some d => obtain ⟨u, v, e, _⟩ := h; rw [e]; rfl
theorem look_eq {K : PySem.W.Frag} {mg : Mg} {H : Hp} : ∀ {kvs : List (Ky × D)} {ws : List (Key × V)} (q : Ky), RepK K mg H kvs ws →
    (match look kvs q with | some d => ∃ v, valV ws (kyK q) = some v ∧ Rep K mg H d v | none => valV ws (kyK q) = none)
  | [], ws, q, h => by cases h; rfl
  | (k, d) :: r, ws, q, ⟨v, w, e, rd, l⟩ => by
    subst e
    by_cases z : k = q
    · subst z
      have e1 : look ((k, d) :: r) k = some d := by simp [look, List.find?_cons]
      have e2 : valV ((kyK k, v) :: w) (kyK k) = some v := valV_pos rfl
      rw [e1, e2]
      exact ⟨v, rfl, rd⟩
    · have z2 : ¬ kyK k = kyK q := by
        intro h
        cases k <;> cases q <;> simp [kyK] at h <;> simp_all
      have e1 : look ((k, d) :: r) q = look r q := by simp [look, List.find?_cons, z]
      have e2 : valV ((kyK k, v) :: w) (kyK q) = valV w (kyK q) := valV_neg z2
      rw [e1, e2]
      exact look_eq q l
theorem look_iff {K : PySem.W.Frag} {mg : Mg} {H : Hp} {kvs : List (Ky × D)} {ws : List (Key × V)} (q : Ky) (h : RepK K mg H kvs ws) : (valV ws (kyK q)).isSome = (look kvs q).isSome := by
  have z := look_eq q h
  cases e : look kvs q with
  | none => rw [e] at z; rw [show valV ws (kyK q) = none from z]; rfl
  | some d => rw [e] at z; obtain ⟨v, z, _⟩ := z; rw [z]; rfl
theorem ky_rep {K : PySem.W.Frag} {mg : Mg} {H : Hp} {d : D} {v : V} {q : Ky} (r : Rep K mg H d v) (e : toKy d = some q) : v = kV (kyK q) := by
  cases d with
  | int i => cases e; cases r; rfl
  | str cs => cases e; cases r; rfl
  | _ => cases e
theorem RepK.length {K : PySem.W.Frag} {mg : Mg} {H : Hp} : ∀ {kvs : List (Ky × D)} {ws : List (Key × V)}, RepK K mg H kvs ws → ws.length = kvs.length
  | [], _, h => by cases h; rfl
  | (_, _) :: _, _, ⟨v, w, e, _, l⟩ => by subst e; simp [RepK.length l]
theorem eqV_rep {K : PySem.W.Frag} {mg : Mg} {H : Hp} {d e : D} {v w : V} (r : Rep K mg H d v) (q : Rep K mg H e w) (hd : flat d = true) (he : flat e = true) : eqV v w = eqv d e := by
  cases d <;> (try exact Bool.noConfusion (show false = true from hd)) <;> cases e <;> (try exact Bool.noConfusion (show false = true from he)) <;> (cases r; cases q; first | rfl | (simp [eqV, eqv, str_beq]))
theorem flat_all {K : PySem.W.Frag} {mg : Mg} {H : Hp} : ∀ {ds : List D} {vs : List V}, RepL K mg H ds vs → ds.all flat = true → vs.all flatV = true
  | [], _, h, _ => by cases h; rfl
  | _ :: _, _, ⟨v, r, e, h, l⟩, q => by
    subst e
    simp only [List.all_cons, Bool.and_eq_true] at q ⊢
    exact ⟨flat_V h q.1, flat_all l q.2⟩
theorem inV_rep {K : PySem.W.Frag} {mg : Mg} {H : Hp} {d : D} {v : V} (r : Rep K mg H d v) (hd : flat d = true) : ∀ {ds : List D} {vs : List V}, RepL K mg H ds vs → ds.all flat = true → inV v vs = ds.any fun z => eqv z d
  | [], _, h, _ => by cases h; rfl
  | x :: ds, _, ⟨w, t, e, h, l⟩, q => by
    subst e
    simp only [List.all_cons, Bool.and_eq_true] at q
    show (eqV w v || inV v t) = _
    rw [eqV_rep h r q.1 hd, inV_rep r hd l q.2]
    rfl
theorem toPs_any (d : D) (h : pureD d = true) : ∀ ds : List D, pureL ds = true → ((toPs ds).any fun z => PyData.eqv z (toP d)) = ds.any fun z => eqv z d
  | [], _ => rfl
  | x :: r, k => by
    simp only [pureL, Bool.and_eq_true] at k
    simp only [toPs, List.any_cons, toP_eqv x d k.1 h, toPs_any d h r k.2]
theorem room_in {A : Around} {ds : List PyData} {d : PyData} (hu : A.units + 65 < cLine) (h : SeqAt.shaped d = true) : A.units + 1 + min (PyData.depthAll ds) d.depth < cLine := by
  have h1 := SeqAt.depth_of_shaped h
  have h2 : min (PyData.depthAll ds) d.depth ≤ d.depth := Nat.min_le_right _ _
  omega
theorem in_seq_L (hu : X.A.units + 65 < cLine) (b : Bool) {pins : List (Addr × Obj)} {s : Shared} {σ : L2.St} {H : Hp} {x y : V} {v u : Value} {Q : VK} {d : D} {ds : List D} {k : Bool → Prop} {p : Addr} {vs : List V}
    (I : Inv X pins σ H s) (rx : RelV x v) (ry : RelV y u) (rd : Rep X.K X.mg H d x) (ey : y = .ref p) (hs : SqL X.K H p vs ∨ SqT X.K H p vs) (l : RepL X.K X.mg H ds vs) (h : inSeq d ds k) (hq : ∀ t, k t → Q (.bl (if b then !t else t)) H) :
    wpAny (model X.prog X.w) X.A (compareOp (if b then .NotIn else .In) v u) (EP X pins σ Q) X.xe s := by
  subst ey
  obtain ⟨h, hk⟩ := h
  rcases h with ⟨h1, h2⟩ | ⟨g1, g2⟩
  · have e := inV_rep rd h1 l h2
    cases b with
    | false => exact op_in_seq pins s σ H x _ v u Q I rx ry ⟨p, vs, rfl, hs, flat_V rd h1, flat_all l h2, by rw [e]; exact hq _ hk⟩
    | true => exact op_notIn_seq pins s σ H x _ v u Q I rx ry ⟨p, vs, rfl, hs, flat_V rd h1, flat_all l h2, by rw [e]; exact hq _ hk⟩
  · have pl : pureL ds = true := by simpa [pureD] using g2.1
    have okl : okL ds = true := by simpa [okD] using g2.2.1
    have e := toPs_any d g1.1 ds pl
    obtain ⟨as, r1⟩ := Dp.reads I (toP d) x v (dp_of g1.1 rd) rx
    have ro := room_in (A := X.A) (ds := toPs ds) hu (good_shaped g1)
    rcases hs with hs | hs
    · obtain ⟨bs, r2⟩ := Dp.reads I (.list (toPs ds)) _ u (.lst hs (dps_of pl l)) ry
      cases b with
      | false => exact SeqAt.in_list_reads r2 r1 (toPs_ok ds okl) (toP_ok d g1.2.1) ro ⟨.bl _, H, I, rfl, by rw [e]; exact hq _ hk⟩
      | true => exact SeqAt.notIn_list_reads r2 r1 (toPs_ok ds okl) (toP_ok d g1.2.1) ro ⟨.bl _, H, I, rfl, by rw [e]; exact hq _ hk⟩
    · obtain ⟨bs, r2⟩ := Dp.reads I (.tuple (toPs ds)) _ u (.tup hs (dps_of pl l)) ry
      cases b with
      | false => exact SeqAt.in_tuple_reads r2 r1 (toPs_ok ds okl) (toP_ok d g1.2.1) ro ⟨.bl _, H, I, rfl, by rw [e]; exact hq _ hk⟩
      | true => exact SeqAt.notIn_tuple_reads r2 r1 (toPs_ok ds okl) (toP_ok d g1.2.1) ro ⟨.bl _, H, I, rfl, by rw [e]; exact hq _ hk⟩

theorem isT_rep {K : PySem.W.Frag} {mg : Mg} {H : Hp} {d : D} {v : V} (r : Rep K mg H d v) : decide (v = V.non) = Tq.isNon d := by
  cases d with
  | non => cases r; rfl
  | bl b => cases r; rfl
  | int b => cases r; rfl
  | str b => cases r; rfl
  | tup b => obtain ⟨a, vs, rfl, _⟩ := r; rfl
  | rol b => obtain ⟨a, vs, rfl, _⟩ := r; rfl
  | scr b => obtain ⟨a, vs, rfl, _⟩ := r; rfl
  | ref b => cases r; rfl
  | ty b => cases r; rfl
  | glo b => obtain ⟨a, rfl, _⟩ := r; rfl
theorem isT_non {x : D} {k : Bool → Prop} : isT x .non k = k (Tq.isNon x) := by cases x <;> rfl
theorem is_L (b : Bool) : OpL X (compareOp (if b then .IsNot else .Is)) (fun x y h Q => isT x y fun t => Q (.bl (if b then !t else t)) h) := by
  rintro pins s σ H x y v u Q I rx ry ⟨d, e, th, Qt, rd, re, rh, h, hq⟩
  cases e with
  | non =>
    cases re
    rw [isT_non] at h
    have e := isT_rep rd
    cases b with
    | false => exact op_isN pins s σ H x _ v u Q I rx ry ⟨rfl, by rw [e]; exact hq.at h rfl rh⟩
    | true => exact op_notN pins s σ H x _ v u Q I rx ry ⟨rfl, by rw [e]; exact hq.at h rfl rh⟩
  | bl c =>
    cases d with
    | bl a =>
      cases rd; cases re
      have ea : decide (a = c) = (a == c) := by cases a <;> cases c <;> rfl
      cases b with
      | false => exact op_isBl pins s σ H _ _ v u Q I rx ry ⟨a, c, rfl, rfl, by rw [ea]; exact hq.at h rfl rh⟩
      | true => exact op_notBl pins s σ H _ _ v u Q I rx ry ⟨a, c, rfl, rfl, by rw [ea]; exact hq.at h rfl rh⟩
    | _ => exact h.elim
  | _ => cases d <;> exact h.elim
theorem dict_at {K : PySem.W.Frag} {mg : Mg} {H : Hp} {th : TH} {a : Addr} {kvs : List (Ky × D)} (rh : RepH K mg H th) (e : th a = some (.dK kvs) ∨ th a = some (.rdK kvs)) : ∃ ws, Rd H a (.dK ws) ∧ RepK K mg H kvs ws := by
  rcases e with e | e
  · obtain ⟨ws, q, l⟩ := rh _ _ e
    exact ⟨ws, .inl q, l⟩
  · obtain ⟨o, ws, q, l⟩ := rh _ _ e
    exact ⟨ws, .inr ⟨o, q⟩, l⟩
theorem in_L (W : WdOk X P) (hu : X.A.units + 65 < cLine) (b : Bool) : OpL X (compareOp (if b then .NotIn else .In)) (fun x y h Q => inT P h x y fun t => Q (.bl (if b then !t else t)) h) := by
  rintro pins s σ H x y v u Q I rx ry ⟨d, e, th, Qt, rd, re, rh, h, hq⟩
  have dk : ∀ (a : Addr) (kvs : List (Ky × D)), (th a = some (.dK kvs) ∨ th a = some (.rdK kvs)) → e = .ref a → need (toKy d) (fun q => Qt (.bl (if b then !(look kvs q).isSome else (look kvs q).isSome)) th) → wpAny (model X.prog X.w) X.A (compareOp (if b then .NotIn else .In) v u) (EP X pins σ Q) X.xe s := by
    intro a kvs ha ee hn
    subst ee
    obtain ⟨q, eq, hk⟩ := need_iff.mp hn
    obtain ⟨ws, hr, l⟩ := dict_at rh ha
    cases re
    cases ry
    have hu1 : X.A.units + 1 < cLine := by omega
    have el := look_iff q l
    have g : DGet H a x (valV ws (kyK q)) := .inl ⟨ws, _, hr, ky_rep rd eq, rfl⟩
    cases b with
    | false => exact d_in hu1 I g rx fun s' I' => ⟨.bl _, H, I', rfl, by rw [el]; exact hq.at hk rfl rh⟩
    | true => exact d_notIn hu1 I g rx fun s' I' => ⟨.bl _, H, I', rfl, by rw [el]; exact hq.at hk rfl rh⟩
  cases e with
  | tup ys =>
    obtain ⟨p, vs, ey, tp, lp⟩ := id re
    exact in_seq_L (k := fun t => Qt (.bl (if b = true then !t else t)) th) hu b I rx ry rd ey (.inr tp.sq) lp h fun t ht => hq.at ht rfl rh
  | rol ys =>
    obtain ⟨p, vs, ey, tp, lp⟩ := id re
    exact in_seq_L (k := fun t => Qt (.bl (if b = true then !t else t)) th) hu b I rx ry rd ey (.inl tp.sq) lp h fun t ht => hq.at ht rfl rh
  | str ys =>
    cases d with
    | str cs =>
      cases cs with
      | nil => exact h.elim
      | cons c r =>
        cases r with
        | cons _ _ => exact h.elim
        | nil =>
          cases rd; cases re
          cases b with
          | false => exact op_in_sign pins s σ H _ _ v u Q I rx ry ⟨c, _, rfl, rfl, hq.at h rfl rh⟩
          | true => exact op_notIn_sign pins s σ H _ _ v u Q I rx ry ⟨c, _, rfl, rfl, hq.at h rfl rh⟩
    | _ => exact h.elim
  | ref a =>
    unfold inT at h
    simp only at h
    split at h
    · rename_i ys ea
      obtain ⟨vs, q, l⟩ := rh _ _ ea
      exact in_seq_L (k := fun t => Qt (.bl (if b = true then !t else t)) th) hu b I rx ry rd re (.inl (SqL.of q)) l h fun t ht => hq.at ht rfl rh
    · rename_i kvs ea
      exact dk a kvs (.inl ea) rfl h
    · rename_i kvs ea
      exact dk a kvs (.inr ea) rfl h
    · exact h.elim
  | glo g =>
    obtain ⟨w, ew, h⟩ := need_iff.mp h
    cases d with
    | str cs =>
      cases rd
      obtain ⟨a, es, n, rfl, D, f⟩ := W.is ew re
      obtain ⟨r, e1, e2⟩ := f cs
      have es := some_iff e2
      cases b with
      | false => exact op_in_kd D pins s σ H _ _ v u Q I rx ry ⟨_, r, rfl, rfl, e1, by rw [es]; exact hq.at h rfl rh⟩
      | true => exact op_notIn_kd D pins s σ H _ _ v u Q I rx ry ⟨_, r, rfl, rfl, e1, by rw [es]; exact hq.at h rfl rh⟩
    | _ => exact h.elim
  | _ => exact h.elim
theorem cmp_L (W : WdOk X P) (hu : X.A.units + 65 < cLine) (op : CmpOp) : OpL X (compareOp op) (fun a b h Q => cmpT P op a b h fun t => Q (.bl t) h) := by
  have ord : ∀ (op : CmpOp) (p : Int → Int → Bool), OpR X (compareOp op) (rI0 fun i j => .bl (p i j)) → OpL X (compareOp op) (fun a b h Q => match a, b with | .int i, .int j => Q (.bl (p i j)) h | _, _ => False) := by
    rintro op p r pins s σ H x y v u Q I rx ry ⟨d, e, th, Qt, rd, re, rh, h, hq⟩
    cases d with
    | int i =>
      cases e with
      | int j =>
        cases rd; cases re
        exact r pins s σ H _ _ v u Q I rx ry ⟨i, j, rfl, rfl, hq.at h rfl rh⟩
      | _ => exact h.elim
    | _ => exact h.elim
  have go : ∀ {o o' : D → D → TH → KQ → Prop} {op : CmpOp}, OpL X (compareOp op) o → (∀ a b h Q, o' a b h Q → o a b h Q) → OpL X (compareOp op) o' := by
    rintro o o' op r im pins s σ H x y v u Q I rx ry ⟨d, e, th, Qt, rd, re, rh, h, hq⟩
    exact r pins s σ H x y v u Q I rx ry ⟨d, e, th, Qt, rd, re, rh, im _ _ _ _ h, hq⟩
  cases op with
  | Eq => exact eq_L (by omega)
  | NotEq => exact ne_L (by omega)
  | Lt => exact go (ord .Lt _ op_lt) fun a b h Q q => by cases a <;> cases b <;> exact q
  | LtE => exact go (ord .LtE _ op_le) fun a b h Q q => by cases a <;> cases b <;> exact q
  | Gt => exact go (ord .Gt _ op_gt) fun a b h Q q => by cases a <;> cases b <;> exact q
  | GtE => exact go (ord .GtE _ op_ge) fun a b h Q q => by cases a <;> cases b <;> exact q
  | Is => exact is_L false
  | IsNot => exact is_L true
  | In => exact in_L W hu false
  | NotIn => exact in_L W hu true

/-! ### subscripts, slices -/
theorem ix_L (W : WdOk X P) (hu : X.A.units + 1 < cLine) : IxR X fun x y H Q => ∃ d e th Qt, Rep X.K X.mg H d x ∧ Rep X.K X.mg H e y ∧ RepH X.K X.mg H th ∧ ixT P d e th (fun d => Qt d th) ∧ LQ X.K X.mg Qt H Q := by
  rintro value slice pins s σ H x y v u Q I rx ry ⟨d, e, th, Qt, rd, re, rh, h, hq⟩ hs
  have dk : ∀ (a : Addr) (kvs : List (Ky × D)), (th a = some (.dK kvs) ∨ th a = some (.rdK kvs)) → d = .ref a → need (toKy e) (fun k => need (look kvs k) fun v => Qt v th) → wpAny (model X.prog X.w) X.A (subscriptTail value slice v u) (EP X pins σ Q) X.xe s := by
    intro a kvs ha ee hn
    subst ee
    obtain ⟨q, eq, hk⟩ := need_iff.mp hn
    obtain ⟨w, ew, hk⟩ := need_iff.mp hk
    obtain ⟨ws, hr, l⟩ := dict_at rh ha
    cases rd
    cases rx
    have el := look_eq q l
    rw [ew] at el
    obtain ⟨vv, el, rv⟩ := el
    have g : DGet H a y (some vv) := .inl ⟨ws, _, hr, ky_rep re eq, el.symm⟩
    exact tail_any (dict_typeIs I g) PySem.F.slot_dict_getitem.lookup (d_getItem hu I g ry fun w' s3 I3 rw' => ⟨vv, H, I3, rw', hq.at hk rv rh⟩) hs
  cases d with
  | tup xs =>
    cases e with
    | int i =>
      cases re
      obtain ⟨w, ew, h⟩ := need_iff.mp h
      obtain ⟨p, vs, rfl, tp, lp⟩ := id rd
      obtain ⟨vv, e2, rv⟩ := atI_rep lp ew
      exact ix_tup value slice pins s σ H _ _ v u Q I rx ry ⟨p, vs, i, vv, rfl, rfl, tp.sq, e2, hq.at h rv rh⟩ hs
    | _ => exact h.elim
  | rol xs =>
    cases e with
    | int i =>
      cases re
      obtain ⟨w, ew, h⟩ := need_iff.mp h
      obtain ⟨p, vs, rfl, tp, lp⟩ := id rd
      obtain ⟨vv, e2, rv⟩ := atI_rep lp ew
      exact ix_list value slice pins s σ H _ _ v u Q I rx ry ⟨p, vs, i, vv, rfl, rfl, tp.sq, e2, hq.at h rv rh⟩ hs
    | _ => exact h.elim
  | scr xs =>
    cases e with
    | int i =>
      cases re
      obtain ⟨w, ew, h⟩ := need_iff.mp h
      obtain ⟨p, vs, rfl, tp, lp⟩ := id rd
      obtain ⟨vv, e2, rv⟩ := atI_rep lp ew
      exact ix_list value slice pins s σ H _ _ v u Q I rx ry ⟨p, vs, i, vv, rfl, rfl, tp.sq, e2, hq.at h rv rh⟩ hs
    | _ => exact h.elim
  | str cs =>
    cases e with
    | int i =>
      cases re; cases rd
      obtain ⟨hl, h⟩ := h
      obtain ⟨w, ew, h⟩ := need_iff.mp h
      refine ix_str value slice pins s σ H _ _ v u Q I rx ry ⟨_, i, w, rfl, rfl, by rw [str_len]; exact hl, ?_, hq.at h rfl rh⟩ hs
      have e : (⟨cs.toArray⟩ : Str).cps.toList = cs := by simp
      rw [e]
      exact ew
    | _ => exact h.elim
  | ref a =>
    unfold ixT at h
    simp only at h
    split at h
    · rename_i xs ea
      split at h
      · rename_i i
        cases re; cases rd
        obtain ⟨w, ew, h⟩ := need_iff.mp h
        obtain ⟨vs, q, l⟩ := rh _ _ ea
        obtain ⟨vv, e2, rv⟩ := atI_rep l ew
        exact ix_list value slice pins s σ H _ _ v u Q I rx ry ⟨a, vs, i, vv, rfl, rfl, SqL.of q, e2, hq.at h rv rh⟩ hs
      · exact h.elim
    · rename_i kvs ea
      exact dk a kvs (.inl ea) rfl h
    · rename_i kvs ea
      exact dk a kvs (.inr ea) rfl h
    · exact h.elim
  | glo g =>
    cases e with
    | str cs =>
      cases re
      obtain ⟨w, ew, h⟩ := need_iff.mp h
      obtain ⟨dd, el, h⟩ := need_iff.mp h
      obtain ⟨a, es, n, rfl, D, f⟩ := W.is ew rd
      obtain ⟨r, e1, e2⟩ := f cs
      rw [el] at e2
      obtain ⟨u0, v0, rfl, rv, rr⟩ := e2
      exact ix_kdict value slice pins s σ H _ _ v u Q I rx ry ⟨a, _, v0, rfl, rfl, ⟨es, n, u0, D.at_, D.lit, e1, rv⟩, hq.at h (rr H) rh⟩ hs
    | _ => exact h.elim
  | _ => exact h.elim
theorem cut_len {α : Type} (xs : List α) (lo hi : Option Int) : (Tq.cut xs lo hi).length ≤ xs.length := by
  unfold Tq.cut
  rw [List.length_take, List.length_drop]
  omega
theorem sl_frz {v : Value} {sl : Addr} {pins : List (Addr × Obj)} {σ : L2.St} {s : Shared} {Q : VK} (h : ∃ T id, typeLookup (.type T) "__getitem__" = pure (some (.builtin id)) ∧ s.TypeIs v T ∧ wpAny (model X.prog X.w) X.A (getItem v (.ref sl)) (EP X pins σ (frzQ Q)) X.xe s) :
    ∃ T id, typeLookup (.type T) "__getitem__" = pure (some (.builtin id)) ∧ s.TypeIs v T ∧ wpAny (model X.prog X.w) X.A (getItem v (.ref sl)) (EP X pins σ Q) X.xe s := by
  obtain ⟨T, id, a, b, c⟩ := h
  exact ⟨T, id, a, b, to_frz c⟩
theorem sl_L : L2.SlR X fun x lo hi H Q => ∃ d th Qt, Rep X.K X.mg H d x ∧ RepH X.K X.mg H th ∧ slT d lo hi th (fun d => Qt d th) ∧ LQ X.K X.mg Qt H Q := by
  rintro pins s σ H x v vl vu lo hi sl Q I rx hs pl pu ⟨d, th, Qt, rd, rh, h, hq⟩
  cases d with
  | str cs =>
    cases rd
    refine sl_str pins s σ H _ v vl vu lo hi sl Q I rx hs pl pu ⟨_, rfl, by rw [str_len]; exact h.1, ?_⟩
    have e : cutS ⟨cs.toArray⟩ lo hi = ⟨(Tq.cut cs lo hi).toArray⟩ := by
      unfold cutS Tq.cut
      rw [str_len, sIx_eq, sIx_eq]
    rw [e]
    exact hq.at h.2 rfl rh
  | tup xs =>
    obtain ⟨p, vs, rfl, tp, lp⟩ := id rd
    have lc := cut_rep lo hi lp
    refine sl_tupA pins s σ H _ v vl vu lo hi sl Q I rx hs pl pu ⟨p, vs, rfl, tp.sq, fun ⟨e1, e2⟩ => ?_, fun _ r hr => ?_⟩
    · have e3 : cutV vs lo hi = vs := by unfold cutV; rw [e1, e2]; simp
      rw [e3] at lc
      exact hq.at h ⟨p, vs, rfl, tp, lc⟩ rh
    · exact hq _ _ _ _ h (Keep.new hr) ⟨r, _, rfl, .inl upd_same, lc.keep (Keep.new hr)⟩ (rh.tup hr)
  | rol xs =>
    obtain ⟨p, vs, rfl, tp, lp⟩ := id rd
    exact sl_frz (sl_list pins s σ H _ v vl vu lo hi sl _ I rx hs pl pu ⟨p, vs, rfl, tp.sq, fun r hr => frz_new hq h hr (cut_rep lo hi lp) rh⟩)
  | scr xs =>
    obtain ⟨p, vs, rfl, tp, lp⟩ := id rd
    exact sl_frz (sl_list pins s σ H _ v vl vu lo hi sl _ I rx hs pl pu ⟨p, vs, rfl, tp.sq, fun r hr => frz_new hq h hr (cut_rep lo hi lp) rh⟩)
  | ref a =>
    cases rd
    unfold slT at h
    simp only at h
    split at h
    · rename_i xs ea
      obtain ⟨vs, q, l⟩ := rh _ _ ea
      exact sl_frz (sl_list pins s σ H _ v vl vu lo hi sl _ I rx hs pl pu ⟨a, vs, rfl, SqL.of q, fun r hr => frz_new hq h hr (cut_rep lo hi l) rh⟩)
    · exact h.elim
  | _ => exact h.elim
theorem RepK.put {K : PySem.W.Frag} {mg : Mg} {H : Hp} {kvs : List (Ky × D)} {ws : List (Key × V)} {d : D} {v : V} (q : Ky) (h : RepK K mg H kvs ws) (r : Rep K mg H d v) : RepK K mg H (Tq.putK kvs q d) (L2.putK ws (kyK q) v) := by
  unfold Tq.putK L2.putK
  rw [valV_any, look_iff q h]
  by_cases e : (look kvs q).isSome = true
  · rw [if_pos e, if_pos e]
    clear e
    induction kvs generalizing ws with
    | nil => cases h; rfl
    | cons p t ih =>
      obtain ⟨k, dd⟩ := p
      obtain ⟨vv, w, rfl, rd, l⟩ := h
      by_cases z : k = q
      · subst z
        simp only [List.map_cons, if_pos]
        exact ⟨v, _, rfl, r, ih l⟩
      · have z2 : ¬ kyK k = kyK q := by
          intro h
          cases k <;> cases q <;> simp [kyK] at h <;> simp_all
        simp only [List.map_cons, if_neg z, if_neg z2]
        exact ⟨vv, _, rfl, rd, ih l⟩
  · rw [if_neg e, if_neg e]
    clear e
    induction kvs generalizing ws with
    | nil => cases h; exact ⟨v, [], rfl, r, rfl⟩
    | cons p t ih =>
      obtain ⟨k, dd⟩ := p
      obtain ⟨vv, w, rfl, rd, l⟩ := h
      exact ⟨vv, _, rfl, rd, ih l⟩
theorem set_L (hu : X.A.units + 1 < cLine) : PSet X fun o i v H Q => ∃ d e f th Kt, Rep X.K X.mg H d o ∧ Rep X.K X.mg H e i ∧ Rep X.K X.mg H f v ∧ RepH X.K X.mg H th ∧ setT d e f th Kt ∧ ∀ th' H', Kt th' → Keep H H' → RepH X.K X.mg H' th' → Q H' := by
  rintro pins s σ H o i v ov iv u Q I ro ri rv ⟨d, e, f, th, Kt, rd, re, rf, rh, h, hq⟩
  cases d with
  | ref a =>
    cases rd
    unfold setT at h
    simp only at h
    split at h
    · rename_i xs ea
      split at h
      · rename_i n
        cases re
        obtain ⟨j, ej, h⟩ := need_iff.mp h
        obtain ⟨vs, q, l⟩ := rh _ _ ea
        refine set_list pins s σ H _ _ v ov iv u Q I ro ri rv ⟨a, vs, n, j, rfl, rfl, q, by rw [l.length, ← ixN_eq]; exact ej, ?_⟩
        have kp : Keep H (upd H a (.lst (vs.set j v))) := Keep.put q (fun _ z => by cases z) (fun _ _ z => by cases z)
        exact hq _ _ h kp (rh.put kp ⟨_, upd_same, (l.set j rf).keep kp⟩)
      · exact h.elim
    · rename_i kvs ea
      obtain ⟨k, ek, hl, h⟩ := need_iff.mp h
      obtain ⟨ws, q, l⟩ := rh _ _ ea
      cases ro
      have kp : Keep H (upd H a (.dK (L2.putK ws (kyK k) v))) := Keep.put q (fun _ z => by cases z) (fun _ _ z => by cases z)
      refine d_setItem hu I (.inl ⟨ws, kyK k, q, ky_rep re ek, by rw [RepK.length l]; exact hl, rfl⟩) ri rv fun s' I' => ⟨_, I', ?_⟩
      exact hq _ _ h kp (rh.put kp ⟨_, upd_same, (RepK.put k l rf).keep kp⟩)
    · exact h.elim
  | _ => exact h.elim
end
end Tq
/-! UB4: built-ins and methods by values. -/
namespace PySem.W
open PySem PySem.Calls PySem.NumText PyProof.Rows
/-- the limit of figures is as at the start -/
def LimAt (s : Shared) : Prop := ∃ mc, s.heap.Ns cStatics mc ∧ mc "sys.int_max_str_digits" = none
set_option maxHeartbeats 4000000 in
theorem KIN.wp_textLong {M : Model} {A : Around} {E : Value → Shared → Prop} {s : Shared} {Q : Value → Shared → Prop} {v : Value} {text : List Nat} {n : Int} (hm : LimAt s)
    (hs : ¬ (text.takeWhile (· != 0)).length ≤ 640) (hr : (int_private% "readNumeral") 4300 10 (text.takeWhile (· != 0)) = (int_private% "Numeral.value") n)
    (ha : ((text.takeWhile (· != 0)).length == text.length) = true) (h : Q (.int n s.toks) { s with toks := s.toks + 1 }) :
    wpAny M A ((int_private% "intFromText") v text 10) Q E s := by
  obtain ⟨mc, hn, h0⟩ := hm
  obtain ⟨hp, g, d, tk, os⟩ := s
  have hlim : ∀ {Q : Nat → Shared → Prop}, Q 4300 ⟨hp, g, d, tk, os⟩ → wpAny M A Builtin.intMaxStrDigits Q E ⟨hp, g, d, tk, os⟩ := fun q => by
    unfold Builtin.intMaxStrDigits
    refine wpAny_bind (wpAny_nsGet hn ?_)
    rw [h0]
    exact wpAny_pure q
  repeat (any_goals (first
    | assumption
    | (with_reducible refine hlim ?_)
    | (with_reducible refine wpAny_ite_false (decide_eq_false hs) ?_)
    | (with_reducible refine wpAny_ite_true (decide_eq_true ha) ?_)
    | wp_step))
  all_goals (try rw [hr])
  all_goals (try dsimp only)
  repeat (any_goals (first
    | assumption
    | (with_reducible refine wpAny_ite_true (decide_eq_true ha) ?_)
    | wp_step))

theorem KIN.meets_long {x : PySem.Str} {u : Tok} {n : Int} (hs : ¬ (numSeenOf x).length ≤ 640) (hr : (int_private% "readNumeral") 4300 10 (numSeenOf x) = (int_private% "Numeral.value") n)
    (ha : ((numSeenOf x).length == (numTextOf x).length) = true) :
    Meets (Builtin.«int.__new__» ⟨[.type "int", .str x u], []⟩) (fun _ R s => LimAt s ∧ R (.ok (.ret (.int n s.toks))) { s with toks := s.toks + 1 }) := by
  intro prog w A R s0 hh
  obtain ⟨hm, h⟩ := hh
  obtain ⟨hp, g, d, tk, os⟩ := s0
  have f1 := F.conv_sub_int
  have f2 := F.madeHere_int
  have f3 := KIN.str_int
  have f4 := KIN.str_idx
  have f5 := KIN.str_trunc
  have f6 : typeOf (.str x u) = pure (.type "str") := rfl
  have hk := KIN.Hid.mk (And.intro hm (And.intro hs (And.intro hr ha)))
  clear hs hr ha hm
  repeat (any_goals (first
    | assumption
    | ((with_reducible show wpAny _ _ ((int_private% "intFromText") _ _ _) _ _ _); refine KIN.wp_textLong hk.out.1 hk.out.2.1 hk.out.2.2.1 hk.out.2.2.2 ?_)
    | wp_step))
theorem KIN.call_long {prog : Program} {w : World} {A : Around} {E : Value → Shared → Prop} {s : Shared} {Q : Value → Shared → Prop} {x : PySem.Str} {t : Tok} {n : Int} (hm : LimAt s) (hl : x.length ≤ sizeLine) (hn : PySem.intText? x = some n) (h : Q (.int n s.toks) { s with toks := s.toks + 1 }) :
    wpAny (model prog w) A (call (.type "int") [.str x t]) Q E s := by
  by_cases hs : (numSeenOf x).length ≤ 640
  · refine call_int_1 (x := .str x t) (S := fun _ R s => R (.ok (.ret (.int n s.toks))) { s with toks := s.toks + 1 }) ?_ ⟨rfl, h⟩
    have hr : (int_private% "readNumeral") 0 10 (numSeenOf x) = (int_private% "Numeral.value") n ∧ ((numSeenOf x).length == (numTextOf x).length) = true := by
      rcases read0 x hs with ⟨m, h1, h2, h3⟩ | ⟨h1, _⟩
      · rw [hn] at h1
        injection h1 with h1
        subst h1
        exact ⟨h3, h2⟩
      · rw [hn] at h1
        cases h1
    intro prog w A R s0 h
    obtain ⟨hp, g, d, tk, os⟩ := s0
    have f1 := F.conv_sub_int
    have f2 := F.madeHere_int
    have f3 := KIN.str_int
    have f4 := KIN.str_idx
    have f5 := KIN.str_trunc
    have f6 : typeOf (.str x t) = pure (.type "str") := rfl
    have hk := KIN.Hid.mk (And.intro hs hr)
    clear hs hr hl hn hm
    repeat (any_goals (first
      | assumption
      | ((with_reducible show wpAny _ _ ((int_private% "intFromText") _ _ _) _ _ _); refine KIN.wp_text hk.out.1 hk.out.2.1 hk.out.2.2 ?_)
      | wp_step))
  · rcases read4300 x hl with ⟨m, h1, h2, h3⟩ | ⟨h1, _⟩
    · rw [hn] at h1
      injection h1 with h1
      subst h1
      exact call_int_1 (KIN.meets_long hs h3 h2) ⟨hm, rfl, h⟩
    · rw [hn] at h1
      cases h1
end PySem.W
namespace Tq
open PySem L2 PyProof.Rows
/-- a call of a value, said of data -/
def CaL (X : Cx) (f : Value) (o : List D → TH → KQ → Prop) : Prop :=
  CallR X f fun xs H Q => ∃ ds th Qt, RepL X.K X.mg H ds xs ∧ RepH X.K X.mg H th ∧ o ds th Qt ∧ LQ X.K X.mg Qt H Q
/-- the statics stand as at the start -/
def StOk (X : Cx) : Prop := PySem.W.nsIn X.K cStatics "sys.int_max_str_digits" = some none
theorem ns_none_of {K : PySem.W.Frag} {h : Heap} {mg : Str → Option Value} {ns : Addr} {n : Str} (X : K.In h) (G : h.Ns ns mg) (e : PySem.W.nsIn K ns n = some none) : mg n = none := by
  obtain ⟨o, es, ep, ho, hd, _, hf⟩ := G
  unfold PySem.W.nsIn at e
  split at e
  · rename_i c d es' n' sl q
    have z := X _ _ q
    rw [ho] at z
    cases z
    cases hd
    split at e
    · cases e
    · rename_i hnf
      rw [← hf n]
      unfold nsFind findBy
      rw [← Array.find?_toList]
      rw [hnf]
      rfl
  · cases e
section
variable {X : Cx} {P : Env}
theorem lim_of {pins : List (Addr × Obj)} {σ : L2.St} {H : Hp} {s : Shared} (St : StOk X) (I : Inv X pins σ H s) : PySem.W.LimAt s := by
  obtain ⟨mc, hn, _⟩ := I.nolimit
  exact ⟨mc, hn, ns_none_of I.kIn hn St⟩
end
end Tq
/-! UB5: built-ins by values. -/
namespace Tq
open PySem L2 PyProof.Rows PySem.Spec
section
variable {X : Cx} {P : Env}
abbrev bltQ (f : Bf) : List D → TH → KQ → Prop := fun ds h Q => bltT f ds h fun d => Q d h
theorem len_L : CaL X (.builtin "len") (bltQ .len) := by
  rintro pins s σ H xs us Q I r ⟨ds, th, Qt, rd, rh, h, hq⟩
  match ds, rd with
  | [], _ => exact h.elim
  | _ :: _ :: _, _ => exact h.elim
  | [d], ⟨v, r', e, rv, e'⟩ =>
    subst e
    cases e'
    cases d with
    | str cs =>
      cases rv
      refine call_len pins s σ H _ us Q I r ⟨_, cs.length, rfl, ⟨?_, (str_len cs).symm⟩, hq.at h.2 rfl rh⟩
      rw [str_len]; exact h.1
    | tup xs =>
      obtain ⟨p, vs, rfl, tp, lp⟩ := id rv
      exact call_len pins s σ H _ us Q I r ⟨_, xs.length, rfl, .inr ⟨vs, tp.sq, lp.length.symm⟩, hq.at h rfl rh⟩
    | rol xs =>
      obtain ⟨p, vs, rfl, tp, lp⟩ := id rv
      exact call_len pins s σ H _ us Q I r ⟨_, xs.length, rfl, .inl ⟨vs, tp.sq, lp.length.symm⟩, hq.at h rfl rh⟩
    | scr xs =>
      obtain ⟨p, vs, rfl, tp, lp⟩ := id rv
      exact call_len pins s σ H _ us Q I r ⟨_, xs.length, rfl, .inl ⟨vs, tp.sq, lp.length.symm⟩, hq.at h rfl rh⟩
    | ref a =>
      cases rv
      unfold bltQ bltT lenT at h
      simp only at h
      split at h
      · rename_i xs ea
        obtain ⟨vs, q, l⟩ := rh _ _ ea
        exact call_len pins s σ H _ us Q I r ⟨_, xs.length, rfl, .inl ⟨vs, SqL.of q, l.length.symm⟩, hq.at h rfl rh⟩
      · rename_i kvs ea
        obtain ⟨ws, q, l⟩ := rh _ _ ea
        refine call_lenD pins s σ H _ us Q I r ⟨a, ws, rfl, q, ?_⟩
        rw [RepK.length l]
        exact hq.at h rfl rh
      · exact h.elim
    | _ => exact h.elim
theorem two_ints {K : PySem.W.Frag} {mg : Mg} {H : Hp} {ds : List D} {xs : List V} (r : RepL K mg H ds xs) : (∃ i j, ds = [.int i, .int j] ∧ xs = [.int i, .int j]) ∨ ¬ ∃ i j, ds = [.int i, .int j] := by
  by_cases h : ∃ i j, ds = [D.int i, D.int j]
  · obtain ⟨i, j, rfl⟩ := h
    obtain ⟨v, t, rfl, rv, w, t', rfl, rw', e⟩ := r
    cases rv; cases rw'; cases e
    exact .inl ⟨i, j, rfl, rfl⟩
  · exact .inr h
theorem max_L (hc : X.calm = true) : CaL X (.builtin "max") (bltQ .max) := by
  rintro pins s σ H xs us Q I r ⟨ds, th, Qt, rd, rh, h, hq⟩
  rcases two_ints rd with ⟨i, j, rfl, rfl⟩ | no
  · exact call_max2 hc pins s σ H _ us Q I r ⟨i, j, rfl, hq.at h rfl rh⟩
  · exfalso
    unfold bltQ bltT at h
    split at h <;> first | exact h.elim | (simp_all; done) | skip
    all_goals first | exact no ⟨_, _, rfl⟩ | (simp_all; done)
theorem min_L (hc : X.calm = true) : CaL X (.builtin "min") (bltQ .min) := by
  rintro pins s σ H xs us Q I r ⟨ds, th, Qt, rd, rh, h, hq⟩
  rcases two_ints rd with ⟨i, j, rfl, rfl⟩ | no
  · exact call_min2 hc pins s σ H _ us Q I r ⟨i, j, rfl, hq.at h rfl rh⟩
  · exfalso
    unfold bltQ bltT at h
    split at h <;> first | exact h.elim | (simp_all; done) | skip
    all_goals first | exact no ⟨_, _, rfl⟩ | (simp_all; done)
theorem int_L (St : StOk X) : CaL X (.type "int") (bltQ .int) := by
  rintro pins s σ H xs us Q I r ⟨ds, th, Qt, rd, rh, h, hq⟩
  match ds, rd with
  | [], _ => exact h.elim
  | _ :: _ :: _, _ => exact (by simp [bltT] at h)
  | [d], ⟨v, r', e, rv, e'⟩ =>
    subst e
    cases e'
    cases d with
    | int i => cases rv; exact call_int1 pins s σ H _ us Q I r (.inl ⟨i, rfl, hq.at h rfl rh⟩)
    | bl b => cases rv; exact call_int1 pins s σ H _ us Q I r (.inr ⟨b, rfl, hq.at h rfl rh⟩)
    | str cs =>
      cases rv
      obtain ⟨n, en, h⟩ := need_iff.mp h
      unfold figs at en
      split at en
      · rename_i c
        obtain ⟨c1, c2, c3⟩ := c
        cases en
        have e := SX.int_S c3 c1 c2
        obtain ⟨u, rfl, t, rfl⟩ : ∃ u, us = [u] ∧ ∃ t, u = Value.str ⟨cs.toArray⟩ t := by
          cases r with
          | cons a b => cases b; obtain ⟨t, rfl⟩ := a; exact ⟨_, rfl, t, rfl⟩
        have e24 : sizeLine = 16777216 := rfl
        refine PySem.W.KIN.call_long (lim_of St I) (by rw [str_len]; omega) e ⟨.int _, H, I.tok _, ⟨_, rfl⟩, ?_⟩
        exact hq.at h rfl rh
      · cases en
    | _ => exact h.elim
theorem core_figs : ∀ (fuel n : Nat) (ds : List Char), n < fuel → (Nat.toDigitsCore 10 fuel n ds).map Char.toNat = figsOf n ++ ds.map Char.toNat
  | 0, n, ds, h => by omega
  | fuel + 1, n, ds, h => by
    have dg : ∀ k, k < 10 → (Nat.digitChar k).toNat = 48 + k := by decide
    unfold Nat.toDigitsCore
    by_cases e : n < 10
    · have e2 : n / 10 = 0 := by omega
      simp only [e2, if_true]
      rw [figsOf, dif_pos e, List.map_cons, show n % 10 = n from Nat.mod_eq_of_lt e, dg n e]
      rfl
    · have e2 : ¬ n / 10 = 0 := by omega
      have e3 : figsOf n = figsOf (n / 10) ++ [48 + n % 10] := by rw [figsOf, dif_neg e]
      simp only [e2, if_false]
      rw [core_figs fuel (n / 10) _ (by omega), e3, List.map_cons, dg (n % 10) (Nat.mod_lt _ (by decide)), List.append_assoc]
      rfl
theorem figs_eq (n : Nat) : (Nat.toDigits 10 n).map Char.toNat = figsOf n := by
  unfold Nat.toDigits
  rw [core_figs (n + 1) n [] (by omega)]
  simp
theorem int_txt (i : Int) : Str.ofString (toString i) = ⟨(intTxt i).toArray⟩ := by
  unfold intTxt
  cases i with
  | ofNat m =>
    have e : ¬ (Int.ofNat m) < 0 := by simp
    rw [if_neg e, PyProof.Rows.text_ofNat, figs_eq]
    rfl
  | negSucc m =>
    have e : Int.negSucc m < 0 := Int.negSucc_lt_zero m
    rw [if_pos e]
    have e2 : toString (Int.negSucc m) = "-" ++ Nat.repr (m + 1) := rfl
    rw [e2, Str.ofString_eq_toList]
    have e3 : ("-" ++ Nat.repr (m + 1)).toList = '-' :: Nat.toDigits 10 (m + 1) := by simp [Nat.repr]
    show (⟨(("-" ++ Nat.repr (m + 1)).toList.map Char.toNat).toArray⟩ : Str) = _
    rw [e3, List.map_cons, figs_eq]
    rfl
theorem str_L : CaL X (.type "str") (bltQ .str) := by
  rintro pins s σ H xs us Q I r ⟨ds, th, Qt, rd, rh, h, hq⟩
  match ds, rd with
  | [], _ => exact h.elim
  | _ :: _ :: _, _ => exact (by simp [bltT] at h)
  | [d], ⟨v, r', e, rv, e'⟩ =>
    subst e
    cases e'
    cases d with
    | int i =>
      cases rv
      refine call_str_int pins s σ H _ us Q I r ⟨i, rfl, ?_, ?_⟩
      · have z : i.natAbs < 2 ^ 1000 := h.1
        by_cases e : i.natAbs = 0
        · rw [e]; decide
        · have := (Nat.log2_lt e).mpr z
          omega
      · have e := int_txt i
        exact hq _ _ _ _ h.2 (Keep.refl H) (by show V.str (Str.ofString (toString i)) = _; rw [e]) rh
    | _ => exact h.elim
theorem seq_rep {K : PySem.W.Frag} {mg : Mg} {H : Hp} {th : TH} {d : D} {v : V} {xs : List D} (rh : RepH K mg H th) (r : Rep K mg H d v) (e : seqAt th d = some xs) : ∃ p vs, v = .ref p ∧ RepL K mg H xs vs ∧ ((SqL K H p vs ∧ ∀ ys, d ≠ .tup ys) ∨ (TupAt K H p vs ∧ d = .tup xs)) := by
  cases d with
  | tup ys =>
    cases e
    obtain ⟨p, vs, rfl, tp, lp⟩ := id r
    exact ⟨p, vs, rfl, lp, .inr ⟨tp, rfl⟩⟩
  | rol ys =>
    cases e
    obtain ⟨p, vs, rfl, tp, lp⟩ := id r
    exact ⟨p, vs, rfl, lp, .inl ⟨tp.sq, fun _ z => nomatch z⟩⟩
  | scr ys =>
    cases e
    obtain ⟨p, vs, rfl, tp, lp⟩ := id r
    exact ⟨p, vs, rfl, lp, .inl ⟨tp.sq, fun _ z => nomatch z⟩⟩
  | ref a =>
    cases r
    unfold seqAt at e
    simp only at e
    split at e
    · rename_i ys ea
      cases e
      obtain ⟨vs, q, l⟩ := rh _ _ ea
      exact ⟨a, vs, rfl, l, .inl ⟨SqL.of q, fun _ z => nomatch z⟩⟩
    · cases e
  | _ => cases e
theorem lst_seq {th : TH} {d : D} {xs : List D} (e : lstAt th d = some xs) : seqAt th d = some xs ∧ ∀ ys, d ≠ .tup ys := by
  cases d with
  | rol ys => exact ⟨e, fun _ z => nomatch z⟩
  | ref a => exact ⟨e, fun _ z => nomatch z⟩
  | _ => cases e
theorem tuple_L : CaL X (.type "tuple") (bltQ .tuple) := by
  rintro pins s σ H xs us Q I r ⟨ds, th, Qt, rd, rh, h, hq⟩
  match ds, rd with
  | [], _ => exact h.elim
  | _ :: _ :: _, _ => exact h.elim
  | [d], ⟨v, r', e, rv, e'⟩ =>
    subst e
    cases e'
    obtain ⟨ys, ey, h⟩ := need_iff.mp h
    obtain ⟨p, vs, rfl, l, q⟩ := seq_rep rh rv ey
    rcases q with ⟨q, _⟩ | ⟨q, e⟩
    · refine call_tuple_of pins s σ H _ us Q I r ⟨p, vs, rfl, .inl ⟨q, fun r hr => ?_⟩⟩
      exact hq _ _ _ _ h (Keep.new hr) ⟨r, _, rfl, .inl upd_same, l.keep (Keep.new hr)⟩ (rh.tup hr)
    · subst e
      exact call_tuple_of pins s σ H _ us Q I r ⟨p, vs, rfl, .inr ⟨q.sq, hq.at h rv rh⟩⟩
theorem list_L : CaL X (.type "list") (bltQ .list) := by
  rintro pins s σ H xs us Q I r ⟨ds, th, Qt, rd, rh, h, hq⟩
  match ds, rd with
  | [], _ => exact h.elim
  | _ :: _ :: _, _ => exact h.elim
  | [d], ⟨v, r', e, rv, e'⟩ =>
    subst e
    cases e'
    obtain ⟨ys, ey, h⟩ := need_iff.mp h
    obtain ⟨p, vs, rfl, l, q⟩ := seq_rep rh rv ey
    have q2 : SqL X.K H p vs ∨ SqT X.K H p vs := by
      rcases q with ⟨q, _⟩ | ⟨q, _⟩
      · exact .inl q
      · exact .inr q.sq
    exact to_frz (call_list_of pins s σ H _ us _ I r ⟨p, vs, rfl, q2, fun r hr => frz_new hq h hr l rh⟩)
/-- a list of one's own -/
theorem mkl_L : CaL X (.type "list") (fun ds h Q => match ds with | [x] => need (seqAt h x) fun xs => ∀ p, h p = none → Q (.ref p) (ups h p (.lst xs)) | _ => False) := by
  rintro pins s σ H xs us Q I r ⟨ds, th, Qt, rd, rh, h, hq⟩
  match ds, rd with
  | [], _ => exact h.elim
  | _ :: _ :: _, _ => exact h.elim
  | [d], ⟨v, r', e, rv, e'⟩ =>
    subst e
    cases e'
    obtain ⟨ys, ey, h⟩ := need_iff.mp h
    obtain ⟨p, vs, rfl, l, q⟩ := seq_rep rh rv ey
    have q2 : SqL X.K H p vs ∨ SqT X.K H p vs := by
      rcases q with ⟨q, _⟩ | ⟨q, _⟩
      · exact .inl q
      · exact .inr q.sq
    refine call_list_of pins s σ H _ us Q I r ⟨p, vs, rfl, q2, fun r hr => ?_⟩
    exact hq _ _ _ _ (h r (rh.free hr)) (Keep.new hr) rfl (rh.new hr ⟨_, upd_same, l.keep (Keep.new hr)⟩)
theorem bl_rep {K : PySem.W.Frag} {mg : Mg} {H : Hp} : ∀ {xs : List D} {vs : List V} {bs : List Bool}, RepL K mg H xs vs → allBl xs = some bs → vs = bs.map V.bl
  | [], _, _, h, e => by cases h; cases e; rfl
  | d :: xs, _, bs, ⟨v, r, e, h, l⟩, q => by
    subst e
    cases d with
    | bl b =>
      cases h
      have q : (allBl xs).map (b :: ·) = some bs := q
      cases e2 : allBl xs with
      | none => rw [e2] at q; cases q
      | some cs => rw [e2] at q; cases q; rw [bl_rep l e2]; rfl
    | _ => cases q
theorem in_rep {K : PySem.W.Frag} {mg : Mg} {H : Hp} : ∀ {xs : List D} {vs : List V} {bs : List Int}, RepL K mg H xs vs → allInt xs = some bs → vs = bs.map V.int
  | [], _, _, h, e => by cases h; cases e; rfl
  | d :: xs, _, bs, ⟨v, r, e, h, l⟩, q => by
    subst e
    cases d with
    | int b =>
      cases h
      have q : (allInt xs).map (b :: ·) = some bs := q
      cases e2 : allInt xs with
      | none => rw [e2] at q; cases q
      | some cs => rw [e2] at q; cases q; rw [in_rep l e2]; rfl
    | _ => cases q
theorem st_rep {K : PySem.W.Frag} {mg : Mg} {H : Hp} : ∀ {xs : List D} {vs : List V} {bs : List (List Nat)}, RepL K mg H xs vs → allStr xs = some bs → vs = (bs.map SX.S).map V.str
  | [], _, _, h, e => by cases h; cases e; rfl
  | d :: xs, _, bs, ⟨v, r, e, h, l⟩, q => by
    subst e
    cases d with
    | str b =>
      cases h
      have q : (allStr xs).map (b :: ·) = some bs := q
      cases e2 : allStr xs with
      | none => rw [e2] at q; cases q
      | some cs => rw [e2] at q; cases q; rw [st_rep l e2]; rfl
    | _ => cases q
theorem all_L (hc : X.calm = true) : CaL X (.builtin "all") (bltQ .all) := by
  rintro pins s σ H xs us Q I r ⟨ds, th, Qt, rd, rh, h, hq⟩
  match ds, rd with
  | [], _ => exact h.elim
  | _ :: _ :: _, _ => exact h.elim
  | [d], ⟨v, r', e, rv, e'⟩ =>
    subst e
    cases e'
    obtain ⟨ys, ey, h⟩ := need_iff.mp h
    obtain ⟨bs, eb, h⟩ := need_iff.mp h
    obtain ⟨e1, e2⟩ := lst_seq ey
    obtain ⟨p, vs, rfl, l, q⟩ := seq_rep rh rv e1
    rcases q with ⟨q, _⟩ | ⟨_, q⟩
    · rw [bl_rep l eb] at q
      exact cr_all hc pins s σ H _ us Q I r ⟨p, bs, rfl, q, hq.at h rfl rh⟩
    · exact absurd q (e2 _)
theorem any_L (hc : X.calm = true) : CaL X (.builtin "any") (bltQ .any) := by
  rintro pins s σ H xs us Q I r ⟨ds, th, Qt, rd, rh, h, hq⟩
  match ds, rd with
  | [], _ => exact h.elim
  | _ :: _ :: _, _ => exact h.elim
  | [d], ⟨v, r', e, rv, e'⟩ =>
    subst e
    cases e'
    obtain ⟨ys, ey, h⟩ := need_iff.mp h
    obtain ⟨bs, eb, h⟩ := need_iff.mp h
    obtain ⟨e1, e2⟩ := lst_seq ey
    obtain ⟨p, vs, rfl, l, q⟩ := seq_rep rh rv e1
    rcases q with ⟨q, _⟩ | ⟨_, q⟩
    · rw [bl_rep l eb] at q
      exact cr_any hc pins s σ H _ us Q I r ⟨p, bs, rfl, q, hq.at h rfl rh⟩
    · exact absurd q (e2 _)
theorem sum_L (hc : X.calm = true) : CaL X (.builtin "sum") (bltQ .sum) := by
  rintro pins s σ H xs us Q I r ⟨ds, th, Qt, rd, rh, h, hq⟩
  match ds, rd with
  | [], _ => exact h.elim
  | _ :: _ :: _, _ => exact h.elim
  | [d], ⟨v, r', e, rv, e'⟩ =>
    subst e
    cases e'
    obtain ⟨ys, ey, h⟩ := need_iff.mp h
    obtain ⟨bs, eb, h⟩ := need_iff.mp h
    obtain ⟨e1, e2⟩ := lst_seq ey
    obtain ⟨p, vs, rfl, l, q⟩ := seq_rep rh rv e1
    rcases q with ⟨q, _⟩ | ⟨_, q⟩
    · rw [in_rep l eb] at q
      exact cr_sum hc pins s σ H _ us Q I r ⟨p, bs, rfl, q, hq.at h rfl rh⟩
    · exact absurd q (e2 _)
theorem ltL_eq : ∀ a b : List Nat, decide (a < b) = ltL a b
  | [], [] => by simp [ltL]
  | [], _ :: _ => by simp [ltL]
  | _ :: _, [] => by simp [ltL]
  | x :: a, y :: b => by
    have ih := ltL_eq a b
    unfold ltL
    by_cases e : x = y
    · subst e
      rw [if_pos rfl, ← ih]
      simp [List.cons_lt_cons_iff]
    · rw [if_neg e]
      simp [List.cons_lt_cons_iff, e]
theorem keys_str {K : PySem.W.Frag} {mg : Mg} {H : Hp} : ∀ {kvs : List (Ky × D)} {ws : List (Key × V)} {ks : List (List Nat)}, RepK K mg H kvs ws → allStr (kvs.map fun p => p.1.d) = some ks → ws.map (·.1) = (ks.map SX.S).map Sum.inr
  | [], _, _, h, e => by cases h; cases e; rfl
  | (k, d) :: r, _, ks, ⟨v, w, e, h, l⟩, q => by
    subst e
    cases k with
    | i n => cases q
    | s b =>
      have q : (allStr (r.map fun p => p.1.d)).map (b :: ·) = some ks := q
      cases e2 : allStr (r.map fun p => p.1.d) with
      | none => rw [e2] at q; cases q
      | some cs => rw [e2] at q; cases q; simp only [List.map_cons]; rw [keys_str l e2]; rfl
theorem S_tls (zs : List Str) : (zs.map fun z => z.cps.toList).map SX.S = zs := by
  induction zs with
  | nil => rfl
  | cons z r ih => rw [List.map_cons, List.map_cons, ih, SX.S_tl]
theorem ltC_eq : ∀ a b : List Nat, ltCps a b = ltL a b
  | [], [] => by simp [ltL, ltCps]
  | [], _ :: _ => by simp [ltL, ltCps]
  | _ :: _, [] => by simp [ltL, ltCps]
  | x :: a, y :: b => by
    have ih := ltC_eq a b
    unfold ltL
    by_cases e : x = y
    · subst e
      rw [if_pos rfl, ← ih]
      simp [ltCps]
    · rw [if_neg e]
      simp [ltCps, e]
theorem sortS_eq : ∀ zs : List Str, sortedS zs = true → Tq.sortedL (zs.map fun z => z.cps.toList) = true
  | [], _ => rfl
  | [_], _ => rfl
  | a :: b :: r, h => by
    have h2 : (!ltCps b.cps.toList a.cps.toList && sortedS (b :: r)) = true := h
    rw [Bool.and_eq_true] at h2
    show (!ltL b.cps.toList a.cps.toList && Tq.sortedL ((b :: r).map fun z => z.cps.toList)) = true
    rw [sortS_eq (b :: r) h2.2, ← ltC_eq, h2.1]
    rfl
theorem S_strs {K : PySem.W.Frag} {mg : Mg} {H : Hp} : ∀ ys : List (List Nat), RepL K mg H (ys.map D.str) ((ys.map SX.S).map V.str)
  | [] => rfl
  | y :: r => ⟨_, _, rfl, rfl, S_strs r⟩
theorem sorted_L (hc : X.calm = true) : CaL X (.builtin "sorted") (bltQ .sorted) := by
  rintro pins s σ H xs us Q I r ⟨ds, th, Qt, rd, rh, h, hq⟩
  match ds, rd with
  | [], _ => exact h.elim
  | _ :: _ :: _, _ => exact (by simp [bltT] at h)
  | [d], ⟨v, r', e, rv, e'⟩ =>
    subst e
    cases e'
    cases d with
    | ref a =>
      cases rv
      unfold bltQ bltT at h
      simp only at h
      split at h
      · rename_i kvs ea
        obtain ⟨ks, ek, hl, h⟩ := need_iff.mp h
        obtain ⟨ws, q, l⟩ := rh _ _ ea
        refine to_frz (call_sortedD hc pins s σ H _ us _ I r ⟨a, ws, ks.map SX.S, rfl, .inl q, keys_str l ek, by simpa using hl, fun zs p hp hs hn => ?_⟩)
        have e1 := S_tls zs
        have hp2 : (zs.map fun z => z.cps.toList).Perm ks := by
          have := hp.map (fun z : Str => z.cps.toList)
          simpa [List.map_map, Function.comp_def] using this
        have z := h (zs.map fun z => z.cps.toList) hp2 (sortS_eq zs hs)
        refine frz_new hq z hn ?_ rh
        have := S_strs (K := X.K) (mg := X.mg) (H := H) (zs.map fun z => z.cps.toList)
        rw [e1] at this
        exact this
      · exact h.elim
    | _ => exact h.elim
end
end Tq
/-! UB6: how many unlike texts a sequence has, by a set. -/
namespace SeS
open PySem PySem.Spec PyProof.Rows
def one (l : List Str) (x : Str) : List Str := if (l.any fun y => y == x) = true then l else l ++ [x]
def met (xs : List Str) (i : Nat) : List Str := (xs.take i).foldl one []
theorem met_next {xs : List Str} {i : Nat} {x : Str} (h : xs[i]? = some x) : met xs (i + 1) = one (met xs i) x := by
  unfold met
  rw [List.take_add_one, h, List.foldl_append]
  rfl
theorem one_has (l : List Str) (x y : Str) : ((one l x).any fun z => z == y) = ((l.any fun z => z == y) || decide (y = x)) := by
  unfold one
  by_cases a : (l.any fun z => z == x) = true
  · rw [if_pos a]
    by_cases b : y = x
    · rw [b, a]; rfl
    · rw [decide_eq_false b, Bool.or_false]
  · rw [if_neg a, List.any_append]
    by_cases b : y = x
    · rw [b]; simp
    · have c : (x == y) = false := by rw [beq_eq_false_iff_ne]; exact fun z => b z.symm
      simp [b, c]
theorem one_len (l : List Str) (x : Str) : (one l x).length = if (l.any fun y => y == x) = true then l.length else l.length + 1 := by
  unfold one
  by_cases a : (l.any fun y => y == x) = true
  · rw [if_pos a, if_pos a]
  · rw [if_neg a, if_neg a, List.length_append]; rfl
theorem met_len (xs : List Str) : ∀ i, (met xs i).length ≤ i
  | 0 => by simp [met]
  | i + 1 => by
    have ih := met_len xs i
    cases h : xs[i]? with
    | none =>
      have e : met xs (i + 1) = met xs i := by unfold met; rw [List.take_add_one, h]; simp
      rw [e]; omega
    | some x =>
      rw [met_next h, one_len]
      split <;> omega
section
variable {Pr : Program} {w : World} {A : Around}
theorem turns {Res : Result → Shared → Prop} {it : Addr} {fp wr : List Addr} {G : Array GenState → Array GenState → Prop} {n : Nat} {V : Nat → Value → Prop} {At : Nat → Shared → Prop}
    (W : WalksS Pr w A.in1 it fp wr G n V At) (b : Addr) (nb : b ∉ fp) (xs : List Str) (hn : n = xs.length) (hv : ∀ i v, V i v → ∃ x t, xs[i]? = some x ∧ v = .str x t) (small : n + 1 < scanBound) (left : Nat) :
    ∀ (i : Nat) (s : Shared), i + left = n → At i s → s.heap.SetOf (PySem.strKind Pr w) b (fun y => (met xs i).any fun z => z == y) (met xs i).length →
      (∀ s2, Moved (b :: wr) G s s2 → s2.heap.SetOf (PySem.strKind Pr w) b (fun y => (met xs n).any fun z => z == y) (met xs n).length → Res (.ok (.ret .none)) s2) →
      codeAny (model Pr w) A (.builtin "set.update.loop" ⟨[.ref b, .ref it], []⟩) Res s := by
  have nw : b ∉ wr := fun z => nb (W.sub _ z)
  have more : ∀ a ∈ wr, a ∈ b :: wr := fun a z => .tail _ z
  have stays : ∀ {s s2 : Shared} {F : Str → Bool} {m : Nat}, Moved wr G s s2 → s.heap.SetOf (PySem.strKind Pr w) b F m → s2.heap.SetOf (PySem.strKind Pr w) b F m := by
    rintro s s2 F m mv ⟨ob, rows, ep, tb, at0, r⟩
    exact ⟨ob, rows, ep, tb, mv.heap b _ nw at0, r⟩
  induction left with
  | zero =>
    intro i s hi st S k
    have e : i = n := by omega
    rw [e] at st S
    apply codeAny_builtin PyProof.Rows.F.entry_set_update_loop
    rw [Around.under_plainId PyProof.Rows.F.plain_set_update_loop _]
    show wpAny _ A.in1 (pyNext (.ref it) >>= _) _ _ s
    apply wpAny_bind
    apply W.done s _ _ st
    intro s2 mv
    show wpAny _ A.in1 (ret Value.none) _ _ s2
    exact wpAny_pure (k s2 (mv.mono more) (stays mv S))
  | succ left ih =>
    intro i s hi st S k
    apply codeAny_builtin PyProof.Rows.F.entry_set_update_loop
    rw [Around.under_plainId PyProof.Rows.F.plain_set_update_loop _]
    show wpAny _ A.in1 (pyNext (.ref it) >>= _) _ _ s
    apply wpAny_bind
    apply W.item i s _ _ (by omega) st
    intro v s2 hv2 st2 mv
    obtain ⟨x, t, ex, rfl⟩ := hv i v hv2
    have S2 := stays mv S
    show wpAny _ A.in1 (holding [Value.str x t] (setAdd b (.str x t)) >>= _) _ _ s2
    apply wpAny_bind
    apply wpAny_holding
    unfold setAdd
    apply wpAny_holding
    apply wpAny_bind
    refine (PySem.strKind Pr w).pyHash (k := x) (strKind_is _ _ _ _) ?_
    have small2 : (met xs i).length + 1 < scanBound := by have := met_len xs i; omega
    refine wpAny_setAddHashed_of (knd := PySem.strKind Pr w) (s := { s2 with toks := s2.toks + 1 }) (strKind_is _ _ _ _) rfl S2 small2 fun hp but S3 => ?_
    have S4 : hp.SetOf (PySem.strKind Pr w) b (fun y => (met xs (i + 1)).any fun z => z == y) (met xs (i + 1)).length := by
      rw [met_next ex]
      exact SetOf_congr S3 (fun y => (one_has _ x y).symm) (one_len _ x).symm
    refine wpAny_pure ⟨plainId_quiet PyProof.Rows.F.plain_set_update_loop _, ?_⟩
    apply ih (i + 1) _ (by omega) (W.frame _ s2 _ _ st2 (Nat.le_succ _) (fun a ha o e => ?_)) S4
    · intro s4 mv4 S5
      refine k s4 (Moved.trans W.gtrans ((mv.mono more).then_heap (Nat.le_succ _) ?_) mv4) S5
      intro a o ha e
      have ne : a ≠ b := fun z => ha (z ▸ List.mem_cons_self)
      rw [but.2 a ne]
      exact e
    · have ne : a ≠ b := fun z => nb (z ▸ ha)
      rw [but.2 a ne]
      exact e
theorem str_of : ∀ {us : List Value} {xs : List Str}, StrsAre us xs → ∀ (i : Nat) (v : Value), us[i]? = some v → ∃ x t, xs[i]? = some x ∧ v = .str x t
  | _, _, .nil, i, v, h => by rw [List.getElem?_nil] at h; cases h
  | _, _, .cons x t _, 0, v, h => ⟨x, t, rfl, (Option.some.inj h).symm⟩
  | _, _, .cons _ _ r, i + 1, v, h => str_of r i v h
abbrev bare (led : Bool) : Obj := { cls := .type "set", dict := none, data := .set #[] 0 (.fresh 0 0 led) }


set_option maxHeartbeats 3200000 in
theorem made_list {E : Value → Shared → Prop} {s : Shared} {q : Addr} {its : Array Value} {xs : List Str} {Q : Value → Shared → Prop} (calm : A.handled = none) (hq : s.heap.IsList q its) (hx : StrsAre its.toList xs) (small : xs.length + 1 < scanBound)
    (k : ∀ (hp : Heap) (tk : Nat), hp.SetOf (PySem.strKind Pr w) s.heap.objs.size (fun y => (met xs xs.length).any fun z => z == y) (met xs xs.length).length →
      (∀ a o, a < s.heap.objs.size → s.heap.get? a = some o → hp.get? a = some o) → Q (.ref s.heap.objs.size) { s with heap := hp, toks := tk }) :
    wpAny (model Pr w) A (call (.type "set") [.ref q]) Q E s := by
  have len : its.size = xs.length := by rw [← StrsAre.len_eq hx, Array.length_toList]
  obtain ⟨c, tl, hmro⟩ := PySem.F.called_set.mro
  have w1 := PySem.F.called_set.made
  have w2 := PySem.F.called_set.sub
  have w3 := PySem.F.called_set.notType
  have w4 := PySem.F.called_set.canCreate
  have w5 := PySem.F.typeCall_set_1 (.ref q)
  have w6 := PySem.F.called_set.init.lookup
  apply wpAny_call
  apply codeAny_of_tree
  show wpAny _ _ (callAny (.type "set") _) _ _ _
  refine wpAny_pure ⟨Code.quiet_builtin _ (by decide +kernel), codeAny_builtin PySem.F.entry_type_call ?_⟩
  rw [Around.under_plain (weight_type_call_type "set" [.ref q] []) rfl]
  repeat (any_goals (first | assumption | wp_step))

  refine codeAny_mono (code_set_new_1 (.ref q) (E := E) (Q₁ := fun v s1 => ∃ led, v = .ref s.heap.objs.size ∧ s1 = { s with heap := s.heap.push (bare led) }) fun led => ⟨led, rfl, rfl⟩) fun r s1 hr => ?_
  rcases r with e | fl
  · exact hr
  · cases fl with
    | ret v =>
      obtain ⟨led, rfl, rfl⟩ := hr
      have new : (s.heap.push (bare led)).get? s.heap.objs.size = some (bare led) := Heap.get?_push_size _ rfl
      have w7 : Shared.TypeIs { s with heap := s.heap.push (bare led) } (.ref s.heap.objs.size) "set" := ⟨_, new, rfl⟩
      have w8 := PySem.F.called_set.init.bind (.ref s.heap.objs.size)
      repeat (any_goals (first | assumption | wp_step))

      refine codeAny_mono (codeAny_call_builtin (R := wants (fun v s2 => v = .none ∧ ∃ hp tk, s2 = { s with heap := hp, toks := tk } ∧ hp.SetOf (PySem.strKind Pr w) s.heap.objs.size (fun y => (met xs xs.length).any fun z => z == y) (met xs xs.length).length ∧
          ∀ a o, a < s.heap.objs.size → s.heap.get? a = some o → hp.get? a = some o) E) PySem.F.called_set.init.plain PySem.F.entry_set_init (check_set_init_1 w7 ?_)) fun r2 s2 hr2 => ?_
      · obtain ⟨⟨oc, od, ot, osl⟩, at0, e1, m, e2⟩ := hq
        simp only at e1 e2
        subst e1
        subst e2
        have at1 : (s.heap.push (bare led)).get? q = some { cls := .type "list", dict := od, data := .seq its m, slots := osl } := Heap.get?_push_of_some _ at0
        have n1 := PySem.F.sub_list_set
        have n2 := PySem.F.sub_list_frozenset
        have n3 : (Value.type "list" == Value.type "dict") = false := by decide
        have q1 : (s.heap.push (bare led)).IsList q its := ⟨_, at1, rfl, m, rfl⟩
        unfold Builtin.«set.__init__» noKeywords Builtin.Frozenset.updateFrom
        generalize walked : pyIter = walker
        wp_walk
        subst walked

        apply wpAny_pyIter_list q1
        apply wpAny_bind
        apply wpAny_runValue
        have lt0 : q < s.heap.objs.size := Heap.lt_size at0
        have size1 : (s.heap.push (bare led)).objs.size = s.heap.objs.size + 1 := Heap.size_push ..
        have calm3 : A.in1.in1.in1.handled = none := by simp [calm]
        have ne1 : q ≠ (s.heap.push (bare led)).objs.size := by rw [size1]; exact Nat.ne_of_lt (Nat.lt_succ_of_lt lt0)
        refine turns ((Walks.list calm3 _ q ne1 its).toS) s.heap.objs.size ?far xs len (fun i v e => str_of hx i v (by rw [Array.getElem?_toList]; exact e)) (by omega) its.size 0 _ (by omega)
          ⟨⟨_, Heap.get?_push_size _ rfl, rfl, rfl⟩, (q1.push _)⟩ ?begin ?fin
        case far =>
          intro z
          rw [size1] at z
          rcases List.mem_cons.mp z with z | z
          · exact Nat.ne_of_lt (Nat.lt_succ_self _) z
          · exact Nat.ne_of_gt lt0 (List.mem_singleton.mp z)
        case begin =>
          have at2 : ((s.heap.push (bare led)).push { cls := .type "list_iterator", data := .fields #[.ref q, .int 0 0] }).get? s.heap.objs.size = some (bare led) := Heap.get?_push_of_some _ new
          exact SetOf_congr ((setObjOf_fresh (knd := PySem.strKind Pr w) led).setOf at2 (by unfold scanBound; omega)) (fun _ => rfl) rfl
        case fin =>
          rintro ⟨hp, gs, dr, tk, os⟩ mv S
          rw [len] at S
          obtain rfl : gs = s.gens := mv.gens
          obtain rfl : dr = s.drawn := mv.drawn
          obtain rfl : os = s.os := mv.os
          show wpAny _ _ _ _ _ _
          apply wpAny_pure
          show wpAny _ _ (ret Value.none) _ _ _
          refine wpAny_pure ⟨rfl, hp, tk, rfl, S, fun a o la e => mv.heap a o ?_ (Heap.get?_push_of_some _ (Heap.get?_push_of_some _ e))⟩
          intro z
          rw [size1] at z
          rcases List.mem_cons.mp z with z | z
          · exact Nat.ne_of_lt la z
          · exact Nat.ne_of_lt (Nat.lt_succ_of_lt la) (List.mem_singleton.mp z)

      · rcases r2 with e2 | fl2
        · exact hr2
        · cases fl2 with
          | ret v =>
            obtain ⟨rfl, hp, tk, rfl, S, keeps⟩ := hr2
            repeat (any_goals (first | assumption | wp_step))
            exact k _ _ S keeps
          | _ => exact hr2.elim
    | _ => exact hr.elim


set_option maxHeartbeats 3200000 in
theorem made_tuple {E : Value → Shared → Prop} {s : Shared} {q : Addr} {its : Array Value} {xs : List Str} {Q : Value → Shared → Prop} (calm : A.handled = none) (hq : s.heap.IsTuple q its) (hx : StrsAre its.toList xs) (small : xs.length + 1 < scanBound)
    (k : ∀ (hp : Heap) (tk : Nat), hp.SetOf (PySem.strKind Pr w) s.heap.objs.size (fun y => (met xs xs.length).any fun z => z == y) (met xs xs.length).length →
      (∀ a o, a < s.heap.objs.size → s.heap.get? a = some o → hp.get? a = some o) → Q (.ref s.heap.objs.size) { s with heap := hp, toks := tk }) :
    wpAny (model Pr w) A (call (.type "set") [.ref q]) Q E s := by
  have len : its.size = xs.length := by rw [← StrsAre.len_eq hx, Array.length_toList]
  obtain ⟨c, tl, hmro⟩ := PySem.F.called_set.mro
  have w1 := PySem.F.called_set.made
  have w2 := PySem.F.called_set.sub
  have w3 := PySem.F.called_set.notType
  have w4 := PySem.F.called_set.canCreate
  have w5 := PySem.F.typeCall_set_1 (.ref q)
  have w6 := PySem.F.called_set.init.lookup
  apply wpAny_call
  apply codeAny_of_tree
  show wpAny _ _ (callAny (.type "set") _) _ _ _
  refine wpAny_pure ⟨Code.quiet_builtin _ (by decide +kernel), codeAny_builtin PySem.F.entry_type_call ?_⟩
  rw [Around.under_plain (weight_type_call_type "set" [.ref q] []) rfl]
  repeat (any_goals (first | assumption | wp_step))

  refine codeAny_mono (code_set_new_1 (.ref q) (E := E) (Q₁ := fun v s1 => ∃ led, v = .ref s.heap.objs.size ∧ s1 = { s with heap := s.heap.push (bare led) }) fun led => ⟨led, rfl, rfl⟩) fun r s1 hr => ?_
  rcases r with e | fl
  · exact hr
  · cases fl with
    | ret v =>
      obtain ⟨led, rfl, rfl⟩ := hr
      have new : (s.heap.push (bare led)).get? s.heap.objs.size = some (bare led) := Heap.get?_push_size _ rfl
      have w7 : Shared.TypeIs { s with heap := s.heap.push (bare led) } (.ref s.heap.objs.size) "set" := ⟨_, new, rfl⟩
      have w8 := PySem.F.called_set.init.bind (.ref s.heap.objs.size)
      repeat (any_goals (first | assumption | wp_step))

      refine codeAny_mono (codeAny_call_builtin (R := wants (fun v s2 => v = .none ∧ ∃ hp tk, s2 = { s with heap := hp, toks := tk } ∧ hp.SetOf (PySem.strKind Pr w) s.heap.objs.size (fun y => (met xs xs.length).any fun z => z == y) (met xs xs.length).length ∧
          ∀ a o, a < s.heap.objs.size → s.heap.get? a = some o → hp.get? a = some o) E) PySem.F.called_set.init.plain PySem.F.entry_set_init (check_set_init_1 w7 ?_)) fun r2 s2 hr2 => ?_
      · obtain ⟨⟨oc, od, ot, osl⟩, at0, e1, m, e2⟩ := hq
        simp only at e1 e2
        subst e1
        subst e2
        have at1 : (s.heap.push (bare led)).get? q = some { cls := .type "tuple", dict := od, data := .seq its m, slots := osl } := Heap.get?_push_of_some _ at0
        have n1 := PySem.F.sub_tuple_set
        have n2 := PySem.F.sub_tuple_frozenset
        have n3 : (Value.type "tuple" == Value.type "dict") = false := by decide
        have q1 : (s.heap.push (bare led)).IsTuple q its := ⟨_, at1, rfl, m, rfl⟩
        unfold Builtin.«set.__init__» noKeywords Builtin.Frozenset.updateFrom
        generalize walked : pyIter = walker
        wp_walk
        subst walked

        apply wpAny_pyIter_tuple q1
        apply wpAny_bind
        apply wpAny_runValue
        have lt0 : q < s.heap.objs.size := Heap.lt_size at0
        have size1 : (s.heap.push (bare led)).objs.size = s.heap.objs.size + 1 := Heap.size_push ..
        have calm3 : A.in1.in1.in1.handled = none := by simp [calm]
        have ne1 : q ≠ (s.heap.push (bare led)).objs.size := by rw [size1]; exact Nat.ne_of_lt (Nat.lt_succ_of_lt lt0)
        refine turns ((Walks.tuple calm3 _ q ne1 its).toS) s.heap.objs.size ?far xs len (fun i v e => str_of hx i v (by rw [Array.getElem?_toList]; exact e)) (by omega) its.size 0 _ (by omega)
          ⟨⟨_, Heap.get?_push_size _ rfl, rfl, rfl⟩, (q1.push _)⟩ ?begin ?fin
        case far =>
          intro z
          rw [size1] at z
          rcases List.mem_cons.mp z with z | z
          · exact Nat.ne_of_lt (Nat.lt_succ_self _) z
          · exact Nat.ne_of_gt lt0 (List.mem_singleton.mp z)
        case begin =>
          have at2 : ((s.heap.push (bare led)).push { cls := .type "tuple_iterator", data := .fields #[.ref q, .int 0 0] }).get? s.heap.objs.size = some (bare led) := Heap.get?_push_of_some _ new
          exact SetOf_congr ((setObjOf_fresh (knd := PySem.strKind Pr w) led).setOf at2 (by unfold scanBound; omega)) (fun _ => rfl) rfl
        case fin =>
          rintro ⟨hp, gs, dr, tk, os⟩ mv S
          rw [len] at S
          obtain rfl : gs = s.gens := mv.gens
          obtain rfl : dr = s.drawn := mv.drawn
          obtain rfl : os = s.os := mv.os
          show wpAny _ _ _ _ _ _
          apply wpAny_pure
          show wpAny _ _ (ret Value.none) _ _ _
          refine wpAny_pure ⟨rfl, hp, tk, rfl, S, fun a o la e => mv.heap a o ?_ (Heap.get?_push_of_some _ (Heap.get?_push_of_some _ e))⟩
          intro z
          rw [size1] at z
          rcases List.mem_cons.mp z with z | z
          · exact Nat.ne_of_lt la z
          · exact Nat.ne_of_lt (Nat.lt_succ_of_lt la) (List.mem_singleton.mp z)

      · rcases r2 with e2 | fl2
        · exact hr2
        · cases fl2 with
          | ret v =>
            obtain ⟨rfl, hp, tk, rfl, S, keeps⟩ := hr2
            repeat (any_goals (first | assumption | wp_step))
            exact k _ _ S keeps
          | _ => exact hr2.elim
    | _ => exact hr.elim

end
end SeS
/-! UC: whether a piece of the small language is what a piece of the text says. -/
namespace Tq
open PySem
/-- what is known of the text's names -/
structure CC where
  N : List Str
  fns : List (Str × Nat)
  free : List Str
  wds : List Str
def bfName : Bf → Str
  | .len => "len" | .max => "max" | .min => "min" | .int => "int" | .tuple => "tuple" | .list => "list" | .sorted => "sorted" | .all => "all" | .any => "any" | .sum => "sum" | .str => "str" | .dict => "dict" | .abs => "abs"
/-- those that are walked here -/
def bfOk : Bf → Bool
  | .len => true | .max => true | .min => true | .int => true | .tuple => true | .list => true | .sorted => true | .all => true | .any => true | .sum => true | .str => true
  | _ => false
def tyName : Ty → String
  | .str => "str" | .int => "int" | .bool => "bool" | .tuple => "tuple" | .list => "list" | .dict => "dict"
def tyStr : Ty → Str
  | .str => "str" | .int => "int" | .bool => "bool" | .tuple => "tuple" | .list => "list" | .dict => "dict"
def bmName : Bm → Str
  | .append => "append" | .extend => "extend" | .lpop0 => "pop" | .lindex => "index" | .dget => "get" | .dpop => "pop" | .upper => "upper" | .split => "split" | .join => "join" | .replace => "replace" | .wget => "get" | .sindex => "index" | .strip => "strip"
def visB (sc : Scope) (x : Str) : Bool := match sc.names.lookup x with
  | some .local => true
  | some .cell => true
  | some .free => true
  | _ => false
def locB (sc : Scope) (d : Bool) (x : Str) : Bool := match sc.names.lookup x with
  | some .local => true
  | some .cell => d
  | _ => false
def glbB (sc : Scope) (x : Str) : Bool := match sc.names.lookup x with
  | some .globalImplicit => true
  | _ => false
def okName (x : Str) : Bool := !(x == ("__debug__" : Str)) && !(x == ("__classdict__" : Str)) && !(x == ("__name__" : Str))
/-- a built-in's name -/
def bltB (c : CC) (sc : Scope) (x : Str) : Bool := glbB sc x && okName x && c.free.contains x
/-- a comprehension's own scope within another one -/
def relS (sc scope : Scope) : Scope := { scope with names := scope.names.map fun p => if (p.2 == NameKind.free && sc.kind == ScopeKind.function && sc.names.lookup p.1 == some NameKind.cell) = true then (p.1, NameKind.cell) else p }
def blkB (N : List Str) (sc scope : Scope) (own : List (Str × Nat)) : Bool :=
  (match scope.kind with | .function => true | _ => false) && (scope.names.all fun y => decide (scope.names.lookup y.1 = some y.2)) && (own.all fun p => decide (N[p.2]? = some p.1)) &&
    (scope.names.all fun y => match y.2 with
      | .free => (match sc.names.lookup y.1 with | some .cell => true | some .free => true | _ => false)
      | .local => decide (y.1 ∈ own.map (·.1)) || decide (y.1 ∉ N)
      | .cell => decide (y.1 ∈ own.map (·.1)) || decide (y.1 ∉ N)
      | _ => true)
/-- no call of a name without arguments: such a one may be super() -/
def noSup : PySem.Expr → Bool
  | .Call (.Name _ _) [] [] _ => false
  | _ => true
def chkTs (c : CC) (sc : Scope) (d : Bool) : List Nat → List PySem.Expr → Bool
  | [], [] => true
  | i :: r, .Name x _ :: es => decide (c.N[i]? = some x) && locB sc d x && chkTs c sc d r es
  | _, _ => false
def chkTg (c : CC) (sc : Scope) (d : Bool) : Tg → PySem.Expr → Bool
  | .nm i, .Name x _ => decide (c.N[i]? = some x) && locB sc d x
  | .tp is, .Tuple es _ _ => chkTs c sc d is es
  | _, _ => false
def tgIx : Tg → List Nat
  | .nm i => [i]
  | .tp is => is
def bmAr : Bm → Nat → Bool
  | .append, 1 => true
  | .upper, 0 => true
  | .split, 1 => true
  | .join, 1 => true
  | .dget, 1 => true
  | .dget, 2 => true
  | .wget, 1 => true
  | _, _ => false
/-- fewer than 29 arguments -/
def fewB (es : List PySem.Expr) : Bool := decide (es.length < 29)
def notLc : Ex → Bool
  | .comp _ _ _ _ _ => false
  | .compR _ _ _ _ _ => false
  | _ => true
mutual
def chk (c : CC) : Ex → Scope → PySem.Expr → Bool
  | .slot i, sc, .Name x _ => decide (c.N[i]? = some x) && visB sc x && okName x
  | .kint i, _, .Constant (.int j) _ _ => decide (i = j)
  | .kbl b, _, .Constant (.bool j) _ _ => decide (b = j)
  | .knon, _, .Constant .none _ _ => true
  | .kstr cs, _, .Constant (.str s) _ _ => decide (s = ⟨cs.toArray⟩)
  | .glo x, sc, .Name y _ => decide (x = y) && glbB sc x && okName x
  | .bin op a b, sc, .BinOp l o r _ => decide (op = o) && chk c a sc l && chk c b sc r
  | .neg a, sc, .UnaryOp .USub e _ => chk c a sc e
  | .not a, sc, .UnaryOp .Not e _ => chk c a sc e
  | .bop t a r, sc, .BoolOp o es _ => (match o with | .And => t | .Or => !t) && (match es with
      | e :: es => chk c a sc e && chkL c r sc es
      | _ => false)
  | .cmp op a b, sc, .Compare l ops rs _ => (match ops, rs with
      | [o], [r] => decide (op = o) && chk c a sc l && chk c b sc r
      | _, _ => false)
  | .chn op op2 a b d, sc, .Compare l ops rs _ => (match ops, rs with
      | [o, o2], [r, r2] => decide (op = o) && decide (op2 = o2) && chk c a sc l && chk c b sc r && chk c d sc r2
      | _, _ => false)
  | .ife t a b, sc, .IfExp e x y _ => chk c t sc e && chk c a sc x && chk c b sc y
  | .ix a b, sc, .Subscript l r _ => chk c a sc l && chk c b sc r
  | .sl a lo hi, sc, .Subscript l s _ => (match s with
      | .Slice l2 h2 none _ => chk c a sc l && chkO c lo sc l2 && chkO c hi sc h2
      | _ => false)
  | .tup es, sc, .Tuple xs _ _ => chkL c es sc xs
  | .lst es, sc, .List xs _ => chkL c es sc xs
  | .lstR es, sc, .List xs _ => chkL c es sc xs
  | .mkl e, sc, .Call g xs kw _ => (match g, kw, xs with
      | .Name x _, [], [y] => decide (x = ("list" : Str)) && bltB c sc x && chk c e sc y
      | _, _, _ => false)
  | .frz i, sc, .Name x _ => decide (c.N[i]? = some x) && visB sc x && okName x
  | .lset e, sc, .Call g xs kw _ => (match g, kw, xs with
      | .Name x _, [], [.Call (.Name y _) [z] [] _] => decide (x = ("len" : Str)) && bltB c sc x && decide (y = ("set" : Str)) && bltB c sc y && chk c e sc z
      | _, _, _ => false)
  | .dic ps, sc, .Dict ks vs _ => chkP c ps sc ks vs && decide (ks.length ≤ 15)
  | .call f es, sc, .Call g xs kw _ => (match g, kw with
      | .Name x _, [] => decide (f = x) && glbB sc x && okName x && chkL c es sc xs && decide (c.fns.lookup f = some xs.length)
      | _, _ => false)
  | .blt f es, sc, .Call g xs kw _ => (match g, kw with
      | .Name x _, [] => decide (bfName f = x) && bfOk f && bltB c sc x && chkL c es sc xs && !xs.isEmpty
      | _, _ => false)
  | .isi a t, sc, .Call g xs kw _ => (match g, kw, xs with
      | .Name x _, [], [e, .Name y _] => decide (x = ("isinstance" : Str)) && bltB c sc x && decide (y = tyStr t) && bltB c sc y && chk c a sc e
      | _, _, _ => false)
  | .bm b o es, sc, .Call g xs kw p => (match g, kw with
      | .Attribute e m ap, [] => decide (m = bmName b) && (ap.endLine == p.line) && noSup e && fewB xs && bmAr b xs.length && chk c o sc e && chkL c es sc xs
      | _, _ => false)
  | .comp elt tg it ifs own, sc, .ListComp e gs scope _ => (match gs with
      | [⟨t, i, fs, 0⟩] => blkB c.N sc scope own && chk c elt (relS sc scope) e && chkTg c (relS sc scope) false tg t && (tgIx tg).all (fun i => (own.map (·.2)).contains i) && chkI c it sc i && chkC c ifs (relS sc scope) fs
      | _ => false)
  | .compR elt tg it ifs own, sc, .ListComp e gs scope _ => (match gs with
      | [⟨t, i, fs, 0⟩] => blkB c.N sc scope own && chk c elt (relS sc scope) e && chkTg c (relS sc scope) false tg t && (tgIx tg).all (fun i => (own.map (·.2)).contains i) && chkI c it sc i && chkC c ifs (relS sc scope) fs
      | _ => false)
  | _, _, _ => false
termination_by structural x => x
def chkL (c : CC) : ExL → Scope → List PySem.Expr → Bool
  | .nil, _, [] => true
  | .cons e r, sc, x :: xs => chk c e sc x && chkL c r sc xs
  | _, _, _ => false
termination_by structural x => x
/-- a comprehension's ifs: one at most -/
def chkC (c : CC) : ExL → Scope → List PySem.Expr → Bool
  | .nil, _, [] => true
  | .cons e .nil, sc, [x] => chk c e sc x
  | _, _, _ => false
termination_by structural x => x
def chkO (c : CC) : ExO → Scope → Option PySem.Expr → Bool
  | .no, _, none => true
  | .yes e, sc, some x => chk c e sc x
  | _, _, _ => false
termination_by structural x => x
def chkP (c : CC) : ExP → Scope → List (Option PySem.Expr) → List PySem.Expr → Bool
  | .nil, _, [], [] => true
  | .cons k v r, sc, some x :: ks, y :: vs => chk c k sc x && chk c v sc y && chkP c r sc ks vs
  | _, _, _, _ => false
termination_by structural x => x
def chkI (c : CC) : It → Scope → PySem.Expr → Bool
  | .of e, sc, x => chk c e sc x
  | .rng1 a, sc, .Call g xs kw _ => (match g, kw, xs with
      | .Name x _, [], [e] => decide (x = ("range" : Str)) && bltB c sc x && chk c a sc e
      | _, _, _ => false)
  | .rng2 a b, sc, .Call g xs kw _ => (match g, kw, xs with
      | .Name x _, [], [e, f] => decide (x = ("range" : Str)) && bltB c sc x && chk c a sc e && chk c b sc f
      | _, _, _ => false)
  | _, _, _ => false
termination_by structural x => x
end
/-- y = [.. for ..]: whether the comprehension's name is y's own cell -/
def swB (sc : Scope) (v : PySem.Expr) (t : Str) (tp : Pos) : Bool := match v with
  | .ListComp _ _ s vp => sc.names.lookup t == some .local && tp.line == vp.line && !(s.names.any fun p => p.1 == t && (p.2 == .local || p.2 == .cell))
  | _ => false
def isLc : PySem.Expr → Bool
  | .ListComp _ _ _ _ => true
  | _ => false
def isTup : PySem.Expr → Bool
  | .Tuple _ _ _ => true
  | _ => false
/-- written numbers, texts or the like: such displays are stored another way -/
def foldB : PySem.Expr → Bool
  | .Constant _ _ _ => true
  | .UnaryOp _ _ _ => true
  | .BinOp _ _ _ _ => true
  | .Subscript _ _ _ => true
  | .Tuple _ _ _ => true
  | .Name id _ => id == ("__debug__" : Str)
  | _ => false
def noneB : List PySem.Stmt → Bool
  | [] => true
  | _ => false
mutual
def chkS (c : CC) (sc : Scope) : Sm → PySem.Stmt → Bool
  | .set i e, .Assign ts v _ => (match ts with
      | [.Name x p] => decide (c.N[i]? = some x) && locB sc true x && chk c e sc v
      | _ => false)
  | .setT is e, .Assign ts v _ => (match ts with
      | [.Tuple es _ _] => chkTs c sc true is es && chk c e sc v && !isTup v && !isLc v
      | _ => false)
  | .par i j a b, .Assign ts v _ => (match ts, v with
      | [.Tuple [.Name x px, .Name y py] _ _], .Tuple [l, r] _ _ => decide (c.N[i]? = some x) && decide (c.N[j]? = some y) && decide (i ≠ j) && decide (x ≠ y) && locB sc false x && locB sc false y && (px.line == py.line) && (([x, y] : List Str).eraseDups.length == 2) && chk c a sc l && chk c b sc r
          && !(foldB l && foldB r)
      | _, _ => false)
  | .setSub o i e, .Assign ts v _ => (match ts with
      | [.Subscript x y _] => chk c o sc x && chk c i sc y && chk c e sc v && !isLc v
      | _ => false)
  | .ex e, .Expr v _ => chk c e sc v && !isLc v
  | .iff t a b, .If e x y _ => chk c t sc e && chkSs c sc a x && chkSs c sc b y
  | .whl t b, .While e x y _ => chk c t sc e && chkSs c sc b x && noneB y
  | .for tg it b, .For t i x y _ => chkTg c sc true tg t && chkI c it sc i && chkSs c sc b x && noneB y
  | .ret e, .Return v _ => (match v with
      | some v => chk c e sc v
      | none => false)
  | .retN, .Return none _ => true
  | .pass, .Pass _ => true
  | .brk, .Break _ => true
  | .cont, .Continue _ => true
  | .nev, _ => true
  | _, _ => false
termination_by structural x => x
def chkSs (c : CC) (sc : Scope) : SmL → List PySem.Stmt → Bool
  | .nil, [] => true
  | .cons s r, x :: xs => chkS c sc s x && chkSs c sc r xs
  | _, _ => false
termination_by structural x => x
end
end Tq
/-! UD: the pieces of the small language tell what the text's pieces ask. -/
namespace Tq
open PySem L2 PyProof.Rows
theorem PE.imp {X : Cx} {e : PySem.Expr} {t t' : L2.TE} (h : PE X e t) (i : ∀ σ H Q, t' σ H Q → t σ H Q) : PE X e t' := ⟨fun p s σ H Q I q => h.run p s σ H Q I (i σ H Q q)⟩
theorem PT.imp {X : Cx} {e : PySem.Expr} {t t' : L2.TT} (h : PT X e t) (i : ∀ σ H Q, t' σ H Q → t σ H Q) : PT X e t' := ⟨fun p s σ H Q I q => h.run p s σ H Q I (i σ H Q q)⟩
theorem PW.imp {X : Cx} {e : PySem.Expr} {t t' : L2.TT} (h : PW X e t) (i : ∀ σ H Q, t' σ H Q → t σ H Q) : PW X e t' := ⟨fun wh p s σ H Q I q => h.run wh p s σ H Q I (i σ H Q q)⟩
theorem PA.imp {X : Cx} {e : List PySem.Expr} {t t' : L2.TA} (h : PA X e t) (i : ∀ σ H Q, t' σ H Q → t σ H Q) : PA X e t' := ⟨fun ps p s σ H Q I q => h.run ps p s σ H Q I (i σ H Q q)⟩
theorem PO.imp {X : Cx} {e : Option PySem.Expr} {t t' : L2.TO} (h : PO X e t) (i : ∀ σ H Q, t' σ H Q → t σ H Q) : PO X e t' := ⟨fun p s σ H Q I q => h.run p s σ H Q I (i σ H Q q)⟩
theorem PTs.imp {X : Cx} {e : List PySem.Expr} {t t' : L2.TT} (h : PTs X e t) (i : ∀ σ H Q, t' σ H Q → t σ H Q) : PTs X e t' := ⟨fun p s σ H Q I q => h.run p s σ H Q I (i σ H Q q)⟩
theorem PI.imp {X : Cx} {tg e : PySem.Expr} {t t' : L2.TI} (h : PI X tg e t) (i : ∀ σ H R, t' σ H R → t σ H R) : PI X tg e t' := ⟨fun p s σ H R I q => h.run p s σ H R I (i σ H R q)⟩
theorem PG.imp {X : Cx} {e : PySem.Expr} {t t' : L2.TG} (h : PG X e t) (i : ∀ v σ H Q, t' v σ H Q → t v σ H Q) : PG X e t' := ⟨fun p s σ H v u Q I r q => h.run p s σ H v u Q I r (i v σ H Q q)⟩
/-! ### promises -/
def RepX (mg : Mg) (K : PySem.W.Frag) (H : Hp) (x : XN) (cls : Value) (dd : Option Addr) : Prop :=
  ∃ C, mg x.cls = some (.ref C) ∧ cls = .ref C ∧ (match x.arg with
    | none => dd = none
    | some w => ∃ a v, dd = some a ∧ H a = some (.xd [(("word" : Str), v)]) ∧ Rep K mg H w v)
def lsp (K : PySem.W.Frag) (mg : Mg) (sp : List D → TH → KQ → FQ → Prop) : L2.Sp := fun vs H Q E => ∃ ds th Qt F, RepL K mg H ds vs ∧ RepH K mg H th ∧ sp ds th Qt F ∧ LQ K mg Qt H Q ∧
  ∀ x th' cls dd H', F x th' → Keep H H' → RepX mg K H' x cls dd → RepH K mg H' th' → E cls dd H'
structure CallOk (X : Cx) (sp : List D → TH → KQ → FQ → Prop) (f : Str) (n : Nat) : Prop where
  ex : ∃ (a : Addr) (fd : FuncData) (ps : List Str) (k : Nat), X.mg f = some (.ref a) ∧ PySem.W.keepIn X.K (.ref a) = true ∧ Binds X.K fd ps [] ∧ ps.length = n ∧ Room k X.A ∧ FnOk X.prog X.w X.K X.mg X.base (L2.CX X.prog X.w) k a fd ps (lsp X.K X.mg sp)
/-- the slots as told; what stood at the entry stands -/
structure RepT (K : PySem.W.Frag) (mg : Mg) (Hx H : Hp) (sd : Sl) (σ : L2.St) : Prop where
  kp : Keep Hx H
  rs : RepS K mg H sd σ
theorem RepT.keep {K : PySem.W.Frag} {mg : Mg} {Hx H H' : Hp} {sd : Sl} {σ : L2.St} (h : RepT K mg Hx H sd σ) (k : Keep H H') : RepT K mg Hx H' sd σ := ⟨h.kp.trans k, h.rs.keep k⟩
theorem RepT.set {K : PySem.W.Frag} {mg : Mg} {Hx H : Hp} {sd : Sl} {σ : L2.St} {d : D} {v : V} (i : Nat) (h : RepT K mg Hx H sd σ) (r : Rep K mg H d v) : RepT K mg Hx H (sd.set i (some d)) (σ.set i (some v)) := ⟨h.kp, h.rs.set i r⟩
theorem RepT.wipe {K : PySem.W.Frag} {mg : Mg} {Hx H : Hp} {sd : Sl} {σ : L2.St} (h : RepT K mg Hx H sd σ) (vs : List Nat) : RepT K mg Hx H (Tq.wipe sd vs) (L2.wipe σ vs) := ⟨h.kp, h.rs.wipe vs⟩
/-- what is wanted of exceptions -/
def wx (X : Cx) (Hx : Hp) (E : EQ) : L2.WX := fun cls dd σ H => ∃ x sd th, RepX X.mg X.K H x cls dd ∧ RepT X.K X.mg Hx H sd σ ∧ RepH X.K X.mg H th ∧ E x sd th
structure Gd (P : Env) (c : CC) (sc : Scope) (d : Bool) (E : EQ) (X : Cx) (Hx : Hp) : Prop where
  nN : X.N = c.N
  nd : c.N.Nodup
  scp : X.env.scope = sc
  calm : X.calm = true
  fn : d = true → ∀ x, X.fn x = true
  tk : Takes X (wx X Hx E)
  un : X.A.units + 65 < cLine
  wd : WdOk X P
  st : StOk X
  free : ∀ x, c.free.contains x = true → X.mg x = none
  gl : ∀ x v, P.gl x = some v → ∃ u w, X.mg x = some u ∧ RelV w u ∧ ∀ H, Rep X.K X.mg H v w
  call : ∀ f n, c.fns.lookup f = some n → CallOk X (P.fn f) f n
  rel : FnR P.fn
/-! ### readings, said of data -/
def lE (X : Cx) (Hx : Hp) (t : Sl → TH → KQ → Prop) : L2.TE := fun σ H Q => ∃ sd th Qt, RepT X.K X.mg Hx H sd σ ∧ RepH X.K X.mg H th ∧ t sd th Qt ∧ LQ X.K X.mg Qt H Q
def lT (X : Cx) (Hx : Hp) (t : Sl → TH → (Bool → TH → Prop) → Prop) : L2.TT := fun σ H Q => ∃ sd th Qt, RepT X.K X.mg Hx H sd σ ∧ RepH X.K X.mg H th ∧ t sd th Qt ∧ ∀ b th' H', Qt b th' → Keep H H' → RepH X.K X.mg H' th' → Q b H'
def lA (X : Cx) (Hx : Hp) (t : Sl → TH → (List D → TH → Prop) → Prop) : L2.TA := fun σ H Q => ∃ sd th Qt, RepT X.K X.mg Hx H sd σ ∧ RepH X.K X.mg H th ∧ t sd th Qt ∧ ∀ ds th' vs H', Qt ds th' → Keep H H' → RepL X.K X.mg H' ds vs → RepH X.K X.mg H' th' → Q vs H'
def lO (X : Cx) (Hx : Hp) (t : Sl → TH → (Option Int → TH → Prop) → Prop) : L2.TO := fun σ H Q => ∃ sd th Qt, RepT X.K X.mg Hx H sd σ ∧ RepH X.K X.mg H th ∧ t sd th Qt ∧ ∀ o th' H', Qt o th' → Keep H H' → RepH X.K X.mg H' th' → Q o H'
/-- a walk that yields these things while G stands -/
structure WalkD (K : PySem.W.Frag) (mg : Mg) (J : L2.It) (ds : List D) (G : Hp → Prop) : Prop where
  goes : ∀ i H, i < ds.length → G H → J.go i H
  stops : ∀ H, G H → J.stop ds.length H
  yields : ∀ i H x H', i < ds.length → G H → J.yld i H x H' → Keep H H' ∧ (∀ th, RepH K mg H th → RepH K mg H' th) ∧ ∃ d, ds[i]? = some d ∧ Rep K mg H' d x
def lI (X : Cx) (Hx : Hp) (t : Sl → TH → (List D → (TH → Prop) → TH → Prop) → Prop) : L2.TI := fun σ H R => ∃ sd th Qt, RepT X.K X.mg Hx H sd σ ∧ RepH X.K X.mg H th ∧ t sd th Qt ∧
  ∀ ds g th' H' J G, Qt ds g th' → Keep H H' → RepH X.K X.mg H' th' → WalkD X.K X.mg J ds G → (∀ th2 H2, Keep H' H2 → RepH X.K X.mg H2 th2 → g th2 → G H2) → R J H'
section
variable {P : Env} {c : CC} {sc : Scope} {d : Bool} {E : EQ} {X : Cx} {Hx : Hp}
theorem vis_of {x : Str} (h : visB sc x = true) : Vis sc x := by
  unfold visB at h
  split at h
  · exact .inl (by assumption)
  · exact .inr (.inl (by assumption))
  · exact .inr (.inr (by assumption))
  · cases h
theorem glb_of {x : Str} (g : Gd P c sc d E X Hx) (h : glbB sc x = true) : Gl X x := by
  show X.env.scope.names.lookup x = some .globalImplicit
  rw [g.scp]
  unfold glbB at h
  split at h
  · assumption
  · cases h
theorem nm_of {x : Str} (h : okName x = true) : (x == ("__debug__" : Str)) = false ∧ (x == ("__classdict__" : Str)) = false ∧ x ≠ "__name__" := by
  unfold okName at h
  simp only [Bool.and_eq_true, Bool.not_eq_true'] at h
  exact ⟨h.1.1, h.1.2, fun e => by rw [e] at h; have z := h.2; rw [beq_self_eq_true] at z; cases z⟩
theorem blt_of {x : Str} (g : Gd P c sc d E X Hx) (h : bltB c sc x = true) : Gl X x ∧ X.mg x = none ∧ x ≠ "__name__" ∧ (x == ("__debug__" : Str)) = false := by
  unfold bltB at h
  simp only [Bool.and_eq_true] at h
  obtain ⟨a, b, e⟩ := nm_of h.1.2
  exact ⟨glb_of g h.1.1, g.free x h.2, e, a⟩
/-- no star: an argument -/
theorem star_chk {a : Ex} {e : PySem.Expr} (h : chk c a sc e = true) (es : List PySem.Expr) (env : PySem.Env) : starEach (e :: es) env = (false, eval e env) :: starEach es env := by
  cases e <;> first
    | rfl
    | (cases a <;> exact Bool.noConfusion (show false = true from h))
theorem starL_chk : ∀ {r : ExL} {es : List PySem.Expr} (env : PySem.Env), chkL c r sc es = true → starEach es env = es.map fun e => (false, eval e env)
  | .nil, [], _, _ => rfl
  | .cons a r, x :: xs, env, h => by
    have h2 : (chk c a sc x && chkL c r sc xs) = true := h
    rw [Bool.and_eq_true] at h2
    rw [star_chk h2.1, starL_chk env h2.2]
    rfl
  | .nil, _ :: _, _, h => Bool.noConfusion (show false = true from h)
  | .cons _ _, [], _, h => Bool.noConfusion (show false = true from h)
theorem plain_star (pos : Pos) (es : List PySem.Expr) (env : PySem.Env) : (backTo pos (es.map fun e => (false, eval e env))).any (·.1) = false := by
  unfold backTo
  rw [List.map_map, List.any_map]
  exact List.any_eq_false.mpr fun x _ => by simp
theorem any_chk {r : ExL} {es : List PySem.Expr} (pos : Pos) (env : PySem.Env) (h : chkL c r sc es = true) : (backTo pos (starEach es env)).any (·.1) = false := by
  rw [starL_chk env h]
  exact plain_star pos es env
theorem marks_chk {a : Ex} {e : PySem.Expr} (h : chk c a sc e = true) (op : CmpOp) : behindInMarks op e = false := by
  cases e <;> first
    | rfl
    | (cases a <;> exact Bool.noConfusion (show false = true from h))
theorem last_chk {a : Ex} {e : PySem.Expr} (h : chk c a sc e = true) (o o2 : CmpOp) (b : PySem.Expr) : lastMarks [o, o2] [b, e] = false := by
  have e1 : lastMarks [o, o2] [b, e] = behindInMarks o2 e := rfl
  rw [e1]
  exact marks_chk h o2
theorem plainIx_chk {a : Ex} {e : PySem.Expr} (h : chk c a sc e = true) : PlainIx e := by
  intro o i
  cases e <;> first
    | rfl
    | (cases a <;> exact Bool.noConfusion (show false = true from h))
theorem fold_chk {a : Ex} {e : PySem.Expr} (h : chk c a sc e = true) (env : PySem.Env) (x : Value) : foldedSetIterable e env x = pure x := by
  cases e <;> first
    | rfl
    | (cases a <;> exact Bool.noConfusion (show false = true from h))
theorem base_sup {e : PySem.Expr} (h : noSup e = true) (m : Str) (env : PySem.Env) (w : Sem Value) : attributeBase e m env w = w := by
  unfold noSup at h
  split at h
  · cases h
  · rename_i hn
    unfold attributeBase
    split
    · rename_i a b p
      exact absurd rfl (hn _ _ _)
    · rfl
theorem few_star (pos : Pos) (es : List PySem.Expr) (env : PySem.Env) (hs : starEach es env = es.map fun e => (false, eval e env)) (hl : es.length < 29) :
    ((backTo pos (starEach es env)).all (fun x => !x.1) && (backToKw pos (keywordEach [] env)).all (fun x => x.1.isSome)
      && decide (es.length + ([] : List Keyword).length + (if ([] : List Keyword).isEmpty then 0 else 1) < 30)) = true := by
  rw [hs]
  have h1 : (backTo pos (es.map fun e => (false, eval e env))).all (fun x => !x.1) = true := by
    unfold backTo
    rw [List.map_map, List.all_map]
    exact List.all_eq_true.mpr fun x _ => by simp
  rw [h1]
  have h2 : (backToKw pos (keywordEach [] env)).all (fun x => x.1.isSome) = true := rfl
  rw [h2]
  have h3 : es.length + ([] : List Keyword).length + (if ([] : List Keyword).isEmpty then 0 else 1) < 30 := by simp; omega
  rw [decide_eq_true h3]
  rfl
theorem args_two (pos : Pos) (e : PySem.Expr) (env : PySem.Env) (hs : starEach [e] env = [(false, eval e env)]) : backTo pos (starEach [e] env) = [(false, eval e env)] := by rw [hs]; rfl
theorem tru_rep {th : TH} {H : Hp} {d : D} {v : V} {k : Bool → Prop} (rh : RepH X.K X.mg H th) (r : Rep X.K X.mg H d v) (h : truT th d k) : ∃ b, TruV X.K v H b ∧ k b := by
  cases d with
  | non => cases r; exact ⟨false, rfl, h⟩
  | bl b => cases r; exact ⟨b, rfl, h⟩
  | int i => cases r; exact ⟨_, rfl, h⟩
  | str cs =>
    cases r
    refine ⟨_, ⟨by rw [str_len]; exact h.1, ?_⟩, h.2⟩
    rw [str_len]
    cases cs with
    | nil => rfl
    | cons a r => simp; omega
  | tup xs =>
    obtain ⟨p, vs, rfl, tp, lp⟩ := id r
    refine ⟨_, .inr (.inl ⟨vs, tp.sq, ?_⟩), h⟩
    have := lp.length
    cases xs <;> cases vs <;> simp at this <;> rfl
  | rol xs =>
    obtain ⟨p, vs, rfl, tp, lp⟩ := id r
    refine ⟨_, .inl ⟨vs, tp.sq, ?_⟩, h⟩
    have := lp.length
    cases xs <;> cases vs <;> simp at this <;> rfl
  | ref a =>
    cases r
    unfold truT at h
    simp only at h
    split at h
    · rename_i xs ea
      obtain ⟨vs, q, l⟩ := rh _ _ ea
      refine ⟨_, .inl ⟨vs, SqL.of q, ?_⟩, h⟩
      have := l.length
      cases xs <;> cases vs <;> simp at this <;> rfl
    · rename_i kvs ea
      obtain ⟨ws, q, l⟩ := rh _ _ ea
      refine ⟨_, .inr (.inr ⟨ws, q, ?_⟩), h⟩
      have := RepK.length l
      cases kvs <;> cases ws <;> simp at this <;> rfl
    · exact h.elim
  | _ => exact h.elim
theorem kit_T (n : String) (t : Ty) {b : Bool} (h : kitB n (tyName t) = some b) {K : PySem.W.Frag} : PySem.W.kitOne K (.type n) (.type (tyName t)) = some b := kit_ty h
theorem kit_all : ∀ (n : String) (t : Ty), n ∈ ["NoneType", "bool", "int", "str", "tuple", "list", "dict"] → kitB n (tyName t) = some (match n with
    | "bool" => t == .bool || t == .int
    | "int" => t == .int
    | "str" => t == .str
    | "tuple" => t == .tuple
    | "list" => t == .list
    | "dict" => t == .dict
    | _ => false) := by
  intro n t h
  simp only [List.mem_cons, List.not_mem_nil, or_false] at h
  rcases h with rfl | rfl | rfl | rfl | rfl | rfl | rfl <;> cases t <;> decide +kernel
theorem isi_rep {th : TH} {H : Hp} {d : D} {v : V} {t : Ty} {b : Bool} (rh : RepH X.K X.mg H th) (r : Rep X.K X.mg H d v) (h : isiT th t d = some b) : ∃ T, TyX X.K H v T ∧ PySem.W.kitOne X.K T (.type (tyName t)) = some b := by
  cases d with
  | non => cases r; cases h; exact ⟨_, .base .non, kit_T _ t (kit_all "NoneType" t (by simp))⟩
  | bl x => cases r; cases h; exact ⟨_, .base (.bl x), kit_T _ t (kit_all "bool" t (by simp))⟩
  | int x => cases r; cases h; exact ⟨_, .base (.int x), kit_T _ t (kit_all "int" t (by simp))⟩
  | str x => cases r; cases h; exact ⟨_, .base (.str _), kit_T _ t (kit_all "str" t (by simp))⟩
  | tup xs =>
    obtain ⟨p, vs, rfl, tp, lp⟩ := id r
    cases h
    rcases tp with tp | ⟨o, its, n, a, b, _⟩
    · exact ⟨_, .base (.tup tp), kit_T _ t (kit_all "tuple" t (by simp))⟩
    · exact ⟨_, .kTuple a b, kit_T _ t (kit_all "tuple" t (by simp))⟩
  | rol xs =>
    obtain ⟨p, vs, rfl, tp, lp⟩ := id r
    cases h
    rcases tp with ⟨o, tp⟩ | ⟨its, n, a, _⟩
    · exact ⟨_, .base (.frz tp), kit_T _ t (kit_all "list" t (by simp))⟩
    · exact ⟨_, .kList a rfl, kit_T _ t (kit_all "list" t (by simp))⟩
  | ref a =>
    cases r
    unfold isiT at h
    simp only at h
    split at h
    · rename_i xs ea
      cases h
      obtain ⟨vs, q, l⟩ := rh _ _ ea
      exact ⟨_, .base (.lst q), kit_T _ t (kit_all "list" t (by simp))⟩
    · rename_i kvs ea
      cases h
      obtain ⟨ws, q, l⟩ := rh _ _ ea
      exact ⟨_, .base (.dK q), kit_T _ t (kit_all "dict" t (by simp))⟩
    · cases h
  | _ => cases h
end
end Tq
/-! UD2: helpers for the walk: targets, iterators, methods. -/
namespace Tq
open PySem L2 PyProof.Rows
section
variable {P : Env} {c : CC} {sc : Scope} {d : Bool} {E : EQ} {X : Cx} {Hx : Hp}
theorem join_some {α : Type} {o : Option (Option α)} {a : α} (h : o.join = some a) : o = some (some a) := by
  cases o with
  | none => cases h
  | some b => cases b with
    | none => cases h
    | some x => cases h; rfl
theorem loc_of {x : Str} (g : Gd P c sc d E X Hx) (h : locB sc d x = true) : Loc X.env.scope x ∧ (X.fn x = true ∨ X.env.scope.names.lookup x = some .local) := by
  rw [g.scp]
  unfold locB at h
  split at h
  · rename_i e
    exact ⟨.inl e, .inr e⟩
  · rename_i e
    exact ⟨.inr e, .inl (g.fn h x)⟩
  · cases h
theorem RepL.two {K : PySem.W.Frag} {mg : Mg} {H : Hp} {a b : D} {v w : V} (r : Rep K mg H a v) (q : Rep K mg H b w) : RepL K mg H [a, b] [v, w] := ⟨v, [w], rfl, r, w, [], rfl, q, rfl⟩
/-- the targets as the kit reads them -/
def tgsG : List Nat → L2.TGs
  | [] => gNil
  | i :: is => gCons (gName i) (tgsG is)
def tgG (K : PySem.W.Frag) : Tg → L2.TG
  | .nm i => gName i
  | .tp is => fun v σ H Q => gTup K is.length (tgsG is) v σ H Q ∨ gUnl K is.length (tgsG is) v σ H Q
/-- the names of a target, one after another -/
theorem pgs_chk (g : Gd P c sc d E X Hx) : ∀ {is : List Nat} {es : List PySem.Expr}, chkTs c sc d is es = true →
    PGs X es (tgsG is) ∧ (assignEach es X.env).length = is.length ∧ (assignEach es X.env).findIdx? (·.1) = none
  | [], [], _ => ⟨pgs_nil, rfl, rfl⟩
  | i :: is, e :: es, h => by
    cases e with
    | Name x p =>
      have h2 : (decide (c.N[i]? = some x) && locB sc d x && chkTs c sc d is es) = true := h
      simp only [Bool.and_eq_true, decide_eq_true_eq] at h2
      obtain ⟨⟨h1, h3⟩, h4⟩ := h2
      obtain ⟨ht, e1, e2⟩ := pgs_chk g h4
      obtain ⟨l1, l2⟩ := loc_of g h3
      have nd : X.N.Nodup := by rw [g.nN]; exact g.nd
      have hi : X.N[i]? = some x := by rw [g.nN]; exact h1
      refine ⟨pgs_cons (pg_name nd hi l1 l2) ht, ?_, ?_⟩
      · show (assignEach es X.env).length + 1 = _
        rw [e1]; rfl
      · show List.findIdx? _ ((false, _) :: assignEach es X.env) = none
        rw [List.findIdx?_cons, e2]
        rfl
    | _ => exact Bool.noConfusion (show false = true from h)
  | [], _ :: _, h => Bool.noConfusion (show false = true from h)
  | _ :: _, [], h => Bool.noConfusion (show false = true from h)
theorem wipe_put {σ : L2.St} {i : Nat} {v : V} : ∀ {ws : List Nat}, i ∈ ws → L2.wipe (σ.set i (some v)) ws = L2.wipe σ ws
  | [], h => by cases h
  | w :: ws, h => by
    unfold L2.wipe
    by_cases e : i ∈ ws
    · rw [wipe_put e]
    · have ew : i = w := by
        rcases List.mem_cons.mp h with z | z
        · exact z
        · exact absurd z e
      subst ew
      have : ∀ us : List Nat, i ∉ us → L2.wipe (σ.set i (some v)) us = (L2.wipe σ us).set i (some v) := by
        intro us
        induction us with
        | nil => intro _; rfl
        | cons u us ih =>
          intro hu
          unfold L2.wipe
          rw [ih fun z => hu (List.mem_cons_of_mem _ z)]
          rw [List.set_comm _ _ (fun z => hu (by rw [z]; exact List.mem_cons_self))]
      rw [this ws e, List.set_set]
theorem tgs_law {K : PySem.W.Frag} {mg : Mg} {Hx : Hp} : ∀ {is : List Nat} (vs : List V) (ds : List D) (sd : Sl) (σ : L2.St) (H : Hp) (Q : L2.St → Hp → Prop), RepL K mg H ds vs → ds.length = is.length → RepT K mg Hx H sd σ →
        (∀ σ', RepT K mg Hx H ((is.zip ds).foldl (fun s p => s.set p.1 (some p.2)) sd) σ' → (∀ ws, (∀ i ∈ is, i ∈ ws) → L2.wipe σ' ws = L2.wipe σ ws) → Q σ' H) → tgsG is vs σ H Q
  | [], vs, ds, sd, σ, H, Q, r, hl, rs, k => by
      cases ds with
      | nil => cases r; exact ⟨rfl, k σ rs fun _ _ => rfl⟩
      | cons _ _ => cases hl
  | i :: is, vs, ds, sd, σ, H, Q, r, hl, rs, k => by
        cases ds with
        | nil => cases hl
        | cons a ds =>
          obtain ⟨v, w, rfl, ra, rr⟩ := r
          refine ⟨v, w, rfl, ?_⟩
          refine tgs_law w ds _ _ H Q rr (by simpa using hl) (rs.set i ra) fun σ' rs' hw => k σ' rs' fun ws hm => ?_
          rw [hw ws fun j hj => hm j (List.mem_cons_of_mem _ hj)]
          have hiw : i ∈ ws := hm i List.mem_cons_self
          exact wipe_put hiw
theorem pg_chk (g : Gd P c sc d E X Hx) {tg : Tg} {e : PySem.Expr} (h : chkTg c sc d tg e = true) : PG X e (tgG X.K tg) := by
  cases tg with
  | nm i =>
    cases e with
    | Name x p =>
      have h2 : (decide (c.N[i]? = some x) && locB sc d x) = true := h
      simp only [Bool.and_eq_true, decide_eq_true_eq] at h2
      obtain ⟨l1, l2⟩ := loc_of g h2.2
      exact pg_name (by rw [g.nN]; exact g.nd) (by rw [g.nN]; exact h2.1) l1 l2
    | _ => exact Bool.noConfusion (show false = true from h)
  | tp is =>
    cases e with
    | Tuple es k p =>
      have h2 : chkTs c sc d is es = true := h
      obtain ⟨ht, e1, e2⟩ := pgs_chk g h2
      constructor
      intro pins s σ H v u Q I r hw
      rcases hw with hw | hw
      · exact (pg_tup (n := is.length) g.calm ht e1 e2).run pins s σ H v u Q I r hw
      · exact (pg_unl (n := is.length) g.calm ht e1 e2).run pins s σ H v u Q I r hw
    | _ => exact Bool.noConfusion (show false = true from h)
theorem tg_law {K : PySem.W.Frag} {mg : Mg} {Hx : Hp} {tg : Tg} (v : V) (x : D) (sd : Sl) (σ : L2.St) (H : Hp) (Kt : Sl → Prop) (Q : L2.St → Hp → Prop) (r : Rep K mg H x v) (rs : RepT K mg Hx H sd σ) (hb : bindT tg x sd Kt)
    (k : ∀ sd' σ', Kt sd' → RepT K mg Hx H sd' σ' → (∀ ws, (∀ i ∈ tgIx tg, i ∈ ws) → L2.wipe σ' ws = L2.wipe σ ws) → Q σ' H) : tgG K tg v σ H Q := by
  cases tg with
  | nm i => exact k _ _ hb (rs.set i r) fun ws hm => wipe_put (hm i (List.mem_singleton.mpr rfl))
  | tp is =>
    cases x with
    | tup xs =>
      obtain ⟨a, vs, rfl, tp, l⟩ := r
      obtain ⟨hl, hb⟩ := hb
      exact .inl ⟨a, vs, rfl, tp.sq, by rw [l.length]; exact hl, tgs_law vs xs sd σ H Q l hl rs fun σ' rs' hw => k _ σ' hb rs' hw⟩
    | rol xs =>
      obtain ⟨a, vs, rfl, tp, l⟩ := r
      obtain ⟨hl, hb⟩ := hb
      exact .inr ⟨a, vs, rfl, tp.sq, by rw [l.length]; exact hl, tgs_law vs xs sd σ H Q l hl rs fun σ' rs' hw => k _ σ' hb rs' hw⟩
    | _ => exact hb.elim
/-! ### iterators -/
def iSeq (K : PySem.W.Frag) (te : L2.TE) : L2.TI := fun σ H R => te σ H fun x H1 => (∃ y, x = .str y ∧ R (Its y) H1) ∨ ∃ a xs, x = .ref a ∧ ((SqL K H1 a xs ∧ R (Itl K a) H1) ∨ (SqT K H1 a xs ∧ R (Itt K a) H1))
theorem pi_seq {tg l : PySem.Expr} {te : L2.TE} (hl : PE X l te) : PI X tg l (iSeq X.K te) := by
  constructor
  intro pn st sl hp R0 inv h0
  refine thn (hl.run pn st sl hp _ inv h0) fun val st1 ⟨y, hp1, inv1, ry, h1⟩ => ?_
  have fresh : ∀ b ∈ [st1.heap.objs.size], FpOk X pn hp1 b := fun b hb => by
    rw [List.mem_singleton.mp hb]
    exact inv1.fpOk (Nat.le_refl _) (inv1.hok.fresh (Nat.le_refl _))
  rcases h1 with ⟨z, ez, h1⟩ | h1
  · have one : PE X l (fun σ H Q => σ = sl ∧ H = hp ∧ Q (.str z) hp1) → True := fun _ => trivial
    subst ez
    obtain ⟨t, rfl⟩ := ry
    cases wide : z.cps.all (· < 128) with
    | false => exact wpAny_pyIter_wide wide (pi_one (tk := st1.toks) inv1 _ (turn_str _ z t "str_iterator" (.inr rfl)) ⟨_, Heap.get?_push_size _ rfl, rfl, rfl⟩ h1)
    | true => exact wpAny_pyIter_ascii wide (pi_one (tk := st1.toks) inv1 _ (turn_str _ z t "str_ascii_iterator" (.inl rfl)) ⟨_, Heap.get?_push_size _ rfl, rfl, rfl⟩ h1)
  · obtain ⟨a, ys, rfl, h1⟩ := h1
    cases ry
    rcases h1 with ⟨hs, hr⟩ | ⟨hs, hr⟩
    · obtain ⟨its, _, pl, _⟩ := inv1.list hs
      exact wpAny_pyIter_list pl.isList ⟨_, _, _, _, hp1, rfl, inv1.kept (t' := st1.toks) fun b o q => Heap.get?_push_of_some _ q, turn_list a _, ⟨_, Heap.get?_push_size _ rfl, rfl, rfl⟩, fresh, hr⟩
    · obtain ⟨its, _, pl, _⟩ := inv1.tuple hs
      exact wpAny_pyIter_tuple (show st1.heap.IsTuple a its.toArray from pl) ⟨_, _, _, _, hp1, rfl, inv1.kept (t' := st1.toks) fun b o q => Heap.get?_push_of_some _ q, turn_tuple a _, ⟨_, Heap.get?_push_size _ rfl, rfl, rfl⟩, fresh, hr⟩
theorem walk_lst {K : PySem.W.Frag} {mg : Mg} {a : Addr} {ds : List D} : WalkD K mg (Itl K a) ds (fun H => ∃ vs, SqL K H a vs ∧ RepL K mg H ds vs) := by
  refine ⟨fun i H hi ⟨vs, q, l⟩ => ?_, fun H ⟨vs, q, l⟩ => ⟨vs, q, Nat.le_of_eq l.length⟩, fun i H x H' hi ⟨vs, q, l⟩ y => ?_⟩
  · have hv : i < vs.length := by rw [l.length]; exact hi
    exact ⟨vs, vs[i], q, List.getElem?_eq_getElem hv⟩
  · obtain ⟨rfl, y⟩ := y
    obtain ⟨d, e, r⟩ := l.back (y vs q)
    exact ⟨Keep.refl _, fun _ z => z, d, e, r⟩
theorem walk_tp {K : PySem.W.Frag} {mg : Mg} {a : Addr} {ds : List D} : WalkD K mg (Itt K a) ds (fun H => ∃ vs, SqT K H a vs ∧ RepL K mg H ds vs) := by
  refine ⟨fun i H hi ⟨vs, q, l⟩ => ?_, fun H ⟨vs, q, l⟩ => ⟨vs, q, Nat.le_of_eq l.length⟩, fun i H x H' hi ⟨vs, q, l⟩ y => ?_⟩
  · have hv : i < vs.length := by rw [l.length]; exact hi
    exact ⟨vs, vs[i], q, List.getElem?_eq_getElem hv⟩
  · obtain ⟨rfl, y⟩ := y
    obtain ⟨d, e, r⟩ := l.back (y vs q)
    exact ⟨Keep.refl _, fun _ z => z, d, e, r⟩
theorem rngL_get (lo : Int) (n i : Nat) (h : i < n) : (rngL lo n)[i]? = some (D.int (lo + (i : Nat))) := by
  unfold rngL
  rw [List.getElem?_map, List.getElem?_range h]
  rfl
theorem rngL_len (lo : Int) (n : Nat) : (rngL lo n).length = n := by simp [rngL]
theorem walk_rg {K : PySem.W.Frag} {mg : Mg} {lo : Int} {n : Nat} : WalkD K mg (Itr lo n) (rngL lo n) (fun _ => True) := by
  refine ⟨fun i H hi _ => ?_, fun H _ => ?_, fun i H x H' hi _ y => ?_⟩
  · rw [rngL_len] at hi; exact hi
  · rw [rngL_len]; exact Nat.le_refl _
  · rw [rngL_len] at hi
    obtain ⟨rfl, rfl⟩ := y
    exact ⟨Keep.refl _, fun _ z => z, _, rngL_get lo n i hi, rfl⟩
theorem walk_tx {K : PySem.W.Frag} {mg : Mg} {cs : List Nat} : WalkD K mg (Its ⟨cs.toArray⟩) (cs.map fun c => D.str [c]) (fun _ => True) := by
  refine ⟨fun i H hi _ => ?_, fun H _ => ?_, fun i H x H' hi _ y => ?_⟩
  · have : i < cs.toArray.size := by simpa using hi
    exact this
  · have : cs.toArray.size ≤ (cs.map fun c => D.str [c]).length := by simp
    exact this
  · obtain ⟨rfl, ch, e, rfl⟩ := y
    refine ⟨Keep.refl _, fun _ z => z, .str [ch], ?_, rfl⟩
    have e2 : cs[i]? = some ch := by simpa using e
    rw [List.getElem?_map, e2]
    rfl
end
end Tq
/-! UD3: expressions. -/
namespace Tq
open PySem L2 PyProof.Rows
section
variable {P : Env} {c : CC} {sc : Scope} {d : Bool} {E : EQ} {X : Cx} {Hx : Hp}
/-! ### pieces -/
theorem LQ.go {K : PySem.W.Frag} {mg : Mg} {Qt : KQ} {H H1 : Hp} {Q : VK} (h : LQ K mg Qt H Q) (k : Keep H H1) : LQ K mg Qt H1 Q := fun d th v H' a b c e => h d th v H' a (k.trans b) c e
theorem PE.frz {e : PySem.Expr} {t : L2.TE} (h : PE X e t) : PE X e (fun σ H Q => t σ H (frzQ Q)) := ⟨fun p s σ H Q I q => to_frz (h.run p s σ H _ I q)⟩
theorem bin_E {t1 t2 : Sl → TH → KQ → Prop} {o : D → D → TH → KQ → Prop} {f : Value → Value → Sem Value} {e : PySem.Expr} (ho : OpL X f o)
    (h : ∀ {r : L2.R2}, OpR X f r → PE X e (tOp r (lE X Hx t1) (lE X Hx t2))) : PE X e (lE X Hx fun sd th Q => t1 sd th fun x h1 => t2 sd h1 fun y h2 => o x y h2 Q) := by
  refine PE.imp (h ho) fun σ H Q ⟨sd, th, Qt, rs, rh, q, hq⟩ => ?_
  exact ⟨sd, th, _, rs, rh, q, fun a th1 v H1 q1 k1 r1 rh1 => ⟨sd, th1, _, rs.keep k1, rh1, q1, fun b th2 w H2 q2 k2 r2 rh2 =>
    ⟨a, b, th2, Qt, r1.keep k2, r2, rh2, q2, fun a' th' v' H' q3 k3 r3 rh3 => hq _ _ _ _ q3 (k1.trans (k2.trans k3)) r3 rh3⟩⟩⟩
theorem slot_E (g : Gd P c sc d E X Hx) {i : Nat} {x : Str} {p : Pos} (h1 : c.N[i]? = some x) (h2 : visB sc x = true) (h3 : okName x = true) : PE X (.Name x p) (lE X Hx fun sd th Q => wE P (.slot i) sd th Q E) := by
  obtain ⟨n1, n2, _⟩ := nm_of h3
  refine PE.imp (pe_var (i := i) (by rw [g.nN]; exact h1) (by rw [g.scp]; exact vis_of h2) n1 n2) fun σ H Q ⟨sd, th, Qt, rs, rh, q, hq⟩ => ?_
  obtain ⟨a, ea, q⟩ := need_iff.mp q
  obtain ⟨v, ev, r⟩ := rs.rs.2 i a (join_some ea)
  exact ⟨v, ev, hq.at q r rh⟩
theorem const_E {e : PySem.Expr} {a : D} {v : V} (h : PE X e (L2.tC v)) (r : ∀ H, Rep X.K X.mg H a v) : PE X e (lE X Hx fun _ th Q => Q a th) :=
  PE.imp h fun σ H Q ⟨sd, th, Qt, rs, rh, q, hq⟩ => hq.at q (r H) rh
theorem call_E (g : Gd P c sc d E X Hx) {f : Str} {es : ExL} {xs : List PySem.Expr} {p pos : Pos} (ha : PA X xs (lA X Hx fun sd th Q => wL P es sd th Q E)) (hk : chkL c es sc xs = true) (hg : glbB sc f = true) (ho : okName f = true) (hf : c.fns.lookup f = some xs.length) :
    PE X (.Call (.Name f p) xs [] pos) (lE X Hx fun sd th Q => wE P (.call f es) sd th Q E) := by
  obtain ⟨a, fd, ps, k, hm, kp, hb, hl, hr, F⟩ := (g.call f xs.length hf).ex
  obtain ⟨n1, _, _⟩ := nm_of ho
  have gl := glb_of g hg
  have fin : ∀ (σ : L2.St) (H : Hp) (Q : VK), lE X Hx (fun sd th Q => wE P (.call f es) sd th Q E) σ H Q → tCallS (lsp X.K X.mg (P.fn f)) (WE (wx X Hx E)) (lA X Hx fun sd th Q => wL P es sd th Q E) σ H Q := by
    intro σ H Q ⟨sd, th, Qt, rs, rh, q, hq⟩
    refine ⟨sd, th, _, rs, rh, q, fun ds th1 vs H1 q1 k1 r1 rh1 => ⟨ds, th1, _, _, r1, rh1, q1, fun a' th' v' H' q3 k3 r3 rh3 => hq _ _ _ _ q3 (k1.trans k3) r3 rh3, fun x th' cls dd H' q3 k3 rx rh3 => ?_⟩⟩
    exact ⟨x, sd, th', rx, rs.keep (k1.trans k3), rh3, q3⟩
  cases xs with
  | nil =>
    refine PE.imp ?_ fin
    constructor
    intro pins s σ H Q I hq
    refine wpAny_Call_Name_kw (ld_glob I gl hm ?_ n1)
    refine PySem.W.callWith_K0 I.kIn kp ?_
    obtain ⟨sd, th, Qt, rs, rh, q, hq⟩ := hq
    have hes : es = .nil := by
      cases es with
      | nil => rfl
      | cons _ _ => exact Bool.noConfusion (show false = true from hk)
    subst hes
    have := hq [] th [] H q (Keep.refl H) rfl rh
    exact run_fnS (us := []) (vs := []) F hr hb (passAt g.tk σ) I .nil this
  | cons x xs =>
    cases es with
    | nil => exact Bool.noConfusion (show false = true from hk)
    | cons a0 r0 =>
      have h2 : (chk c a0 sc x && chkL c r0 sc xs) = true := hk
      rw [Bool.and_eq_true] at h2
      exact PE.imp (pe_callS F hr gl hm kp hb (passAt g.tk) ha n1 (star_chk h2.1 xs X.env) (any_chk pos X.env h2.2)) fin
theorem blt_E (g : Gd P c sc d E X Hx) {f : Bf} {es : ExL} {xs : List PySem.Expr} {x : Str} {p pos : Pos} (ha : PA X xs (lA X Hx fun sd th Q => wL P es sd th Q E)) (hk : chkL c es sc xs = true) (hx : bfName f = x) (hf : bfOk f = true) (hb : bltB c sc x = true) (hne : xs.isEmpty = false) :
    PE X (.Call (.Name x p) xs [] pos) (lE X Hx fun sd th Q => wE P (.blt f es) sd th Q E) := by
  subst hx
  obtain ⟨gl, hm, n1, n2⟩ := blt_of g hb
  have fin : ∀ {fv : Value}, CaL X fv (bltQ f) → ∀ (σ : L2.St) (H : Hp) (Q : VK), lE X Hx (fun sd th Q => wE P (.blt f es) sd th Q E) σ H Q → tCB (fun xs H Q => ∃ ds th Qt, RepL X.K X.mg H ds xs ∧ RepH X.K X.mg H th ∧ bltQ f ds th Qt ∧ LQ X.K X.mg Qt H Q) (lA X Hx fun sd th Q => wL P es sd th Q E) σ H Q := by
    intro fv _ σ H Q ⟨sd, th, Qt, rs, rh, q, hq⟩
    exact ⟨sd, th, _, rs, rh, q, fun ds th1 vs H1 q1 k1 r1 rh1 => ⟨ds, th1, Qt, r1, rh1, q1, fun a' th' v' H' q3 k3 r3 rh3 => hq _ _ _ _ q3 (k1.trans k3) r3 rh3⟩⟩
  cases xs with
  | nil => cases hne
  | cons y ys =>
    cases es with
    | nil => exact Bool.noConfusion (show false = true from hk)
    | cons a0 r0 =>
      have h2 : (chk c a0 sc y && chkL c r0 sc ys) = true := hk
      rw [Bool.and_eq_true] at h2
      have s1 := star_chk h2.1 ys X.env
      have s2 := any_chk pos X.env h2.2
      cases f with
      | len => exact PE.imp (pe_callB len_L gl hm (by decide +kernel) ha n1 n2 s1 s2) (fin len_L)
      | max => exact PE.imp (pe_callB (max_L g.calm) gl hm (by decide +kernel) ha n1 n2 s1 s2) (fin (max_L g.calm))
      | min => exact PE.imp (pe_callB (min_L g.calm) gl hm (by decide +kernel) ha n1 n2 s1 s2) (fin (min_L g.calm))
      | int => exact PE.imp (pe_callTy (int_L g.st) gl hm (by decide +kernel) ha n1 n2 s1 s2) (fin (int_L g.st))
      | tuple => exact PE.imp (pe_callTy tuple_L gl hm (by decide +kernel) ha n1 n2 s1 s2) (fin tuple_L)
      | list => exact PE.imp (pe_callTy list_L gl hm (by decide +kernel) ha n1 n2 s1 s2) (fin list_L)
      | sorted => exact PE.imp (pe_callB (sorted_L g.calm) gl hm (by decide +kernel) ha n1 n2 s1 s2) (fin (sorted_L g.calm))
      | all => exact PE.imp (pe_callB (all_L g.calm) gl hm (by decide +kernel) ha n1 n2 s1 s2) (fin (all_L g.calm))
      | any => exact PE.imp (pe_callB (any_L g.calm) gl hm (by decide +kernel) ha n1 n2 s1 s2) (fin (any_L g.calm))
      | str => exact PE.imp (pe_callTy str_L gl hm (by decide +kernel) ha n1 n2 s1 s2) (fin str_L)
      | sum => exact PE.imp (pe_callB (sum_L g.calm) gl hm (by decide +kernel) ha n1 n2 s1 s2) (fin (sum_L g.calm))
      | _ => cases hf
theorem mkl_E (g : Gd P c sc d E X Hx) {a : Ex} {e : PySem.Expr} {p pos : Pos} (ha : PE X e (lE X Hx fun sd th Q => wE P a sd th Q E)) (hk : chk c a sc e = true) (hb : bltB c sc "list" = true) :
    PE X (.Call (.Name "list" p) [e] [] pos) (lE X Hx fun sd th Q => wE P (.mkl a) sd th Q E) := by
  obtain ⟨gl, hm, n1, n2⟩ := blt_of g hb
  refine PE.imp (pe_callTy mkl_L gl hm (by decide +kernel) (pa_cons ha pa_nil (star_chk hk _ _)) n1 n2 (star_chk hk _ _) rfl) fun σ H Q ⟨sd, th, Qt, rs, rh, q, hq⟩ => ?_
  refine ⟨sd, th, _, rs, rh, q, fun a th1 v H1 q1 k1 r1 rh1 => ?_⟩
  exact ⟨[a], th1, Qt, ⟨v, [], rfl, r1, rfl⟩, rh1, q1, hq.go k1⟩
theorem uniq_met : ∀ (l acc : List (List Nat)), (l.map SX.S).foldl SeS.one (acc.map SX.S) = (l.foldl (fun a x => if x ∈ a then a else a ++ [x]) acc).map SX.S
  | [], acc => rfl
  | x :: r, acc => by
    have e : SeS.one (acc.map SX.S) (SX.S x) = (if x ∈ acc then acc else acc ++ [x]).map SX.S := by
      unfold SeS.one
      have q : ((acc.map SX.S).any fun y => y == SX.S x) = decide (x ∈ acc) := by
        rw [Bool.eq_iff_iff, List.any_eq_true, decide_eq_true_eq]
        constructor
        · rintro ⟨y, hy, e⟩
          obtain ⟨z, hz, rfl⟩ := List.mem_map.mp hy
          have e2 : SX.S z = SX.S x := eq_of_beq e
          have e3 : z = x := arr_inj.mp e2
          rw [← e3]; exact hz
        · intro h
          exact ⟨SX.S x, List.mem_map.mpr ⟨x, h, rfl⟩, beq_self_eq_true _⟩
      rw [q]
      by_cases h : x ∈ acc
      · rw [if_pos (decide_eq_true h), if_pos h]
      · rw [if_neg (by simpa using h), if_neg h, List.map_append]; rfl
    rw [List.map_cons, List.foldl_cons, List.foldl_cons, e, uniq_met r _]
theorem strs_are : ∀ {ys : List Str} {us : List Value}, Vals (ys.map V.str) us → PyProof.Rows.StrsAre us ys
  | [], _, .nil => .nil
  | y :: ys, _, .cons r t => by
    obtain ⟨k, rfl⟩ := r
    exact .cons y k (strs_are t)
theorem lset_E (g : Gd P c sc d E X Hx) {a : Ex} {e : PySem.Expr} {p p2 q2 pos : Pos} (ha : PE X e (lE X Hx fun sd th Q => wE P a sd th Q E)) (hk : chk c a sc e = true) (hb : bltB c sc "len" = true) (hb2 : bltB c sc "set" = true) :
    PE X (.Call (.Name "len" p) [.Call (.Name "set" p2) [e] [] q2] [] pos) (lE X Hx fun sd th Q => wE P (.lset a) sd th Q E) := by
  obtain ⟨gl, hm, _, _⟩ := blt_of g hb
  obtain ⟨gl2, hm2, _, _⟩ := blt_of g hb2
  constructor
  rintro pn sh sl hp R0 inv ⟨sd, th, Qt, rs, rh, q, hq⟩
  refine Call_ (ld_blt inv gl hm boot_len ?_)
  refine PyProof.Rows.callWith_builtin1 (PyProof.Rows.args_cons ?_ rfl) rfl rfl
  refine Call_ (ld_blt inv gl2 hm2 boot_set ?_)
  refine PyProof.Rows.callWith_type1 (PyProof.Rows.args_cons (thn (ha.run pn sh sl hp (fun v H1 => ∃ x th1, Keep hp H1 ∧ Rep X.K X.mg H1 x v ∧ RepH X.K X.mg H1 th1 ∧ need (seqAt th1 x) fun xs => need (allStr xs) fun ys => ys.length ≤ 1000 ∧ Qt (.int ((uniq ys).length : Nat)) th1) inv ⟨sd, th, _, rs, rh, q, fun x th1 v H1 q1 k1 r1 rh1 => ⟨x, th1, k1, r1, rh1, q1⟩⟩) fun u s1 ⟨v, H1, I1, ru, x, th1, k1, r1, rh1, q1⟩ => PyProof.Rows.args_nil ?_) (star_chk hk [] X.env)) (star_chk hk [] X.env) rfl
  obtain ⟨xs, ex, q1⟩ := need_iff.mp q1
  obtain ⟨ys, ey, hz, q1⟩ := need_iff.mp q1
  obtain ⟨b, vs, rfl, l, hs⟩ := seq_rep rh1 r1 ex
  have ev := st_rep l ey
  subst ev
  cases ru
  have hy : (ys.map SX.S).length = ys.length := List.length_map _
  have bd : scanBound = 4096 := rfl
  have cnt : (SeS.met (ys.map SX.S) (ys.map SX.S).length).length = (uniq ys).length := by
    have e := uniq_met ys []
    unfold SeS.met uniq
    rw [List.take_length]
    have e2 : (ys.map SX.S).foldl SeS.one [] = (ys.foldl (fun a x => if x ∈ a then a else a ++ [x]) []).map SX.S := e
    rw [e2, List.length_map]
  have ub : (uniq ys).length ≤ 1000 := by
    rw [← cnt]
    have := SeS.met_len (ys.map SX.S) (ys.map SX.S).length
    omega
  have fin : ∀ (h' : Heap) (tk : Nat), h'.SetOf (PySem.strKind X.prog X.w) s1.heap.objs.size (fun y => (SeS.met (ys.map SX.S) (ys.map SX.S).length).any fun z => z == y) (SeS.met (ys.map SX.S) (ys.map SX.S).length).length →
      (∀ a o, a < s1.heap.objs.size → s1.heap.get? a = some o → h'.get? a = some o) →
      wpAny (model X.prog X.w) X.A (spliced (backTo pos (starEach [] X.env))) (fun vs s₂ => wpAny (model X.prog X.w) X.A (call (.builtin "len") (Value.ref s1.heap.objs.size :: vs)) (EP X pn sl R0) X.xe s₂) X.xe { s1 with heap := h', toks := tk } := by
    intro h' tk S keeps
    refine PyProof.Rows.args_nil ?_
    rw [cnt] at S
    obtain ⟨ob, es, ep, tb, at0, ex0, dt, _, _, _, fit, nn⟩ := S
    have I2 : Inv X pn sl H1 { s1 with heap := h', toks := tk } := I1.kept fun b o e => keeps b o (Heap.lt_size e) e
    refine call_len_set at0 ex0 dt fit (by rw [nn]; omega) ⟨.int (uniq ys).length, H1, I2.tok _, ⟨_, by rw [nn]⟩, ?_⟩
    exact hq _ _ _ _ q1 k1 rfl rh1
  rcases hs with ⟨hs, _⟩ | ⟨hs, _⟩
  · obtain ⟨its, r, pl, _⟩ := I1.list hs
    exact SeS.made_list (I1.ok.hd g.calm) pl.isList (by simpa using strs_are r) (by omega) fin
  · obtain ⟨its, r, pl, _⟩ := I1.tuple hs.sq
    exact SeS.made_tuple (I1.ok.hd g.calm) pl (by simpa using strs_are r) (by omega) fin
theorem isi_E (g : Gd P c sc d E X Hx) {a : Ex} {t : Ty} {e : PySem.Expr} {p p2 pos : Pos} (ha : PE X e (lE X Hx fun sd th Q => wE P a sd th Q E)) (hk : chk c a sc e = true) (hb : bltB c sc "isinstance" = true) (hb2 : bltB c sc (tyStr t) = true) :
    PE X (.Call (.Name "isinstance" p) [e, .Name (tyStr t) p2] [] pos) (lE X Hx fun sd th Q => wE P (.isi a t) sd th Q E) := by
  obtain ⟨gl, hm, n1, n2⟩ := blt_of g hb
  obtain ⟨gl2, hm2, m1, m2⟩ := blt_of g hb2
  have hty : PE X (.Name (tyStr t) p2) (L2.tC (.ty (tyName t))) := pe_bltn gl2 hm2 (u := .type (tyName t)) (by cases t <;> decide +kernel) rfl m1 m2
  have h1 := pa_cons ha (pa_cons hty pa_nil) (star_chk hk _ _)
  refine PE.imp (pe_callB call_isi gl hm (by decide +kernel) h1 n1 n2 (star_chk hk _ _) rfl) fun σ H Q ⟨sd, th, Qt, rs, rh, q, hq⟩ => ?_
  refine ⟨sd, th, _, rs, rh, q, fun a th1 v H1 q1 k1 r1 rh1 => ?_⟩
  obtain ⟨b, eb, q1⟩ := need_iff.mp q1
  obtain ⟨T, ty, kt⟩ := isi_rep rh1 r1 eb
  exact ⟨v, _, T, _, b, rfl, .ty _, ty, kt, hq _ _ _ _ q1 k1 rfl rh1⟩

theorem splC_eq (ch : Nat) : ∀ (l acc : List Nat), TL.spl [ch] 0 acc l = splC ch acc l
  | [], acc => rfl
  | x :: r, acc => by
    by_cases e : x = ch
    · subst e
      rw [TL.spl_hit (by simp [TL.pre])]
      show acc :: TL.spl [x] 0 [] r = _
      rw [splC_eq x r []]
      show _ = (if x = x then acc :: splC x [] r else splC x (acc ++ [x]) r)
      rw [if_pos rfl]
    · rw [TL.spl_miss (by simp [TL.pre, e]), splC_eq ch r _]
      show _ = (if x = ch then acc :: splC ch [] r else splC ch (acc ++ [x]) r)
      rw [if_neg e]
theorem glu_eq (sep : List Nat) : ∀ l : List (List Nat), TL.joinL sep l = gluT sep l
  | [] => rfl
  | [_] => rfl
  | x :: y :: r => by
    show x ++ (sep ++ TL.joinL sep (y :: r)) = x ++ (sep ++ gluT sep (y :: r))
    rw [glu_eq sep (y :: r)]
theorem up_eq (cs : List Nat) : cs.map PyProof.Rows.up1 = cs.map upC := by
  refine List.map_congr_left fun x _ => ?_
  first
    | rfl
    | (unfold PyProof.Rows.up1 upC; rfl)
    | (unfold PyProof.Rows.up1 upC; simp)
theorem sum_len : ∀ ys : List (List Nat), ((ys.map SX.S).map (·.length)).sum = (ys.map List.length).sum
  | [] => rfl
  | y :: r => by
    have ih := sum_len r
    simp only [List.map_cons, List.sum_cons] at ih ⊢
    rw [ih, SX.S_len]
theorem no_arg {es : ExL} (h : chkL c es sc [] = true) : es = .nil := by
  cases es with
  | nil => rfl
  | cons _ _ => exact Bool.noConfusion (show false = true from h)
theorem one_arg {es : ExL} {y : PySem.Expr} (h : chkL c es sc [y] = true) : ∃ x, es = .cons x .nil ∧ chk c x sc y = true := by
  cases es with
  | nil => exact Bool.noConfusion (show false = true from h)
  | cons x r =>
    have h2 : (chk c x sc y && chkL c r sc []) = true := h
    rw [Bool.and_eq_true] at h2
    exact ⟨x, by rw [no_arg h2.2], h2.1⟩
theorem two_arg {es : ExL} {y y2 : PySem.Expr} (h : chkL c es sc [y, y2] = true) : ∃ x x2, es = .cons x (.cons x2 .nil) ∧ chk c x sc y = true ∧ chk c x2 sc y2 = true := by
  cases es with
  | nil => exact Bool.noConfusion (show false = true from h)
  | cons x r =>
    have h2 : (chk c x sc y && chkL c r sc [y2]) = true := h
    rw [Bool.and_eq_true] at h2
    obtain ⟨x2, e, k⟩ := one_arg h2.2
    exact ⟨x, x2, by rw [e], h2.1, k⟩
theorem bm_E (g : Gd P c sc d E X Hx) {b : Bm} {o : Ex} {es : ExL} {e : PySem.Expr} {xs : List PySem.Expr} {ap pos : Pos} (ho : PE X e (lE X Hx fun sd th Q => wE P o sd th Q E))
    (h1 : ∀ x r, es = .cons x r → ∀ y ys, xs = y :: ys → PE X y (lE X Hx fun sd th Q => wE P x sd th Q E))
    (h2 : ∀ x x2 r, es = .cons x (.cons x2 r) → ∀ y y2 ys, xs = y :: y2 :: ys → PE X y2 (lE X Hx fun sd th Q => wE P x2 sd th Q E))
    (ha : PA X xs (lA X Hx fun sd th Q => wL P es sd th Q E)) (hk : chkL c es sc xs = true) (hl : (ap.endLine == pos.line) = true) (hs : noSup e = true) (hf : fewB xs = true) (har : bmAr b xs.length = true) :
    PE X (.Call (.Attribute e (bmName b) ap) xs [] pos) (lE X Hx fun sd th Q => wE P (.bm b o es) sd th Q E) := by
  have base := base_sup hs (bmName b) X.env (eval e X.env)
  have few := few_star pos xs X.env (starL_chk X.env hk) (of_decide_eq_true hf)
  have u1 : X.A.units + 1 < cLine := by have := g.un; omega
  -- the argument lists by their lengths
  have len0 : ∀ {xs : List PySem.Expr}, xs.length = 0 → xs = [] := fun h => List.length_eq_zero_iff.mp h
  cases b with
  | append =>
    match xs, har, hk with
    | [y], _, hk =>
      obtain ⟨x, rfl, hk2⟩ := one_arg hk
      refine PE.imp (pe_bm PySem.F.plainAttrs_list PySem.F.slot_list_append PySem.F.type_list_append mt_append ho ha base few hl (star_chk hk2 [] X.env) rfl) fun σ H Q ⟨sd, th, Qt, rs, rh, q, hq⟩ => ?_
      refine ⟨sd, th, _, rs, rh, q, fun a th1 v H1 ⟨p1, q1⟩ k1 r1 rh1 => ?_⟩
      cases a with
      | ref a =>
        cases r1
        have p2 : isLst th1 a := p1
        unfold isLst at p2
        split at p2
        · rename_i l0 el
          obtain ⟨vs0, ev0, _⟩ := rh1 _ _ el
          refine ⟨.inl ⟨rfl, vs0, SqL.of ev0⟩, sd, th1, _, rs.keep k1, rh1, q1, fun ds th2 vs H2 q2 k2 r2 rh2 => ?_⟩
          match ds, r2, q2 with
          | [], _, q2 => exact q2.elim
          | _ :: _ :: _, _, q2 => exact q2.elim
          | [dd], ⟨w, w', ew, rw', ew'⟩, q2 =>
            cases ew'
            subst ew
            have r3 : RepL X.K X.mg H2 [dd] [w] := ⟨w, [], rfl, rw', rfl⟩
            unfold bmT at q2
            simp only at q2
            split at q2
            · rename_i zs ez
              obtain ⟨vs, evs, lv⟩ := rh2 _ _ ez
              have kp : Keep H2 (upd H2 a (.lst (vs ++ [w]))) := Keep.put evs (fun _ z => by cases z) (fun _ _ z => by cases z)
              refine ⟨a, vs, w, rfl, rfl, evs, by rw [lv.length]; exact q2.1, ?_⟩
              exact hq _ _ _ _ q2.2 (k1.trans (k2.trans kp)) rfl (rh2.put kp ⟨_, upd_same, (lv.append r3).keep kp⟩)
            · exact q2.elim
        · exact p2.elim
      | _ => exact p1.elim
  | upper =>
    match xs, har, hk with
    | [], _, hk =>
      obtain rfl := no_arg hk
      refine PE.imp (pe_m0 PySem.F.slot_str_upper PySem.F.type_str_upper mt_upper ho base hl) fun σ H Q ⟨sd, th, Qt, rs, rh, q, hq⟩ => ?_
      refine ⟨sd, th, _, rs, rh, q, fun a th1 v H1 ⟨p1, q1⟩ k1 r1 rh1 => ?_⟩
      cases a with
      | str cs =>
        cases r1
        obtain ⟨c1, c2, q1⟩ := q1
        refine ⟨⟨_, rfl⟩, _, rfl, rfl, by rw [str_len]; omega, ?_⟩
        rw [SX.upper_S c2, up_eq]
        exact hq _ _ _ _ q1 k1 rfl rh1
      | _ => exact p1.elim
  | split =>
    match xs, har, hk with
    | [y], _, hk =>
      obtain ⟨x, rfl, hk2⟩ := one_arg hk
      refine PE.imp (PE.frz (pe_m1 PySem.F.slot_str_split PySem.F.type_str_split mt_split ho (h1 x .nil rfl y [] rfl) (star_chk hk2 [] X.env) base hl)) fun σ H Q ⟨sd, th, Qt, rs, rh, q, hq⟩ => ?_
      refine ⟨sd, th, _, rs, rh, q, fun a th1 v H1 ⟨p1, q1⟩ k1 r1 rh1 => ?_⟩
      cases a with
      | str cs =>
        cases r1
        refine ⟨⟨_, rfl⟩, sd, th1, _, rs.keep k1, rh1, q1, fun dd th2 w H2 q2 k2 r2 rh2 => ?_⟩
        cases dd with
        | str ss =>
          cases r2
          match ss, q2 with
          | [], q2 => exact q2.elim
          | _ :: _ :: _, q2 => exact q2.elim
          | [ch], q2 =>
            obtain ⟨c1, c2, q2⟩ := q2
            have e24 : sizeLine = 16777216 := rfl
            have es := SX.split_S (a := cs) (b := [ch]) (by simp) (by simp; omega)
            refine ⟨_, _, rfl, rfl, by rw [str_len]; rfl, by rw [str_len]; omega, fun p hn => ?_⟩
            rw [es, splC_eq]
            exact frz_new (hq.go (k1.trans k2)) q2 hn (S_strs _) rh2
        | _ => exact q2.elim
      | _ => exact p1.elim
  | join =>
    match xs, har, hk with
    | [y], _, hk =>
      obtain ⟨x, rfl, hk2⟩ := one_arg hk
      refine PE.imp (pe_m1 PySem.F.slot_str_join PySem.F.type_str_join mt_join ho (h1 x .nil rfl y [] rfl) (star_chk hk2 [] X.env) base hl) fun σ H Q ⟨sd, th, Qt, rs, rh, q, hq⟩ => ?_
      refine ⟨sd, th, _, rs, rh, q, fun a th1 v H1 ⟨p1, q1⟩ k1 r1 rh1 => ?_⟩
      cases a with
      | str cs =>
        cases r1
        refine ⟨⟨_, rfl⟩, sd, th1, _, rs.keep k1, rh1, q1, fun dd th2 w H2 q2 k2 r2 rh2 => ?_⟩
        obtain ⟨ys, ey, q2⟩ := need_iff.mp q2
        obtain ⟨zs, ez, c1, q2⟩ := need_iff.mp q2
        obtain ⟨p, vs, rfl, l, hs2⟩ := seq_rep rh2 r2 ey
        have ev := st_rep l ez
        have sq : SqL X.K H2 p ((zs.map SX.S).map V.str) ∨ SqT X.K H2 p ((zs.map SX.S).map V.str) := by
          rw [← ev]
          rcases hs2 with ⟨z, _⟩ | ⟨z, _⟩
          · exact .inl z
          · exact .inr z.sq
        refine ⟨_, p, zs.map SX.S, rfl, rfl, sq, ?_, ?_⟩
        · rw [sum_len, List.length_map, str_len]
          exact c1
        · rw [show (⟨cs.toArray⟩ : Str) = SX.S cs from rfl, SX.join_S, glu_eq]
          exact hq _ _ _ _ q2 (k1.trans k2) rfl rh2
      | _ => exact p1.elim
  | dget =>
    match xs, har, hk with
    | [y], _, hk =>
      obtain ⟨x, rfl, hk2⟩ := one_arg hk
      have st := star_chk hk2 [] X.env
      refine PE.imp (pe_dget1 u1 ho (h1 x .nil rfl y [] rfl) ⟨base, few, hl, by rw [st]; rfl⟩) fun σ H Q ⟨sd, th, Qt, rs, rh, q, hq⟩ => ?_
      refine ⟨sd, th, _, rs, rh, q, fun a th1 v H1 ⟨p1, q1⟩ k1 r1 rh1 => ?_⟩
      cases a with
      | ref a =>
        cases r1
        have p2 : isDic th1 a := p1
        unfold isDic at p2
        split at p2
        · rename_i l0 el
          obtain ⟨vs0, ev0, _⟩ := rh1 _ _ el
          refine ⟨a, rfl, .inl ⟨vs0, .inl ev0⟩, sd, th1, _, rs.keep k1, rh1, q1, fun dd th2 w H2 q2 k2 r2 rh2 => ?_⟩
          have q2 : (match th2 a with
            | some (.dK kvs) => need (toKy dd) fun q => Qt ((look kvs q).getD .non) th2
            | _ => False) := q2
          split at q2
          · rename_i kvs ek
            obtain ⟨ws, ew, lw⟩ := rh2 _ _ ek
            obtain ⟨ky, eky, q2⟩ := need_iff.mp q2
            refine ⟨_, .inl ⟨ws, kyK ky, .inl ew, ky_rep r2 eky, rfl⟩, ?_⟩
            have le := look_eq ky lw
            cases e3 : look kvs ky with
            | none =>
              rw [e3] at le q2
              rw [show valV ws (kyK ky) = none from le]
              exact hq _ _ _ _ q2 (k1.trans k2) rfl rh2
            | some d3 =>
              rw [e3] at le q2
              obtain ⟨v3, ev3, r3⟩ := le
              rw [ev3]
              exact hq _ _ _ _ q2 (k1.trans k2) r3 rh2
          · exact q2.elim
        · exact p2.elim
      | _ => exact p1.elim
    | [y, y2], _, hk =>
      obtain ⟨x, x2, rfl, hk2, hk3⟩ := two_arg hk
      have st := star_chk hk2 [y2] X.env
      have st2 := star_chk hk3 [] X.env
      refine PE.imp (pe_dget2 u1 ho (h1 x _ rfl y _ rfl) (h2 x x2 _ rfl y y2 _ rfl) ⟨base, few, hl, by rw [st, st2]; rfl⟩) fun σ H Q ⟨sd, th, Qt, rs, rh, q, hq⟩ => ?_
      refine ⟨sd, th, _, rs, rh, q, fun a th1 v H1 ⟨p1, q1⟩ k1 r1 rh1 => ?_⟩
      cases a with
      | ref a =>
        cases r1
        have p2 : isDic th1 a := p1
        unfold isDic at p2
        split at p2
        · rename_i l0 el
          obtain ⟨vs0, ev0, _⟩ := rh1 _ _ el
          refine ⟨a, rfl, .inl ⟨vs0, .inl ev0⟩, sd, th1, _, rs.keep k1, rh1, q1, fun dd th2 w H2 q2 k2 r2 rh2 => ?_⟩
          refine ⟨sd, th2, _, rs.keep (k1.trans k2), rh2, q2, fun dd2 th3 w2 H3 q3 k3 r3 rh3 => ?_⟩
          have q3 : (match th3 a with
            | some (.dK kvs) => need (toKy dd) fun q => Qt ((look kvs q).getD dd2) th3
            | _ => False) := q3
          split at q3
          · rename_i kvs ek
            obtain ⟨ws, ew, lw⟩ := rh3 _ _ ek
            obtain ⟨ky, eky, q3⟩ := need_iff.mp q3
            refine ⟨_, .inl ⟨ws, kyK ky, .inl ew, ky_rep r2 eky, rfl⟩, ?_⟩
            have le := look_eq ky lw
            cases e3 : look kvs ky with
            | none =>
              rw [e3] at le q3
              rw [show valV ws (kyK ky) = none from le]
              exact hq _ _ _ _ q3 (k1.trans (k2.trans k3)) r3 rh3
            | some d3 =>
              rw [e3] at le q3
              obtain ⟨v3, ev3, r4⟩ := le
              rw [ev3]
              exact hq _ _ _ _ q3 (k1.trans (k2.trans k3)) r4 rh3
          · exact q3.elim
        · exact p2.elim
      | _ => exact p1.elim
  | wget =>
    match xs, har, hk with
    | [y], _, hk =>
      obtain ⟨x, rfl, hk2⟩ := one_arg hk
      have st := star_chk hk2 [] X.env
      constructor
      rintro pn sh sl hp R0 inv ⟨sd, th, Qt, rs, rh, q, hq⟩
      refine wpAny_Call_method base few hl PySem.F.plainAttrs_dict PySem.F.slot_dict_get PySem.F.type_dict_get (thn (ho.run pn sh sl hp (fun v H1 => ∃ gn th1, Keep hp H1 ∧ Rep X.K X.mg H1 (.glo gn) v ∧ RepH X.K X.mg H1 th1 ∧ (P.wd gn).isSome = true ∧
        wE P x sd th1 (fun dd h2 => bmT P .wget (.glo gn) [dd] h2 Qt) E) inv ⟨sd, th, _, rs, rh, q, fun a th1 v H1 ⟨p1, q1⟩ k1 r1 rh1 => ?_⟩) fun u s1 ⟨v, H1, inv1, ru, gn, th1, k1, r1, rh1, p1, q1⟩ => ?_)
      · cases a with
        | glo gn => exact ⟨gn, th1, k1, r1, rh1, p1, q1⟩
        | _ => exact p1.elim
      · obtain ⟨w, ew⟩ := Option.isSome_iff_exists.mp p1
        obtain ⟨a, es, n, rfl, D, f⟩ := g.wd.is ew r1
        cases ru
        have mo := PySem.W.mapOf_K (prog := X.prog) (w := X.w) inv1.kIn D.at_ D.lit
        refine ⟨mo.typeIs, mo.noDict, ?_⟩
        rw [st]
        show wpAny _ _ (callWith pos (.builtin "dict.get") [.ref a] [(false, eval y X.env)] []) _ _ _
        refine wpAny_dict_get1 (knd := strKind X.prog X.w) D.low (thn ((h1 x .nil rfl y [] rfl).run pn s1 sl H1 (fun v H2 => ∃ dd th2, Keep H1 H2 ∧ Rep X.K X.mg H2 dd v ∧ RepH X.K X.mg H2 th2 ∧ bmT P .wget (.glo gn) [dd] th2 Qt) inv1 ⟨sd, th1, _, rs.keep k1, rh1, q1, fun dd th2 v H2 q2 k2 r2 rh2 => ⟨dd, th2, k2, r2, rh2, q2⟩⟩) fun u s2 ⟨v, H2, inv2, ru, dd, th2, k2, r2, rh2, q2⟩ => ?_)
        cases dd with
        | str cs =>
          cases r2
          obtain ⟨t, rfl⟩ := ru
          obtain ⟨r, e1, e2⟩ := f cs
          have q3 : need (P.wd gn) fun w => Qt ((wLook w cs).getD .non) th2 := q2
          rw [ew] at q3
          have q3 : Qt ((wLook w cs).getD .non) th2 := q3
          refine ⟨⟨cs.toArray⟩, _, PySem.strKind_is X.prog X.w _ t, PySem.W.mapOf_K (prog := X.prog) inv2.kIn D.at_ D.lit, ?_⟩
          rw [PySem.W.find_K D.at_ e1]
          cases e3 : wLook w cs with
          | none =>
            rw [e3] at e2 q3
            subst e2
            exact ⟨.non, H2, inv2.tok _, rfl, hq _ _ _ _ q3 (k1.trans k2) rfl rh2⟩
          | some d3 =>
            rw [e3] at e2 q3
            obtain ⟨u3, v3, rfl, rv3, rr3⟩ := e2
            exact ⟨v3, H2, inv2.tok _, rv3, hq _ _ _ _ q3 (k1.trans k2) (rr3 H2) rh2⟩
        | _ => exact q2.elim
  | _ => exact Bool.noConfusion (show false = true from har)
end
end Tq
/-! UD4: every expression of the small language. -/
namespace Tq
open PySem L2 PyProof.Rows
theorem iteT {A B : Prop} (h : A) : if true = true then A else B := by rw [if_pos rfl]; exact h
theorem iteF {A B : Prop} (h : B) : if false = true then A else B := by rw [if_neg (by decide)]; exact h
section
variable {P : Env} {c : CC} {sc : Scope} {d : Bool} {E : EQ} {X : Cx} {Hx : Hp}
def toB (Q : Bool → TH → Prop) : KQ := fun d h => match d with
  | .bl b => Q b h
  | _ => False
theorem lE_lT {t0 : Sl → TH → KQ → Prop} {u : L2.TE} (imp : ∀ σ H Q, lE X Hx t0 σ H Q → u σ H Q) : ∀ σ H Q, lT X Hx (fun sd th Q => t0 sd th (toB Q)) σ H Q → tTest u σ H Q := fun σ H Q ⟨sd, th, Qt, rs, rh, q, hq⟩ =>
  imp σ H _ ⟨sd, th, toB Qt, rs, rh, q, fun d th1 v H1 q1 k1 r1 rh1 => by
    cases d with
    | bl b => cases r1; exact ⟨b, rfl, hq b th1 H1 q1 k1 rh1⟩
    | _ => exact (show False from q1).elim⟩
abbrev rL (X : Cx) (o : D → D → TH → KQ → Prop) : L2.R2 := fun x y H Q => ∃ d e th Qt, Rep X.K X.mg H d x ∧ Rep X.K X.mg H e y ∧ RepH X.K X.mg H th ∧ o d e th Qt ∧ LQ X.K X.mg Qt H Q
theorem bin_imp {t1 t2 : Sl → TH → KQ → Prop} {o : D → D → TH → KQ → Prop} : ∀ σ H Q, lE X Hx (fun sd th Q => t1 sd th fun x h1 => t2 sd h1 fun y h2 => o x y h2 Q) σ H Q → tOp (rL X o) (lE X Hx t1) (lE X Hx t2) σ H Q := by
  intro σ H Q ⟨sd, th, Qt, rs, rh, q, hq⟩
  exact ⟨sd, th, _, rs, rh, q, fun a th1 v H1 q1 k1 r1 rh1 => ⟨sd, th1, _, rs.keep k1, rh1, q1, fun b th2 w H2 q2 k2 r2 rh2 =>
    ⟨a, b, th2, Qt, r1.keep k2, r2, rh2, q2, hq.go (k1.trans k2)⟩⟩⟩
theorem chn_imp {t1 t2 t3 : Sl → TH → KQ → Prop} {o o2 : D → D → TH → (Bool → Prop) → Prop} : ∀ σ H Q, lE X Hx (fun sd th Q => t1 sd th fun x h1 => t2 sd h1 fun y h2 => o x y h2 fun t => if t = true then t3 sd h2 (fun z h3 => o2 y z h3 fun t => Q (.bl t) h3) else Q (.bl false) h2) σ H Q →
    tChain (rL X fun a b h Q => o a b h fun t => Q (.bl t) h) (rL X fun a b h Q => o2 a b h fun t => Q (.bl t) h) (lE X Hx t1) (lE X Hx t2) (lE X Hx t3) σ H Q := by
  intro σ H Q ⟨sd, th, Qt, rs, rh, q, hq⟩
  refine ⟨sd, th, _, rs, rh, q, fun a th1 v H1 q1 k1 r1 rh1 => ⟨sd, th1, _, rs.keep k1, rh1, q1, fun b th2 w H2 q2 k2 r2 rh2 => ?_⟩⟩
  refine ⟨a, b, th2, toB fun t h => h = th2 ∧ (if t = true then t3 sd th2 (fun z h3 => o2 b z h3 fun t => Qt (.bl t) h3) else Qt (.bl false) th2), r1.keep k2, r2, rh2, ?_, fun d3 th3 u H3 q3 k3 r3 rh3 => ?_⟩
  · have e : (fun t => toB (fun t h => h = th2 ∧ (if t = true then t3 sd th2 (fun z h3 => o2 b z h3 fun t => Qt (.bl t) h3) else Qt (.bl false) th2)) (.bl t) th2) = (fun t => if t = true then t3 sd th2 (fun z h3 => o2 b z h3 fun t => Qt (.bl t) h3) else Qt (.bl false) th2) := by
      funext t
      show (th2 = th2 ∧ _) = _
      simp
    exact Eq.mpr (congrArg (o a b th2) e) q2
  · cases d3 with
    | bl t =>
      cases r3
      obtain ⟨rfl, q3⟩ := q3
      refine ⟨t, rfl, ?_⟩
      cases t with
      | false =>
        rw [if_neg (by decide)] at q3 ⊢
        exact hq _ _ _ _ q3 (k1.trans (k2.trans k3)) rfl rh3
      | true =>
        rw [if_pos rfl] at q3 ⊢
        exact ⟨sd, _, _, rs.keep (k1.trans (k2.trans k3)), rh3, q3, fun z th4 w' H4 q4 k4 r4 rh4 => ⟨b, z, th4, Qt, r2.keep (k3.trans k4), r4, rh4, q4, hq.go (k1.trans (k2.trans (k3.trans k4)))⟩⟩
    | _ => exact (show False from q3).elim
theorem tru_T {t0 : Sl → TH → KQ → Prop} {e : PySem.Expr} (h : PE X e (lE X Hx t0)) (he : ∀ whole, isTrue e X.env whole = (do let v ← whole; standAt e.pos; holding [v] (truthy v))) : PT X e (lT X Hx fun sd th Q => t0 sd th fun x h1 => truT h1 x fun b => Q b h1) :=
  PT.imp (pt_truth h he) fun σ H Q ⟨sd, th, Qt, rs, rh, q, hq⟩ => ⟨sd, th, _, rs, rh, q, fun x th1 v H1 q1 k1 r1 rh1 => by
    obtain ⟨b, tv, q2⟩ := tru_rep rh1 r1 q1
    exact ⟨b, tv, hq b th1 H1 q2 k1 rh1⟩⟩
theorem no_T {e : PySem.Expr} : PT X e (lT X Hx fun _ _ _ => False) := ⟨fun p s σ H Q I ⟨sd, th, Qt, rs, rh, q, hq⟩ => q.elim⟩
theorem no_E {e : PySem.Expr} : PE X e (lE X Hx fun _ _ _ => False) := ⟨fun p s σ H Q I ⟨sd, th, Qt, rs, rh, q, hq⟩ => q.elim⟩
theorem not_E {a : Ex} {e : PySem.Expr} {pos : Pos} (ha : PE X e (lE X Hx fun sd th Q => wE P a sd th Q E)) : PE X (.UnaryOp .Not e pos) (lE X Hx fun sd th Q => wE P (.not a) sd th Q E) :=
  PE.imp (pe_notT ha) fun σ H Q ⟨sd, th, Qt, rs, rh, q, hq⟩ => ⟨sd, th, _, rs, rh, q, fun x th1 v H1 q1 k1 r1 rh1 => by
    obtain ⟨b, tv, q2⟩ := tru_rep rh1 r1 q1
    exact ⟨b, tv, hq _ _ _ _ q2 k1 rfl rh1⟩⟩
theorem neg_E {a : Ex} {e : PySem.Expr} {pos : Pos} (ha : PE X e (lE X Hx fun sd th Q => wE P a sd th Q E)) : PE X (.UnaryOp .USub e pos) (lE X Hx fun sd th Q => wE P (.neg a) sd th Q E) :=
  PE.imp (pe_un un_neg ha) fun σ H Q ⟨sd, th, Qt, rs, rh, q, hq⟩ => ⟨sd, th, _, rs, rh, q, fun x th1 v H1 q1 k1 r1 rh1 => by
    cases x with
    | int i => cases r1; exact ⟨i, rfl, hq _ _ _ _ q1 k1 rfl rh1⟩
    | _ => exact (show False from q1).elim⟩
theorem ife_E {t a b : Ex} {e x y : PySem.Expr} {pos : Pos} (ht : PT X e (lT X Hx fun sd th Q => wT P t sd th Q E)) (ha : PE X x (lE X Hx fun sd th Q => wE P a sd th Q E)) (hb : PE X y (lE X Hx fun sd th Q => wE P b sd th Q E)) :
    PE X (.IfExp e x y pos) (lE X Hx fun sd th Q => wE P (.ife t a b) sd th Q E) :=
  PE.imp (pe_ifExp ht ha hb) fun σ H Q ⟨sd, th, Qt, rs, rh, q, hq⟩ => ⟨sd, th, _, rs, rh, q, fun t1 th1 H1 q1 k1 rh1 => by
    have q1 : if t1 = true then wE P a sd th1 Qt E else wE P b sd th1 Qt E := q1
    cases t1 with
    | true =>
      rw [if_pos rfl] at q1
      refine iteT ?_
      exact ⟨sd, th1, Qt, rs.keep k1, rh1, q1, hq.go k1⟩
    | false =>
      rw [if_neg (by decide)] at q1
      refine iteF ?_
      exact ⟨sd, th1, Qt, rs.keep k1, rh1, q1, hq.go k1⟩⟩
def opB : Bool → BoolOp
  | true => .And
  | false => .Or
theorem bop_E {t0 t1 : Sl → TH → KQ → Prop} {t : Bool} {x y : PySem.Expr} {r : List PySem.Expr} {pos : Pos} (hx : PE X x (lE X Hx t0)) (hy : PE X (.BoolOp (opB t) (y :: r) pos) (lE X Hx t1)) :
    PE X (.BoolOp (opB t) (x :: y :: r) pos) (lE X Hx fun sd th Q => t0 sd th fun v h1 => match v with | .bl b => (if b = t then t1 sd h1 Q else Q (.bl b) h1) | _ => False) := by
  cases t with
  | true =>
    refine PE.imp (pe_and hx hy) fun σ H Q ⟨sd, th, Qt, rs, rh, q, hq⟩ => ⟨sd, th, _, rs, rh, q, fun v th1 u H1 q1 k1 r1 rh1 => ?_⟩
    cases v with
    | bl b =>
      cases r1
      refine ⟨b, rfl, ?_⟩
      have q1 : if b = true then t1 sd th1 Qt else Qt (.bl b) th1 := q1
      cases b with
      | true =>
        rw [if_pos rfl] at q1
        refine iteT ?_
        exact ⟨sd, th1, Qt, rs.keep k1, rh1, q1, hq.go k1⟩
      | false =>
        rw [if_neg (by decide)] at q1
        refine iteF ?_
        exact hq _ _ _ _ q1 k1 rfl rh1
    | _ => exact (show False from q1).elim
  | false =>
    refine PE.imp (pe_or hx hy) fun σ H Q ⟨sd, th, Qt, rs, rh, q, hq⟩ => ⟨sd, th, _, rs, rh, q, fun v th1 u H1 q1 k1 r1 rh1 => ?_⟩
    cases v with
    | bl b =>
      cases r1
      refine ⟨b, rfl, ?_⟩
      have q1 : if b = false then t1 sd th1 Qt else Qt (.bl b) th1 := q1
      cases b with
      | false =>
        rw [if_pos rfl] at q1
        refine iteF ?_
        exact ⟨sd, th1, Qt, rs.keep k1, rh1, q1, hq.go k1⟩
      | true =>
        rw [if_neg (by decide)] at q1
        refine iteT ?_
        exact hq _ _ _ _ q1 k1 rfl rh1
    | _ => exact (show False from q1).elim
theorem one_E {t0 : Sl → TH → KQ → Prop} {t : Bool} {x : PySem.Expr} {pos : Pos} (hx : PE X x (lE X Hx t0)) : PE X (.BoolOp (opB t) [x] pos) (lE X Hx fun sd th Q => t0 sd th fun v h1 => match v with | .bl b => (if b = t then False else Q (.bl b) h1) | _ => False) := by
  refine PE.imp (pe_one hx) fun σ H Q ⟨sd, th, Qt, rs, rh, q, hq⟩ => ⟨sd, th, _, rs, rh, q, fun v th1 u H1 q1 k1 r1 rh1 => ?_⟩
  cases v with
  | bl b =>
    cases r1
    have q1 : if b = t then False else Qt (.bl b) th1 := q1
    by_cases e : b = t
    · rw [if_pos e] at q1; exact q1.elim
    · rw [if_neg e] at q1; exact hq _ _ _ _ q1 k1 rfl rh1
  | _ => exact (show False from q1).elim
theorem bop_T {t0 t1 : Sl → TH → (Bool → TH → Prop) → Prop} {t : Bool} {x y : PySem.Expr} {r : List PySem.Expr} {pos : Pos} (hx : PT X x (lT X Hx t0)) (hy : PW X (.BoolOp (opB t) (y :: r) pos) (lT X Hx t1)) :
    PW X (.BoolOp (opB t) (x :: y :: r) pos) (lT X Hx fun sd th Q => t0 sd th fun b h1 => if b = t then t1 sd h1 Q else Q b h1) := by
  cases t with
  | true =>
    refine PW.imp (pw_and hx hy) fun σ H Q ⟨sd, th, Qt, rs, rh, q, hq⟩ => ⟨sd, th, _, rs, rh, q, fun b th1 H1 q1 k1 rh1 => ?_⟩
    have q1 : if b = true then t1 sd th1 Qt else Qt b th1 := q1
    cases b with
    | true =>
      rw [if_pos rfl] at q1
      refine iteT ?_
      exact ⟨sd, th1, Qt, rs.keep k1, rh1, q1, fun b th2 H2 a k2 r => hq b th2 H2 a (k1.trans k2) r⟩
    | false =>
      rw [if_neg (by decide)] at q1
      refine iteF ?_
      exact hq _ _ _ q1 k1 rh1
  | false =>
    refine PW.imp (pw_or hx hy) fun σ H Q ⟨sd, th, Qt, rs, rh, q, hq⟩ => ⟨sd, th, _, rs, rh, q, fun b th1 H1 q1 k1 rh1 => ?_⟩
    have q1 : if b = false then t1 sd th1 Qt else Qt b th1 := q1
    cases b with
    | false =>
      rw [if_pos rfl] at q1
      refine iteF ?_
      exact ⟨sd, th1, Qt, rs.keep k1, rh1, q1, fun b th2 H2 a k2 r => hq b th2 H2 a (k1.trans k2) r⟩
    | true =>
      rw [if_neg (by decide)] at q1
      refine iteT ?_
      exact hq _ _ _ q1 k1 rh1
theorem one_T {t0 : Sl → TH → (Bool → TH → Prop) → Prop} {t : Bool} {x : PySem.Expr} {pos : Pos} (hx : PT X x (lT X Hx t0)) : PW X (.BoolOp (opB t) [x] pos) (lT X Hx fun sd th Q => t0 sd th fun b h1 => if b = t then Q t h1 else Q b h1) := by
  have imp : ∀ σ H Q, lT X Hx (fun sd th Q => t0 sd th fun b h1 => if b = t then Q t h1 else Q b h1) σ H Q → lT X Hx t0 σ H Q := fun σ H Q ⟨sd, th, Qt, rs, rh, q, hq⟩ => ⟨sd, th, _, rs, rh, q, fun b th1 H1 q1 k1 rh1 => by
    have q1 : if b = t then Qt t th1 else Qt b th1 := q1
    by_cases e : b = t
    · rw [if_pos e] at q1; rw [e]; exact hq _ _ _ q1 k1 rh1
    · rw [if_neg e] at q1; exact hq _ _ _ q1 k1 rh1⟩
  cases t with
  | true => exact PW.imp (pw_and1 hx) imp
  | false => exact PW.imp (pw_or1 hx) imp
theorem ix_E (g : Gd P c sc d E X Hx) {a b : Ex} {x y : PySem.Expr} {pos : Pos} (ha : PE X x (lE X Hx fun sd th Q => wE P a sd th Q E)) (hb : PE X y (lE X Hx fun sd th Q => wE P b sd th Q E)) (hk : chk c b sc y = true) :
    PE X (.Subscript x y pos) (lE X Hx fun sd th Q => wE P (.ix a b) sd th Q E) := by
  have u1 : X.A.units + 1 < cLine := by have := g.un; omega
  exact PE.imp (pe_ix (ix_L g.wd u1) ha hb (plainIx_chk hk)) (bin_imp (t1 := fun sd th Q => wE P a sd th Q E) (t2 := fun sd th Q => wE P b sd th Q E) (o := fun a b h Q => ixT P a b h fun d => Q d h))
theorem sl_E {a : Ex} {lo hi : ExO} {x : PySem.Expr} {l u : Option PySem.Expr} {p2 pos : Pos} (ha : PE X x (lE X Hx fun sd th Q => wE P a sd th Q E)) (hl : PO X l (lO X Hx fun sd th Q => wO P lo sd th Q E)) (hu : PO X u (lO X Hx fun sd th Q => wO P hi sd th Q E)) :
    PE X (.Subscript x (.Slice l u none p2) pos) (lE X Hx fun sd th Q => wE P (.sl a lo hi) sd th Q E) :=
  PE.imp (pe_slice sl_L ha hl hu) fun σ H Q ⟨sd, th, Qt, rs, rh, q, hq⟩ => ⟨sd, th, _, rs, rh, q, fun v th1 w H1 q1 k1 r1 rh1 => ⟨sd, th1, _, rs.keep k1, rh1, q1, fun o th2 H2 q2 k2 rh2 =>
    ⟨sd, th2, _, rs.keep (k1.trans k2), rh2, q2, fun o2 th3 H3 q3 k3 rh3 => ⟨v, th3, Qt, r1.keep (k2.trans k3), rh3, q3, hq.go (k1.trans (k2.trans k3))⟩⟩⟩⟩
theorem tup_E {es : ExL} {xs : List PySem.Expr} {k : Nat} {pos : Pos} (ha : PA X xs (lA X Hx fun sd th Q => wL P es sd th Q E)) : PE X (.Tuple xs k pos) (lE X Hx fun sd th Q => wE P (.tup es) sd th Q E) :=
  PE.imp (pe_tup ha) fun σ H Q ⟨sd, th, Qt, rs, rh, q, hq⟩ => ⟨sd, th, _, rs, rh, q, fun ds th1 vs H1 q1 k1 r1 rh1 => by
    obtain ⟨l, q1⟩ := q1
    exact ⟨by rw [r1.length]; exact l, fun p hn => hq _ _ _ _ q1 (k1.trans (Keep.new hn)) ⟨p, vs, rfl, .inl upd_same, r1.keep (Keep.new hn)⟩ (rh1.tup hn)⟩⟩
theorem lst_E {es : ExL} {xs : List PySem.Expr} {pos : Pos} (ha : PA X xs (lA X Hx fun sd th Q => wL P es sd th Q E)) : PE X (.List xs pos) (lE X Hx fun sd th Q => wE P (.lst es) sd th Q E) :=
  PE.imp (pe_lst ha) fun σ H Q ⟨sd, th, Qt, rs, rh, q, hq⟩ => ⟨sd, th, _, rs, rh, q, fun ds th1 vs H1 q1 k1 r1 rh1 => by
    obtain ⟨l, q1⟩ := q1
    exact ⟨by rw [r1.length]; exact l, fun p hn => hq _ _ _ _ (q1 p (rh1.free hn)) (k1.trans (Keep.new hn)) rfl (rh1.new hn ⟨vs, upd_same, r1.keep (Keep.new hn)⟩)⟩⟩
theorem lstR_E {es : ExL} {xs : List PySem.Expr} {pos : Pos} (ha : PA X xs (lA X Hx fun sd th Q => wL P es sd th Q E)) : PE X (.List xs pos) (lE X Hx fun sd th Q => wE P (.lstR es) sd th Q E) :=
  PE.imp (PE.frz (pe_lst ha)) fun σ H Q ⟨sd, th, Qt, rs, rh, q, hq⟩ => ⟨sd, th, _, rs, rh, q, fun ds th1 vs H1 q1 k1 r1 rh1 => by
    obtain ⟨l, q1⟩ := q1
    exact ⟨by rw [r1.length]; exact l, fun p hn => frz_new (hq.go k1) q1 hn r1 rh1⟩⟩
theorem frz_E (g : Gd P c sc d E X Hx) {i : Nat} {x : Str} {p : Pos} (h1 : c.N[i]? = some x) (h2 : visB sc x = true) (h3 : okName x = true) : PE X (.Name x p) (lE X Hx fun sd th Q => wE P (.frz i) sd th Q E) := by
  obtain ⟨n1, n2, _⟩ := nm_of h3
  refine PE.imp (PE.frz (pe_var (i := i) (by rw [g.nN]; exact h1) (by rw [g.scp]; exact vis_of h2) n1 n2)) fun σ H Q ⟨sd, th, Qt, rs, rh, q, hq⟩ => ?_
  obtain ⟨d, ea, q⟩ := need_iff.mp q
  obtain ⟨v, ev, r⟩ := rs.rs.2 i d (join_some ea)
  refine ⟨v, ev, ?_⟩
  cases d with
  | ref a =>
    cases r
    have q2 : (match th a with
      | some (.lst xs) => Qt (.rol xs) (Tq.del th a)
      | _ => False) := q
    split at q2
    · rename_i xs ea
      obtain ⟨ws, e, l⟩ := rh _ _ ea
      refine ⟨a, ws, rfl, e, fun od => ?_⟩
      have k : Keep H (upd H a (.frz od (.lst ws))) := Keep.put e (fun _ z => by cases z) (fun _ _ z => by cases z)
      refine hq _ _ _ _ q2 k ⟨a, ws, rfl, .inl ⟨od, upd_same⟩, l.keep k⟩ fun b o eb => ?_
      have eb : (if b = a then none else th b) = some o := eb
      by_cases z : b = a
      · rw [if_pos z] at eb; cases eb
      · rw [if_neg z] at eb
        exact (rh b o eb).keep k (upd_ne z)
    · exact q2.elim
  | _ => exact (show False from q).elim
theorem nil_A : PA X [] (lA X Hx fun sd th Q => wL P .nil sd th Q E) := PA.imp pa_nil fun σ H Q ⟨sd, th, Qt, rs, rh, q, hq⟩ => hq [] th [] H q (Keep.refl H) rfl rh
theorem cons_A {e : Ex} {r : ExL} {x : PySem.Expr} {xs : List PySem.Expr} (he : PE X x (lE X Hx fun sd th Q => wE P e sd th Q E)) (hr : PA X xs (lA X Hx fun sd th Q => wL P r sd th Q E)) (hk : chk c e sc x = true) : PA X (x :: xs) (lA X Hx fun sd th Q => wL P (.cons e r) sd th Q E) :=
  PA.imp (pa_cons he hr (star_chk hk xs X.env)) fun σ H Q ⟨sd, th, Qt, rs, rh, q, hq⟩ => ⟨sd, th, _, rs, rh, q, fun x th1 v H1 q1 k1 r1 rh1 => ⟨sd, th1, _, rs.keep k1, rh1, q1, fun ds th2 vs H2 q2 k2 r2 rh2 =>
    hq _ _ _ _ q2 (k1.trans k2) ⟨v, vs, rfl, r1.keep k2, r2⟩ rh2⟩⟩
theorem no_O : PO X none (lO X Hx fun sd th Q => wO P .no sd th Q E) := PO.imp po_none fun σ H Q ⟨sd, th, Qt, rs, rh, q, hq⟩ => hq none th H q (Keep.refl H) rh
theorem yes_O {e : Ex} {x : PySem.Expr} (he : PE X x (lE X Hx fun sd th Q => wE P e sd th Q E)) : PO X (some x) (lO X Hx fun sd th Q => wO P (.yes e) sd th Q E) :=
  PO.imp (po_some he) fun σ H Q ⟨sd, th, Qt, rs, rh, q, hq⟩ => ⟨sd, th, _, rs, rh, q, fun x th1 v H1 q1 k1 r1 rh1 => by
    cases x with
    | int i => cases r1; exact ⟨i, rfl, hq _ _ _ q1 k1 rh1⟩
    | _ => exact (show False from q1).elim⟩
/-! ### dict displays -/
def trsOf (X : Cx) (Hx : Hp) (P : Env) (E : EQ) : ExP → List (L2.TE × L2.TE)
  | .nil => []
  | .cons k v r => (lE X Hx fun sd th Q => wE P k sd th Q E, lE X Hx fun sd th Q => wE P v sd th Q E) :: trsOf X Hx P E r
def lenP : ExP → Nat
  | .nil => 0
  | .cons _ _ r => lenP r + 1
theorem trs_law : ∀ (ps : ExP) (sd : Sl) (th : TH) (σ : L2.St) (H : Hp) (Qt : List (Ky × D) → TH → Prop) (R : List (V × V) → Hp → Prop), RepT X.K X.mg Hx H sd σ → RepH X.K X.mg H th → wD P ps sd th Qt E →
    (∀ kds th' kws H', Qt kds th' → kds.length = lenP ps → Keep H H' → RepK X.K X.mg H' kds kws → RepH X.K X.mg H' th' → R (kws.map fun kv => (kV kv.1, kv.2)) H') → tPairs (trsOf X Hx P E ps) σ H R
  | .nil, sd, th, σ, H, Qt, R, rs, rh, q, k => k [] th [] H q rfl (Keep.refl H) rfl rh
  | .cons a b r, sd, th, σ, H, Qt, R, rs, rh, q, k => ⟨sd, th, _, rs, rh, q, fun x th1 v H1 q1 k1 r1 rh1 => ⟨sd, th1, _, rs.keep k1, rh1, q1, fun y th2 w H2 q2 k2 r2 rh2 =>
      trs_law r sd th2 σ H2 _ _ (rs.keep (k1.trans k2)) rh2 q2 fun kds th3 kws H3 q3 l3 k3 r3 rh3 => by
        obtain ⟨ky, eky, q3⟩ := need_iff.mp q3
        have ev := ky_rep (r1.keep (k2.trans k3)) eky
        subst ev
        exact k ((ky, y) :: kds) th3 ((kyK ky, w) :: kws) H3 q3 (by rw [List.length_cons, l3]; rfl) (k1.trans (k2.trans k3)) ⟨w, kws, rfl, r2.keep k3, r3⟩ rh3⟩⟩
theorem merge_rep {K : PySem.W.Frag} {mg : Mg} {H : Hp} : ∀ {b : List (Ky × D)} {wb : List (Key × V)} {a : List (Ky × D)} {wa : List (Key × V)}, RepK K mg H a wa → RepK K mg H b wb → RepK K mg H (Tq.mergeK a b) (L2.mergeK wa wb)
  | [], _, a, wa, ra, rb => by cases rb; exact ra
  | (k, x) :: r, _, a, wa, ra, ⟨v, w, e, rx, rr⟩ => by
    subst e
    have z := merge_rep (a := Tq.putK a k x) (wa := L2.putK wa (kyK k) v) (ra.put k rx) rr
    exact z
theorem ups_ups (h : TH) (p : Nat) (o u : TO) : ups (ups h p o) p u = ups h p u := by
  funext b
  by_cases e : b = p
  · subst e; rw [ups_same, ups_same]
  · rw [ups_ne e, ups_ne e, ups_ne e]
theorem dic_E {ps : ExP} {ks : List (Option PySem.Expr)} {vs : List PySem.Expr} {pos : Pos} (h : PPs X pos ks vs (trsOf X Hx P E ps)) (hall : ks.all (·.isSome) = true) (hl : ks.length = vs.length) (hp : lenP ps = ks.length) (h15 : ks.length ≤ 15) :
    PE X (.Dict ks vs pos) (lE X Hx fun sd th Q => wE P (.dic ps) sd th Q E) := by
  cases ks with
  | nil =>
    cases vs with
    | cons _ _ => cases hl
    | nil =>
      cases ps with
      | cons _ _ _ => cases hp
      | nil =>
        refine PE.imp pe_dnewK fun σ H Q ⟨sd, th, Qt, rs, rh, q, hq⟩ => fun p hn => ?_
        obtain ⟨_, q1⟩ := q p (rh.free hn)
        have q1 : Qt (.ref p) (ups (ups th p (.dK [])) p (.dK [])) := q1
        rw [ups_ups] at q1
        exact hq _ _ _ _ q1 (Keep.new hn) rfl (rh.new (o := .dK []) hn ⟨[], upd_same, rfl⟩)
  | cons k0 ks =>
    refine PE.imp (pe_disp h hall hl (by simp) h15) fun σ H Q ⟨sd, th, Qt, rs, rh, q, hq⟩ => fun p hn => ?_
    have k0 : Keep H (upd H p (.dK [])) := Keep.new hn
    refine trs_law ps sd _ σ _ _ _ (rs.keep k0) (rh.new (o := .dK []) hn ⟨[], upd_same, rfl⟩) (q p (rh.free hn)) fun kds th' kws H' ⟨e1, q1⟩ l1 k1 r1 rh1 => ?_
    obtain ⟨ws, e2, r2⟩ := rh1 _ _ e1
    cases r2
    refine ⟨e2, kws, rfl, by rw [r1.length, l1, hp]; exact h15, ?_⟩
    have kp : Keep H' (upd H' p (.dK (L2.mergeK [] kws))) := Keep.put e2 (fun _ z => by cases z) (fun _ _ z => by cases z)
    refine hq _ _ _ _ q1 (k0.trans (k1.trans kp)) rfl (rh1.put kp ⟨_, upd_same, ?_⟩)
    have r0 : RepK X.K X.mg (upd H' p (.dK (L2.mergeK [] kws))) [] [] := rfl
    exact merge_rep r0 (r1.keep kp)
/-! ### what is walked -/
theorem of_I {e : Ex} {tg x : PySem.Expr} (he : PE X x (lE X Hx fun sd th Q => wE P e sd th Q E)) : PI X tg x (lI X Hx fun sd th Q => wI P (.of e) sd th Q E) :=
  PI.imp (pi_seq he) fun σ H R ⟨sd, th, Qt, rs, rh, q, hq⟩ => ⟨sd, th, _, rs, rh, q, fun v th1 w H1 q1 k1 r1 rh1 => by
    cases v with
    | tup xs =>
      obtain ⟨a, vs, rfl, tp, l⟩ := r1
      exact .inr ⟨a, vs, rfl, .inr ⟨tp.sq, hq xs _ th1 H1 _ _ q1 k1 rh1 walk_tp fun th2 H2 k2 rh2 _ => ⟨vs, (tp.keep k2).sq, l.keep k2⟩⟩⟩
    | rol xs =>
      obtain ⟨a, vs, rfl, tp, l⟩ := r1
      exact .inr ⟨a, vs, rfl, .inl ⟨tp.sq, hq xs _ th1 H1 _ _ q1 k1 rh1 walk_lst fun th2 H2 k2 rh2 _ => ⟨vs, (tp.keep k2).sq, l.keep k2⟩⟩⟩
    | scr xs =>
      obtain ⟨a, vs, rfl, tp, l⟩ := r1
      exact .inr ⟨a, vs, rfl, .inl ⟨tp.sq, hq xs _ th1 H1 _ _ q1 k1 rh1 walk_lst fun th2 H2 k2 rh2 _ => ⟨vs, (tp.keep k2).sq, l.keep k2⟩⟩⟩
    | ref a =>
      cases r1
      have q2 : walkT (.ref a) th1 fun ds g => Qt ds g th1 := q1
      unfold walkT at q2
      simp only at q2
      split at q2
      · rename_i xs ea
        obtain ⟨vs, ev, l⟩ := rh1 _ _ ea
        refine .inr ⟨a, vs, rfl, .inl ⟨SqL.of ev, hq xs _ th1 H1 _ _ q2 k1 rh1 walk_lst fun th2 H2 k2 rh2 e2 => ?_⟩⟩
        obtain ⟨vs2, ev2, l2⟩ := rh2 _ _ e2
        exact ⟨vs2, SqL.of ev2, l2⟩
      · exact q2.elim
    | str cs =>
      cases r1
      obtain ⟨hl, q1⟩ := q1
      exact .inl ⟨_, rfl, hq _ _ th1 H1 _ _ q1 k1 rh1 walk_tx fun _ _ _ _ _ => trivial⟩
    | _ => exact (show False from q1).elim⟩
theorem rng1_I (g : Gd P c sc d E X Hx) {a : Ex} {tg x : PySem.Expr} {p pos : Pos} (ha : PE X x (lE X Hx fun sd th Q => wE P a sd th Q E)) (hk : chk c a sc x = true) (hb : bltB c sc "range" = true) : PI X tg (.Call (.Name "range" p) [x] [] pos) (lI X Hx fun sd th Q => wI P (.rng1 a) sd th Q E) := by
  obtain ⟨gl, hm, _, _⟩ := blt_of g hb
  have st := star_chk hk [] X.env
  refine PI.imp (pi_range1 gl hm (pa_cons ha pa_nil st) st) fun σ H R ⟨sd, th, Qt, rs, rh, q, hq⟩ => ⟨sd, th, _, rs, rh, q, fun v th1 w H1 q1 k1 r1 rh1 => ?_⟩
  cases v with
  | int n =>
    cases r1
    obtain ⟨b1, b2, q1⟩ := q1
    exact ⟨n, rfl, b1, b2, hq _ _ th1 H1 _ _ q1 k1 rh1 walk_rg fun _ _ _ _ _ => trivial⟩
  | _ => exact (show False from q1).elim
theorem rng2_I (g : Gd P c sc d E X Hx) {a b : Ex} {tg x y : PySem.Expr} {p pos : Pos} (ha : PE X x (lE X Hx fun sd th Q => wE P a sd th Q E)) (hb : PE X y (lE X Hx fun sd th Q => wE P b sd th Q E)) (hk : chk c a sc x = true) (hk2 : chk c b sc y = true) (hbl : bltB c sc "range" = true) :
    PI X tg (.Call (.Name "range" p) [x, y] [] pos) (lI X Hx fun sd th Q => wI P (.rng2 a b) sd th Q E) := by
  obtain ⟨gl, hm, _, _⟩ := blt_of g hbl
  have st2 := star_chk hk2 [] X.env
  have st := star_chk hk [y] X.env
  refine PI.imp (pi_range2 gl hm (pa_cons ha (pa_cons hb pa_nil st2) st) (by rw [st, st2]; rfl) st2) fun σ H R ⟨sd, th, Qt, rs, rh, q, hq⟩ => ⟨sd, th, _, rs, rh, q, fun v th1 w H1 q1 k1 r1 rh1 => ⟨sd, th1, _, rs.keep k1, rh1, q1, fun v2 th2 w2 H2 q2 k2 r2 rh2 => ?_⟩⟩
  cases v with
  | int m =>
    cases v2 with
    | int n =>
      cases r1
      cases r2
      obtain ⟨b1, b2, b3, b4, q2⟩ := q2
      exact ⟨m, n, rfl, ⟨b1, b2, b3, b4⟩, hq _ _ th2 H2 _ _ q2 (k1.trans k2) rh2 walk_rg fun _ _ _ _ _ => trivial⟩
    | _ => exact (show False from q2).elim
  | _ =>
    cases v2 <;> exact (show False from q2).elim
end
end Tq
/-! UD5: comprehensions; all expressions. -/
namespace Tq
open PySem L2 PyProof.Rows
section
variable {P : Env} {c : CC} {sc : Scope} {d : Bool} {E : EQ} {X : Cx} {Hx : Hp}
theorem relS_eq (sc scope : Scope) : L2.relS scope sc = Tq.relS sc scope := rfl
theorem Gd.blk (g : Gd P c sc d E X Hx) (s : Shared) (H : Hp) (scope : Scope) (C : Addr) (cl : List (Str × Addr)) (fp : List Addr) : Gd P c (Tq.relS sc scope) false noE (X.blk s H scope (compEnvC scope cl C X.env) fp) Hx where
  nN := g.nN
  nd := g.nd
  scp := by
    have e : (compEnvC scope cl C X.env).scope = L2.relS scope X.env.scope := rfl
    show (compEnvC scope cl C X.env).scope = _
    rw [e, g.scp]
    rfl
  calm := g.calm
  fn := fun z => by cases z
  tk := fun u s' ⟨a, B, sI, pins, σ, H, cls, dd, e, I, nb, up, sky, na, os, ag, w⟩ => by
    obtain ⟨_, _, _, _, _, _, z⟩ := w
    exact z.elim
  un := g.un
  wd := g.wd
  st := g.st
  free := g.free
  gl := g.gl
  call := fun f n h => ⟨(g.call f n h).ex⟩
  rel := g.rel
theorem blk_of {N : List Str} {sc scope : Scope} {own : List (Str × Nat)} (h : blkB N sc scope own = true) : BlkOk N sc scope own := blkOk_by h
theorem wipe_get (σ : L2.St) (i : Nat) : ∀ ws : List Nat, (L2.wipe σ ws)[i]? = if i ∈ ws then σ[i]?.map (fun _ => none) else σ[i]?
  | [] => by rw [if_neg (by simp)]; rfl
  | w :: ws => by
    unfold L2.wipe
    by_cases e : w = i
    · subst e
      rw [if_pos List.mem_cons_self, List.getElem?_set]
      rw [if_pos rfl]
      have hl := L2.wipe_length σ ws
      by_cases h : w < σ.length
      · rw [if_pos (by rw [hl]; exact h), List.getElem?_eq_getElem h]; rfl
      · rw [if_neg (by rw [hl]; exact h), List.getElem?_eq_none (by omega)]; rfl
    · rw [List.getElem?_set_ne e, wipe_get σ i ws]
      by_cases h : i ∈ ws
      · rw [if_pos h, if_pos (List.mem_cons_of_mem _ h)]
      · rw [if_neg h, if_neg (by simp only [List.mem_cons, not_or]; exact ⟨fun z => e z.symm, h⟩)]
theorem wipe_two (σ : L2.St) (ws : List Nat) : L2.wipe (L2.wipe σ ws) ws = L2.wipe σ ws := by
  apply List.ext_getElem?
  intro i
  rw [wipe_get, wipe_get]
  by_cases h : i ∈ ws
  · rw [if_pos h, if_pos h]; cases σ[i]? <;> rfl
  · rw [if_neg h, if_neg h]
theorem comp_imp {elt : Ex} {tg : Tg} {it : It} {ifs : ExL} {own : List (Str × Nat)} (hown : (tgIx tg).all (fun i => (own.map (·.2)).contains i) = true) :
    ∀ σ H Q, lE X Hx (fun sd th Q => wE P (.comp elt tg it ifs own) sd th Q E) σ H Q →
      tLc (lI X Hx fun sd th Q => wI P it sd th Q E) (tgG X.K tg) (lT X Hx fun sd th Q => wC P ifs sd th Q noE) (lE X Hx fun sd th Q => wE P elt sd th Q noE) (own.map (·.2)) σ H Q := by
  intro σ H Q ⟨sd, th, Qt, rs, rh, q, hq⟩
  refine ⟨sd, th, _, rs, rh, q, fun ds gg th1 H1 J G q1 k1 rh1 wd hG => ?_⟩
  intro p hn
  have hm : ∀ i ∈ tgIx tg, i ∈ own.map (·.2) := fun i hi => by
    have z := List.all_eq_true.mp hown i hi
    exact List.contains_iff_mem.mp z
  generalize hst : (fun (d : D) (h2 : TH) (kv : D → TH → Prop) (kn : TH → Prop) => bindT tg d (Tq.wipe sd (own.map (·.2))) fun σ2 => wC P ifs σ2 h2 (fun b h3 => if b = true then wE P elt σ2 h3 kv noE else kn h3) noE) = step
  have q2 : loopC p gg step ds (ups th1 p (.lst [])) fun h2 => Qt (.ref p) h2 := by
    rw [← hst]
    exact q1 p (rh1.free hn)
  refine ⟨fun i m H => m = ds.length - i ∧ i ≤ ds.length ∧ Keep H1 H ∧ ∃ th, RepH X.K X.mg H th ∧ loopC p gg step (ds.drop i) th (fun h2 => Qt (.ref p) h2), ⟨_, rfl, Nat.zero_le _, Keep.new hn, ups th1 p (.lst []), rh1.new (o := .lst []) hn ⟨[], upd_same, rfl⟩, q2⟩, ?_⟩
  rintro i m H5 ⟨rfl, hi, k5, th5, rh5, q5⟩
  by_cases hlt : i < ds.length
  · rw [List.drop_eq_getElem_cons hlt] at q5
    obtain ⟨qg, q5⟩ := q5
    have G5 := hG th5 H5 k5 rh5 qg
    refine .inr ⟨wd.goes i H5 hlt G5, fun H' => Keep H1 H' ∧ ∃ th, RepH X.K X.mg H' th ∧ loopC p gg step (ds.drop (i + 1)) th (fun h2 => Qt (.ref p) h2), fun H' nx => ⟨ds.length - (i + 1), by omega, rfl, hlt, nx⟩, fun x H6 y => ?_⟩
    obtain ⟨k6, r6, dd, ed, rx⟩ := wd.yields i H5 x H6 hlt G5 y
    have rh6 := r6 th5 rh5
    rw [List.getElem?_eq_getElem hlt] at ed
    cases ed
    rw [← hst] at q5
    refine tg_law x ds[i] (Tq.wipe sd (own.map (·.2))) (L2.wipe σ (own.map (·.2))) H6 _ _ rx ((rs.keep (k1.trans (k5.trans k6))).wipe _) q5 ?_
    intro sd' σ' qk rs' hw
    refine ⟨?_, ?_⟩
    · rw [hw _ hm]
      exact wipe_two σ _
    · refine ⟨sd', th5, _, rs', rh6, qk, fun b th7 H7 q7 k7 rh7 => ?_⟩
      cases b with
      | true =>
        rw [if_pos rfl] at q7
        refine iteT ⟨sd', th7, _, rs'.keep k7, rh7, q7, fun y th8 v H8 q8 k8 r8 rh8 => ?_⟩
        obtain ⟨acc, ea, hl, kk, le, ql⟩ := q8
        obtain ⟨vs, ev, lv⟩ := rh8 _ _ ea
        have kp : Keep H8 (upd H8 p (.lst (vs ++ [v]))) := Keep.put ev (fun _ z => by cases z) (fun _ _ z => by cases z)
        have r9 : RepL X.K X.mg H8 [y] [v] := ⟨v, [], rfl, r8, rfl⟩
        refine ⟨vs, ev, by rw [lv.length]; exact hl, k5.trans (k6.trans (k7.trans (k8.trans kp))), kk, (rh8.put (o := .lst (acc ++ [y])) kp ⟨_, upd_same, (lv.append r9).keep kp⟩).le le, ?_⟩
        rw [hst] at ql
        exact ql
      | false =>
        rw [if_neg (by decide)] at q7
        obtain ⟨kk, le, ql⟩ := q7
        refine iteF ⟨k5.trans (k6.trans k7), kk, rh7.le le, ?_⟩
        rw [hst] at ql
        exact ql
  · have e : i = ds.length := by omega
    subst e
    rw [List.drop_length] at q5
    obtain ⟨qg, q5⟩ := q5
    exact .inl ⟨wd.stops H5 (hG th5 H5 k5 rh5 qg), hq _ _ _ _ q5 (k1.trans k5) rfl rh5⟩
/-! ### a comprehension whose list nobody else sees -/
def UpG (g : TH → Prop) : Prop := ∀ h h', Le h h' → g h → g h'
theorem eqR (E : EQ) : EqR (fun h h' => h = h') E E := fun _ _ _ _ e z => by rw [← e]; exact z
theorem wE_mono (F : FnR P.fn) {e : Ex} {σ : Sl} {h : TH} {Q Q' : KQ} {E : EQ} (i : ∀ d h1, Q d h1 → Q' d h1) (q : wE P e σ h Q E) : wE P e σ h Q' E := wE_rel F Rel.eq e σ rfl (eqR E) (fun d h1 h2 e z => by rw [← e]; exact i _ _ z) q
theorem wI_up (F : FnR P.fn) {it : It} {σ : Sl} {h : TH} {Q : List D → (TH → Prop) → TH → Prop} {E : EQ} (q : wI P it σ h Q E) : wI P it σ h (fun ds g h1 => UpG g ∧ Q ds g h1) E := by
  have tt : UpG fun _ => True := fun _ _ _ _ => trivial
  cases it with
  | of e =>
    refine wE_mono F (fun d h1 z => ?_) q
    cases d with
    | ref a =>
      unfold walkT at z ⊢
      simp only at z ⊢
      split at z
      · rename_i xs ea
        exact ⟨fun h h' l e => l _ _ e, z⟩
      · exact z.elim
    | tup _ => exact ⟨tt, z⟩
    | rol _ => exact ⟨tt, z⟩
    | scr _ => exact ⟨tt, z⟩
    | str _ => exact ⟨z.1, tt, z.2⟩
    | _ => exact z.elim
  | rng1 a => exact wE_mono F (fun d h1 z => by cases d <;> first | exact ⟨z.1, z.2.1, tt, z.2.2⟩ | exact z.elim) q
  | rng2 a b => exact wE_mono F (fun d h1 z => wE_mono F (fun d2 h2 z => by cases d <;> first | (cases d2 <;> first | exact ⟨z.1, z.2.1, z.2.2.1, z.2.2.2.1, tt, z.2.2.2.2⟩ | exact z.elim) | exact z.elim) z) q
  | rng3 a b c => exact wE_mono F (fun d h1 z => wE_mono F (fun d2 h2 z => by cases d <;> first | (cases d2 <;> first | exact ⟨z.1, z.2.1, z.2.2.1, z.2.2.2.1, z.2.2.2.2.1, tt, z.2.2.2.2.2⟩ | exact z.elim) | exact z.elim) z) q
  | zip a b => exact wE_mono F (fun d h1 z => wE_mono F (fun d2 h2 z => by cases d <;> first | (cases d2 <;> first | exact ⟨tt, z⟩ | exact z.elim) | exact z.elim) z) q
  | enum a => exact wE_mono F (fun d h1 z => by cases d <;> first | exact ⟨tt, z⟩ | exact z.elim) q
theorem loop_hid {g : TH → Prop} (up : UpG g) {step : D → TH → (D → TH → Prop) → (TH → Prop) → Prop} {p : Nat}
    (st : ∀ (o : TO) d h h' kv kn kv' kn', (h p = none ∧ h' = ups h p o) → (∀ v h1 h2, (h1 p = none ∧ h2 = ups h1 p o) → kv v h1 → kv' v h2) → (∀ h1 h2, (h1 p = none ∧ h2 = ups h1 p o) → kn h1 → kn' h2) → step d h kv kn → step d h' kv' kn') {done : List D → TH → Prop} :
    ∀ (ds acc : List D) (h : TH), h p = none → loopR g step ds acc h done → loopC p g step ds (ups h p (.lst acc)) fun h2 => ∃ vs h0, h0 p = none ∧ h2 = ups h0 p (.lst vs) ∧ done vs h0
  | [], acc, h, n, q => ⟨up _ _ (Le.up n) q.1, acc, h, n, rfl, q.2⟩
  | d :: ds, acc, h, n, q => by
    refine ⟨up _ _ (Le.up n) q.1, st (.lst acc) d h _ _ _ _ _ ⟨n, rfl⟩ ?_ ?_ q.2⟩
    · rintro v h1 h2 ⟨n1, rfl⟩ ⟨l, w⟩
      refine ⟨acc, ups_same, l, wk_self ?_⟩
      have e : ups (ups h1 p (.lst acc)) p (.lst (acc ++ [v])) = ups h1 p (.lst (acc ++ [v])) := by
        funext b
        unfold ups
        split <;> rfl
      rw [e]
      exact loop_hid up st ds _ h1 n1 w
    · rintro h1 h2 ⟨n1, rfl⟩ w
      exact wk_self (loop_hid up st ds _ h1 n1 w)
/-- what is left behind such a list -/
def hidQ (Q : KQ) : KQ := fun d h' => ∃ p vs h0, d = .ref p ∧ h0 p = none ∧ h' = ups h0 p (.lst vs) ∧ Q (.rol vs) h0
theorem comp_hid (F : FnR P.fn) {elt : Ex} {tg : Tg} {it : It} {ifs : ExL} {own : List (Str × Nat)} {sd : Sl} {th : TH} {Q : KQ} (q : wE P (.compR elt tg it ifs own) sd th Q E) : wE P (.comp elt tg it ifs own) sd th (hidQ Q) E := by
  have q2 : wI P it sd th (fun ds g h1 => loopR g (fun d h2 kv kn => bindT tg d (Tq.wipe sd (own.map (·.2))) fun σ2 => wC P ifs σ2 h2 (fun b h3 => if b = true then wE P elt σ2 h3 kv noE else kn h3) noE) ds [] h1 fun vs h2 => Q (.rol vs) h2) E := q
  refine wI_rel F Rel.eq it sd rfl (eqR E) ?_ (wI_up F q2)
  rintro ds g g' h1 h2 rfl gg ⟨up, z⟩ p hp
  have z2 := loop_hid up (p := p) ?_ ds [] h1 hp z
  · refine loopC_rel Rel.eq (g := g) (g' := g') (fun h h' e z => gg h h' e z) ?_ ?_ ds _ _ rfl z2
    · rintro h h' rfl ⟨vs, h0, n, e, z⟩
      exact ⟨p, vs, h0, rfl, n, e, z⟩
    · rintro d h h' kv kn kv' kn' rfl iv inn z
      refine bindT_i (tg := tg) (d := d) (σ := Tq.wipe sd (own.map (·.2))) (k := fun s => wC P ifs s h (fun b h5 => if b = true then wE P elt s h5 kv noE else kn h5) noE) (k' := fun s => wC P ifs s h (fun b h5 => if b = true then wE P elt s h5 kv' noE else kn' h5) noE) (fun s z => ?_) z
      refine wC_rel F Rel.eq ifs s rfl (noE_rel _) (fun b h5 h6 e z => ?_) z
      subst e
      cases b with
      | true => exact wE_rel F Rel.eq elt s rfl (noE_rel _) iv z
      | false => exact inn _ _ rfl z
  · rintro o d h h' kv kn kv' kn' r iv inn z
    refine bindT_i (tg := tg) (d := d) (σ := Tq.wipe sd (own.map (·.2))) (k := fun s => wC P ifs s h (fun b h5 => if b = true then wE P elt s h5 kv noE else kn h5) noE) (k' := fun s => wC P ifs s h' (fun b h5 => if b = true then wE P elt s h5 kv' noE else kn' h5) noE) (fun s z => ?_) z
    refine wC_rel F (Rel.one p o) ifs s r (noE_rel _) (fun b h5 h6 r2 z => ?_) z
    cases b with
    | true => exact wE_rel F (Rel.one p o) elt s r2 (noE_rel _) iv z
    | false => exact inn _ _ r2 z
theorem rep_hid {K : PySem.W.Frag} {mg : Mg} {H : Hp} {p : Addr} {vs : List D} {h0 : TH} (n : h0 p = none) (rh : RepH K mg H (ups h0 p (.lst vs))) : ∃ ws, H p = some (.lst ws) ∧ ∀ od, Keep H (upd H p (.frz od (.lst ws))) ∧ RepL K mg (upd H p (.frz od (.lst ws))) vs ws ∧ RepH K mg (upd H p (.frz od (.lst ws))) h0 := by
  obtain ⟨ws, e, l⟩ := rh p (.lst vs) ups_same
  refine ⟨ws, e, fun od => ?_⟩
  have k : Keep H (upd H p (.frz od (.lst ws))) := Keep.put e (fun _ z => by cases z) (fun _ _ z => by cases z)
  refine ⟨k, l.keep k, fun a o ea => ?_⟩
  have ne : a ≠ p := fun z => by rw [z, n] at ea; cases ea
  exact (rh a o (by rw [ups_ne ne]; exact ea)).keep k (upd_ne ne)
theorem hid_LQ {K : PySem.W.Frag} {mg : Mg} {Qt : KQ} {H : Hp} {Q : VK} (hq : LQ K mg Qt H Q) : LQ K mg (hidQ Qt) H (frzQ Q) := by
  rintro d th v H' ⟨p, vs, h0, rfl, n, rfl, q⟩ k r rh
  cases r
  obtain ⟨ws, e, f⟩ := rep_hid n rh
  refine ⟨p, ws, rfl, e, fun od => ?_⟩
  obtain ⟨k2, l, rh2⟩ := f od
  exact hq _ _ _ _ q (k.trans k2) ⟨p, ws, rfl, .inl ⟨od, upd_same⟩, l⟩ rh2
theorem compR_imp (F : FnR P.fn) {elt : Ex} {tg : Tg} {it : It} {ifs : ExL} {own : List (Str × Nat)} (hown : (tgIx tg).all (fun i => (own.map (·.2)).contains i) = true) :
    ∀ σ H Q, lE X Hx (fun sd th Q => wE P (.compR elt tg it ifs own) sd th Q E) σ H Q →
      tLc (lI X Hx fun sd th Q => wI P it sd th Q E) (tgG X.K tg) (lT X Hx fun sd th Q => wC P ifs sd th Q noE) (lE X Hx fun sd th Q => wE P elt sd th Q noE) (own.map (·.2)) σ H (frzQ Q) :=
  fun σ H Q ⟨sd, th, Qt, rs, rh, q, hq⟩ => comp_imp hown σ H _ ⟨sd, th, hidQ Qt, rs, rh, comp_hid F q, hid_LQ hq⟩
end
end Tq
/-! UD6: all expressions. -/
namespace Tq
open PySem L2 PyProof.Rows
def OkE (a : Ex) : Prop := ∀ (P : Env) (c : CC) (sc : Scope) (d : Bool) (E : EQ) (X : Cx) (Hx : Hp) (e : PySem.Expr), chk c a sc e = true → Gd P c sc d E X Hx → PE X e (lE X Hx fun sd th Q => wE P a sd th Q E)
def OkT (a : Ex) : Prop := ∀ (P : Env) (c : CC) (sc : Scope) (d : Bool) (E : EQ) (X : Cx) (Hx : Hp) (e : PySem.Expr), chk c a sc e = true → Gd P c sc d E X Hx → PT X e (lT X Hx fun sd th Q => wT P a sd th Q E)
def OkL (r : ExL) : Prop := ∀ (P : Env) (c : CC) (sc : Scope) (d : Bool) (E : EQ) (X : Cx) (Hx : Hp) (es : List PySem.Expr), chkL c r sc es = true → Gd P c sc d E X Hx → PA X es (lA X Hx fun sd th Q => wL P r sd th Q E)
def OkBV (r : ExL) : Prop := ∀ (P : Env) (c : CC) (sc : Scope) (d : Bool) (E : EQ) (X : Cx) (Hx : Hp) (es : List PySem.Expr) (t : Bool) (t0 : Sl → TH → KQ → Prop) (x : PySem.Expr) (pos : Pos), chkL c r sc es = true → Gd P c sc d E X Hx → PE X x (lE X Hx t0) →
  PE X (.BoolOp (opB t) (x :: es) pos) (lE X Hx fun sd th Q => t0 sd th fun v h1 => match v with | .bl b => (if b = t then wB P t r sd h1 Q E else Q (.bl b) h1) | _ => False)
def OkBT (r : ExL) : Prop := ∀ (P : Env) (c : CC) (sc : Scope) (d : Bool) (E : EQ) (X : Cx) (Hx : Hp) (es : List PySem.Expr) (t : Bool) (t0 : Sl → TH → (Bool → TH → Prop) → Prop) (x : PySem.Expr) (pos : Pos), chkL c r sc es = true → Gd P c sc d E X Hx → PT X x (lT X Hx t0) →
  PW X (.BoolOp (opB t) (x :: es) pos) (lT X Hx fun sd th Q => t0 sd th fun b h1 => if b = t then wBT P t r sd h1 Q E else Q b h1)
def OkC (r : ExL) : Prop := ∀ (P : Env) (c : CC) (sc : Scope) (d : Bool) (E : EQ) (X : Cx) (Hx : Hp) (es : List PySem.Expr), chkC c r sc es = true → Gd P c sc d E X Hx → PTs X es (lT X Hx fun sd th Q => wC P r sd th Q E)
def OkP (ps : ExP) : Prop := ∀ (P : Env) (c : CC) (sc : Scope) (d : Bool) (E : EQ) (X : Cx) (Hx : Hp) (pos : Pos) (ks : List (Option PySem.Expr)) (vs : List PySem.Expr), chkP c ps sc ks vs = true → Gd P c sc d E X Hx →
  PPs X pos ks vs (trsOf X Hx P E ps) ∧ ks.all (·.isSome) = true ∧ ks.length = vs.length ∧ lenP ps = ks.length
def OkO (o : ExO) : Prop := ∀ (P : Env) (c : CC) (sc : Scope) (d : Bool) (E : EQ) (X : Cx) (Hx : Hp) (e : Option PySem.Expr), chkO c o sc e = true → Gd P c sc d E X Hx → PO X e (lO X Hx fun sd th Q => wO P o sd th Q E)
def OkI (it : It) : Prop := ∀ (P : Env) (c : CC) (sc : Scope) (d : Bool) (E : EQ) (X : Cx) (Hx : Hp) (tg e : PySem.Expr), chkI c it sc e = true → Gd P c sc d E X Hx → PI X tg e (lI X Hx fun sd th Q => wI P it sd th Q E) ∧ ∀ x, foldedSetIterable e X.env x = pure x
section
variable {P : Env} {c : CC} {sc : Scope} {d : Bool} {E : EQ} {X : Cx} {Hx : Hp}
/-! ### the shapes of what is told -/
theorem and2 {a b : Bool} (h : (a && b) = true) : a = true ∧ b = true := by rw [Bool.and_eq_true] at h; exact h
theorem dec_of {p : Prop} [Decidable p] (h : decide p = true) : p := of_decide_eq_true h
theorem off {p : Prop} (h : false = true) : p := Bool.noConfusion h
end
mutual
theorem okE : ∀ a : Ex, OkE a ∧ OkT a
  | .slot i => by
    have e1 : OkE (.slot i) := fun P c sc d E X Hx e h g => by
      cases e with
      | Name x p =>
        have h : (decide (c.N[i]? = some x) && visB sc x && okName x) = true := h
        obtain ⟨h, h3⟩ := and2 h
        obtain ⟨h1, h2⟩ := and2 h
        exact slot_E g (dec_of h1) h2 h3
      | _ => exact off h
    refine ⟨e1, fun P c sc d E X Hx e h g => ?_⟩
    have z := e1 P c sc d E X Hx e h g
    cases e with
    | Name x p =>
      refine PT.imp (tru_T z fun _ => rfl) fun σ H Q q => q
    | _ => exact off h
  | .kint i => ⟨fun P c sc d E X Hx e h g => by
      cases e with
      | Constant k j p =>
        cases k with
        | int n =>
          obtain rfl : i = n := dec_of h
          exact const_E pe_int fun H => rfl
        | _ => exact off h
      | _ => exact off h, fun P c sc d E X Hx e h g => no_T⟩
  | .kbl i => ⟨fun P c sc d E X Hx e h g => by
      cases e with
      | Constant k j p =>
        cases k with
        | bool n =>
          obtain rfl : i = n := dec_of h
          exact const_E pe_bl fun H => rfl
        | _ => exact off h
      | _ => exact off h, fun P c sc d E X Hx e h g => no_T⟩
  | .knon => ⟨fun P c sc d E X Hx e h g => by
      cases e with
      | Constant k j p =>
        cases k with
        | none => exact const_E pe_non fun H => rfl
        | _ => exact off h
      | _ => exact off h, fun P c sc d E X Hx e h g => no_T⟩
  | .kstr cs => ⟨fun P c sc d E X Hx e h g => by
      cases e with
      | Constant k j p =>
        cases k with
        | str n =>
          obtain rfl : n = ⟨cs.toArray⟩ := dec_of h
          exact const_E pe_str fun H => rfl
        | _ => exact off h
      | _ => exact off h, fun P c sc d E X Hx e h g => no_T⟩
  | .glo x => ⟨fun P c sc d E X Hx e h g => by
      cases e with
      | Name y p =>
        have h : (decide (x = y) && glbB sc x && okName x) = true := h
        obtain ⟨h, h3⟩ := and2 h
        obtain ⟨h1, h2⟩ := and2 h
        obtain rfl : x = y := dec_of h1
        constructor
        intro pins s σ H Q I q
        obtain ⟨sd, th, Qt, rs, rh, q, hq⟩ := q
        obtain ⟨v, ev, q⟩ := need_iff.mp q
        obtain ⟨u, w, hm, r, rep⟩ := g.gl x v ev
        exact (pe_glob (glb_of g h2) hm r (nm_of h3).1).run pins s σ H Q I (hq.at q (rep H) rh)
      | _ => exact off h, fun P c sc d E X Hx e h g => no_T⟩
  | .bin op a b => ⟨fun P c sc d E X Hx e h g => by
      cases e with
      | BinOp l o r p =>
        have h : (decide (op = o) && chk c a sc l && chk c b sc r) = true := h
        obtain ⟨h, h3⟩ := and2 h
        obtain ⟨h1, h2⟩ := and2 h
        obtain rfl : op = o := dec_of h1
        exact PE.imp (pe_op (bin_L op) ((okE a).1 P c sc d E X Hx l h2 g) ((okE b).1 P c sc d E X Hx r h3 g)) (bin_imp (t1 := fun sd th Q => wE P a sd th Q E) (t2 := fun sd th Q => wE P b sd th Q E) (o := binQ op))
      | _ => exact off h, fun P c sc d E X Hx e h g => no_T⟩
  | .neg a => ⟨fun P c sc d E X Hx e h g => by
      cases e with
      | UnaryOp o x p =>
        cases o with
        | USub => exact neg_E ((okE a).1 P c sc d E X Hx x h g)
        | _ => exact off h
      | _ => exact off h, fun P c sc d E X Hx e h g => no_T⟩
  | .not a => by
    refine ⟨fun P c sc d E X Hx e h g => ?_, fun P c sc d E X Hx e h g => ?_⟩
    · cases e with
      | UnaryOp o x p =>
        cases o with
        | Not => exact not_E ((okE a).1 P c sc d E X Hx x h g)
        | _ => exact off h
      | _ => exact off h
    · cases e with
      | UnaryOp o x p =>
        cases o with
        | Not =>
          refine PT.imp (pt_not ((okE a).2 P c sc d E X Hx x h g)) fun σ H Q ⟨sd, th, Qt, rs, rh, q, hq⟩ => ⟨sd, th, _, rs, rh, q, fun b th1 H1 q1 k1 rh1 => hq _ _ _ q1 k1 rh1⟩
        | _ => exact off h
      | _ => exact off h
  | .bop t a r => by
    refine ⟨fun P c sc d E X Hx e h g => ?_, fun P c sc d E X Hx e h g => ?_⟩
    · cases e with
      | BoolOp o es p =>
        have h : ((match (generalizing := false) o with | .And => t | .Or => !t) && (match (generalizing := false) es with
          | e :: es => chk c a sc e && chkL c r sc es
          | _ => false)) = true := h
        obtain ⟨h1, h2⟩ := and2 h
        cases es with
        | nil => exact off h2
        | cons x es =>
          obtain ⟨h2, h3⟩ := and2 h2
          have eo : o = opB t := by cases o <;> cases t <;> first | rfl | exact off h1
          subst eo
          exact PE.imp ((okEL r).2.1 P c sc d E X Hx es t _ x p h3 g ((okE a).1 P c sc d E X Hx x h2 g)) fun σ H Q q => q
      | _ => exact off h
    · cases e with
      | BoolOp o es p =>
        have h : ((match (generalizing := false) o with | .And => t | .Or => !t) && (match (generalizing := false) es with
          | e :: es => chk c a sc e && chkL c r sc es
          | _ => false)) = true := h
        obtain ⟨h1, h2⟩ := and2 h
        cases es with
        | nil => exact off h2
        | cons x es =>
          obtain ⟨h2, h3⟩ := and2 h2
          have eo : o = opB t := by cases o <;> cases t <;> first | rfl | exact off h1
          subst eo
          exact PT.imp ((okEL r).2.2.1 P c sc d E X Hx es t _ x p h3 g ((okE a).2 P c sc d E X Hx x h2 g)).pt fun σ H Q q => q
      | _ => exact off h
  | .cmp op a b => by
    refine ⟨fun P c sc d E X Hx e h g => ?_, fun P c sc d E X Hx e h g => ?_⟩
    · cases e with
      | Compare l ops rs p =>
        match ops, rs, h with
        | [o], [r], h =>
          have h : (decide (op = o) && chk c a sc l && chk c b sc r) = true := h
          obtain ⟨h, h3⟩ := and2 h
          obtain ⟨h1, h2⟩ := and2 h
          obtain rfl : op = o := dec_of h1
          exact PE.imp (pe_cmpR (cmp_L g.wd g.un op) ((okE a).1 P c sc d E X Hx l h2 g) ((okE b).1 P c sc d E X Hx r h3 g) (marks_chk h3 op)) (bin_imp (t1 := fun sd th Q => wE P a sd th Q E) (t2 := fun sd th Q => wE P b sd th Q E) (o := fun a b h Q => cmpT P op a b h fun t => Q (.bl t) h))
        | [], _, h => exact off h
        | _ :: _ :: _, _, h => exact off h
        | [_], [], h => exact off h
        | [_], _ :: _ :: _, h => exact off h
      | _ => exact off h
    · cases e with
      | Compare l ops rs p =>
        match ops, rs, h with
        | [o], [r], h =>
          have h : (decide (op = o) && chk c a sc l && chk c b sc r) = true := h
          obtain ⟨h, h3⟩ := and2 h
          obtain ⟨h1, h2⟩ := and2 h
          obtain rfl : op = o := dec_of h1
          exact PT.imp (pt_cmpR (cmp_L g.wd g.un op) ((okE a).1 P c sc d E X Hx l h2 g) ((okE b).1 P c sc d E X Hx r h3 g) (marks_chk h3 op)) (lE_lT (t0 := fun sd th Q => wE P (.cmp op a b) sd th Q E) (bin_imp (t1 := fun sd th Q => wE P a sd th Q E) (t2 := fun sd th Q => wE P b sd th Q E) (o := fun a b h Q => cmpT P op a b h fun t => Q (.bl t) h)))
        | [], _, h => exact off h
        | _ :: _ :: _, _, h => exact off h
        | [_], [], h => exact off h
        | [_], _ :: _ :: _, h => exact off h
      | _ => exact off h
  | .chn op op2 a b f => by
    refine ⟨fun P c sc d E X Hx e h g => ?_, fun P c sc d E X Hx e h g => ?_⟩
    · cases e with
      | Compare l ops rs p =>
        match ops, rs, h with
        | [o, o2], [r, r2], h =>
          have h : (decide (op = o) && decide (op2 = o2) && chk c a sc l && chk c b sc r && chk c f sc r2) = true := h
          obtain ⟨h, h5⟩ := and2 h
          obtain ⟨h, h4⟩ := and2 h
          obtain ⟨h, h3⟩ := and2 h
          obtain ⟨h1, h2⟩ := and2 h
          obtain rfl : op = o := dec_of h1
          obtain rfl : op2 = o2 := dec_of h2
          exact PE.imp (pe_chain (cmp_L g.wd g.un op) (cmp_L g.wd g.un op2) ((okE a).1 P c sc d E X Hx l h3 g) ((okE b).1 P c sc d E X Hx r h4 g) ((okE f).1 P c sc d E X Hx r2 h5 g) (last_chk h5 op op2 r)) (chn_imp (t1 := fun sd th Q => wE P a sd th Q E) (t2 := fun sd th Q => wE P b sd th Q E) (t3 := fun sd th Q => wE P f sd th Q E) (o := fun a b h k => cmpT P op a b h k) (o2 := fun a b h k => cmpT P op2 a b h k))
        | [], _, h => exact off h
        | [_], _, h => exact off h
        | _ :: _ :: _ :: _, _, h => exact off h
        | [_, _], [], h => exact off h
        | [_, _], [_], h => exact off h
        | [_, _], _ :: _ :: _ :: _, h => exact off h
      | _ => exact off h
    · cases e with
      | Compare l ops rs p =>
        match ops, rs, h with
        | [o, o2], [r, r2], h =>
          have h : (decide (op = o) && decide (op2 = o2) && chk c a sc l && chk c b sc r && chk c f sc r2) = true := h
          obtain ⟨h, h5⟩ := and2 h
          obtain ⟨h, h4⟩ := and2 h
          obtain ⟨h, h3⟩ := and2 h
          obtain ⟨h1, h2⟩ := and2 h
          obtain rfl : op = o := dec_of h1
          obtain rfl : op2 = o2 := dec_of h2
          exact PT.imp (pt_chain (cmp_L g.wd g.un op) (cmp_L g.wd g.un op2) ((okE a).1 P c sc d E X Hx l h3 g) ((okE b).1 P c sc d E X Hx r h4 g) ((okE f).1 P c sc d E X Hx r2 h5 g) (last_chk h5 op op2 r)) (lE_lT (t0 := fun sd th Q => wE P (.chn op op2 a b f) sd th Q E) (chn_imp (t1 := fun sd th Q => wE P a sd th Q E) (t2 := fun sd th Q => wE P b sd th Q E) (t3 := fun sd th Q => wE P f sd th Q E) (o := fun a b h k => cmpT P op a b h k) (o2 := fun a b h k => cmpT P op2 a b h k)))
        | [], _, h => exact off h
        | [_], _, h => exact off h
        | _ :: _ :: _ :: _, _, h => exact off h
        | [_, _], [], h => exact off h
        | [_, _], [_], h => exact off h
        | [_, _], _ :: _ :: _ :: _, h => exact off h
      | _ => exact off h
  | .ife t a b => ⟨fun P c sc d E X Hx e h g => by
      cases e with
      | IfExp e x y p =>
        have h : (chk c t sc e && chk c a sc x && chk c b sc y) = true := h
        obtain ⟨h, h3⟩ := and2 h
        obtain ⟨h1, h2⟩ := and2 h
        exact ife_E ((okE t).2 P c sc d E X Hx e h1 g) ((okE a).1 P c sc d E X Hx x h2 g) ((okE b).1 P c sc d E X Hx y h3 g)
      | _ => exact off h, fun P c sc d E X Hx e h g => no_T⟩
  | .ix a b => by
    have e1 : OkE (.ix a b) := fun P c sc d E X Hx e h g => by
      cases e with
      | Subscript l r p =>
        have h : (chk c a sc l && chk c b sc r) = true := h
        obtain ⟨h1, h2⟩ := and2 h
        exact ix_E g ((okE a).1 P c sc d E X Hx l h1 g) ((okE b).1 P c sc d E X Hx r h2 g) h2
      | _ => exact off h
    refine ⟨e1, fun P c sc d E X Hx e h g => ?_⟩
    have z := e1 P c sc d E X Hx e h g
    cases e with
    | Subscript l r p => exact PT.imp (tru_T z fun _ => rfl) fun σ H Q q => q
    | _ => exact off h
  | .sl a lo hi => ⟨fun P c sc d E X Hx e h g => by
      cases e with
      | Subscript l s p =>
        cases s with
        | Slice l2 h2 st q =>
          cases st with
          | none =>
            have h : (chk c a sc l && chkO c lo sc l2 && chkO c hi sc h2) = true := h
            obtain ⟨h, h3⟩ := and2 h
            obtain ⟨h1, hh2⟩ := and2 h
            exact sl_E ((okE a).1 P c sc d E X Hx l h1 g) (okO lo P c sc d E X Hx l2 hh2 g) (okO hi P c sc d E X Hx h2 h3 g)
          | some _ => exact off h
        | _ => exact off h
      | _ => exact off h, fun P c sc d E X Hx e h g => no_T⟩
  | .tup es => ⟨fun P c sc d E X Hx e h g => by
      cases e with
      | Tuple xs k p => exact tup_E ((okEL es).1 P c sc d E X Hx xs h g)
      | _ => exact off h, fun P c sc d E X Hx e h g => no_T⟩
  | .lst es => ⟨fun P c sc d E X Hx e h g => by
      cases e with
      | List xs p => exact lst_E ((okEL es).1 P c sc d E X Hx xs h g)
      | _ => exact off h, fun P c sc d E X Hx e h g => no_T⟩
  | .dic ps => ⟨fun P c sc d E X Hx e h g => by
      cases e with
      | Dict ks vs p =>
        have h : (chkP c ps sc ks vs && decide (ks.length ≤ 15)) = true := h
        obtain ⟨h1, h2⟩ := and2 h
        obtain ⟨a1, a2, a3, a4⟩ := okP ps P c sc d E X Hx p ks vs h1 g
        exact dic_E a1 a2 a3 a4 (dec_of h2)
      | _ => exact off h, fun P c sc d E X Hx e h g => no_T⟩
  | .call f es => by
    have e1 : OkE (.call f es) := fun P c sc d E X Hx e h g => by
      cases e with
      | Call gf xs kw p =>
        cases gf with
        | Name x q =>
          cases kw with
          | nil =>
            have h : (decide (f = x) && glbB sc x && okName x && chkL c es sc xs && decide (c.fns.lookup f = some xs.length)) = true := h
            obtain ⟨h, h5⟩ := and2 h
            obtain ⟨h, h4⟩ := and2 h
            obtain ⟨h, h3⟩ := and2 h
            obtain ⟨h1, h2⟩ := and2 h
            obtain rfl : f = x := dec_of h1
            exact call_E g ((okEL es).1 P c sc d E X Hx xs h4 g) h4 h2 h3 (dec_of h5)
          | cons _ _ => exact off h
        | _ => exact off h
      | _ => exact off h
    refine ⟨e1, fun P c sc d E X Hx e h g => ?_⟩
    have z := e1 P c sc d E X Hx e h g
    cases e with
    | Call _ _ _ p => exact PT.imp (tru_T z fun _ => rfl) fun σ H Q q => q
    | _ => exact off h
  | .blt f es => by
    have e1 : OkE (.blt f es) := fun P c sc d E X Hx e h g => by
      cases e with
      | Call gf xs kw p =>
        cases gf with
        | Name x q =>
          cases kw with
          | nil =>
            have h : (decide (bfName f = x) && bfOk f && bltB c sc x && chkL c es sc xs && !xs.isEmpty) = true := h
            obtain ⟨h, h5⟩ := and2 h
            obtain ⟨h, h4⟩ := and2 h
            obtain ⟨h, h3⟩ := and2 h
            obtain ⟨h1, h2⟩ := and2 h
            exact blt_E g ((okEL es).1 P c sc d E X Hx xs h4 g) h4 (dec_of h1) h2 h3 (by simpa using h5)
          | cons _ _ => exact off h
        | _ => exact off h
      | _ => exact off h
    refine ⟨e1, fun P c sc d E X Hx e h g => ?_⟩
    have z := e1 P c sc d E X Hx e h g
    cases e with
    | Call _ _ _ p => exact PT.imp (tru_T z fun _ => rfl) fun σ H Q q => q
    | _ => exact off h
  | .isi a t => by
    have e1 : OkE (.isi a t) := fun P c sc d E X Hx e h g => by
      cases e with
      | Call gf xs kw p =>
        cases gf with
        | Name x q =>
          cases kw with
          | nil =>
            match xs, h with
            | [e, e2], h =>
              cases e2 with
              | Name y q2 =>
                have h : (decide (x = ("isinstance" : Str)) && bltB c sc x && decide (y = tyStr t) && bltB c sc y && chk c a sc e) = true := h
                obtain ⟨h, h5⟩ := and2 h
                obtain ⟨h, h4⟩ := and2 h
                obtain ⟨h, h3⟩ := and2 h
                obtain ⟨h1, h2⟩ := and2 h
                obtain rfl : x = ("isinstance" : Str) := dec_of h1
                obtain rfl : y = tyStr t := dec_of h3
                exact isi_E g ((okE a).1 P c sc d E X Hx e h5 g) h5 h2 h4
              | _ => exact off h
            | [], h => exact off h
            | [_], h => exact off h
            | _ :: e2 :: _ :: _, h => cases e2 <;> exact off h
          | cons _ _ => exact off h
        | _ => exact off h
      | _ => exact off h
    refine ⟨e1, fun P c sc d E X Hx e h g => ?_⟩
    have z := e1 P c sc d E X Hx e h g
    cases e with
    | Call _ _ _ p =>
      refine PT.imp (pt_val z fun _ => rfl) fun σ H Q ⟨sd, th, Qt, rs, rh, q, hq⟩ => ⟨sd, th, toB Qt, rs, rh, q, fun dd th1 v H1 q1 k1 r1 rh1 => ?_⟩
      cases dd with
      | bl b => cases r1; exact ⟨b, rfl, hq b th1 H1 q1 k1 rh1⟩
      | _ => exact (show False from q1).elim
    | _ => exact off h
  | .meth a b f o es => ⟨fun P c sc d E X Hx e h g => by cases e <;> exact off h, fun P c sc d E X Hx e h g => by cases e <;> exact off h⟩
  | .bm b o es => by
    have e1 : OkE (.bm b o es) := fun P c sc d E X Hx e h g => by
      cases e with
      | Call gf xs kw p =>
        cases gf with
        | Attribute x m ap =>
          cases kw with
          | nil =>
            have h : (decide (m = bmName b) && (ap.endLine == p.line) && noSup x && fewB xs && bmAr b xs.length && chk c o sc x && chkL c es sc xs) = true := h
            obtain ⟨h, h7⟩ := and2 h
            obtain ⟨h, h6⟩ := and2 h
            obtain ⟨h, h5⟩ := and2 h
            obtain ⟨h, h4⟩ := and2 h
            obtain ⟨h, h3⟩ := and2 h
            obtain ⟨h1, h2⟩ := and2 h
            obtain rfl : m = bmName b := dec_of h1
            refine bm_E g ((okE o).1 P c sc d E X Hx x h6 g) ?_ ?_ ((okEL es).1 P c sc d E X Hx xs h7 g) h7 h2 h3 h4 h5
            · exact (okEL es).2.2.2.2.1 P c sc d E X Hx xs h7 g
            · exact (okEL es).2.2.2.2.2 P c sc d E X Hx xs h7 g
          | cons _ _ => exact off h
        | _ => exact off h
      | _ => exact off h
    refine ⟨e1, fun P c sc d E X Hx e h g => ?_⟩
    have z := e1 P c sc d E X Hx e h g
    cases e with
    | Call _ _ _ p => exact PT.imp (tru_T z fun _ => rfl) fun σ H Q q => q
    | _ => exact off h
  | .new a f es => ⟨fun P c sc d E X Hx e h g => by cases e <;> exact off h, fun P c sc d E X Hx e h g => no_T⟩
  | .fld o cc f => ⟨fun P c sc d E X Hx e h g => by cases e <;> exact off h, fun P c sc d E X Hx e h g => no_T⟩
  | .orT a b => ⟨fun P c sc d E X Hx e h g => by cases e <;> exact off h, fun P c sc d E X Hx e h g => by cases e <;> exact off h⟩
  | .sl2 a b => ⟨fun P c sc d E X Hx e h g => by cases e <;> exact off h, fun P c sc d E X Hx e h g => by cases e <;> exact off h⟩
  | .dsel a b k => ⟨fun P c sc d E X Hx e h g => by cases e <;> exact off h, fun P c sc d E X Hx e h g => by cases e <;> exact off h⟩
  | .lzip a b => ⟨fun P c sc d E X Hx e h g => by cases e <;> exact off h, fun P c sc d E X Hx e h g => by cases e <;> exact off h⟩
  | .isi2 a b => ⟨fun P c sc d E X Hx e h g => by cases e <;> exact off h, fun P c sc d E X Hx e h g => by cases e <;> exact off h⟩
  | .lstR es => ⟨fun P c sc d E X Hx e h g => by
      cases e with
      | List xs p => exact lstR_E ((okEL es).1 P c sc d E X Hx xs h g)
      | _ => exact off h, fun P c sc d E X Hx e h g => no_T⟩
  | .frz i => ⟨fun P c sc d E X Hx e h g => by
      cases e with
      | Name x p =>
        have h : (decide (c.N[i]? = some x) && visB sc x && okName x) = true := h
        obtain ⟨h, h3⟩ := and2 h
        obtain ⟨h1, h2⟩ := and2 h
        exact frz_E g (dec_of h1) h2 h3
      | _ => exact off h, fun P c sc d E X Hx e h g => no_T⟩
  | .mkl a => ⟨fun P c sc d E X Hx e h g => by
      cases e with
      | Call gf xs kw p =>
        unfold chk at h
        split at h
        · rename_i x q y
          have h : (decide (x = ("list" : Str)) && bltB c sc x && chk c a sc y) = true := h
          obtain ⟨h, h3⟩ := and2 h
          obtain ⟨h1, h2⟩ := and2 h
          obtain rfl : x = ("list" : Str) := dec_of h1
          exact mkl_E g ((okE a).1 P c sc d E X Hx y h3 g) h3 h2
        · exact off h
      | _ => exact off h, fun P c sc d E X Hx e h g => no_T⟩
  | .lset a => ⟨fun P c sc d E X Hx e h g => by
      cases e with
      | Call gf xs kw p =>
        unfold chk at h
        split at h
        · rename_i x q y q2 z q3
          have h : (decide (x = ("len" : Str)) && bltB c sc x && decide (y = ("set" : Str)) && bltB c sc y && chk c a sc z) = true := h
          obtain ⟨h, h5⟩ := and2 h
          obtain ⟨h, h4⟩ := and2 h
          obtain ⟨h, h3⟩ := and2 h
          obtain ⟨h1, h2⟩ := and2 h
          obtain rfl : x = ("len" : Str) := dec_of h1
          obtain rfl : y = ("set" : Str) := dec_of h3
          exact lset_E g ((okE a).1 P c sc d E X Hx z h5 g) h5 h2 h4
        · exact off h
      | _ => exact off h, fun P c sc d E X Hx e h g => no_T⟩
  | .comp elt tg it ifs own => ⟨fun P c sc d E X Hx e h g => by
      cases e with
      | ListComp x gs scope p =>
        match gs, h with
        | [⟨t, i, fs, .ofNat 0⟩], h =>
          have h : (blkB c.N sc scope own && chk c elt (Tq.relS sc scope) x && chkTg c (Tq.relS sc scope) false tg t && (tgIx tg).all (fun i => (own.map (·.2)).contains i) && chkI c it sc i && chkC c ifs (Tq.relS sc scope) fs) = true := h
          obtain ⟨h, h6⟩ := and2 h
          obtain ⟨h, h5⟩ := and2 h
          obtain ⟨h, h4⟩ := and2 h
          obtain ⟨h, h3⟩ := and2 h
          obtain ⟨h1, h2⟩ := and2 h
          obtain ⟨hi, hf⟩ := okI it P c sc d E X Hx t i h5 g
          have ok : BlkOk X.N X.env.scope scope own := by rw [g.nN, g.scp]; exact blk_of h1
          refine PE.imp (pe_lc (wi := lI X Hx fun sd th Q => wI P it sd th Q E) (g := tgG X.K tg) (tt := lT X Hx fun sd th Q => wC P ifs sd th Q noE) (te := lE X Hx fun sd th Q => wE P elt sd th Q noE) g.calm (by rw [g.nN]; exact g.nd) hi ok ?_ ?_ ?_ hf) (comp_imp h4)
          · exact fun s H C cl fp => pg_chk (g.blk s H scope C cl fp) h3
          · exact fun s H C cl fp => (okEL ifs).2.2.2.1 P c _ false noE _ Hx fs h6 (g.blk s H scope C cl fp)
          · exact fun s H C cl fp => (okE elt).1 P c _ false noE _ Hx x h2 (g.blk s H scope C cl fp)
        | [], h => exact off h
        | ⟨t2, i2, f2, .ofNat 0⟩ :: _ :: _, h => exact off h
        | ⟨t2, i2, f2, .ofNat (n2 + 1)⟩ :: _ :: _, h => exact off h
        | ⟨t2, i2, f2, .negSucc n2⟩ :: _ :: _, h => exact off h
        | [⟨t2, i2, f2, .ofNat (n2 + 1)⟩], h => exact off h
        | [⟨t2, i2, f2, .negSucc n2⟩], h => exact off h
      | _ => exact off h, fun P c sc d E X Hx e h g => no_T⟩
  | .compR elt tg it ifs own => ⟨fun P c sc d E X Hx e h g => by
      cases e with
      | ListComp x gs scope p =>
        match gs, h with
        | [⟨t, i, fs, .ofNat 0⟩], h =>
          have h : (blkB c.N sc scope own && chk c elt (Tq.relS sc scope) x && chkTg c (Tq.relS sc scope) false tg t && (tgIx tg).all (fun i => (own.map (·.2)).contains i) && chkI c it sc i && chkC c ifs (Tq.relS sc scope) fs) = true := h
          obtain ⟨h, h6⟩ := and2 h
          obtain ⟨h, h5⟩ := and2 h
          obtain ⟨h, h4⟩ := and2 h
          obtain ⟨h, h3⟩ := and2 h
          obtain ⟨h1, h2⟩ := and2 h
          obtain ⟨hi, hf⟩ := okI it P c sc d E X Hx t i h5 g
          have ok : BlkOk X.N X.env.scope scope own := by rw [g.nN, g.scp]; exact blk_of h1
          refine PE.imp (PE.frz (pe_lc (wi := lI X Hx fun sd th Q => wI P it sd th Q E) (g := tgG X.K tg) (tt := lT X Hx fun sd th Q => wC P ifs sd th Q noE) (te := lE X Hx fun sd th Q => wE P elt sd th Q noE) g.calm (by rw [g.nN]; exact g.nd) hi ok ?_ ?_ ?_ hf)) (compR_imp g.rel h4)
          · exact fun s H C cl fp => pg_chk (g.blk s H scope C cl fp) h3
          · exact fun s H C cl fp => (okEL ifs).2.2.2.1 P c _ false noE _ Hx fs h6 (g.blk s H scope C cl fp)
          · exact fun s H C cl fp => (okE elt).1 P c _ false noE _ Hx x h2 (g.blk s H scope C cl fp)
        | [], h => exact off h
        | ⟨t2, i2, f2, .ofNat 0⟩ :: _ :: _, h => exact off h
        | ⟨t2, i2, f2, .ofNat (n2 + 1)⟩ :: _ :: _, h => exact off h
        | ⟨t2, i2, f2, .negSucc n2⟩ :: _ :: _, h => exact off h
        | [⟨t2, i2, f2, .ofNat (n2 + 1)⟩], h => exact off h
        | [⟨t2, i2, f2, .negSucc n2⟩], h => exact off h
      | _ => exact off h, fun P c sc d E X Hx e h g => no_T⟩
termination_by structural a => a
theorem okEL : ∀ r : ExL, OkL r ∧ OkBV r ∧ OkBT r ∧ OkC r ∧
    (∀ (P : Env) (c : CC) (sc : Scope) (d : Bool) (E : EQ) (X : Cx) (Hx : Hp) (es : List PySem.Expr), chkL c r sc es = true → Gd P c sc d E X Hx → ∀ x r', r = .cons x r' → ∀ y ys, es = y :: ys → PE X y (lE X Hx fun sd th Q => wE P x sd th Q E)) ∧
    (∀ (P : Env) (c : CC) (sc : Scope) (d : Bool) (E : EQ) (X : Cx) (Hx : Hp) (es : List PySem.Expr), chkL c r sc es = true → Gd P c sc d E X Hx → ∀ x x2 r', r = .cons x (.cons x2 r') → ∀ y y2 ys, es = y :: y2 :: ys → PE X y2 (lE X Hx fun sd th Q => wE P x2 sd th Q E))
  | .nil => by
    refine ⟨fun P c sc d E X Hx es h g => ?_, fun P c sc d E X Hx es t t0 x pos h g hx => ?_, fun P c sc d E X Hx es t t0 x pos h g hx => ?_, fun P c sc d E X Hx es h g => ?_, fun P c sc d E X Hx es h g x r' e => (by cases e), fun P c sc d E X Hx es h g x x2 r' e => (by cases e)⟩
    · cases es with
      | nil => exact nil_A
      | cons _ _ => exact off h
    · cases es with
      | nil => exact PE.imp (one_E hx) fun σ H Q q => q
      | cons _ _ => exact off h
    · cases es with
      | nil => exact PW.imp (one_T hx) fun σ H Q q => q
      | cons _ _ => exact off h
    · cases es with
      | nil => exact PTs.imp pts_nil fun σ H Q ⟨sd, th, Qt, rs, rh, q, hq⟩ => hq _ _ _ q (Keep.refl H) rh
      | cons _ _ => exact off h
  | .cons a r => by
    refine ⟨fun P c sc d E X Hx es h g => ?_, fun P c sc d E X Hx es t t0 x pos h g hx => ?_, fun P c sc d E X Hx es t t0 x pos h g hx => ?_, fun P c sc d E X Hx es h g => ?_, fun P c sc d E X Hx es h g => ?_, fun P c sc d E X Hx es h g => ?_⟩
    · cases es with
      | nil => exact off h
      | cons y ys =>
        obtain ⟨h1, h2⟩ := and2 h
        exact cons_A ((okE a).1 P c sc d E X Hx y h1 g) ((okEL r).1 P c sc d E X Hx ys h2 g) h1
    · cases es with
      | nil => exact off h
      | cons y ys =>
        obtain ⟨h1, h2⟩ := and2 h
        have ha := (okE a).1 P c sc d E X Hx y h1 g
        have hr := (okEL r).2.1
        cases r with
        | nil =>
          cases ys with
          | nil => exact PE.imp (bop_E (t := t) hx (pe_one ha)) fun σ H Q q => q
          | cons _ _ => exact off h2
        | cons b r =>
          exact PE.imp (bop_E (t := t) hx (hr P c sc d E X Hx ys t _ y pos h2 g ha)) fun σ H Q q => q
    · cases es with
      | nil => exact off h
      | cons y ys =>
        obtain ⟨h1, h2⟩ := and2 h
        have ha := (okE a).2 P c sc d E X Hx y h1 g
        exact PW.imp (bop_T (t := t) hx ((okEL r).2.2.1 P c sc d E X Hx ys t _ y pos h2 g ha)) fun σ H Q q => q
    · cases r with
      | nil =>
        match es, h with
        | [y], h =>
          have ha := (okE a).2 P c sc d E X Hx y h g
          refine PTs.imp (pts_one ha) fun σ H Q ⟨sd, th, Qt, rs, rh, q, hq⟩ => ⟨sd, th, _, rs, rh, q, fun b th1 H1 q1 k1 rh1 => ?_⟩
          have q1 : if b = true then Qt true th1 else Qt false th1 := q1
          cases b with
          | true => exact hq _ _ _ (by simpa using q1) k1 rh1
          | false => exact hq _ _ _ (by simpa using q1) k1 rh1
        | [], h => exact off h
        | _ :: _ :: _, h => exact off h
      | cons _ _ => cases es <;> exact off h
    · intro x r' e y ys e2
      injection e with e3 e4
      subst e2
      obtain ⟨h1, h2⟩ := and2 h
      rw [← e3]
      exact (okE a).1 P c sc d E X Hx y h1 g
    · intro x x2 r' e y y2 ys e2
      injection e with e3 e4
      subst e2
      obtain ⟨h1, h2⟩ := and2 h
      exact (okEL r).2.2.2.2.1 P c sc d E X Hx (y2 :: ys) h2 g x2 r' e4 y2 ys rfl
termination_by structural a => a
theorem okP : ∀ ps : ExP, OkP ps
  | .nil => fun P c sc d E X Hx pos ks vs h g => by
    cases ks with
    | nil =>
      cases vs with
      | nil => exact ⟨pps_nil, rfl, rfl, rfl⟩
      | cons _ _ => exact off h
    | cons _ _ => exact off h
  | .cons k v r => fun P c sc d E X Hx pos ks vs h g => by
    cases ks with
    | nil => exact off h
    | cons k0 ks =>
      cases k0 with
      | none => cases vs <;> exact off h
      | some x =>
        cases vs with
        | nil => exact off h
        | cons y vs =>
          have h : (chk c k sc x && chk c v sc y && chkP c r sc ks vs) = true := h
          obtain ⟨h, h3⟩ := and2 h
          obtain ⟨h1, h2⟩ := and2 h
          obtain ⟨a1, a2, a3, a4⟩ := okP r P c sc d E X Hx pos ks vs h3 g
          refine ⟨pps_cons ((okE k).1 P c sc d E X Hx x h1 g) ((okE v).1 P c sc d E X Hx y h2 g) a1, ?_, ?_, ?_⟩
          · simpa using a2
          · simpa using a3
          · show lenP r + 1 = _
            rw [a4]; rfl
termination_by structural a => a
theorem okO : ∀ o : ExO, OkO o
  | .no => fun P c sc d E X Hx e h g => by
    cases e with
    | none => exact no_O
    | some _ => exact off h
  | .yes a => fun P c sc d E X Hx e h g => by
    cases e with
    | none => exact off h
    | some x => exact yes_O ((okE a).1 P c sc d E X Hx x h g)
termination_by structural a => a
theorem okI : ∀ it : It, OkI it
  | .of a => fun P c sc d E X Hx tg e h g => ⟨of_I ((okE a).1 P c sc d E X Hx e h g), fold_chk h X.env⟩
  | .rng3 a b k => fun P c sc d E X Hx tg e h g => by cases e <;> exact off h
  | .zip a b => fun P c sc d E X Hx tg e h g => by cases e <;> exact off h
  | .enum a => fun P c sc d E X Hx tg e h g => by cases e <;> exact off h
  | .rng1 a => fun P c sc d E X Hx tg e h g => by
    cases e with
    | Call gf xs kw p =>
      cases gf with
      | Name x q =>
        cases kw with
        | nil =>
          match xs, h with
          | [e], h =>
            have h : (decide (x = ("range" : Str)) && bltB c sc x && chk c a sc e) = true := h
            obtain ⟨h, h3⟩ := and2 h
            obtain ⟨h1, h2⟩ := and2 h
            obtain rfl : x = ("range" : Str) := dec_of h1
            exact ⟨rng1_I g ((okE a).1 P c sc d E X Hx e h3 g) h3 h2, fun _ => rfl⟩
          | [], h => exact off h
          | _ :: _ :: _, h => exact off h
        | cons _ _ => exact off h
      | _ => exact off h
    | _ => exact off h
  | .rng2 a b => fun P c sc d E X Hx tg e h g => by
    cases e with
    | Call gf xs kw p =>
      cases gf with
      | Name x q =>
        cases kw with
        | nil =>
          match xs, h with
          | [e, f], h =>
            have h : (decide (x = ("range" : Str)) && bltB c sc x && chk c a sc e && chk c b sc f) = true := h
            obtain ⟨h, h4⟩ := and2 h
            obtain ⟨h, h3⟩ := and2 h
            obtain ⟨h1, h2⟩ := and2 h
            obtain rfl : x = ("range" : Str) := dec_of h1
            exact ⟨rng2_I g ((okE a).1 P c sc d E X Hx e h3 g) ((okE b).1 P c sc d E X Hx f h4 g) h3 h4 h2, fun _ => rfl⟩
          | [], h => exact off h
          | [_], h => exact off h
          | _ :: _ :: _ :: _, h => exact off h
        | cons _ _ => exact off h
      | _ => exact off h
    | _ => exact off h
termination_by structural a => a
end
end Tq
/-! UD7: statements. -/
namespace Tq
open PySem L2 PyProof.Rows
/-- the ends, said of data, are the wanted ones -/
structure EO (X : Cx) (Hx : Hp) (Dt : Tq.Ends) (H : Hp) (D : L2.Ends) : Prop where
  nx : ∀ sd th σ H', Dt.nx sd th → Keep H H' → RepT X.K X.mg Hx H' sd σ → RepH X.K X.mg H' th → D.nx σ H'
  rt : LQ X.K X.mg Dt.rt H D.rt
  bk : ∀ sd th σ H', Dt.bk sd th → Keep H H' → RepT X.K X.mg Hx H' sd σ → RepH X.K X.mg H' th → D.bk σ H'
  ct : ∀ sd th σ H', Dt.ct sd th → Keep H H' → RepT X.K X.mg Hx H' sd σ → RepH X.K X.mg H' th → D.ct σ H'
theorem EO.go {X : Cx} {Hx : Hp} {Dt : Tq.Ends} {H H1 : Hp} {D : L2.Ends} (h : EO X Hx Dt H D) (k : Keep H H1) : EO X Hx Dt H1 D :=
  ⟨fun sd th σ H' a b => h.nx sd th σ H' a (k.trans b), h.rt.go k, fun sd th σ H' a b => h.bk sd th σ H' a (k.trans b), fun sd th σ H' a b => h.ct sd th σ H' a (k.trans b)⟩
def lS (X : Cx) (Hx : Hp) (t : Sl → TH → Tq.Ends → Prop) : L2.TS := fun D σ H => ∃ sd th Dt, RepT X.K X.mg Hx H sd σ ∧ RepH X.K X.mg H th ∧ t sd th Dt ∧ EO X Hx Dt H D
theorem PS.imp {X : Cx} {e : PySem.Stmt} {t t' : L2.TS} (h : PS X e t) (i : ∀ D σ H, t' D σ H → t D σ H) : PS X e t' := ⟨fun p s σ H D I q => h.run p s σ H D I (i D σ H q)⟩
theorem PSs.imp {X : Cx} {e : List PySem.Stmt} {t t' : L2.TS} (h : PSs X e t) (i : ∀ D σ H, t' D σ H → t D σ H) : PSs X e t' := ⟨fun p s σ H D I q => h.run p s σ H D I (i D σ H q)⟩
/-- what a while or for leans on -/
abbrev Own (X : Cx) : Prop := PassesOwn (model X.prog X.w) X.A X.env X.xe
section
variable {P : Env} {c : CC} {sc : Scope} {d : Bool} {E : EQ} {X : Cx} {Hx : Hp}
/-- the list at slot i is written by nobody from now on -/
def frzD (i : Nat) (D : L2.Ends) : L2.Ends := { D with nx := fun σ H => ∃ p ws, σ[i]? = some (some (.ref p)) ∧ H p = some (.lst ws) ∧ ∀ od, D.nx σ (upd H p (.frz od (.lst ws))) }
theorem PS.frz {i : Nat} {st : PySem.Stmt} {t : L2.TS} (h : PS X st t) : PS X st (fun D σ H => t (frzD i D) σ H) := by
  refine ⟨fun pn sh sl hp D I q => thn (h.run pn sh sl hp (frzD i D) I q) fun f s1 z => ?_⟩
  cases f with
  | next =>
    obtain ⟨σ', H', I2, p, ws, _, e, q2⟩ := z
    obtain ⟨od, I3⟩ := I2.lock e trivial
    exact ⟨σ', _, I3, q2 od⟩
  | brk => exact z
  | cont => exact z
  | ret v => exact z
theorem hid_S (F : FnR P.fn) {i : Nat} {elt : Ex} {tg : Tg} {it : It} {ifs : ExL} {own : List (Str × Nat)} {D : L2.Ends} {σ : L2.St} {H : Hp} (q : lS X Hx (fun sd th D => wS P (.set i (.compR elt tg it ifs own)) sd th D E) D σ H) (hi : i < σ.length) :
    lS X Hx (fun sd th D => wE P (.comp elt tg it ifs own) sd th (fun d h1 => bindT (.nm i) d sd fun σ' => D.nx σ' h1) E) (frzD i D) σ H := by
  obtain ⟨sd, th, Dt, rs, rh, q, eo⟩ := q
  have z := comp_hid F (Q := fun d h1 => Dt.nx (sd.set i (some d)) h1) q
  refine ⟨sd, th, { Dt with nx := fun sd' th' => ∃ p vs h0, h0 p = none ∧ th' = ups h0 p (.lst vs) ∧ sd' = sd.set i (some (.ref p)) ∧ Dt.nx (sd.set i (some (.rol vs))) h0 }, rs, rh, ?_, ?_, eo.rt, eo.bk, eo.ct⟩
  · refine wE_mono F (fun d h1 z => ?_) z
    obtain ⟨p, vs, h0, rfl, n, rfl, z⟩ := z
    exact ⟨p, vs, h0, n, rfl, rfl, z⟩
  · rintro sd' th' σ' H' ⟨p, vs, h0, n, rfl, rfl, z⟩ k rs' rh'
    obtain ⟨ws, e, f⟩ := rep_hid n rh'
    have hl : i < sd.length := by rw [← rs.rs.1]; exact hi
    obtain ⟨v, ev, rv⟩ := rs'.rs.2 i (.ref p) (by rw [List.getElem?_set_self hl])
    cases rv
    refine ⟨p, ws, ev, e, fun od => ?_⟩
    obtain ⟨k2, l, rh2⟩ := f od
    refine eo.nx _ _ _ _ z (k.trans k2) ⟨rs'.kp.trans k2, ?_, ?_⟩ rh2
    · have := rs'.rs.1
      simp only [List.length_set] at this ⊢
      exact this
    · intro j d ej
      by_cases ij : i = j
      · subst ij
        rw [List.getElem?_set_self hl] at ej
        cases ej
        exact ⟨_, ev, p, ws, rfl, .inl ⟨od, upd_same⟩, l⟩
      · have ej2 : (sd.set i (some (.ref p)))[j]? = some (some d) := by
          rw [List.getElem?_set_ne ij] at ej ⊢
          exact ej
        obtain ⟨w, ew, rw'⟩ := rs'.rs.2 j d ej2
        exact ⟨w, ew, rw'.keep k2⟩
theorem comp_parts (g : Gd P c sc d E X Hx) {elt : Ex} {tg : Tg} {it : It} {ifs : ExL} {own : List (Str × Nat)} {x : PySem.Expr} {gs : List Comprehension} {scope : Scope} {p : Pos} (h : chk c (.comp elt tg it ifs own) sc (.ListComp x gs scope p) = true) :
    ∃ t i fs, gs = [⟨t, i, fs, 0⟩] ∧ PI X t i (lI X Hx fun sd th Q => wI P it sd th Q E) ∧ BlkOk X.N X.env.scope scope own ∧ (tgIx tg).all (fun i => (own.map (·.2)).contains i) = true ∧
      (∀ (s : Shared) (H : Hp) (C : Addr) (cl : List (Str × Addr)) (fp : List Addr), PG (X.blk s H scope (compEnvC scope cl C X.env) fp) t (tgG X.K tg)) ∧
      (∀ (s : Shared) (H : Hp) (C : Addr) (cl : List (Str × Addr)) (fp : List Addr), PTs (X.blk s H scope (compEnvC scope cl C X.env) fp) fs (lT X Hx fun sd th Q => wC P ifs sd th Q noE)) ∧
      (∀ (s : Shared) (H : Hp) (C : Addr) (cl : List (Str × Addr)) (fp : List Addr), PE (X.blk s H scope (compEnvC scope cl C X.env) fp) x (lE X Hx fun sd th Q => wE P elt sd th Q noE)) ∧
      (∀ x, foldedSetIterable i X.env x = pure x) := by
  match gs, h with
  | [⟨t, i, fs, .ofNat 0⟩], h =>
    have h : (blkB c.N sc scope own && chk c elt (Tq.relS sc scope) x && chkTg c (Tq.relS sc scope) false tg t && (tgIx tg).all (fun i => (own.map (·.2)).contains i) && chkI c it sc i && chkC c ifs (Tq.relS sc scope) fs) = true := h
    obtain ⟨h, h6⟩ := and2 h
    obtain ⟨h, h5⟩ := and2 h
    obtain ⟨h, h4⟩ := and2 h
    obtain ⟨h, h3⟩ := and2 h
    obtain ⟨h1, h2⟩ := and2 h
    obtain ⟨hi, hf⟩ := okI it P c sc d E X Hx t i h5 g
    refine ⟨t, i, fs, rfl, hi, by rw [g.nN, g.scp]; exact blk_of h1, h4, ?_, ?_, ?_, hf⟩
    · exact fun s H C cl fp => pg_chk (g.blk s H scope C cl fp) h3
    · exact fun s H C cl fp => (okEL ifs).2.2.2.1 P c _ false noE _ Hx fs h6 (g.blk s H scope C cl fp)
    · exact fun s H C cl fp => (okE elt).1 P c _ false noE _ Hx x h2 (g.blk s H scope C cl fp)
  | [], h => exact off h
  | ⟨t2, i2, f2, .ofNat 0⟩ :: _ :: _, h => exact off h
  | ⟨t2, i2, f2, .ofNat (n2 + 1)⟩ :: _ :: _, h => exact off h
  | ⟨t2, i2, f2, .negSucc n2⟩ :: _ :: _, h => exact off h
  | [⟨t2, i2, f2, .ofNat (n2 + 1)⟩], h => exact off h
  | [⟨t2, i2, f2, .negSucc n2⟩], h => exact off h
theorem compR_parts (g : Gd P c sc d E X Hx) {elt : Ex} {tg : Tg} {it : It} {ifs : ExL} {own : List (Str × Nat)} {x : PySem.Expr} {gs : List Comprehension} {scope : Scope} {p : Pos} (h : chk c (.compR elt tg it ifs own) sc (.ListComp x gs scope p) = true) :
    ∃ t i fs, gs = [⟨t, i, fs, 0⟩] ∧ PI X t i (lI X Hx fun sd th Q => wI P it sd th Q E) ∧ BlkOk X.N X.env.scope scope own ∧ (tgIx tg).all (fun i => (own.map (·.2)).contains i) = true ∧
      (∀ (s : Shared) (H : Hp) (C : Addr) (cl : List (Str × Addr)) (fp : List Addr), PG (X.blk s H scope (compEnvC scope cl C X.env) fp) t (tgG X.K tg)) ∧
      (∀ (s : Shared) (H : Hp) (C : Addr) (cl : List (Str × Addr)) (fp : List Addr), PTs (X.blk s H scope (compEnvC scope cl C X.env) fp) fs (lT X Hx fun sd th Q => wC P ifs sd th Q noE)) ∧
      (∀ (s : Shared) (H : Hp) (C : Addr) (cl : List (Str × Addr)) (fp : List Addr), PE (X.blk s H scope (compEnvC scope cl C X.env) fp) x (lE X Hx fun sd th Q => wE P elt sd th Q noE)) ∧
      (∀ x, foldedSetIterable i X.env x = pure x) := by
  match gs, h with
  | [⟨t, i, fs, .ofNat 0⟩], h =>
    have h : (blkB c.N sc scope own && chk c elt (Tq.relS sc scope) x && chkTg c (Tq.relS sc scope) false tg t && (tgIx tg).all (fun i => (own.map (·.2)).contains i) && chkI c it sc i && chkC c ifs (Tq.relS sc scope) fs) = true := h
    obtain ⟨h, h6⟩ := and2 h
    obtain ⟨h, h5⟩ := and2 h
    obtain ⟨h, h4⟩ := and2 h
    obtain ⟨h, h3⟩ := and2 h
    obtain ⟨h1, h2⟩ := and2 h
    obtain ⟨hi, hf⟩ := okI it P c sc d E X Hx t i h5 g
    refine ⟨t, i, fs, rfl, hi, by rw [g.nN, g.scp]; exact blk_of h1, h4, ?_, ?_, ?_, hf⟩
    · exact fun s H C cl fp => pg_chk (g.blk s H scope C cl fp) h3
    · exact fun s H C cl fp => (okEL ifs).2.2.2.1 P c _ false noE _ Hx fs h6 (g.blk s H scope C cl fp)
    · exact fun s H C cl fp => (okE elt).1 P c _ false noE _ Hx x h2 (g.blk s H scope C cl fp)
  | [], h => exact off h
  | ⟨t2, i2, f2, .ofNat 0⟩ :: _ :: _, h => exact off h
  | ⟨t2, i2, f2, .ofNat (n2 + 1)⟩ :: _ :: _, h => exact off h
  | ⟨t2, i2, f2, .negSucc n2⟩ :: _ :: _, h => exact off h
  | [⟨t2, i2, f2, .ofNat (n2 + 1)⟩], h => exact off h
  | [⟨t2, i2, f2, .negSucc n2⟩], h => exact off h
theorem asg_imp {e : Ex} {tg : Tg} {te : L2.TE} (imp : ∀ σ H Q, lE X Hx (fun sd th Q => wE P e sd th Q E) σ H Q → te σ H Q) : ∀ D σ H, lS X Hx (fun sd th D => wE P e sd th (fun d h1 => bindT tg d sd fun σ' => D.nx σ' h1) E) D σ H → tAsg te (tgG X.K tg) D σ H := by
  intro D σ H ⟨sd, th, Dt, rs, rh, q, eo⟩
  refine imp σ H _ ⟨sd, th, _, rs, rh, q, fun dd th1 v H1 q1 k1 r1 rh1 => ?_⟩
  exact tg_law v dd sd σ H1 _ _ r1 (rs.keep k1) q1 fun sd' σ' qk rs' _ => eo.nx _ _ _ _ qk k1 rs' rh1
theorem blockKind_of {env : PySem.Env} (h : env.scope.kind = .function) : env.blockKind = .function := by unfold Env.blockKind; rw [h]; rfl
theorem sw_plain {v : PySem.Expr} {e : Ex} {env : PySem.Env} {t : Option PySem.Expr} {l : Nat} (h : chk c e sc v = true) (n : isLc v = false) : swapsWith v t l env = pure false := by
  cases v <;> first
    | rfl
    | (cases e <;> exact off h)
    | cases n
theorem sw_tup {v : PySem.Expr} {es : List PySem.Expr} {k : Nat} {p : Pos} {env : PySem.Env} {l : Nat} : swapsWith v (some (.Tuple es k p)) l env = pure false := by
  cases v <;> rfl
theorem sw_false {elt : PySem.Expr} {gs : List Comprehension} {scope : Scope} {pos py : Pos} {y : Str} {l : Nat} {env : PySem.Env} (hk : env.scope.kind = .function) (hs : env.scope = sc) (h : swB sc (.ListComp elt gs scope pos) y py = false) : swapsWith (.ListComp elt gs scope pos) (some (.Name y py)) l env = pure false := by
  have hb := blockKind_of hk
  have e : swapsWith (.ListComp elt gs scope pos) (some (.Name y py)) l env = pure (env.blockKind == .function && env.kindOf y == some .local && py.line == pos.line && !(scope.names.any fun (n, k) => n == y && (k == .local || k == .cell))) := rfl
  rw [e, hb]
  have e2 : (ScopeKind.function == ScopeKind.function && env.kindOf y == some .local && py.line == pos.line && !(scope.names.any fun (n, k) => n == y && (k == .local || k == .cell))) = swB sc (.ListComp elt gs scope pos) y py := by
    subst hs
    show (true && _ && _ && _) = _
    rw [Bool.true_and]
    rfl
  rw [e2, h]
theorem loc_t {x : Str} (g : Gd P c sc true E X Hx) (h : locB sc true x = true) : Loc X.env.scope x ∧ (X.fn x = true ∨ X.env.scope.names.lookup x = some .local) := loc_of g h
theorem set_S (g : Gd P c sc true E X Hx) {i : Nat} {e : Ex} {x : Str} {p pos : Pos} {v : PySem.Expr} (h1 : c.N[i]? = some x) (h2 : locB sc true x = true) (h3 : chk c e sc v = true) : PS X (.Assign [.Name x p] v pos) (lS X Hx fun sd th D => wS P (.set i e) sd th D E) := by
  obtain ⟨l1, l2⟩ := loc_t g h2
  have nd : X.N.Nodup := by rw [g.nN]; exact g.nd
  have hi : X.N[i]? = some x := by rw [g.nN]; exact h1
  have he := (okE e).1 P c sc true E X Hx v h3 g
  have imp := asg_imp (P := P) (E := E) (X := X) (Hx := Hx) (e := e) (tg := .nm i) (fun σ H Q q => q)
  constructor
  intro pins s σ H D I q
  cases hl : isLc v with
  | false => exact (PS.imp (ps_set nd hi l1 he (sw_plain h3 hl) l2) imp).run pins s σ H D I q
  | true =>
    cases v with
    | ListComp elt gs scope vp =>
      cases hb : swB sc (.ListComp elt gs scope vp) x p with
      | false => exact (PS.imp (ps_set nd hi l1 he (sw_false I.ok.kind g.scp hb) l2) imp).run pins s σ H D I q
      | true =>
        cases e with
        | comp a tg it ifs own =>
          obtain ⟨t, it', fs, rfl, c1, c2, c3, c4, c5, c6, c7⟩ := comp_parts g h3
          have hb2 : (sc.names.lookup x == some .local && p.line == vp.line && !(scope.names.any fun p => p.1 == x && (p.2 == .local || p.2 == .cell))) = true := hb
          obtain ⟨b1, b2⟩ := and2 hb2
          obtain ⟨b0, b1⟩ := and2 b1
          have hy : X.env.scope.names.lookup x = some .local := by
            rw [g.scp]
            exact LawfulBEq.eq_of_beq b0
          have b3 : (scope.names.any fun (n, k) => n == x && (k == .local || k == .cell)) = false := by simpa using b2
          refine (PS.imp (ps_setLc (wi := lI X Hx fun sd th Q => wI P it sd th Q E) (g := tgG X.K tg) (tt := lT X Hx fun sd th Q => wC P ifs sd th Q noE) (te := lE X Hx fun sd th Q => wE P a sd th Q noE) g.calm nd hi hy (sw_true I.ok.kind hy b1 b3) c1 c2 c4 c5 c6 c7) (asg_imp (P := P) (E := E) (X := X) (Hx := Hx) (e := .comp a tg it ifs own) (tg := .nm i) (comp_imp c3))).run pins s σ H D I q
        | compR a tg it ifs own =>
          obtain ⟨t, it', fs, rfl, c1, c2, c3, c4, c5, c6, c7⟩ := compR_parts g h3
          have hb2 : (sc.names.lookup x == some .local && p.line == vp.line && !(scope.names.any fun p => p.1 == x && (p.2 == .local || p.2 == .cell))) = true := hb
          obtain ⟨b1, b2⟩ := and2 hb2
          obtain ⟨b0, b1⟩ := and2 b1
          have hy : X.env.scope.names.lookup x = some .local := by
            rw [g.scp]
            exact LawfulBEq.eq_of_beq b0
          have b3 : (scope.names.any fun (n, k) => n == x && (k == .local || k == .cell)) = false := by simpa using b2
          have hlen : i < σ.length := by
            rw [I.len]
            exact (List.getElem?_eq_some_iff.mp hi).1
          exact (PS.frz (i := i) (ps_setLc (wi := lI X Hx fun sd th Q => wI P it sd th Q E) (g := tgG X.K tg) (tt := lT X Hx fun sd th Q => wC P ifs sd th Q noE) (te := lE X Hx fun sd th Q => wE P a sd th Q noE) g.calm nd hi hy (sw_true I.ok.kind hy b1 b3) c1 c2 c4 c5 c6 c7)).run pins s σ H D I
            (asg_imp (P := P) (E := E) (X := X) (Hx := Hx) (e := .comp a tg it ifs own) (tg := .nm i) (comp_imp c3) (frzD i D) σ H (hid_S g.rel q hlen))
        | _ => exact off h3
    | _ => cases hl
end
end Tq
/-! UD8: all statements. -/
namespace Tq
open PySem L2 PyProof.Rows
section
variable {P : Env} {c : CC} {sc : Scope} {d : Bool} {E : EQ} {X : Cx} {Hx : Hp}
theorem setT_S (g : Gd P c sc true E X Hx) {is : List Nat} {e : Ex} {es : List PySem.Expr} {k : Nat} {tp pos : Pos} {v : PySem.Expr} (h1 : chkTs c sc true is es = true) (h2 : chk c e sc v = true) (h3 : isTup v = false) : PS X (.Assign [.Tuple es k tp] v pos) (lS X Hx fun sd th D => wS P (.setT is e) sd th D E) := by
  have hg : PG X (.Tuple es k tp) (tgG X.K (.tp is)) := pg_chk (tg := .tp is) g h1
  have hsw : swapsWithSole [.Tuple es k tp] v pos.line X.env = pure false := sw_tup (es := es) (k := k) (p := tp) (env := X.env) (l := pos.line)
  refine PS.imp (ps_asg ((okE e).1 P c sc true E X Hx v h2 g) hg hsw ?_ rfl) (asg_imp (P := P) (E := E) (X := X) (Hx := Hx) (e := e) (tg := .tp is) (fun σ H Q q => q))
  cases v <;> first
    | rfl
    | cases h3
theorem nofold {l : PySem.Expr} (h : foldB l = false) : (∀ n, constantsAlone n l = false) ∧ ∀ n, foldedForSure n l = false := by
  cases l <;> first
    | exact Bool.noConfusion (show true = false from h)
    | (refine ⟨fun n => ?_, fun n => ?_⟩ <;> (cases n <;> first | rfl | exact h))
theorem swap_par {env : PySem.Env} {x y : Str} {l r : PySem.Expr} {px py tp vp : Pos} {k k2 : Nat} {a b : Ex} (hk : env.scope.kind = .function) (hx : env.scope.names.lookup x = some .local) (hy : env.scope.names.lookup y = some .local) (hl : (px.line == py.line) = true)
    (hd : (([x, y] : List Str).eraseDups.length == 2) = true) (ha : chk c a sc l = true) (hb : chk c b sc r = true) (hf : (foldB l && foldB r) = false) : swappedStores [.Tuple [.Name x px, .Name y py] k tp] (.Tuple [l, r] k2 vp) env = pure (some [x, y]) := by
  have e1 := blockKind_of hk
  have e2 : env.kindOf x = some .local := hx
  have e3 : env.kindOf y = some .local := hy
  have e4 : (py.line == px.line) = true := by
    rw [beq_iff_eq] at hl ⊢
    exact hl.symm
  have e7 : (foldedForSure 8 l && foldedForSure 8 r) = false := by
    cases h : foldB l with
    | false => rw [(nofold h).2]; rfl
    | true =>
      rw [h] at hf
      rw [(nofold (l := r) (by simpa using hf)).2, Bool.and_false]
  have e8 : (constantsAlone 8 l && constantsAlone 8 r) = false := by
    cases h : foldB l with
    | false => rw [(nofold h).1]; rfl
    | true =>
      rw [h] at hf
      rw [(nofold (l := r) (by simpa using hf)).1, Bool.and_false]
  have e9 : (([x, y] : List Str).eraseDups.length != ([x, y] : List Str).length) = false := by
    have z := LawfulBEq.eq_of_beq hd
    rw [z]; rfl
  unfold swappedStores
  simp only [e1, e2, e3, e4, e7, e8, List.any_cons, List.any_nil, List.all_cons, List.all_nil, Bool.and_true, List.filterMap_cons, List.filterMap_nil, List.head?_cons, Option.map_some, Option.getD_some, Expr.pos, beq_self_eq_true, if_true, Bool.or_false, Bool.true_and]
  simp [e7, e8, e9]
  rw [if_neg, if_pos (LawfulBEq.eq_of_beq hd)]
  intro hh
  clear e7 e8 hf
  rcases hh with hh | hh
  · cases l <;> first
      | exact Bool.noConfusion (show false = true from hh)
      | (cases a <;> exact off ha)
  · cases r <;> first
      | exact Bool.noConfusion (show false = true from hh)
      | (cases b <;> exact off hb)
theorem par_S (g : Gd P c sc true E X Hx) {i j : Nat} {a b : Ex} {x y : Str} {l r : PySem.Expr} {px py tp vp pos : Pos} {k k2 : Nat} (h1 : c.N[i]? = some x) (h2 : c.N[j]? = some y) (hij : i ≠ j) (h3 : locB sc false x = true) (h4 : locB sc false y = true) (hl : (px.line == py.line) = true)
    (hd : (([x, y] : List Str).eraseDups.length == 2) = true) (ha : chk c a sc l = true) (hb : chk c b sc r = true) (hf : (foldB l && foldB r) = false) : PS X (.Assign [.Tuple [.Name x px, .Name y py] k tp] (.Tuple [l, r] k2 vp) pos) (lS X Hx fun sd th D => wS P (.par i j a b) sd th D E) := by
  have loc : ∀ {z : Str}, locB sc false z = true → X.env.scope.names.lookup z = some .local := fun {z} h => by
    rw [g.scp]
    unfold locB at h
    split at h
    · assumption
    · cases h
    · cases h
  have nd : X.N.Nodup := by rw [g.nN]; exact g.nd
  have hi : X.N[i]? = some x := by rw [g.nN]; exact h1
  have hj : X.N[j]? = some y := by rw [g.nN]; exact h2
  constructor
  intro pins s σ H D I q
  have st2 := star_chk hb [] X.env
  have st := star_chk ha [r] X.env
  refine (PS.imp (ps_par g.calm nd hi hj hij (loc h3) (loc h4) (pa_cons ((okE a).1 P c sc true E X Hx l ha g) (pa_cons ((okE b).1 P c sc true E X Hx r hb g) pa_nil st2) st) (swap_par I.ok.kind (loc h3) (loc h4) hl hd ha hb hf) rfl) ?_).run pins s σ H D I q
  intro D σ H ⟨sd, th, Dt, rs, rh, q, eo⟩
  exact ⟨sd, th, _, rs, rh, q, fun v th1 w H1 q1 k1 r1 rh1 => ⟨sd, th1, _, rs.keep k1, rh1, q1, fun v2 th2 w2 H2 q2 k2 r2 rh2 =>
    ⟨w, w2, rfl, eo.nx _ _ _ _ q2 (k1.trans k2) (((rs.keep (k1.trans k2)).set i (r1.keep k2)).set j r2) rh2⟩⟩⟩
theorem setSub_S (g : Gd P c sc true E X Hx) {o i e : Ex} {x y v : PySem.Expr} {tp pos : Pos} (h1 : chk c o sc x = true) (h2 : chk c i sc y = true) (h3 : chk c e sc v = true) (h4 : isLc v = false) : PS X (.Assign [.Subscript x y tp] v pos) (lS X Hx fun sd th D => wS P (.setSub o i e) sd th D E) := by
  have u1 : X.A.units + 1 < cLine := by have := g.un; omega
  have he := (okE e).1 P c sc true E X Hx v h3 g
  have ho := (okE o).1 P c sc true E X Hx x h1 g
  have hi := (okE i).1 P c sc true E X Hx y h2 g
  have ha : ∀ v, assign (.Subscript x y tp) X.env v = (do
      let ov ← holding [v] (eval x X.env)
      let iv ← holding [v, ov] (eval y X.env)
      standAt tp
      holding [v, ov, iv] (setItem ov iv v)
      release [v, ov, iv] []) := by
    intro _
    cases y <;> first
      | rfl
      | (cases i <;> exact off h2)
  have hsw : swapsWithSole [.Subscript x y tp] v pos.line X.env = pure false := sw_plain (env := X.env) (t := some (.Subscript x y tp)) (l := pos.line) h3 h4
  refine PS.imp (ps_asg he (pg_sub ho hi (set_L u1) ha) hsw (by cases v <;> rfl) rfl) ?_
  intro D σ H ⟨sd, th, Dt, rs, rh, q, eo⟩
  exact ⟨sd, th, _, rs, rh, q, fun v th1 w H1 q1 k1 r1 rh1 => ⟨sd, th1, _, rs.keep k1, rh1, q1, fun v2 th2 w2 H2 q2 k2 r2 rh2 => ⟨sd, th2, _, rs.keep (k1.trans k2), rh2, q2, fun v3 th3 w3 H3 q3 k3 r3 rh3 =>
    ⟨v2, v3, v, th3, _, r2.keep k3, r3, r1.keep (k2.trans k3), rh3, q3, fun th4 H4 q4 k4 rh4 => eo.nx _ _ _ _ q4 (k1.trans (k2.trans (k3.trans k4))) (rs.keep (k1.trans (k2.trans (k3.trans k4)))) rh4⟩⟩⟩⟩
theorem ex_S (g : Gd P c sc true E X Hx) {e : Ex} {v : PySem.Expr} {pos : Pos} (h1 : chk c e sc v = true) (h2 : isLc v = false) : PS X (.Expr v pos) (lS X Hx fun sd th D => wS P (.ex e) sd th D E) := by
  refine PS.imp (ps_expr ((okE e).1 P c sc true E X Hx v h1 g) (sw_plain h1 h2)) ?_
  intro D σ H ⟨sd, th, Dt, rs, rh, q, eo⟩
  exact ⟨sd, th, _, rs, rh, q, fun v th1 w H1 q1 k1 r1 rh1 => eo.nx _ _ _ _ q1 k1 (rs.keep k1) rh1⟩
theorem if_S (g : Gd P c sc true E X Hx) {t : Ex} {a b : SmL} {e : PySem.Expr} {x y : List PySem.Stmt} {pos : Pos} (h1 : chk c t sc e = true) (ha : PSs X x (lS X Hx fun sd th D => wSs P a sd th D E)) (hb : PSs X y (lS X Hx fun sd th D => wSs P b sd th D E)) :
    PS X (.If e x y pos) (lS X Hx fun sd th D => wS P (.iff t a b) sd th D E) := by
  refine PS.imp (ps_if ((okE t).2 P c sc true E X Hx e h1 g) ha hb) ?_
  intro D σ H ⟨sd, th, Dt, rs, rh, q, eo⟩
  refine ⟨sd, th, _, rs, rh, q, fun t1 th1 H1 q1 k1 rh1 => ?_⟩
  have q1 : if t1 = true then wSs P a sd th1 Dt E else wSs P b sd th1 Dt E := q1
  cases t1 with
  | true =>
    rw [if_pos rfl] at q1
    exact iteT ⟨sd, th1, Dt, rs.keep k1, rh1, q1, eo.go k1⟩
  | false =>
    rw [if_neg (by decide)] at q1
    exact iteF ⟨sd, th1, Dt, rs.keep k1, rh1, q1, eo.go k1⟩
theorem whl_S (g : Gd P c sc true E X Hx) (ow : Own X) {t : Ex} {a : SmL} {e : PySem.Expr} {x : List PySem.Stmt} {pos : Pos} (h1 : chk c t sc e = true) (ha : PSs X x (lS X Hx fun sd th D => wSs P a sd th D E)) :
    PS X (.While e x [] pos) (lS X Hx fun sd th D => wS P (.whl t a) sd th D E) := by
  refine PS.imp (ps_while ow ((okE t).2 P c sc true E X Hx e h1 g) ha) ?_
  intro D σ H ⟨sd, th, Dt, rs, rh, ⟨n, q⟩, eo⟩
  generalize hts : (fun (σ : Sl) (h : TH) (k : Bool → TH → Prop) => wT P t σ h k E) = test at q
  generalize hst : (fun (σ : Sl) (h : TH) (k : Sl → TH → Prop) => wSs P a σ h { nx := k, rt := Dt.rt, bk := Dt.nx, ct := k } E) = step at q
  refine ⟨fun m σ' H' => Keep H H' ∧ ∃ sd th, RepT X.K X.mg Hx H' sd σ' ∧ RepH X.K X.mg H' th ∧ loopW test step Dt.nx m sd th, ⟨n, Keep.refl H, sd, th, rs, rh, q⟩, ?_⟩
  rintro m σ1 H1 ⟨k1, sd1, th1, rs1, rh1, q1⟩
  cases m with
  | zero => exact q1.elim
  | succ m =>
    have q1 : test sd1 th1 fun b h1 => if b = true then step sd1 h1 fun σ' h' => wk h' fun k => loopW test step Dt.nx m σ' k else Dt.nx sd1 h1 := q1
    refine ⟨sd1, th1, _, rs1, rh1, q1, fun b th2 H2 q2 k2 rh2 => ?_⟩
    cases b with
    | true =>
      rw [if_pos rfl] at q2
      rw [← hst] at q2
      refine iteT ⟨fun σ' H' => Keep H H' ∧ ∃ sd th, RepT X.K X.mg Hx H' sd σ' ∧ RepH X.K X.mg H' th ∧ loopW test step Dt.nx m sd th, fun σ' H' z => ⟨m, Nat.lt_succ_self m, z⟩, sd1, th2, _, rs1.keep k2, rh2, q2, ?_⟩
      have nx : ∀ (sd' : Sl) (th' : TH) (σ' : L2.St) (H' : Hp), (wk th' fun k => loopW test step Dt.nx m sd' k) → Keep H2 H' → RepT X.K X.mg Hx H' sd' σ' → RepH X.K X.mg H' th' → Keep H H' ∧ ∃ sd th, RepT X.K X.mg Hx H' sd σ' ∧ RepH X.K X.mg H' th ∧ loopW test step Dt.nx m sd th :=
        fun sd' th' σ' H' ⟨kk, le, ql⟩ k3 rs' rh' => ⟨k1.trans (k2.trans k3), sd', kk, rs', rh'.le le, ql⟩
      refine ⟨?_, eo.rt.go (k1.trans k2), fun sd' th' σ' H' a b => eo.nx sd' th' σ' H' a ((k1.trans k2).trans b), ?_⟩
      · intro sd' th' σ' H' z
        rw [hst] at z
        exact nx sd' th' σ' H' z
      · intro sd' th' σ' H' z
        rw [hst] at z
        exact nx sd' th' σ' H' z
    | false =>
      rw [if_neg (by decide)] at q2
      exact iteF (eo.nx _ _ _ _ q2 (k1.trans k2) (rs1.keep k2) rh2)
theorem for_S (g : Gd P c sc true E X Hx) (ow : Own X) {tg : Tg} {it : It} {a : SmL} {t i : PySem.Expr} {x : List PySem.Stmt} {pos : Pos} (h1 : chkTg c sc true tg t = true) (h2 : chkI c it sc i = true) (ha : PSs X x (lS X Hx fun sd th D => wSs P a sd th D E)) :
    PS X (.For t i x [] pos) (lS X Hx fun sd th D => wS P (.for tg it a) sd th D E) := by
  obtain ⟨hi, hf⟩ := okI it P c sc true E X Hx t i h2 g
  refine PS.imp (ps_for ow g.calm hi (pg_chk g h1) ha hf) ?_
  intro D σ H ⟨sd, th, Dt, rs, rh, q, eo⟩
  refine ⟨sd, th, _, rs, rh, q, fun ds gg th1 H1 J G q1 k1 rh1 wd hG => ?_⟩
  generalize hst : (fun (d : Tq.D) (σ : Sl) (h : TH) (k : Sl → TH → Prop) => bindT tg d σ fun σ' => wSs P a σ' h { nx := k, rt := Dt.rt, bk := Dt.nx, ct := k } E) = step at q1
  refine ⟨fun i m σ' H' => m = ds.length - i ∧ i ≤ ds.length ∧ Keep H1 H' ∧ ∃ sd th, RepT X.K X.mg Hx H' sd σ' ∧ RepH X.K X.mg H' th ∧ loopL gg step (ds.drop i) sd th Dt.nx, ⟨_, rfl, Nat.zero_le _, Keep.refl H1, sd, th1, rs.keep k1, rh1, q1⟩, ?_⟩
  rintro i m σ5 H5 ⟨rfl, hi, k5, sd5, th5, rs5, rh5, q5⟩
  by_cases hlt : i < ds.length
  · rw [List.drop_eq_getElem_cons hlt] at q5
    obtain ⟨qg, q5⟩ := q5
    have G5 := hG th5 H5 k5 rh5 qg
    refine .inr ⟨wd.goes i H5 hlt G5, fun σ' H' => Keep H1 H' ∧ ∃ sd th, RepT X.K X.mg Hx H' sd σ' ∧ RepH X.K X.mg H' th ∧ loopL gg step (ds.drop (i + 1)) sd th Dt.nx, fun σ' H' nx => ⟨ds.length - (i + 1), by omega, rfl, hlt, nx⟩, fun x H6 y => ?_⟩
    obtain ⟨k6, r6, dd, ed, rx⟩ := wd.yields i H5 x H6 hlt G5 y
    have rh6 := r6 th5 rh5
    rw [List.getElem?_eq_getElem hlt] at ed
    cases ed
    rw [← hst] at q5
    refine tg_law x ds[i] sd5 σ5 H6 _ _ rx (rs5.keep k6) q5 ?_
    intro sd' σ' qk rs' hw
    rw [hst] at qk
    have nx : ∀ (sd' : Sl) (th' : TH) (σ' : L2.St) (H' : Hp), (wk th' fun k => loopL gg step (ds.drop (i + 1)) sd' k Dt.nx) → Keep H6 H' → RepT X.K X.mg Hx H' sd' σ' → RepH X.K X.mg H' th' → Keep H1 H' ∧ ∃ sd th, RepT X.K X.mg Hx H' sd σ' ∧ RepH X.K X.mg H' th ∧ loopL gg step (ds.drop (i + 1)) sd th Dt.nx :=
      fun sd' th' σ' H' ⟨kk, le, ql⟩ k3 rs' rh' => ⟨k5.trans (k6.trans k3), sd', kk, rs', rh'.le le, ql⟩
    exact ⟨sd', th5, _, rs', rh6, qk, ⟨nx, eo.rt.go (k1.trans (k5.trans k6)), fun sd' th' σ' H' a b => eo.nx sd' th' σ' H' a ((k1.trans (k5.trans k6)).trans b), nx⟩⟩
  · have e : i = ds.length := by omega
    subst e
    rw [List.drop_length] at q5
    obtain ⟨qg, q5⟩ := q5
    exact .inl ⟨wd.stops H5 (hG th5 H5 k5 rh5 qg), eo.nx _ _ _ _ q5 (k1.trans k5) rs5 rh5⟩
end
def OkS (s : Sm) : Prop := ∀ (P : Env) (c : CC) (sc : Scope) (E : EQ) (X : Cx) (Hx : Hp) (st : PySem.Stmt), chkS c sc s st = true → Gd P c sc true E X Hx → Own X → PS X st (lS X Hx fun sd th D => wS P s sd th D E)
def OkSs (s : SmL) : Prop := ∀ (P : Env) (c : CC) (sc : Scope) (E : EQ) (X : Cx) (Hx : Hp) (st : List PySem.Stmt), chkSs c sc s st = true → Gd P c sc true E X Hx → Own X → PSs X st (lS X Hx fun sd th D => wSs P s sd th D E)
mutual
theorem okS : ∀ s : Sm, OkS s
  | .set i e => fun P c sc E X Hx st h g ow => by
    cases st with
    | Assign ts v p =>
      match ts, h with
      | [.Name x q], h =>
        have h : (decide (c.N[i]? = some x) && locB sc true x && chk c e sc v) = true := h
        obtain ⟨h, h3⟩ := and2 h
        obtain ⟨h1, h2⟩ := and2 h
        exact set_S g (dec_of h1) h2 h3
      | [], h => exact off h
      | t :: _ :: _, h => cases t <;> exact off h
    | _ => exact off h
  | .setT is e => fun P c sc E X Hx st h g ow => by
    cases st with
    | Assign ts v p =>
      match ts, h with
      | [.Tuple es k q], h =>
        have h : (chkTs c sc true is es && chk c e sc v && !isTup v && !isLc v) = true := h
        obtain ⟨h, h4⟩ := and2 h
        obtain ⟨h, h3⟩ := and2 h
        obtain ⟨h1, h2⟩ := and2 h
        exact setT_S g h1 h2 (by simpa using h3)
      | [], h => exact off h
      | t :: _ :: _, h => cases t <;> exact off h
    | _ => exact off h
  | .par i j a b => fun P c sc E X Hx st h g ow => by
    cases st with
    | Assign ts v p =>
      unfold chkS at h
      split at h
      · rename_i x px y py k tp l r k2 vp
        have h : (decide (c.N[i]? = some x) && decide (c.N[j]? = some y) && decide (i ≠ j) && decide (x ≠ y) && locB sc false x && locB sc false y && (px.line == py.line) && (([x, y] : List Str).eraseDups.length == 2) && chk c a sc l && chk c b sc r
          && !(foldB l && foldB r)) = true := h
        obtain ⟨h, h11⟩ := and2 h
        obtain ⟨h, h10⟩ := and2 h
        obtain ⟨h, h9⟩ := and2 h
        obtain ⟨h, h8⟩ := and2 h
        obtain ⟨h, h7⟩ := and2 h
        obtain ⟨h, h6⟩ := and2 h
        obtain ⟨h, h5⟩ := and2 h
        obtain ⟨h, h4⟩ := and2 h
        obtain ⟨h, h3⟩ := and2 h
        obtain ⟨h1, h2⟩ := and2 h
        exact par_S g (dec_of h1) (dec_of h2) (dec_of h3) h5 h6 h7 h8 h9 h10 (by rw [Bool.not_eq_true'] at h11; exact h11)
      · exact off h
    | _ => exact off h
  | .setSub o i e => fun P c sc E X Hx st h g ow => by
    cases st with
    | Assign ts v p =>
      match ts, h with
      | [.Subscript x y q], h =>
        have h : (chk c o sc x && chk c i sc y && chk c e sc v && !isLc v) = true := h
        obtain ⟨h, h4⟩ := and2 h
        obtain ⟨h, h3⟩ := and2 h
        obtain ⟨h1, h2⟩ := and2 h
        exact setSub_S g h1 h2 h3 (by simpa using h4)
      | [], h => exact off h
      | t :: _ :: _, h => cases t <;> exact off h
    | _ => exact off h
  | .ex e => fun P c sc E X Hx st h g ow => by
    cases st with
    | Expr v p =>
      obtain ⟨h1, h2⟩ := and2 h
      exact ex_S g h1 (by simpa using h2)
    | _ => exact off h
  | .iff t a b => fun P c sc E X Hx st h g ow => by
    cases st with
    | If e x y p =>
      have h : (chk c t sc e && chkSs c sc a x && chkSs c sc b y) = true := h
      obtain ⟨h, h3⟩ := and2 h
      obtain ⟨h1, h2⟩ := and2 h
      exact if_S g h1 (okSs a P c sc E X Hx x h2 g ow) (okSs b P c sc E X Hx y h3 g ow)
    | _ => exact off h
  | .whl t a => fun P c sc E X Hx st h g ow => by
    cases st with
    | While e x y p =>
      have h : (chk c t sc e && chkSs c sc a x && noneB y) = true := h
      obtain ⟨h, h3⟩ := and2 h
      obtain ⟨h1, h2⟩ := and2 h
      cases y with
      | nil => exact whl_S g ow h1 (okSs a P c sc E X Hx x h2 g ow)
      | cons _ _ => exact off h3
    | _ => exact off h
  | .for tg it a => fun P c sc E X Hx st h g ow => by
    cases st with
    | For t i x y p =>
      have h : (chkTg c sc true tg t && chkI c it sc i && chkSs c sc a x && noneB y) = true := h
      obtain ⟨h, h4⟩ := and2 h
      obtain ⟨h, h3⟩ := and2 h
      obtain ⟨h1, h2⟩ := and2 h
      cases y with
      | nil => exact for_S g ow h1 h2 (okSs a P c sc E X Hx x h3 g ow)
      | cons _ _ => exact off h4
    | _ => exact off h
  | .ret e => fun P c sc E X Hx st h g ow => by
    cases st with
    | Return v p =>
      cases v with
      | none => exact off h
      | some v => exact PS.imp (ps_ret ((okE e).1 P c sc true E X Hx v h g)) fun D σ H ⟨sd, th, Dt, rs, rh, q, eo⟩ => ⟨sd, th, _, rs, rh, q, eo.rt⟩
    | _ => exact off h
  | .retN => fun P c sc E X Hx st h g ow => by
    cases st with
    | Return v p =>
      cases v with
      | none => exact PS.imp ps_retN fun D σ H ⟨sd, th, Dt, rs, rh, q, eo⟩ => eo.rt.at q rfl rh
      | some _ => exact off h
    | _ => exact off h
  | .pass => fun P c sc E X Hx st h g ow => by
    cases st with
    | Pass p => exact PS.imp ps_pass fun D σ H ⟨sd, th, Dt, rs, rh, q, eo⟩ => eo.nx _ _ _ _ q (Keep.refl H) rs rh
    | _ => exact off h
  | .brk => fun P c sc E X Hx st h g ow => by
    cases st with
    | Break p => exact PS.imp ps_break fun D σ H ⟨sd, th, Dt, rs, rh, q, eo⟩ => eo.bk _ _ _ _ q (Keep.refl H) rs rh
    | _ => exact off h
  | .nev => fun P c sc E X Hx st h g ow => ⟨fun p s σ H D I ⟨sd, th, Dt, rs, rh, q, eo⟩ => q.elim⟩
  | .aug a b e => fun P c sc E X Hx st h g ow => by cases st <;> exact off h
  | .setF a b c2 e => fun P c sc E X Hx st h g ow => by cases st <;> exact off h
  | .augF a b c2 d e => fun P c sc E X Hx st h g ow => by cases st <;> exact off h
  | .rs a b => fun P c sc E X Hx st h g ow => by cases st <;> exact off h
  | .cont => fun P c sc E X Hx st h g ow => by
    cases st with
    | Continue p => exact PS.imp ps_continue fun D σ H ⟨sd, th, Dt, rs, rh, q, eo⟩ => eo.ct _ _ _ _ q (Keep.refl H) rs rh
    | _ => exact off h
termination_by structural s => s
theorem okSs : ∀ s : SmL, OkSs s
  | .nil => fun P c sc E X Hx st h g ow => by
    cases st with
    | nil => exact PSs.imp pss_nil fun D σ H ⟨sd, th, Dt, rs, rh, q, eo⟩ => eo.nx _ _ _ _ q (Keep.refl H) rs rh
    | cons _ _ => exact off h
  | .cons s r => fun P c sc E X Hx st h g ow => by
    cases st with
    | nil => exact off h
    | cons x xs =>
      obtain ⟨h1, h2⟩ := and2 h
      refine PSs.imp (pss_cons (okS s P c sc E X Hx x h1 g ow) (okSs r P c sc E X Hx xs h2 g ow)) fun D σ H ⟨sd, th, Dt, rs, rh, q, eo⟩ => ⟨sd, th, _, rs, rh, q, ⟨?_, eo.rt, eo.bk, eo.ct⟩⟩
      exact fun sd' th' σ' H' a k rs' rh' => ⟨sd', th', Dt, rs', rh', a, eo.go k⟩
termination_by structural s => s
end
end Tq
/-! UD9: defs. -/
namespace Tq
open PySem L2 PyProof.Rows
theorem zip_look : ∀ {ns : List Str} {us : List Value}, ns.Nodup → us.length = ns.length → (ns.filterMap fun n => ((ns.zip us).lookup n).map (n, ·)) = ns.zip us := by
  intro ns us nd hl
  have key : ∀ (ns : List Str) (us : List Value) (f : Str → Option Value), us.length = ns.length → (∀ p ∈ ns.zip us, f p.1 = some p.2) → (ns.filterMap fun n => (f n).map (n, ·)) = ns.zip us := by
    intro ns
    induction ns with
    | nil => intro us f _ _; rfl
    | cons n ns ih =>
      intro us f hl h
      cases us with
      | nil => cases hl
      | cons u us =>
        have e : f n = some u := h (n, u) (by simp)
        rw [List.filterMap_cons, e]
        show (n, u) :: _ = _
        rw [ih us f (by simpa using hl) fun p hp => h p (by rw [List.zip_cons_cons]; exact List.mem_cons_of_mem _ hp)]
        rfl
  refine key ns us _ hl ?_
  clear hl key
  induction ns generalizing us with
  | nil => intro p hp; simp at hp
  | cons n ns ih =>
    cases us with
    | nil => intro p hp; simp at hp
    | cons u us =>
      intro p hp
      rw [List.zip_cons_cons] at hp ⊢
      rcases List.mem_cons.mp hp with rfl | hp
      · show (match (n == n) with | true => some u | false => _) = some u
        rw [beq_self_eq_true]
      · have hne : p.1 ≠ n := fun z => (List.nodup_cons.mp nd).1 (by rw [← z]; exact (List.of_mem_zip hp).1)
        have e2 : (p.1 == n) = false := by simpa using hne
        show (match (p.1 == n) with | true => some u | false => (ns.zip us).lookup p.1) = some p.2
        rw [e2]
        exact ih (List.nodup_cons.mp nd).2 p hp
def argsOk (a : Arguments) (ps : List Str) : Bool := match a with
  | ⟨[], as, none, [], _, none, _⟩ => decide (as.map (·.arg) = ps)
  | _ => false
theorem bind_pos {fd : FuncData} {ps : List Str} (hp : argsOk fd.params ps = true) (hd : fd.defaults = .none) (nd : ps.Nodup) (us : List Value) (hl : us.length = ps.length) : bindArgs fd ⟨us, []⟩ = pure (ps.zip us) := by
  unfold argsOk at hp
  split at hp
  · rename_i as kd ds e
    have e2 : as.map (·.arg) = ps := of_decide_eq_true hp
    unfold bindArgs
    rw [e, hd]
    simp only [List.map_nil, List.nil_append, e2]
    have e3 : (ps.filter fun n => ((ps.zip us).lookup n).isNone) = [] := by
      rw [List.filter_eq_nil_iff]
      intro x hx
      have z := zip_look nd hl
      cases q : (ps.zip us).lookup x with
      | some _ => simp
      | none =>
        exfalso
        have m : x ∈ (ps.zip us).map (·.1) := by
          rw [List.map_fst_zip (by omega)]
          exact hx
        obtain ⟨p, hp2, rfl⟩ := List.mem_map.mp m
        rw [← z] at hp2
        obtain ⟨y, hy, hz⟩ := List.mem_filterMap.mp hp2
        cases q2 : (ps.zip us).lookup y with
        | none => rw [q2] at hz; cases hz
        | some w =>
          rw [q2] at hz
          have hz : some (y, w) = some p := hz
          cases hz
          rw [q2] at q
          cases q
    simp [seqItems?, notAStandIn, hl, e3, zip_look nd hl]
  · cases hp

/-! ### what is known of a text -/
def fnC (p : Pg) (free : List Str) (f : Fn) : CC := ⟨f.names, p.fns.map (fun g => (g.name, g.params)), free, p.wd.map (·.1)⟩
def chkFn (p : Pg) (free : List Str) (f : Fn) : PySem.Stmt → Bool
  | .FunctionDef n args body _ _ _ sc _ _ _ => decide (n = f.name) && argsOk args (f.names.take f.params) && decide ((f.names.take f.params).length = f.params) && C8.scC f.names (f.names.take f.params) sc && chkSs (fnC p free f) sc f.body body
  | _ => false
/-- the module's part that stands through the law -/
structure Known (p : Pg) (free : List Str) (K : PySem.W.Frag) (w : World) (mg : Mg) : Prop where
  wd : ∀ (X : Cx) (P : Env), X.K = K → X.w = w → X.mg = mg → P.wd = (fun x => p.wd.lookup x) → WdOk X P
  st : PySem.W.nsIn K cStatics "sys.int_max_str_digits" = some none
  free : ∀ x, free.contains x = true → mg x = none
  gl : ∀ x v, p.glv x = some v → ∃ u w, mg x = some u ∧ RelV w u ∧ ∀ H, Rep K mg H v w
/-- a def's object -/
def FnAt (K : PySem.W.Frag) (mg : Mg) (q : Fn × PySem.Stmt) (a : Addr) (fd : FuncData) : Prop := mg q.1.name = some (.ref a) ∧ L2.Fun K q.1.name q.1.name q.2 a fd
theorem get_mem {qs : List (Fn × PySem.Stmt)} : ∀ {ps : List (Fn × PySem.Stmt)}, (ps.map fun q => q.1.name).Nodup → ∀ q ∈ ps, ((ps.map (·.1)).find? fun x => decide (x.name = q.1.name)) = some q.1
  | [], _, q, h => by cases h
  | r :: ps, nd, q, h => by
    rw [List.map_cons] at nd ⊢
    obtain ⟨n1, n2⟩ := List.nodup_cons.mp nd
    rw [List.find?_cons]
    rcases List.mem_cons.mp h with rfl | h
    · rw [decide_eq_true rfl]
    · have ne : r.1.name ≠ q.1.name := fun z => n1 (by rw [z]; exact List.mem_map.mpr ⟨q, h, rfl⟩)
      rw [decide_eq_false ne]
      exact get_mem (qs := qs) n2 q h
theorem look_mem : ∀ {ps : List (Fn × PySem.Stmt)} {f : Str} {n : Nat}, ((ps.map (·.1)).map fun g => (g.name, g.params)).lookup f = some n → ∃ q ∈ ps, q.1.name = f ∧ q.1.params = n
  | [], f, n, h => by cases h
  | r :: ps, f, n, h => by
    rw [List.map_cons, List.map_cons] at h
    have h : (match (f == r.1.name) with | true => some r.1.params | false => ((ps.map (·.1)).map fun g => (g.name, g.params)).lookup f) = some n := h
    cases e : (f == r.1.name) with
    | true =>
      rw [e] at h
      exact ⟨r, List.mem_cons_self, (beq_iff_eq.mp e).symm, Option.some.inj h⟩
    | false =>
      rw [e] at h
      obtain ⟨q, a, b⟩ := look_mem h
      exact ⟨q, List.mem_cons_of_mem _ a, b⟩
theorem entry_rep {K : PySem.W.Frag} {mg : Mg} {H : Hp} {N : List Str} {ds : List D} {vs : List V} (r : RepL K mg H ds vs) : RepS K mg H (entry N.length ds) (L2.start N vs) := by
  have hl := r.length
  refine ⟨by simp [entry, L2.start, hl], fun i d e => ?_⟩
  unfold entry at e
  unfold L2.start
  by_cases hi : i < ds.length
  · rw [List.getElem?_append_left (by simpa using hi), List.getElem?_map, List.getElem?_eq_getElem hi] at e
    have e : some (some ds[i]) = some (some d) := e
    cases e
    obtain ⟨v, ev, rv⟩ := r.get (List.getElem?_eq_getElem hi)
    refine ⟨v, ?_, rv⟩
    rw [List.getElem?_append_left (by simpa [hl] using hi), List.getElem?_map, ev]
    rfl
  · rw [List.getElem?_append_right (by simpa using hi), List.getElem?_replicate] at e
    split at e <;> cases e
theorem fns_ok {p : Pg} {free : List Str} {ps : List (Fn × PySem.Stmt)} {Pr : Program} {w : World} {K : PySem.W.Frag} {mg : Mg} {base : Heap} (hp : p.fns = ps.map (·.1)) (nd : (ps.map fun q => q.1.name).Nodup) (hc : ∀ q ∈ ps, chkFn p free q.1 q.2 = true)
    (kn : Known p free K w mg) (hf : ∀ q ∈ ps, ∃ a fd, FnAt K mg q a fd) : ∀ n, ∀ q ∈ ps, ∀ a fd, FnAt K mg q a fd →
      (Binds K fd (q.1.names.take q.1.params) [] ∧ (q.1.names.take q.1.params).length = q.1.params) ∧ FnOk Pr w K mg base (L2.CX Pr w) (2 * n) a fd (q.1.names.take q.1.params) (lsp K mg (semF p n q.1.name)) := by
  have bnd : ∀ q ∈ ps, ∀ a fd, FnAt K mg q a fd → Binds K fd (q.1.names.take q.1.params) [] ∧ (q.1.names.take q.1.params).length = q.1.params := by
    intro q hq a fd h
    have c := hc q hq
    unfold chkFn at c
    split at c
    · rename_i n args body a1 a2 a3 sc a4 a5 a6 e
      obtain ⟨c, c5⟩ := and2 c
      obtain ⟨c, c4⟩ := and2 c
      obtain ⟨c, c3⟩ := and2 c
      obtain ⟨c1, c2⟩ := and2 c
      have S := C8.fnScope_by c4
      have ndp : (q.1.names.take q.1.params).Nodup := S.nd.sublist (List.take_sublist _ _)
      refine ⟨?_, dec_of c3⟩
      refine h.2.binds fun kV doc pm an cdv ct us hl => ?_
      exact bind_pos (by rw [e]; exact c2) rfl ndp us hl
    · cases c
  intro n
  induction n with
  | zero =>
    intro q hq a fd h
    refine ⟨bnd q hq a fd h, ⟨fun vs H Q E z => ?_, fun A outer s H args us vs Q E _ _ _ _ z => ?_⟩⟩
    · obtain ⟨_, _, _, _, _, _, z, _⟩ := z; exact z.elim
    · obtain ⟨_, _, _, _, _, _, z, _⟩ := z; exact z.elim
  | succ n ih =>
    intro q hq a fd h
    refine ⟨bnd q hq a fd h, ?_⟩
    have c := hc q hq
    have hget : p.get q.1.name = some q.1 := by
      unfold Pg.get
      rw [hp]
      exact get_mem (qs := ps) nd q hq
    have hget2 : ∀ ds th Qt F, semF p (n + 1) q.1.name ds th Qt F → runB (p.env (semF p n)) q.1 ds th Qt F := fun ds th Qt F z => by
      have z : need (p.get q.1.name) fun fd => runB (p.env (semF p n)) fd ds th Qt F := z
      rw [hget] at z
      exact z
    unfold chkFn at c
    split at c
    · rename_i n' args body a1 a2 a3 sc a4 a5 a6 e
      obtain ⟨c, c5⟩ := and2 c
      obtain ⟨c, c4⟩ := and2 c
      obtain ⟨c, c3⟩ := and2 c
      obtain ⟨c1, c2⟩ := and2 c
      have S := C8.fnScope_by c4
      have eS : defScope q.2 = sc := by rw [e]; rfl
      have eB : defBody q.2 = body := by rw [e]; rfl
      have len : ∀ vs H Q E, lsp K mg (semF p (n + 1) q.1.name) vs H Q E → vs.length = (q.1.names.take q.1.params).length := fun vs H Q E z => by
        obtain ⟨ds, th, Qt, F, r, rh, z, _⟩ := z
        rw [r.length, (hget2 _ _ _ _ z).1, dec_of c3]
      have G := FnOk.mono (k := 2 * (n + 1)) (h.2.okX (P := Pr) (w := w) (mg := mg) (base := base) (N := q.1.names) (k := 2 * n) (sp := lsp K mg (semF p (n + 1) q.1.name)) (by rw [eS]; exact S) len fun cdv A outer s H vs Q E hr z => ?_) (by omega)
      · exact G
      · obtain ⟨ds, th, Qt, F, r, rh, z, hq, hE⟩ := z
        obtain ⟨zl, z⟩ := hget2 _ _ _ _ z
        rw [eS, eB]
        rw [eS] at hr
        have g : Gd (p.env (semF p n)) (fnC p free q.1) sc true (fun x _ h' => wk h' (F x)) (cxOf (L2.CX Pr w) Pr w K mg base q.1.names q.1.name sc a cdv A outer s H E) H := by
          refine ⟨rfl, S.nd, rfl, rfl, fun _ _ => rfl, ?_, ?_, kn.wd _ _ rfl rfl rfl rfl, kn.st, kn.free, kn.gl, ?_, semF_rel p n⟩
          · refine Takes.imp (W := fun cls d _ H => E cls d H) (takes_of rfl rfl rfl rfl) fun cls dd σ H' ⟨x, sd, th', rx, rt, rh', kk, le, hF⟩ => ?_
            exact hE x kk cls dd H' hF rt.kp rx (rh'.le le)
          · have hu := hr.un
            show (A.deeper (envOfC q.1.name sc s.heap.objs.size a cdv)).units + 65 < cLine
            omega
          · intro f m hl
            have hl : ((p.fns).map fun g => (g.name, g.params)).lookup f = some m := hl
            rw [hp] at hl
            obtain ⟨q2, h2, rfl, rfl⟩ := look_mem hl
            obtain ⟨a', fd', h3⟩ := hf q2 h2
            obtain ⟨⟨b1, b2⟩, b3⟩ := ih q2 h2 a' fd' h3
            exact ⟨a', fd', _, 2 * n, h3.1, h3.2.kp, b1, b2, hr, b3⟩
        refine ⟨_, okSs q.1.body (p.env (semF p n)) (fnC p free q.1) sc (fun x _ h' => wk h' (F x)) _ H body c5 g (passes_of rfl), ?_⟩
        refine ⟨entry q.1.names.length ds, th, _, ⟨Keep.refl H, entry_rep r⟩, rh, z, ⟨?_, ?_, ?_, ?_⟩⟩
        · intro sd th' σ H' ⟨kk, le, hq'⟩ k _ rh'
          exact hq _ _ _ _ hq' k rfl (rh'.le le)
        · intro d th' v H' ⟨kk, le, hq'⟩ k rv rh'
          exact hq _ _ _ _ hq' k rv (rh'.le le)
        · intro _ _ _ _ z; exact z.elim
        · intro _ _ _ _ z; exact z.elim
    · cases c
end Tq
/-! UD10: what the top leaves; a law's end. -/
namespace Tq
open PySem L2 PyProof.Rows
/-! ### written values -/
mutual
def repB (K : PySem.W.Frag) : D → Value → Bool
  | .non, u => (match u with
    | .none => true
    | _ => false)
  | .bl b, u => (match u with
    | .bool c => b == c
    | _ => false)
  | .int i, u => (match u with
    | .int j _ => decide (i = j)
    | _ => false)
  | .str cs, u => (match u with
    | .str y _ => decide ((⟨cs.toArray⟩ : Str) = y)
    | _ => false)
  | .tup ds, u => (match u with
    | .ref a => (match K.lookup a with
      | some ⟨.type c, _, .seq its _, _⟩ => decide (c = "tuple") && Nat.ble its.size 100000 && repBL K ds its.toList
      | _ => false)
    | _ => false)
  | .rol ds, u => (match u with
    | .ref a => (match K.lookup a with
      | some ⟨.type c, none, .seq its _, sl⟩ => decide (c = "list") && sl.isEmpty && Nat.ble its.size 100000 && repBL K ds its.toList
      | _ => false)
    | _ => false)
  | _, _ => false
def repBL (K : PySem.W.Frag) : List D → List Value → Bool
  | [], us => us.isEmpty
  | d :: ds, us => (match us with
    | [] => false
    | u :: r => repB K d u && repBL K ds r)
end
section
variable {K : PySem.W.Frag} {mg : Mg}
mutual
theorem repB_ok : ∀ {d : D} {u : Value}, repB K d u = true → ∃ v, RelV v u ∧ ∀ H, Rep K mg H d v
  | .non, u, h => by cases u <;> first | exact ⟨.non, rfl, fun _ => rfl⟩ | exact off h
  | .bl b, u, h => by
    cases u <;> first
      | exact off h
      | (have e : b = _ := eq_of_beq h
         subst e
         exact ⟨.bl b, rfl, fun _ => rfl⟩)
  | .int i, u, h => by
    cases u <;> first
      | exact off h
      | (have e : i = _ := of_decide_eq_true h
         subst e
         exact ⟨.int i, ⟨_, rfl⟩, fun _ => rfl⟩)
  | .str cs, u, h => by
    cases u <;> first
      | exact off h
      | (have e : (⟨cs.toArray⟩ : Str) = _ := of_decide_eq_true h
         subst e
         exact ⟨.str _, ⟨_, rfl⟩, fun _ => rfl⟩)
  | .tup ds, u, h => by
    cases u with
    | ref a =>
      have h : (match K.lookup a with
        | some ⟨.type c, _, .seq its _, _⟩ => decide (c = "tuple") && Nat.ble its.size 100000 && repBL K ds its.toList
        | _ => false) = true := h
      split at h
      · rename_i c od its n osl e
        obtain ⟨h, h3⟩ := and2 h
        obtain ⟨h1, h2⟩ := and2 h
        obtain rfl : c = "tuple" := dec_of h1
        obtain ⟨vs, rv, l⟩ := repBL_ok h3
        have z : its.size ≤ 100000 := Nat.le_of_ble_eq_true h2
        have hs : sizeLine = 16777216 := sizeLine_eq
        exact ⟨.ref a, rfl, fun H => ⟨a, vs, rfl, .inr ⟨_, its, n, e, rfl, rfl, by omega, rv⟩, l H⟩⟩
      · exact off h
    | _ => exact off h
  | .rol ds, u, h => by
    cases u with
    | ref a =>
      have h : (match K.lookup a with
        | some ⟨.type c, none, .seq its _, sl⟩ => decide (c = "list") && sl.isEmpty && Nat.ble its.size 100000 && repBL K ds its.toList
        | _ => false) = true := h
      split at h
      · rename_i c its n osl e
        obtain ⟨h, h3⟩ := and2 h
        obtain ⟨h, h2⟩ := and2 h
        obtain ⟨h1, h0⟩ := and2 h
        obtain rfl : c = "list" := dec_of h1
        have es : osl = #[] := Array.isEmpty_iff.mp h0
        subst es
        obtain ⟨vs, rv, l⟩ := repBL_ok h3
        have z : its.size ≤ 100000 := Nat.le_of_ble_eq_true h2
        have hs : sizeLine = 16777216 := sizeLine_eq
        exact ⟨.ref a, rfl, fun H => ⟨a, vs, rfl, .inr ⟨its, n, e, by omega, rv⟩, l H⟩⟩
      · exact off h
    | _ => exact off h
  | .scr _, _, h => off h
  | .ref _, _, h => off h
  | .ty _, _, h => off h
  | .glo _, _, h => off h
theorem repBL_ok : ∀ {ds : List D} {us : List Value}, repBL K ds us = true → ∃ vs, Vals vs us ∧ ∀ H, RepL K mg H ds vs
  | [], us, h => by
    cases us with
    | nil => exact ⟨[], .nil, fun _ => rfl⟩
    | cons _ _ => exact off h
  | d :: ds, us, h => by
    cases us with
    | nil => exact off h
    | cons u r =>
      obtain ⟨h1, h2⟩ := and2 h
      obtain ⟨v, rv, f⟩ := repB_ok h1
      obtain ⟨vs, rvs, g⟩ := repBL_ok h2
      exact ⟨v :: vs, .cons rv rvs, fun H => ⟨v, vs, rfl, f H, g H⟩⟩
end
/-! ### written dicts -/
def wKeys (w : List (List Nat × D)) : List Str := w.map fun p => ⟨p.1.toArray⟩
def wdB (K : PySem.W.Frag) (a : Addr) (w : List (List Nat × D)) : Bool := w.all fun p => match PySem.W.nsIn K a ⟨p.1.toArray⟩ with
  | some (some u) => repB K p.2 u
  | _ => false
theorem no_key {l : List DictEntry} {P : Params} : ∀ {ks : List Str} {x : Str}, l.map He.keyOf = He.keysIn P ks → x ∉ ks → l.find? (·.key.isStr x) = none ∧ l.any (·.refKey) = false := by
  induction l with
  | nil => intro ks x _ _; exact ⟨rfl, rfl⟩
  | cons e r ih =>
    intro ks x h hx
    cases ks with
    | nil => cases h
    | cons k ks =>
      have h1 : He.keyOf e :: r.map He.keyOf = some (k, PyData.keyHash P k) :: He.keysIn P ks := h
      injection h1 with h2 h3
      obtain ⟨i1, i2⟩ := ih h3 fun z => hx (List.mem_cons_of_mem _ z)
      unfold He.keyOf at h2
      split at h2
      · rename_i y t q
        obtain ⟨h5, h6⟩ := Prod.mk.inj (Option.some.inj h2)
        have ne : y ≠ x := fun z => hx (by rw [← z, h5]; exact List.mem_cons_self)
        have e1 : e.key.isStr x = false := by
          rw [q]
          show (y == x) = false
          simpa using ne
        have e2 : e.refKey = false := by
          unfold DictEntry.refKey
          rw [q]
        refine ⟨?_, ?_⟩
        · rw [List.find?_cons, e1]; exact i1
        · rw [List.any_cons, e2, i2]; rfl
      · cases h2
theorem wd_of {w : World} {a : Addr} {wl : List (List Nat × D)} (h : He.dicW K a = some (He.keysIn w.params (wKeys wl))) (hv : wdB K a wl = true) : ∃ es n, KDict K w a es n ∧ ∀ cs : List Nat, ∃ r : Option Value, PySem.W.nsIn K a ⟨cs.toArray⟩ = some r ∧
    (match wLook wl cs with
      | some d => ∃ u v, r = some u ∧ RelV v u ∧ ∀ H, Rep K mg H d v
      | none => r = none) := by
  obtain ⟨es, n, D⟩ := He.dicW_ok h
  refine ⟨es, n, D, fun cs => ?_⟩
  cases e : wLook wl cs with
  | some d =>
    unfold wLook at e
    cases q : wl.find? fun p => decide (p.1 = cs) with
    | none => rw [q] at e; cases e
    | some p =>
      rw [q] at e
      cases e
      have hm := List.mem_of_find?_eq_some q
      have hp : p.1 = cs := by simpa using List.find?_some q
      have z := List.all_eq_true.mp hv p hm
      rw [hp] at z
      cases y : PySem.W.nsIn K a ⟨cs.toArray⟩ with
      | none => rw [y] at z; cases z
      | some r =>
        rw [y] at z
        cases r with
        | none => cases z
        | some u =>
          obtain ⟨v, rv, f⟩ := repB_ok (mg := mg) z
          exact ⟨some u, rfl, u, v, rfl, rv, f⟩
  | none =>
    unfold wLook at e
    have q : (wl.find? fun p => decide (p.1 = cs)) = none := by
      cases q : wl.find? fun p => decide (p.1 = cs) with
      | none => rfl
      | some p => rw [q] at e; cases e
    have nx : (⟨cs.toArray⟩ : Str) ∉ wKeys wl := fun z => by
      obtain ⟨p, hp, ep⟩ := List.mem_map.mp z
      have e2 : p.1 = cs := arr_inj.mp ep
      have := List.find?_eq_none.mp q p hp
      simp [e2] at this
    have l := D.at_
    have e3 : es.toList.map He.keyOf = He.keysIn w.params (wKeys wl) := by
      unfold He.dicW at h
      rw [l] at h
      have h1 : (match decide ("dict" = "dict") && ((#[] : Array (Option Value)).isEmpty && !(a == sysModules)) with
        | true => some (es.toList.map He.keyOf)
        | false => none) = some (He.keysIn w.params (wKeys wl)) := h
      rw [D.low] at h1
      exact Option.some.inj h1
    obtain ⟨k1, k2⟩ := no_key e3 nx
    refine ⟨none, ?_, rfl⟩
    unfold PySem.W.nsIn
    rw [l]
    show (match es.toList.find? (·.key.isStr ⟨cs.toArray⟩) with
      | some e => some (some e.val)
      | none => if es.toList.any (·.refKey) then none else some none) = _
    rw [k1, k2]
    rfl
end
/-! ### what is looked at behind the top -/
def asQ (g : Addr → Option Obj) : Nat → List Addr
  | 0 => [mainGlobals, cStatics]
  | n + 1 => He.growG g (asQ g n)
def dOf (q : Fn × PySem.Stmt) : He.FnD := ⟨(q.1.name, none), q.1.name, q.1.name, defArgs q.2, defBody q.2, defScope q.2⟩
def faOf (ps : List (Fn × PySem.Stmt)) (wd : List (Str × List (List Nat × D))) (free : List Str) : List He.Fa := (ps.flatMap fun q => [.glo q.1.name, .keep q.1.name]) ++ ((wd.map fun x => .glo x.1) ++ free.map .free)
def exB (p : Pg) (K : PySem.W.Frag) : Bool := He.eqO (PySem.W.nsIn K cStatics "sys.int_max_str_digits") (some none) && (p.wd.all fun x => wdB K (He.ga K x.1) x.2) && (p.gl.all fun x => match PySem.W.nsIn K mainGlobals x.1 with
  | some (some u) => repB K x.2 u
  | _ => false)
abbrev AlQ : Type := (Bool × He.Al) × List (Option (List (Option (Str × Int))))
def obsQ (p : Pg) (ps : List (Fn × PySem.Stmt)) (free : List Str) (K : PySem.W.Frag) : AlQ := ((exB p K, He.obsE (faOf ps p.wd free) (ps.map dOf) K), p.wd.map fun x => He.dicW K (He.ga K x.1))
def valQ (p : Pg) (ps : List (Fn × PySem.Stmt)) (w : World) : AlQ := ((true, He.valE (ps.map dOf)), p.wd.map fun x => some (He.keysIn w.params (wKeys x.2)))
def obsQG (n : Nat) (p : Pg) (ps : List (Fn × PySem.Stmt)) (free : List Str) (g : Addr → Option Obj) : AlQ := obsQ p ps free (He.frG g (asQ g n))
def hookQ (n : Nat) (p : Pg) (ps : List (Fn × PySem.Stmt)) (free : List Str) : PySem.W.Hook where
  α := AlQ
  obs := fun s => obsQG n p ps free s.heap.get?
  val := fun w => valQ p ps w
  says := fun w h => ∃ K : PySem.W.Frag, K.In h ∧ obsQ p ps free K = valQ p ps w
  of := fun _ _ e => ⟨_, He.frG_in, e⟩
  keeps := fun _ _ _ ⟨K, hK, c⟩ k => ⟨K, PySem.W.Frag.In.keeps hK k, c⟩
theorem obQ_eq {n : Nat} {p : Pg} {ps : List (Fn × PySem.Stmt)} {free : List Str} (s : PySem.W.SharedT) : obsQG n p ps free (HandSHeadRun.getT s) = (hookQ n p ps free).obs s.abs := by
  have e : HandSHeadRun.getT s = s.abs.heap.get? := funext (HandSHeadRun.getT_eq s)
  show obsQG n p ps free (HandSHeadRun.getT s) = obsQG n p ps free s.abs.heap.get?
  rw [e]
section
variable {p : Pg} {ps : List (Fn × PySem.Stmt)} {free : List Str} {K : PySem.W.Frag} {w : World} {h : Heap} {mg : Mg}
theorem known_of (c : obsQ p ps free K = valQ p ps w) (KX : K.In h) (G : h.Ns mainGlobals mg) : Known p free K w mg ∧ ∀ q ∈ ps, ∃ a fd, FnAt K mg q a fd := by
  have c1 : exB p K = true := congrArg (fun z : AlQ => z.1.1) c
  have c2 : He.SaysE (faOf ps p.wd free) (ps.map dOf) K := congrArg (fun z : AlQ => z.1.2) c
  have c3 : (p.wd.map fun x => He.dicW K (He.ga K x.1)) = p.wd.map fun x => some (He.keysIn w.params (wKeys x.2)) := congrArg (fun z : AlQ => z.2) c
  have fact : ∀ f ∈ faOf ps p.wd free, f.ok K = true := fun f hf => by
    have z := (He.ba (show (((faOf ps p.wd free).all fun f => f.ok K) && (ps.map dOf).all fun d => (He.Fa.code d.at_ d.qual).ok K) = true from congrArg (fun z : He.Al => z.1) c2)).1
    exact List.all_eq_true.mp z f hf
  obtain ⟨c1, c5⟩ := and2 c1
  obtain ⟨c1, c4⟩ := and2 c1
  refine ⟨⟨?_, He.eqO_ok c1, fun x hx => ?_, fun x v hv => ?_⟩, fun q hq => ?_⟩
  · intro X P e1 e2 e3 e4 g w' hw
    rw [e4] at hw
    have hm := PySem.mem_of_lookup hw
    have ew : He.dicW K (He.ga K g) = some (He.keysIn w.params (wKeys w')) := by
      have z := List.map_inj_left.mp c3 _ hm
      exact z
    obtain ⟨es, n, D, f⟩ := wd_of (mg := mg) ew (List.all_eq_true.mp c4 _ hm)
    rw [e1, e2, e3]
    exact ⟨_, es, n, He.glo_ok KX G (fact (.glo g) (List.mem_append_right _ (List.mem_append_left _ (List.mem_map.mpr ⟨_, hm, rfl⟩)))), D, f⟩
  · exact He.free_ok KX G (fact (.free x) (List.mem_append_right _ (List.mem_append_right _ (List.mem_map.mpr ⟨x, List.contains_iff_mem.mp hx, rfl⟩))))
  · unfold Pg.glv at hv
    split at hv
    · rename_i w' hw
      cases hv
      have hm := PySem.mem_of_lookup hw
      have z := He.glo_ok KX G (fact (.glo x) (List.mem_append_right _ (List.mem_append_left _ (List.mem_map.mpr ⟨_, hm, rfl⟩))))
      exact ⟨_, .ref _, z, rfl, fun _ => ⟨_, rfl, z⟩⟩
    · have hm := PySem.mem_of_lookup hv
      have z := List.all_eq_true.mp c5 _ hm
      cases e : PySem.W.nsIn K mainGlobals x with
      | none => rw [e] at z; cases z
      | some r =>
        rw [e] at z
        cases r with
        | none => cases z
        | some u =>
          obtain ⟨v2, rv, f⟩ := repB_ok (mg := mg) z
          exact ⟨u, v2, PySem.W.mg_of KX G e, rv, f⟩
  · have m1 : He.Fa.glo q.1.name ∈ faOf ps p.wd free := List.mem_append_left _ (List.mem_flatMap.mpr ⟨q, hq, by simp⟩)
    have m2 : He.Fa.keep q.1.name ∈ faOf ps p.wd free := List.mem_append_left _ (List.mem_flatMap.mpr ⟨q, hq, by simp⟩)
    obtain ⟨i, hi, ei⟩ := List.getElem_of_mem (List.mem_map.mpr ⟨q, hq, rfl⟩ : dOf q ∈ ps.map dOf)
    obtain ⟨oc, od, osl, kV, doc, pm, an, cdv, ct, l, cd⟩ := c2.def_ i (d := dOf q) (by rw [List.getElem?_eq_getElem hi, ei])
    exact ⟨_, _, He.glo_ok KX G (fact _ m1), L2.fun_mk l cd (fact _ m2)⟩
end
end Tq
/-! UD11: a law's end. -/
namespace Tq
open PySem L2 PyProof.Rows
theorem bind_at {p : Pg} {free : List Str} {K : PySem.W.Frag} {mg : Mg} {q : Fn × PySem.Stmt} {a : Addr} {fd : FuncData} (c : chkFn p free q.1 q.2 = true) (h : FnAt K mg q a fd) (us : List Value) (hl : us.length = (q.1.names.take q.1.params).length) :
    bindArgs fd ⟨us, []⟩ = pure ((q.1.names.take q.1.params).zip us) := by
  obtain ⟨oc, od, kV, doc, pm, an, cdv, ct, osl, rfl, lk, hcd⟩ := h.2.ex
  unfold chkFn at c
  split at c
  · rename_i n args body a1 a2 a3 sc a4 a5 a6 e
    obtain ⟨c, c5⟩ := and2 c
    obtain ⟨c, c4⟩ := and2 c
    obtain ⟨c, c3⟩ := and2 c
    obtain ⟨c1, c2⟩ := and2 c
    have S := C8.fnScope_by c4
    exact bind_pos (by rw [e]; exact c2) rfl (S.nd.sublist (List.take_sublist _ _)) us hl
  · cases c
/-- a law whose text is told, and whose telling answers True -/
theorem law_q {l : PySem.W.OpenLaw} {n k m : Nat} {vw : Program} {loose : List Str} {XP : (Str → Option Value) → Heap → Prop} {d : PySem.DefRec} {p : Pg} {ps : List (Fn × PySem.Stmt)} {free : List Str} {x : Str}
    (hn : l.most = some n) (hn2 : n ≤ sizeLine) (hdf : d.params.defaults = []) (hr : Room (2 * k) callerA) (hp : p.fns = ps.map (·.1)) (nd : (ps.map fun q => q.1.name).Nodup) (hc : ∀ q ∈ ps, chkFn p free q.1 q.2 = true)
    (hq : ∃ q ∈ ps, q.1.name = d.name ∧ q.1.names.take q.1.params = [x])
    (sem : ∀ ns : List Int, ns.length ≤ n → semF p k d.name [.scr (ns.map D.int)] (fun _ => none) (fun v _ => v = .bl true) fun _ _ => False) :
    PySem.W.WalkO vw loose XP (hookQ m p ps free).says l.row.toRowW d [] (fun f vs => PySem.call f vs) := by
  refine Att.attach_call hn hdf fun w s0 s1 mg mb fa o pm cd doc a vs ns G Y ho hd hcd hmg hobj hints hlen hg => ?_
  obtain ⟨K, KX, c⟩ := Y
  obtain ⟨kn, hf⟩ := known_of c KX G.T.g
  obtain ⟨q, mq, e1, e2⟩ := hq
  obtain ⟨fa', fd, h⟩ := hf q mq
  have ea : fa' = fa := by
    have z := h.1
    rw [e1, hmg] at z
    cases z
    rfl
  subst ea
  have F : ∀ base : Heap, K.In base → base.Ns mainGlobals mg → FnOk l.prog w K mg base (L2.CX l.prog w) (2 * k) fa' fd [x] (lsp K mg (semF p k d.name)) := fun base _ _ => by
    have z := (fns_ok (Pr := l.prog) (base := base) hp nd hc kn hf k q mq fa' fd h).2
    rw [e1, e2] at z
    exact z
  have hb : ∀ (s : Shared) (u : Value), BindsTo s fd ⟨[u], []⟩ [(x, u)] := fun s u => by
    have z := bind_at (hc q mq) h [u] (by rw [e2]; rfl)
    rw [e2] at z
    exact .of_eq z
  refine law_call KX G.T.g G.T.b G.T.builtins G.T.nolimit hg hobj hints (by omega) hr F hb (fun H hO hS => ?_) fun H e s' z => ?_
  · refine ⟨[.scr (ns.map D.int)], fun _ => none, _, _, ⟨.ref a, [], rfl, ⟨a, ns.map V.int, rfl, ?_, RepL.ints⟩, rfl⟩, fun b u z => (by cases z), sem ns hlen, ?_, fun x th' cls dd H' z => z.elim⟩
    · rcases hS with hS | hS
      · rcases hS with hS | hS
        · rcases hO a with z | ⟨o2, xs, z⟩
          · rw [z] at hS; cases hS
          · rw [z] at hS; cases hS
        · exact .inl hS
      · exact .inr hS
    · intro dd th v H' z k1 rv rh
      subst z
      exact rv
  · obtain ⟨_, _, _, _, _, _, _, _, _, _, _, _, z⟩ := z
    exact z
end Tq
/-! UH: the readings, said piece by piece (for rewriting). -/
namespace Tq
open PySem
variable {P : Env} {h : TH} {Q : KQ} {k : Bool → Prop} {a b : Nat} {i j : Int} {x y v : D} {xs ys : List D} {kd : D → Prop} {cs ds : List Nat} {kvs : List (Ky × D)}
/-! ### operators -/
theorem b_ai : binT .Add (.int i) (.int j) h kd = kd (.int (i + j)) := rfl
theorem b_as : binT .Add (.str cs) (.str ds) h kd = (cs.length + ds.length ≤ LINE ∧ kd (.str (cs ++ ds))) := rfl
theorem b_at : binT .Add (.tup xs) (.tup ys) h kd = (xs.length + ys.length ≤ LINE ∧ kd (.tup (xs ++ ys))) := rfl
theorem b_rr : binT .Add (.rol xs) (.rol ys) h kd = (xs.length + ys.length ≤ LINE ∧ kd (.rol (xs ++ ys))) := rfl
theorem b_rf : binT .Add (.rol xs) (.ref a) h kd = need (lstAt h (.ref a)) fun ys => xs.length + ys.length ≤ LINE ∧ kd (.rol (xs ++ ys)) := rfl
theorem b_fr : binT .Add (.ref a) (.rol ys) h kd = need (lstAt h (.ref a)) fun xs => xs.length + ys.length ≤ LINE ∧ kd (.rol (xs ++ ys)) := rfl
theorem b_ff : binT .Add (.ref a) (.ref b) h kd = need (lstAt h (.ref a)) fun xs => need (lstAt h (.ref b)) fun ys => xs.length + ys.length ≤ LINE ∧ kd (.rol (xs ++ ys)) := rfl
theorem b_mr : binT .Mult (.rol xs) (.int j) h kd = (0 ≤ j ∧ j ≤ 1000 ∧ xs.length ≤ 1000 ∧ kd (.rol (List.replicate j.toNat xs).flatten)) := rfl
theorem b_si : binT .Sub (.int i) (.int j) h kd = kd (.int (i - j)) := rfl
theorem b_mi : binT .Mult (.int i) (.int j) h kd = (((-(2 ^ 64) < i ∧ i < 2 ^ 64) ∨ (-(2 ^ 64) < j ∧ j < 2 ^ 64)) ∧ kd (.int (i * j))) := rfl
theorem b_ms : binT .Mult (.str cs) (.int j) h kd = (0 ≤ j ∧ j ≤ 1000000 ∧ cs.length ≤ 10 ∧ kd (.str (List.replicate j.toNat cs).flatten)) := rfl
theorem b_mt : binT .Mult (.tup xs) (.int j) h kd = (xs ≠ [] ∧ 2 ≤ j ∧ j ≤ 1000 ∧ xs.length ≤ 1000 ∧ kd (.tup (List.replicate j.toNat xs).flatten)) := rfl
theorem b_fd : binT .FloorDiv (.int i) (.int j) h kd = (0 < j ∧ j < 1073741824 ∧ kd (.int (i / j))) := rfl
theorem b_md : binT .Mod (.int i) (.int j) h kd = (0 < j ∧ kd (.int (i % j))) := rfl
theorem b_pw : binT .Pow (.int i) (.int j) h kd = (0 ≤ j ∧ j ≤ 1000000 ∧ i.natAbs < 2 ^ 64 ∧ kd (.int (i ^ j.toNat))) := rfl
/-! ### comparisons -/
theorem c_lt : cmpT P .Lt (.int i) (.int j) h k = k (decide (i < j)) := rfl
theorem c_le : cmpT P .LtE (.int i) (.int j) h k = k (decide (i ≤ j)) := rfl
theorem c_gt : cmpT P .Gt (.int i) (.int j) h k = k (decide (j < i)) := rfl
theorem c_ge : cmpT P .GtE (.int i) (.int j) h k = k (decide (j ≤ i)) := rfl
theorem c_eq : cmpT P .Eq x y h k = cmpD h x y k := by cases x <;> cases y <;> rfl
theorem c_ne : cmpT P .NotEq x y h k = cmpD h x y fun b => k (!b) := by cases x <;> cases y <;> rfl
theorem c_is : cmpT P .Is x y h k = isT x y k := by cases x <;> cases y <;> rfl
theorem c_isn : cmpT P .IsNot x y h k = isT x y fun b => k (!b) := by cases x <;> cases y <;> rfl
theorem c_in : cmpT P .In x y h k = inT P h x y k := by cases x <;> cases y <;> rfl
theorem c_nin : cmpT P .NotIn x y h k = inT P h x y fun b => k (!b) := by cases x <;> cases y <;> rfl
theorem d_fl (hx : flat x = true) (hy : flat y = true) : cmpD h x y k = k (eqv x y) := by
  apply propext
  unfold cmpD
  constructor
  · rintro (⟨_, _, q⟩ | ⟨q, _⟩)
    · exact q
    · rcases q with q | q
      · rw [hx] at q; cases q
      · rw [hy] at q; cases q
  · exact fun q => .inl ⟨hx, hy, q⟩
theorem f_non : flat .non = true := rfl
theorem f_bl {t : Bool} : flat (.bl t) = true := rfl
theorem f_int : flat (.int i) = true := rfl
theorem f_str : flat (.str cs) = true := rfl
theorem e_ii : eqv (.int i) (.int j) = (i == j) := by simp only [eqv]
theorem e_ss : eqv (.str cs) (.str ds) = (cs == ds) := by simp only [eqv]
theorem e_bb {s t : Bool} : eqv (.bl s) (.bl t) = (s == t) := by simp only [eqv]
theorem i_non : isT x .non k = k (isNon x) := by cases x <;> rfl
theorem n_non : isNon .non = true := rfl
theorem n_int : isNon (.int i) = false := rfl
theorem n_str : isNon (.str cs) = false := rfl
theorem n_tup : isNon (.tup xs) = false := rfl
theorem n_ref : isNon (.ref a) = false := rfl
theorem n_rol : isNon (.rol xs) = false := rfl
theorem n_bl {t : Bool} : isNon (.bl t) = false := rfl
def rIn (o : Option TO) (x : D) (k : Bool → Prop) : Prop := match o with
  | some (.lst ys) => inSeq x ys k
  | some (.dK kvs) => need (toKy x) fun q => k (look kvs q).isSome
  | some (.rdK kvs) => need (toKy x) fun q => k (look kvs q).isSome
  | _ => False
theorem in_ref : inT P h x (.ref a) k = rIn (h a) x k := rfl
theorem rIn_l : rIn (some (.lst ys)) x k = inSeq x ys k := rfl
theorem rIn_d : rIn (some (.dK kvs)) x k = need (toKy x) fun q => k (look kvs q).isSome := rfl
theorem in_rol : inT P h x (.rol ys) k = inSeq x ys k := rfl
theorem in_tup : inT P h x (.tup ys) k = inSeq x ys k := rfl
theorem in_str {c : Nat} : inT P h (.str [c]) (.str cs) k = k (decide (c ∈ cs)) := rfl
theorem in_glo {g : Str} : inT P h (.str cs) (.glo g) k = need (P.wd g) fun w => k (wLook w cs).isSome := rfl
theorem ky_i : toKy (.int i) = some (.i i) := rfl
theorem ky_s : toKy (.str cs) = some (.s cs) := rfl
/-! ### truth -/
theorem t_non : truT h .non k = k false := rfl
theorem t_bl {t : Bool} : truT h (.bl t) k = k t := rfl
theorem t_int : truT h (.int i) k = k (i != 0) := rfl
theorem t_str : truT h (.str cs) k = (cs.length ≤ LINE ∧ k (!cs.isEmpty)) := rfl
theorem t_tup : truT h (.tup xs) k = k (!xs.isEmpty) := rfl
theorem t_rol : truT h (.rol xs) k = k (!xs.isEmpty) := rfl
def rTru (o : Option TO) (k : Bool → Prop) : Prop := match o with
  | some (.lst xs) => k (!xs.isEmpty)
  | some (.dK kvs) => k (!kvs.isEmpty)
  | _ => False
theorem t_ref : truT h (.ref a) k = rTru (h a) k := rfl
theorem rTru_l : rTru (some (.lst xs)) k = k (!xs.isEmpty) := rfl
theorem rTru_d : rTru (some (.dK kvs)) k = k (!kvs.isEmpty) := rfl
/-! ### subscripts, slices -/
theorem ix_tup : ixT P (.tup xs) (.int i) h kd = need (atI xs i) kd := rfl
theorem ix_rol : ixT P (.rol xs) (.int i) h kd = need (atI xs i) kd := rfl
theorem ix_scr : ixT P (.scr xs) (.int i) h kd = need (atI xs i) kd := rfl
theorem ix_str : ixT P (.str cs) (.int i) h kd = (cs.length ≤ LINE ∧ need (atI cs i) fun c => kd (.str [c])) := rfl
def rIx (o : Option TO) (y : D) (k : D → Prop) : Prop := match o with
  | some (.lst xs) => match y with
    | .int i => need (atI xs i) k
    | _ => False
  | some (.dK kvs) => need (toKy y) fun q => need (look kvs q) k
  | some (.rdK kvs) => need (toKy y) fun q => need (look kvs q) k
  | _ => False
theorem ix_ref : ixT P (.ref a) y h kd = rIx (h a) y kd := by cases y <;> rfl
theorem rIx_l : rIx (some (.lst xs)) (.int i) kd = need (atI xs i) kd := rfl
theorem rIx_d : rIx (some (.dK kvs)) y kd = need (toKy y) fun q => need (look kvs q) kd := rfl
theorem rIx_r : rIx (some (.rdK kvs)) y kd = need (toKy y) fun q => need (look kvs q) kd := rfl
theorem ix_glo {g : Str} : ixT P (.glo g) (.str cs) h kd = need (P.wd g) fun w => need (wLook w cs) kd := rfl
theorem ixN_nat {n : Nat} {i : Int} (h0 : 0 ≤ i) (h1 : i < n) : ixN n i = some i.toNat := by unfold ixN; rw [if_pos h0, if_pos h1]
theorem at0 {α : Type} {u : α} {l : List α} : atI (u :: l) 0 = some u := by
  unfold atI
  rw [ixN_nat (by decide) (by simp only [List.length_cons]; omega)]
  rfl
theorem at1 {α : Type} {u v : α} {l : List α} : atI (u :: v :: l) 1 = some v := by
  unfold atI
  rw [ixN_nat (by decide) (by simp only [List.length_cons]; omega)]
  rfl
theorem at2 {α : Type} {u v w : α} {l : List α} : atI (u :: v :: w :: l) 2 = some w := by
  unfold atI
  rw [ixN_nat (by decide) (by simp only [List.length_cons]; omega)]
  rfl
theorem atI_nat {α : Type} {l : List α} {i : Int} (h0 : 0 ≤ i) (h1 : i < l.length) : ∃ u, l[i.toNat]? = some u ∧ atI l i = some u := by
  have hl : i.toNat < l.length := by omega
  refine ⟨l[i.toNat], List.getElem?_eq_getElem hl, ?_⟩
  unfold atI
  rw [ixN_nat h0 h1]
  exact List.getElem?_eq_getElem hl
variable {lo hi : Option Int}
theorem sl_str : slT (.str cs) lo hi h kd = (cs.length ≤ LINE ∧ kd (.str (cut cs lo hi))) := rfl
theorem sl_tup : slT (.tup xs) lo hi h kd = kd (.tup (cut xs lo hi)) := rfl
theorem sl_rol : slT (.rol xs) lo hi h kd = kd (.rol (cut xs lo hi)) := rfl
theorem sl_scr : slT (.scr xs) lo hi h kd = kd (.rol (cut xs lo hi)) := rfl
def rSl (o : Option TO) (lo hi : Option Int) (k : D → Prop) : Prop := match o with
  | some (.lst xs) => k (.rol (cut xs lo hi))
  | _ => False
theorem sl_ref : slT (.ref a) lo hi h kd = rSl (h a) lo hi kd := rfl
theorem rSl_l : rSl (some (.lst xs)) lo hi kd = kd (.rol (cut xs lo hi)) := rfl
theorem bl_len : bltT .len [x] h kd = lenT h x fun n => kd (.int n) := by cases x <;> rfl
variable {kn : Nat → Prop}
theorem l_str : lenT h (.str cs) kn = (cs.length ≤ LINE ∧ kn cs.length) := rfl
theorem l_tup : lenT h (.tup xs) kn = kn xs.length := rfl
theorem l_rol : lenT h (.rol xs) kn = kn xs.length := rfl
theorem l_scr : lenT h (.scr xs) kn = kn xs.length := rfl
def rLen (o : Option TO) (k : Nat → Prop) : Prop := match o with
  | some (.lst xs) => k xs.length
  | some (.dK kvs) => k kvs.length
  | _ => False
theorem l_ref : lenT h (.ref a) kn = rLen (h a) kn := rfl
theorem rLen_l : rLen (some (.lst xs)) kn = kn xs.length := rfl
theorem rLen_d : rLen (some (.dK kvs)) kn = kn kvs.length := rfl
theorem bl_max : bltT .max [.int i, .int j] h kd = kd (.int (if j > i then j else i)) := rfl
theorem bl_min : bltT .min [.int i, .int j] h kd = kd (.int (if j < i then j else i)) := rfl
theorem bl_ii : bltT .int [.int i] h kd = kd (.int i) := rfl
theorem bl_ib {t : Bool} : bltT .int [.bl t] h kd = kd (.int (if t then 1 else 0)) := rfl
theorem bl_is : bltT .int [.str cs] h kd = need (figs cs) fun n => kd (.int n) := rfl
theorem bl_st : bltT .str [.int i] h kd = (i.natAbs < 2 ^ 1000 ∧ kd (.str (intTxt i))) := rfl
theorem bl_tup : bltT .tuple [x] h kd = need (seqAt h x) fun xs => kd (.tup xs) := by cases x <;> rfl
theorem bl_lst : bltT .list [x] h kd = need (seqAt h x) fun xs => kd (.rol xs) := by cases x <;> rfl
theorem bl_all : bltT .all [x] h kd = need (lstAt h x) fun xs => need (allBl xs) fun bs => kd (.bl (bs.all id)) := by cases x <;> rfl
theorem bl_any : bltT .any [x] h kd = need (lstAt h x) fun xs => need (allBl xs) fun bs => kd (.bl (bs.any id)) := by cases x <;> rfl
theorem bl_sum : bltT .sum [x] h kd = need (lstAt h x) fun xs => need (allInt xs) fun ns => kd (.int ns.sum) := by cases x <;> rfl
def rSort (o : Option TO) (k : D → Prop) : Prop := match o with
  | some (.dK kvs) => need (allStr (kvs.map fun p => p.1.d)) fun ks => ks.length < 64 ∧ ∀ ys, ys.Perm ks → sortedL ys = true → k (.rol (ys.map D.str))
  | _ => False
theorem bl_srt : bltT .sorted [.ref a] h kd = rSort (h a) kd := rfl
theorem rSort_d : rSort (some (.dK kvs)) kd = need (allStr (kvs.map fun p => p.1.d)) fun ks => ks.length < 64 ∧ ∀ ys, ys.Perm ks → sortedL ys = true → kd (.rol (ys.map D.str)) := rfl
def rSeq (o : Option TO) : Option (List D) := match o with
  | some (.lst xs) => some xs
  | _ => none
theorem s_ref : seqAt h (.ref a) = rSeq (h a) := rfl
theorem s_tup : seqAt h (.tup xs) = some xs := rfl
theorem s_rol : seqAt h (.rol xs) = some xs := rfl
theorem s_scr : seqAt h (.scr xs) = some xs := rfl
theorem ls_ref : lstAt h (.ref a) = rSeq (h a) := rfl
theorem ls_rol : lstAt h (.rol xs) = some xs := rfl
theorem rSeq_l : rSeq (some (.lst xs)) = some xs := rfl
/-! ### isinstance -/
variable {t : Ty}
theorem isi_non : isiT h t .non = some false := rfl
theorem isi_bl {s : Bool} : isiT h t (.bl s) = some (t == .bool || t == .int) := rfl
theorem isi_int : isiT h t (.int i) = some (t == .int) := rfl
theorem isi_str : isiT h t (.str cs) = some (t == .str) := rfl
theorem isi_tup : isiT h t (.tup xs) = some (t == .tuple) := rfl
theorem isi_rol : isiT h t (.rol xs) = some (t == .list) := rfl
def rIsi (o : Option TO) (t : Ty) : Option Bool := match o with
  | some (.lst _) => some (t == .list)
  | some (.dK _) => some (t == .dict)
  | _ => none
theorem isi_ref : isiT h t (.ref a) = rIsi (h a) t := rfl
theorem rIsi_l : rIsi (some (.lst xs)) t = some (t == .list) := rfl
theorem rIsi_d : rIsi (some (.dK kvs)) t = some (t == .dict) := rfl
/-! ### methods -/
def rLst (o : Option TO) : Prop := match o with
  | some (.lst _) => True
  | _ => False
def rDic (o : Option TO) : Prop := match o with
  | some (.dK _) => True
  | _ => False
theorem p_app : bmPre P .append (.ref a) h = rLst (h a) := rfl
theorem p_get : bmPre P .dget (.ref a) h = rDic (h a) := rfl
theorem rLst_l : rLst (some (.lst xs)) = True := rfl
theorem rDic_d : rDic (some (.dK kvs)) = True := rfl
theorem p_up : bmPre P .upper (.str cs) h = True := rfl
theorem p_spl : bmPre P .split (.str cs) h = True := rfl
theorem p_jn : bmPre P .join (.str cs) h = True := rfl
theorem p_wg {g : Str} : bmPre P .wget (.glo g) h = ((P.wd g).isSome = true) := rfl
def rApp (o : Option TO) (a : Nat) (v : D) (h : TH) (Q : KQ) : Prop := match o with
  | some (.lst xs) => xs.length < LINE ∧ Q .non (ups h a (.lst (xs ++ [v])))
  | _ => False
theorem m_app : bmT P .append (.ref a) [v] h Q = rApp (h a) a v h Q := rfl
theorem rApp_l : rApp (some (.lst xs)) a v h Q = (xs.length < LINE ∧ Q .non (ups h a (.lst (xs ++ [v])))) := rfl
def rGet (o : Option TO) (k d : D) (h : TH) (Q : KQ) : Prop := match o with
  | some (.dK kvs) => need (toKy k) fun q => Q ((look kvs q).getD d) h
  | _ => False
theorem m_get {u : D} : bmT P .dget (.ref a) [u] h Q = rGet (h a) u .non h Q := rfl
theorem m_get2 {u : D} : bmT P .dget (.ref a) [u, v] h Q = rGet (h a) u v h Q := rfl
theorem rGet_d {u : D} : rGet (some (.dK kvs)) u v h Q = need (toKy u) fun q => Q ((look kvs q).getD v) h := rfl
theorem m_up : bmT P .upper (.str cs) [] h Q = (cs.length ≤ 1000000 ∧ cs.all (fun c => decide (c < 128)) = true ∧ Q (.str (cs.map upC)) h) := rfl
theorem m_spl {c : Nat} : bmT P .split (.str cs) [.str [c]] h Q = (c < 128 ∧ cs.length ≤ 1000000 ∧ Q (.rol ((splC c [] cs).map D.str)) h) := rfl
theorem m_jn : bmT P .join (.str cs) [x] h Q = need (seqAt h x) fun xs => need (allStr xs) fun ys => (ys.map List.length).sum + ys.length * cs.length ≤ LINE ∧ Q (.str (gluT cs ys)) h := by cases x <;> rfl
theorem m_wg {g : Str} : bmT P .wget (.glo g) [.str cs] h Q = need (P.wd g) fun w => Q ((wLook w cs).getD .non) h := rfl
/-! ### stores -/
variable {kt : TH → Prop}
def rSet (o : Option TO) (a : Nat) (i v : D) (h : TH) (k : TH → Prop) : Prop := match o with
    | some (.lst xs) => match i with
      | .int n => need (ixN xs.length n) fun j => k (ups h a (.lst (xs.set j v)))
      | _ => False
    | some (.dK kvs) => need (toKy i) fun q => kvs.length < LINE ∧ k (ups h a (.dK (putK kvs q v)))
    | _ => False
theorem s_set : setT (.ref a) x v h kt = rSet (h a) a x v h kt := rfl
theorem rSet_l : rSet (some (.lst xs)) a (.int i) v h kt = need (ixN xs.length i) fun j => kt (ups h a (.lst (xs.set j v))) := rfl
theorem rSet_d : rSet (some (.dK kvs)) a x v h kt = need (toKy x) fun q => kvs.length < LINE ∧ kt (ups h a (.dK (putK kvs q v))) := rfl
theorem ixN0 {n : Nat} : ixN (n + 1) 0 = some 0 := ixN_nat (by decide) (by omega)
theorem ixN1 {n : Nat} : ixN (n + 1 + 1) 1 = some 1 := ixN_nat (by decide) (by omega)
theorem ups_ups2 (h : TH) (p : Nat) (o u : TO) : ups (ups h p o) p u = ups h p u := by
  funext b
  by_cases e : b = p
  · subst e; rw [ups_same, ups_same]
  · rw [ups_ne e, ups_ne e, ups_ne e]
/-! ### walks -/
variable {kw : List D → (TH → Prop) → Prop}
theorem w_tup : walkT (.tup xs) h kw = kw xs fun _ => True := rfl
theorem w_rol : walkT (.rol xs) h kw = kw xs fun _ => True := rfl
theorem w_scr : walkT (.scr xs) h kw = kw xs fun _ => True := rfl
theorem w_str : walkT (.str cs) h kw = (cs.length ≤ LINE ∧ kw (cs.map fun c => D.str [c]) fun _ => True) := rfl
def rWlk (o : Option TO) (a : Nat) (k : List D → (TH → Prop) → Prop) : Prop := match o with
  | some (.lst xs) => k xs fun h' => h' a = some (.lst xs)
  | _ => False
theorem w_ref : walkT (.ref a) h kw = rWlk (h a) a kw := rfl
theorem rWlk_l : rWlk (some (.lst xs)) a kw = kw xs fun h' => h' a = some (.lst xs) := rfl
/-! ### slots -/
theorem j0 {α : Type} {u : Option α} {l : List (Option α)} : ((u :: l)[0]?).join = u := by cases u <;> rfl
theorem jS {α : Type} {u : Option α} {l : List (Option α)} {n : Nat} : ((u :: l)[n + 1]?).join = (l[n]?).join := rfl
/-! ### targets -/
theorem bnd_nm {n : Nat} {σ : Sl} {kk : Sl → Prop} : bindT (.nm n) x σ kk = kk (σ.set n (some x)) := rfl
theorem bnd_rl {is : List Nat} {σ : Sl} {kk : Sl → Prop} : bindT (.tp is) (.rol xs) σ kk = (xs.length = is.length ∧ kk ((is.zip xs).foldl (fun s p => s.set p.1 (some p.2)) σ)) := rfl
theorem bnd_tp {is : List Nat} {σ : Sl} {kk : Sl → Prop} : bindT (.tp is) (.tup xs) σ kk = (xs.length = is.length ∧ kk ((is.zip xs).foldl (fun s p => s.set p.1 (some p.2)) σ)) := rfl
/-! ### the text's names -/
theorem v_fn {p : Pg} {F : Str → List D → TH → KQ → FQ → Prop} : (p.env F).fn = F := rfl
theorem v_wd {p : Pg} {F : Str → List D → TH → KQ → FQ → Prop} {g : Str} : (p.env F).wd g = p.wd.lookup g := rfl
theorem v_gl {p : Pg} {F : Str → List D → TH → KQ → FQ → Prop} {g : Str} : (p.env F).gl g = p.glv g := rfl
/-! ### loops by an invariant -/
/-- for: I holds of what is left -/
theorem forI {g : TH → Prop} {step : D → Sl → TH → (Sl → TH → Prop) → Prop} {done : Sl → TH → Prop} (I : List D → Sl → TH → Prop) (hg : ∀ ds σ h, I ds σ h → g h) (hd : ∀ σ h, I [] σ h → done σ h)
    (hs : ∀ d ds σ h (K : Sl → TH → Prop), I (d :: ds) σ h → (∀ σ' h' k, Le k h' → I ds σ' k → K σ' h') → step d σ h K) : ∀ ds σ h, I ds σ h → loopL g step ds σ h done
  | [], σ, h, i => ⟨hg _ _ _ i, hd _ _ i⟩
  | d :: ds, σ, h, i => ⟨hg _ _ _ i, hs d ds σ h _ i fun σ' h' k l z => ⟨k, l, forI I hg hd hs ds σ' k z⟩⟩
/-- a comprehension -/
theorem compI {p : Nat} {g : TH → Prop} {step : D → TH → (D → TH → Prop) → (TH → Prop) → Prop} {done : TH → Prop} (I : List D → TH → Prop) (hg : ∀ ds h, I ds h → g h) (hd : ∀ h, I [] h → done h)
    (hs : ∀ d ds h (kv : D → TH → Prop) (kn : TH → Prop), I (d :: ds) h → (∀ v h' acc k, h' p = some (.lst acc) → acc.length < LINE → Le k (ups h' p (.lst (acc ++ [v]))) → I ds k → kv v h') → (∀ h' k, Le k h' → I ds k → kn h') → step d h kv kn) :
    ∀ ds h, I ds h → loopC p g step ds h done
  | [], h, i => ⟨hg _ _ i, hd _ i⟩
  | d :: ds, h, i => ⟨hg _ _ i, hs d ds h _ _ i (fun v h' acc k e l le z => ⟨acc, e, l, k, le, compI I hg hd hs ds k z⟩) fun h' k le z => ⟨k, le, compI I hg hd hs ds k z⟩⟩

/-- a comprehension that changes nothing -/
theorem mapR {g : TH → Prop} {step : D → TH → (D → TH → Prop) → (TH → Prop) → Prop} {done : List D → TH → Prop} {f : D → D} {h : TH} (hg : g h) : ∀ (ds acc : List D), (∀ d ∈ ds, ∀ kv kn, kv (f d) h → step d h kv kn) → acc.length + ds.length < LINE → done (acc ++ ds.map f) h → loopR g step ds acc h done
  | [], acc, hs, l, q => ⟨hg, by simpa using q⟩
  | d :: ds, acc, hs, l, q => ⟨hg, hs d List.mem_cons_self _ _ ⟨by simp at l; omega, mapR hg ds (acc ++ [f d]) (fun x hx => hs x (List.mem_cons_of_mem _ hx)) (by simp at l ⊢; omega) (by simpa using q)⟩⟩
/-- .. with an if -/
theorem filR {g : TH → Prop} {step : D → TH → (D → TH → Prop) → (TH → Prop) → Prop} {done : List D → TH → Prop} {f : D → D} {b : D → Bool} {h : TH} (hg : g h) : ∀ (ds acc : List D), (∀ d ∈ ds, ∀ kv kn, (b d = true → kv (f d) h) → (b d = false → kn h) → step d h kv kn) → acc.length + ds.length < LINE → done (acc ++ (ds.filter b).map f) h → loopR g step ds acc h done
  | [], acc, hs, l, q => ⟨hg, by simpa using q⟩
  | d :: ds, acc, hs, l, q => by
    refine ⟨hg, hs d List.mem_cons_self _ _ (fun e => ?_) fun e => ?_⟩
    · refine ⟨by simp at l; omega, filR hg ds (acc ++ [f d]) (fun x hx => hs x (List.mem_cons_of_mem _ hx)) (by simp at l ⊢; omega) ?_⟩
      rw [List.filter_cons, if_pos e] at q
      simpa using q
    · refine filR hg ds acc (fun x hx => hs x (List.mem_cons_of_mem _ hx)) (by simp at l ⊢; omega) ?_
      rw [List.filter_cons, if_neg (by rw [e]; decide)] at q
      exact q
/-- .. by an invariant -/
theorem loopI {g : TH → Prop} {step : D → TH → (D → TH → Prop) → (TH → Prop) → Prop} {done : List D → TH → Prop} (I : List D → List D → TH → Prop) (hg : ∀ ds acc h, I ds acc h → g h ∧ acc.length + ds.length < LINE) (hd : ∀ acc h, I [] acc h → done acc h)
    (hs : ∀ d ds acc h (kv : D → TH → Prop) (kn : TH → Prop), I (d :: ds) acc h → (∀ v h', I ds (acc ++ [v]) h' → kv v h') → (∀ h', I ds acc h' → kn h') → step d h kv kn) : ∀ ds acc h, I ds acc h → loopR g step ds acc h done
  | [], acc, h, i => ⟨(hg _ _ _ i).1, hd _ _ i⟩
  | d :: ds, acc, h, i => ⟨(hg _ _ _ i).1, hs d ds acc h _ _ i (fun v h' z => ⟨by have := (hg _ _ _ i).2; simp at this; omega, loopI I hg hd hs ds _ h' z⟩) fun h' z => loopI I hg hd hs ds _ h' z⟩
end Tq
/-! UL: the laws' own helpers. -/
namespace HL
open PySem Tq
def f_law_cell_at : Fn := ⟨"_law_cell_at", 2, ["_law_script", "_law_k"], .cons (.iff (.cmp .Lt (.slot 1) (.blt .len (.cons (.slot 0) .nil))) (.cons (.ret (.ix (.slot 0) (.slot 1))) .nil) (.nil)) (.cons (.ret (.kint 0)) .nil)⟩
def f_law_left : Fn := ⟨"_law_left", 2, ["_law_script", "_law_k", "_law_cell", "_law_seed"], .cons (.set 2 (.call "_law_cell_at" (.cons (.slot 0) (.cons (.bin .Mod (.slot 1) (.blt .max (.cons (.kint 1) (.cons (.blt .len (.cons (.slot 0) .nil)) .nil)))) .nil)))) (.cons (.set 3 (.bin .Mod (.bin .Mult (.bin .Add (.bin .Add (.bin .Mod (.slot 2) (.kint 2147483629)) (.bin .Mult (.bin .Mult (.kint 7919) (.slot 1)) (.slot 1))) (.kint 11)) (.kint 48271)) (.kint 2147483647))) (.cons (.ret (.lst (.cons (.bin .Mod (.bin .Mult (.slot 2) (.blt .int (.cons (.cmp .GtE (.slot 2) (.bin .Pow (.kint 10) (.kint 18))) .nil))) (.blt .int (.cons (.bin .Add (.kstr [49]) (.bin .Mult (.kstr [48]) (.kint 4000))) .nil))) (.cons (.slot 3) .nil)))) .nil))⟩
def f_law_pick : Fn := ⟨"_law_pick", 2, ["_law_left_here", "_law_many", "_law_digit"], .cons (.iff (.cmp .Gt (.ix (.slot 0) (.kint 0)) (.kint 0)) (.cons (.set 2 (.bin .Mod (.ix (.slot 0) (.kint 0)) (.slot 1))) (.cons (.setSub (.slot 0) (.kint 0) (.bin .FloorDiv (.ix (.slot 0) (.kint 0)) (.slot 1))) (.cons (.ret (.slot 2)) .nil))) (.nil)) (.cons (.setSub (.slot 0) (.kint 1) (.bin .Mod (.bin .Add (.bin .Mult (.ix (.slot 0) (.kint 1)) (.kint 48271)) (.kint 12345)) (.kint 2147483647))) (.cons (.ret (.bin .Mod (.bin .Mod (.bin .Mult (.ix (.slot 0) (.kint 1)) (.ix (.slot 0) (.kint 1))) (.kint 1999999973)) (.slot 1))) .nil))⟩
/-- into a call -/
theorem enter {p : Pg} {n : Nat} {f : Str} {fd : Fn} {ds : List D} {h : TH} {Q : KQ} {E : FQ} (hp : p.get f = some fd) (q : runB (p.env (semF p n)) fd ds h Q E) : semF p (n + 1) f ds h Q E := by
  show need (p.get f) fun fd => runB (p.env (semF p n)) fd ds h Q E
  rw [hp]
  exact q
/-- the view h, and at a what is left of the drawing -/
structure Ga where
  h : TH
  a : Nat
def Ga.at (g : Ga) (u v : Int) : TH := ups g.h g.a (.lst [.int u, .int v])
theorem Ga.at_a (g : Ga) (u v : Int) : g.at u v g.a = some (.lst [.int u, .int v]) := ups_same
theorem Ga.up (g : Ga) (u v u' v' : Int) : ups (g.at u v) g.a (.lst [.int u', .int v']) = g.at u' v' := ups_ups2 _ _ _ _
/-- a call that draws: what it tells is in S, the view but for the drawing stays -/
def Dr (p : Pg) (n : Nat) (f : Str) (ds : List D) (g : Ga) (S : D → Prop) : Prop := ∀ (u v : Int) (Q : KQ) (E : FQ), (∀ d u' v', S d → Q d (g.at u' v')) → semF p n f ds (g.at u v) Q E
theorem Dr.go {p : Pg} {n : Nat} {f : Str} {ds : List D} {g : Ga} {S : D → Prop} (d : Dr p n f ds g S) {u v : Int} {Q : KQ} {E : FQ} (q : ∀ d u' v', S d → Q d (g.at u' v')) : semF p n f ds (g.at u v) Q E := d u v Q E q
theorem Dr.mono {p : Pg} {n : Nat} {f : Str} {ds : List D} {g : Ga} {S T : D → Prop} (d : Dr p n f ds g S) (i : ∀ x, S x → T x) : Dr p n f ds g T := fun u v Q E q => d u v Q E fun x u' v' s => q x u' v' (i x s)
/-- a number below m -/
def Dig (m : Int) (d : D) : Prop := ∃ k : Int, d = .int k ∧ 0 ≤ k ∧ k < m
theorem pick_dr {p : Pg} (hp : p.get "_law_pick" = some f_law_pick) {n : Nat} {g : Ga} {m : Int} (m0 : 0 < m) (m1 : m < 1073741824) : Dr p (n + 1) "_law_pick" [.ref g.a, .int m] g (Dig m) := by
  intro u v Q E q
  have ha := g.at_a u v
  refine enter hp ⟨rfl, ?_⟩
  simp only [f_law_pick, wSs, wS, wE, wL, wT, wB, wBT, wC, wO, wD, wI, bnd_nm, Tq.wipe, entry, List.map_cons, List.map_nil, List.length_cons, List.length_nil, Nat.zero_add, List.replicate_succ, List.replicate_zero, List.cons_append, List.nil_append, Nat.reduceAdd, Nat.reduceSub, List.set_cons_zero, List.set_cons_succ, need_some, need_none, ups_same, ups_ups2, List.zip_cons_cons, List.zip_nil_left, List.foldl_cons, List.foldl_nil, bnd_nm, bnd_tp, bnd_rl, b_ai, b_as, b_at, b_rr, b_rf, b_fr, b_ff, b_mr, b_si, b_mi, b_ms, b_mt, b_fd, b_md, b_pw, v_fn, v_wd, v_gl, c_lt, c_le, c_gt, c_ge, c_eq, c_ne, c_is, c_isn, c_in, c_nin, f_non, f_bl, f_int, f_str, e_ii, e_ss, e_bb, i_non, n_non, n_int, n_str, n_tup, n_ref, n_rol, n_bl, in_ref, rIn_l, rIn_d, in_tup, in_rol, in_str, in_glo, ky_i, ky_s, t_non, t_bl, t_int, t_str, t_tup, t_rol, t_ref, rTru_l, rTru_d, ix_tup, ix_rol, ix_scr, ix_str, ix_ref, rIx_l, rIx_d, rIx_r, ix_glo, at0, at1, at2, sl_str, sl_tup, sl_rol, sl_scr, sl_ref, rSl_l, bl_len, l_str, l_tup, l_rol, l_scr, l_ref, rLen_l, rLen_d, bl_max, bl_min, bl_ii, bl_ib, bl_is, bl_st, bl_tup, bl_lst, bl_all, bl_any, bl_sum, bl_srt, rSort_d, s_ref, s_tup, s_rol, s_scr, ls_ref, ls_rol, rSeq_l, isi_non, isi_bl, isi_int, isi_str, isi_tup, isi_rol, isi_ref, rIsi_l, rIsi_d, p_app, p_get, rLst_l, rDic_d, p_up, p_spl, p_jn, p_wg, m_app, rApp_l, m_get, m_get2, rGet_d, m_up, m_spl, m_jn, m_wg, s_set, rSet_l, rSet_d, ixN0, ixN1, w_tup, w_rol, w_scr, w_str, w_ref, rWlk_l, j0, jS, Bool.true_and, ha]
  by_cases hu : 0 < u
  · rw [if_pos (decide_eq_true hu)]
    refine ⟨m0, m0, m1, wk_self ?_⟩
    rw [g.up]
    exact q _ _ _ ⟨_, rfl, Int.emod_nonneg _ (by omega), Int.emod_lt_of_pos _ m0⟩
  · rw [if_neg (by simpa using hu)]
    have b1 := Int.emod_nonneg (v * 48271 + 12345) (b := 2147483647) (by decide)
    have b2 := Int.emod_lt_of_pos (v * 48271 + 12345) (b := 2147483647) (by decide)
    refine ⟨.inr (by decide), by decide, .inr (by omega), by decide, m0, wk_self ?_⟩
    rw [g.up]
    exact q _ _ _ ⟨_, rfl, Int.emod_nonneg _ (by omega), Int.emod_lt_of_pos _ m0⟩
theorem pick_ok {p : Pg} (hp : p.get "_law_pick" = some f_law_pick) {n : Nat} {g : Ga} {m : Int} {u v : Int} {Q : KQ} {E : FQ} (m0 : 0 < m) (m1 : m < 1073741824)
    (q : ∀ k u' v' : Int, 0 ≤ k → k < m → Q (.int k) (g.at u' v')) : semF p (n + 1) "_law_pick" [.ref g.a, .int m] (g.at u v) Q E :=
  pick_dr hp m0 m1 u v Q E fun d u' v' ⟨k, e, b1, b2⟩ => by subst e; exact q k u' v' b1 b2
theorem cell_ok {p : Pg} (hp : p.get "_law_cell_at" = some f_law_cell_at) {n : Nat} {ns : List Int} {k : Int} {h : TH} {Q : KQ} {E : FQ} (k0 : 0 ≤ k) (q : ∀ c : Int, Q (.int c) h) : semF p (n + 1) "_law_cell_at" [.scr (ns.map D.int), .int k] h Q E := by
  refine enter hp ⟨rfl, ?_⟩
  simp only [f_law_cell_at, wSs, wS, wE, wL, wT, wB, wBT, wC, wO, wD, wI, bnd_nm, Tq.wipe, entry, List.map_cons, List.map_nil, List.length_cons, List.length_nil, Nat.zero_add, List.replicate_succ, List.replicate_zero, List.cons_append, List.nil_append, Nat.reduceAdd, Nat.reduceSub, List.set_cons_zero, List.set_cons_succ, need_some, need_none, ups_same, ups_ups2, List.zip_cons_cons, List.zip_nil_left, List.foldl_cons, List.foldl_nil, bnd_nm, bnd_tp, bnd_rl, b_ai, b_as, b_at, b_rr, b_rf, b_fr, b_ff, b_mr, b_si, b_mi, b_ms, b_mt, b_fd, b_md, b_pw, v_fn, v_wd, v_gl, c_lt, c_le, c_gt, c_ge, c_eq, c_ne, c_is, c_isn, c_in, c_nin, f_non, f_bl, f_int, f_str, e_ii, e_ss, e_bb, i_non, n_non, n_int, n_str, n_tup, n_ref, n_rol, n_bl, in_ref, rIn_l, rIn_d, in_tup, in_rol, in_str, in_glo, ky_i, ky_s, t_non, t_bl, t_int, t_str, t_tup, t_rol, t_ref, rTru_l, rTru_d, ix_tup, ix_rol, ix_scr, ix_str, ix_ref, rIx_l, rIx_d, rIx_r, ix_glo, at0, at1, at2, sl_str, sl_tup, sl_rol, sl_scr, sl_ref, rSl_l, bl_len, l_str, l_tup, l_rol, l_scr, l_ref, rLen_l, rLen_d, bl_max, bl_min, bl_ii, bl_ib, bl_is, bl_st, bl_tup, bl_lst, bl_all, bl_any, bl_sum, bl_srt, rSort_d, s_ref, s_tup, s_rol, s_scr, ls_ref, ls_rol, rSeq_l, isi_non, isi_bl, isi_int, isi_str, isi_tup, isi_rol, isi_ref, rIsi_l, rIsi_d, p_app, p_get, rLst_l, rDic_d, p_up, p_spl, p_jn, p_wg, m_app, rApp_l, m_get, m_get2, rGet_d, m_up, m_spl, m_jn, m_wg, s_set, rSet_l, rSet_d, ixN0, ixN1, w_tup, w_rol, w_scr, w_str, w_ref, rWlk_l, j0, jS, Bool.true_and]
  by_cases hu : k < ((ns.map D.int).length : Nat)
  · rw [if_pos (decide_eq_true hu)]
    obtain ⟨d, e1, e2⟩ := atI_nat k0 hu
    rw [e2]
    rw [List.getElem?_map] at e1
    cases q2 : ns[k.toNat]? with
    | none => rw [q2] at e1; cases e1
    | some z =>
      rw [q2] at e1
      cases e1
      exact wk_self (q z)
  · rw [if_neg (by simpa using hu)]
    exact wk_self (q 0)
theorem figs_big : figs (49 :: (List.replicate (Int.toNat 4000) [48]).flatten) = some (10 ^ 4000) := by decide +kernel
theorem big_len : (List.replicate (Int.toNat 4000) [48]).flatten.length = 4000 := by decide +kernel
theorem left_ok {p : Pg} (hp : p.get "_law_left" = some f_law_left) (hp2 : p.get "_law_cell_at" = some f_law_cell_at) {n : Nat} {ns : List Int} {k : Int} {h : TH} {Q : KQ} {E : FQ} (k0 : 0 ≤ k) (k1 : k < 1000000) (q : ∀ (g : Ga) (u v : Int), g.h = h → h g.a = none → Q (.ref g.a) (g.at u v)) :
    semF p (n + 2) "_law_left" [.scr (ns.map D.int), .int k] h Q E := by
  refine enter hp ⟨rfl, ?_⟩
  simp only [f_law_left, wSs, wS, wE, wL, wT, wB, wBT, wC, wO, wD, wI, bnd_nm, Tq.wipe, entry, List.map_cons, List.map_nil, List.length_cons, List.length_nil, Nat.zero_add, List.replicate_succ, List.replicate_zero, List.cons_append, List.nil_append, Nat.reduceAdd, Nat.reduceSub, List.set_cons_zero, List.set_cons_succ, need_some, need_none, ups_same, ups_ups2, List.zip_cons_cons, List.zip_nil_left, List.foldl_cons, List.foldl_nil, bnd_nm, bnd_tp, bnd_rl, b_ai, b_as, b_at, b_rr, b_rf, b_fr, b_ff, b_mr, b_si, b_mi, b_ms, b_mt, b_fd, b_md, b_pw, v_fn, v_wd, v_gl, c_lt, c_le, c_gt, c_ge, c_eq, c_ne, c_is, c_isn, c_in, c_nin, f_non, f_bl, f_int, f_str, e_ii, e_ss, e_bb, i_non, n_non, n_int, n_str, n_tup, n_ref, n_rol, n_bl, in_ref, rIn_l, rIn_d, in_tup, in_rol, in_str, in_glo, ky_i, ky_s, t_non, t_bl, t_int, t_str, t_tup, t_rol, t_ref, rTru_l, rTru_d, ix_tup, ix_rol, ix_scr, ix_str, ix_ref, rIx_l, rIx_d, rIx_r, ix_glo, at0, at1, at2, sl_str, sl_tup, sl_rol, sl_scr, sl_ref, rSl_l, bl_len, l_str, l_tup, l_rol, l_scr, l_ref, rLen_l, rLen_d, bl_max, bl_min, bl_ii, bl_ib, bl_is, bl_st, bl_tup, bl_lst, bl_all, bl_any, bl_sum, bl_srt, rSort_d, s_ref, s_tup, s_rol, s_scr, ls_ref, ls_rol, rSeq_l, isi_non, isi_bl, isi_int, isi_str, isi_tup, isi_rol, isi_ref, rIsi_l, rIsi_d, p_app, p_get, rLst_l, rDic_d, p_up, p_spl, p_jn, p_wg, m_app, rApp_l, m_get, m_get2, rGet_d, m_up, m_spl, m_jn, m_wg, s_set, rSet_l, rSet_d, ixN0, ixN1, w_tup, w_rol, w_scr, w_str, w_ref, rWlk_l, j0, jS, Bool.true_and]
  have hm : 0 < (if ((ns.map D.int).length : Int) > 1 then ((ns.map D.int).length : Int) else 1) := by split <;> omega
  refine ⟨hm, cell_ok hp2 (Int.emod_nonneg _ (by omega)) fun c => ?_⟩
  simp only [bnd_nm, bnd_tp, bnd_rl, b_ai, b_as, b_at, b_rr, b_rf, b_fr, b_ff, b_mr, b_si, b_mi, b_ms, b_mt, b_fd, b_md, b_pw, v_fn, v_wd, v_gl, c_lt, c_le, c_gt, c_ge, c_eq, c_ne, c_is, c_isn, c_in, c_nin, f_non, f_bl, f_int, f_str, e_ii, e_ss, e_bb, i_non, n_non, n_int, n_str, n_tup, n_ref, n_rol, n_bl, in_ref, rIn_l, rIn_d, in_tup, in_rol, in_str, in_glo, ky_i, ky_s, t_non, t_bl, t_int, t_str, t_tup, t_rol, t_ref, rTru_l, rTru_d, ix_tup, ix_rol, ix_scr, ix_str, ix_ref, rIx_l, rIx_d, rIx_r, ix_glo, at0, at1, at2, sl_str, sl_tup, sl_rol, sl_scr, sl_ref, rSl_l, bl_len, l_str, l_tup, l_rol, l_scr, l_ref, rLen_l, rLen_d, bl_max, bl_min, bl_ii, bl_ib, bl_is, bl_st, bl_tup, bl_lst, bl_all, bl_any, bl_sum, bl_srt, rSort_d, s_ref, s_tup, s_rol, s_scr, ls_ref, ls_rol, rSeq_l, isi_non, isi_bl, isi_int, isi_str, isi_tup, isi_rol, isi_ref, rIsi_l, rIsi_d, p_app, p_get, rLst_l, rDic_d, p_up, p_spl, p_jn, p_wg, m_app, rApp_l, m_get, m_get2, rGet_d, m_up, m_spl, m_jn, m_wg, s_set, rSet_l, rSet_d, ixN0, ixN1, w_tup, w_rol, w_scr, w_str, w_ref, rWlk_l, j0, jS, Bool.true_and, entry, List.map_cons, List.map_nil, List.length_cons, List.length_nil, Nat.zero_add, List.replicate_succ, List.replicate_zero, List.cons_append, List.nil_append, Nat.reduceAdd, Nat.reduceSub, List.set_cons_zero, List.set_cons_succ, need_some, need_none, ups_same, ups_ups2, List.zip_cons_cons, List.zip_nil_left, List.foldl_cons, List.foldl_nil, figs_big, big_len]
  refine ⟨by decide, .inl (by decide), .inr (by omega), .inr (by decide), by decide, by decide, by decide, by decide, .inr ?_, by decide, by decide, by decide, by decide +kernel, by decide +kernel, by decide +kernel, fun p hp => wk_self (q ⟨h, p⟩ _ _ rfl hp)⟩
  split <;> decide
theorem Ga.le (g : Ga) {u v : Int} (n : g.h g.a = none) : Le g.h (g.at u v) := Le.up n
/-! ### cuts -/
theorem cut_le {α : Type} (xs : List α) (lo hi : Option Int) : (cut xs lo hi).length ≤ xs.length := by
  unfold cut
  rw [List.length_take, List.length_drop]
  omega
theorem cut_mem {α : Type} {xs : List α} {lo hi : Option Int} {x : α} (h : x ∈ cut xs lo hi) : x ∈ xs := List.mem_of_mem_drop (List.mem_of_mem_take h)
/-! ### comprehensions that draw -/
inductive All2 (R : D → D → Prop) : List D → List D → Prop
  | nil : All2 R [] []
  | cons {d x : D} {ds xs : List D} (r : R d x) (t : All2 R ds xs) : All2 R (d :: ds) (x :: xs)
theorem All2.length {R : D → D → Prop} {ds xs : List D} (h : All2 R ds xs) : xs.length = ds.length := by
  induction h with
  | nil => rfl
  | cons _ _ ih => simp [ih]
theorem All2.all {R : D → D → Prop} {P : D → Prop} {ds xs : List D} (i : ∀ d x, R d x → P x) (h : All2 R ds xs) : ∀ x ∈ xs, P x := by
  induction h with
  | nil => intro x hx; cases hx
  | cons r _ ih =>
    intro x hx
    rcases List.mem_cons.mp hx with z | z
    · rw [z]; exact i _ _ r
    · exact ih x z
theorem drawR {g : Ga} {gg : TH → Prop} (hg : ∀ h, gg h) {step : D → TH → (D → TH → Prop) → (TH → Prop) → Prop} {done : List D → TH → Prop} (R : D → D → Prop) :
    ∀ (ds acc : List D) (u v : Int), (∀ d ∈ ds, ∀ u v kv kn, (∀ x u' v', R d x → kv x (g.at u' v')) → step d (g.at u v) kv kn) → acc.length + ds.length < LINE →
      (∀ xs u' v', All2 R ds xs → done (acc ++ xs) (g.at u' v')) → loopR gg step ds acc (g.at u v) done
  | [], acc, u, v, hs, l, q => ⟨hg _, by simpa using q [] u v .nil⟩
  | d :: ds, acc, u, v, hs, l, q => ⟨hg _, hs d List.mem_cons_self u v _ _ fun x u' v' r => ⟨by simp at l; omega, drawR hg R ds (acc ++ [x]) u' v' (fun y hy => hs y (List.mem_cons_of_mem _ hy)) (by simp at l ⊢; omega) fun xs u2 v2 f => by
      have z := q (x :: xs) u2 v2 (.cons r f)
      simpa using z⟩⟩
theorem allBl_map {f : D → Bool} : ∀ ds : List D, allBl (ds.map fun d => D.bl (f d)) = some (ds.map f)
  | [] => rfl
  | d :: r => by
    show (allBl (r.map fun d => D.bl (f d))).map (f d :: ·) = _
    rw [allBl_map r]
    rfl
end HL
/-! UX: words and expressions: what is_word, is_free, is_expression tell. -/
namespace LX
open PySem Tq HL
def f_is_word : Fn := ⟨"is_word", 1, ["thing", "sign"], .cons (.iff (.bop false (.not (.isi (.slot 0) .str)) (.cons (.not (.chn .LtE .LtE (.kint 1) (.blt .len (.cons (.slot 0) .nil)) (.glo "LONGEST"))) .nil)) (.cons (.ret (.kbl false)) .nil) (.nil)) (.cons (.ret (.blt .all (.cons (.compR (.cmp .In (.slot 1) (.glo "SMALL")) (.nm 1) (.of (.slot 0)) (.nil) [("sign", 1)]) .nil))) .nil)⟩
def f_is_free : Fn := ⟨"is_free", 1, ["thing"], .cons (.ret (.bop true (.call "is_word" (.cons (.slot 0) .nil)) (.cons (.cmp .NotIn (.slot 0) (.glo "COUNTS")) (.cons (.cmp .NotIn (.slot 0) (.glo "SPOKEN")) .nil)))) .nil⟩
def f_is_whole : Fn := ⟨"is_whole", 1, ["thing"], .cons (.ret (.bop true (.isi (.slot 0) .int) (.cons (.not (.isi (.slot 0) .bool)) .nil))) .nil⟩
def f_are_expressions : Fn := ⟨"are_expressions", 1, ["thing", "one"], .cons (.ret (.bop true (.isi (.slot 0) .tuple) (.cons (.blt .all (.cons (.compR (.call "is_expression" (.cons (.slot 1) .nil)) (.nm 1) (.of (.slot 0)) (.nil) [("one", 1)]) .nil)) .nil))) .nil⟩
def f_is_make : Fn := ⟨"is_make", 2, ["sort", "parts"], .cons (.iff (.bop false (.not (.isi (.slot 0) .str)) (.cons (.cmp .NotIn (.slot 0) (.glo "SORTS")) (.cons (.not (.call "are_expressions" (.cons (.slot 1) .nil))) .nil))) (.cons (.ret (.kbl false)) .nil) (.nil)) (.cons (.iff (.cmp .Eq (.slot 0) (.kstr [112, 97, 105, 114])) (.cons (.ret (.cmp .Eq (.blt .len (.cons (.slot 1) .nil)) (.kint 2))) .nil) (.nil)) (.cons (.ret (.bop false (.cmp .NotEq (.slot 0) (.kstr [98, 111, 111, 107])) (.cons (.cmp .Eq (.bin .Mod (.blt .len (.cons (.slot 1) .nil)) (.kint 2)) (.kint 0)) .nil))) .nil))⟩
def f_is_do : Fn := ⟨"is_do", 2, ["word", "parts"], .cons (.ret (.bop true (.isi (.slot 0) .str) (.cons (.cmp .In (.slot 0) (.glo "COUNTS")) (.cons (.call "are_expressions" (.cons (.slot 1) .nil)) (.cons (.cmp .Eq (.blt .len (.cons (.slot 1) .nil)) (.ix (.glo "COUNTS") (.slot 0))) .nil))))) .nil⟩
def f_is_fold : Fn := ⟨"is_fold", 3, ["word", "other", "parts"], .cons (.ret (.bop true (.call "is_free" (.cons (.slot 0) .nil)) (.cons (.call "is_free" (.cons (.slot 1) .nil)) (.cons (.cmp .NotEq (.slot 0) (.slot 1)) (.cons (.call "are_expressions" (.cons (.slot 2) .nil)) .nil))))) .nil⟩
def f_is_expression : Fn := ⟨"is_expression", 1, ["thing", "word"], .cons (.iff (.bop false (.not (.isi (.slot 0) .tuple)) (.cons (.cmp .Eq (.blt .len (.cons (.slot 0) .nil)) (.kint 0)) (.cons (.not (.isi (.ix (.slot 0) (.kint 0)) .str)) .nil))) (.cons (.ret (.kbl false)) .nil) (.nil)) (.cons (.iff (.cmp .NotEq (.bm .wget (.glo "SIZES") (.cons (.ix (.slot 0) (.kint 0)) .nil)) (.blt .len (.cons (.slot 0) .nil))) (.cons (.ret (.kbl false)) .nil) (.nil)) (.cons (.set 1 (.ix (.slot 0) (.kint 0))) (.cons (.iff (.cmp .Eq (.slot 1) (.kstr [115, 97, 121])) (.cons (.ret (.bop false (.call "is_word" (.cons (.ix (.slot 0) (.kint 1)) .nil)) (.cons (.call "is_whole" (.cons (.ix (.slot 0) (.kint 1)) .nil)) .nil))) .nil) (.nil)) (.cons (.iff (.cmp .Eq (.slot 1) (.kstr [116, 104, 101])) (.cons (.ret (.call "is_free" (.cons (.ix (.slot 0) (.kint 1)) .nil))) .nil) (.nil)) (.cons (.iff (.cmp .Eq (.slot 1) (.kstr [109, 97, 107, 101])) (.cons (.ret (.call "is_make" (.cons (.ix (.slot 0) (.kint 1)) (.cons (.ix (.slot 0) (.kint 2)) .nil)))) .nil) (.nil)) (.cons (.iff (.cmp .Eq (.slot 1) (.kstr [100, 111])) (.cons (.ret (.call "is_do" (.cons (.ix (.slot 0) (.kint 1)) (.cons (.ix (.slot 0) (.kint 2)) .nil)))) .nil) (.nil)) (.cons (.iff (.cmp .Eq (.slot 1) (.kstr [99, 97, 108, 108])) (.cons (.ret (.bop true (.call "is_free" (.cons (.ix (.slot 0) (.kint 1)) .nil)) (.cons (.call "are_expressions" (.cons (.ix (.slot 0) (.kint 2)) .nil)) .nil))) .nil) (.nil)) (.cons (.iff (.cmp .Eq (.slot 1) (.kstr [105, 102])) (.cons (.ret (.call "are_expressions" (.cons (.sl (.slot 0) (.yes (.kint 1)) .no) .nil))) .nil) (.nil)) (.cons (.iff (.cmp .Eq (.slot 1) (.kstr [108, 101, 116])) (.cons (.ret (.bop true (.call "is_free" (.cons (.ix (.slot 0) (.kint 1)) .nil)) (.cons (.call "are_expressions" (.cons (.sl (.slot 0) (.yes (.kint 2)) .no) .nil)) .nil))) .nil) (.nil)) (.cons (.ret (.call "is_fold" (.cons (.ix (.slot 0) (.kint 1)) (.cons (.ix (.slot 0) (.kint 2)) (.cons (.sl (.slot 0) (.yes (.kint 3)) .no) .nil))))) .nil))))))))))⟩
def abc : List Nat := [97, 98, 99, 100, 101, 102, 103, 104, 105, 106, 107, 108, 109, 110, 111, 112, 113, 114, 115, 116, 117, 118, 119, 120, 121, 122]
def W : List (List Nat × D) := [([102, 105, 114, 115, 116], .int 1), ([115, 101, 99, 111, 110, 100], .int 1), ([105, 116, 101, 109], .int 2), ([115, 105, 122, 101], .int 1), ([104, 97, 115], .int 2), ([103, 101, 116], .int 2), ([119, 105, 116, 104], .int 2), ([108, 101, 115, 115], .int 2), ([112, 117, 116], .int 3), ([99, 117, 116], .int 2), ([98, 101, 104, 105, 110, 100], .int 2), ([108, 105, 115, 116, 101, 100], .int 1), ([112, 108, 117, 115], .int 2), ([109, 105, 110, 117, 115], .int 2), ([116, 105, 109, 101, 115], .int 2), ([115, 97, 109, 101], .int 2), ([98, 101, 102, 111, 114, 101], .int 2), ([115, 111, 114, 116], .int 1)]
def SZ : List (List Nat × D) := [([115, 97, 121], .int 2), ([116, 104, 101], .int 2), ([109, 97, 107, 101], .int 3), ([100, 111], .int 3), ([99, 97, 108, 108], .int 3), ([105, 102], .int 4), ([108, 101, 116], .int 4), ([102, 111, 108, 100], .int 6)]
def SPK : List D := [.str [105, 102], .str [116, 104, 101, 110], .str [101, 108, 115, 101], .str [108, 101, 116], .str [105, 110], .str [102, 111, 108, 100], .str [102, 114, 111, 109], .str [100, 111]]
def SRT : List D := [.str [112, 97, 105, 114], .str [114, 111, 119], .str [115, 101, 116], .str [98, 111, 111, 107]]
structure Has (p : Pg) : Prop where
  word : p.get "is_word" = some f_is_word
  free : p.get "is_free" = some f_is_free
  whole : p.get "is_whole" = some f_is_whole
  exprs : p.get "are_expressions" = some f_are_expressions
  make : p.get "is_make" = some f_is_make
  do_ : p.get "is_do" = some f_is_do
  fold : p.get "is_fold" = some f_is_fold
  expr : p.get "is_expression" = some f_is_expression
  small : p.glv "SMALL" = some (.str abc)
  longest : p.glv "LONGEST" = some (.int 8)
  spoken : p.glv "SPOKEN" = some (.tup SPK)
  sorts : p.glv "SORTS" = some (.tup SRT)
  counts : p.glv "COUNTS" = some (.glo "COUNTS")
  sizes : p.glv "SIZES" = some (.glo "SIZES")
  countsW : p.wd.lookup ("COUNTS" : Str) = some W
  sizesW : p.wd.lookup ("SIZES" : Str) = some SZ
/-! ### data whose kinds are known -/
mutual
def kn (h : TH) : D → Prop
  | .non => True
  | .bl _ => True
  | .int _ => True
  | .str cs => cs.length ≤ 100
  | .tup xs => xs.length ≤ 100 ∧ knL h xs
  | .rol _ => True
  | .ref a => ∃ kvs, h a = some (.dK kvs)
  | _ => False
def knL (h : TH) : List D → Prop
  | [] => True
  | x :: r => kn h x ∧ knL h r
end
mutual
theorem kn_le {h k : TH} (l : Le h k) : ∀ d : D, kn h d → kn k d
  | .non, q => q
  | .bl _, q => q
  | .int _, q => q
  | .str _, q => q
  | .tup xs, q => ⟨q.1, knL_le l xs q.2⟩
  | .ref a, q => let ⟨o, e⟩ := q; ⟨o, l _ _ e⟩
  | .rol _, q => q
  | .scr _, q => q
  | .ty _, q => q
  | .glo _, q => q
theorem knL_le {h k : TH} (l : Le h k) : ∀ ds : List D, knL h ds → knL k ds
  | [], q => q
  | d :: ds, q => ⟨kn_le l d q.1, knL_le l ds q.2⟩
end
theorem knL_mem {h : TH} : ∀ {ds : List D} {d : D}, knL h ds → d ∈ ds → kn h d
  | _ :: _, _, q, m => by
    rcases List.mem_cons.mp m with rfl | m
    · exact q.1
    · exact knL_mem q.2 m
def isStr : D → Bool
  | .str _ => true
  | _ => false
def isTup : D → Bool
  | .tup _ => true
  | _ => false
theorem k_str {h : TH} {d : D} (q : kn h d) : isiT h .str d = some (isStr d) := by
  cases d with
  | ref a => obtain ⟨kvs, e⟩ := q; rw [isi_ref, e]; rfl
  | scr _ => exact q.elim
  | ty _ => exact q.elim
  | glo _ => exact q.elim
  | _ => rfl
theorem k_tup {h : TH} {d : D} (q : kn h d) : isiT h .tuple d = some (isTup d) := by
  cases d with
  | ref a => obtain ⟨kvs, e⟩ := q; rw [isi_ref, e]; rfl
  | scr _ => exact q.elim
  | ty _ => exact q.elim
  | glo _ => exact q.elim
  | _ => rfl
def isIntB : D → Bool
  | .int _ => true
  | .bl _ => true
  | _ => false
def isBl : D → Bool
  | .bl _ => true
  | _ => false
theorem k_int {h : TH} {d : D} (q : kn h d) : isiT h .int d = some (isIntB d) := by
  cases d with
  | ref a => obtain ⟨kvs, e⟩ := q; rw [isi_ref, e]; rfl
  | scr _ => exact q.elim
  | ty _ => exact q.elim
  | glo _ => exact q.elim
  | bl _ => rfl
  | _ => rfl
theorem k_bl {h : TH} {d : D} (q : kn h d) : isiT h .bool d = some (isBl d) := by
  cases d with
  | ref a => obtain ⟨kvs, e⟩ := q; rw [isi_ref, e]; rfl
  | scr _ => exact q.elim
  | ty _ => exact q.elim
  | glo _ => exact q.elim
  | _ => rfl
/-! ### words -/
def wdC (cs : List Nat) : Bool := decide (1 ≤ cs.length) && decide (cs.length ≤ 8) && cs.all fun c => decide (c ∈ abc)
def isWd : D → Bool
  | .str cs => wdC cs
  | _ => false
def inAbc : D → Bool
  | .str [c] => decide (c ∈ abc)
  | _ => false
section
variable {p : Pg} (H : Has p) {n : Nat} {d e : D} {h : TH} {Q : KQ} {E : FQ}
include H
theorem word_ok (k : kn h d) (q : Q (.bl (isWd d)) h) : semF p (n + 1) "is_word" [d] h Q E := by
  have hL : LINE = 16777216 := rfl
  refine enter H.word ⟨rfl, ?_⟩
  simp only [f_is_word, wSs, wS, wE, wL, wT, wB, wBT, wC, wO, wD, wI, bnd_nm, Tq.wipe, entry, List.map_cons, List.map_nil, List.length_cons, List.length_nil, Nat.zero_add, List.replicate_succ, List.replicate_zero, List.cons_append, List.nil_append, Nat.reduceAdd, Nat.reduceSub, List.set_cons_zero, List.set_cons_succ, need_some, need_none, ups_same, ups_ups2, List.zip_cons_cons, List.zip_nil_left, List.foldl_cons, List.foldl_nil, bnd_nm, bnd_tp, bnd_rl, b_ai, b_as, b_at, b_rr, b_rf, b_fr, b_ff, b_mr, b_si, b_mi, b_ms, b_mt, b_fd, b_md, b_pw, v_fn, v_wd, v_gl, c_lt, c_le, c_gt, c_ge, c_eq, c_ne, c_is, c_isn, c_in, c_nin, f_non, f_bl, f_int, f_str, e_ii, e_ss, e_bb, i_non, n_non, n_int, n_str, n_tup, n_ref, n_rol, n_bl, in_ref, rIn_l, rIn_d, in_tup, in_rol, in_str, in_glo, ky_i, ky_s, t_non, t_bl, t_int, t_str, t_tup, t_rol, t_ref, rTru_l, rTru_d, ix_tup, ix_rol, ix_scr, ix_str, ix_ref, rIx_l, rIx_d, rIx_r, ix_glo, at0, at1, at2, sl_str, sl_tup, sl_rol, sl_scr, sl_ref, rSl_l, bl_len, l_str, l_tup, l_rol, l_scr, l_ref, rLen_l, rLen_d, bl_max, bl_min, bl_ii, bl_ib, bl_is, bl_st, bl_tup, bl_lst, bl_all, bl_any, bl_sum, bl_srt, rSort_d, s_ref, s_tup, s_rol, s_scr, ls_ref, ls_rol, rSeq_l, isi_non, isi_bl, isi_int, isi_str, isi_tup, isi_rol, isi_ref, rIsi_l, rIsi_d, p_app, p_get, rLst_l, rDic_d, p_up, p_spl, p_jn, p_wg, m_app, rApp_l, m_get, m_get2, rGet_d, m_up, m_spl, m_jn, m_wg, s_set, rSet_l, rSet_d, ixN0, ixN1, w_tup, w_rol, w_scr, w_str, w_ref, rWlk_l, j0, jS, Bool.true_and, k_str k, H.longest, H.small]
  cases d with
  | str cs =>
    have hk : cs.length ≤ 100 := k
    simp only [isStr, Bool.not_true, Bool.false_eq_true, if_false, entry, List.map_cons, List.map_nil, List.length_cons, List.length_nil, Nat.zero_add, List.replicate_succ, List.replicate_zero, List.cons_append, List.nil_append, Nat.reduceAdd, Nat.reduceSub, List.set_cons_zero, List.set_cons_succ, need_some, need_none, ups_same, ups_ups2, List.zip_cons_cons, List.zip_nil_left, List.foldl_cons, List.foldl_nil, bnd_nm, bnd_tp, bnd_rl, b_ai, b_as, b_at, b_rr, b_rf, b_fr, b_ff, b_mr, b_si, b_mi, b_ms, b_mt, b_fd, b_md, b_pw, v_fn, v_wd, v_gl, c_lt, c_le, c_gt, c_ge, c_eq, c_ne, c_is, c_isn, c_in, c_nin, f_non, f_bl, f_int, f_str, e_ii, e_ss, e_bb, i_non, n_non, n_int, n_str, n_tup, n_ref, n_rol, n_bl, in_ref, rIn_l, rIn_d, in_tup, in_rol, in_str, in_glo, ky_i, ky_s, t_non, t_bl, t_int, t_str, t_tup, t_rol, t_ref, rTru_l, rTru_d, ix_tup, ix_rol, ix_scr, ix_str, ix_ref, rIx_l, rIx_d, rIx_r, ix_glo, at0, at1, at2, sl_str, sl_tup, sl_rol, sl_scr, sl_ref, rSl_l, bl_len, l_str, l_tup, l_rol, l_scr, l_ref, rLen_l, rLen_d, bl_max, bl_min, bl_ii, bl_ib, bl_is, bl_st, bl_tup, bl_lst, bl_all, bl_any, bl_sum, bl_srt, rSort_d, s_ref, s_tup, s_rol, s_scr, ls_ref, ls_rol, rSeq_l, isi_non, isi_bl, isi_int, isi_str, isi_tup, isi_rol, isi_ref, rIsi_l, rIsi_d, p_app, p_get, rLst_l, rDic_d, p_up, p_spl, p_jn, p_wg, m_app, rApp_l, m_get, m_get2, rGet_d, m_up, m_spl, m_jn, m_wg, s_set, rSet_l, rSet_d, ixN0, ixN1, w_tup, w_rol, w_scr, w_str, w_ref, rWlk_l, j0, jS, Bool.true_and]
    have tail : 1 ≤ cs.length → cs.length ≤ 8 → loopR (fun _ => True) (fun d h2 kv kn => if True then inT (p.env (semF p n)) h2 d (D.str abc) fun t => kv (D.bl t) h2 else kn h2) (cs.map fun c => D.str [c]) [] h fun vs h2 => need (some vs) fun xs => need (allBl xs) fun bs => wk h2 (Q (D.bl (bs.all id))) := by
      intro a1 a2
      refine mapR (f := fun d => .bl (inAbc d)) trivial _ _ ?_ (by simp; omega) ?_
      · intro d hd kv kn hk
        obtain ⟨c, _, rfl⟩ := List.mem_map.mp hd
        simp only [bnd_nm, bnd_tp, bnd_rl, b_ai, b_as, b_at, b_rr, b_rf, b_fr, b_ff, b_mr, b_si, b_mi, b_ms, b_mt, b_fd, b_md, b_pw, v_fn, v_wd, v_gl, c_lt, c_le, c_gt, c_ge, c_eq, c_ne, c_is, c_isn, c_in, c_nin, f_non, f_bl, f_int, f_str, e_ii, e_ss, e_bb, i_non, n_non, n_int, n_str, n_tup, n_ref, n_rol, n_bl, in_ref, rIn_l, rIn_d, in_tup, in_rol, in_str, in_glo, ky_i, ky_s, t_non, t_bl, t_int, t_str, t_tup, t_rol, t_ref, rTru_l, rTru_d, ix_tup, ix_rol, ix_scr, ix_str, ix_ref, rIx_l, rIx_d, rIx_r, ix_glo, at0, at1, at2, sl_str, sl_tup, sl_rol, sl_scr, sl_ref, rSl_l, bl_len, l_str, l_tup, l_rol, l_scr, l_ref, rLen_l, rLen_d, bl_max, bl_min, bl_ii, bl_ib, bl_is, bl_st, bl_tup, bl_lst, bl_all, bl_any, bl_sum, bl_srt, rSort_d, s_ref, s_tup, s_rol, s_scr, ls_ref, ls_rol, rSeq_l, isi_non, isi_bl, isi_int, isi_str, isi_tup, isi_rol, isi_ref, rIsi_l, rIsi_d, p_app, p_get, rLst_l, rDic_d, p_up, p_spl, p_jn, p_wg, m_app, rApp_l, m_get, m_get2, rGet_d, m_up, m_spl, m_jn, m_wg, s_set, rSet_l, rSet_d, ixN0, ixN1, w_tup, w_rol, w_scr, w_str, w_ref, rWlk_l, j0, jS, Bool.true_and, if_true]
        exact hk
      · simp only [bnd_nm, bnd_tp, bnd_rl, b_ai, b_as, b_at, b_rr, b_rf, b_fr, b_ff, b_mr, b_si, b_mi, b_ms, b_mt, b_fd, b_md, b_pw, v_fn, v_wd, v_gl, c_lt, c_le, c_gt, c_ge, c_eq, c_ne, c_is, c_isn, c_in, c_nin, f_non, f_bl, f_int, f_str, e_ii, e_ss, e_bb, i_non, n_non, n_int, n_str, n_tup, n_ref, n_rol, n_bl, in_ref, rIn_l, rIn_d, in_tup, in_rol, in_str, in_glo, ky_i, ky_s, t_non, t_bl, t_int, t_str, t_tup, t_rol, t_ref, rTru_l, rTru_d, ix_tup, ix_rol, ix_scr, ix_str, ix_ref, rIx_l, rIx_d, rIx_r, ix_glo, at0, at1, at2, sl_str, sl_tup, sl_rol, sl_scr, sl_ref, rSl_l, bl_len, l_str, l_tup, l_rol, l_scr, l_ref, rLen_l, rLen_d, bl_max, bl_min, bl_ii, bl_ib, bl_is, bl_st, bl_tup, bl_lst, bl_all, bl_any, bl_sum, bl_srt, rSort_d, s_ref, s_tup, s_rol, s_scr, ls_ref, ls_rol, rSeq_l, isi_non, isi_bl, isi_int, isi_str, isi_tup, isi_rol, isi_ref, rIsi_l, rIsi_d, p_app, p_get, rLst_l, rDic_d, p_up, p_spl, p_jn, p_wg, m_app, rApp_l, m_get, m_get2, rGet_d, m_up, m_spl, m_jn, m_wg, s_set, rSet_l, rSet_d, ixN0, ixN1, w_tup, w_rol, w_scr, w_str, w_ref, rWlk_l, j0, jS, Bool.true_and, entry, List.map_cons, List.map_nil, List.length_cons, List.length_nil, Nat.zero_add, List.replicate_succ, List.replicate_zero, List.cons_append, List.nil_append, Nat.reduceAdd, Nat.reduceSub, List.set_cons_zero, List.set_cons_succ, need_some, need_none, ups_same, ups_ups2, List.zip_cons_cons, List.zip_nil_left, List.foldl_cons, List.foldl_nil, allBl_map]
        refine wk_self ?_
        have e : (((cs.map fun c => D.str [c]).map inAbc).all id) = isWd (.str cs) := by
          show _ = wdC cs
          unfold wdC
          rw [decide_eq_true a1, decide_eq_true a2, List.map_map, List.all_map]
          rfl
        rw [e]
        exact q
    have no : ¬ (1 ≤ cs.length ∧ cs.length ≤ 8) → isWd (.str cs) = false := fun z => by
      show wdC cs = false
      unfold wdC
      by_cases a1 : 1 ≤ cs.length
      · have a2 : ¬ cs.length ≤ 8 := fun y => z ⟨a1, y⟩
        rw [decide_eq_false a2, Bool.and_false]; rfl
      · rw [decide_eq_false a1]; rfl
    rw [if_pos trivial]
    refine ⟨by omega, ?_⟩
    by_cases a1 : 1 ≤ cs.length
    · rw [if_pos (decide_eq_true (by omega))]
      by_cases a2 : cs.length ≤ 8
      · rw [if_pos (by rw [decide_eq_true (by omega)]; rfl)]
        exact ⟨by omega, tail a1 a2⟩
      · rw [if_neg (by rw [decide_eq_false (by omega)]; decide), if_pos (by rw [decide_eq_false (by omega)]; rfl)]
        have z := q
        rw [no (fun y => a2 y.2)] at z
        exact wk_self z
    · rw [if_neg (by rw [decide_eq_false (by omega)]; decide)]
      have z := q
      rw [no (fun y => a1 y.1)] at z
      simp only [Bool.not_true, Bool.not_false, Bool.false_eq_true, Bool.true_eq_false, eq_self, if_true, if_false, Bool.true_and, Bool.and_true, Bool.false_and, Bool.and_false, reduceIte]
      exact wk_self z
  | _ => exact wk_self q
/-! ### free words -/
def frC (cs : List Nat) : Bool := wdC cs && !(wLook W cs).isSome && !(SPK.any fun z => eqv z (.str cs))
def isFr : D → Bool
  | .str cs => frC cs
  | _ => false
theorem free_ok (k : kn h d) (q : Q (.bl (isFr d)) h) : semF p (n + 2) "is_free" [d] h Q E := by
  refine enter H.free ⟨rfl, ?_⟩
  simp only [f_is_free, wSs, wS, wE, wL, wT, wB, wBT, wC, wO, wD, wI, bnd_nm, Tq.wipe, entry, List.map_cons, List.map_nil, List.length_cons, List.length_nil, Nat.zero_add, List.replicate_succ, List.replicate_zero, List.cons_append, List.nil_append, Nat.reduceAdd, Nat.reduceSub, List.set_cons_zero, List.set_cons_succ, need_some, need_none, ups_same, ups_ups2, List.zip_cons_cons, List.zip_nil_left, List.foldl_cons, List.foldl_nil, bnd_nm, bnd_tp, bnd_rl, b_ai, b_as, b_at, b_rr, b_rf, b_fr, b_ff, b_mr, b_si, b_mi, b_ms, b_mt, b_fd, b_md, b_pw, v_fn, v_wd, v_gl, c_lt, c_le, c_gt, c_ge, c_eq, c_ne, c_is, c_isn, c_in, c_nin, f_non, f_bl, f_int, f_str, e_ii, e_ss, e_bb, i_non, n_non, n_int, n_str, n_tup, n_ref, n_rol, n_bl, in_ref, rIn_l, rIn_d, in_tup, in_rol, in_str, in_glo, ky_i, ky_s, t_non, t_bl, t_int, t_str, t_tup, t_rol, t_ref, rTru_l, rTru_d, ix_tup, ix_rol, ix_scr, ix_str, ix_ref, rIx_l, rIx_d, rIx_r, ix_glo, at0, at1, at2, sl_str, sl_tup, sl_rol, sl_scr, sl_ref, rSl_l, bl_len, l_str, l_tup, l_rol, l_scr, l_ref, rLen_l, rLen_d, bl_max, bl_min, bl_ii, bl_ib, bl_is, bl_st, bl_tup, bl_lst, bl_all, bl_any, bl_sum, bl_srt, rSort_d, s_ref, s_tup, s_rol, s_scr, ls_ref, ls_rol, rSeq_l, isi_non, isi_bl, isi_int, isi_str, isi_tup, isi_rol, isi_ref, rIsi_l, rIsi_d, p_app, p_get, rLst_l, rDic_d, p_up, p_spl, p_jn, p_wg, m_app, rApp_l, m_get, m_get2, rGet_d, m_up, m_spl, m_jn, m_wg, s_set, rSet_l, rSet_d, ixN0, ixN1, w_tup, w_rol, w_scr, w_str, w_ref, rWlk_l, j0, jS, Bool.true_and, H.counts, H.spoken]
  refine word_ok H k ?_
  dsimp only
  cases hw : isWd d with
  | false =>
    rw [if_neg (by decide)]
    have e : isFr d = false := by
      cases d with
      | str cs =>
        have hw : wdC cs = false := hw
        show frC cs = false
        unfold frC
        rw [hw]; rfl
      | _ => rfl
    have z := q
    rw [e] at z
    exact wk_self z
  | true =>
    rw [if_pos rfl]
    cases d with
    | str cs =>
      have hw : wdC cs = true := hw
      simp only [bnd_nm, bnd_tp, bnd_rl, b_ai, b_as, b_at, b_rr, b_rf, b_fr, b_ff, b_mr, b_si, b_mi, b_ms, b_mt, b_fd, b_md, b_pw, v_fn, v_wd, v_gl, c_lt, c_le, c_gt, c_ge, c_eq, c_ne, c_is, c_isn, c_in, c_nin, f_non, f_bl, f_int, f_str, e_ii, e_ss, e_bb, i_non, n_non, n_int, n_str, n_tup, n_ref, n_rol, n_bl, in_ref, rIn_l, rIn_d, in_tup, in_rol, in_str, in_glo, ky_i, ky_s, t_non, t_bl, t_int, t_str, t_tup, t_rol, t_ref, rTru_l, rTru_d, ix_tup, ix_rol, ix_scr, ix_str, ix_ref, rIx_l, rIx_d, rIx_r, ix_glo, at0, at1, at2, sl_str, sl_tup, sl_rol, sl_scr, sl_ref, rSl_l, bl_len, l_str, l_tup, l_rol, l_scr, l_ref, rLen_l, rLen_d, bl_max, bl_min, bl_ii, bl_ib, bl_is, bl_st, bl_tup, bl_lst, bl_all, bl_any, bl_sum, bl_srt, rSort_d, s_ref, s_tup, s_rol, s_scr, ls_ref, ls_rol, rSeq_l, isi_non, isi_bl, isi_int, isi_str, isi_tup, isi_rol, isi_ref, rIsi_l, rIsi_d, p_app, p_get, rLst_l, rDic_d, p_up, p_spl, p_jn, p_wg, m_app, rApp_l, m_get, m_get2, rGet_d, m_up, m_spl, m_jn, m_wg, s_set, rSet_l, rSet_d, ixN0, ixN1, w_tup, w_rol, w_scr, w_str, w_ref, rWlk_l, j0, jS, Bool.true_and, entry, List.map_cons, List.map_nil, List.length_cons, List.length_nil, Nat.zero_add, List.replicate_succ, List.replicate_zero, List.cons_append, List.nil_append, Nat.reduceAdd, Nat.reduceSub, List.set_cons_zero, List.set_cons_succ, need_some, need_none, ups_same, ups_ups2, List.zip_cons_cons, List.zip_nil_left, List.foldl_cons, List.foldl_nil, H.countsW]
      have e : isFr (.str cs) = (!(wLook W cs).isSome && !(SPK.any fun z => eqv z (.str cs))) := by
        show frC cs = _
        unfold frC
        rw [hw]; rfl
      have z := q
      rw [e] at z
      cases hc : (wLook W cs).isSome with
      | true =>
        rw [hc] at z
        rw [if_neg (by decide)]
        exact wk_self z
      | false =>
        rw [hc] at z
        simp only [Bool.not_true, Bool.not_false, Bool.false_eq_true, Bool.true_eq_false, eq_self, if_true, if_false, Bool.true_and, Bool.and_true, Bool.false_and, Bool.and_false, reduceIte]
        exact ⟨.inl ⟨rfl, rfl⟩, wk_self z⟩
    | _ => cases hw
theorem whole_ok (k : kn h d) (q : Q (.bl (isIntB d && !isBl d)) h) : semF p (n + 1) "is_whole" [d] h Q E := by
  refine enter H.whole ⟨rfl, ?_⟩
  simp only [f_is_whole, wSs, wS, wE, wL, wT, wB, wBT, wC, wO, wD, wI, bnd_nm, Tq.wipe, entry, List.map_cons, List.map_nil, List.length_cons, List.length_nil, Nat.zero_add, List.replicate_succ, List.replicate_zero, List.cons_append, List.nil_append, Nat.reduceAdd, Nat.reduceSub, List.set_cons_zero, List.set_cons_succ, need_some, need_none, ups_same, ups_ups2, List.zip_cons_cons, List.zip_nil_left, List.foldl_cons, List.foldl_nil, bnd_nm, bnd_tp, bnd_rl, b_ai, b_as, b_at, b_rr, b_rf, b_fr, b_ff, b_mr, b_si, b_mi, b_ms, b_mt, b_fd, b_md, b_pw, v_fn, v_wd, v_gl, c_lt, c_le, c_gt, c_ge, c_eq, c_ne, c_is, c_isn, c_in, c_nin, f_non, f_bl, f_int, f_str, e_ii, e_ss, e_bb, i_non, n_non, n_int, n_str, n_tup, n_ref, n_rol, n_bl, in_ref, rIn_l, rIn_d, in_tup, in_rol, in_str, in_glo, ky_i, ky_s, t_non, t_bl, t_int, t_str, t_tup, t_rol, t_ref, rTru_l, rTru_d, ix_tup, ix_rol, ix_scr, ix_str, ix_ref, rIx_l, rIx_d, rIx_r, ix_glo, at0, at1, at2, sl_str, sl_tup, sl_rol, sl_scr, sl_ref, rSl_l, bl_len, l_str, l_tup, l_rol, l_scr, l_ref, rLen_l, rLen_d, bl_max, bl_min, bl_ii, bl_ib, bl_is, bl_st, bl_tup, bl_lst, bl_all, bl_any, bl_sum, bl_srt, rSort_d, s_ref, s_tup, s_rol, s_scr, ls_ref, ls_rol, rSeq_l, isi_non, isi_bl, isi_int, isi_str, isi_tup, isi_rol, isi_ref, rIsi_l, rIsi_d, p_app, p_get, rLst_l, rDic_d, p_up, p_spl, p_jn, p_wg, m_app, rApp_l, m_get, m_get2, rGet_d, m_up, m_spl, m_jn, m_wg, s_set, rSet_l, rSet_d, ixN0, ixN1, w_tup, w_rol, w_scr, w_str, w_ref, rWlk_l, j0, jS, Bool.true_and, k_int k, k_bl k]
  have z := q
  cases hi : isIntB d with
  | true =>
    rw [hi] at z
    rw [if_pos rfl]
    exact wk_self z
  | false =>
    rw [hi] at z
    rw [if_neg (by decide)]
    exact wk_self z
end
/-! ### expressions -/
def sizeOf (w : List Nat) : Option Nat := match wLook SZ w with
  | some (.int n) => some n.toNat
  | _ => none
def natD : D → Bool
  | .int n => decide (0 ≤ n)
  | _ => false
theorem look_nat {l : List (List Nat × D)} (h : (l.all fun q => natD q.2) = true) {w : List Nat} {v : D} (e : wLook l w = some v) : ∃ n : Nat, v = .int n := by
  unfold wLook at e
  cases q : l.find? fun p => decide (p.1 = w) with
  | none => rw [q] at e; cases e
  | some x =>
    rw [q] at e
    cases e
    have z := List.all_eq_true.mp h x (List.mem_of_find?_eq_some q)
    cases y : x.2 with
    | int n =>
      rw [y] at z
      have z : 0 ≤ n := of_decide_eq_true z
      exact ⟨n.toNat, by rw [Int.toNat_of_nonneg z]; exact y⟩
    | _ => rw [y] at z; cases z
theorem W_nat : (W.all fun q => natD q.2) = true := by decide +kernel
theorem SZ_nat : (SZ.all fun q => natD q.2) = true := by decide +kernel
def isSrt (w : List Nat) : Bool := SRT.any fun z => eqv z (.str w)
def numOf (w : List Nat) : Option Nat := match wLook W w with
  | some (.int n) => some n.toNat
  | _ => none
def wSay : List Nat := [115, 97, 121]
def wThe : List Nat := [116, 104, 101]
def wMake : List Nat := [109, 97, 107, 101]
def wDo : List Nat := [100, 111]
def wCall : List Nat := [99, 97, 108, 108]
def wIf : List Nat := [105, 102]
def wLet : List Nat := [108, 101, 116]
def wFold : List Nat := [102, 111, 108, 100]
def wPair : List Nat := [112, 97, 105, 114]
def wBook : List Nat := [98, 111, 111, 107]
/-- a tuple of such -/
def allT (f : D → Bool) : D → Bool
  | .tup xs => xs.all f
  | _ => false
def makeB (f : D → Bool) (s : D) (ps : D) : Bool := match s, ps with
  | .str w, .tup xs => isSrt w && xs.all f && (if w = wPair then decide (xs.length = 2) else if w = wBook then decide (xs.length % 2 = 0) else true)
  | _, _ => false
def doB (f : D → Bool) (s : D) (ps : D) : Bool := match s, ps with
  | .str w, .tup xs => decide (numOf w = some xs.length) && xs.all f
  | _, _ => false
def neB : D → D → Bool
  | .str a, .str b => decide (a ≠ b)
  | _, _ => true
def foldB3 (f : D → Bool) (a b : D) (r : List D) : Bool := isFr a && isFr b && neB a b && r.all f
def isE : Nat → D → Bool
  | 0, _ => false
  | n + 1, .tup (.str w :: r) => decide (sizeOf w = some (r.length + 1)) && (match r with
      | [] => false
      | a :: r =>
        if w = wSay then isWd a || (isIntB a && !isBl a)
        else if w = wThe then isFr a
        else if w = wMake then makeB (isE n) a (r.headD .non)
        else if w = wDo then doB (isE n) a (r.headD .non)
        else if w = wCall then isFr a && allT (isE n) (r.headD .non)
        else if w = wIf then (a :: r).all (isE n)
        else if w = wLet then isFr a && r.all (isE n)
        else foldB3 (isE n) a (r.headD .non) r.tail)
  | _, _ => false
theorem depL_mem : ∀ {l : List D} {x : D}, x ∈ l → dep x ≤ depL l
  | y :: l, x, hx => by
    have e : depL (y :: l) = max (dep y) (depL l) := by simp only [depL]
    rcases List.mem_cons.mp hx with rfl | hx
    · omega
    · have := depL_mem hx
      omega
theorem dep_sub {l l' : List D} (s : ∀ x ∈ l', x ∈ l) : depL l' ≤ depL l := by
  induction l' with
  | nil => simp [depL]
  | cons y l' ih =>
    have e : depL (y :: l') = max (dep y) (depL l') := by simp only [depL]
    have := depL_mem (s y List.mem_cons_self)
    have := ih fun x hx => s x (List.mem_cons_of_mem _ hx)
    omega
theorem look_mem {l : List (List Nat × D)} {w : List Nat} {v : D} (e : wLook l w = some v) : (w, v) ∈ l := by
  unfold wLook at e
  cases q : l.find? fun p => decide (p.1 = w) with
  | none => rw [q] at e; cases e
  | some x =>
    rw [q] at e
    cases e
    have hp : x.1 = w := by simpa using List.find?_some q
    have hm := List.mem_of_find?_eq_some q
    rw [← hp]
    exact hm
section
variable {p : Pg} (H : Has p) {n : Nat} {d e : D} {h : TH} {Q : KQ} {E : FQ}
include H
/-- what is_expression tells, for what is no deeper than so -/
def ExOk (p : Pg) (f : D → Bool) (n : Nat) (m : Nat) : Prop := ∀ (d : D) (h : TH) (Q : KQ) (E : FQ), dep d ≤ m → kn h d → (Q (.bl (f d)) h) → semF p n "is_expression" [d] h Q E
theorem exprs_ok {f : D → Bool} {m : Nat} (A : ExOk p f n m) (hd : dep d ≤ m + 1) (k : kn h d) (q : Q (.bl (allT f d)) h) : semF p (n + 1) "are_expressions" [d] h Q E := by
  have hL : LINE = 16777216 := rfl
  refine enter H.exprs ⟨rfl, ?_⟩
  simp only [f_are_expressions, wSs, wS, wE, wL, wT, wB, wBT, wC, wO, wD, wI, bnd_nm, Tq.wipe, entry, List.map_cons, List.map_nil, List.length_cons, List.length_nil, Nat.zero_add, List.replicate_succ, List.replicate_zero, List.cons_append, List.nil_append, Nat.reduceAdd, Nat.reduceSub, List.set_cons_zero, List.set_cons_succ, need_some, need_none, ups_same, ups_ups2, List.zip_cons_cons, List.zip_nil_left, List.foldl_cons, List.foldl_nil, bnd_nm, bnd_tp, bnd_rl, b_ai, b_as, b_at, b_rr, b_rf, b_fr, b_ff, b_mr, b_si, b_mi, b_ms, b_mt, b_fd, b_md, b_pw, v_fn, v_wd, v_gl, c_lt, c_le, c_gt, c_ge, c_eq, c_ne, c_is, c_isn, c_in, c_nin, f_non, f_bl, f_int, f_str, e_ii, e_ss, e_bb, i_non, n_non, n_int, n_str, n_tup, n_ref, n_rol, n_bl, in_ref, rIn_l, rIn_d, in_tup, in_rol, in_str, in_glo, ky_i, ky_s, t_non, t_bl, t_int, t_str, t_tup, t_rol, t_ref, rTru_l, rTru_d, ix_tup, ix_rol, ix_scr, ix_str, ix_ref, rIx_l, rIx_d, rIx_r, ix_glo, at0, at1, at2, sl_str, sl_tup, sl_rol, sl_scr, sl_ref, rSl_l, bl_len, l_str, l_tup, l_rol, l_scr, l_ref, rLen_l, rLen_d, bl_max, bl_min, bl_ii, bl_ib, bl_is, bl_st, bl_tup, bl_lst, bl_all, bl_any, bl_sum, bl_srt, rSort_d, s_ref, s_tup, s_rol, s_scr, ls_ref, ls_rol, rSeq_l, isi_non, isi_bl, isi_int, isi_str, isi_tup, isi_rol, isi_ref, rIsi_l, rIsi_d, p_app, p_get, rLst_l, rDic_d, p_up, p_spl, p_jn, p_wg, m_app, rApp_l, m_get, m_get2, rGet_d, m_up, m_spl, m_jn, m_wg, s_set, rSet_l, rSet_d, ixN0, ixN1, w_tup, w_rol, w_scr, w_str, w_ref, rWlk_l, j0, jS, Bool.true_and, k_tup k]
  cases d with
  | tup xs =>
    have hk : xs.length ≤ 100 ∧ knL h xs := k
    simp only [isTup, if_true, bnd_nm, bnd_tp, bnd_rl, b_ai, b_as, b_at, b_rr, b_rf, b_fr, b_ff, b_mr, b_si, b_mi, b_ms, b_mt, b_fd, b_md, b_pw, v_fn, v_wd, v_gl, c_lt, c_le, c_gt, c_ge, c_eq, c_ne, c_is, c_isn, c_in, c_nin, f_non, f_bl, f_int, f_str, e_ii, e_ss, e_bb, i_non, n_non, n_int, n_str, n_tup, n_ref, n_rol, n_bl, in_ref, rIn_l, rIn_d, in_tup, in_rol, in_str, in_glo, ky_i, ky_s, t_non, t_bl, t_int, t_str, t_tup, t_rol, t_ref, rTru_l, rTru_d, ix_tup, ix_rol, ix_scr, ix_str, ix_ref, rIx_l, rIx_d, rIx_r, ix_glo, at0, at1, at2, sl_str, sl_tup, sl_rol, sl_scr, sl_ref, rSl_l, bl_len, l_str, l_tup, l_rol, l_scr, l_ref, rLen_l, rLen_d, bl_max, bl_min, bl_ii, bl_ib, bl_is, bl_st, bl_tup, bl_lst, bl_all, bl_any, bl_sum, bl_srt, rSort_d, s_ref, s_tup, s_rol, s_scr, ls_ref, ls_rol, rSeq_l, isi_non, isi_bl, isi_int, isi_str, isi_tup, isi_rol, isi_ref, rIsi_l, rIsi_d, p_app, p_get, rLst_l, rDic_d, p_up, p_spl, p_jn, p_wg, m_app, rApp_l, m_get, m_get2, rGet_d, m_up, m_spl, m_jn, m_wg, s_set, rSet_l, rSet_d, ixN0, ixN1, w_tup, w_rol, w_scr, w_str, w_ref, rWlk_l, j0, jS, Bool.true_and]
    have hd2 : depL xs ≤ m := by
      have : depL xs + 1 ≤ m + 1 := hd
      omega
    have dm : ∀ (l : List D) (x : D), x ∈ l → dep x ≤ depL l := by
      intro l
      induction l with
      | nil => intro x hx; cases hx
      | cons y l ih =>
        intro x hx
        have e : depL (y :: l) = max (dep y) (depL l) := by simp only [depL]
        rcases List.mem_cons.mp hx with rfl | hx
        · omega
        · have := ih x hx
          omega
    refine mapR (f := fun d => .bl (f d)) trivial _ _ ?_ (by simp; omega) ?_
    · intro d hd kv kn' hk2
      exact A d h _ _ (Nat.le_trans (dm xs d hd) hd2) (knL_mem hk.2 hd) hk2
    · simp only [bnd_nm, bnd_tp, bnd_rl, b_ai, b_as, b_at, b_rr, b_rf, b_fr, b_ff, b_mr, b_si, b_mi, b_ms, b_mt, b_fd, b_md, b_pw, v_fn, v_wd, v_gl, c_lt, c_le, c_gt, c_ge, c_eq, c_ne, c_is, c_isn, c_in, c_nin, f_non, f_bl, f_int, f_str, e_ii, e_ss, e_bb, i_non, n_non, n_int, n_str, n_tup, n_ref, n_rol, n_bl, in_ref, rIn_l, rIn_d, in_tup, in_rol, in_str, in_glo, ky_i, ky_s, t_non, t_bl, t_int, t_str, t_tup, t_rol, t_ref, rTru_l, rTru_d, ix_tup, ix_rol, ix_scr, ix_str, ix_ref, rIx_l, rIx_d, rIx_r, ix_glo, at0, at1, at2, sl_str, sl_tup, sl_rol, sl_scr, sl_ref, rSl_l, bl_len, l_str, l_tup, l_rol, l_scr, l_ref, rLen_l, rLen_d, bl_max, bl_min, bl_ii, bl_ib, bl_is, bl_st, bl_tup, bl_lst, bl_all, bl_any, bl_sum, bl_srt, rSort_d, s_ref, s_tup, s_rol, s_scr, ls_ref, ls_rol, rSeq_l, isi_non, isi_bl, isi_int, isi_str, isi_tup, isi_rol, isi_ref, rIsi_l, rIsi_d, p_app, p_get, rLst_l, rDic_d, p_up, p_spl, p_jn, p_wg, m_app, rApp_l, m_get, m_get2, rGet_d, m_up, m_spl, m_jn, m_wg, s_set, rSet_l, rSet_d, ixN0, ixN1, w_tup, w_rol, w_scr, w_str, w_ref, rWlk_l, j0, jS, Bool.true_and, entry, List.map_cons, List.map_nil, List.length_cons, List.length_nil, Nat.zero_add, List.replicate_succ, List.replicate_zero, List.cons_append, List.nil_append, Nat.reduceAdd, Nat.reduceSub, List.set_cons_zero, List.set_cons_succ, need_some, need_none, ups_same, ups_ups2, List.zip_cons_cons, List.zip_nil_left, List.foldl_cons, List.foldl_nil, allBl_map]
      refine wk_self ?_
      have e : ((xs.map f).all id) = allT f (.tup xs) := by
        rw [List.all_map]
        rfl
      rw [e]
      exact q
  | _ => exact wk_self q
theorem exprs_tup {f : D → Bool} {m : Nat} {xs : List D} (A : ExOk p f n m) (hd : dep (.tup xs) ≤ m + 1) (k : kn h (.tup xs)) (q : Q (.bl (xs.all f)) h) : semF p (n + 1) "are_expressions" [.tup xs] h Q E := exprs_ok H A hd k q
theorem make_ok {f : D → Bool} {m : Nat} {s : D} (A : ExOk p f n m) (ks : kn h s) (hd : dep d ≤ m + 1) (k : kn h d) (q : Q (.bl (makeB f s d)) h) : semF p (n + 2) "is_make" [s, d] h Q E := by
  have hL : LINE = 16777216 := rfl
  refine enter H.make ⟨rfl, ?_⟩
  simp only [f_is_make, wSs, wS, wE, wL, wT, wB, wBT, wC, wO, wD, wI, bnd_nm, Tq.wipe, entry, List.map_cons, List.map_nil, List.length_cons, List.length_nil, Nat.zero_add, List.replicate_succ, List.replicate_zero, List.cons_append, List.nil_append, Nat.reduceAdd, Nat.reduceSub, List.set_cons_zero, List.set_cons_succ, need_some, need_none, ups_same, ups_ups2, List.zip_cons_cons, List.zip_nil_left, List.foldl_cons, List.foldl_nil, bnd_nm, bnd_tp, bnd_rl, b_ai, b_as, b_at, b_rr, b_rf, b_fr, b_ff, b_mr, b_si, b_mi, b_ms, b_mt, b_fd, b_md, b_pw, v_fn, v_wd, v_gl, c_lt, c_le, c_gt, c_ge, c_eq, c_ne, c_is, c_isn, c_in, c_nin, f_non, f_bl, f_int, f_str, e_ii, e_ss, e_bb, i_non, n_non, n_int, n_str, n_tup, n_ref, n_rol, n_bl, in_ref, rIn_l, rIn_d, in_tup, in_rol, in_str, in_glo, ky_i, ky_s, t_non, t_bl, t_int, t_str, t_tup, t_rol, t_ref, rTru_l, rTru_d, ix_tup, ix_rol, ix_scr, ix_str, ix_ref, rIx_l, rIx_d, rIx_r, ix_glo, at0, at1, at2, sl_str, sl_tup, sl_rol, sl_scr, sl_ref, rSl_l, bl_len, l_str, l_tup, l_rol, l_scr, l_ref, rLen_l, rLen_d, bl_max, bl_min, bl_ii, bl_ib, bl_is, bl_st, bl_tup, bl_lst, bl_all, bl_any, bl_sum, bl_srt, rSort_d, s_ref, s_tup, s_rol, s_scr, ls_ref, ls_rol, rSeq_l, isi_non, isi_bl, isi_int, isi_str, isi_tup, isi_rol, isi_ref, rIsi_l, rIsi_d, p_app, p_get, rLst_l, rDic_d, p_up, p_spl, p_jn, p_wg, m_app, rApp_l, m_get, m_get2, rGet_d, m_up, m_spl, m_jn, m_wg, s_set, rSet_l, rSet_d, ixN0, ixN1, w_tup, w_rol, w_scr, w_str, w_ref, rWlk_l, j0, jS, Bool.true_and, k_str ks, H.sorts]
  cases s with
  | str w =>
    have hw : w.length ≤ 100 := ks
    simp only [isStr, Bool.not_true, Bool.not_false, Bool.false_eq_true, Bool.true_eq_false, eq_self, if_true, if_false, Bool.true_and, Bool.and_true, Bool.false_and, Bool.and_false, reduceIte, bnd_nm, bnd_tp, bnd_rl, b_ai, b_as, b_at, b_rr, b_rf, b_fr, b_ff, b_mr, b_si, b_mi, b_ms, b_mt, b_fd, b_md, b_pw, v_fn, v_wd, v_gl, c_lt, c_le, c_gt, c_ge, c_eq, c_ne, c_is, c_isn, c_in, c_nin, f_non, f_bl, f_int, f_str, e_ii, e_ss, e_bb, i_non, n_non, n_int, n_str, n_tup, n_ref, n_rol, n_bl, in_ref, rIn_l, rIn_d, in_tup, in_rol, in_str, in_glo, ky_i, ky_s, t_non, t_bl, t_int, t_str, t_tup, t_rol, t_ref, rTru_l, rTru_d, ix_tup, ix_rol, ix_scr, ix_str, ix_ref, rIx_l, rIx_d, rIx_r, ix_glo, at0, at1, at2, sl_str, sl_tup, sl_rol, sl_scr, sl_ref, rSl_l, bl_len, l_str, l_tup, l_rol, l_scr, l_ref, rLen_l, rLen_d, bl_max, bl_min, bl_ii, bl_ib, bl_is, bl_st, bl_tup, bl_lst, bl_all, bl_any, bl_sum, bl_srt, rSort_d, s_ref, s_tup, s_rol, s_scr, ls_ref, ls_rol, rSeq_l, isi_non, isi_bl, isi_int, isi_str, isi_tup, isi_rol, isi_ref, rIsi_l, rIsi_d, p_app, p_get, rLst_l, rDic_d, p_up, p_spl, p_jn, p_wg, m_app, rApp_l, m_get, m_get2, rGet_d, m_up, m_spl, m_jn, m_wg, s_set, rSet_l, rSet_d, ixN0, ixN1, w_tup, w_rol, w_scr, w_str, w_ref, rWlk_l, j0, jS, Bool.true_and]
    refine ⟨.inl ⟨rfl, rfl⟩, ?_⟩
    have bad : (isSrt w && allT f d) = false → makeB f (.str w) d = false := fun z => by
      cases d with
      | tup xs =>
        show (isSrt w && xs.all f && _) = false
        have z : (isSrt w && xs.all f) = false := z
        rw [z]; rfl
      | _ => rfl
    have z0 := q
    cases hs : isSrt w with
    | false =>
      have hs2 : (SRT.any fun z => eqv z (.str w)) = false := hs
      simp only [hs2, Bool.not_true, Bool.not_false, Bool.false_eq_true, Bool.true_eq_false, eq_self, if_true, if_false, Bool.true_and, Bool.and_true, Bool.false_and, Bool.and_false, reduceIte]
      have z := q
      rw [bad (by rw [hs]; rfl)] at z
      exact wk_self z
    | true =>
      have hs2 : (SRT.any fun z => eqv z (.str w)) = true := hs
      simp only [hs2, Bool.not_true, Bool.not_false, Bool.false_eq_true, Bool.true_eq_false, eq_self, if_true, if_false, Bool.true_and, Bool.and_true, Bool.false_and, Bool.and_false, reduceIte]
      refine exprs_ok H A hd k ?_
      simp only [bnd_nm, bnd_tp, bnd_rl, b_ai, b_as, b_at, b_rr, b_rf, b_fr, b_ff, b_mr, b_si, b_mi, b_ms, b_mt, b_fd, b_md, b_pw, v_fn, v_wd, v_gl, c_lt, c_le, c_gt, c_ge, c_eq, c_ne, c_is, c_isn, c_in, c_nin, f_non, f_bl, f_int, f_str, e_ii, e_ss, e_bb, i_non, n_non, n_int, n_str, n_tup, n_ref, n_rol, n_bl, in_ref, rIn_l, rIn_d, in_tup, in_rol, in_str, in_glo, ky_i, ky_s, t_non, t_bl, t_int, t_str, t_tup, t_rol, t_ref, rTru_l, rTru_d, ix_tup, ix_rol, ix_scr, ix_str, ix_ref, rIx_l, rIx_d, rIx_r, ix_glo, at0, at1, at2, sl_str, sl_tup, sl_rol, sl_scr, sl_ref, rSl_l, bl_len, l_str, l_tup, l_rol, l_scr, l_ref, rLen_l, rLen_d, bl_max, bl_min, bl_ii, bl_ib, bl_is, bl_st, bl_tup, bl_lst, bl_all, bl_any, bl_sum, bl_srt, rSort_d, s_ref, s_tup, s_rol, s_scr, ls_ref, ls_rol, rSeq_l, isi_non, isi_bl, isi_int, isi_str, isi_tup, isi_rol, isi_ref, rIsi_l, rIsi_d, p_app, p_get, rLst_l, rDic_d, p_up, p_spl, p_jn, p_wg, m_app, rApp_l, m_get, m_get2, rGet_d, m_up, m_spl, m_jn, m_wg, s_set, rSet_l, rSet_d, ixN0, ixN1, w_tup, w_rol, w_scr, w_str, w_ref, rWlk_l, j0, jS, Bool.true_and]
      have z := q
      cases ha : allT f d with
      | false =>
        rw [bad (by rw [hs, ha]; rfl)] at z
        simp only [Bool.not_true, Bool.not_false, Bool.false_eq_true, Bool.true_eq_false, eq_self, if_true, if_false, Bool.true_and, Bool.and_true, Bool.false_and, Bool.and_false, reduceIte]
        exact wk_self z
      | true =>
        cases d with
        | tup xs =>
          have ha : xs.all f = true := ha
          have e : makeB f (.str w) (.tup xs) = (if w = wPair then decide (xs.length = 2) else if w = wBook then decide (xs.length % 2 = 0) else true) := by
            show (isSrt w && xs.all f && _) = _
            rw [hs, ha]; rfl
          rw [e] at z
          simp only [Bool.not_true, Bool.not_false, Bool.false_eq_true, Bool.true_eq_false, eq_self, if_true, if_false, Bool.true_and, Bool.and_true, Bool.false_and, Bool.and_false, reduceIte, bnd_nm, bnd_tp, bnd_rl, b_ai, b_as, b_at, b_rr, b_rf, b_fr, b_ff, b_mr, b_si, b_mi, b_ms, b_mt, b_fd, b_md, b_pw, v_fn, v_wd, v_gl, c_lt, c_le, c_gt, c_ge, c_eq, c_ne, c_is, c_isn, c_in, c_nin, f_non, f_bl, f_int, f_str, e_ii, e_ss, e_bb, i_non, n_non, n_int, n_str, n_tup, n_ref, n_rol, n_bl, in_ref, rIn_l, rIn_d, in_tup, in_rol, in_str, in_glo, ky_i, ky_s, t_non, t_bl, t_int, t_str, t_tup, t_rol, t_ref, rTru_l, rTru_d, ix_tup, ix_rol, ix_scr, ix_str, ix_ref, rIx_l, rIx_d, rIx_r, ix_glo, at0, at1, at2, sl_str, sl_tup, sl_rol, sl_scr, sl_ref, rSl_l, bl_len, l_str, l_tup, l_rol, l_scr, l_ref, rLen_l, rLen_d, bl_max, bl_min, bl_ii, bl_ib, bl_is, bl_st, bl_tup, bl_lst, bl_all, bl_any, bl_sum, bl_srt, rSort_d, s_ref, s_tup, s_rol, s_scr, ls_ref, ls_rol, rSeq_l, isi_non, isi_bl, isi_int, isi_str, isi_tup, isi_rol, isi_ref, rIsi_l, rIsi_d, p_app, p_get, rLst_l, rDic_d, p_up, p_spl, p_jn, p_wg, m_app, rApp_l, m_get, m_get2, rGet_d, m_up, m_spl, m_jn, m_wg, s_set, rSet_l, rSet_d, ixN0, ixN1, w_tup, w_rol, w_scr, w_str, w_ref, rWlk_l, j0, jS, Bool.true_and, d_fl f_str f_str, d_fl f_int f_int]
          by_cases hp : w = wPair
          · rw [if_pos hp] at z
            have e2 : (w == wPair) = true := by simpa using hp
            have e3 : ((xs.length : Int) == 2) = decide (xs.length = 2) := by
              by_cases y : xs.length = 2
              · rw [decide_eq_true y, y]; rfl
              · rw [decide_eq_false y]
                simp
                omega
            simp only [show (w == [112, 97, 105, 114]) = true from e2, Bool.not_true, Bool.not_false, Bool.false_eq_true, Bool.true_eq_false, eq_self, if_true, if_false, Bool.true_and, Bool.and_true, Bool.false_and, Bool.and_false, reduceIte, e3]
            exact wk_self z
          · rw [if_neg hp] at z
            have e2 : (w == wPair) = false := by simpa using hp
            simp only [show (w == [112, 97, 105, 114]) = false from e2, Bool.not_true, Bool.not_false, Bool.false_eq_true, Bool.true_eq_false, eq_self, if_true, if_false, Bool.true_and, Bool.and_true, Bool.false_and, Bool.and_false, reduceIte]
            by_cases hb : w = wBook
            · rw [if_pos hb] at z
              have e4 : (w == wBook) = true := by simpa using hb
              have e3 : ((xs.length : Int) % 2 == 0) = decide (xs.length % 2 = 0) := by
                by_cases y : xs.length % 2 = 0
                · rw [decide_eq_true y]
                  simp
                  omega
                · rw [decide_eq_false y]
                  simp
                  omega
              simp only [show (w == [98, 111, 111, 107]) = true from e4, Bool.not_true, Bool.not_false, Bool.false_eq_true, Bool.true_eq_false, eq_self, if_true, if_false, Bool.true_and, Bool.and_true, Bool.false_and, Bool.and_false, reduceIte, e3]
              exact ⟨by decide, wk_self z⟩
            · rw [if_neg hb] at z
              have e4 : (w == wBook) = false := by simpa using hb
              simp only [show (w == [98, 111, 111, 107]) = false from e4, Bool.not_true, Bool.not_false, Bool.false_eq_true, Bool.true_eq_false, eq_self, if_true, if_false, Bool.true_and, Bool.and_true, Bool.false_and, Bool.and_false, reduceIte]
              exact wk_self z
        | _ => cases ha
  | _ =>
    simp only [isStr, Bool.not_true, Bool.not_false, Bool.false_eq_true, Bool.true_eq_false, eq_self, if_true, if_false, Bool.true_and, Bool.and_true, Bool.false_and, Bool.and_false, reduceIte]
    exact wk_self q
theorem do_ok {f : D → Bool} {m : Nat} {s : D} (A : ExOk p f n m) (ks : kn h s) (hd : dep d ≤ m + 1) (k : kn h d) (q : Q (.bl (doB f s d)) h) : semF p (n + 2) "is_do" [s, d] h Q E := by
  have hL : LINE = 16777216 := rfl
  refine enter H.do_ ⟨rfl, ?_⟩
  simp only [f_is_do, wSs, wS, wE, wL, wT, wB, wBT, wC, wO, wD, wI, bnd_nm, Tq.wipe, entry, List.map_cons, List.map_nil, List.length_cons, List.length_nil, Nat.zero_add, List.replicate_succ, List.replicate_zero, List.cons_append, List.nil_append, Nat.reduceAdd, Nat.reduceSub, List.set_cons_zero, List.set_cons_succ, need_some, need_none, ups_same, ups_ups2, List.zip_cons_cons, List.zip_nil_left, List.foldl_cons, List.foldl_nil, bnd_nm, bnd_tp, bnd_rl, b_ai, b_as, b_at, b_rr, b_rf, b_fr, b_ff, b_mr, b_si, b_mi, b_ms, b_mt, b_fd, b_md, b_pw, v_fn, v_wd, v_gl, c_lt, c_le, c_gt, c_ge, c_eq, c_ne, c_is, c_isn, c_in, c_nin, f_non, f_bl, f_int, f_str, e_ii, e_ss, e_bb, i_non, n_non, n_int, n_str, n_tup, n_ref, n_rol, n_bl, in_ref, rIn_l, rIn_d, in_tup, in_rol, in_str, in_glo, ky_i, ky_s, t_non, t_bl, t_int, t_str, t_tup, t_rol, t_ref, rTru_l, rTru_d, ix_tup, ix_rol, ix_scr, ix_str, ix_ref, rIx_l, rIx_d, rIx_r, ix_glo, at0, at1, at2, sl_str, sl_tup, sl_rol, sl_scr, sl_ref, rSl_l, bl_len, l_str, l_tup, l_rol, l_scr, l_ref, rLen_l, rLen_d, bl_max, bl_min, bl_ii, bl_ib, bl_is, bl_st, bl_tup, bl_lst, bl_all, bl_any, bl_sum, bl_srt, rSort_d, s_ref, s_tup, s_rol, s_scr, ls_ref, ls_rol, rSeq_l, isi_non, isi_bl, isi_int, isi_str, isi_tup, isi_rol, isi_ref, rIsi_l, rIsi_d, p_app, p_get, rLst_l, rDic_d, p_up, p_spl, p_jn, p_wg, m_app, rApp_l, m_get, m_get2, rGet_d, m_up, m_spl, m_jn, m_wg, s_set, rSet_l, rSet_d, ixN0, ixN1, w_tup, w_rol, w_scr, w_str, w_ref, rWlk_l, j0, jS, Bool.true_and, k_str ks, H.counts, H.countsW]
  cases s with
  | str w =>
    have hw : w.length ≤ 100 := ks
    simp only [isStr, Bool.not_true, Bool.not_false, Bool.false_eq_true, Bool.true_eq_false, eq_self, if_true, if_false, Bool.true_and, Bool.and_true, Bool.false_and, Bool.and_false, reduceIte, bnd_nm, bnd_tp, bnd_rl, b_ai, b_as, b_at, b_rr, b_rf, b_fr, b_ff, b_mr, b_si, b_mi, b_ms, b_mt, b_fd, b_md, b_pw, v_fn, v_wd, v_gl, c_lt, c_le, c_gt, c_ge, c_eq, c_ne, c_is, c_isn, c_in, c_nin, f_non, f_bl, f_int, f_str, e_ii, e_ss, e_bb, i_non, n_non, n_int, n_str, n_tup, n_ref, n_rol, n_bl, in_ref, rIn_l, rIn_d, in_tup, in_rol, in_str, in_glo, ky_i, ky_s, t_non, t_bl, t_int, t_str, t_tup, t_rol, t_ref, rTru_l, rTru_d, ix_tup, ix_rol, ix_scr, ix_str, ix_ref, rIx_l, rIx_d, rIx_r, ix_glo, at0, at1, at2, sl_str, sl_tup, sl_rol, sl_scr, sl_ref, rSl_l, bl_len, l_str, l_tup, l_rol, l_scr, l_ref, rLen_l, rLen_d, bl_max, bl_min, bl_ii, bl_ib, bl_is, bl_st, bl_tup, bl_lst, bl_all, bl_any, bl_sum, bl_srt, rSort_d, s_ref, s_tup, s_rol, s_scr, ls_ref, ls_rol, rSeq_l, isi_non, isi_bl, isi_int, isi_str, isi_tup, isi_rol, isi_ref, rIsi_l, rIsi_d, p_app, p_get, rLst_l, rDic_d, p_up, p_spl, p_jn, p_wg, m_app, rApp_l, m_get, m_get2, rGet_d, m_up, m_spl, m_jn, m_wg, s_set, rSet_l, rSet_d, ixN0, ixN1, w_tup, w_rol, w_scr, w_str, w_ref, rWlk_l, j0, jS, Bool.true_and, entry, List.map_cons, List.map_nil, List.length_cons, List.length_nil, Nat.zero_add, List.replicate_succ, List.replicate_zero, List.cons_append, List.nil_append, Nat.reduceAdd, Nat.reduceSub, List.set_cons_zero, List.set_cons_succ, need_some, need_none, ups_same, ups_ups2, List.zip_cons_cons, List.zip_nil_left, List.foldl_cons, List.foldl_nil, H.countsW]
    cases hl : wLook W w with
    | none =>
      simp only [Option.isSome_none, Bool.not_true, Bool.not_false, Bool.false_eq_true, Bool.true_eq_false, eq_self, if_true, if_false, Bool.true_and, Bool.and_true, Bool.false_and, Bool.and_false, reduceIte]
      have z := q
      have e : doB f (.str w) d = false := by
        cases d with
        | tup xs =>
          show (decide (numOf w = some xs.length) && _) = false
          unfold numOf
          rw [hl]; rfl
        | _ => rfl
      rw [e] at z
      exact wk_self z
    | some v =>
      obtain ⟨c, rfl⟩ := look_nat W_nat hl
      simp only [Option.isSome_some, Bool.not_true, Bool.not_false, Bool.false_eq_true, Bool.true_eq_false, eq_self, if_true, if_false, Bool.true_and, Bool.and_true, Bool.false_and, Bool.and_false, reduceIte]
      refine exprs_ok H A hd k ?_
      dsimp only
      have z := q
      cases ha : allT f d with
      | false =>
        have e : doB f (.str w) d = false := by
          cases d with
          | tup xs =>
            have ha : xs.all f = false := ha
            show (_ && xs.all f) = false
            rw [ha, Bool.and_false]
          | _ => rfl
        rw [e] at z
        simp only [Bool.not_true, Bool.not_false, Bool.false_eq_true, Bool.true_eq_false, eq_self, if_true, if_false, Bool.true_and, Bool.and_true, Bool.false_and, Bool.and_false, reduceIte]
        exact wk_self z
      | true =>
        cases d with
        | tup xs =>
          have ha : xs.all f = true := ha
          have e : doB f (.str w) (.tup xs) = decide ((xs.length : Int) = (c : Int)) := by
            show (decide (numOf w = some xs.length) && xs.all f) = _
            unfold numOf
            rw [hl, ha, Bool.and_true]
            by_cases y : xs.length = c
            · rw [y]; simp
            · rw [decide_eq_false, decide_eq_false]
              · omega
              · intro t
                have t2 : (Int.toNat (c : Int)) = xs.length := Option.some.inj t
                simp at t2
                omega
          rw [e] at z
          simp only [Bool.not_true, Bool.not_false, Bool.false_eq_true, Bool.true_eq_false, eq_self, if_true, if_false, Bool.true_and, Bool.and_true, Bool.false_and, Bool.and_false, reduceIte, bnd_nm, bnd_tp, bnd_rl, b_ai, b_as, b_at, b_rr, b_rf, b_fr, b_ff, b_mr, b_si, b_mi, b_ms, b_mt, b_fd, b_md, b_pw, v_fn, v_wd, v_gl, c_lt, c_le, c_gt, c_ge, c_eq, c_ne, c_is, c_isn, c_in, c_nin, f_non, f_bl, f_int, f_str, e_ii, e_ss, e_bb, i_non, n_non, n_int, n_str, n_tup, n_ref, n_rol, n_bl, in_ref, rIn_l, rIn_d, in_tup, in_rol, in_str, in_glo, ky_i, ky_s, t_non, t_bl, t_int, t_str, t_tup, t_rol, t_ref, rTru_l, rTru_d, ix_tup, ix_rol, ix_scr, ix_str, ix_ref, rIx_l, rIx_d, rIx_r, ix_glo, at0, at1, at2, sl_str, sl_tup, sl_rol, sl_scr, sl_ref, rSl_l, bl_len, l_str, l_tup, l_rol, l_scr, l_ref, rLen_l, rLen_d, bl_max, bl_min, bl_ii, bl_ib, bl_is, bl_st, bl_tup, bl_lst, bl_all, bl_any, bl_sum, bl_srt, rSort_d, s_ref, s_tup, s_rol, s_scr, ls_ref, ls_rol, rSeq_l, isi_non, isi_bl, isi_int, isi_str, isi_tup, isi_rol, isi_ref, rIsi_l, rIsi_d, p_app, p_get, rLst_l, rDic_d, p_up, p_spl, p_jn, p_wg, m_app, rApp_l, m_get, m_get2, rGet_d, m_up, m_spl, m_jn, m_wg, s_set, rSet_l, rSet_d, ixN0, ixN1, w_tup, w_rol, w_scr, w_str, w_ref, rWlk_l, j0, jS, Bool.true_and, entry, List.map_cons, List.map_nil, List.length_cons, List.length_nil, Nat.zero_add, List.replicate_succ, List.replicate_zero, List.cons_append, List.nil_append, Nat.reduceAdd, Nat.reduceSub, List.set_cons_zero, List.set_cons_succ, need_some, need_none, ups_same, ups_ups2, List.zip_cons_cons, List.zip_nil_left, List.foldl_cons, List.foldl_nil, d_fl f_int f_int]
          have e3 : ((xs.length : Int) == (c : Int)) = decide ((xs.length : Int) = (c : Int)) := rfl
          rw [e3]
          exact wk_self z
        | _ => cases ha
  | _ =>
    simp only [isStr, Bool.not_true, Bool.not_false, Bool.false_eq_true, Bool.true_eq_false, eq_self, if_true, if_false, Bool.true_and, Bool.and_true, Bool.false_and, Bool.and_false, reduceIte]
    exact wk_self q
theorem fold_ok {f : D → Bool} {m : Nat} {a b : D} {xs : List D} (A : ExOk p f (n + 1) m) (ka : kn h a) (kb : kn h b) (hd : dep (.tup xs) ≤ m + 1) (k : kn h (.tup xs)) (q : Q (.bl (foldB3 f a b xs)) h) : semF p (n + 3) "is_fold" [a, b, .tup xs] h Q E := by
  have hL : LINE = 16777216 := rfl
  refine enter H.fold ⟨rfl, ?_⟩
  simp only [f_is_fold, wSs, wS, wE, wL, wT, wB, wBT, wC, wO, wD, wI, bnd_nm, Tq.wipe, entry, List.map_cons, List.map_nil, List.length_cons, List.length_nil, Nat.zero_add, List.replicate_succ, List.replicate_zero, List.cons_append, List.nil_append, Nat.reduceAdd, Nat.reduceSub, List.set_cons_zero, List.set_cons_succ, need_some, need_none, ups_same, ups_ups2, List.zip_cons_cons, List.zip_nil_left, List.foldl_cons, List.foldl_nil, bnd_nm, bnd_tp, bnd_rl, b_ai, b_as, b_at, b_rr, b_rf, b_fr, b_ff, b_mr, b_si, b_mi, b_ms, b_mt, b_fd, b_md, b_pw, v_fn, v_wd, v_gl, c_lt, c_le, c_gt, c_ge, c_eq, c_ne, c_is, c_isn, c_in, c_nin, f_non, f_bl, f_int, f_str, e_ii, e_ss, e_bb, i_non, n_non, n_int, n_str, n_tup, n_ref, n_rol, n_bl, in_ref, rIn_l, rIn_d, in_tup, in_rol, in_str, in_glo, ky_i, ky_s, t_non, t_bl, t_int, t_str, t_tup, t_rol, t_ref, rTru_l, rTru_d, ix_tup, ix_rol, ix_scr, ix_str, ix_ref, rIx_l, rIx_d, rIx_r, ix_glo, at0, at1, at2, sl_str, sl_tup, sl_rol, sl_scr, sl_ref, rSl_l, bl_len, l_str, l_tup, l_rol, l_scr, l_ref, rLen_l, rLen_d, bl_max, bl_min, bl_ii, bl_ib, bl_is, bl_st, bl_tup, bl_lst, bl_all, bl_any, bl_sum, bl_srt, rSort_d, s_ref, s_tup, s_rol, s_scr, ls_ref, ls_rol, rSeq_l, isi_non, isi_bl, isi_int, isi_str, isi_tup, isi_rol, isi_ref, rIsi_l, rIsi_d, p_app, p_get, rLst_l, rDic_d, p_up, p_spl, p_jn, p_wg, m_app, rApp_l, m_get, m_get2, rGet_d, m_up, m_spl, m_jn, m_wg, s_set, rSet_l, rSet_d, ixN0, ixN1, w_tup, w_rol, w_scr, w_str, w_ref, rWlk_l, j0, jS, Bool.true_and]
  refine free_ok H ka ?_
  dsimp only
  cases e1 : isFr a with
  | false =>
    have z := q
    have e : foldB3 f a b xs = false := by unfold foldB3; rw [e1]; rfl
    rw [e] at z
    simp only [Bool.not_true, Bool.not_false, Bool.false_eq_true, Bool.true_eq_false, eq_self, if_true, if_false, Bool.true_and, Bool.and_true, Bool.false_and, Bool.and_false, reduceIte]
    exact wk_self z
  | true =>
    simp only [Bool.not_true, Bool.not_false, Bool.false_eq_true, Bool.true_eq_false, eq_self, if_true, if_false, Bool.true_and, Bool.and_true, Bool.false_and, Bool.and_false, reduceIte]
    refine free_ok H kb ?_
    dsimp only
    cases e2 : isFr b with
    | false =>
      have z := q
      have e : foldB3 f a b xs = false := by unfold foldB3; rw [e1, e2]; rfl
      rw [e] at z
      simp only [Bool.not_true, Bool.not_false, Bool.false_eq_true, Bool.true_eq_false, eq_self, if_true, if_false, Bool.true_and, Bool.and_true, Bool.false_and, Bool.and_false, reduceIte]
      exact wk_self z
    | true =>
      cases a with
      | str u =>
        cases b with
        | str v =>
          simp only [Bool.not_true, Bool.not_false, Bool.false_eq_true, Bool.true_eq_false, eq_self, if_true, if_false, Bool.true_and, Bool.and_true, Bool.false_and, Bool.and_false, reduceIte, d_fl f_str f_str, e_ss]
          cases e3 : (u == v) with
          | true =>
            have z := q
            have e4 : u = v := by simpa using e3
            have e : foldB3 f (.str u) (.str v) xs = false := by
              have : neB (.str u) (.str v) = false := by
                show decide (u ≠ v) = false
                simpa using e4
              unfold foldB3
              rw [this, Bool.and_false]; rfl
            rw [e] at z
            simp only [Bool.not_true, Bool.not_false, Bool.false_eq_true, Bool.true_eq_false, eq_self, if_true, if_false, Bool.true_and, Bool.and_true, Bool.false_and, Bool.and_false, reduceIte]
            exact wk_self z
          | false =>
            simp only [Bool.not_true, Bool.not_false, Bool.false_eq_true, Bool.true_eq_false, eq_self, if_true, if_false, Bool.true_and, Bool.and_true, Bool.false_and, Bool.and_false, reduceIte]
            refine exprs_tup H A hd k ?_
            have z := q
            have e : foldB3 f (.str u) (.str v) xs = xs.all f := by
              have : neB (.str u) (.str v) = true := by
                show decide (u ≠ v) = true
                simpa using e3
              unfold foldB3
              rw [e1, e2, this]; rfl
            rw [e] at z
            exact wk_self z
        | _ => cases e2
      | _ => cases e1
theorem expr_ok : ∀ m n, 3 * m + 4 ≤ n → ExOk p (isE (m + 1)) n m := by
  have hL : LINE = 16777216 := rfl
  intro m
  induction m with
  | zero =>
    intro n hn d h Q E hd k q
    obtain ⟨n, rfl⟩ : ∃ n', n = n' + 1 := ⟨n - 1, by omega⟩
    refine enter H.expr ⟨rfl, ?_⟩
    simp only [f_is_expression, wSs, wS, wE, wL, wT, wB, wBT, wC, wO, wD, wI, bnd_nm, Tq.wipe, entry, List.map_cons, List.map_nil, List.length_cons, List.length_nil, Nat.zero_add, List.replicate_succ, List.replicate_zero, List.cons_append, List.nil_append, Nat.reduceAdd, Nat.reduceSub, List.set_cons_zero, List.set_cons_succ, need_some, need_none, ups_same, ups_ups2, List.zip_cons_cons, List.zip_nil_left, List.foldl_cons, List.foldl_nil, bnd_nm, bnd_tp, bnd_rl, b_ai, b_as, b_at, b_rr, b_rf, b_fr, b_ff, b_mr, b_si, b_mi, b_ms, b_mt, b_fd, b_md, b_pw, v_fn, v_wd, v_gl, c_lt, c_le, c_gt, c_ge, c_eq, c_ne, c_is, c_isn, c_in, c_nin, f_non, f_bl, f_int, f_str, e_ii, e_ss, e_bb, i_non, n_non, n_int, n_str, n_tup, n_ref, n_rol, n_bl, in_ref, rIn_l, rIn_d, in_tup, in_rol, in_str, in_glo, ky_i, ky_s, t_non, t_bl, t_int, t_str, t_tup, t_rol, t_ref, rTru_l, rTru_d, ix_tup, ix_rol, ix_scr, ix_str, ix_ref, rIx_l, rIx_d, rIx_r, ix_glo, at0, at1, at2, sl_str, sl_tup, sl_rol, sl_scr, sl_ref, rSl_l, bl_len, l_str, l_tup, l_rol, l_scr, l_ref, rLen_l, rLen_d, bl_max, bl_min, bl_ii, bl_ib, bl_is, bl_st, bl_tup, bl_lst, bl_all, bl_any, bl_sum, bl_srt, rSort_d, s_ref, s_tup, s_rol, s_scr, ls_ref, ls_rol, rSeq_l, isi_non, isi_bl, isi_int, isi_str, isi_tup, isi_rol, isi_ref, rIsi_l, rIsi_d, p_app, p_get, rLst_l, rDic_d, p_up, p_spl, p_jn, p_wg, m_app, rApp_l, m_get, m_get2, rGet_d, m_up, m_spl, m_jn, m_wg, s_set, rSet_l, rSet_d, ixN0, ixN1, w_tup, w_rol, w_scr, w_str, w_ref, rWlk_l, j0, jS, Bool.true_and, k_tup k]
    cases d with
    | tup xs =>
      have : depL xs + 1 ≤ 0 := hd
      omega
    | _ =>
      simp only [isTup, Bool.not_true, Bool.not_false, Bool.false_eq_true, Bool.true_eq_false, eq_self, if_true, if_false, Bool.true_and, Bool.and_true, Bool.false_and, Bool.and_false, reduceIte]
      exact wk_self q
  | succ m ih =>
    intro n hn d h Q E hd k q
    obtain ⟨n, rfl⟩ : ∃ n', n = n' + 1 := ⟨n - 1, by omega⟩
    refine enter H.expr ⟨rfl, ?_⟩
    simp only [f_is_expression, wSs, wS, wE, wL, wT, wB, wBT, wC, wO, wD, wI, bnd_nm, Tq.wipe, entry, List.map_cons, List.map_nil, List.length_cons, List.length_nil, Nat.zero_add, List.replicate_succ, List.replicate_zero, List.cons_append, List.nil_append, Nat.reduceAdd, Nat.reduceSub, List.set_cons_zero, List.set_cons_succ, need_some, need_none, ups_same, ups_ups2, List.zip_cons_cons, List.zip_nil_left, List.foldl_cons, List.foldl_nil, bnd_nm, bnd_tp, bnd_rl, b_ai, b_as, b_at, b_rr, b_rf, b_fr, b_ff, b_mr, b_si, b_mi, b_ms, b_mt, b_fd, b_md, b_pw, v_fn, v_wd, v_gl, c_lt, c_le, c_gt, c_ge, c_eq, c_ne, c_is, c_isn, c_in, c_nin, f_non, f_bl, f_int, f_str, e_ii, e_ss, e_bb, i_non, n_non, n_int, n_str, n_tup, n_ref, n_rol, n_bl, in_ref, rIn_l, rIn_d, in_tup, in_rol, in_str, in_glo, ky_i, ky_s, t_non, t_bl, t_int, t_str, t_tup, t_rol, t_ref, rTru_l, rTru_d, ix_tup, ix_rol, ix_scr, ix_str, ix_ref, rIx_l, rIx_d, rIx_r, ix_glo, at0, at1, at2, sl_str, sl_tup, sl_rol, sl_scr, sl_ref, rSl_l, bl_len, l_str, l_tup, l_rol, l_scr, l_ref, rLen_l, rLen_d, bl_max, bl_min, bl_ii, bl_ib, bl_is, bl_st, bl_tup, bl_lst, bl_all, bl_any, bl_sum, bl_srt, rSort_d, s_ref, s_tup, s_rol, s_scr, ls_ref, ls_rol, rSeq_l, isi_non, isi_bl, isi_int, isi_str, isi_tup, isi_rol, isi_ref, rIsi_l, rIsi_d, p_app, p_get, rLst_l, rDic_d, p_up, p_spl, p_jn, p_wg, m_app, rApp_l, m_get, m_get2, rGet_d, m_up, m_spl, m_jn, m_wg, s_set, rSet_l, rSet_d, ixN0, ixN1, w_tup, w_rol, w_scr, w_str, w_ref, rWlk_l, j0, jS, Bool.true_and, k_tup k, H.sizes, H.sizesW]
    cases d with
    | tup xs =>
      have hk : xs.length ≤ 100 ∧ knL h xs := k
      have hd2 : depL xs ≤ m := by
        have : depL xs + 1 ≤ m + 1 := hd
        omega
      simp only [isTup, Bool.not_true, Bool.not_false, Bool.false_eq_true, Bool.true_eq_false, eq_self, if_true, if_false, Bool.true_and, Bool.and_true, Bool.false_and, Bool.and_false, reduceIte, bnd_nm, bnd_tp, bnd_rl, b_ai, b_as, b_at, b_rr, b_rf, b_fr, b_ff, b_mr, b_si, b_mi, b_ms, b_mt, b_fd, b_md, b_pw, v_fn, v_wd, v_gl, c_lt, c_le, c_gt, c_ge, c_eq, c_ne, c_is, c_isn, c_in, c_nin, f_non, f_bl, f_int, f_str, e_ii, e_ss, e_bb, i_non, n_non, n_int, n_str, n_tup, n_ref, n_rol, n_bl, in_ref, rIn_l, rIn_d, in_tup, in_rol, in_str, in_glo, ky_i, ky_s, t_non, t_bl, t_int, t_str, t_tup, t_rol, t_ref, rTru_l, rTru_d, ix_tup, ix_rol, ix_scr, ix_str, ix_ref, rIx_l, rIx_d, rIx_r, ix_glo, at0, at1, at2, sl_str, sl_tup, sl_rol, sl_scr, sl_ref, rSl_l, bl_len, l_str, l_tup, l_rol, l_scr, l_ref, rLen_l, rLen_d, bl_max, bl_min, bl_ii, bl_ib, bl_is, bl_st, bl_tup, bl_lst, bl_all, bl_any, bl_sum, bl_srt, rSort_d, s_ref, s_tup, s_rol, s_scr, ls_ref, ls_rol, rSeq_l, isi_non, isi_bl, isi_int, isi_str, isi_tup, isi_rol, isi_ref, rIsi_l, rIsi_d, p_app, p_get, rLst_l, rDic_d, p_up, p_spl, p_jn, p_wg, m_app, rApp_l, m_get, m_get2, rGet_d, m_up, m_spl, m_jn, m_wg, s_set, rSet_l, rSet_d, ixN0, ixN1, w_tup, w_rol, w_scr, w_str, w_ref, rWlk_l, j0, jS, Bool.true_and, entry, List.map_cons, List.map_nil, List.length_cons, List.length_nil, Nat.zero_add, List.replicate_succ, List.replicate_zero, List.cons_append, List.nil_append, Nat.reduceAdd, Nat.reduceSub, List.set_cons_zero, List.set_cons_succ, need_some, need_none, ups_same, ups_ups2, List.zip_cons_cons, List.zip_nil_left, List.foldl_cons, List.foldl_nil, d_fl f_int f_int]
      cases xs with
      | nil =>
        have z := q
        have e : isE (m + 1 + 1) (.tup []) = false := rfl
        rw [e] at z
        simp only [List.length_nil, Int.ofNat_zero, Int.natCast_zero, beq_self_eq_true, Bool.not_true, Bool.not_false, Bool.false_eq_true, Bool.true_eq_false, eq_self, if_true, if_false, Bool.true_and, Bool.and_true, Bool.false_and, Bool.and_false, reduceIte]
        exact wk_self z
      | cons x r =>
        have e0 : (((x :: r).length : Int) == 0) = false := by
          rw [List.length_cons]
          simp
          omega
        simp only [e0, Bool.not_true, Bool.not_false, Bool.false_eq_true, Bool.true_eq_false, eq_self, if_true, if_false, Bool.true_and, Bool.and_true, Bool.false_and, Bool.and_false, reduceIte, bnd_nm, bnd_tp, bnd_rl, b_ai, b_as, b_at, b_rr, b_rf, b_fr, b_ff, b_mr, b_si, b_mi, b_ms, b_mt, b_fd, b_md, b_pw, v_fn, v_wd, v_gl, c_lt, c_le, c_gt, c_ge, c_eq, c_ne, c_is, c_isn, c_in, c_nin, f_non, f_bl, f_int, f_str, e_ii, e_ss, e_bb, i_non, n_non, n_int, n_str, n_tup, n_ref, n_rol, n_bl, in_ref, rIn_l, rIn_d, in_tup, in_rol, in_str, in_glo, ky_i, ky_s, t_non, t_bl, t_int, t_str, t_tup, t_rol, t_ref, rTru_l, rTru_d, ix_tup, ix_rol, ix_scr, ix_str, ix_ref, rIx_l, rIx_d, rIx_r, ix_glo, at0, at1, at2, sl_str, sl_tup, sl_rol, sl_scr, sl_ref, rSl_l, bl_len, l_str, l_tup, l_rol, l_scr, l_ref, rLen_l, rLen_d, bl_max, bl_min, bl_ii, bl_ib, bl_is, bl_st, bl_tup, bl_lst, bl_all, bl_any, bl_sum, bl_srt, rSort_d, s_ref, s_tup, s_rol, s_scr, ls_ref, ls_rol, rSeq_l, isi_non, isi_bl, isi_int, isi_str, isi_tup, isi_rol, isi_ref, rIsi_l, rIsi_d, p_app, p_get, rLst_l, rDic_d, p_up, p_spl, p_jn, p_wg, m_app, rApp_l, m_get, m_get2, rGet_d, m_up, m_spl, m_jn, m_wg, s_set, rSet_l, rSet_d, ixN0, ixN1, w_tup, w_rol, w_scr, w_str, w_ref, rWlk_l, j0, jS, Bool.true_and, entry, List.map_cons, List.map_nil, List.length_cons, List.length_nil, Nat.zero_add, List.replicate_succ, List.replicate_zero, List.cons_append, List.nil_append, Nat.reduceAdd, Nat.reduceSub, List.set_cons_zero, List.set_cons_succ, need_some, need_none, ups_same, ups_ups2, List.zip_cons_cons, List.zip_nil_left, List.foldl_cons, List.foldl_nil, k_str hk.2.1]
        cases x with
        | str w =>
          simp only [isStr, Bool.not_true, Bool.not_false, Bool.false_eq_true, Bool.true_eq_false, eq_self, if_true, if_false, Bool.true_and, Bool.and_true, Bool.false_and, Bool.and_false, reduceIte, bnd_nm, bnd_tp, bnd_rl, b_ai, b_as, b_at, b_rr, b_rf, b_fr, b_ff, b_mr, b_si, b_mi, b_ms, b_mt, b_fd, b_md, b_pw, v_fn, v_wd, v_gl, c_lt, c_le, c_gt, c_ge, c_eq, c_ne, c_is, c_isn, c_in, c_nin, f_non, f_bl, f_int, f_str, e_ii, e_ss, e_bb, i_non, n_non, n_int, n_str, n_tup, n_ref, n_rol, n_bl, in_ref, rIn_l, rIn_d, in_tup, in_rol, in_str, in_glo, ky_i, ky_s, t_non, t_bl, t_int, t_str, t_tup, t_rol, t_ref, rTru_l, rTru_d, ix_tup, ix_rol, ix_scr, ix_str, ix_ref, rIx_l, rIx_d, rIx_r, ix_glo, at0, at1, at2, sl_str, sl_tup, sl_rol, sl_scr, sl_ref, rSl_l, bl_len, l_str, l_tup, l_rol, l_scr, l_ref, rLen_l, rLen_d, bl_max, bl_min, bl_ii, bl_ib, bl_is, bl_st, bl_tup, bl_lst, bl_all, bl_any, bl_sum, bl_srt, rSort_d, s_ref, s_tup, s_rol, s_scr, ls_ref, ls_rol, rSeq_l, isi_non, isi_bl, isi_int, isi_str, isi_tup, isi_rol, isi_ref, rIsi_l, rIsi_d, p_app, p_get, rLst_l, rDic_d, p_up, p_spl, p_jn, p_wg, m_app, rApp_l, m_get, m_get2, rGet_d, m_up, m_spl, m_jn, m_wg, s_set, rSet_l, rSet_d, ixN0, ixN1, w_tup, w_rol, w_scr, w_str, w_ref, rWlk_l, j0, jS, Bool.true_and, entry, List.map_cons, List.map_nil, List.length_cons, List.length_nil, Nat.zero_add, List.replicate_succ, List.replicate_zero, List.cons_append, List.nil_append, Nat.reduceAdd, Nat.reduceSub, List.set_cons_zero, List.set_cons_succ, need_some, need_none, ups_same, ups_ups2, List.zip_cons_cons, List.zip_nil_left, List.foldl_cons, List.foldl_nil, H.sizesW, Option.isSome_some]
          refine ⟨trivial, ?_⟩
          cases hl : wLook SZ w with
          | none =>
            have e : isE (m + 1 + 1) (.tup (.str w :: r)) = false := by
              show (decide (sizeOf w = some (r.length + 1)) && _) = false
              unfold sizeOf
              rw [hl]; rfl
            have z := q
            rw [e] at z
            simp only [Option.getD_none, d_fl f_non f_int, show ∀ i, eqv .non (.int i) = false from fun _ => by simp only [eqv], Bool.not_true, Bool.not_false, Bool.false_eq_true, Bool.true_eq_false, eq_self, if_true, if_false, Bool.true_and, Bool.and_true, Bool.false_and, Bool.and_false, reduceIte]
            exact wk_self z
          | some v =>
            obtain ⟨c0, rfl⟩ := look_nat SZ_nat hl
            simp only [Option.getD_some, d_fl f_int f_int, e_ii]
            by_cases hc : c0 = r.length + 1
            · have e2 : ((c0 : Int) == ((D.str w :: r).length : Int)) = true := by
                rw [List.length_cons, hc]
                simp
              have es : sizeOf w = some (r.length + 1) := by
                unfold sizeOf
                rw [hl]
                simp [hc]
              simp only [show ((c0 : Int) == ((r.length + 1 : Nat) : Int)) = true from by rw [hc]; simp, Bool.not_true, Bool.not_false, Bool.false_eq_true, Bool.true_eq_false, eq_self, if_true, if_false, Bool.true_and, Bool.and_true, Bool.false_and, Bool.and_false, reduceIte]
              have hm := look_mem hl
              simp only [SZ, List.mem_cons, List.not_mem_nil, or_false] at hm
              have A : ∀ j, 3 * m + 4 ≤ j → ExOk p (isE (m + 1)) j m := ih
              obtain ⟨n, rfl⟩ : ∃ n2, n = n2 + 6 := ⟨n - 6, by omega⟩
              rcases hm with hm | hm | hm | hm | hm | hm | hm | hm
              · obtain ⟨e7, e8⟩ := Prod.mk.inj hm
                subst e7
                obtain rfl : c0 = 2 := by injection e8; omega
                obtain ⟨a, rfl⟩ : ∃ a, r = [a] := by
                  match r, hc with
                  | [a], _ => exact ⟨a, rfl⟩
                simp only [d_fl f_str f_str, e_ss, show (([115, 97, 121] : List Nat) == [115, 97, 121]) = true from rfl, Bool.not_true, Bool.not_false, Bool.false_eq_true, Bool.true_eq_false, eq_self, if_true, if_false, Bool.true_and, Bool.and_true, Bool.false_and, Bool.and_false, reduceIte, entry, List.map_cons, List.map_nil, List.length_cons, List.length_nil, Nat.zero_add, List.replicate_succ, List.replicate_zero, List.cons_append, List.nil_append, Nat.reduceAdd, Nat.reduceSub, List.set_cons_zero, List.set_cons_succ, need_some, need_none, ups_same, ups_ups2, List.zip_cons_cons, List.zip_nil_left, List.foldl_cons, List.foldl_nil, bnd_nm, bnd_tp, bnd_rl, b_ai, b_as, b_at, b_rr, b_rf, b_fr, b_ff, b_mr, b_si, b_mi, b_ms, b_mt, b_fd, b_md, b_pw, v_fn, v_wd, v_gl, c_lt, c_le, c_gt, c_ge, c_eq, c_ne, c_is, c_isn, c_in, c_nin, f_non, f_bl, f_int, f_str, e_ii, e_ss, e_bb, i_non, n_non, n_int, n_str, n_tup, n_ref, n_rol, n_bl, in_ref, rIn_l, rIn_d, in_tup, in_rol, in_str, in_glo, ky_i, ky_s, t_non, t_bl, t_int, t_str, t_tup, t_rol, t_ref, rTru_l, rTru_d, ix_tup, ix_rol, ix_scr, ix_str, ix_ref, rIx_l, rIx_d, rIx_r, ix_glo, at0, at1, at2, sl_str, sl_tup, sl_rol, sl_scr, sl_ref, rSl_l, bl_len, l_str, l_tup, l_rol, l_scr, l_ref, rLen_l, rLen_d, bl_max, bl_min, bl_ii, bl_ib, bl_is, bl_st, bl_tup, bl_lst, bl_all, bl_any, bl_sum, bl_srt, rSort_d, s_ref, s_tup, s_rol, s_scr, ls_ref, ls_rol, rSeq_l, isi_non, isi_bl, isi_int, isi_str, isi_tup, isi_rol, isi_ref, rIsi_l, rIsi_d, p_app, p_get, rLst_l, rDic_d, p_up, p_spl, p_jn, p_wg, m_app, rApp_l, m_get, m_get2, rGet_d, m_up, m_spl, m_jn, m_wg, s_set, rSet_l, rSet_d, ixN0, ixN1, w_tup, w_rol, w_scr, w_str, w_ref, rWlk_l, j0, jS, Bool.true_and]
                have e : isE (m + 1 + 1) (.tup (.str [115, 97, 121] :: [a])) = (isWd a || (isIntB a && !isBl a)) := by
                  show (decide (sizeOf [115, 97, 121] = some 2) && (isWd a || (isIntB a && !isBl a))) = _
                  rw [decide_eq_true (by rfl)]; rfl
                rw [e] at q
                have kk := hk.2.2
                refine word_ok (n := n + 5) H kk.1 ?_
                dsimp only
                cases hw : isWd a with
                | false =>
                  simp only [Bool.not_true, Bool.not_false, Bool.false_eq_true, Bool.true_eq_false, eq_self, if_true, if_false, Bool.true_and, Bool.and_true, Bool.false_and, Bool.and_false, reduceIte]
                  refine whole_ok (n := n + 5) H kk.1 ?_
                  have z := q
                  rw [hw, Bool.false_or] at z
                  exact wk_self z
                | true =>
                  simp only [Bool.not_true, Bool.not_false, Bool.false_eq_true, Bool.true_eq_false, eq_self, if_true, if_false, Bool.true_and, Bool.and_true, Bool.false_and, Bool.and_false, reduceIte]
                  have z := q
                  rw [hw, Bool.true_or] at z
                  exact wk_self z
              · obtain ⟨e7, e8⟩ := Prod.mk.inj hm
                subst e7
                obtain rfl : c0 = 2 := by injection e8; omega
                obtain ⟨a, rfl⟩ : ∃ a, r = [a] := by
                  match r, hc with
                  | [a], _ => exact ⟨a, rfl⟩
                simp only [d_fl f_str f_str, e_ss, show (([116, 104, 101] : List Nat) == [115, 97, 121]) = false from rfl, show (([116, 104, 101] : List Nat) == [116, 104, 101]) = true from rfl, Bool.not_true, Bool.not_false, Bool.false_eq_true, Bool.true_eq_false, eq_self, if_true, if_false, Bool.true_and, Bool.and_true, Bool.false_and, Bool.and_false, reduceIte, entry, List.map_cons, List.map_nil, List.length_cons, List.length_nil, Nat.zero_add, List.replicate_succ, List.replicate_zero, List.cons_append, List.nil_append, Nat.reduceAdd, Nat.reduceSub, List.set_cons_zero, List.set_cons_succ, need_some, need_none, ups_same, ups_ups2, List.zip_cons_cons, List.zip_nil_left, List.foldl_cons, List.foldl_nil, bnd_nm, bnd_tp, bnd_rl, b_ai, b_as, b_at, b_rr, b_rf, b_fr, b_ff, b_mr, b_si, b_mi, b_ms, b_mt, b_fd, b_md, b_pw, v_fn, v_wd, v_gl, c_lt, c_le, c_gt, c_ge, c_eq, c_ne, c_is, c_isn, c_in, c_nin, f_non, f_bl, f_int, f_str, e_ii, e_ss, e_bb, i_non, n_non, n_int, n_str, n_tup, n_ref, n_rol, n_bl, in_ref, rIn_l, rIn_d, in_tup, in_rol, in_str, in_glo, ky_i, ky_s, t_non, t_bl, t_int, t_str, t_tup, t_rol, t_ref, rTru_l, rTru_d, ix_tup, ix_rol, ix_scr, ix_str, ix_ref, rIx_l, rIx_d, rIx_r, ix_glo, at0, at1, at2, sl_str, sl_tup, sl_rol, sl_scr, sl_ref, rSl_l, bl_len, l_str, l_tup, l_rol, l_scr, l_ref, rLen_l, rLen_d, bl_max, bl_min, bl_ii, bl_ib, bl_is, bl_st, bl_tup, bl_lst, bl_all, bl_any, bl_sum, bl_srt, rSort_d, s_ref, s_tup, s_rol, s_scr, ls_ref, ls_rol, rSeq_l, isi_non, isi_bl, isi_int, isi_str, isi_tup, isi_rol, isi_ref, rIsi_l, rIsi_d, p_app, p_get, rLst_l, rDic_d, p_up, p_spl, p_jn, p_wg, m_app, rApp_l, m_get, m_get2, rGet_d, m_up, m_spl, m_jn, m_wg, s_set, rSet_l, rSet_d, ixN0, ixN1, w_tup, w_rol, w_scr, w_str, w_ref, rWlk_l, j0, jS, Bool.true_and]
                have e : isE (m + 1 + 1) (.tup (.str [116, 104, 101] :: [a])) = (isFr a) := by
                  show (decide (sizeOf [116, 104, 101] = some 2) && (isFr a)) = _
                  rw [decide_eq_true (by rfl)]; rfl
                rw [e] at q
                have kk := hk.2.2
                exact free_ok (n := n + 4) H kk.1 (wk_self q)
              · obtain ⟨e7, e8⟩ := Prod.mk.inj hm
                subst e7
                obtain rfl : c0 = 3 := by injection e8; omega
                obtain ⟨a, b, rfl⟩ : ∃ a b, r = [a, b] := by
                  match r, hc with
                  | [a, b], _ => exact ⟨a, b, rfl⟩
                simp only [d_fl f_str f_str, e_ss, show (([109, 97, 107, 101] : List Nat) == [115, 97, 121]) = false from rfl, show (([109, 97, 107, 101] : List Nat) == [116, 104, 101]) = false from rfl, show (([109, 97, 107, 101] : List Nat) == [109, 97, 107, 101]) = true from rfl, Bool.not_true, Bool.not_false, Bool.false_eq_true, Bool.true_eq_false, eq_self, if_true, if_false, Bool.true_and, Bool.and_true, Bool.false_and, Bool.and_false, reduceIte, entry, List.map_cons, List.map_nil, List.length_cons, List.length_nil, Nat.zero_add, List.replicate_succ, List.replicate_zero, List.cons_append, List.nil_append, Nat.reduceAdd, Nat.reduceSub, List.set_cons_zero, List.set_cons_succ, need_some, need_none, ups_same, ups_ups2, List.zip_cons_cons, List.zip_nil_left, List.foldl_cons, List.foldl_nil, bnd_nm, bnd_tp, bnd_rl, b_ai, b_as, b_at, b_rr, b_rf, b_fr, b_ff, b_mr, b_si, b_mi, b_ms, b_mt, b_fd, b_md, b_pw, v_fn, v_wd, v_gl, c_lt, c_le, c_gt, c_ge, c_eq, c_ne, c_is, c_isn, c_in, c_nin, f_non, f_bl, f_int, f_str, e_ii, e_ss, e_bb, i_non, n_non, n_int, n_str, n_tup, n_ref, n_rol, n_bl, in_ref, rIn_l, rIn_d, in_tup, in_rol, in_str, in_glo, ky_i, ky_s, t_non, t_bl, t_int, t_str, t_tup, t_rol, t_ref, rTru_l, rTru_d, ix_tup, ix_rol, ix_scr, ix_str, ix_ref, rIx_l, rIx_d, rIx_r, ix_glo, at0, at1, at2, sl_str, sl_tup, sl_rol, sl_scr, sl_ref, rSl_l, bl_len, l_str, l_tup, l_rol, l_scr, l_ref, rLen_l, rLen_d, bl_max, bl_min, bl_ii, bl_ib, bl_is, bl_st, bl_tup, bl_lst, bl_all, bl_any, bl_sum, bl_srt, rSort_d, s_ref, s_tup, s_rol, s_scr, ls_ref, ls_rol, rSeq_l, isi_non, isi_bl, isi_int, isi_str, isi_tup, isi_rol, isi_ref, rIsi_l, rIsi_d, p_app, p_get, rLst_l, rDic_d, p_up, p_spl, p_jn, p_wg, m_app, rApp_l, m_get, m_get2, rGet_d, m_up, m_spl, m_jn, m_wg, s_set, rSet_l, rSet_d, ixN0, ixN1, w_tup, w_rol, w_scr, w_str, w_ref, rWlk_l, j0, jS, Bool.true_and]
                have e : isE (m + 1 + 1) (.tup (.str [109, 97, 107, 101] :: [a, b])) = (makeB (isE (m + 1)) a b) := by
                  show (decide (sizeOf [109, 97, 107, 101] = some 3) && (makeB (isE (m + 1)) a b)) = _
                  rw [decide_eq_true (by rfl)]; rfl
                rw [e] at q
                have kk := hk.2.2
                exact make_ok (n := n + 4) H (A _ (by omega)) kk.1 (Nat.le_succ_of_le (Nat.le_trans (depL_mem (x := b) (by simp)) hd2)) kk.2.1 (wk_self q)
              · obtain ⟨e7, e8⟩ := Prod.mk.inj hm
                subst e7
                obtain rfl : c0 = 3 := by injection e8; omega
                obtain ⟨a, b, rfl⟩ : ∃ a b, r = [a, b] := by
                  match r, hc with
                  | [a, b], _ => exact ⟨a, b, rfl⟩
                simp only [d_fl f_str f_str, e_ss, show (([100, 111] : List Nat) == [115, 97, 121]) = false from rfl, show (([100, 111] : List Nat) == [116, 104, 101]) = false from rfl, show (([100, 111] : List Nat) == [109, 97, 107, 101]) = false from rfl, show (([100, 111] : List Nat) == [100, 111]) = true from rfl, Bool.not_true, Bool.not_false, Bool.false_eq_true, Bool.true_eq_false, eq_self, if_true, if_false, Bool.true_and, Bool.and_true, Bool.false_and, Bool.and_false, reduceIte, entry, List.map_cons, List.map_nil, List.length_cons, List.length_nil, Nat.zero_add, List.replicate_succ, List.replicate_zero, List.cons_append, List.nil_append, Nat.reduceAdd, Nat.reduceSub, List.set_cons_zero, List.set_cons_succ, need_some, need_none, ups_same, ups_ups2, List.zip_cons_cons, List.zip_nil_left, List.foldl_cons, List.foldl_nil, bnd_nm, bnd_tp, bnd_rl, b_ai, b_as, b_at, b_rr, b_rf, b_fr, b_ff, b_mr, b_si, b_mi, b_ms, b_mt, b_fd, b_md, b_pw, v_fn, v_wd, v_gl, c_lt, c_le, c_gt, c_ge, c_eq, c_ne, c_is, c_isn, c_in, c_nin, f_non, f_bl, f_int, f_str, e_ii, e_ss, e_bb, i_non, n_non, n_int, n_str, n_tup, n_ref, n_rol, n_bl, in_ref, rIn_l, rIn_d, in_tup, in_rol, in_str, in_glo, ky_i, ky_s, t_non, t_bl, t_int, t_str, t_tup, t_rol, t_ref, rTru_l, rTru_d, ix_tup, ix_rol, ix_scr, ix_str, ix_ref, rIx_l, rIx_d, rIx_r, ix_glo, at0, at1, at2, sl_str, sl_tup, sl_rol, sl_scr, sl_ref, rSl_l, bl_len, l_str, l_tup, l_rol, l_scr, l_ref, rLen_l, rLen_d, bl_max, bl_min, bl_ii, bl_ib, bl_is, bl_st, bl_tup, bl_lst, bl_all, bl_any, bl_sum, bl_srt, rSort_d, s_ref, s_tup, s_rol, s_scr, ls_ref, ls_rol, rSeq_l, isi_non, isi_bl, isi_int, isi_str, isi_tup, isi_rol, isi_ref, rIsi_l, rIsi_d, p_app, p_get, rLst_l, rDic_d, p_up, p_spl, p_jn, p_wg, m_app, rApp_l, m_get, m_get2, rGet_d, m_up, m_spl, m_jn, m_wg, s_set, rSet_l, rSet_d, ixN0, ixN1, w_tup, w_rol, w_scr, w_str, w_ref, rWlk_l, j0, jS, Bool.true_and]
                have e : isE (m + 1 + 1) (.tup (.str [100, 111] :: [a, b])) = (doB (isE (m + 1)) a b) := by
                  show (decide (sizeOf [100, 111] = some 3) && (doB (isE (m + 1)) a b)) = _
                  rw [decide_eq_true (by rfl)]; rfl
                rw [e] at q
                have kk := hk.2.2
                exact do_ok (n := n + 4) H (A _ (by omega)) kk.1 (Nat.le_succ_of_le (Nat.le_trans (depL_mem (x := b) (by simp)) hd2)) kk.2.1 (wk_self q)
              · obtain ⟨e7, e8⟩ := Prod.mk.inj hm
                subst e7
                obtain rfl : c0 = 3 := by injection e8; omega
                obtain ⟨a, b, rfl⟩ : ∃ a b, r = [a, b] := by
                  match r, hc with
                  | [a, b], _ => exact ⟨a, b, rfl⟩
                simp only [d_fl f_str f_str, e_ss, show (([99, 97, 108, 108] : List Nat) == [115, 97, 121]) = false from rfl, show (([99, 97, 108, 108] : List Nat) == [116, 104, 101]) = false from rfl, show (([99, 97, 108, 108] : List Nat) == [109, 97, 107, 101]) = false from rfl, show (([99, 97, 108, 108] : List Nat) == [100, 111]) = false from rfl, show (([99, 97, 108, 108] : List Nat) == [99, 97, 108, 108]) = true from rfl, Bool.not_true, Bool.not_false, Bool.false_eq_true, Bool.true_eq_false, eq_self, if_true, if_false, Bool.true_and, Bool.and_true, Bool.false_and, Bool.and_false, reduceIte, entry, List.map_cons, List.map_nil, List.length_cons, List.length_nil, Nat.zero_add, List.replicate_succ, List.replicate_zero, List.cons_append, List.nil_append, Nat.reduceAdd, Nat.reduceSub, List.set_cons_zero, List.set_cons_succ, need_some, need_none, ups_same, ups_ups2, List.zip_cons_cons, List.zip_nil_left, List.foldl_cons, List.foldl_nil, bnd_nm, bnd_tp, bnd_rl, b_ai, b_as, b_at, b_rr, b_rf, b_fr, b_ff, b_mr, b_si, b_mi, b_ms, b_mt, b_fd, b_md, b_pw, v_fn, v_wd, v_gl, c_lt, c_le, c_gt, c_ge, c_eq, c_ne, c_is, c_isn, c_in, c_nin, f_non, f_bl, f_int, f_str, e_ii, e_ss, e_bb, i_non, n_non, n_int, n_str, n_tup, n_ref, n_rol, n_bl, in_ref, rIn_l, rIn_d, in_tup, in_rol, in_str, in_glo, ky_i, ky_s, t_non, t_bl, t_int, t_str, t_tup, t_rol, t_ref, rTru_l, rTru_d, ix_tup, ix_rol, ix_scr, ix_str, ix_ref, rIx_l, rIx_d, rIx_r, ix_glo, at0, at1, at2, sl_str, sl_tup, sl_rol, sl_scr, sl_ref, rSl_l, bl_len, l_str, l_tup, l_rol, l_scr, l_ref, rLen_l, rLen_d, bl_max, bl_min, bl_ii, bl_ib, bl_is, bl_st, bl_tup, bl_lst, bl_all, bl_any, bl_sum, bl_srt, rSort_d, s_ref, s_tup, s_rol, s_scr, ls_ref, ls_rol, rSeq_l, isi_non, isi_bl, isi_int, isi_str, isi_tup, isi_rol, isi_ref, rIsi_l, rIsi_d, p_app, p_get, rLst_l, rDic_d, p_up, p_spl, p_jn, p_wg, m_app, rApp_l, m_get, m_get2, rGet_d, m_up, m_spl, m_jn, m_wg, s_set, rSet_l, rSet_d, ixN0, ixN1, w_tup, w_rol, w_scr, w_str, w_ref, rWlk_l, j0, jS, Bool.true_and]
                have e : isE (m + 1 + 1) (.tup (.str [99, 97, 108, 108] :: [a, b])) = (isFr a && allT (isE (m + 1)) b) := by
                  show (decide (sizeOf [99, 97, 108, 108] = some 3) && (isFr a && allT (isE (m + 1)) b)) = _
                  rw [decide_eq_true (by rfl)]; rfl
                rw [e] at q
                have kk := hk.2.2
                refine free_ok (n := n + 4) H kk.1 ?_
                dsimp only
                cases hw : isFr a with
                | false =>
                  simp only [Bool.not_true, Bool.not_false, Bool.false_eq_true, Bool.true_eq_false, eq_self, if_true, if_false, Bool.true_and, Bool.and_true, Bool.false_and, Bool.and_false, reduceIte]
                  have z := q
                  rw [hw, Bool.false_and] at z
                  exact wk_self z
                | true =>
                  simp only [Bool.not_true, Bool.not_false, Bool.false_eq_true, Bool.true_eq_false, eq_self, if_true, if_false, Bool.true_and, Bool.and_true, Bool.false_and, Bool.and_false, reduceIte]
                  refine exprs_ok (n := n + 5) H (A _ (by omega)) (Nat.le_succ_of_le (Nat.le_trans (depL_mem (x := b) (by simp)) hd2)) kk.2.1 ?_
                  have z := q
                  rw [hw, Bool.true_and] at z
                  exact wk_self z
              · obtain ⟨e7, e8⟩ := Prod.mk.inj hm
                subst e7
                obtain rfl : c0 = 4 := by injection e8; omega
                obtain ⟨a, b, c, rfl⟩ : ∃ a b c, r = [a, b, c] := by
                  match r, hc with
                  | [a, b, c], _ => exact ⟨a, b, c, rfl⟩
                simp only [d_fl f_str f_str, e_ss, show (([105, 102] : List Nat) == [115, 97, 121]) = false from rfl, show (([105, 102] : List Nat) == [116, 104, 101]) = false from rfl, show (([105, 102] : List Nat) == [109, 97, 107, 101]) = false from rfl, show (([105, 102] : List Nat) == [100, 111]) = false from rfl, show (([105, 102] : List Nat) == [99, 97, 108, 108]) = false from rfl, show (([105, 102] : List Nat) == [105, 102]) = true from rfl, Bool.not_true, Bool.not_false, Bool.false_eq_true, Bool.true_eq_false, eq_self, if_true, if_false, Bool.true_and, Bool.and_true, Bool.false_and, Bool.and_false, reduceIte, entry, List.map_cons, List.map_nil, List.length_cons, List.length_nil, Nat.zero_add, List.replicate_succ, List.replicate_zero, List.cons_append, List.nil_append, Nat.reduceAdd, Nat.reduceSub, List.set_cons_zero, List.set_cons_succ, need_some, need_none, ups_same, ups_ups2, List.zip_cons_cons, List.zip_nil_left, List.foldl_cons, List.foldl_nil, bnd_nm, bnd_tp, bnd_rl, b_ai, b_as, b_at, b_rr, b_rf, b_fr, b_ff, b_mr, b_si, b_mi, b_ms, b_mt, b_fd, b_md, b_pw, v_fn, v_wd, v_gl, c_lt, c_le, c_gt, c_ge, c_eq, c_ne, c_is, c_isn, c_in, c_nin, f_non, f_bl, f_int, f_str, e_ii, e_ss, e_bb, i_non, n_non, n_int, n_str, n_tup, n_ref, n_rol, n_bl, in_ref, rIn_l, rIn_d, in_tup, in_rol, in_str, in_glo, ky_i, ky_s, t_non, t_bl, t_int, t_str, t_tup, t_rol, t_ref, rTru_l, rTru_d, ix_tup, ix_rol, ix_scr, ix_str, ix_ref, rIx_l, rIx_d, rIx_r, ix_glo, at0, at1, at2, sl_str, sl_tup, sl_rol, sl_scr, sl_ref, rSl_l, bl_len, l_str, l_tup, l_rol, l_scr, l_ref, rLen_l, rLen_d, bl_max, bl_min, bl_ii, bl_ib, bl_is, bl_st, bl_tup, bl_lst, bl_all, bl_any, bl_sum, bl_srt, rSort_d, s_ref, s_tup, s_rol, s_scr, ls_ref, ls_rol, rSeq_l, isi_non, isi_bl, isi_int, isi_str, isi_tup, isi_rol, isi_ref, rIsi_l, rIsi_d, p_app, p_get, rLst_l, rDic_d, p_up, p_spl, p_jn, p_wg, m_app, rApp_l, m_get, m_get2, rGet_d, m_up, m_spl, m_jn, m_wg, s_set, rSet_l, rSet_d, ixN0, ixN1, w_tup, w_rol, w_scr, w_str, w_ref, rWlk_l, j0, jS, Bool.true_and]
                have e : isE (m + 1 + 1) (.tup (.str [105, 102] :: [a, b, c])) = ([a, b, c].all (isE (m + 1))) := by
                  show (decide (sizeOf [105, 102] = some 4) && ([a, b, c].all (isE (m + 1)))) = _
                  rw [decide_eq_true (by rfl)]; rfl
                rw [e] at q
                have kk := hk.2.2
                have ec : cut [D.str [105, 102], a, b, c] (some 1) none = [a, b, c] := rfl
                rw [ec]
                exact exprs_tup (n := n + 5) H (A _ (by omega)) (Nat.succ_le_succ (Nat.le_trans (dep_sub (by simp)) hd2)) ⟨by simp, kk⟩ (wk_self q)
              · obtain ⟨e7, e8⟩ := Prod.mk.inj hm
                subst e7
                obtain rfl : c0 = 4 := by injection e8; omega
                obtain ⟨a, b, c, rfl⟩ : ∃ a b c, r = [a, b, c] := by
                  match r, hc with
                  | [a, b, c], _ => exact ⟨a, b, c, rfl⟩
                simp only [d_fl f_str f_str, e_ss, show (([108, 101, 116] : List Nat) == [115, 97, 121]) = false from rfl, show (([108, 101, 116] : List Nat) == [116, 104, 101]) = false from rfl, show (([108, 101, 116] : List Nat) == [109, 97, 107, 101]) = false from rfl, show (([108, 101, 116] : List Nat) == [100, 111]) = false from rfl, show (([108, 101, 116] : List Nat) == [99, 97, 108, 108]) = false from rfl, show (([108, 101, 116] : List Nat) == [105, 102]) = false from rfl, show (([108, 101, 116] : List Nat) == [108, 101, 116]) = true from rfl, Bool.not_true, Bool.not_false, Bool.false_eq_true, Bool.true_eq_false, eq_self, if_true, if_false, Bool.true_and, Bool.and_true, Bool.false_and, Bool.and_false, reduceIte, entry, List.map_cons, List.map_nil, List.length_cons, List.length_nil, Nat.zero_add, List.replicate_succ, List.replicate_zero, List.cons_append, List.nil_append, Nat.reduceAdd, Nat.reduceSub, List.set_cons_zero, List.set_cons_succ, need_some, need_none, ups_same, ups_ups2, List.zip_cons_cons, List.zip_nil_left, List.foldl_cons, List.foldl_nil, bnd_nm, bnd_tp, bnd_rl, b_ai, b_as, b_at, b_rr, b_rf, b_fr, b_ff, b_mr, b_si, b_mi, b_ms, b_mt, b_fd, b_md, b_pw, v_fn, v_wd, v_gl, c_lt, c_le, c_gt, c_ge, c_eq, c_ne, c_is, c_isn, c_in, c_nin, f_non, f_bl, f_int, f_str, e_ii, e_ss, e_bb, i_non, n_non, n_int, n_str, n_tup, n_ref, n_rol, n_bl, in_ref, rIn_l, rIn_d, in_tup, in_rol, in_str, in_glo, ky_i, ky_s, t_non, t_bl, t_int, t_str, t_tup, t_rol, t_ref, rTru_l, rTru_d, ix_tup, ix_rol, ix_scr, ix_str, ix_ref, rIx_l, rIx_d, rIx_r, ix_glo, at0, at1, at2, sl_str, sl_tup, sl_rol, sl_scr, sl_ref, rSl_l, bl_len, l_str, l_tup, l_rol, l_scr, l_ref, rLen_l, rLen_d, bl_max, bl_min, bl_ii, bl_ib, bl_is, bl_st, bl_tup, bl_lst, bl_all, bl_any, bl_sum, bl_srt, rSort_d, s_ref, s_tup, s_rol, s_scr, ls_ref, ls_rol, rSeq_l, isi_non, isi_bl, isi_int, isi_str, isi_tup, isi_rol, isi_ref, rIsi_l, rIsi_d, p_app, p_get, rLst_l, rDic_d, p_up, p_spl, p_jn, p_wg, m_app, rApp_l, m_get, m_get2, rGet_d, m_up, m_spl, m_jn, m_wg, s_set, rSet_l, rSet_d, ixN0, ixN1, w_tup, w_rol, w_scr, w_str, w_ref, rWlk_l, j0, jS, Bool.true_and]
                have e : isE (m + 1 + 1) (.tup (.str [108, 101, 116] :: [a, b, c])) = (isFr a && [b, c].all (isE (m + 1))) := by
                  show (decide (sizeOf [108, 101, 116] = some 4) && (isFr a && [b, c].all (isE (m + 1)))) = _
                  rw [decide_eq_true (by rfl)]; rfl
                rw [e] at q
                have kk := hk.2.2
                refine free_ok (n := n + 4) H kk.1 ?_
                dsimp only
                cases hw : isFr a with
                | false =>
                  simp only [Bool.not_true, Bool.not_false, Bool.false_eq_true, Bool.true_eq_false, eq_self, if_true, if_false, Bool.true_and, Bool.and_true, Bool.false_and, Bool.and_false, reduceIte]
                  have z := q
                  rw [hw, Bool.false_and] at z
                  exact wk_self z
                | true =>
                  simp only [Bool.not_true, Bool.not_false, Bool.false_eq_true, Bool.true_eq_false, eq_self, if_true, if_false, Bool.true_and, Bool.and_true, Bool.false_and, Bool.and_false, reduceIte]
                  have ec : cut [D.str [108, 101, 116], a, b, c] (some 2) none = [b, c] := rfl
                  rw [ec]
                  refine exprs_tup (n := n + 5) H (A _ (by omega)) (Nat.succ_le_succ (Nat.le_trans (dep_sub (by simp)) hd2)) ⟨by simp, kk.2⟩ ?_
                  have z := q
                  rw [hw, Bool.true_and] at z
                  exact wk_self z
              · obtain ⟨e7, e8⟩ := Prod.mk.inj hm
                subst e7
                obtain rfl : c0 = 6 := by injection e8; omega
                obtain ⟨a, b, c, d, f, rfl⟩ : ∃ a b c d f, r = [a, b, c, d, f] := by
                  match r, hc with
                  | [a, b, c, d, f], _ => exact ⟨a, b, c, d, f, rfl⟩
                simp only [d_fl f_str f_str, e_ss, show (([102, 111, 108, 100] : List Nat) == [115, 97, 121]) = false from rfl, show (([102, 111, 108, 100] : List Nat) == [116, 104, 101]) = false from rfl, show (([102, 111, 108, 100] : List Nat) == [109, 97, 107, 101]) = false from rfl, show (([102, 111, 108, 100] : List Nat) == [100, 111]) = false from rfl, show (([102, 111, 108, 100] : List Nat) == [99, 97, 108, 108]) = false from rfl, show (([102, 111, 108, 100] : List Nat) == [105, 102]) = false from rfl, show (([102, 111, 108, 100] : List Nat) == [108, 101, 116]) = false from rfl, Bool.not_true, Bool.not_false, Bool.false_eq_true, Bool.true_eq_false, eq_self, if_true, if_false, Bool.true_and, Bool.and_true, Bool.false_and, Bool.and_false, reduceIte, entry, List.map_cons, List.map_nil, List.length_cons, List.length_nil, Nat.zero_add, List.replicate_succ, List.replicate_zero, List.cons_append, List.nil_append, Nat.reduceAdd, Nat.reduceSub, List.set_cons_zero, List.set_cons_succ, need_some, need_none, ups_same, ups_ups2, List.zip_cons_cons, List.zip_nil_left, List.foldl_cons, List.foldl_nil, bnd_nm, bnd_tp, bnd_rl, b_ai, b_as, b_at, b_rr, b_rf, b_fr, b_ff, b_mr, b_si, b_mi, b_ms, b_mt, b_fd, b_md, b_pw, v_fn, v_wd, v_gl, c_lt, c_le, c_gt, c_ge, c_eq, c_ne, c_is, c_isn, c_in, c_nin, f_non, f_bl, f_int, f_str, e_ii, e_ss, e_bb, i_non, n_non, n_int, n_str, n_tup, n_ref, n_rol, n_bl, in_ref, rIn_l, rIn_d, in_tup, in_rol, in_str, in_glo, ky_i, ky_s, t_non, t_bl, t_int, t_str, t_tup, t_rol, t_ref, rTru_l, rTru_d, ix_tup, ix_rol, ix_scr, ix_str, ix_ref, rIx_l, rIx_d, rIx_r, ix_glo, at0, at1, at2, sl_str, sl_tup, sl_rol, sl_scr, sl_ref, rSl_l, bl_len, l_str, l_tup, l_rol, l_scr, l_ref, rLen_l, rLen_d, bl_max, bl_min, bl_ii, bl_ib, bl_is, bl_st, bl_tup, bl_lst, bl_all, bl_any, bl_sum, bl_srt, rSort_d, s_ref, s_tup, s_rol, s_scr, ls_ref, ls_rol, rSeq_l, isi_non, isi_bl, isi_int, isi_str, isi_tup, isi_rol, isi_ref, rIsi_l, rIsi_d, p_app, p_get, rLst_l, rDic_d, p_up, p_spl, p_jn, p_wg, m_app, rApp_l, m_get, m_get2, rGet_d, m_up, m_spl, m_jn, m_wg, s_set, rSet_l, rSet_d, ixN0, ixN1, w_tup, w_rol, w_scr, w_str, w_ref, rWlk_l, j0, jS, Bool.true_and]
                have e : isE (m + 1 + 1) (.tup (.str [102, 111, 108, 100] :: [a, b, c, d, f])) = (foldB3 (isE (m + 1)) a b [c, d, f]) := by
                  show (decide (sizeOf [102, 111, 108, 100] = some 6) && (foldB3 (isE (m + 1)) a b [c, d, f])) = _
                  rw [decide_eq_true (by rfl)]; rfl
                rw [e] at q
                have kk := hk.2.2
                have ec : cut [D.str [102, 111, 108, 100], a, b, c, d, f] (some 3) none = [c, d, f] := rfl
                rw [ec]
                exact fold_ok (n := n + 3) H (A (n + 4) (by omega)) kk.1 kk.2.1 (Nat.succ_le_succ (Nat.le_trans (dep_sub (by simp)) hd2)) ⟨by simp, kk.2.2⟩ (wk_self q)
            · have e2 : ((c0 : Int) == ((r.length + 1 : Nat) : Int)) = false := by
                simp
                omega
              have e : isE (m + 1 + 1) (.tup (.str w :: r)) = false := by
                show (decide (sizeOf w = some (r.length + 1)) && _) = false
                unfold sizeOf
                rw [hl, decide_eq_false]
                · rfl
                · intro t
                  have t2 : (Int.toNat (c0 : Int)) = r.length + 1 := Option.some.inj t
                  simp at t2
                  omega
              have z := q
              rw [e] at z
              simp only [e2, Bool.not_true, Bool.not_false, Bool.false_eq_true, Bool.true_eq_false, eq_self, if_true, if_false, Bool.true_and, Bool.and_true, Bool.false_and, Bool.and_false, reduceIte]
              exact wk_self z
        | _ =>
          simp only [isStr, Bool.not_true, Bool.not_false, Bool.false_eq_true, Bool.true_eq_false, eq_self, if_true, if_false, Bool.true_and, Bool.and_true, Bool.false_and, Bool.and_false, reduceIte]
          exact wk_self q
    | _ =>
      simp only [isTup, Bool.not_true, Bool.not_false, Bool.false_eq_true, Bool.true_eq_false, eq_self, if_true, if_false, Bool.true_and, Bool.and_true, Bool.false_and, Bool.and_false, reduceIte]
      exact wk_self q
end
end LX
/-! UY: drawn expressions. -/
namespace LY
open PySem Tq HL LX
def f_law_number : Fn := ⟨"_law_number", 1, ["_law_left_here", "_law_way", "_law_far"], .cons (.set 1 (.call "_law_pick" (.cons (.slot 0) (.cons (.kint 6) .nil)))) (.cons (.iff (.cmp .Lt (.slot 1) (.kint 3)) (.cons (.ret (.call "_law_pick" (.cons (.slot 0) (.cons (.kint 7) .nil)))) .nil) (.nil)) (.cons (.iff (.cmp .Eq (.slot 1) (.kint 3)) (.cons (.ret (.bin .Sub (.neg (.kint 1)) (.call "_law_pick" (.cons (.slot 0) (.cons (.kint 30) .nil))))) .nil) (.nil)) (.cons (.set 2 (.blt .int (.cons (.bin .Add (.kstr [49]) (.bin .Mult (.kstr [48]) (.bin .Add (.kint 1) (.call "_law_pick" (.cons (.slot 0) (.cons (.kint 39) .nil)))))) .nil))) (.cons (.ret (.ix (.lstR (.cons (.bin .Sub (.bin .Pow (.kint 10) (.kint 40)) (.kint 1)) (.cons (.bin .Sub (.kint 1) (.bin .Pow (.kint 10) (.kint 40))) (.cons (.bin .Add (.slot 2) (.call "_law_pick" (.cons (.slot 0) (.cons (.kint 3) .nil)))) (.cons (.kint 10) .nil))))) (.call "_law_pick" (.cons (.slot 0) (.cons (.kint 4) .nil))))) .nil))))⟩
def f_law_free : Fn := ⟨"_law_free", 1, ["_law_left_here", "_law_some"], .cons (.set 1 (.lstR (.cons (.kstr [120]) (.cons (.kstr [121]) (.cons (.kstr [122]) (.cons (.kstr [97, 98, 99, 100, 101, 102, 103, 104]) (.cons (.kstr [104, 111, 108, 100]) (.cons (.kstr [115, 104, 111, 119]) (.cons (.kstr [100, 101, 102]) (.cons (.kstr [107, 101, 101, 112]) (.cons (.kstr [119, 101, 97, 107]) (.cons (.kstr [115, 101, 101]) (.cons (.kstr [100, 114, 111, 112]) (.cons (.kstr [115, 119, 101, 101, 112]) (.cons (.kstr [111, 112, 101, 110]) (.cons (.kstr [115, 97, 121]) .nil)))))))))))))))) (.cons (.set 1 (.bin .Add (.slot 1) (.lstR (.cons (.kstr [116, 104, 101]) .nil)))) (.cons (.set 1 (.bin .Add (.slot 1) (.lstR (.cons (.kstr [102, 105, 114, 115, 116, 115]) (.cons (.kstr [105]) (.cons (.kstr [105, 102, 115]) (.cons (.kstr [105, 110, 110]) (.cons (.kstr [116, 104, 105, 110, 103]) (.cons (.kstr [122, 122, 122, 122, 122, 122, 122, 122]) (.cons (.kstr [110, 97, 109, 101]) (.cons (.kstr [114, 111, 119]) (.cons (.kstr [115, 101, 116]) (.cons (.kstr [98, 111, 111, 107]) (.cons (.kstr [112, 97, 105, 114]) (.cons (.kstr [113]) .nil))))))))))))))) (.cons (.ret (.ix (.slot 1) (.call "_law_pick" (.cons (.slot 0) (.cons (.blt .len (.cons (.slot 1) .nil)) .nil))))) .nil)))⟩
def f_law_said : Fn := ⟨"_law_said", 1, ["_law_left_here", "_law_names"], .cons (.set 1 (.lstR (.cons (.kstr [99, 97, 116]) (.cons (.kstr [105, 102]) (.cons (.kstr [116, 104, 101, 110]) (.cons (.kstr [102, 105, 114, 115, 116]) (.cons (.kstr [97]) (.cons (.kstr [122, 122, 122, 122, 122, 122, 122, 122]) (.cons (.kstr [105, 110]) (.cons (.kstr [100, 111]) (.cons (.kstr [104, 111, 108, 100]) (.cons (.kstr [115, 111, 114, 116]) .nil)))))))))))) (.cons (.iff (.cmp .Eq (.call "_law_pick" (.cons (.slot 0) (.cons (.kint 2) .nil))) (.kint 0)) (.cons (.ret (.tup (.cons (.kstr [115, 97, 121]) (.cons (.ix (.slot 1) (.call "_law_pick" (.cons (.slot 0) (.cons (.blt .len (.cons (.slot 1) .nil)) .nil)))) .nil)))) .nil) (.nil)) (.cons (.ret (.tup (.cons (.kstr [115, 97, 121]) (.cons (.call "_law_number" (.cons (.slot 0) .nil)) .nil)))) .nil))⟩
def f_law_deeds : Fn := ⟨"_law_deeds", 0, ["_law_some"], .cons (.set 0 (.lstR (.cons (.tup (.cons (.kstr [102, 105, 114, 115, 116]) (.cons (.kint 1) .nil))) (.cons (.tup (.cons (.kstr [115, 101, 99, 111, 110, 100]) (.cons (.kint 1) .nil))) (.cons (.tup (.cons (.kstr [105, 116, 101, 109]) (.cons (.kint 2) .nil))) (.cons (.tup (.cons (.kstr [115, 105, 122, 101]) (.cons (.kint 1) .nil))) (.cons (.tup (.cons (.kstr [104, 97, 115]) (.cons (.kint 2) .nil))) (.cons (.tup (.cons (.kstr [103, 101, 116]) (.cons (.kint 2) .nil))) (.cons (.tup (.cons (.kstr [119, 105, 116, 104]) (.cons (.kint 2) .nil))) (.cons (.tup (.cons (.kstr [108, 101, 115, 115]) (.cons (.kint 2) .nil))) .nil)))))))))) (.cons (.set 0 (.bin .Add (.slot 0) (.lstR (.cons (.tup (.cons (.kstr [112, 117, 116]) (.cons (.kint 3) .nil))) (.cons (.tup (.cons (.kstr [99, 117, 116]) (.cons (.kint 2) .nil))) (.cons (.tup (.cons (.kstr [98, 101, 104, 105, 110, 100]) (.cons (.kint 2) .nil))) (.cons (.tup (.cons (.kstr [108, 105, 115, 116, 101, 100]) (.cons (.kint 1) .nil))) (.cons (.tup (.cons (.kstr [112, 108, 117, 115]) (.cons (.kint 2) .nil))) (.cons (.tup (.cons (.kstr [109, 105, 110, 117, 115]) (.cons (.kint 2) .nil))) (.cons (.tup (.cons (.kstr [116, 105, 109, 101, 115]) (.cons (.kint 2) .nil))) .nil)))))))))) (.cons (.ret (.bin .Add (.slot 0) (.lstR (.cons (.tup (.cons (.kstr [115, 97, 109, 101]) (.cons (.kint 2) .nil))) (.cons (.tup (.cons (.kstr [98, 101, 102, 111, 114, 101]) (.cons (.kint 2) .nil))) (.cons (.tup (.cons (.kstr [115, 111, 114, 116]) (.cons (.kint 1) .nil))) .nil)))))) .nil))⟩
def f_law_any : Fn := ⟨"_law_any", 2, ["_law_left_here", "_law_deep", "_law_way", "_law_many", "_law_parts", "_law_word", "_law_other", "_law_count", "_law_k"], .cons (.set 2 (.call "_law_pick" (.cons (.slot 0) (.cons (.kint 10) .nil)))) (.cons (.iff (.bop false (.cmp .Lt (.slot 1) (.kint 1)) (.cons (.cmp .Lt (.slot 2) (.kint 2)) .nil)) (.cons (.ret (.ix (.lstR (.cons (.call "_law_said" (.cons (.slot 0) .nil)) (.cons (.tup (.cons (.kstr [116, 104, 101]) (.cons (.call "_law_free" (.cons (.slot 0) .nil)) .nil))) .nil))) (.call "_law_pick" (.cons (.slot 0) (.cons (.kint 2) .nil))))) .nil) (.nil)) (.cons (.set 3 (.ix (.lstR (.cons (.kint 0) (.cons (.kint 1) (.cons (.kint 2) (.cons (.kint 3) (.cons (.kint 5) (.cons (.kint 9) .nil))))))) (.call "_law_pick" (.cons (.slot 0) (.cons (.kint 6) .nil))))) (.cons (.iff (.cmp .Gt (.slot 3) (.kint 3)) (.cons (.set 1 (.kint 1)) .nil) (.nil)) (.cons (.iff (.cmp .Lt (.slot 2) (.kint 4)) (.cons (.ret (.call "_law_made" (.cons (.slot 0) (.cons (.slot 3) (.cons (.slot 1) .nil))))) .nil) (.nil)) (.cons (.iff (.cmp .Lt (.slot 2) (.kint 6)) (.cons (.setT [5, 7] (.ix (.call "_law_deeds" (.nil)) (.call "_law_pick" (.cons (.slot 0) (.cons (.kint 18) .nil))))) (.cons (.ret (.tup (.cons (.kstr [100, 111]) (.cons (.slot 5) (.cons (.blt .tuple (.cons (.compR (.call "_law_any" (.cons (.slot 0) (.cons (.bin .Sub (.slot 1) (.kint 1)) .nil))) (.nm 8) (.rng1 (.slot 7)) (.nil) [("_law_k", 8)]) .nil)) .nil))))) .nil)) (.nil)) (.cons (.iff (.cmp .Eq (.slot 2) (.kint 6)) (.cons (.ret (.tup (.cons (.kstr [99, 97, 108, 108]) (.cons (.call "_law_free" (.cons (.slot 0) .nil)) (.cons (.blt .tuple (.cons (.compR (.call "_law_any" (.cons (.slot 0) (.cons (.bin .Sub (.slot 1) (.kint 1)) .nil))) (.nm 8) (.rng1 (.slot 3)) (.nil) [("_law_k", 8)]) .nil)) .nil))))) .nil) (.nil)) (.cons (.set 4 (.compR (.call "_law_any" (.cons (.slot 0) (.cons (.bin .Sub (.slot 1) (.kint 1)) .nil))) (.nm 8) (.rng1 (.kint 3)) (.nil) [("_law_k", 8)])) (.cons (.iff (.cmp .Eq (.slot 2) (.kint 7)) (.cons (.ret (.tup (.cons (.kstr [105, 102]) (.cons (.ix (.slot 4) (.kint 0)) (.cons (.ix (.slot 4) (.kint 1)) (.cons (.ix (.slot 4) (.kint 2)) .nil)))))) .nil) (.nil)) (.cons (.iff (.cmp .Eq (.slot 2) (.kint 8)) (.cons (.ret (.tup (.cons (.kstr [108, 101, 116]) (.cons (.call "_law_free" (.cons (.slot 0) .nil)) (.cons (.ix (.slot 4) (.kint 0)) (.cons (.ix (.slot 4) (.kint 1)) .nil)))))) .nil) (.nil)) (.cons (.par 5 6 (.call "_law_free" (.cons (.slot 0) .nil)) (.call "_law_free" (.cons (.slot 0) .nil))) (.cons (.iff (.cmp .Eq (.slot 5) (.slot 6)) (.cons (.set 6 (.kstr [111, 116, 104, 101, 114])) .nil) (.nil)) (.cons (.ret (.tup (.cons (.kstr [102, 111, 108, 100]) (.cons (.slot 5) (.cons (.slot 6) (.cons (.ix (.slot 4) (.kint 0)) (.cons (.ix (.slot 4) (.kint 1)) (.cons (.ix (.slot 4) (.kint 2)) .nil)))))))) .nil))))))))))))⟩
def f_law_made : Fn := ⟨"_law_made", 3, ["_law_left_here", "_law_many", "_law_deep", "_law_sort", "_law_k"], .cons (.set 3 (.ix (.lstR (.cons (.kstr [112, 97, 105, 114]) (.cons (.kstr [114, 111, 119]) (.cons (.kstr [115, 101, 116]) (.cons (.kstr [98, 111, 111, 107]) .nil))))) (.call "_law_pick" (.cons (.slot 0) (.cons (.kint 4) .nil))))) (.cons (.set 1 (.bm .dget (.dic (.cons (.kstr [112, 97, 105, 114]) (.kint 2) (.cons (.kstr [98, 111, 111, 107]) (.bin .Mult (.bin .FloorDiv (.slot 1) (.kint 2)) (.kint 2)) (.nil)))) (.cons (.slot 3) (.cons (.slot 1) .nil)))) (.cons (.ret (.tup (.cons (.kstr [109, 97, 107, 101]) (.cons (.slot 3) (.cons (.blt .tuple (.cons (.compR (.call "_law_any" (.cons (.slot 0) (.cons (.bin .Sub (.slot 2) (.kint 1)) .nil))) (.nm 4) (.rng1 (.slot 1)) (.nil) [("_law_k", 4)]) .nil)) .nil))))) .nil))⟩
/-! ### numbers -/
theorem figs_ten : ∀ k : Nat, k < 41 → ∃ N : Int, figs (49 :: (List.replicate k [48]).flatten) = some N ∧ N.natAbs ≤ 10 ^ 40 := by
  have h : ((List.range 41).all fun k => match figs (49 :: (List.replicate k [48]).flatten) with | some N => decide (N.natAbs ≤ 10 ^ 40) | none => false) = true := by decide +kernel
  intro k hk
  have z := List.all_eq_true.mp h k (List.mem_range.mpr hk)
  split at z
  · rename_i N e
    exact ⟨N, e, of_decide_eq_true z⟩
  · cases z
theorem num_ok {p : Pg} (hp : p.get "_law_number" = some f_law_number) (hp2 : p.get "_law_pick" = some f_law_pick) {n : Nat} {g : Ga} {u v : Int} {Q : KQ} {E : FQ}
    (q : ∀ (i u' v' : Int), i.natAbs < 10 ^ 41 → Q (.int i) (g.at u' v')) : semF p (n + 2) "_law_number" [.ref g.a] (g.at u v) Q E := by
  have hL : LINE = 16777216 := rfl
  refine enter hp ⟨rfl, ?_⟩
  simp only [f_law_number, wSs, wS, wE, wL, wT, wB, wBT, wC, wO, wD, wI, bnd_nm, Tq.wipe, entry, List.map_cons, List.map_nil, List.length_cons, List.length_nil, Nat.zero_add, List.replicate_succ, List.replicate_zero, List.cons_append, List.nil_append, Nat.reduceAdd, Nat.reduceSub, List.set_cons_zero, List.set_cons_succ, need_some, need_none, ups_same, ups_ups2, List.zip_cons_cons, List.zip_nil_left, List.foldl_cons, List.foldl_nil, bnd_nm, bnd_tp, bnd_rl, b_ai, b_as, b_at, b_rr, b_rf, b_fr, b_ff, b_mr, b_si, b_mi, b_ms, b_mt, b_fd, b_md, b_pw, v_fn, v_wd, v_gl, c_lt, c_le, c_gt, c_ge, c_eq, c_ne, c_is, c_isn, c_in, c_nin, f_non, f_bl, f_int, f_str, e_ii, e_ss, e_bb, i_non, n_non, n_int, n_str, n_tup, n_ref, n_rol, n_bl, in_ref, rIn_l, rIn_d, in_tup, in_rol, in_str, in_glo, ky_i, ky_s, t_non, t_bl, t_int, t_str, t_tup, t_rol, t_ref, rTru_l, rTru_d, ix_tup, ix_rol, ix_scr, ix_str, ix_ref, rIx_l, rIx_d, rIx_r, ix_glo, at0, at1, at2, sl_str, sl_tup, sl_rol, sl_scr, sl_ref, rSl_l, bl_len, l_str, l_tup, l_rol, l_scr, l_ref, rLen_l, rLen_d, bl_max, bl_min, bl_ii, bl_ib, bl_is, bl_st, bl_tup, bl_lst, bl_all, bl_any, bl_sum, bl_srt, rSort_d, s_ref, s_tup, s_rol, s_scr, ls_ref, ls_rol, rSeq_l, isi_non, isi_bl, isi_int, isi_str, isi_tup, isi_rol, isi_ref, rIsi_l, rIsi_d, p_app, p_get, rLst_l, rDic_d, p_up, p_spl, p_jn, p_wg, m_app, rApp_l, m_get, m_get2, rGet_d, m_up, m_spl, m_jn, m_wg, s_set, rSet_l, rSet_d, ixN0, ixN1, w_tup, w_rol, w_scr, w_str, w_ref, rWlk_l, j0, jS, Bool.true_and]
  refine pick_ok hp2 (by decide) (by decide) fun k1 u1 v1 b1 b2 => ?_
  simp only [bnd_nm, bnd_tp, bnd_rl, b_ai, b_as, b_at, b_rr, b_rf, b_fr, b_ff, b_mr, b_si, b_mi, b_ms, b_mt, b_fd, b_md, b_pw, v_fn, v_wd, v_gl, c_lt, c_le, c_gt, c_ge, c_eq, c_ne, c_is, c_isn, c_in, c_nin, f_non, f_bl, f_int, f_str, e_ii, e_ss, e_bb, i_non, n_non, n_int, n_str, n_tup, n_ref, n_rol, n_bl, in_ref, rIn_l, rIn_d, in_tup, in_rol, in_str, in_glo, ky_i, ky_s, t_non, t_bl, t_int, t_str, t_tup, t_rol, t_ref, rTru_l, rTru_d, ix_tup, ix_rol, ix_scr, ix_str, ix_ref, rIx_l, rIx_d, rIx_r, ix_glo, at0, at1, at2, sl_str, sl_tup, sl_rol, sl_scr, sl_ref, rSl_l, bl_len, l_str, l_tup, l_rol, l_scr, l_ref, rLen_l, rLen_d, bl_max, bl_min, bl_ii, bl_ib, bl_is, bl_st, bl_tup, bl_lst, bl_all, bl_any, bl_sum, bl_srt, rSort_d, s_ref, s_tup, s_rol, s_scr, ls_ref, ls_rol, rSeq_l, isi_non, isi_bl, isi_int, isi_str, isi_tup, isi_rol, isi_ref, rIsi_l, rIsi_d, p_app, p_get, rLst_l, rDic_d, p_up, p_spl, p_jn, p_wg, m_app, rApp_l, m_get, m_get2, rGet_d, m_up, m_spl, m_jn, m_wg, s_set, rSet_l, rSet_d, ixN0, ixN1, w_tup, w_rol, w_scr, w_str, w_ref, rWlk_l, j0, jS, Bool.true_and, entry, List.map_cons, List.map_nil, List.length_cons, List.length_nil, Nat.zero_add, List.replicate_succ, List.replicate_zero, List.cons_append, List.nil_append, Nat.reduceAdd, Nat.reduceSub, List.set_cons_zero, List.set_cons_succ, need_some, need_none, ups_same, ups_ups2, List.zip_cons_cons, List.zip_nil_left, List.foldl_cons, List.foldl_nil]
  by_cases c1 : k1 < 3
  · rw [if_pos (decide_eq_true c1)]
    exact pick_ok hp2 (by decide) (by decide) fun k2 u2 v2 c3 c4 => wk_self (q _ _ _ (by omega))
  · rw [if_neg (by simpa using c1)]
    simp only [bnd_nm, bnd_tp, bnd_rl, b_ai, b_as, b_at, b_rr, b_rf, b_fr, b_ff, b_mr, b_si, b_mi, b_ms, b_mt, b_fd, b_md, b_pw, v_fn, v_wd, v_gl, c_lt, c_le, c_gt, c_ge, c_eq, c_ne, c_is, c_isn, c_in, c_nin, f_non, f_bl, f_int, f_str, e_ii, e_ss, e_bb, i_non, n_non, n_int, n_str, n_tup, n_ref, n_rol, n_bl, in_ref, rIn_l, rIn_d, in_tup, in_rol, in_str, in_glo, ky_i, ky_s, t_non, t_bl, t_int, t_str, t_tup, t_rol, t_ref, rTru_l, rTru_d, ix_tup, ix_rol, ix_scr, ix_str, ix_ref, rIx_l, rIx_d, rIx_r, ix_glo, at0, at1, at2, sl_str, sl_tup, sl_rol, sl_scr, sl_ref, rSl_l, bl_len, l_str, l_tup, l_rol, l_scr, l_ref, rLen_l, rLen_d, bl_max, bl_min, bl_ii, bl_ib, bl_is, bl_st, bl_tup, bl_lst, bl_all, bl_any, bl_sum, bl_srt, rSort_d, s_ref, s_tup, s_rol, s_scr, ls_ref, ls_rol, rSeq_l, isi_non, isi_bl, isi_int, isi_str, isi_tup, isi_rol, isi_ref, rIsi_l, rIsi_d, p_app, p_get, rLst_l, rDic_d, p_up, p_spl, p_jn, p_wg, m_app, rApp_l, m_get, m_get2, rGet_d, m_up, m_spl, m_jn, m_wg, s_set, rSet_l, rSet_d, ixN0, ixN1, w_tup, w_rol, w_scr, w_str, w_ref, rWlk_l, j0, jS, Bool.true_and, d_fl f_int f_int]
    by_cases c2 : k1 = 3
    · subst c2
      simp only [beq_self_eq_true, Bool.not_true, Bool.not_false, Bool.false_eq_true, Bool.true_eq_false, eq_self, if_true, if_false, Bool.true_and, Bool.and_true, Bool.false_and, Bool.and_false, reduceIte]
      exact pick_ok hp2 (by decide) (by decide) fun k2 u2 v2 c3 c4 => wk_self (q _ _ _ (by omega))
    · have e2 : (k1 == 3) = false := by simpa using c2
      simp only [e2, Bool.not_true, Bool.not_false, Bool.false_eq_true, Bool.true_eq_false, eq_self, if_true, if_false, Bool.true_and, Bool.and_true, Bool.false_and, Bool.and_false, reduceIte]
      refine pick_ok hp2 (by decide) (by decide) fun k2 u2 v2 b3 b4 => ?_
      simp only [bnd_nm, bnd_tp, bnd_rl, b_ai, b_as, b_at, b_rr, b_rf, b_fr, b_ff, b_mr, b_si, b_mi, b_ms, b_mt, b_fd, b_md, b_pw, v_fn, v_wd, v_gl, c_lt, c_le, c_gt, c_ge, c_eq, c_ne, c_is, c_isn, c_in, c_nin, f_non, f_bl, f_int, f_str, e_ii, e_ss, e_bb, i_non, n_non, n_int, n_str, n_tup, n_ref, n_rol, n_bl, in_ref, rIn_l, rIn_d, in_tup, in_rol, in_str, in_glo, ky_i, ky_s, t_non, t_bl, t_int, t_str, t_tup, t_rol, t_ref, rTru_l, rTru_d, ix_tup, ix_rol, ix_scr, ix_str, ix_ref, rIx_l, rIx_d, rIx_r, ix_glo, at0, at1, at2, sl_str, sl_tup, sl_rol, sl_scr, sl_ref, rSl_l, bl_len, l_str, l_tup, l_rol, l_scr, l_ref, rLen_l, rLen_d, bl_max, bl_min, bl_ii, bl_ib, bl_is, bl_st, bl_tup, bl_lst, bl_all, bl_any, bl_sum, bl_srt, rSort_d, s_ref, s_tup, s_rol, s_scr, ls_ref, ls_rol, rSeq_l, isi_non, isi_bl, isi_int, isi_str, isi_tup, isi_rol, isi_ref, rIsi_l, rIsi_d, p_app, p_get, rLst_l, rDic_d, p_up, p_spl, p_jn, p_wg, m_app, rApp_l, m_get, m_get2, rGet_d, m_up, m_spl, m_jn, m_wg, s_set, rSet_l, rSet_d, ixN0, ixN1, w_tup, w_rol, w_scr, w_str, w_ref, rWlk_l, j0, jS, Bool.true_and, entry, List.map_cons, List.map_nil, List.length_cons, List.length_nil, Nat.zero_add, List.replicate_succ, List.replicate_zero, List.cons_append, List.nil_append, Nat.reduceAdd, Nat.reduceSub, List.set_cons_zero, List.set_cons_succ, need_some, need_none, ups_same, ups_ups2, List.zip_cons_cons, List.zip_nil_left, List.foldl_cons, List.foldl_nil]
      obtain ⟨N, hN, bN⟩ := figs_ten (1 + k2).toNat (by omega)
      simp only [hN, entry, List.map_cons, List.map_nil, List.length_cons, List.length_nil, Nat.zero_add, List.replicate_succ, List.replicate_zero, List.cons_append, List.nil_append, Nat.reduceAdd, Nat.reduceSub, List.set_cons_zero, List.set_cons_succ, need_some, need_none, ups_same, ups_ups2, List.zip_cons_cons, List.zip_nil_left, List.foldl_cons, List.foldl_nil, bnd_nm, bnd_tp, bnd_rl, b_ai, b_as, b_at, b_rr, b_rf, b_fr, b_ff, b_mr, b_si, b_mi, b_ms, b_mt, b_fd, b_md, b_pw, v_fn, v_wd, v_gl, c_lt, c_le, c_gt, c_ge, c_eq, c_ne, c_is, c_isn, c_in, c_nin, f_non, f_bl, f_int, f_str, e_ii, e_ss, e_bb, i_non, n_non, n_int, n_str, n_tup, n_ref, n_rol, n_bl, in_ref, rIn_l, rIn_d, in_tup, in_rol, in_str, in_glo, ky_i, ky_s, t_non, t_bl, t_int, t_str, t_tup, t_rol, t_ref, rTru_l, rTru_d, ix_tup, ix_rol, ix_scr, ix_str, ix_ref, rIx_l, rIx_d, rIx_r, ix_glo, at0, at1, at2, sl_str, sl_tup, sl_rol, sl_scr, sl_ref, rSl_l, bl_len, l_str, l_tup, l_rol, l_scr, l_ref, rLen_l, rLen_d, bl_max, bl_min, bl_ii, bl_ib, bl_is, bl_st, bl_tup, bl_lst, bl_all, bl_any, bl_sum, bl_srt, rSort_d, s_ref, s_tup, s_rol, s_scr, ls_ref, ls_rol, rSeq_l, isi_non, isi_bl, isi_int, isi_str, isi_tup, isi_rol, isi_ref, rIsi_l, rIsi_d, p_app, p_get, rLst_l, rDic_d, p_up, p_spl, p_jn, p_wg, m_app, rApp_l, m_get, m_get2, rGet_d, m_up, m_spl, m_jn, m_wg, s_set, rSet_l, rSet_d, ixN0, ixN1, w_tup, w_rol, w_scr, w_str, w_ref, rWlk_l, j0, jS, Bool.true_and]
      have rl : (List.replicate (1 + k2).toNat [48]).flatten.length ≤ 60 := by
        rw [List.length_flatten]
        simp
        omega
      repeat (refine And.intro (by (first | assumption | trivial | omega | decide | (simp only [List.length_append, List.length_cons, List.length_nil, List.length_map]; omega))) ?_)
      refine pick_ok hp2 (by decide) (by decide) fun k3 u3 v3 b5 b6 => ?_
      simp only [bnd_nm, bnd_tp, bnd_rl, b_ai, b_as, b_at, b_rr, b_rf, b_fr, b_ff, b_mr, b_si, b_mi, b_ms, b_mt, b_fd, b_md, b_pw, v_fn, v_wd, v_gl, c_lt, c_le, c_gt, c_ge, c_eq, c_ne, c_is, c_isn, c_in, c_nin, f_non, f_bl, f_int, f_str, e_ii, e_ss, e_bb, i_non, n_non, n_int, n_str, n_tup, n_ref, n_rol, n_bl, in_ref, rIn_l, rIn_d, in_tup, in_rol, in_str, in_glo, ky_i, ky_s, t_non, t_bl, t_int, t_str, t_tup, t_rol, t_ref, rTru_l, rTru_d, ix_tup, ix_rol, ix_scr, ix_str, ix_ref, rIx_l, rIx_d, rIx_r, ix_glo, at0, at1, at2, sl_str, sl_tup, sl_rol, sl_scr, sl_ref, rSl_l, bl_len, l_str, l_tup, l_rol, l_scr, l_ref, rLen_l, rLen_d, bl_max, bl_min, bl_ii, bl_ib, bl_is, bl_st, bl_tup, bl_lst, bl_all, bl_any, bl_sum, bl_srt, rSort_d, s_ref, s_tup, s_rol, s_scr, ls_ref, ls_rol, rSeq_l, isi_non, isi_bl, isi_int, isi_str, isi_tup, isi_rol, isi_ref, rIsi_l, rIsi_d, p_app, p_get, rLst_l, rDic_d, p_up, p_spl, p_jn, p_wg, m_app, rApp_l, m_get, m_get2, rGet_d, m_up, m_spl, m_jn, m_wg, s_set, rSet_l, rSet_d, ixN0, ixN1, w_tup, w_rol, w_scr, w_str, w_ref, rWlk_l, j0, jS, Bool.true_and, entry, List.map_cons, List.map_nil, List.length_cons, List.length_nil, Nat.zero_add, List.replicate_succ, List.replicate_zero, List.cons_append, List.nil_append, Nat.reduceAdd, Nat.reduceSub, List.set_cons_zero, List.set_cons_succ, need_some, need_none, ups_same, ups_ups2, List.zip_cons_cons, List.zip_nil_left, List.foldl_cons, List.foldl_nil]
      repeat (refine And.intro (by (first | assumption | trivial | omega | decide | (simp only [List.length_append, List.length_cons, List.length_nil, List.length_map]; omega))) ?_)
      refine pick_ok hp2 (by decide) (by decide) fun k4 u4 v4 b7 b8 => ?_
      simp only [bnd_nm, bnd_tp, bnd_rl, b_ai, b_as, b_at, b_rr, b_rf, b_fr, b_ff, b_mr, b_si, b_mi, b_ms, b_mt, b_fd, b_md, b_pw, v_fn, v_wd, v_gl, c_lt, c_le, c_gt, c_ge, c_eq, c_ne, c_is, c_isn, c_in, c_nin, f_non, f_bl, f_int, f_str, e_ii, e_ss, e_bb, i_non, n_non, n_int, n_str, n_tup, n_ref, n_rol, n_bl, in_ref, rIn_l, rIn_d, in_tup, in_rol, in_str, in_glo, ky_i, ky_s, t_non, t_bl, t_int, t_str, t_tup, t_rol, t_ref, rTru_l, rTru_d, ix_tup, ix_rol, ix_scr, ix_str, ix_ref, rIx_l, rIx_d, rIx_r, ix_glo, at0, at1, at2, sl_str, sl_tup, sl_rol, sl_scr, sl_ref, rSl_l, bl_len, l_str, l_tup, l_rol, l_scr, l_ref, rLen_l, rLen_d, bl_max, bl_min, bl_ii, bl_ib, bl_is, bl_st, bl_tup, bl_lst, bl_all, bl_any, bl_sum, bl_srt, rSort_d, s_ref, s_tup, s_rol, s_scr, ls_ref, ls_rol, rSeq_l, isi_non, isi_bl, isi_int, isi_str, isi_tup, isi_rol, isi_ref, rIsi_l, rIsi_d, p_app, p_get, rLst_l, rDic_d, p_up, p_spl, p_jn, p_wg, m_app, rApp_l, m_get, m_get2, rGet_d, m_up, m_spl, m_jn, m_wg, s_set, rSet_l, rSet_d, ixN0, ixN1, w_tup, w_rol, w_scr, w_str, w_ref, rWlk_l, j0, jS, Bool.true_and, entry, List.map_cons, List.map_nil, List.length_cons, List.length_nil, Nat.zero_add, List.replicate_succ, List.replicate_zero, List.cons_append, List.nil_append, Nat.reduceAdd, Nat.reduceSub, List.set_cons_zero, List.set_cons_succ, need_some, need_none, ups_same, ups_ups2, List.zip_cons_cons, List.zip_nil_left, List.foldl_cons, List.foldl_nil]
      obtain ⟨d, e6, e7⟩ := atI_nat b7 (l := [D.int (10 ^ Int.toNat 40 - 1), D.int (1 - 10 ^ Int.toNat 40), D.int (N + k3), D.int 10]) b8
      obtain ⟨i, rfl, hi⟩ : ∃ i : Int, d = .int i ∧ i.natAbs < 10 ^ 41 := by
        have md := List.mem_of_getElem? e6
        have t40 : Int.toNat 40 = 40 := rfl
        simp only [List.mem_cons, List.not_mem_nil, or_false, t40] at md
        rcases md with rfl | rfl | rfl | rfl
        · exact ⟨_, rfl, by decide⟩
        · exact ⟨_, rfl, by decide⟩
        · exact ⟨_, rfl, by omega⟩
        · exact ⟨_, rfl, by decide⟩
      simp only [e7, entry, List.map_cons, List.map_nil, List.length_cons, List.length_nil, Nat.zero_add, List.replicate_succ, List.replicate_zero, List.cons_append, List.nil_append, Nat.reduceAdd, Nat.reduceSub, List.set_cons_zero, List.set_cons_succ, need_some, need_none, ups_same, ups_ups2, List.zip_cons_cons, List.zip_nil_left, List.foldl_cons, List.foldl_nil]
      exact wk_self (q i _ _ hi)
def frL : List D := [.str [120], .str [121], .str [122], .str [97, 98, 99, 100, 101, 102, 103, 104], .str [104, 111, 108, 100], .str [115, 104, 111, 119], .str [100, 101, 102], .str [107, 101, 101, 112], .str [119, 101, 97, 107], .str [115, 101, 101], .str [100, 114, 111, 112], .str [115, 119, 101, 101, 112], .str [111, 112, 101, 110], .str [115, 97, 121], .str [116, 104, 101], .str [102, 105, 114, 115, 116, 115], .str [105], .str [105, 102, 115], .str [105, 110, 110], .str [116, 104, 105, 110, 103], .str [122, 122, 122, 122, 122, 122, 122, 122], .str [110, 97, 109, 101], .str [114, 111, 119], .str [115, 101, 116], .str [98, 111, 111, 107], .str [112, 97, 105, 114], .str [113]]
def frOk : D → Bool
  | .str w => frC w && (Nat.ble w.length 8 && decide (w ≠ [111, 116, 104, 101, 114]))
  | _ => false
theorem frL_ok : frL.all frOk = true := by decide +kernel
theorem free_ok' {p : Pg} (hp : p.get "_law_free" = some f_law_free) (hp2 : p.get "_law_pick" = some f_law_pick) {n : Nat} {g : Ga} {u v : Int} {Q : KQ} {E : FQ}
    (q : ∀ (w : List Nat) (u' v' : Int), frC w = true → (w.length ≤ 8 ∧ w ≠ [111, 116, 104, 101, 114]) → Q (.str w) (g.at u' v')) : semF p (n + 2) "_law_free" [.ref g.a] (g.at u v) Q E := by
  have hL : LINE = 16777216 := rfl
  refine enter hp ⟨rfl, ?_⟩
  simp only [f_law_free, wSs, wS, wE, wL, wT, wB, wBT, wC, wO, wD, wI, bnd_nm, Tq.wipe, entry, List.map_cons, List.map_nil, List.length_cons, List.length_nil, Nat.zero_add, List.replicate_succ, List.replicate_zero, List.cons_append, List.nil_append, Nat.reduceAdd, Nat.reduceSub, List.set_cons_zero, List.set_cons_succ, need_some, need_none, ups_same, ups_ups2, List.zip_cons_cons, List.zip_nil_left, List.foldl_cons, List.foldl_nil, bnd_nm, bnd_tp, bnd_rl, b_ai, b_as, b_at, b_rr, b_rf, b_fr, b_ff, b_mr, b_si, b_mi, b_ms, b_mt, b_fd, b_md, b_pw, v_fn, v_wd, v_gl, c_lt, c_le, c_gt, c_ge, c_eq, c_ne, c_is, c_isn, c_in, c_nin, f_non, f_bl, f_int, f_str, e_ii, e_ss, e_bb, i_non, n_non, n_int, n_str, n_tup, n_ref, n_rol, n_bl, in_ref, rIn_l, rIn_d, in_tup, in_rol, in_str, in_glo, ky_i, ky_s, t_non, t_bl, t_int, t_str, t_tup, t_rol, t_ref, rTru_l, rTru_d, ix_tup, ix_rol, ix_scr, ix_str, ix_ref, rIx_l, rIx_d, rIx_r, ix_glo, at0, at1, at2, sl_str, sl_tup, sl_rol, sl_scr, sl_ref, rSl_l, bl_len, l_str, l_tup, l_rol, l_scr, l_ref, rLen_l, rLen_d, bl_max, bl_min, bl_ii, bl_ib, bl_is, bl_st, bl_tup, bl_lst, bl_all, bl_any, bl_sum, bl_srt, rSort_d, s_ref, s_tup, s_rol, s_scr, ls_ref, ls_rol, rSeq_l, isi_non, isi_bl, isi_int, isi_str, isi_tup, isi_rol, isi_ref, rIsi_l, rIsi_d, p_app, p_get, rLst_l, rDic_d, p_up, p_spl, p_jn, p_wg, m_app, rApp_l, m_get, m_get2, rGet_d, m_up, m_spl, m_jn, m_wg, s_set, rSet_l, rSet_d, ixN0, ixN1, w_tup, w_rol, w_scr, w_str, w_ref, rWlk_l, j0, jS, Bool.true_and]
  repeat (refine And.intro (by (first | assumption | trivial | omega | decide | (simp only [List.length_append, List.length_cons, List.length_nil, List.length_map]; omega))) ?_)
  refine pick_ok hp2 (by decide) (by decide) fun k u1 v1 b1 b2 => ?_
  simp only [bnd_nm, bnd_tp, bnd_rl, b_ai, b_as, b_at, b_rr, b_rf, b_fr, b_ff, b_mr, b_si, b_mi, b_ms, b_mt, b_fd, b_md, b_pw, v_fn, v_wd, v_gl, c_lt, c_le, c_gt, c_ge, c_eq, c_ne, c_is, c_isn, c_in, c_nin, f_non, f_bl, f_int, f_str, e_ii, e_ss, e_bb, i_non, n_non, n_int, n_str, n_tup, n_ref, n_rol, n_bl, in_ref, rIn_l, rIn_d, in_tup, in_rol, in_str, in_glo, ky_i, ky_s, t_non, t_bl, t_int, t_str, t_tup, t_rol, t_ref, rTru_l, rTru_d, ix_tup, ix_rol, ix_scr, ix_str, ix_ref, rIx_l, rIx_d, rIx_r, ix_glo, at0, at1, at2, sl_str, sl_tup, sl_rol, sl_scr, sl_ref, rSl_l, bl_len, l_str, l_tup, l_rol, l_scr, l_ref, rLen_l, rLen_d, bl_max, bl_min, bl_ii, bl_ib, bl_is, bl_st, bl_tup, bl_lst, bl_all, bl_any, bl_sum, bl_srt, rSort_d, s_ref, s_tup, s_rol, s_scr, ls_ref, ls_rol, rSeq_l, isi_non, isi_bl, isi_int, isi_str, isi_tup, isi_rol, isi_ref, rIsi_l, rIsi_d, p_app, p_get, rLst_l, rDic_d, p_up, p_spl, p_jn, p_wg, m_app, rApp_l, m_get, m_get2, rGet_d, m_up, m_spl, m_jn, m_wg, s_set, rSet_l, rSet_d, ixN0, ixN1, w_tup, w_rol, w_scr, w_str, w_ref, rWlk_l, j0, jS, Bool.true_and, entry, List.map_cons, List.map_nil, List.length_cons, List.length_nil, Nat.zero_add, List.replicate_succ, List.replicate_zero, List.cons_append, List.nil_append, Nat.reduceAdd, Nat.reduceSub, List.set_cons_zero, List.set_cons_succ, need_some, need_none, ups_same, ups_ups2, List.zip_cons_cons, List.zip_nil_left, List.foldl_cons, List.foldl_nil]
  obtain ⟨d, m1, m2⟩ := atI_nat b1 (l := frL) b2
  obtain ⟨w, rfl, w1, w2⟩ : ∃ w : List Nat, d = .str w ∧ frC w = true ∧ (w.length ≤ 8 ∧ w ≠ [111, 116, 104, 101, 114]) := by
    have z := List.all_eq_true.mp frL_ok d (List.mem_of_getElem? m1)
    cases d with
    | str w =>
      have z : (frC w && (Nat.ble w.length 8 && decide (w ≠ [111, 116, 104, 101, 114]))) = true := z
      rw [Bool.and_eq_true, Bool.and_eq_true, Nat.ble_eq, decide_eq_true_eq] at z
      exact ⟨w, rfl, z.1, z.2⟩
    | _ => cases z
  have m3 : atI frL k = some (.str w) := m2
  unfold frL at m3
  simp only [m3, entry, List.map_cons, List.map_nil, List.length_cons, List.length_nil, Nat.zero_add, List.replicate_succ, List.replicate_zero, List.cons_append, List.nil_append, Nat.reduceAdd, Nat.reduceSub, List.set_cons_zero, List.set_cons_succ, need_some, need_none, ups_same, ups_ups2, List.zip_cons_cons, List.zip_nil_left, List.foldl_cons, List.foldl_nil]
  exact wk_self (q w _ _ w1 w2)
/-! ### expressions -/
/-- an expression of depth t as they are drawn -/
inductive Xp : Nat → D → Prop
  | sayW {t : Nat} {w : List Nat} (h : wdC w = true) : Xp (t + 1) (.tup [.str wSay, .str w])
  | sayI {t : Nat} {i : Int} (h : i.natAbs < 10 ^ 41) : Xp (t + 1) (.tup [.str wSay, .int i])
  | the {t : Nat} {w : List Nat} (h : frC w = true) : Xp (t + 1) (.tup [.str wThe, .str w])
  | call {t : Nat} {w : List Nat} {xs : List D} (h : frC w = true) (l : xs.length ≤ 9) (g : ∀ x ∈ xs, Xp t x) : Xp (t + 2) (.tup [.str wCall, .str w, .tup xs])
  | make {t : Nat} {w : List Nat} {xs : List D} (h : isSrt w = true) (hl : (if w = wPair then decide (xs.length = 2) else if w = wBook then decide (xs.length % 2 = 0) else true) = true) (l : xs.length ≤ 9) (g : ∀ x ∈ xs, Xp t x) : Xp (t + 2) (.tup [.str wMake, .str w, .tup xs])
  | do_ {t : Nat} {w : List Nat} {xs : List D} (h : numOf w = some xs.length) (l : xs.length ≤ 9) (g : ∀ x ∈ xs, Xp t x) : Xp (t + 2) (.tup [.str wDo, .str w, .tup xs])
  | if_ {t : Nat} {a b c : D} (ga : Xp t a) (gb : Xp t b) (gc : Xp t c) : Xp (t + 1) (.tup [.str wIf, a, b, c])
  | let_ {t : Nat} {w : List Nat} {a b : D} (h : frC w = true) (ga : Xp t a) (gb : Xp t b) : Xp (t + 1) (.tup [.str wLet, .str w, a, b])
  | fold {t : Nat} {u w : List Nat} {a b c : D} (h : frC u = true) (h2 : frC w = true) (ne : u ≠ w) (ga : Xp t a) (gb : Xp t b) (gc : Xp t c) : Xp (t + 1) (.tup [.str wFold, .str u, .str w, a, b, c])
theorem Xp.mono {t : Nat} {d : D} (x : Xp t d) : ∀ {u : Nat}, t ≤ u → Xp u d := by
  induction x with
  | sayW h => intro u l; obtain ⟨k, rfl⟩ : ∃ k, u = k + 1 := ⟨u - 1, by omega⟩; exact .sayW h
  | sayI h => intro u l; obtain ⟨k, rfl⟩ : ∃ k, u = k + 1 := ⟨u - 1, by omega⟩; exact .sayI h
  | the h => intro u l; obtain ⟨k, rfl⟩ : ∃ k, u = k + 1 := ⟨u - 1, by omega⟩; exact .the h
  | call h l2 g ih => intro u l; obtain ⟨k, rfl⟩ : ∃ k, u = k + 2 := ⟨u - 2, by omega⟩; exact .call h l2 fun x hx => ih x hx (by omega)
  | make h hl l2 g ih => intro u l; obtain ⟨k, rfl⟩ : ∃ k, u = k + 2 := ⟨u - 2, by omega⟩; exact .make h hl l2 fun x hx => ih x hx (by omega)
  | do_ h l2 g ih => intro u l; obtain ⟨k, rfl⟩ : ∃ k, u = k + 2 := ⟨u - 2, by omega⟩; exact .do_ h l2 fun x hx => ih x hx (by omega)
  | if_ _ _ _ i1 i2 i3 => intro u l; obtain ⟨k, rfl⟩ : ∃ k, u = k + 1 := ⟨u - 1, by omega⟩; exact .if_ (i1 (by omega)) (i2 (by omega)) (i3 (by omega))
  | let_ h _ _ i1 i2 => intro u l; obtain ⟨k, rfl⟩ : ∃ k, u = k + 1 := ⟨u - 1, by omega⟩; exact .let_ h (i1 (by omega)) (i2 (by omega))
  | fold h h2 ne _ _ _ i1 i2 i3 => intro u l; obtain ⟨k, rfl⟩ : ∃ k, u = k + 1 := ⟨u - 1, by omega⟩; exact .fold h h2 ne (i1 (by omega)) (i2 (by omega)) (i3 (by omega))
def Good (t : Nat) (d : D) : Prop := dep d ≤ t ∧ (∀ m, t ≤ m → isE (m + 1) d = true) ∧ ∀ h, kn h d
theorem Good.mono {t u : Nat} {d : D} (g : Good t d) (l : t ≤ u) : Good u d := ⟨Nat.le_trans g.1 l, fun m h => g.2.1 m (Nat.le_trans l h), g.2.2⟩
def AllG (t : Nat) (xs : List D) : Prop := ∀ x ∈ xs, Good t x
theorem AllG.dep {t : Nat} : ∀ {xs : List D}, AllG t xs → depL xs ≤ t
  | [], _ => by simp [depL]
  | x :: r, g => by
    have e : depL (x :: r) = max (Tq.dep x) (depL r) := by simp only [depL]
    have := (g x List.mem_cons_self).1
    have := AllG.dep (xs := r) fun y hy => g y (List.mem_cons_of_mem _ hy)
    omega
theorem AllG.kn {t : Nat} {h : TH} : ∀ {xs : List D}, AllG t xs → knL h xs
  | [], _ => trivial
  | x :: r, g => ⟨(g x List.mem_cons_self).2.2 h, AllG.kn fun y hy => g y (List.mem_cons_of_mem _ hy)⟩
theorem AllG.all {t m : Nat} {xs : List D} (g : AllG t xs) (l : t < m) : xs.all (isE m) = true := List.all_eq_true.mpr fun x hx => by
  obtain ⟨k, rfl⟩ : ∃ k, m = k + 1 := ⟨m - 1, by omega⟩
  exact (g x hx).2.1 k (by omega)
theorem dep_tup {xs : List D} : Tq.dep (.tup xs) = depL xs + 1 := by simp only [Tq.dep]
theorem dep_s {w : List Nat} : Tq.dep (.str w) = 0 := by simp only [Tq.dep]
theorem depL_c {x : D} {r : List D} : depL (x :: r) = max (Tq.dep x) (depL r) := by simp only [depL]
theorem depL_n : depL [] = 0 := by simp only [depL]
theorem good_say {x : D} (hx : (isWd x || (isIntB x && !isBl x)) = true) (d0 : Tq.dep x = 0) (k : ∀ h, kn h x) : Good 1 (.tup [.str wSay, x]) :=
  ⟨by rw [dep_tup, depL_c, depL_c, depL_n, dep_s, d0]; decide, fun m _ => by
    show (decide (LX.sizeOf wSay = some 2) && (isWd x || (isIntB x && !isBl x))) = true
    rw [hx]; rfl, fun h => ⟨by simp, (show wSay.length ≤ 100 by decide), k h, trivial⟩⟩
theorem fr_len {w : List Nat} (hw : frC w = true) : w.length ≤ 100 := by
  unfold frC wdC at hw
  simp only [Bool.and_eq_true, decide_eq_true_eq] at hw
  omega
theorem good_the {w : List Nat} (hw : frC w = true) : Good 1 (.tup [.str wThe, .str w]) :=
  ⟨by rw [dep_tup, depL_c, depL_c, depL_n, dep_s, dep_s]; decide, fun m _ => by
    show (decide (LX.sizeOf wThe = some 2) && frC w) = true
    rw [hw]; rfl, fun h => ⟨by simp, (show wThe.length ≤ 100 by decide), fr_len hw, trivial⟩⟩
theorem good_call {t : Nat} {w : List Nat} {xs : List D} (hw : frC w = true) (g : AllG t xs) (l : xs.length ≤ 100) : Good (t + 2) (.tup [.str wCall, .str w, .tup xs]) :=
  ⟨by
    have := g.dep
    rw [dep_tup, depL_c, depL_c, depL_c, depL_n, dep_s, dep_s, dep_tup]
    omega, fun m hm => by
    show (decide (LX.sizeOf wCall = some 3) && (frC w && xs.all (isE m))) = true
    rw [hw, g.all (by omega)]; rfl, fun h => ⟨by simp, (show wCall.length ≤ 100 by decide), fr_len hw, ⟨l, g.kn⟩, trivial⟩⟩
theorem good_make {t : Nat} {s : List Nat} {xs : List D} (hs : isSrt s = true) (sl : s.length ≤ 100) (hl : (if s = wPair then decide (xs.length = 2) else if s = wBook then decide (xs.length % 2 = 0) else true) = true) (g : AllG t xs) (l : xs.length ≤ 100) : Good (t + 2) (.tup [.str wMake, .str s, .tup xs]) :=
  ⟨by
    have := g.dep
    rw [dep_tup, depL_c, depL_c, depL_c, depL_n, dep_s, dep_s, dep_tup]
    omega, fun m hm => by
    show (decide (LX.sizeOf wMake = some 3) && (isSrt s && xs.all (isE m) && (if s = wPair then decide (xs.length = 2) else if s = wBook then decide (xs.length % 2 = 0) else true))) = true
    rw [hs, g.all (by omega), hl]; rfl, fun h => ⟨by simp, (show wMake.length ≤ 100 by decide), sl, ⟨l, g.kn⟩, trivial⟩⟩
theorem good_do {t : Nat} {s : List Nat} {xs : List D} (hs : numOf s = some xs.length) (sl : s.length ≤ 100) (g : AllG t xs) (l : xs.length ≤ 100) : Good (t + 2) (.tup [.str wDo, .str s, .tup xs]) :=
  ⟨by
    have := g.dep
    rw [dep_tup, depL_c, depL_c, depL_c, depL_n, dep_s, dep_s, dep_tup]
    omega, fun m hm => by
    show (decide (LX.sizeOf wDo = some 3) && (decide (numOf s = some xs.length) && xs.all (isE m))) = true
    rw [decide_eq_true hs, g.all (by omega)]; rfl, fun h => ⟨by simp, (show wDo.length ≤ 100 by decide), sl, ⟨l, g.kn⟩, trivial⟩⟩
theorem good_if {t : Nat} {a b c : D} (g : AllG t [a, b, c]) : Good (t + 1) (.tup [.str wIf, a, b, c]) :=
  ⟨by
    have := g.dep
    rw [dep_tup, depL_c, dep_s]
    omega, fun m hm => by
    show (decide (LX.sizeOf wIf = some 4) && [a, b, c].all (isE m)) = true
    rw [g.all (by omega)]; rfl, fun h => ⟨by simp, (show wIf.length ≤ 100 by decide), g.kn⟩⟩
theorem good_let {t : Nat} {w : List Nat} {b c : D} (hw : frC w = true) (g : AllG t [b, c]) : Good (t + 1) (.tup [.str wLet, .str w, b, c]) :=
  ⟨by
    have := g.dep
    rw [dep_tup, depL_c, depL_c, dep_s, dep_s]
    omega, fun m hm => by
    show (decide (LX.sizeOf wLet = some 4) && (frC w && [b, c].all (isE m))) = true
    rw [hw, g.all (by omega)]; rfl, fun h => ⟨by simp, (show wLet.length ≤ 100 by decide), fr_len hw, g.kn⟩⟩
theorem good_fold {t : Nat} {u v : List Nat} {b c d : D} (hu : frC u = true) (hv : frC v = true) (ne : u ≠ v) (g : AllG t [b, c, d]) : Good (t + 1) (.tup [.str wFold, .str u, .str v, b, c, d]) :=
  ⟨by
    have := g.dep
    rw [dep_tup, depL_c, depL_c, depL_c, dep_s, dep_s, dep_s]
    omega, fun m hm => by
    show (decide (LX.sizeOf wFold = some 6) && (frC u && frC v && decide (u ≠ v) && [b, c, d].all (isE m))) = true
    rw [hu, hv, decide_eq_true ne, g.all (by omega)]; rfl, fun h => ⟨by simp, (show wFold.length ≤ 100 by decide), fr_len hu, fr_len hv, g.kn⟩⟩
theorem sz100 : ∀ w, isSrt w = true → w.length ≤ 100 := by
  intro w h
  have e : isSrt w = SRT.any fun z => eqv z (.str w) := rfl
  rw [e, List.any_eq_true] at h
  obtain ⟨z, hz, q⟩ := h
  simp only [SRT, List.mem_cons, List.not_mem_nil, or_false] at hz
  rcases hz with rfl | rfl | rfl | rfl <;> (simp only [e_ss, beq_iff_eq] at q; rw [← q]; decide)
theorem num100 {w : List Nat} {n : Nat} (h : numOf w = some n) : w.length ≤ 100 := by
  unfold numOf at h
  cases e : wLook W w with
  | none => rw [e] at h; cases h
  | some v =>
    have m := look_mem e
    have z : (W.all fun q => decide (q.1.length ≤ 100)) = true := by decide +kernel
    exact of_decide_eq_true (List.all_eq_true.mp z _ m)
theorem Xp.good {t : Nat} {d : D} (x : Xp t d) : Good t d := by
  induction x with
  | sayW h =>
    refine (good_say (by show (wdC _ || _) = true; rw [h]; rfl) dep_s fun _ => ?_).mono (by omega)
    show _ ≤ 100
    unfold wdC at h
    simp only [Bool.and_eq_true, decide_eq_true_eq] at h
    omega
  | sayI h => exact (good_say (x := .int _) rfl (by simp only [Tq.dep]) fun _ => trivial).mono (by omega)
  | the h => exact (good_the h).mono (by omega)
  | call h l g ih => exact good_call h ih (by omega)
  | make h hl l g ih => exact good_make h (sz100 _ h) hl ih (by omega)
  | do_ h l g ih => exact good_do h (num100 h) ih (by omega)
  | if_ _ _ _ i1 i2 i3 => exact good_if fun x hx => by simp at hx; rcases hx with rfl | rfl | rfl <;> assumption
  | let_ h _ _ i1 i2 => exact good_let h fun x hx => by simp at hx; rcases hx with rfl | rfl <;> assumption
  | fold h h2 ne _ _ _ i1 i2 i3 => exact good_fold h h2 ne fun x hx => by simp at hx; rcases hx with rfl | rfl | rfl <;> assumption
def saidL : List D := [.str [99, 97, 116], .str [105, 102], .str [116, 104, 101, 110], .str [102, 105, 114, 115, 116], .str [97], .str [122, 122, 122, 122, 122, 122, 122, 122], .str [105, 110], .str [100, 111], .str [104, 111, 108, 100], .str [115, 111, 114, 116]]
theorem saidL_ok : saidL.all isWd = true := by decide +kernel
def deedL : List D := [.tup [.str [102, 105, 114, 115, 116], .int 1], .tup [.str [115, 101, 99, 111, 110, 100], .int 1], .tup [.str [105, 116, 101, 109], .int 2], .tup [.str [115, 105, 122, 101], .int 1], .tup [.str [104, 97, 115], .int 2], .tup [.str [103, 101, 116], .int 2], .tup [.str [119, 105, 116, 104], .int 2], .tup [.str [108, 101, 115, 115], .int 2], .tup [.str [112, 117, 116], .int 3], .tup [.str [99, 117, 116], .int 2], .tup [.str [98, 101, 104, 105, 110, 100], .int 2], .tup [.str [108, 105, 115, 116, 101, 100], .int 1], .tup [.str [112, 108, 117, 115], .int 2], .tup [.str [109, 105, 110, 117, 115], .int 2], .tup [.str [116, 105, 109, 101, 115], .int 2], .tup [.str [115, 97, 109, 101], .int 2], .tup [.str [98, 101, 102, 111, 114, 101], .int 2], .tup [.str [115, 111, 114, 116], .int 1]]
/-! ### drawn ones -/
structure Gen (p : Pg) : Prop where
  pick : p.get "_law_pick" = some f_law_pick
  number : p.get "_law_number" = some f_law_number
  free : p.get "_law_free" = some f_law_free
  said : p.get "_law_said" = some f_law_said
  deeds : p.get "_law_deeds" = some f_law_deeds
  any : p.get "_law_any" = some f_law_any
  made : p.get "_law_made" = some f_law_made
theorem deedL_len : deedL.length = 18 := by decide +kernel
theorem srt_ok : ∀ x ∈ [wPair, [114, 111, 119], [115, 101, 116], wBook], isSrt x = true ∧ x.length ≤ 100 := by decide +kernel
theorem other_ok : frC [111, 116, 104, 101, 114] = true := by decide +kernel
def deedB : D → Bool
  | .tup [.str w, .int c] => decide (0 ≤ c) && decide (numOf w = some c.toNat) && decide (c ≤ 3) && decide (w.length ≤ 100)
  | _ => false
theorem deedB_ok : deedL.all deedB = true := by decide +kernel
theorem deed_at {d : D} (m : d ∈ deedL) : ∃ (w : List Nat) (c : Nat), d = .tup [.str w, .int c] ∧ numOf w = some c ∧ c ≤ 3 ∧ w.length ≤ 100 := by
  have z := List.all_eq_true.mp deedB_ok d m
  unfold deedB at z
  split at z
  · rename_i w c
    simp only [Bool.and_eq_true, decide_eq_true_eq] at z
    exact ⟨w, c.toNat, by rw [Int.toNat_of_nonneg z.1.1.1], z.1.1.2, by omega, z.2⟩
  · cases z
def any_tail : SmL := .cons (.iff (.cmp .Lt (.slot 2) (.kint 4)) (.cons (.ret (.call "_law_made" (.cons (.slot 0) (.cons (.slot 3) (.cons (.slot 1) .nil))))) .nil) (.nil)) (.cons (.iff (.cmp .Lt (.slot 2) (.kint 6)) (.cons (.setT [5, 7] (.ix (.call "_law_deeds" (.nil)) (.call "_law_pick" (.cons (.slot 0) (.cons (.kint 18) .nil))))) (.cons (.ret (.tup (.cons (.kstr [100, 111]) (.cons (.slot 5) (.cons (.blt .tuple (.cons (.compR (.call "_law_any" (.cons (.slot 0) (.cons (.bin .Sub (.slot 1) (.kint 1)) .nil))) (.nm 8) (.rng1 (.slot 7)) (.nil) [("_law_k", 8)]) .nil)) .nil))))) .nil)) (.nil)) (.cons (.iff (.cmp .Eq (.slot 2) (.kint 6)) (.cons (.ret (.tup (.cons (.kstr [99, 97, 108, 108]) (.cons (.call "_law_free" (.cons (.slot 0) .nil)) (.cons (.blt .tuple (.cons (.compR (.call "_law_any" (.cons (.slot 0) (.cons (.bin .Sub (.slot 1) (.kint 1)) .nil))) (.nm 8) (.rng1 (.slot 3)) (.nil) [("_law_k", 8)]) .nil)) .nil))))) .nil) (.nil)) (.cons (.set 4 (.compR (.call "_law_any" (.cons (.slot 0) (.cons (.bin .Sub (.slot 1) (.kint 1)) .nil))) (.nm 8) (.rng1 (.kint 3)) (.nil) [("_law_k", 8)])) (.cons (.iff (.cmp .Eq (.slot 2) (.kint 7)) (.cons (.ret (.tup (.cons (.kstr [105, 102]) (.cons (.ix (.slot 4) (.kint 0)) (.cons (.ix (.slot 4) (.kint 1)) (.cons (.ix (.slot 4) (.kint 2)) .nil)))))) .nil) (.nil)) (.cons (.iff (.cmp .Eq (.slot 2) (.kint 8)) (.cons (.ret (.tup (.cons (.kstr [108, 101, 116]) (.cons (.call "_law_free" (.cons (.slot 0) .nil)) (.cons (.ix (.slot 4) (.kint 0)) (.cons (.ix (.slot 4) (.kint 1)) .nil)))))) .nil) (.nil)) (.cons (.par 5 6 (.call "_law_free" (.cons (.slot 0) .nil)) (.call "_law_free" (.cons (.slot 0) .nil))) (.cons (.iff (.cmp .Eq (.slot 5) (.slot 6)) (.cons (.set 6 (.kstr [111, 116, 104, 101, 114])) .nil) (.nil)) (.cons (.ret (.tup (.cons (.kstr [102, 111, 108, 100]) (.cons (.slot 5) (.cons (.slot 6) (.cons (.ix (.slot 4) (.kint 0)) (.cons (.ix (.slot 4) (.kint 1)) (.cons (.ix (.slot 4) (.kint 2)) .nil)))))))) .nil))))))))
def any_head (t : SmL) : SmL := .cons (.set 2 (.call "_law_pick" (.cons (.slot 0) (.cons (.kint 10) .nil)))) (.cons (.iff (.bop false (.cmp .Lt (.slot 1) (.kint 1)) (.cons (.cmp .Lt (.slot 2) (.kint 2)) .nil)) (.cons (.ret (.ix (.lstR (.cons (.call "_law_said" (.cons (.slot 0) .nil)) (.cons (.tup (.cons (.kstr [116, 104, 101]) (.cons (.call "_law_free" (.cons (.slot 0) .nil)) .nil))) .nil))) (.call "_law_pick" (.cons (.slot 0) (.cons (.kint 2) .nil))))) .nil) (.nil)) (.cons (.set 3 (.ix (.lstR (.cons (.kint 0) (.cons (.kint 1) (.cons (.kint 2) (.cons (.kint 3) (.cons (.kint 5) (.cons (.kint 9) .nil))))))) (.call "_law_pick" (.cons (.slot 0) (.cons (.kint 6) .nil))))) (.cons (.iff (.cmp .Gt (.slot 3) (.kint 3)) (.cons (.set 1 (.kint 1)) .nil) (.nil)) (t))))
theorem any_parts : f_law_any.body = any_head any_tail := rfl
section
variable {p : Pg} (G : Gen p) {n : Nat} {g : Ga} {u v : Int} {Q : KQ} {E : FQ}
include G
theorem said_ok (q : ∀ (d : D) (u' v' : Int), Xp 1 d → Q d (g.at u' v')) : semF p (n + 3) "_law_said" [.ref g.a] (g.at u v) Q E := by
  have hL : LINE = 16777216 := rfl
  refine enter G.said ⟨rfl, ?_⟩
  simp only [f_law_said, wSs, wS, wE, wL, wT, wB, wBT, wC, wO, wD, wI, bnd_nm, Tq.wipe, entry, List.map_cons, List.map_nil, List.length_cons, List.length_nil, Nat.zero_add, List.replicate_succ, List.replicate_zero, List.cons_append, List.nil_append, Nat.reduceAdd, Nat.reduceSub, List.set_cons_zero, List.set_cons_succ, need_some, need_none, ups_same, ups_ups2, List.zip_cons_cons, List.zip_nil_left, List.foldl_cons, List.foldl_nil, bnd_nm, bnd_tp, bnd_rl, b_ai, b_as, b_at, b_rr, b_rf, b_fr, b_ff, b_mr, b_si, b_mi, b_ms, b_mt, b_fd, b_md, b_pw, v_fn, v_wd, v_gl, c_lt, c_le, c_gt, c_ge, c_eq, c_ne, c_is, c_isn, c_in, c_nin, f_non, f_bl, f_int, f_str, e_ii, e_ss, e_bb, i_non, n_non, n_int, n_str, n_tup, n_ref, n_rol, n_bl, in_ref, rIn_l, rIn_d, in_tup, in_rol, in_str, in_glo, ky_i, ky_s, t_non, t_bl, t_int, t_str, t_tup, t_rol, t_ref, rTru_l, rTru_d, ix_tup, ix_rol, ix_scr, ix_str, ix_ref, rIx_l, rIx_d, rIx_r, ix_glo, at0, at1, at2, sl_str, sl_tup, sl_rol, sl_scr, sl_ref, rSl_l, bl_len, l_str, l_tup, l_rol, l_scr, l_ref, rLen_l, rLen_d, bl_max, bl_min, bl_ii, bl_ib, bl_is, bl_st, bl_tup, bl_lst, bl_all, bl_any, bl_sum, bl_srt, rSort_d, s_ref, s_tup, s_rol, s_scr, ls_ref, ls_rol, rSeq_l, isi_non, isi_bl, isi_int, isi_str, isi_tup, isi_rol, isi_ref, rIsi_l, rIsi_d, p_app, p_get, rLst_l, rDic_d, p_up, p_spl, p_jn, p_wg, m_app, rApp_l, m_get, m_get2, rGet_d, m_up, m_spl, m_jn, m_wg, s_set, rSet_l, rSet_d, ixN0, ixN1, w_tup, w_rol, w_scr, w_str, w_ref, rWlk_l, j0, jS, Bool.true_and]
  repeat (refine And.intro (by (first | assumption | trivial | omega | decide | (simp only [List.length_append, List.length_cons, List.length_nil, List.length_map]; omega))) ?_)
  refine pick_ok G.pick (by decide) (by decide) fun k1 u1 v1 b1 b2 => ?_
  simp only [bnd_nm, bnd_tp, bnd_rl, b_ai, b_as, b_at, b_rr, b_rf, b_fr, b_ff, b_mr, b_si, b_mi, b_ms, b_mt, b_fd, b_md, b_pw, v_fn, v_wd, v_gl, c_lt, c_le, c_gt, c_ge, c_eq, c_ne, c_is, c_isn, c_in, c_nin, f_non, f_bl, f_int, f_str, e_ii, e_ss, e_bb, i_non, n_non, n_int, n_str, n_tup, n_ref, n_rol, n_bl, in_ref, rIn_l, rIn_d, in_tup, in_rol, in_str, in_glo, ky_i, ky_s, t_non, t_bl, t_int, t_str, t_tup, t_rol, t_ref, rTru_l, rTru_d, ix_tup, ix_rol, ix_scr, ix_str, ix_ref, rIx_l, rIx_d, rIx_r, ix_glo, at0, at1, at2, sl_str, sl_tup, sl_rol, sl_scr, sl_ref, rSl_l, bl_len, l_str, l_tup, l_rol, l_scr, l_ref, rLen_l, rLen_d, bl_max, bl_min, bl_ii, bl_ib, bl_is, bl_st, bl_tup, bl_lst, bl_all, bl_any, bl_sum, bl_srt, rSort_d, s_ref, s_tup, s_rol, s_scr, ls_ref, ls_rol, rSeq_l, isi_non, isi_bl, isi_int, isi_str, isi_tup, isi_rol, isi_ref, rIsi_l, rIsi_d, p_app, p_get, rLst_l, rDic_d, p_up, p_spl, p_jn, p_wg, m_app, rApp_l, m_get, m_get2, rGet_d, m_up, m_spl, m_jn, m_wg, s_set, rSet_l, rSet_d, ixN0, ixN1, w_tup, w_rol, w_scr, w_str, w_ref, rWlk_l, j0, jS, Bool.true_and, entry, List.map_cons, List.map_nil, List.length_cons, List.length_nil, Nat.zero_add, List.replicate_succ, List.replicate_zero, List.cons_append, List.nil_append, Nat.reduceAdd, Nat.reduceSub, List.set_cons_zero, List.set_cons_succ, need_some, need_none, ups_same, ups_ups2, List.zip_cons_cons, List.zip_nil_left, List.foldl_cons, List.foldl_nil, d_fl f_int f_int]
  cases hk : (k1 == 0) with
  | true =>
    simp only [Bool.not_true, Bool.not_false, Bool.false_eq_true, Bool.true_eq_false, eq_self, if_true, if_false, Bool.true_and, Bool.and_true, Bool.false_and, Bool.and_false, reduceIte]
    refine pick_ok G.pick (by decide) (by decide) fun k2 u2 v2 b3 b4 => ?_
    simp only [bnd_nm, bnd_tp, bnd_rl, b_ai, b_as, b_at, b_rr, b_rf, b_fr, b_ff, b_mr, b_si, b_mi, b_ms, b_mt, b_fd, b_md, b_pw, v_fn, v_wd, v_gl, c_lt, c_le, c_gt, c_ge, c_eq, c_ne, c_is, c_isn, c_in, c_nin, f_non, f_bl, f_int, f_str, e_ii, e_ss, e_bb, i_non, n_non, n_int, n_str, n_tup, n_ref, n_rol, n_bl, in_ref, rIn_l, rIn_d, in_tup, in_rol, in_str, in_glo, ky_i, ky_s, t_non, t_bl, t_int, t_str, t_tup, t_rol, t_ref, rTru_l, rTru_d, ix_tup, ix_rol, ix_scr, ix_str, ix_ref, rIx_l, rIx_d, rIx_r, ix_glo, at0, at1, at2, sl_str, sl_tup, sl_rol, sl_scr, sl_ref, rSl_l, bl_len, l_str, l_tup, l_rol, l_scr, l_ref, rLen_l, rLen_d, bl_max, bl_min, bl_ii, bl_ib, bl_is, bl_st, bl_tup, bl_lst, bl_all, bl_any, bl_sum, bl_srt, rSort_d, s_ref, s_tup, s_rol, s_scr, ls_ref, ls_rol, rSeq_l, isi_non, isi_bl, isi_int, isi_str, isi_tup, isi_rol, isi_ref, rIsi_l, rIsi_d, p_app, p_get, rLst_l, rDic_d, p_up, p_spl, p_jn, p_wg, m_app, rApp_l, m_get, m_get2, rGet_d, m_up, m_spl, m_jn, m_wg, s_set, rSet_l, rSet_d, ixN0, ixN1, w_tup, w_rol, w_scr, w_str, w_ref, rWlk_l, j0, jS, Bool.true_and, entry, List.map_cons, List.map_nil, List.length_cons, List.length_nil, Nat.zero_add, List.replicate_succ, List.replicate_zero, List.cons_append, List.nil_append, Nat.reduceAdd, Nat.reduceSub, List.set_cons_zero, List.set_cons_succ, need_some, need_none, ups_same, ups_ups2, List.zip_cons_cons, List.zip_nil_left, List.foldl_cons, List.foldl_nil]
    obtain ⟨d, m1, m2⟩ := atI_nat b3 (l := saidL) b4
    obtain ⟨w, rfl, w1⟩ : ∃ w : List Nat, d = .str w ∧ wdC w = true := by
      have z := List.all_eq_true.mp saidL_ok d (List.mem_of_getElem? m1)
      cases d with
      | str w => exact ⟨w, rfl, z⟩
      | _ => cases z
    have m3 : atI saidL k2 = some (.str w) := m2
    unfold saidL at m3
    simp only [m3, entry, List.map_cons, List.map_nil, List.length_cons, List.length_nil, Nat.zero_add, List.replicate_succ, List.replicate_zero, List.cons_append, List.nil_append, Nat.reduceAdd, Nat.reduceSub, List.set_cons_zero, List.set_cons_succ, need_some, need_none, ups_same, ups_ups2, List.zip_cons_cons, List.zip_nil_left, List.foldl_cons, List.foldl_nil]
    exact ⟨by decide, wk_self (q _ _ _ (.sayW w1))⟩
  | false =>
    simp only [Bool.not_true, Bool.not_false, Bool.false_eq_true, Bool.true_eq_false, eq_self, if_true, if_false, Bool.true_and, Bool.and_true, Bool.false_and, Bool.and_false, reduceIte]
    refine num_ok G.number G.pick fun i u2 v2 hi => ?_
    repeat (refine And.intro (by (first | assumption | trivial | omega | decide | (simp only [List.length_append, List.length_cons, List.length_nil, List.length_map]; omega))) ?_)
    exact wk_self (q _ _ _ (.sayI hi))
theorem deeds_ok {h : TH} (q : Q (.rol deedL) h) : semF p (n + 1) "_law_deeds" [] h Q E := by
  have hL : LINE = 16777216 := rfl
  refine enter G.deeds ⟨rfl, ?_⟩
  simp only [f_law_deeds, wSs, wS, wE, wL, wT, wB, wBT, wC, wO, wD, wI, bnd_nm, Tq.wipe, entry, List.map_cons, List.map_nil, List.length_cons, List.length_nil, Nat.zero_add, List.replicate_succ, List.replicate_zero, List.cons_append, List.nil_append, Nat.reduceAdd, Nat.reduceSub, List.set_cons_zero, List.set_cons_succ, need_some, need_none, ups_same, ups_ups2, List.zip_cons_cons, List.zip_nil_left, List.foldl_cons, List.foldl_nil, bnd_nm, bnd_tp, bnd_rl, b_ai, b_as, b_at, b_rr, b_rf, b_fr, b_ff, b_mr, b_si, b_mi, b_ms, b_mt, b_fd, b_md, b_pw, v_fn, v_wd, v_gl, c_lt, c_le, c_gt, c_ge, c_eq, c_ne, c_is, c_isn, c_in, c_nin, f_non, f_bl, f_int, f_str, e_ii, e_ss, e_bb, i_non, n_non, n_int, n_str, n_tup, n_ref, n_rol, n_bl, in_ref, rIn_l, rIn_d, in_tup, in_rol, in_str, in_glo, ky_i, ky_s, t_non, t_bl, t_int, t_str, t_tup, t_rol, t_ref, rTru_l, rTru_d, ix_tup, ix_rol, ix_scr, ix_str, ix_ref, rIx_l, rIx_d, rIx_r, ix_glo, at0, at1, at2, sl_str, sl_tup, sl_rol, sl_scr, sl_ref, rSl_l, bl_len, l_str, l_tup, l_rol, l_scr, l_ref, rLen_l, rLen_d, bl_max, bl_min, bl_ii, bl_ib, bl_is, bl_st, bl_tup, bl_lst, bl_all, bl_any, bl_sum, bl_srt, rSort_d, s_ref, s_tup, s_rol, s_scr, ls_ref, ls_rol, rSeq_l, isi_non, isi_bl, isi_int, isi_str, isi_tup, isi_rol, isi_ref, rIsi_l, rIsi_d, p_app, p_get, rLst_l, rDic_d, p_up, p_spl, p_jn, p_wg, m_app, rApp_l, m_get, m_get2, rGet_d, m_up, m_spl, m_jn, m_wg, s_set, rSet_l, rSet_d, ixN0, ixN1, w_tup, w_rol, w_scr, w_str, w_ref, rWlk_l, j0, jS, Bool.true_and]
  repeat (refine And.intro (by (first | assumption | trivial | omega | decide | (simp only [List.length_append, List.length_cons, List.length_nil, List.length_map]; omega))) ?_)
  exact wk_self q
omit G in
/-- what a drawing of depth deep does -/
def AnyOk (p : Pg) (f : Nat) (deep : Int) (t : Nat) : Prop := ∀ (g : Ga) (u v : Int) (Q : KQ) (E : FQ), (∀ d u' v', Xp t d → Q d (g.at u' v')) → semF p f "_law_any" [.ref g.a, .int deep] (g.at u v) Q E
omit G in
/-- several of them, in a list -/
theorem many_ok {t : Nat} {m : Nat} {gg : TH → Prop} {step : D → TH → (D → TH → Prop) → (TH → Prop) → Prop} {done : List D → TH → Prop} (hm : m ≤ 100) (hg : ∀ k, gg k)
    (hs : ∀ (d : D) (u v : Int) (kv : D → TH → Prop) (kn : TH → Prop), (∀ d' u' v', Xp t d' → kv d' (g.at u' v')) → step d (g.at u v) kv kn)
    (hd : ∀ xs u' v', (∀ x ∈ xs, Xp t x) → xs.length = m → done xs (g.at u' v')) : loopR gg step (rngL 0 m) [] (g.at u v) done := by
  have hL : LINE = 16777216 := rfl
  have l0 : (rngL 0 m).length = m := by simp [rngL]
  refine drawR hg (fun _ x => Xp t x) _ [] u v (fun d _ u v kv kn q => hs d u v kv kn q) (by simp [l0]; omega) fun xs u' v' a => ?_
  exact hd xs u' v' (a.all fun _ _ z => z) (by rw [a.length, l0])
theorem made_ok {deep : Int} {many : Int} {t : Nat} (A : AnyOk p n (deep - 1) t) (m0 : 0 ≤ many) (m1 : many ≤ 9) (np : n = n - 1 + 1) (q : ∀ (d : D) (u' v' : Int), Xp (t + 2) d → Q d (g.at u' v')) : semF p (n + 1) "_law_made" [.ref g.a, .int many, .int deep] (g.at u v) Q E := by
  have hL : LINE = 16777216 := rfl
  refine enter G.made ⟨rfl, ?_⟩
  simp only [f_law_made, wSs, wS, wE, wL, wT, wB, wBT, wC, wO, wD, wI, bnd_nm, Tq.wipe, entry, List.map_cons, List.map_nil, List.length_cons, List.length_nil, Nat.zero_add, List.replicate_succ, List.replicate_zero, List.cons_append, List.nil_append, Nat.reduceAdd, Nat.reduceSub, List.set_cons_zero, List.set_cons_succ, need_some, need_none, ups_same, ups_ups2, List.zip_cons_cons, List.zip_nil_left, List.foldl_cons, List.foldl_nil, bnd_nm, bnd_tp, bnd_rl, b_ai, b_as, b_at, b_rr, b_rf, b_fr, b_ff, b_mr, b_si, b_mi, b_ms, b_mt, b_fd, b_md, b_pw, v_fn, v_wd, v_gl, c_lt, c_le, c_gt, c_ge, c_eq, c_ne, c_is, c_isn, c_in, c_nin, f_non, f_bl, f_int, f_str, e_ii, e_ss, e_bb, i_non, n_non, n_int, n_str, n_tup, n_ref, n_rol, n_bl, in_ref, rIn_l, rIn_d, in_tup, in_rol, in_str, in_glo, ky_i, ky_s, t_non, t_bl, t_int, t_str, t_tup, t_rol, t_ref, rTru_l, rTru_d, ix_tup, ix_rol, ix_scr, ix_str, ix_ref, rIx_l, rIx_d, rIx_r, ix_glo, at0, at1, at2, sl_str, sl_tup, sl_rol, sl_scr, sl_ref, rSl_l, bl_len, l_str, l_tup, l_rol, l_scr, l_ref, rLen_l, rLen_d, bl_max, bl_min, bl_ii, bl_ib, bl_is, bl_st, bl_tup, bl_lst, bl_all, bl_any, bl_sum, bl_srt, rSort_d, s_ref, s_tup, s_rol, s_scr, ls_ref, ls_rol, rSeq_l, isi_non, isi_bl, isi_int, isi_str, isi_tup, isi_rol, isi_ref, rIsi_l, rIsi_d, p_app, p_get, rLst_l, rDic_d, p_up, p_spl, p_jn, p_wg, m_app, rApp_l, m_get, m_get2, rGet_d, m_up, m_spl, m_jn, m_wg, s_set, rSet_l, rSet_d, ixN0, ixN1, w_tup, w_rol, w_scr, w_str, w_ref, rWlk_l, j0, jS, Bool.true_and]
  repeat (refine And.intro (by (first | assumption | trivial | omega | decide | (simp only [List.length_append, List.length_cons, List.length_nil, List.length_map]; omega))) ?_)
  rw [np]
  refine pick_ok G.pick (by decide) (by decide) fun k1 u1 v1 b1 b2 => ?_
  rw [← np]
  simp only [bnd_nm, bnd_tp, bnd_rl, b_ai, b_as, b_at, b_rr, b_rf, b_fr, b_ff, b_mr, b_si, b_mi, b_ms, b_mt, b_fd, b_md, b_pw, v_fn, v_wd, v_gl, c_lt, c_le, c_gt, c_ge, c_eq, c_ne, c_is, c_isn, c_in, c_nin, f_non, f_bl, f_int, f_str, e_ii, e_ss, e_bb, i_non, n_non, n_int, n_str, n_tup, n_ref, n_rol, n_bl, in_ref, rIn_l, rIn_d, in_tup, in_rol, in_str, in_glo, ky_i, ky_s, t_non, t_bl, t_int, t_str, t_tup, t_rol, t_ref, rTru_l, rTru_d, ix_tup, ix_rol, ix_scr, ix_str, ix_ref, rIx_l, rIx_d, rIx_r, ix_glo, at0, at1, at2, sl_str, sl_tup, sl_rol, sl_scr, sl_ref, rSl_l, bl_len, l_str, l_tup, l_rol, l_scr, l_ref, rLen_l, rLen_d, bl_max, bl_min, bl_ii, bl_ib, bl_is, bl_st, bl_tup, bl_lst, bl_all, bl_any, bl_sum, bl_srt, rSort_d, s_ref, s_tup, s_rol, s_scr, ls_ref, ls_rol, rSeq_l, isi_non, isi_bl, isi_int, isi_str, isi_tup, isi_rol, isi_ref, rIsi_l, rIsi_d, p_app, p_get, rLst_l, rDic_d, p_up, p_spl, p_jn, p_wg, m_app, rApp_l, m_get, m_get2, rGet_d, m_up, m_spl, m_jn, m_wg, s_set, rSet_l, rSet_d, ixN0, ixN1, w_tup, w_rol, w_scr, w_str, w_ref, rWlk_l, j0, jS, Bool.true_and, entry, List.map_cons, List.map_nil, List.length_cons, List.length_nil, Nat.zero_add, List.replicate_succ, List.replicate_zero, List.cons_append, List.nil_append, Nat.reduceAdd, Nat.reduceSub, List.set_cons_zero, List.set_cons_succ, need_some, need_none, ups_same, ups_ups2, List.zip_cons_cons, List.zip_nil_left, List.foldl_cons, List.foldl_nil]
  obtain ⟨d, m2, m3⟩ := atI_nat b1 (l := [D.str wPair, D.str [114, 111, 119], D.str [115, 101, 116], D.str wBook]) b2
  obtain ⟨w, rfl, hw⟩ : ∃ w : List Nat, d = .str w ∧ w ∈ [wPair, [114, 111, 119], [115, 101, 116], wBook] := by
    have z := List.mem_of_getElem? m2
    simp only [List.mem_cons, List.not_mem_nil, or_false] at z
    rcases z with rfl | rfl | rfl | rfl <;> exact ⟨_, rfl, by simp⟩
  unfold wPair wBook at m3
  simp only [m3, entry, List.map_cons, List.map_nil, List.length_cons, List.length_nil, Nat.zero_add, List.replicate_succ, List.replicate_zero, List.cons_append, List.nil_append, Nat.reduceAdd, Nat.reduceSub, List.set_cons_zero, List.set_cons_succ, need_some, need_none, ups_same, ups_ups2, List.zip_cons_cons, List.zip_nil_left, List.foldl_cons, List.foldl_nil, bnd_nm, bnd_tp, bnd_rl, b_ai, b_as, b_at, b_rr, b_rf, b_fr, b_ff, b_mr, b_si, b_mi, b_ms, b_mt, b_fd, b_md, b_pw, v_fn, v_wd, v_gl, c_lt, c_le, c_gt, c_ge, c_eq, c_ne, c_is, c_isn, c_in, c_nin, f_non, f_bl, f_int, f_str, e_ii, e_ss, e_bb, i_non, n_non, n_int, n_str, n_tup, n_ref, n_rol, n_bl, in_ref, rIn_l, rIn_d, in_tup, in_rol, in_str, in_glo, ky_i, ky_s, t_non, t_bl, t_int, t_str, t_tup, t_rol, t_ref, rTru_l, rTru_d, ix_tup, ix_rol, ix_scr, ix_str, ix_ref, rIx_l, rIx_d, rIx_r, ix_glo, at0, at1, at2, sl_str, sl_tup, sl_rol, sl_scr, sl_ref, rSl_l, bl_len, l_str, l_tup, l_rol, l_scr, l_ref, rLen_l, rLen_d, bl_max, bl_min, bl_ii, bl_ib, bl_is, bl_st, bl_tup, bl_lst, bl_all, bl_any, bl_sum, bl_srt, rSort_d, s_ref, s_tup, s_rol, s_scr, ls_ref, ls_rol, rSeq_l, isi_non, isi_bl, isi_int, isi_str, isi_tup, isi_rol, isi_ref, rIsi_l, rIsi_d, p_app, p_get, rLst_l, rDic_d, p_up, p_spl, p_jn, p_wg, m_app, rApp_l, m_get, m_get2, rGet_d, m_up, m_spl, m_jn, m_wg, s_set, rSet_l, rSet_d, ixN0, ixN1, w_tup, w_rol, w_scr, w_str, w_ref, rWlk_l, j0, jS, Bool.true_and]
  intro r2' nr
  refine ⟨by decide, by decide, .inr (by decide), trivial, trivial, ?_⟩
  obtain ⟨c, ec, c1, hl⟩ : ∃ c : Nat, (look (mergeK [] [(Ky.s [112, 97, 105, 114], D.int 2), (Ky.s [98, 111, 111, 107], D.int (many / 2 * 2))]) (Ky.s w)).getD (D.int many) = .int c ∧ c ≤ 9 ∧ (if w = wPair then decide (c = 2) else if w = wBook then decide (c % 2 = 0) else true) = true := by
    simp only [List.mem_cons, List.not_mem_nil, or_false] at hw
    rcases hw with rfl | rfl | rfl | rfl
    · exact ⟨2, rfl, by decide, rfl⟩
    · refine ⟨many.toNat, ?_, by omega, rfl⟩
      rw [Int.toNat_of_nonneg m0]; rfl
    · refine ⟨many.toNat, ?_, by omega, rfl⟩
      rw [Int.toNat_of_nonneg m0]; rfl
    · refine ⟨(many / 2 * 2).toNat, ?_, by omega, ?_⟩
      · rw [Int.toNat_of_nonneg (by omega)]; rfl
      · show decide ((many / 2 * 2).toNat % 2 = 0) = true
        exact decide_eq_true (by omega)
  rw [ec]
  refine ⟨by omega, by omega, ?_⟩
  have na : g.a ≠ r2' := fun z => by rw [← z, g.at_a] at nr; cases nr
  have nr2 : g.h r2' = none := by
    have z : g.at u1 v1 r2' = g.h r2' := ups_ne (Ne.symm na)
    rw [← z]; exact nr
  generalize eo : TO.dK _ = o
  obtain ⟨g2, e1, e2⟩ : ∃ g2 : Ga, g2.a = g.a ∧ ∀ u v, g2.at u v = ups (g.at u v) r2' o := ⟨⟨ups g.h r2' o, g.a⟩, rfl, fun u v => ups_swap na.symm⟩
  rw [← e2, show ((c : Int)).toNat = c from Int.toNat_natCast c]
  refine many_ok (t := t) (g := g2) (by omega) (fun _ => trivial) ?_ ?_
  · intro d u v kv kn' hk
    simp only [Bool.not_true, Bool.not_false, Bool.false_eq_true, Bool.true_eq_false, eq_self, if_true, if_false, Bool.true_and, Bool.and_true, Bool.false_and, Bool.and_false, reduceIte]
    rw [← e1]
    exact A g2 u v _ _ fun d' u' v' x => hk d' u' v' x
  · intro xs u' v' gx lx
    try simp only [bnd_nm, bnd_tp, bnd_rl, b_ai, b_as, b_at, b_rr, b_rf, b_fr, b_ff, b_mr, b_si, b_mi, b_ms, b_mt, b_fd, b_md, b_pw, v_fn, v_wd, v_gl, c_lt, c_le, c_gt, c_ge, c_eq, c_ne, c_is, c_isn, c_in, c_nin, f_non, f_bl, f_int, f_str, e_ii, e_ss, e_bb, i_non, n_non, n_int, n_str, n_tup, n_ref, n_rol, n_bl, in_ref, rIn_l, rIn_d, in_tup, in_rol, in_str, in_glo, ky_i, ky_s, t_non, t_bl, t_int, t_str, t_tup, t_rol, t_ref, rTru_l, rTru_d, ix_tup, ix_rol, ix_scr, ix_str, ix_ref, rIx_l, rIx_d, rIx_r, ix_glo, at0, at1, at2, sl_str, sl_tup, sl_rol, sl_scr, sl_ref, rSl_l, bl_len, l_str, l_tup, l_rol, l_scr, l_ref, rLen_l, rLen_d, bl_max, bl_min, bl_ii, bl_ib, bl_is, bl_st, bl_tup, bl_lst, bl_all, bl_any, bl_sum, bl_srt, rSort_d, s_ref, s_tup, s_rol, s_scr, ls_ref, ls_rol, rSeq_l, isi_non, isi_bl, isi_int, isi_str, isi_tup, isi_rol, isi_ref, rIsi_l, rIsi_d, p_app, p_get, rLst_l, rDic_d, p_up, p_spl, p_jn, p_wg, m_app, rApp_l, m_get, m_get2, rGet_d, m_up, m_spl, m_jn, m_wg, s_set, rSet_l, rSet_d, ixN0, ixN1, w_tup, w_rol, w_scr, w_str, w_ref, rWlk_l, j0, jS, Bool.true_and, entry, List.map_cons, List.map_nil, List.length_cons, List.length_nil, Nat.zero_add, List.replicate_succ, List.replicate_zero, List.cons_append, List.nil_append, Nat.reduceAdd, Nat.reduceSub, List.set_cons_zero, List.set_cons_succ, need_some, need_none, ups_same, ups_ups2, List.zip_cons_cons, List.zip_nil_left, List.foldl_cons, List.foldl_nil]
    refine ⟨by decide, g.at u' v', ?_, q _ _ _ (.make (srt_ok w hw).1 (by rw [lx]; exact hl) (by omega) gx)⟩
    rw [e2]
    refine Le.up ?_
    show g.at u' v' r2' = none
    have z : g.at u' v' r2' = g.h r2' := ups_ne (Ne.symm na)
    rw [z]; exact nr2
theorem tail_ok {deep : Int} {way : Int} {many : Nat} {t : Nat} (A : ∀ j, n ≤ j → AnyOk p j (deep - 1) t) (n4 : 4 ≤ n) (w0 : 2 ≤ way) (w1 : way < 10) (hm : many ≤ 9) (q : ∀ (d : D) (u' v' : Int), Xp (t + 2) d → Q d (g.at u' v')) :
    wSs (p.env (semF p (n + 1))) any_tail [some (.ref g.a), some (.int deep), some (.int way), some (.int many), none, none, none, none, none] (g.at u v) { nx := fun _ h' => wk h' (Q .non), rt := fun d h' => wk h' (Q d), bk := fun _ _ => False, ct := fun _ _ => False } (fun x _ h' => wk h' (E x)) := by
  have hL : LINE = 16777216 := rfl
  obtain ⟨n, rfl⟩ : ∃ n', n = n' + 1 := ⟨n - 1, by omega⟩
  simp only [any_tail, wSs, wS, wE, wL, wT, wB, wBT, wC, wO, wD, wI, bnd_nm, Tq.wipe, entry, List.map_cons, List.map_nil, List.length_cons, List.length_nil, Nat.zero_add, List.replicate_succ, List.replicate_zero, List.cons_append, List.nil_append, Nat.reduceAdd, Nat.reduceSub, List.set_cons_zero, List.set_cons_succ, need_some, need_none, ups_same, ups_ups2, List.zip_cons_cons, List.zip_nil_left, List.foldl_cons, List.foldl_nil, bnd_nm, bnd_tp, bnd_rl, b_ai, b_as, b_at, b_rr, b_rf, b_fr, b_ff, b_mr, b_si, b_mi, b_ms, b_mt, b_fd, b_md, b_pw, v_fn, v_wd, v_gl, c_lt, c_le, c_gt, c_ge, c_eq, c_ne, c_is, c_isn, c_in, c_nin, f_non, f_bl, f_int, f_str, e_ii, e_ss, e_bb, i_non, n_non, n_int, n_str, n_tup, n_ref, n_rol, n_bl, in_ref, rIn_l, rIn_d, in_tup, in_rol, in_str, in_glo, ky_i, ky_s, t_non, t_bl, t_int, t_str, t_tup, t_rol, t_ref, rTru_l, rTru_d, ix_tup, ix_rol, ix_scr, ix_str, ix_ref, rIx_l, rIx_d, rIx_r, ix_glo, at0, at1, at2, sl_str, sl_tup, sl_rol, sl_scr, sl_ref, rSl_l, bl_len, l_str, l_tup, l_rol, l_scr, l_ref, rLen_l, rLen_d, bl_max, bl_min, bl_ii, bl_ib, bl_is, bl_st, bl_tup, bl_lst, bl_all, bl_any, bl_sum, bl_srt, rSort_d, s_ref, s_tup, s_rol, s_scr, ls_ref, ls_rol, rSeq_l, isi_non, isi_bl, isi_int, isi_str, isi_tup, isi_rol, isi_ref, rIsi_l, rIsi_d, p_app, p_get, rLst_l, rDic_d, p_up, p_spl, p_jn, p_wg, m_app, rApp_l, m_get, m_get2, rGet_d, m_up, m_spl, m_jn, m_wg, s_set, rSet_l, rSet_d, ixN0, ixN1, w_tup, w_rol, w_scr, w_str, w_ref, rWlk_l, j0, jS, Bool.true_and]
  by_cases c1 : way < 4
  · rw [if_pos (decide_eq_true c1)]
    exact made_ok G (A (n + 1) (Nat.le_refl _)) (by omega) (by omega) (by omega) fun d u' v' x => wk_self (q d u' v' x)
  · rw [if_neg (by simpa using c1)]
    by_cases c2 : way < 6
    · rw [if_pos (decide_eq_true c2)]
      refine deeds_ok G ?_
      refine pick_ok G.pick (by decide) (by decide) fun k u1 v1 b1 b2 => ?_
      obtain ⟨d, m1, m2⟩ := atI_nat b1 (l := deedL) (by rw [deedL_len]; exact b2)
      obtain ⟨w, c, rfl, hw, hc, wl⟩ : ∃ (w : List Nat) (c : Nat), d = .tup [.str w, .int c] ∧ numOf w = some c ∧ c ≤ 3 ∧ w.length ≤ 100 := deed_at (List.mem_of_getElem? m1)
      simp only [bnd_nm, bnd_tp, bnd_rl, b_ai, b_as, b_at, b_rr, b_rf, b_fr, b_ff, b_mr, b_si, b_mi, b_ms, b_mt, b_fd, b_md, b_pw, v_fn, v_wd, v_gl, c_lt, c_le, c_gt, c_ge, c_eq, c_ne, c_is, c_isn, c_in, c_nin, f_non, f_bl, f_int, f_str, e_ii, e_ss, e_bb, i_non, n_non, n_int, n_str, n_tup, n_ref, n_rol, n_bl, in_ref, rIn_l, rIn_d, in_tup, in_rol, in_str, in_glo, ky_i, ky_s, t_non, t_bl, t_int, t_str, t_tup, t_rol, t_ref, rTru_l, rTru_d, ix_tup, ix_rol, ix_scr, ix_str, ix_ref, rIx_l, rIx_d, rIx_r, ix_glo, at0, at1, at2, sl_str, sl_tup, sl_rol, sl_scr, sl_ref, rSl_l, bl_len, l_str, l_tup, l_rol, l_scr, l_ref, rLen_l, rLen_d, bl_max, bl_min, bl_ii, bl_ib, bl_is, bl_st, bl_tup, bl_lst, bl_all, bl_any, bl_sum, bl_srt, rSort_d, s_ref, s_tup, s_rol, s_scr, ls_ref, ls_rol, rSeq_l, isi_non, isi_bl, isi_int, isi_str, isi_tup, isi_rol, isi_ref, rIsi_l, rIsi_d, p_app, p_get, rLst_l, rDic_d, p_up, p_spl, p_jn, p_wg, m_app, rApp_l, m_get, m_get2, rGet_d, m_up, m_spl, m_jn, m_wg, s_set, rSet_l, rSet_d, ixN0, ixN1, w_tup, w_rol, w_scr, w_str, w_ref, rWlk_l, j0, jS, Bool.true_and, entry, List.map_cons, List.map_nil, List.length_cons, List.length_nil, Nat.zero_add, List.replicate_succ, List.replicate_zero, List.cons_append, List.nil_append, Nat.reduceAdd, Nat.reduceSub, List.set_cons_zero, List.set_cons_succ, need_some, need_none, ups_same, ups_ups2, List.zip_cons_cons, List.zip_nil_left, List.foldl_cons, List.foldl_nil, m2]
      refine ⟨trivial, by omega, by omega, ?_⟩
      rw [show ((c : Int)).toNat = c from Int.toNat_natCast c]
      refine many_ok (t := t) (g := g) (by omega) (fun _ => trivial) ?_ ?_
      · intro d u v kv kn' hk
        try simp only [entry, List.map_cons, List.map_nil, List.length_cons, List.length_nil, Nat.zero_add, List.replicate_succ, List.replicate_zero, List.cons_append, List.nil_append, Nat.reduceAdd, Nat.reduceSub, List.set_cons_zero, List.set_cons_succ, need_some, need_none, ups_same, ups_ups2, List.zip_cons_cons, List.zip_nil_left, List.foldl_cons, List.foldl_nil, bnd_nm, bnd_tp, bnd_rl, b_ai, b_as, b_at, b_rr, b_rf, b_fr, b_ff, b_mr, b_si, b_mi, b_ms, b_mt, b_fd, b_md, b_pw, v_fn, v_wd, v_gl, c_lt, c_le, c_gt, c_ge, c_eq, c_ne, c_is, c_isn, c_in, c_nin, f_non, f_bl, f_int, f_str, e_ii, e_ss, e_bb, i_non, n_non, n_int, n_str, n_tup, n_ref, n_rol, n_bl, in_ref, rIn_l, rIn_d, in_tup, in_rol, in_str, in_glo, ky_i, ky_s, t_non, t_bl, t_int, t_str, t_tup, t_rol, t_ref, rTru_l, rTru_d, ix_tup, ix_rol, ix_scr, ix_str, ix_ref, rIx_l, rIx_d, rIx_r, ix_glo, at0, at1, at2, sl_str, sl_tup, sl_rol, sl_scr, sl_ref, rSl_l, bl_len, l_str, l_tup, l_rol, l_scr, l_ref, rLen_l, rLen_d, bl_max, bl_min, bl_ii, bl_ib, bl_is, bl_st, bl_tup, bl_lst, bl_all, bl_any, bl_sum, bl_srt, rSort_d, s_ref, s_tup, s_rol, s_scr, ls_ref, ls_rol, rSeq_l, isi_non, isi_bl, isi_int, isi_str, isi_tup, isi_rol, isi_ref, rIsi_l, rIsi_d, p_app, p_get, rLst_l, rDic_d, p_up, p_spl, p_jn, p_wg, m_app, rApp_l, m_get, m_get2, rGet_d, m_up, m_spl, m_jn, m_wg, s_set, rSet_l, rSet_d, ixN0, ixN1, w_tup, w_rol, w_scr, w_str, w_ref, rWlk_l, j0, jS, Bool.true_and, Bool.not_true, Bool.not_false, Bool.false_eq_true, Bool.true_eq_false, eq_self, if_true, if_false, Bool.true_and, Bool.and_true, Bool.false_and, Bool.and_false, reduceIte]
        exact A _ (by omega) g u v _ _ hk
      · intro xs u' v' gx lx
        try simp only [bnd_nm, bnd_tp, bnd_rl, b_ai, b_as, b_at, b_rr, b_rf, b_fr, b_ff, b_mr, b_si, b_mi, b_ms, b_mt, b_fd, b_md, b_pw, v_fn, v_wd, v_gl, c_lt, c_le, c_gt, c_ge, c_eq, c_ne, c_is, c_isn, c_in, c_nin, f_non, f_bl, f_int, f_str, e_ii, e_ss, e_bb, i_non, n_non, n_int, n_str, n_tup, n_ref, n_rol, n_bl, in_ref, rIn_l, rIn_d, in_tup, in_rol, in_str, in_glo, ky_i, ky_s, t_non, t_bl, t_int, t_str, t_tup, t_rol, t_ref, rTru_l, rTru_d, ix_tup, ix_rol, ix_scr, ix_str, ix_ref, rIx_l, rIx_d, rIx_r, ix_glo, at0, at1, at2, sl_str, sl_tup, sl_rol, sl_scr, sl_ref, rSl_l, bl_len, l_str, l_tup, l_rol, l_scr, l_ref, rLen_l, rLen_d, bl_max, bl_min, bl_ii, bl_ib, bl_is, bl_st, bl_tup, bl_lst, bl_all, bl_any, bl_sum, bl_srt, rSort_d, s_ref, s_tup, s_rol, s_scr, ls_ref, ls_rol, rSeq_l, isi_non, isi_bl, isi_int, isi_str, isi_tup, isi_rol, isi_ref, rIsi_l, rIsi_d, p_app, p_get, rLst_l, rDic_d, p_up, p_spl, p_jn, p_wg, m_app, rApp_l, m_get, m_get2, rGet_d, m_up, m_spl, m_jn, m_wg, s_set, rSet_l, rSet_d, ixN0, ixN1, w_tup, w_rol, w_scr, w_str, w_ref, rWlk_l, j0, jS, Bool.true_and, entry, List.map_cons, List.map_nil, List.length_cons, List.length_nil, Nat.zero_add, List.replicate_succ, List.replicate_zero, List.cons_append, List.nil_append, Nat.reduceAdd, Nat.reduceSub, List.set_cons_zero, List.set_cons_succ, need_some, need_none, ups_same, ups_ups2, List.zip_cons_cons, List.zip_nil_left, List.foldl_cons, List.foldl_nil]
        exact ⟨by decide, wk_self (q _ _ _ (.do_ (by rw [lx]; exact hw) (by omega) gx))⟩
    · rw [if_neg (by simpa using c2)]
      simp only [d_fl f_int f_int, e_ii]
      by_cases c3 : way = 6
      · subst c3
        simp only [beq_self_eq_true, Bool.not_true, Bool.not_false, Bool.false_eq_true, Bool.true_eq_false, eq_self, if_true, if_false, Bool.true_and, Bool.and_true, Bool.false_and, Bool.and_false, reduceIte]
        refine free_ok' (n := n) G.free G.pick fun w u1 v1 w1 wl => ?_
        refine ⟨by omega, by omega, ?_⟩
        rw [show ((many : Int)).toNat = many from Int.toNat_natCast many]
        refine many_ok (t := t) (g := g) (by omega) (fun _ => trivial) ?_ ?_
        · intro d u v kv kn' hk
          try simp only [Bool.not_true, Bool.not_false, Bool.false_eq_true, Bool.true_eq_false, eq_self, if_true, if_false, Bool.true_and, Bool.and_true, Bool.false_and, Bool.and_false, reduceIte]
          exact A _ (by omega) g u v _ _ hk
        · intro xs u' v' gx lx
          try simp only [bnd_nm, bnd_tp, bnd_rl, b_ai, b_as, b_at, b_rr, b_rf, b_fr, b_ff, b_mr, b_si, b_mi, b_ms, b_mt, b_fd, b_md, b_pw, v_fn, v_wd, v_gl, c_lt, c_le, c_gt, c_ge, c_eq, c_ne, c_is, c_isn, c_in, c_nin, f_non, f_bl, f_int, f_str, e_ii, e_ss, e_bb, i_non, n_non, n_int, n_str, n_tup, n_ref, n_rol, n_bl, in_ref, rIn_l, rIn_d, in_tup, in_rol, in_str, in_glo, ky_i, ky_s, t_non, t_bl, t_int, t_str, t_tup, t_rol, t_ref, rTru_l, rTru_d, ix_tup, ix_rol, ix_scr, ix_str, ix_ref, rIx_l, rIx_d, rIx_r, ix_glo, at0, at1, at2, sl_str, sl_tup, sl_rol, sl_scr, sl_ref, rSl_l, bl_len, l_str, l_tup, l_rol, l_scr, l_ref, rLen_l, rLen_d, bl_max, bl_min, bl_ii, bl_ib, bl_is, bl_st, bl_tup, bl_lst, bl_all, bl_any, bl_sum, bl_srt, rSort_d, s_ref, s_tup, s_rol, s_scr, ls_ref, ls_rol, rSeq_l, isi_non, isi_bl, isi_int, isi_str, isi_tup, isi_rol, isi_ref, rIsi_l, rIsi_d, p_app, p_get, rLst_l, rDic_d, p_up, p_spl, p_jn, p_wg, m_app, rApp_l, m_get, m_get2, rGet_d, m_up, m_spl, m_jn, m_wg, s_set, rSet_l, rSet_d, ixN0, ixN1, w_tup, w_rol, w_scr, w_str, w_ref, rWlk_l, j0, jS, Bool.true_and, entry, List.map_cons, List.map_nil, List.length_cons, List.length_nil, Nat.zero_add, List.replicate_succ, List.replicate_zero, List.cons_append, List.nil_append, Nat.reduceAdd, Nat.reduceSub, List.set_cons_zero, List.set_cons_succ, need_some, need_none, ups_same, ups_ups2, List.zip_cons_cons, List.zip_nil_left, List.foldl_cons, List.foldl_nil]
          exact ⟨by decide, wk_self (q _ _ _ (.call w1 (by omega) gx))⟩
      · have e2 : (way == 6) = false := by simpa using c3
        simp only [e2, Bool.not_true, Bool.not_false, Bool.false_eq_true, Bool.true_eq_false, eq_self, if_true, if_false, Bool.true_and, Bool.and_true, Bool.false_and, Bool.and_false, reduceIte]
        refine ⟨by decide, by decide, ?_⟩
        refine many_ok (m := 3) (t := t) (g := g) (by omega) (fun _ => trivial) ?_ ?_
        · intro d u v kv kn' hk
          try simp only [Bool.not_true, Bool.not_false, Bool.false_eq_true, Bool.true_eq_false, eq_self, if_true, if_false, Bool.true_and, Bool.and_true, Bool.false_and, Bool.and_false, reduceIte]
          exact A _ (by omega) g u v _ _ hk
        · intro xs u' v' gx lx
          obtain ⟨x, y, z, rfl⟩ : ∃ x y z, xs = [x, y, z] := by
            match xs, lx with
            | [x, y, z], _ => exact ⟨x, y, z, rfl⟩
          have gx1 := gx x (by simp)
          have gx2 := gx y (by simp)
          have gx3 := gx z (by simp)
          by_cases c4 : way = 7
          · subst c4
            simp only [beq_self_eq_true, Bool.not_true, Bool.not_false, Bool.false_eq_true, Bool.true_eq_false, eq_self, if_true, if_false, Bool.true_and, Bool.and_true, Bool.false_and, Bool.and_false, reduceIte, bnd_nm, bnd_tp, bnd_rl, b_ai, b_as, b_at, b_rr, b_rf, b_fr, b_ff, b_mr, b_si, b_mi, b_ms, b_mt, b_fd, b_md, b_pw, v_fn, v_wd, v_gl, c_lt, c_le, c_gt, c_ge, c_eq, c_ne, c_is, c_isn, c_in, c_nin, f_non, f_bl, f_int, f_str, e_ii, e_ss, e_bb, i_non, n_non, n_int, n_str, n_tup, n_ref, n_rol, n_bl, in_ref, rIn_l, rIn_d, in_tup, in_rol, in_str, in_glo, ky_i, ky_s, t_non, t_bl, t_int, t_str, t_tup, t_rol, t_ref, rTru_l, rTru_d, ix_tup, ix_rol, ix_scr, ix_str, ix_ref, rIx_l, rIx_d, rIx_r, ix_glo, at0, at1, at2, sl_str, sl_tup, sl_rol, sl_scr, sl_ref, rSl_l, bl_len, l_str, l_tup, l_rol, l_scr, l_ref, rLen_l, rLen_d, bl_max, bl_min, bl_ii, bl_ib, bl_is, bl_st, bl_tup, bl_lst, bl_all, bl_any, bl_sum, bl_srt, rSort_d, s_ref, s_tup, s_rol, s_scr, ls_ref, ls_rol, rSeq_l, isi_non, isi_bl, isi_int, isi_str, isi_tup, isi_rol, isi_ref, rIsi_l, rIsi_d, p_app, p_get, rLst_l, rDic_d, p_up, p_spl, p_jn, p_wg, m_app, rApp_l, m_get, m_get2, rGet_d, m_up, m_spl, m_jn, m_wg, s_set, rSet_l, rSet_d, ixN0, ixN1, w_tup, w_rol, w_scr, w_str, w_ref, rWlk_l, j0, jS, Bool.true_and, entry, List.map_cons, List.map_nil, List.length_cons, List.length_nil, Nat.zero_add, List.replicate_succ, List.replicate_zero, List.cons_append, List.nil_append, Nat.reduceAdd, Nat.reduceSub, List.set_cons_zero, List.set_cons_succ, need_some, need_none, ups_same, ups_ups2, List.zip_cons_cons, List.zip_nil_left, List.foldl_cons, List.foldl_nil]
            exact ⟨by decide, wk_self (q _ _ _ (Xp.mono (.if_ gx1 gx2 gx3) (by omega)))⟩
          · have e3 : (way == 7) = false := by simpa using c4
            simp only [e3, Bool.not_true, Bool.not_false, Bool.false_eq_true, Bool.true_eq_false, eq_self, if_true, if_false, Bool.true_and, Bool.and_true, Bool.false_and, Bool.and_false, reduceIte, d_fl f_int f_int, e_ii]
            by_cases c5 : way = 8
            · subst c5
              simp only [beq_self_eq_true, Bool.not_true, Bool.not_false, Bool.false_eq_true, Bool.true_eq_false, eq_self, if_true, if_false, Bool.true_and, Bool.and_true, Bool.false_and, Bool.and_false, reduceIte]
              refine free_ok' (n := n) G.free G.pick fun w u1 v1 w1 wl => ?_
              simp only [bnd_nm, bnd_tp, bnd_rl, b_ai, b_as, b_at, b_rr, b_rf, b_fr, b_ff, b_mr, b_si, b_mi, b_ms, b_mt, b_fd, b_md, b_pw, v_fn, v_wd, v_gl, c_lt, c_le, c_gt, c_ge, c_eq, c_ne, c_is, c_isn, c_in, c_nin, f_non, f_bl, f_int, f_str, e_ii, e_ss, e_bb, i_non, n_non, n_int, n_str, n_tup, n_ref, n_rol, n_bl, in_ref, rIn_l, rIn_d, in_tup, in_rol, in_str, in_glo, ky_i, ky_s, t_non, t_bl, t_int, t_str, t_tup, t_rol, t_ref, rTru_l, rTru_d, ix_tup, ix_rol, ix_scr, ix_str, ix_ref, rIx_l, rIx_d, rIx_r, ix_glo, at0, at1, at2, sl_str, sl_tup, sl_rol, sl_scr, sl_ref, rSl_l, bl_len, l_str, l_tup, l_rol, l_scr, l_ref, rLen_l, rLen_d, bl_max, bl_min, bl_ii, bl_ib, bl_is, bl_st, bl_tup, bl_lst, bl_all, bl_any, bl_sum, bl_srt, rSort_d, s_ref, s_tup, s_rol, s_scr, ls_ref, ls_rol, rSeq_l, isi_non, isi_bl, isi_int, isi_str, isi_tup, isi_rol, isi_ref, rIsi_l, rIsi_d, p_app, p_get, rLst_l, rDic_d, p_up, p_spl, p_jn, p_wg, m_app, rApp_l, m_get, m_get2, rGet_d, m_up, m_spl, m_jn, m_wg, s_set, rSet_l, rSet_d, ixN0, ixN1, w_tup, w_rol, w_scr, w_str, w_ref, rWlk_l, j0, jS, Bool.true_and, entry, List.map_cons, List.map_nil, List.length_cons, List.length_nil, Nat.zero_add, List.replicate_succ, List.replicate_zero, List.cons_append, List.nil_append, Nat.reduceAdd, Nat.reduceSub, List.set_cons_zero, List.set_cons_succ, need_some, need_none, ups_same, ups_ups2, List.zip_cons_cons, List.zip_nil_left, List.foldl_cons, List.foldl_nil]
              exact ⟨by decide, wk_self (q _ _ _ (Xp.mono (.let_ w1 gx1 gx2) (by omega)))⟩
            · have e4 : (way == 8) = false := by simpa using c5
              simp only [e4, Bool.not_true, Bool.not_false, Bool.false_eq_true, Bool.true_eq_false, eq_self, if_true, if_false, Bool.true_and, Bool.and_true, Bool.false_and, Bool.and_false, reduceIte]
              refine free_ok' (n := n) G.free G.pick fun w u1 v1 w1 wl => ?_
              refine free_ok' (n := n) G.free G.pick fun w' u2 v2 w2 wl2 => ?_
              simp only [d_fl f_str f_str, e_ss]
              by_cases c6 : w = w'
              · subst c6
                simp only [beq_self_eq_true, Bool.not_true, Bool.not_false, Bool.false_eq_true, Bool.true_eq_false, eq_self, if_true, if_false, Bool.true_and, Bool.and_true, Bool.false_and, Bool.and_false, reduceIte, bnd_nm, bnd_tp, bnd_rl, b_ai, b_as, b_at, b_rr, b_rf, b_fr, b_ff, b_mr, b_si, b_mi, b_ms, b_mt, b_fd, b_md, b_pw, v_fn, v_wd, v_gl, c_lt, c_le, c_gt, c_ge, c_eq, c_ne, c_is, c_isn, c_in, c_nin, f_non, f_bl, f_int, f_str, e_ii, e_ss, e_bb, i_non, n_non, n_int, n_str, n_tup, n_ref, n_rol, n_bl, in_ref, rIn_l, rIn_d, in_tup, in_rol, in_str, in_glo, ky_i, ky_s, t_non, t_bl, t_int, t_str, t_tup, t_rol, t_ref, rTru_l, rTru_d, ix_tup, ix_rol, ix_scr, ix_str, ix_ref, rIx_l, rIx_d, rIx_r, ix_glo, at0, at1, at2, sl_str, sl_tup, sl_rol, sl_scr, sl_ref, rSl_l, bl_len, l_str, l_tup, l_rol, l_scr, l_ref, rLen_l, rLen_d, bl_max, bl_min, bl_ii, bl_ib, bl_is, bl_st, bl_tup, bl_lst, bl_all, bl_any, bl_sum, bl_srt, rSort_d, s_ref, s_tup, s_rol, s_scr, ls_ref, ls_rol, rSeq_l, isi_non, isi_bl, isi_int, isi_str, isi_tup, isi_rol, isi_ref, rIsi_l, rIsi_d, p_app, p_get, rLst_l, rDic_d, p_up, p_spl, p_jn, p_wg, m_app, rApp_l, m_get, m_get2, rGet_d, m_up, m_spl, m_jn, m_wg, s_set, rSet_l, rSet_d, ixN0, ixN1, w_tup, w_rol, w_scr, w_str, w_ref, rWlk_l, j0, jS, Bool.true_and, entry, List.map_cons, List.map_nil, List.length_cons, List.length_nil, Nat.zero_add, List.replicate_succ, List.replicate_zero, List.cons_append, List.nil_append, Nat.reduceAdd, Nat.reduceSub, List.set_cons_zero, List.set_cons_succ, need_some, need_none, ups_same, ups_ups2, List.zip_cons_cons, List.zip_nil_left, List.foldl_cons, List.foldl_nil]
                exact ⟨by decide, wk_self (q _ _ _ (Xp.mono (.fold w1 other_ok wl.2 gx1 gx2 gx3) (by omega)))⟩
              · have e6 : (w == w') = false := by simpa using c6
                simp only [e6, Bool.not_true, Bool.not_false, Bool.false_eq_true, Bool.true_eq_false, eq_self, if_true, if_false, Bool.true_and, Bool.and_true, Bool.false_and, Bool.and_false, reduceIte, bnd_nm, bnd_tp, bnd_rl, b_ai, b_as, b_at, b_rr, b_rf, b_fr, b_ff, b_mr, b_si, b_mi, b_ms, b_mt, b_fd, b_md, b_pw, v_fn, v_wd, v_gl, c_lt, c_le, c_gt, c_ge, c_eq, c_ne, c_is, c_isn, c_in, c_nin, f_non, f_bl, f_int, f_str, e_ii, e_ss, e_bb, i_non, n_non, n_int, n_str, n_tup, n_ref, n_rol, n_bl, in_ref, rIn_l, rIn_d, in_tup, in_rol, in_str, in_glo, ky_i, ky_s, t_non, t_bl, t_int, t_str, t_tup, t_rol, t_ref, rTru_l, rTru_d, ix_tup, ix_rol, ix_scr, ix_str, ix_ref, rIx_l, rIx_d, rIx_r, ix_glo, at0, at1, at2, sl_str, sl_tup, sl_rol, sl_scr, sl_ref, rSl_l, bl_len, l_str, l_tup, l_rol, l_scr, l_ref, rLen_l, rLen_d, bl_max, bl_min, bl_ii, bl_ib, bl_is, bl_st, bl_tup, bl_lst, bl_all, bl_any, bl_sum, bl_srt, rSort_d, s_ref, s_tup, s_rol, s_scr, ls_ref, ls_rol, rSeq_l, isi_non, isi_bl, isi_int, isi_str, isi_tup, isi_rol, isi_ref, rIsi_l, rIsi_d, p_app, p_get, rLst_l, rDic_d, p_up, p_spl, p_jn, p_wg, m_app, rApp_l, m_get, m_get2, rGet_d, m_up, m_spl, m_jn, m_wg, s_set, rSet_l, rSet_d, ixN0, ixN1, w_tup, w_rol, w_scr, w_str, w_ref, rWlk_l, j0, jS, Bool.true_and, entry, List.map_cons, List.map_nil, List.length_cons, List.length_nil, Nat.zero_add, List.replicate_succ, List.replicate_zero, List.cons_append, List.nil_append, Nat.reduceAdd, Nat.reduceSub, List.set_cons_zero, List.set_cons_succ, need_some, need_none, ups_same, ups_ups2, List.zip_cons_cons, List.zip_nil_left, List.foldl_cons, List.foldl_nil]
                exact ⟨by decide, wk_self (q _ _ _ (Xp.mono (.fold w1 w2 c6 gx1 gx2 gx3) (by omega)))⟩
theorem leaf_ok {t : Nat} (t1 : 1 ≤ t) {K : KQ} {Ex' : EQ} {σ : Sl} (h0 : (σ[0]?).join = some (.ref g.a)) (q : ∀ (d : D) (u' v' : Int), Xp t d → K d (g.at u' v')) :
    wE (p.env (semF p (n + 4))) (.ix (.lstR (.cons (.call "_law_said" (.cons (.slot 0) .nil)) (.cons (.tup (.cons (.kstr [116, 104, 101]) (.cons (.call "_law_free" (.cons (.slot 0) .nil)) .nil))) .nil))) (.call "_law_pick" (.cons (.slot 0) (.cons (.kint 2) .nil)))) σ (g.at u v) K Ex' := by
  simp only [wSs, wS, wE, wL, wT, wB, wBT, wC, wO, wD, wI, bnd_nm, Tq.wipe, entry, List.map_cons, List.map_nil, List.length_cons, List.length_nil, Nat.zero_add, List.replicate_succ, List.replicate_zero, List.cons_append, List.nil_append, Nat.reduceAdd, Nat.reduceSub, List.set_cons_zero, List.set_cons_succ, need_some, need_none, ups_same, ups_ups2, List.zip_cons_cons, List.zip_nil_left, List.foldl_cons, List.foldl_nil, bnd_nm, bnd_tp, bnd_rl, b_ai, b_as, b_at, b_rr, b_rf, b_fr, b_ff, b_mr, b_si, b_mi, b_ms, b_mt, b_fd, b_md, b_pw, v_fn, v_wd, v_gl, c_lt, c_le, c_gt, c_ge, c_eq, c_ne, c_is, c_isn, c_in, c_nin, f_non, f_bl, f_int, f_str, e_ii, e_ss, e_bb, i_non, n_non, n_int, n_str, n_tup, n_ref, n_rol, n_bl, in_ref, rIn_l, rIn_d, in_tup, in_rol, in_str, in_glo, ky_i, ky_s, t_non, t_bl, t_int, t_str, t_tup, t_rol, t_ref, rTru_l, rTru_d, ix_tup, ix_rol, ix_scr, ix_str, ix_ref, rIx_l, rIx_d, rIx_r, ix_glo, at0, at1, at2, sl_str, sl_tup, sl_rol, sl_scr, sl_ref, rSl_l, bl_len, l_str, l_tup, l_rol, l_scr, l_ref, rLen_l, rLen_d, bl_max, bl_min, bl_ii, bl_ib, bl_is, bl_st, bl_tup, bl_lst, bl_all, bl_any, bl_sum, bl_srt, rSort_d, s_ref, s_tup, s_rol, s_scr, ls_ref, ls_rol, rSeq_l, isi_non, isi_bl, isi_int, isi_str, isi_tup, isi_rol, isi_ref, rIsi_l, rIsi_d, p_app, p_get, rLst_l, rDic_d, p_up, p_spl, p_jn, p_wg, m_app, rApp_l, m_get, m_get2, rGet_d, m_up, m_spl, m_jn, m_wg, s_set, rSet_l, rSet_d, ixN0, ixN1, w_tup, w_rol, w_scr, w_str, w_ref, rWlk_l, j0, jS, Bool.true_and, h0]
  refine said_ok (n := n + 1) G fun d u2 v2 g1 => ?_
  refine free_ok' (n := n + 2) G.free G.pick fun w u3 v3 w1 wl => ?_
  refine ⟨by decide, by decide, ?_⟩
  refine pick_ok (n := n + 3) G.pick (by decide) (by decide) fun k5 u5 v5 b5 b6 => ?_
  simp only [bnd_nm, bnd_tp, bnd_rl, b_ai, b_as, b_at, b_rr, b_rf, b_fr, b_ff, b_mr, b_si, b_mi, b_ms, b_mt, b_fd, b_md, b_pw, v_fn, v_wd, v_gl, c_lt, c_le, c_gt, c_ge, c_eq, c_ne, c_is, c_isn, c_in, c_nin, f_non, f_bl, f_int, f_str, e_ii, e_ss, e_bb, i_non, n_non, n_int, n_str, n_tup, n_ref, n_rol, n_bl, in_ref, rIn_l, rIn_d, in_tup, in_rol, in_str, in_glo, ky_i, ky_s, t_non, t_bl, t_int, t_str, t_tup, t_rol, t_ref, rTru_l, rTru_d, ix_tup, ix_rol, ix_scr, ix_str, ix_ref, rIx_l, rIx_d, rIx_r, ix_glo, at0, at1, at2, sl_str, sl_tup, sl_rol, sl_scr, sl_ref, rSl_l, bl_len, l_str, l_tup, l_rol, l_scr, l_ref, rLen_l, rLen_d, bl_max, bl_min, bl_ii, bl_ib, bl_is, bl_st, bl_tup, bl_lst, bl_all, bl_any, bl_sum, bl_srt, rSort_d, s_ref, s_tup, s_rol, s_scr, ls_ref, ls_rol, rSeq_l, isi_non, isi_bl, isi_int, isi_str, isi_tup, isi_rol, isi_ref, rIsi_l, rIsi_d, p_app, p_get, rLst_l, rDic_d, p_up, p_spl, p_jn, p_wg, m_app, rApp_l, m_get, m_get2, rGet_d, m_up, m_spl, m_jn, m_wg, s_set, rSet_l, rSet_d, ixN0, ixN1, w_tup, w_rol, w_scr, w_str, w_ref, rWlk_l, j0, jS, Bool.true_and, entry, List.map_cons, List.map_nil, List.length_cons, List.length_nil, Nat.zero_add, List.replicate_succ, List.replicate_zero, List.cons_append, List.nil_append, Nat.reduceAdd, Nat.reduceSub, List.set_cons_zero, List.set_cons_succ, need_some, need_none, ups_same, ups_ups2, List.zip_cons_cons, List.zip_nil_left, List.foldl_cons, List.foldl_nil]
  obtain ⟨x, m1, m2⟩ := atI_nat b5 (l := [d, .tup [.str wThe, .str w]]) b6
  have gx : Xp 1 x := by
    have z := List.mem_of_getElem? m1
    simp only [List.mem_cons, List.not_mem_nil, or_false] at z
    rcases z with rfl | rfl
    · exact g1
    · exact .the w1
  unfold wThe at m2
  rw [m2]
  exact q x _ _ (gx.mono t1)
theorem any_step {D0 : Nat} {deep : Int} (hd : deep ≤ D0) (A : 0 < D0 → ∀ j, 2 * D0 + 4 ≤ j → ∀ dp : Int, dp ≤ D0 → AnyOk p j (dp - 1) (2 * D0 - 1)) (hn : 2 * D0 + 5 ≤ n) : AnyOk p (n + 1) deep (2 * D0 + 1) := by
  intro g u v Q E q
  have hL : LINE = 16777216 := rfl
  obtain ⟨n, rfl⟩ : ∃ n', n = n' + 4 := ⟨n - 4, by omega⟩
  refine enter G.any ⟨rfl, ?_⟩
  rw [any_parts]
  have leaf := fun u v (Q' : KQ) (Ex' : EQ) (σ : Sl) (h0 : (σ[0]?).join = some (.ref g.a)) (q : ∀ (d : D) (u' v' : Int), Xp (2 * D0 + 1) d → Q' d (g.at u' v')) => leaf_ok (n := n) (g := g) (u := u) (v := v) G (t := 2 * D0 + 1) (by omega) (K := Q') (Ex' := Ex') (σ := σ) h0 q
  simp only [wSs, wS, wE, wL, wT, wB, wBT, wC, wO, wD, wI, bnd_nm, Tq.wipe, entry, List.map_cons, List.map_nil, List.length_cons, List.length_nil, Nat.zero_add, List.replicate_succ, List.replicate_zero, List.cons_append, List.nil_append, Nat.reduceAdd, Nat.reduceSub, List.set_cons_zero, List.set_cons_succ, need_some, need_none, ups_same, ups_ups2, List.zip_cons_cons, List.zip_nil_left, List.foldl_cons, List.foldl_nil, bnd_nm, bnd_tp, bnd_rl, b_ai, b_as, b_at, b_rr, b_rf, b_fr, b_ff, b_mr, b_si, b_mi, b_ms, b_mt, b_fd, b_md, b_pw, v_fn, v_wd, v_gl, c_lt, c_le, c_gt, c_ge, c_eq, c_ne, c_is, c_isn, c_in, c_nin, f_non, f_bl, f_int, f_str, e_ii, e_ss, e_bb, i_non, n_non, n_int, n_str, n_tup, n_ref, n_rol, n_bl, in_ref, rIn_l, rIn_d, in_tup, in_rol, in_str, in_glo, ky_i, ky_s, t_non, t_bl, t_int, t_str, t_tup, t_rol, t_ref, rTru_l, rTru_d, ix_tup, ix_rol, ix_scr, ix_str, ix_ref, rIx_l, rIx_d, rIx_r, ix_glo, at0, at1, at2, sl_str, sl_tup, sl_rol, sl_scr, sl_ref, rSl_l, bl_len, l_str, l_tup, l_rol, l_scr, l_ref, rLen_l, rLen_d, bl_max, bl_min, bl_ii, bl_ib, bl_is, bl_st, bl_tup, bl_lst, bl_all, bl_any, bl_sum, bl_srt, rSort_d, s_ref, s_tup, s_rol, s_scr, ls_ref, ls_rol, rSeq_l, isi_non, isi_bl, isi_int, isi_str, isi_tup, isi_rol, isi_ref, rIsi_l, rIsi_d, p_app, p_get, rLst_l, rDic_d, p_up, p_spl, p_jn, p_wg, m_app, rApp_l, m_get, m_get2, rGet_d, m_up, m_spl, m_jn, m_wg, s_set, rSet_l, rSet_d, ixN0, ixN1, w_tup, w_rol, w_scr, w_str, w_ref, rWlk_l, j0, jS, Bool.true_and] at leaf
  simp only [any_head, wSs, wS, wE, wL, wT, wB, wBT, wC, wO, wD, wI, bnd_nm, Tq.wipe, entry, List.map_cons, List.map_nil, List.length_cons, List.length_nil, Nat.zero_add, List.replicate_succ, List.replicate_zero, List.cons_append, List.nil_append, Nat.reduceAdd, Nat.reduceSub, List.set_cons_zero, List.set_cons_succ, need_some, need_none, ups_same, ups_ups2, List.zip_cons_cons, List.zip_nil_left, List.foldl_cons, List.foldl_nil, bnd_nm, bnd_tp, bnd_rl, b_ai, b_as, b_at, b_rr, b_rf, b_fr, b_ff, b_mr, b_si, b_mi, b_ms, b_mt, b_fd, b_md, b_pw, v_fn, v_wd, v_gl, c_lt, c_le, c_gt, c_ge, c_eq, c_ne, c_is, c_isn, c_in, c_nin, f_non, f_bl, f_int, f_str, e_ii, e_ss, e_bb, i_non, n_non, n_int, n_str, n_tup, n_ref, n_rol, n_bl, in_ref, rIn_l, rIn_d, in_tup, in_rol, in_str, in_glo, ky_i, ky_s, t_non, t_bl, t_int, t_str, t_tup, t_rol, t_ref, rTru_l, rTru_d, ix_tup, ix_rol, ix_scr, ix_str, ix_ref, rIx_l, rIx_d, rIx_r, ix_glo, at0, at1, at2, sl_str, sl_tup, sl_rol, sl_scr, sl_ref, rSl_l, bl_len, l_str, l_tup, l_rol, l_scr, l_ref, rLen_l, rLen_d, bl_max, bl_min, bl_ii, bl_ib, bl_is, bl_st, bl_tup, bl_lst, bl_all, bl_any, bl_sum, bl_srt, rSort_d, s_ref, s_tup, s_rol, s_scr, ls_ref, ls_rol, rSeq_l, isi_non, isi_bl, isi_int, isi_str, isi_tup, isi_rol, isi_ref, rIsi_l, rIsi_d, p_app, p_get, rLst_l, rDic_d, p_up, p_spl, p_jn, p_wg, m_app, rApp_l, m_get, m_get2, rGet_d, m_up, m_spl, m_jn, m_wg, s_set, rSet_l, rSet_d, ixN0, ixN1, w_tup, w_rol, w_scr, w_str, w_ref, rWlk_l, j0, jS, Bool.true_and, show f_law_any.names.length = 9 from rfl]
  refine pick_ok G.pick (by decide) (by decide) fun way u1 v1 b1 b2 => ?_
  by_cases c1 : deep < 1
  · rw [if_neg (by rw [decide_eq_true c1]; decide), if_pos (decide_eq_true c1)]
    exact leaf u1 v1 (fun d h => wk h (Q d)) (fun x _ h => wk h (E x)) [some (.ref g.a)] rfl fun d u' v' x => wk_self (q d u' v' x)
  · rw [if_pos (by rw [decide_eq_false c1])]
    simp only [bnd_nm, bnd_tp, bnd_rl, b_ai, b_as, b_at, b_rr, b_rf, b_fr, b_ff, b_mr, b_si, b_mi, b_ms, b_mt, b_fd, b_md, b_pw, v_fn, v_wd, v_gl, c_lt, c_le, c_gt, c_ge, c_eq, c_ne, c_is, c_isn, c_in, c_nin, f_non, f_bl, f_int, f_str, e_ii, e_ss, e_bb, i_non, n_non, n_int, n_str, n_tup, n_ref, n_rol, n_bl, in_ref, rIn_l, rIn_d, in_tup, in_rol, in_str, in_glo, ky_i, ky_s, t_non, t_bl, t_int, t_str, t_tup, t_rol, t_ref, rTru_l, rTru_d, ix_tup, ix_rol, ix_scr, ix_str, ix_ref, rIx_l, rIx_d, rIx_r, ix_glo, at0, at1, at2, sl_str, sl_tup, sl_rol, sl_scr, sl_ref, rSl_l, bl_len, l_str, l_tup, l_rol, l_scr, l_ref, rLen_l, rLen_d, bl_max, bl_min, bl_ii, bl_ib, bl_is, bl_st, bl_tup, bl_lst, bl_all, bl_any, bl_sum, bl_srt, rSort_d, s_ref, s_tup, s_rol, s_scr, ls_ref, ls_rol, rSeq_l, isi_non, isi_bl, isi_int, isi_str, isi_tup, isi_rol, isi_ref, rIsi_l, rIsi_d, p_app, p_get, rLst_l, rDic_d, p_up, p_spl, p_jn, p_wg, m_app, rApp_l, m_get, m_get2, rGet_d, m_up, m_spl, m_jn, m_wg, s_set, rSet_l, rSet_d, ixN0, ixN1, w_tup, w_rol, w_scr, w_str, w_ref, rWlk_l, j0, jS, Bool.true_and, entry, List.map_cons, List.map_nil, List.length_cons, List.length_nil, Nat.zero_add, List.replicate_succ, List.replicate_zero, List.cons_append, List.nil_append, Nat.reduceAdd, Nat.reduceSub, List.set_cons_zero, List.set_cons_succ, need_some, need_none, ups_same, ups_ups2, List.zip_cons_cons, List.zip_nil_left, List.foldl_cons, List.foldl_nil]
    by_cases c2 : way < 2
    · rw [if_neg (by rw [decide_eq_true c2]; decide), if_pos (decide_eq_true c2)]
      exact leaf u1 v1 (fun d h => wk h (Q d)) (fun x _ h => wk h (E x)) [some (.ref g.a)] rfl fun d u' v' x => wk_self (q d u' v' x)
    · rw [if_pos (by rw [decide_eq_false c2]), if_neg (by decide)]
      refine ⟨by decide, ?_⟩
      refine pick_ok (n := n + 3) G.pick (by decide) (by decide) fun k3 u3 v3 b3 b4 => ?_
      simp only [bnd_nm, bnd_tp, bnd_rl, b_ai, b_as, b_at, b_rr, b_rf, b_fr, b_ff, b_mr, b_si, b_mi, b_ms, b_mt, b_fd, b_md, b_pw, v_fn, v_wd, v_gl, c_lt, c_le, c_gt, c_ge, c_eq, c_ne, c_is, c_isn, c_in, c_nin, f_non, f_bl, f_int, f_str, e_ii, e_ss, e_bb, i_non, n_non, n_int, n_str, n_tup, n_ref, n_rol, n_bl, in_ref, rIn_l, rIn_d, in_tup, in_rol, in_str, in_glo, ky_i, ky_s, t_non, t_bl, t_int, t_str, t_tup, t_rol, t_ref, rTru_l, rTru_d, ix_tup, ix_rol, ix_scr, ix_str, ix_ref, rIx_l, rIx_d, rIx_r, ix_glo, at0, at1, at2, sl_str, sl_tup, sl_rol, sl_scr, sl_ref, rSl_l, bl_len, l_str, l_tup, l_rol, l_scr, l_ref, rLen_l, rLen_d, bl_max, bl_min, bl_ii, bl_ib, bl_is, bl_st, bl_tup, bl_lst, bl_all, bl_any, bl_sum, bl_srt, rSort_d, s_ref, s_tup, s_rol, s_scr, ls_ref, ls_rol, rSeq_l, isi_non, isi_bl, isi_int, isi_str, isi_tup, isi_rol, isi_ref, rIsi_l, rIsi_d, p_app, p_get, rLst_l, rDic_d, p_up, p_spl, p_jn, p_wg, m_app, rApp_l, m_get, m_get2, rGet_d, m_up, m_spl, m_jn, m_wg, s_set, rSet_l, rSet_d, ixN0, ixN1, w_tup, w_rol, w_scr, w_str, w_ref, rWlk_l, j0, jS, Bool.true_and, entry, List.map_cons, List.map_nil, List.length_cons, List.length_nil, Nat.zero_add, List.replicate_succ, List.replicate_zero, List.cons_append, List.nil_append, Nat.reduceAdd, Nat.reduceSub, List.set_cons_zero, List.set_cons_succ, need_some, need_none, ups_same, ups_ups2, List.zip_cons_cons, List.zip_nil_left, List.foldl_cons, List.foldl_nil]
      obtain ⟨x, m1, m2⟩ := atI_nat b3 (l := [D.int 0, D.int 1, D.int 2, D.int 3, D.int 5, D.int 9]) b4
      obtain ⟨c, rfl, hc⟩ : ∃ c : Nat, x = .int c ∧ c ≤ 9 := by
        have z := List.mem_of_getElem? m1
        simp only [List.mem_cons, List.not_mem_nil, or_false] at z
        rcases z with rfl | rfl | rfl | rfl | rfl | rfl
        · exact ⟨0, rfl, by decide⟩
        · exact ⟨1, rfl, by decide⟩
        · exact ⟨2, rfl, by decide⟩
        · exact ⟨3, rfl, by decide⟩
        · exact ⟨5, rfl, by decide⟩
        · exact ⟨9, rfl, by decide⟩
      simp only [m2, bnd_nm, bnd_tp, bnd_rl, b_ai, b_as, b_at, b_rr, b_rf, b_fr, b_ff, b_mr, b_si, b_mi, b_ms, b_mt, b_fd, b_md, b_pw, v_fn, v_wd, v_gl, c_lt, c_le, c_gt, c_ge, c_eq, c_ne, c_is, c_isn, c_in, c_nin, f_non, f_bl, f_int, f_str, e_ii, e_ss, e_bb, i_non, n_non, n_int, n_str, n_tup, n_ref, n_rol, n_bl, in_ref, rIn_l, rIn_d, in_tup, in_rol, in_str, in_glo, ky_i, ky_s, t_non, t_bl, t_int, t_str, t_tup, t_rol, t_ref, rTru_l, rTru_d, ix_tup, ix_rol, ix_scr, ix_str, ix_ref, rIx_l, rIx_d, rIx_r, ix_glo, at0, at1, at2, sl_str, sl_tup, sl_rol, sl_scr, sl_ref, rSl_l, bl_len, l_str, l_tup, l_rol, l_scr, l_ref, rLen_l, rLen_d, bl_max, bl_min, bl_ii, bl_ib, bl_is, bl_st, bl_tup, bl_lst, bl_all, bl_any, bl_sum, bl_srt, rSort_d, s_ref, s_tup, s_rol, s_scr, ls_ref, ls_rol, rSeq_l, isi_non, isi_bl, isi_int, isi_str, isi_tup, isi_rol, isi_ref, rIsi_l, rIsi_d, p_app, p_get, rLst_l, rDic_d, p_up, p_spl, p_jn, p_wg, m_app, rApp_l, m_get, m_get2, rGet_d, m_up, m_spl, m_jn, m_wg, s_set, rSet_l, rSet_d, ixN0, ixN1, w_tup, w_rol, w_scr, w_str, w_ref, rWlk_l, j0, jS, Bool.true_and, entry, List.map_cons, List.map_nil, List.length_cons, List.length_nil, Nat.zero_add, List.replicate_succ, List.replicate_zero, List.cons_append, List.nil_append, Nat.reduceAdd, Nat.reduceSub, List.set_cons_zero, List.set_cons_succ, need_some, need_none, ups_same, ups_ups2, List.zip_cons_cons, List.zip_nil_left, List.foldl_cons, List.foldl_nil]
      have fin : ∀ (d : D) (u' v' : Int), Xp (2 * D0 - 1 + 2) d → Q d (g.at u' v') := fun d u' v' g => q d u' v' (g.mono (by omega))
      by_cases c3 : (3 : Int) < c
      · rw [if_pos (decide_eq_true c3)]
        exact tail_ok G (n := n + 3) (fun j hj => A (by omega) j (by omega) 1 (by omega)) (by omega) (by omega) b2 hc fin
      · rw [if_neg (by simpa using c3)]
        exact tail_ok G (n := n + 3) (fun j hj => A (by omega) j (by omega) deep hd) (by omega) (by omega) b2 hc fin
theorem any_ok : ∀ (D0 : Nat) (deep : Int), deep ≤ D0 → ∀ n, 2 * D0 + 6 ≤ n → AnyOk p n deep (2 * D0 + 1) := by
  intro D0
  induction D0 with
  | zero =>
    intro deep hd n hn
    obtain ⟨n, rfl⟩ : ∃ n', n = n' + 1 := ⟨n - 1, by omega⟩
    exact any_step G hd (fun z => by omega) (by omega)
  | succ D0 ih =>
    intro deep hd n hn
    obtain ⟨n, rfl⟩ : ∃ n', n = n' + 1 := ⟨n - 1, by omega⟩
    exact any_step G hd (fun _ j hj dp hp => ih (dp - 1) (by omega) j (by omega)) (by omega)
end
end LY
namespace K44
open PySem Tq
def f_is_word : Fn := ⟨"is_word", 1, ["thing", "sign"], .cons (.iff (.bop false (.not (.isi (.slot 0) .str)) (.cons (.not (.chn .LtE .LtE (.kint 1) (.blt .len (.cons (.slot 0) .nil)) (.glo "LONGEST"))) .nil)) (.cons (.ret (.kbl false)) .nil) (.nil)) (.cons (.ret (.blt .all (.cons (.compR (.cmp .In (.slot 1) (.glo "SMALL")) (.nm 1) (.of (.slot 0)) (.nil) [("sign", 1)]) .nil))) .nil)⟩
def f_is_free : Fn := ⟨"is_free", 1, ["thing"], .cons (.ret (.bop true (.call "is_word" (.cons (.slot 0) .nil)) (.cons (.cmp .NotIn (.slot 0) (.glo "COUNTS")) (.cons (.cmp .NotIn (.slot 0) (.glo "SPOKEN")) .nil)))) .nil⟩
def f_is_whole : Fn := ⟨"is_whole", 1, ["thing"], .cons (.ret (.bop true (.isi (.slot 0) .int) (.cons (.not (.isi (.slot 0) .bool)) .nil))) .nil⟩
def f_are_expressions : Fn := ⟨"are_expressions", 1, ["thing", "one"], .cons (.ret (.bop true (.isi (.slot 0) .tuple) (.cons (.blt .all (.cons (.compR (.call "is_expression" (.cons (.slot 1) .nil)) (.nm 1) (.of (.slot 0)) (.nil) [("one", 1)]) .nil)) .nil))) .nil⟩
def f_is_make : Fn := ⟨"is_make", 2, ["sort", "parts"], .cons (.iff (.bop false (.not (.isi (.slot 0) .str)) (.cons (.cmp .NotIn (.slot 0) (.glo "SORTS")) (.cons (.not (.call "are_expressions" (.cons (.slot 1) .nil))) .nil))) (.cons (.ret (.kbl false)) .nil) (.nil)) (.cons (.iff (.cmp .Eq (.slot 0) (.kstr [112, 97, 105, 114])) (.cons (.ret (.cmp .Eq (.blt .len (.cons (.slot 1) .nil)) (.kint 2))) .nil) (.nil)) (.cons (.ret (.bop false (.cmp .NotEq (.slot 0) (.kstr [98, 111, 111, 107])) (.cons (.cmp .Eq (.bin .Mod (.blt .len (.cons (.slot 1) .nil)) (.kint 2)) (.kint 0)) .nil))) .nil))⟩
def f_is_do : Fn := ⟨"is_do", 2, ["word", "parts"], .cons (.ret (.bop true (.isi (.slot 0) .str) (.cons (.cmp .In (.slot 0) (.glo "COUNTS")) (.cons (.call "are_expressions" (.cons (.slot 1) .nil)) (.cons (.cmp .Eq (.blt .len (.cons (.slot 1) .nil)) (.ix (.glo "COUNTS") (.slot 0))) .nil))))) .nil⟩
def f_is_fold : Fn := ⟨"is_fold", 3, ["word", "other", "parts"], .cons (.ret (.bop true (.call "is_free" (.cons (.slot 0) .nil)) (.cons (.call "is_free" (.cons (.slot 1) .nil)) (.cons (.cmp .NotEq (.slot 0) (.slot 1)) (.cons (.call "are_expressions" (.cons (.slot 2) .nil)) .nil))))) .nil⟩
def f_is_expression : Fn := ⟨"is_expression", 1, ["thing", "word"], .cons (.iff (.bop false (.not (.isi (.slot 0) .tuple)) (.cons (.cmp .Eq (.blt .len (.cons (.slot 0) .nil)) (.kint 0)) (.cons (.not (.isi (.ix (.slot 0) (.kint 0)) .str)) .nil))) (.cons (.ret (.kbl false)) .nil) (.nil)) (.cons (.iff (.cmp .NotEq (.bm .wget (.glo "SIZES") (.cons (.ix (.slot 0) (.kint 0)) .nil)) (.blt .len (.cons (.slot 0) .nil))) (.cons (.ret (.kbl false)) .nil) (.nil)) (.cons (.set 1 (.ix (.slot 0) (.kint 0))) (.cons (.iff (.cmp .Eq (.slot 1) (.kstr [115, 97, 121])) (.cons (.ret (.bop false (.call "is_word" (.cons (.ix (.slot 0) (.kint 1)) .nil)) (.cons (.call "is_whole" (.cons (.ix (.slot 0) (.kint 1)) .nil)) .nil))) .nil) (.nil)) (.cons (.iff (.cmp .Eq (.slot 1) (.kstr [116, 104, 101])) (.cons (.ret (.call "is_free" (.cons (.ix (.slot 0) (.kint 1)) .nil))) .nil) (.nil)) (.cons (.iff (.cmp .Eq (.slot 1) (.kstr [109, 97, 107, 101])) (.cons (.ret (.call "is_make" (.cons (.ix (.slot 0) (.kint 1)) (.cons (.ix (.slot 0) (.kint 2)) .nil)))) .nil) (.nil)) (.cons (.iff (.cmp .Eq (.slot 1) (.kstr [100, 111])) (.cons (.ret (.call "is_do" (.cons (.ix (.slot 0) (.kint 1)) (.cons (.ix (.slot 0) (.kint 2)) .nil)))) .nil) (.nil)) (.cons (.iff (.cmp .Eq (.slot 1) (.kstr [99, 97, 108, 108])) (.cons (.ret (.bop true (.call "is_free" (.cons (.ix (.slot 0) (.kint 1)) .nil)) (.cons (.call "are_expressions" (.cons (.ix (.slot 0) (.kint 2)) .nil)) .nil))) .nil) (.nil)) (.cons (.iff (.cmp .Eq (.slot 1) (.kstr [105, 102])) (.cons (.ret (.call "are_expressions" (.cons (.sl (.slot 0) (.yes (.kint 1)) .no) .nil))) .nil) (.nil)) (.cons (.iff (.cmp .Eq (.slot 1) (.kstr [108, 101, 116])) (.cons (.ret (.bop true (.call "is_free" (.cons (.ix (.slot 0) (.kint 1)) .nil)) (.cons (.call "are_expressions" (.cons (.sl (.slot 0) (.yes (.kint 2)) .no) .nil)) .nil))) .nil) (.nil)) (.cons (.ret (.call "is_fold" (.cons (.ix (.slot 0) (.kint 1)) (.cons (.ix (.slot 0) (.kint 2)) (.cons (.sl (.slot 0) (.yes (.kint 3)) .no) .nil))))) .nil))))))))))⟩
def f_are_words : Fn := ⟨"are_words", 1, ["thing", "word"], .cons (.iff (.bop false (.not (.isi (.slot 0) .tuple)) (.cons (.cmp .Gt (.blt .len (.cons (.slot 0) .nil)) (.glo "MOST_WORDS")) (.cons (.not (.blt .all (.cons (.compR (.call "is_free" (.cons (.slot 1) .nil)) (.nm 1) (.of (.slot 0)) (.nil) [("word", 1)]) .nil))) .nil))) (.cons (.ret (.kbl false)) .nil) (.nil)) (.cons (.ret (.cmp .Eq (.lset (.slot 0)) (.blt .len (.cons (.slot 0) .nil)))) .nil)⟩
def f_is_function : Fn := ⟨"is_function", 1, ["thing"], .cons (.iff (.bop false (.not (.isi (.slot 0) .tuple)) (.cons (.cmp .NotEq (.blt .len (.cons (.slot 0) .nil)) (.kint 3)) (.cons (.not (.isi (.ix (.slot 0) (.kint 0)) .bool)) .nil))) (.cons (.ret (.kbl false)) .nil) (.nil)) (.cons (.ret (.bop true (.call "are_words" (.cons (.ix (.slot 0) (.kint 1)) .nil)) (.cons (.call "is_expression" (.cons (.ix (.slot 0) (.kint 2)) .nil)) .nil))) .nil)⟩
def f_law_cell_at : Fn := ⟨"_law_cell_at", 2, ["_law_script", "_law_k"], .cons (.iff (.cmp .Lt (.slot 1) (.blt .len (.cons (.slot 0) .nil))) (.cons (.ret (.ix (.slot 0) (.slot 1))) .nil) (.nil)) (.cons (.ret (.kint 0)) .nil)⟩
def f_law_left : Fn := ⟨"_law_left", 2, ["_law_script", "_law_k", "_law_cell", "_law_seed"], .cons (.set 2 (.call "_law_cell_at" (.cons (.slot 0) (.cons (.bin .Mod (.slot 1) (.blt .max (.cons (.kint 1) (.cons (.blt .len (.cons (.slot 0) .nil)) .nil)))) .nil)))) (.cons (.set 3 (.bin .Mod (.bin .Mult (.bin .Add (.bin .Add (.bin .Mod (.slot 2) (.kint 2147483629)) (.bin .Mult (.bin .Mult (.kint 7919) (.slot 1)) (.slot 1))) (.kint 11)) (.kint 48271)) (.kint 2147483647))) (.cons (.ret (.lst (.cons (.bin .Mod (.bin .Mult (.slot 2) (.blt .int (.cons (.cmp .GtE (.slot 2) (.bin .Pow (.kint 10) (.kint 18))) .nil))) (.blt .int (.cons (.bin .Add (.kstr [49]) (.bin .Mult (.kstr [48]) (.kint 4000))) .nil))) (.cons (.slot 3) .nil)))) .nil))⟩
def f_law_pick : Fn := ⟨"_law_pick", 2, ["_law_left_here", "_law_many", "_law_digit"], .cons (.iff (.cmp .Gt (.ix (.slot 0) (.kint 0)) (.kint 0)) (.cons (.set 2 (.bin .Mod (.ix (.slot 0) (.kint 0)) (.slot 1))) (.cons (.setSub (.slot 0) (.kint 0) (.bin .FloorDiv (.ix (.slot 0) (.kint 0)) (.slot 1))) (.cons (.ret (.slot 2)) .nil))) (.nil)) (.cons (.setSub (.slot 0) (.kint 1) (.bin .Mod (.bin .Add (.bin .Mult (.ix (.slot 0) (.kint 1)) (.kint 48271)) (.kint 12345)) (.kint 2147483647))) (.cons (.ret (.bin .Mod (.bin .Mod (.bin .Mult (.ix (.slot 0) (.kint 1)) (.ix (.slot 0) (.kint 1))) (.kint 1999999973)) (.slot 1))) .nil))⟩
def f_law_number : Fn := ⟨"_law_number", 1, ["_law_left_here", "_law_way", "_law_far"], .cons (.set 1 (.call "_law_pick" (.cons (.slot 0) (.cons (.kint 6) .nil)))) (.cons (.iff (.cmp .Lt (.slot 1) (.kint 3)) (.cons (.ret (.call "_law_pick" (.cons (.slot 0) (.cons (.kint 7) .nil)))) .nil) (.nil)) (.cons (.iff (.cmp .Eq (.slot 1) (.kint 3)) (.cons (.ret (.bin .Sub (.neg (.kint 1)) (.call "_law_pick" (.cons (.slot 0) (.cons (.kint 30) .nil))))) .nil) (.nil)) (.cons (.set 2 (.blt .int (.cons (.bin .Add (.kstr [49]) (.bin .Mult (.kstr [48]) (.bin .Add (.kint 1) (.call "_law_pick" (.cons (.slot 0) (.cons (.kint 39) .nil)))))) .nil))) (.cons (.ret (.ix (.lstR (.cons (.bin .Sub (.bin .Pow (.kint 10) (.kint 40)) (.kint 1)) (.cons (.bin .Sub (.kint 1) (.bin .Pow (.kint 10) (.kint 40))) (.cons (.bin .Add (.slot 2) (.call "_law_pick" (.cons (.slot 0) (.cons (.kint 3) .nil)))) (.cons (.kint 10) .nil))))) (.call "_law_pick" (.cons (.slot 0) (.cons (.kint 4) .nil))))) .nil))))⟩
def f_law_free : Fn := ⟨"_law_free", 1, ["_law_left_here", "_law_some"], .cons (.set 1 (.lstR (.cons (.kstr [120]) (.cons (.kstr [121]) (.cons (.kstr [122]) (.cons (.kstr [97, 98, 99, 100, 101, 102, 103, 104]) (.cons (.kstr [104, 111, 108, 100]) (.cons (.kstr [115, 104, 111, 119]) (.cons (.kstr [100, 101, 102]) (.cons (.kstr [107, 101, 101, 112]) (.cons (.kstr [119, 101, 97, 107]) (.cons (.kstr [115, 101, 101]) (.cons (.kstr [100, 114, 111, 112]) (.cons (.kstr [115, 119, 101, 101, 112]) (.cons (.kstr [111, 112, 101, 110]) (.cons (.kstr [115, 97, 121]) .nil)))))))))))))))) (.cons (.set 1 (.bin .Add (.slot 1) (.lstR (.cons (.kstr [116, 104, 101]) .nil)))) (.cons (.set 1 (.bin .Add (.slot 1) (.lstR (.cons (.kstr [102, 105, 114, 115, 116, 115]) (.cons (.kstr [105]) (.cons (.kstr [105, 102, 115]) (.cons (.kstr [105, 110, 110]) (.cons (.kstr [116, 104, 105, 110, 103]) (.cons (.kstr [122, 122, 122, 122, 122, 122, 122, 122]) (.cons (.kstr [110, 97, 109, 101]) (.cons (.kstr [114, 111, 119]) (.cons (.kstr [115, 101, 116]) (.cons (.kstr [98, 111, 111, 107]) (.cons (.kstr [112, 97, 105, 114]) (.cons (.kstr [113]) .nil))))))))))))))) (.cons (.ret (.ix (.slot 1) (.call "_law_pick" (.cons (.slot 0) (.cons (.blt .len (.cons (.slot 1) .nil)) .nil))))) .nil)))⟩
def f_law_said : Fn := ⟨"_law_said", 1, ["_law_left_here", "_law_names"], .cons (.set 1 (.lstR (.cons (.kstr [99, 97, 116]) (.cons (.kstr [105, 102]) (.cons (.kstr [116, 104, 101, 110]) (.cons (.kstr [102, 105, 114, 115, 116]) (.cons (.kstr [97]) (.cons (.kstr [122, 122, 122, 122, 122, 122, 122, 122]) (.cons (.kstr [105, 110]) (.cons (.kstr [100, 111]) (.cons (.kstr [104, 111, 108, 100]) (.cons (.kstr [115, 111, 114, 116]) .nil)))))))))))) (.cons (.iff (.cmp .Eq (.call "_law_pick" (.cons (.slot 0) (.cons (.kint 2) .nil))) (.kint 0)) (.cons (.ret (.tup (.cons (.kstr [115, 97, 121]) (.cons (.ix (.slot 1) (.call "_law_pick" (.cons (.slot 0) (.cons (.blt .len (.cons (.slot 1) .nil)) .nil)))) .nil)))) .nil) (.nil)) (.cons (.ret (.tup (.cons (.kstr [115, 97, 121]) (.cons (.call "_law_number" (.cons (.slot 0) .nil)) .nil)))) .nil))⟩
def f_law_deeds : Fn := ⟨"_law_deeds", 0, ["_law_some"], .cons (.set 0 (.lstR (.cons (.tup (.cons (.kstr [102, 105, 114, 115, 116]) (.cons (.kint 1) .nil))) (.cons (.tup (.cons (.kstr [115, 101, 99, 111, 110, 100]) (.cons (.kint 1) .nil))) (.cons (.tup (.cons (.kstr [105, 116, 101, 109]) (.cons (.kint 2) .nil))) (.cons (.tup (.cons (.kstr [115, 105, 122, 101]) (.cons (.kint 1) .nil))) (.cons (.tup (.cons (.kstr [104, 97, 115]) (.cons (.kint 2) .nil))) (.cons (.tup (.cons (.kstr [103, 101, 116]) (.cons (.kint 2) .nil))) (.cons (.tup (.cons (.kstr [119, 105, 116, 104]) (.cons (.kint 2) .nil))) (.cons (.tup (.cons (.kstr [108, 101, 115, 115]) (.cons (.kint 2) .nil))) .nil)))))))))) (.cons (.set 0 (.bin .Add (.slot 0) (.lstR (.cons (.tup (.cons (.kstr [112, 117, 116]) (.cons (.kint 3) .nil))) (.cons (.tup (.cons (.kstr [99, 117, 116]) (.cons (.kint 2) .nil))) (.cons (.tup (.cons (.kstr [98, 101, 104, 105, 110, 100]) (.cons (.kint 2) .nil))) (.cons (.tup (.cons (.kstr [108, 105, 115, 116, 101, 100]) (.cons (.kint 1) .nil))) (.cons (.tup (.cons (.kstr [112, 108, 117, 115]) (.cons (.kint 2) .nil))) (.cons (.tup (.cons (.kstr [109, 105, 110, 117, 115]) (.cons (.kint 2) .nil))) (.cons (.tup (.cons (.kstr [116, 105, 109, 101, 115]) (.cons (.kint 2) .nil))) .nil)))))))))) (.cons (.ret (.bin .Add (.slot 0) (.lstR (.cons (.tup (.cons (.kstr [115, 97, 109, 101]) (.cons (.kint 2) .nil))) (.cons (.tup (.cons (.kstr [98, 101, 102, 111, 114, 101]) (.cons (.kint 2) .nil))) (.cons (.tup (.cons (.kstr [115, 111, 114, 116]) (.cons (.kint 1) .nil))) .nil)))))) .nil))⟩
def f_law_any : Fn := ⟨"_law_any", 2, ["_law_left_here", "_law_deep", "_law_way", "_law_many", "_law_parts", "_law_word", "_law_other", "_law_count", "_law_k"], .cons (.set 2 (.call "_law_pick" (.cons (.slot 0) (.cons (.kint 10) .nil)))) (.cons (.iff (.bop false (.cmp .Lt (.slot 1) (.kint 1)) (.cons (.cmp .Lt (.slot 2) (.kint 2)) .nil)) (.cons (.ret (.ix (.lstR (.cons (.call "_law_said" (.cons (.slot 0) .nil)) (.cons (.tup (.cons (.kstr [116, 104, 101]) (.cons (.call "_law_free" (.cons (.slot 0) .nil)) .nil))) .nil))) (.call "_law_pick" (.cons (.slot 0) (.cons (.kint 2) .nil))))) .nil) (.nil)) (.cons (.set 3 (.ix (.lstR (.cons (.kint 0) (.cons (.kint 1) (.cons (.kint 2) (.cons (.kint 3) (.cons (.kint 5) (.cons (.kint 9) .nil))))))) (.call "_law_pick" (.cons (.slot 0) (.cons (.kint 6) .nil))))) (.cons (.iff (.cmp .Gt (.slot 3) (.kint 3)) (.cons (.set 1 (.kint 1)) .nil) (.nil)) (.cons (.iff (.cmp .Lt (.slot 2) (.kint 4)) (.cons (.ret (.call "_law_made" (.cons (.slot 0) (.cons (.slot 3) (.cons (.slot 1) .nil))))) .nil) (.nil)) (.cons (.iff (.cmp .Lt (.slot 2) (.kint 6)) (.cons (.setT [5, 7] (.ix (.call "_law_deeds" (.nil)) (.call "_law_pick" (.cons (.slot 0) (.cons (.kint 18) .nil))))) (.cons (.ret (.tup (.cons (.kstr [100, 111]) (.cons (.slot 5) (.cons (.blt .tuple (.cons (.compR (.call "_law_any" (.cons (.slot 0) (.cons (.bin .Sub (.slot 1) (.kint 1)) .nil))) (.nm 8) (.rng1 (.slot 7)) (.nil) [("_law_k", 8)]) .nil)) .nil))))) .nil)) (.nil)) (.cons (.iff (.cmp .Eq (.slot 2) (.kint 6)) (.cons (.ret (.tup (.cons (.kstr [99, 97, 108, 108]) (.cons (.call "_law_free" (.cons (.slot 0) .nil)) (.cons (.blt .tuple (.cons (.compR (.call "_law_any" (.cons (.slot 0) (.cons (.bin .Sub (.slot 1) (.kint 1)) .nil))) (.nm 8) (.rng1 (.slot 3)) (.nil) [("_law_k", 8)]) .nil)) .nil))))) .nil) (.nil)) (.cons (.set 4 (.compR (.call "_law_any" (.cons (.slot 0) (.cons (.bin .Sub (.slot 1) (.kint 1)) .nil))) (.nm 8) (.rng1 (.kint 3)) (.nil) [("_law_k", 8)])) (.cons (.iff (.cmp .Eq (.slot 2) (.kint 7)) (.cons (.ret (.tup (.cons (.kstr [105, 102]) (.cons (.ix (.slot 4) (.kint 0)) (.cons (.ix (.slot 4) (.kint 1)) (.cons (.ix (.slot 4) (.kint 2)) .nil)))))) .nil) (.nil)) (.cons (.iff (.cmp .Eq (.slot 2) (.kint 8)) (.cons (.ret (.tup (.cons (.kstr [108, 101, 116]) (.cons (.call "_law_free" (.cons (.slot 0) .nil)) (.cons (.ix (.slot 4) (.kint 0)) (.cons (.ix (.slot 4) (.kint 1)) .nil)))))) .nil) (.nil)) (.cons (.par 5 6 (.call "_law_free" (.cons (.slot 0) .nil)) (.call "_law_free" (.cons (.slot 0) .nil))) (.cons (.iff (.cmp .Eq (.slot 5) (.slot 6)) (.cons (.set 6 (.kstr [111, 116, 104, 101, 114])) .nil) (.nil)) (.cons (.ret (.tup (.cons (.kstr [102, 111, 108, 100]) (.cons (.slot 5) (.cons (.slot 6) (.cons (.ix (.slot 4) (.kint 0)) (.cons (.ix (.slot 4) (.kint 1)) (.cons (.ix (.slot 4) (.kint 2)) .nil)))))))) .nil))))))))))))⟩
def f_law_made : Fn := ⟨"_law_made", 3, ["_law_left_here", "_law_many", "_law_deep", "_law_sort", "_law_k"], .cons (.set 3 (.ix (.lstR (.cons (.kstr [112, 97, 105, 114]) (.cons (.kstr [114, 111, 119]) (.cons (.kstr [115, 101, 116]) (.cons (.kstr [98, 111, 111, 107]) .nil))))) (.call "_law_pick" (.cons (.slot 0) (.cons (.kint 4) .nil))))) (.cons (.set 1 (.bm .dget (.dic (.cons (.kstr [112, 97, 105, 114]) (.kint 2) (.cons (.kstr [98, 111, 111, 107]) (.bin .Mult (.bin .FloorDiv (.slot 1) (.kint 2)) (.kint 2)) (.nil)))) (.cons (.slot 3) (.cons (.slot 1) .nil)))) (.cons (.ret (.tup (.cons (.kstr [109, 97, 107, 101]) (.cons (.slot 3) (.cons (.blt .tuple (.cons (.compR (.call "_law_any" (.cons (.slot 0) (.cons (.bin .Sub (.slot 2) (.kint 1)) .nil))) (.nm 4) (.rng1 (.slot 1)) (.nil) [("_law_k", 4)]) .nil)) .nil))))) .nil))⟩
def f_law_own : Fn := ⟨"_law_own", 1, ["_law_left_here", "_law_some", "_law_at"], .cons (.set 1 (.lstR (.cons (.kstr [120]) (.cons (.kstr [121]) (.cons (.kstr [104, 111, 108, 100]) (.cons (.kstr [97, 98, 99, 100, 101, 102, 103, 104]) (.cons (.kstr [115, 104, 111, 119]) (.cons (.kstr [122, 113]) (.cons (.kstr [105]) (.cons (.kstr [100, 101, 102]) .nil)))))))))) (.cons (.set 2 (.call "_law_pick" (.cons (.slot 0) (.cons (.kint 8) .nil)))) (.cons (.ret (.blt .tuple (.cons (.sl (.bin .Add (.sl (.slot 1) (.yes (.slot 2)) .no) (.sl (.slot 1) .no (.yes (.slot 2)))) .no (.yes (.call "_law_pick" (.cons (.slot 0) (.cons (.kint 5) .nil))))) .nil))) .nil))⟩
def f_law_spoilt : Fn := ⟨"_law_spoilt", 3, ["_law_kept", "_law_words", "_law_body", "_law_some"], .cons (.set 3 (.lstR (.cons (.tup (.cons (.blt .int (.cons (.slot 0) .nil)) (.cons (.slot 1) (.cons (.slot 2) .nil)))) (.cons (.tup (.cons (.knon) (.cons (.slot 1) (.cons (.slot 2) .nil)))) (.cons (.tup (.cons (.slot 0) (.cons (.blt .list (.cons (.slot 1) .nil)) (.cons (.slot 2) .nil)))) (.cons (.tup (.cons (.slot 0) (.cons (.slot 1) .nil))) .nil)))))) (.cons (.set 3 (.bin .Add (.slot 3) (.lstR (.cons (.tup (.cons (.slot 0) (.cons (.slot 1) (.cons (.slot 2) (.cons (.kint 5) .nil))))) .nil)))) (.cons (.set 3 (.bin .Add (.slot 3) (.lstR (.cons (.lstR (.cons (.slot 0) (.cons (.slot 1) (.cons (.slot 2) .nil)))) (.cons (.tup (.cons (.slot 0) (.cons (.bin .Add (.slot 1) (.bin .Mult (.tup (.cons (.kstr [113]) .nil)) (.kint 2))) (.cons (.slot 2) .nil)))) (.cons (.tup (.cons (.slot 0) (.cons (.tup (.cons (.kstr [97]) (.cons (.kstr [98]) (.cons (.kstr [99]) (.cons (.kstr [100]) (.cons (.kstr [101]) .nil)))))) (.cons (.slot 2) .nil)))) .nil)))))) (.cons (.set 3 (.bin .Add (.slot 3) (.lstR (.cons (.tup (.cons (.slot 0) (.cons (.bin .Add (.slot 1) (.tup (.cons (.kstr [102, 105, 114, 115, 116]) .nil))) (.cons (.slot 2) .nil)))) (.cons (.tup (.cons (.slot 0) (.cons (.bin .Add (.tup (.cons (.kstr [116, 104, 101, 110]) .nil)) (.slot 1)) (.cons (.slot 2) .nil)))) .nil))))) (.cons (.set 3 (.bin .Add (.slot 3) (.lstR (.cons (.tup (.cons (.slot 0) (.cons (.bin .Add (.sl (.slot 1) .no (.yes (.kint 3))) (.tup (.cons (.kstr [81]) .nil))) (.cons (.slot 2) .nil)))) .nil)))) (.cons (.set 3 (.bin .Add (.slot 3) (.lstR (.cons (.tup (.cons (.slot 0) (.cons (.bin .Add (.sl (.slot 1) .no (.yes (.kint 3))) (.tup (.cons (.kint 5) .nil))) (.cons (.slot 2) .nil)))) (.cons (.tup (.cons (.slot 0) (.cons (.kstr [120, 121]) (.cons (.slot 2) .nil)))) (.cons (.tup (.cons (.slot 0) (.cons (.slot 1) (.cons (.knon) .nil)))) (.cons (.tup (.cons (.slot 0) (.cons (.slot 1) (.cons (.kstr [120]) .nil)))) (.cons (.knon) .nil)))))))) (.cons (.set 3 (.bin .Add (.slot 3) (.lstR (.cons (.tup (.nil)) (.cons (.kint 5) .nil))))) (.cons (.set 3 (.bin .Add (.slot 3) (.lstR (.cons (.tup (.cons (.slot 0) (.cons (.slot 1) (.cons (.tup (.cons (.kstr [116, 104, 101]) (.cons (.kstr [100, 111]) .nil))) .nil)))) (.cons (.tup (.cons (.slot 0) (.cons (.slot 1) (.cons (.lstR (.cons (.slot 2) .nil)) .nil)))) (.cons (.tup (.cons (.slot 0) (.cons (.slot 1) (.cons (.tup (.cons (.slot 2) .nil)) .nil)))) (.cons (.tup (.cons (.slot 1) (.cons (.slot 0) (.cons (.slot 2) .nil)))) .nil))))))) (.cons (.set 3 (.bin .Add (.slot 3) (.lstR (.cons (.kstr [102]) (.cons (.dic (.nil)) .nil))))) (.cons (.set 3 (.bin .Add (.slot 3) (.lstR (.cons (.tup (.cons (.kstr [100, 101, 102]) (.cons (.slot 1) (.cons (.slot 2) .nil)))) (.cons (.tup (.cons (.slot 0) (.cons (.bin .Add (.sl (.slot 1) .no (.yes (.kint 3))) (.tup (.cons (.kstr [97, 98, 99, 100, 101, 102, 103, 104, 105]) .nil))) (.cons (.slot 2) .nil)))) (.cons (.tup (.cons (.slot 0) (.cons (.slot 1) (.cons (.blt .list (.cons (.slot 2) .nil)) .nil)))) .nil)))))) (.cons (.ret (.bin .Add (.slot 3) (.lstR (.cons (.tup (.cons (.slot 0) (.cons (.slot 2) (.cons (.slot 1) .nil)))) .nil)))) .nil))))))))))⟩
def f_law : Fn := ⟨"law", 1, ["_law_script", "_law_k", "_law_left_here", "_law_body", "_law_thing", "_law_kept", "_law_words"], .cons (.for (.nm 1) (.rng1 (.bin .Add (.kint 1) (.blt .len (.cons (.sl (.slot 0) .no (.yes (.kint 19))) .nil)))) (.cons (.set 2 (.call "_law_left" (.cons (.slot 0) (.cons (.slot 1) .nil)))) (.cons (.set 3 (.call "_law_any" (.cons (.slot 2) (.cons (.bin .Add (.kint 1) (.call "_law_pick" (.cons (.slot 2) (.cons (.kint 3) .nil)))) .nil)))) (.cons (.par 5 6 (.cmp .Eq (.call "_law_pick" (.cons (.slot 2) (.cons (.kint 2) .nil))) (.kint 0)) (.call "_law_own" (.cons (.slot 2) .nil))) (.cons (.iff (.bop false (.cmp .IsNot (.call "is_function" (.cons (.tup (.cons (.slot 5) (.cons (.slot 6) (.cons (.slot 3) .nil)))) .nil)) (.kbl true)) (.cons (.cmp .IsNot (.call "is_function" (.cons (.tup (.cons (.not (.slot 5)) (.cons (.tup (.nil)) (.cons (.slot 3) .nil)))) .nil)) (.kbl true)) .nil)) (.cons (.ret (.kbl false)) .nil) (.nil)) (.cons (.for (.nm 4) (.of (.call "_law_spoilt" (.cons (.slot 5) (.cons (.slot 6) (.cons (.slot 3) .nil))))) (.cons (.iff (.cmp .IsNot (.call "is_function" (.cons (.slot 4) .nil)) (.kbl false)) (.cons (.ret (.kbl false)) .nil) (.nil)) .nil)) .nil)))))) (.cons (.ret (.kbl true)) .nil)⟩
def wd : List (Str × List (List Nat × D)) := [("COUNTS", [([102, 105, 114, 115, 116], .int 1), ([115, 101, 99, 111, 110, 100], .int 1), ([105, 116, 101, 109], .int 2), ([115, 105, 122, 101], .int 1), ([104, 97, 115], .int 2), ([103, 101, 116], .int 2), ([119, 105, 116, 104], .int 2), ([108, 101, 115, 115], .int 2), ([112, 117, 116], .int 3), ([99, 117, 116], .int 2), ([98, 101, 104, 105, 110, 100], .int 2), ([108, 105, 115, 116, 101, 100], .int 1), ([112, 108, 117, 115], .int 2), ([109, 105, 110, 117, 115], .int 2), ([116, 105, 109, 101, 115], .int 2), ([115, 97, 109, 101], .int 2), ([98, 101, 102, 111, 114, 101], .int 2), ([115, 111, 114, 116], .int 1)]), ("SIZES", [([115, 97, 121], .int 2), ([116, 104, 101], .int 2), ([109, 97, 107, 101], .int 3), ([100, 111], .int 3), ([99, 97, 108, 108], .int 3), ([105, 102], .int 4), ([108, 101, 116], .int 4), ([102, 111, 108, 100], .int 6)])]
def gl : List (Str × D) := [("SMALL", .str [97, 98, 99, 100, 101, 102, 103, 104, 105, 106, 107, 108, 109, 110, 111, 112, 113, 114, 115, 116, 117, 118, 119, 120, 121, 122]), ("LONGEST", .int 8), ("SPOKEN", .tup [.str [105, 102], .str [116, 104, 101, 110], .str [101, 108, 115, 101], .str [108, 101, 116], .str [105, 110], .str [102, 111, 108, 100], .str [102, 114, 111, 109], .str [100, 111]]), ("SORTS", .tup [.str [112, 97, 105, 114], .str [114, 111, 119], .str [115, 101, 116], .str [98, 111, 111, 107]]), ("MOST_WORDS", .int 4)]
def free : List Str := ["all", "bool", "int", "isinstance", "len", "list", "max", "range", "set", "str", "tuple"]
def p : Pg := ⟨[f_is_word, f_is_free, f_is_whole, f_are_expressions, f_is_make, f_is_do, f_is_fold, f_is_expression, f_are_words, f_is_function, f_law_cell_at, f_law_left, f_law_pick, f_law_number, f_law_free, f_law_said, f_law_deeds, f_law_any, f_law_made, f_law_own, f_law_spoilt, f_law], wd, gl, [], []⟩
end K44
/-! K44t: law k44, the plain law. -/
namespace K44
open PySem Tq HL LX LY
theorem hasP : Has p := ⟨rfl, rfl, rfl, rfl, rfl, rfl, rfl, rfl, rfl, rfl, rfl, rfl, rfl, rfl, rfl, rfl⟩
theorem genP : Gen p := ⟨rfl, rfl, rfl, rfl, rfl, rfl, rfl⟩
def stxL : List D → List (List Nat)
  | [] => []
  | .str w :: r => w :: stxL r
  | _ :: r => stxL r
theorem strs_all : ∀ {xs : List D}, xs.all isFr = true → allStr xs = some (stxL xs)
  | [], _ => rfl
  | x :: r, h => by
    rw [List.all_cons, Bool.and_eq_true] at h
    cases x with
    | str w =>
      show (allStr r).map (w :: ·) = _
      rw [strs_all h.2]; rfl
    | _ => cases h.1
def wordsB : D → Bool
  | .tup xs => decide (xs.length ≤ 4) && xs.all isFr && decide ((uniq (stxL xs)).length = xs.length)
  | _ => false
theorem words_ok {n : Nat} {d : D} {h : TH} {Q : KQ} {E : FQ} (k : kn h d) (q : Q (.bl (wordsB d)) h) : semF p (n + 3) "are_words" [d] h Q E := by
  have hL : LINE = 16777216 := rfl
  refine enter (fd := f_are_words) rfl ⟨rfl, ?_⟩
  have em : p.glv "MOST_WORDS" = some (.int 4) := rfl
  simp only [f_are_words, wSs, wS, wE, wL, wT, wB, wBT, wC, wO, wD, wI, bnd_nm, Tq.wipe, entry, List.map_cons, List.map_nil, List.length_cons, List.length_nil, Nat.zero_add, List.replicate_succ, List.replicate_zero, List.cons_append, List.nil_append, Nat.reduceAdd, Nat.reduceSub, List.set_cons_zero, List.set_cons_succ, need_some, need_none, ups_same, ups_ups2, List.zip_cons_cons, List.zip_nil_left, List.foldl_cons, List.foldl_nil, bnd_nm, bnd_tp, bnd_rl, b_ai, b_as, b_at, b_rr, b_rf, b_fr, b_ff, b_mr, b_si, b_mi, b_ms, b_mt, b_fd, b_md, b_pw, v_fn, v_wd, v_gl, c_lt, c_le, c_gt, c_ge, c_eq, c_ne, c_is, c_isn, c_in, c_nin, f_non, f_bl, f_int, f_str, e_ii, e_ss, e_bb, i_non, n_non, n_int, n_str, n_tup, n_ref, n_rol, n_bl, in_ref, rIn_l, rIn_d, in_tup, in_rol, in_str, in_glo, ky_i, ky_s, t_non, t_bl, t_int, t_str, t_tup, t_rol, t_ref, rTru_l, rTru_d, ix_tup, ix_rol, ix_scr, ix_str, ix_ref, rIx_l, rIx_d, rIx_r, ix_glo, at0, at1, at2, sl_str, sl_tup, sl_rol, sl_scr, sl_ref, rSl_l, bl_len, l_str, l_tup, l_rol, l_scr, l_ref, rLen_l, rLen_d, bl_max, bl_min, bl_ii, bl_ib, bl_is, bl_st, bl_tup, bl_lst, bl_all, bl_any, bl_sum, bl_srt, rSort_d, s_ref, s_tup, s_rol, s_scr, ls_ref, ls_rol, rSeq_l, isi_non, isi_bl, isi_int, isi_str, isi_tup, isi_rol, isi_ref, rIsi_l, rIsi_d, p_app, p_get, rLst_l, rDic_d, p_up, p_spl, p_jn, p_wg, m_app, rApp_l, m_get, m_get2, rGet_d, m_up, m_spl, m_jn, m_wg, s_set, rSet_l, rSet_d, ixN0, ixN1, w_tup, w_rol, w_scr, w_str, w_ref, rWlk_l, j0, jS, Bool.true_and, k_tup k, em]
  cases d with
  | tup xs =>
    have hk : xs.length ≤ 100 ∧ knL h xs := k
    simp only [LX.isTup, Bool.not_true, Bool.not_false, Bool.false_eq_true, Bool.true_eq_false, eq_self, if_true, if_false, Bool.true_and, Bool.and_true, Bool.false_and, Bool.and_false, reduceIte, bnd_nm, bnd_tp, bnd_rl, b_ai, b_as, b_at, b_rr, b_rf, b_fr, b_ff, b_mr, b_si, b_mi, b_ms, b_mt, b_fd, b_md, b_pw, v_fn, v_wd, v_gl, c_lt, c_le, c_gt, c_ge, c_eq, c_ne, c_is, c_isn, c_in, c_nin, f_non, f_bl, f_int, f_str, e_ii, e_ss, e_bb, i_non, n_non, n_int, n_str, n_tup, n_ref, n_rol, n_bl, in_ref, rIn_l, rIn_d, in_tup, in_rol, in_str, in_glo, ky_i, ky_s, t_non, t_bl, t_int, t_str, t_tup, t_rol, t_ref, rTru_l, rTru_d, ix_tup, ix_rol, ix_scr, ix_str, ix_ref, rIx_l, rIx_d, rIx_r, ix_glo, at0, at1, at2, sl_str, sl_tup, sl_rol, sl_scr, sl_ref, rSl_l, bl_len, l_str, l_tup, l_rol, l_scr, l_ref, rLen_l, rLen_d, bl_max, bl_min, bl_ii, bl_ib, bl_is, bl_st, bl_tup, bl_lst, bl_all, bl_any, bl_sum, bl_srt, rSort_d, s_ref, s_tup, s_rol, s_scr, ls_ref, ls_rol, rSeq_l, isi_non, isi_bl, isi_int, isi_str, isi_tup, isi_rol, isi_ref, rIsi_l, rIsi_d, p_app, p_get, rLst_l, rDic_d, p_up, p_spl, p_jn, p_wg, m_app, rApp_l, m_get, m_get2, rGet_d, m_up, m_spl, m_jn, m_wg, s_set, rSet_l, rSet_d, ixN0, ixN1, w_tup, w_rol, w_scr, w_str, w_ref, rWlk_l, j0, jS, Bool.true_and]
    by_cases hl : xs.length ≤ 4
    · rw [if_pos (decide_eq_false (by omega))]
      refine mapR (f := fun d => .bl (isFr d)) trivial _ _ ?_ (by simp; omega) ?_
      · intro d hd kv kn' hk2
        exact free_ok hasP (n := n) (knL_mem hk.2 hd) hk2
      · simp only [bnd_nm, bnd_tp, bnd_rl, b_ai, b_as, b_at, b_rr, b_rf, b_fr, b_ff, b_mr, b_si, b_mi, b_ms, b_mt, b_fd, b_md, b_pw, v_fn, v_wd, v_gl, c_lt, c_le, c_gt, c_ge, c_eq, c_ne, c_is, c_isn, c_in, c_nin, f_non, f_bl, f_int, f_str, e_ii, e_ss, e_bb, i_non, n_non, n_int, n_str, n_tup, n_ref, n_rol, n_bl, in_ref, rIn_l, rIn_d, in_tup, in_rol, in_str, in_glo, ky_i, ky_s, t_non, t_bl, t_int, t_str, t_tup, t_rol, t_ref, rTru_l, rTru_d, ix_tup, ix_rol, ix_scr, ix_str, ix_ref, rIx_l, rIx_d, rIx_r, ix_glo, at0, at1, at2, sl_str, sl_tup, sl_rol, sl_scr, sl_ref, rSl_l, bl_len, l_str, l_tup, l_rol, l_scr, l_ref, rLen_l, rLen_d, bl_max, bl_min, bl_ii, bl_ib, bl_is, bl_st, bl_tup, bl_lst, bl_all, bl_any, bl_sum, bl_srt, rSort_d, s_ref, s_tup, s_rol, s_scr, ls_ref, ls_rol, rSeq_l, isi_non, isi_bl, isi_int, isi_str, isi_tup, isi_rol, isi_ref, rIsi_l, rIsi_d, p_app, p_get, rLst_l, rDic_d, p_up, p_spl, p_jn, p_wg, m_app, rApp_l, m_get, m_get2, rGet_d, m_up, m_spl, m_jn, m_wg, s_set, rSet_l, rSet_d, ixN0, ixN1, w_tup, w_rol, w_scr, w_str, w_ref, rWlk_l, j0, jS, Bool.true_and, entry, List.map_cons, List.map_nil, List.length_cons, List.length_nil, Nat.zero_add, List.replicate_succ, List.replicate_zero, List.cons_append, List.nil_append, Nat.reduceAdd, Nat.reduceSub, List.set_cons_zero, List.set_cons_succ, need_some, need_none, ups_same, ups_ups2, List.zip_cons_cons, List.zip_nil_left, List.foldl_cons, List.foldl_nil, allBl_map]
        have e : ((xs.map isFr).all id) = xs.all isFr := by rw [List.all_map]; rfl
        rw [e]
        cases ha : xs.all isFr with
        | false =>
          simp only [Bool.not_true, Bool.not_false, Bool.false_eq_true, Bool.true_eq_false, eq_self, if_true, if_false, Bool.true_and, Bool.and_true, Bool.false_and, Bool.and_false, reduceIte]
          have z := q
          have e2 : wordsB (.tup xs) = false := by
            show (_ && xs.all isFr && _) = false
            rw [ha, Bool.and_false, Bool.false_and]
          rw [e2] at z
          exact wk_self z
        | true =>
          simp only [Bool.not_true, Bool.not_false, Bool.false_eq_true, Bool.true_eq_false, eq_self, if_true, if_false, Bool.true_and, Bool.and_true, Bool.false_and, Bool.and_false, reduceIte, strs_all ha, entry, List.map_cons, List.map_nil, List.length_cons, List.length_nil, Nat.zero_add, List.replicate_succ, List.replicate_zero, List.cons_append, List.nil_append, Nat.reduceAdd, Nat.reduceSub, List.set_cons_zero, List.set_cons_succ, need_some, need_none, ups_same, ups_ups2, List.zip_cons_cons, List.zip_nil_left, List.foldl_cons, List.foldl_nil, bnd_nm, bnd_tp, bnd_rl, b_ai, b_as, b_at, b_rr, b_rf, b_fr, b_ff, b_mr, b_si, b_mi, b_ms, b_mt, b_fd, b_md, b_pw, v_fn, v_wd, v_gl, c_lt, c_le, c_gt, c_ge, c_eq, c_ne, c_is, c_isn, c_in, c_nin, f_non, f_bl, f_int, f_str, e_ii, e_ss, e_bb, i_non, n_non, n_int, n_str, n_tup, n_ref, n_rol, n_bl, in_ref, rIn_l, rIn_d, in_tup, in_rol, in_str, in_glo, ky_i, ky_s, t_non, t_bl, t_int, t_str, t_tup, t_rol, t_ref, rTru_l, rTru_d, ix_tup, ix_rol, ix_scr, ix_str, ix_ref, rIx_l, rIx_d, rIx_r, ix_glo, at0, at1, at2, sl_str, sl_tup, sl_rol, sl_scr, sl_ref, rSl_l, bl_len, l_str, l_tup, l_rol, l_scr, l_ref, rLen_l, rLen_d, bl_max, bl_min, bl_ii, bl_ib, bl_is, bl_st, bl_tup, bl_lst, bl_all, bl_any, bl_sum, bl_srt, rSort_d, s_ref, s_tup, s_rol, s_scr, ls_ref, ls_rol, rSeq_l, isi_non, isi_bl, isi_int, isi_str, isi_tup, isi_rol, isi_ref, rIsi_l, rIsi_d, p_app, p_get, rLst_l, rDic_d, p_up, p_spl, p_jn, p_wg, m_app, rApp_l, m_get, m_get2, rGet_d, m_up, m_spl, m_jn, m_wg, s_set, rSet_l, rSet_d, ixN0, ixN1, w_tup, w_rol, w_scr, w_str, w_ref, rWlk_l, j0, jS, Bool.true_and, d_fl f_int f_int]
          refine ⟨?_, ?_⟩
          · have : ∀ l : List D, (stxL l).length ≤ l.length := by
              intro l
              induction l with
              | nil => exact Nat.le_refl _
              | cons x r ih =>
                cases x <;> simp only [stxL, List.length_cons] <;> omega
            have := this xs
            omega
          · have e2 : wordsB (.tup xs) = ((((uniq (stxL xs)).length : Nat) : Int) == ((xs.length : Nat) : Int)) := by
              show (decide _ && xs.all isFr && decide _) = _
              rw [ha, decide_eq_true hl]
              by_cases y : (uniq (stxL xs)).length = xs.length
              · rw [decide_eq_true y, y]; simp
              · rw [decide_eq_false y]
                simp
                omega
            have z := q
            rw [e2] at z
            exact wk_self z
    · rw [if_neg (by rw [decide_eq_true (by omega)]; decide)]
      have z := q
      have e2 : wordsB (.tup xs) = false := by
        show (decide _ && _ && _) = false
        rw [decide_eq_false hl]; rfl
      rw [e2] at z
      simp only [Bool.not_true, Bool.not_false, Bool.false_eq_true, Bool.true_eq_false, eq_self, if_true, if_false, Bool.true_and, Bool.and_true, Bool.false_and, Bool.and_false, reduceIte, show decide ((4 : Int) < (xs.length : Nat)) = true from decide_eq_true (by omega)]
      exact wk_self z
  | _ =>
    simp only [LX.isTup, Bool.not_true, Bool.not_false, Bool.false_eq_true, Bool.true_eq_false, eq_self, if_true, if_false, Bool.true_and, Bool.and_true, Bool.false_and, Bool.and_false, reduceIte]
    exact wk_self q
def funB (m : Nat) : D → Bool
  | .tup [k, ws, b] => isBl k && wordsB ws && isE m b
  | _ => false
theorem fun_ok {n m : Nat} {d : D} {h : TH} {Q : KQ} {E : FQ} (hn : 3 * m + 4 ≤ n) (hd : dep d ≤ m + 1) (k : kn h d) (q : Q (.bl (funB (m + 1) d)) h) : semF p (n + 1) "is_function" [d] h Q E := by
  have hL : LINE = 16777216 := rfl
  refine enter (fd := f_is_function) rfl ⟨rfl, ?_⟩
  simp only [f_is_function, wSs, wS, wE, wL, wT, wB, wBT, wC, wO, wD, wI, bnd_nm, Tq.wipe, entry, List.map_cons, List.map_nil, List.length_cons, List.length_nil, Nat.zero_add, List.replicate_succ, List.replicate_zero, List.cons_append, List.nil_append, Nat.reduceAdd, Nat.reduceSub, List.set_cons_zero, List.set_cons_succ, need_some, need_none, ups_same, ups_ups2, List.zip_cons_cons, List.zip_nil_left, List.foldl_cons, List.foldl_nil, bnd_nm, bnd_tp, bnd_rl, b_ai, b_as, b_at, b_rr, b_rf, b_fr, b_ff, b_mr, b_si, b_mi, b_ms, b_mt, b_fd, b_md, b_pw, v_fn, v_wd, v_gl, c_lt, c_le, c_gt, c_ge, c_eq, c_ne, c_is, c_isn, c_in, c_nin, f_non, f_bl, f_int, f_str, e_ii, e_ss, e_bb, i_non, n_non, n_int, n_str, n_tup, n_ref, n_rol, n_bl, in_ref, rIn_l, rIn_d, in_tup, in_rol, in_str, in_glo, ky_i, ky_s, t_non, t_bl, t_int, t_str, t_tup, t_rol, t_ref, rTru_l, rTru_d, ix_tup, ix_rol, ix_scr, ix_str, ix_ref, rIx_l, rIx_d, rIx_r, ix_glo, at0, at1, at2, sl_str, sl_tup, sl_rol, sl_scr, sl_ref, rSl_l, bl_len, l_str, l_tup, l_rol, l_scr, l_ref, rLen_l, rLen_d, bl_max, bl_min, bl_ii, bl_ib, bl_is, bl_st, bl_tup, bl_lst, bl_all, bl_any, bl_sum, bl_srt, rSort_d, s_ref, s_tup, s_rol, s_scr, ls_ref, ls_rol, rSeq_l, isi_non, isi_bl, isi_int, isi_str, isi_tup, isi_rol, isi_ref, rIsi_l, rIsi_d, p_app, p_get, rLst_l, rDic_d, p_up, p_spl, p_jn, p_wg, m_app, rApp_l, m_get, m_get2, rGet_d, m_up, m_spl, m_jn, m_wg, s_set, rSet_l, rSet_d, ixN0, ixN1, w_tup, w_rol, w_scr, w_str, w_ref, rWlk_l, j0, jS, Bool.true_and, k_tup k]
  cases d with
  | tup xs =>
    have hk : xs.length ≤ 100 ∧ knL h xs := k
    simp only [LX.isTup, Bool.not_true, Bool.not_false, Bool.false_eq_true, Bool.true_eq_false, eq_self, if_true, if_false, Bool.true_and, Bool.and_true, Bool.false_and, Bool.and_false, reduceIte, bnd_nm, bnd_tp, bnd_rl, b_ai, b_as, b_at, b_rr, b_rf, b_fr, b_ff, b_mr, b_si, b_mi, b_ms, b_mt, b_fd, b_md, b_pw, v_fn, v_wd, v_gl, c_lt, c_le, c_gt, c_ge, c_eq, c_ne, c_is, c_isn, c_in, c_nin, f_non, f_bl, f_int, f_str, e_ii, e_ss, e_bb, i_non, n_non, n_int, n_str, n_tup, n_ref, n_rol, n_bl, in_ref, rIn_l, rIn_d, in_tup, in_rol, in_str, in_glo, ky_i, ky_s, t_non, t_bl, t_int, t_str, t_tup, t_rol, t_ref, rTru_l, rTru_d, ix_tup, ix_rol, ix_scr, ix_str, ix_ref, rIx_l, rIx_d, rIx_r, ix_glo, at0, at1, at2, sl_str, sl_tup, sl_rol, sl_scr, sl_ref, rSl_l, bl_len, l_str, l_tup, l_rol, l_scr, l_ref, rLen_l, rLen_d, bl_max, bl_min, bl_ii, bl_ib, bl_is, bl_st, bl_tup, bl_lst, bl_all, bl_any, bl_sum, bl_srt, rSort_d, s_ref, s_tup, s_rol, s_scr, ls_ref, ls_rol, rSeq_l, isi_non, isi_bl, isi_int, isi_str, isi_tup, isi_rol, isi_ref, rIsi_l, rIsi_d, p_app, p_get, rLst_l, rDic_d, p_up, p_spl, p_jn, p_wg, m_app, rApp_l, m_get, m_get2, rGet_d, m_up, m_spl, m_jn, m_wg, s_set, rSet_l, rSet_d, ixN0, ixN1, w_tup, w_rol, w_scr, w_str, w_ref, rWlk_l, j0, jS, Bool.true_and, d_fl f_int f_int]
    by_cases hl : xs.length = 3
    · obtain ⟨a, b, c, rfl⟩ : ∃ a b c, xs = [a, b, c] := by
        match xs, hl with
        | [a, b, c], _ => exact ⟨a, b, c, rfl⟩
      obtain ⟨_, ka, kb, kc, _⟩ := hk
      have e3 : ((([a, b, c] : List D).length : Int) == 3) = true := rfl
      simp only [e3, e_ii, Bool.not_true, Bool.not_false, Bool.false_eq_true, Bool.true_eq_false, eq_self, if_true, if_false, Bool.true_and, Bool.and_true, Bool.false_and, Bool.and_false, reduceIte, entry, List.map_cons, List.map_nil, List.length_cons, List.length_nil, Nat.zero_add, List.replicate_succ, List.replicate_zero, List.cons_append, List.nil_append, Nat.reduceAdd, Nat.reduceSub, List.set_cons_zero, List.set_cons_succ, need_some, need_none, ups_same, ups_ups2, List.zip_cons_cons, List.zip_nil_left, List.foldl_cons, List.foldl_nil, bnd_nm, bnd_tp, bnd_rl, b_ai, b_as, b_at, b_rr, b_rf, b_fr, b_ff, b_mr, b_si, b_mi, b_ms, b_mt, b_fd, b_md, b_pw, v_fn, v_wd, v_gl, c_lt, c_le, c_gt, c_ge, c_eq, c_ne, c_is, c_isn, c_in, c_nin, f_non, f_bl, f_int, f_str, e_ii, e_ss, e_bb, i_non, n_non, n_int, n_str, n_tup, n_ref, n_rol, n_bl, in_ref, rIn_l, rIn_d, in_tup, in_rol, in_str, in_glo, ky_i, ky_s, t_non, t_bl, t_int, t_str, t_tup, t_rol, t_ref, rTru_l, rTru_d, ix_tup, ix_rol, ix_scr, ix_str, ix_ref, rIx_l, rIx_d, rIx_r, ix_glo, at0, at1, at2, sl_str, sl_tup, sl_rol, sl_scr, sl_ref, rSl_l, bl_len, l_str, l_tup, l_rol, l_scr, l_ref, rLen_l, rLen_d, bl_max, bl_min, bl_ii, bl_ib, bl_is, bl_st, bl_tup, bl_lst, bl_all, bl_any, bl_sum, bl_srt, rSort_d, s_ref, s_tup, s_rol, s_scr, ls_ref, ls_rol, rSeq_l, isi_non, isi_bl, isi_int, isi_str, isi_tup, isi_rol, isi_ref, rIsi_l, rIsi_d, p_app, p_get, rLst_l, rDic_d, p_up, p_spl, p_jn, p_wg, m_app, rApp_l, m_get, m_get2, rGet_d, m_up, m_spl, m_jn, m_wg, s_set, rSet_l, rSet_d, ixN0, ixN1, w_tup, w_rol, w_scr, w_str, w_ref, rWlk_l, j0, jS, Bool.true_and, k_bl ka]
      have e4 : funB (m + 1) (.tup [a, b, c]) = (isBl a && wordsB b && isE (m + 1) c) := rfl
      rw [e4] at q
      cases ha : isBl a with
      | false =>
        rw [ha] at q
        simp only [Bool.not_true, Bool.not_false, Bool.false_eq_true, Bool.true_eq_false, eq_self, if_true, if_false, Bool.true_and, Bool.and_true, Bool.false_and, Bool.and_false, reduceIte]
        exact wk_self q
      | true =>
        rw [ha] at q
        simp only [Bool.not_true, Bool.not_false, Bool.false_eq_true, Bool.true_eq_false, eq_self, if_true, if_false, Bool.true_and, Bool.and_true, Bool.false_and, Bool.and_false, reduceIte]
        obtain ⟨n, rfl⟩ : ∃ n', n = n' + 3 := ⟨n - 3, by omega⟩
        refine words_ok kb ?_
        cases hb : wordsB b with
        | false =>
          rw [hb] at q
          simp only [Bool.not_true, Bool.not_false, Bool.false_eq_true, Bool.true_eq_false, eq_self, if_true, if_false, Bool.true_and, Bool.and_true, Bool.false_and, Bool.and_false, reduceIte]
          exact wk_self q
        | true =>
          rw [hb] at q
          simp only [Bool.not_true, Bool.not_false, Bool.false_eq_true, Bool.true_eq_false, eq_self, if_true, if_false, Bool.true_and, Bool.and_true, Bool.false_and, Bool.and_false, reduceIte]
          refine expr_ok hasP m (n + 3) hn c h _ _ ?_ kc (wk_self q)
          have z : Tq.depL [a, b, c] + 1 ≤ m + 1 := by have := hd; rw [dep_tup] at this; exact this
          have := depL_mem (l := [a, b, c]) (x := c) (by simp)
          omega
    · have e3 : ((xs.length : Int) == 3) = false := by simp; omega
      have e4 : funB (m + 1) (.tup xs) = false := by
        match xs, hl with
        | [], _ => rfl
        | [_], _ => rfl
        | [_, _], _ => rfl
        | [_, _, _], z => exact absurd rfl z
        | _ :: _ :: _ :: _ :: _, _ => rfl
      rw [e4] at q
      simp only [e3, e_ii, Bool.not_true, Bool.not_false, Bool.false_eq_true, Bool.true_eq_false, eq_self, if_true, if_false, Bool.true_and, Bool.and_true, Bool.false_and, Bool.and_false, reduceIte]
      exact wk_self q
  | _ =>
    simp only [LX.isTup, Bool.not_true, Bool.not_false, Bool.false_eq_true, Bool.true_eq_false, eq_self, if_true, if_false, Bool.true_and, Bool.and_true, Bool.false_and, Bool.and_false, reduceIte]
    exact wk_self q
/-! ### the words of a function -/
def ownL : List (List Nat) := [[120], [121], [104, 111, 108, 100], [97, 98, 99, 100, 101, 102, 103, 104], [115, 104, 111, 119], [122, 113], [105], [100, 101, 102]]
def ownAt (a b : Nat) : List (List Nat) := ((ownL.drop a) ++ (ownL.take a)).take b
def ownOk (ws : List (List Nat)) : Bool := Nat.ble ws.length 4 && (ws.all fun w => Nat.ble w.length 8 && decide (LX.sizeOf w = none)) && wordsB (.tup (ws.map D.str)) && !wordsB (.tup (ws.map D.str ++ [.str [113], .str [113]])) && !wordsB (.tup (ws.map D.str ++ [.str [102, 105, 114, 115, 116]])) && !wordsB (.tup (.str [116, 104, 101, 110] :: ws.map D.str)) &&
  [D.str [81], D.int 5, D.str [97, 98, 99, 100, 101, 102, 103, 104, 105]].all fun x => !wordsB (.tup (cut (ws.map D.str) none (some 3) ++ [x]))
theorem own_all : ((List.range 8).all fun a => (List.range 5).all fun b => ownOk (ownAt a b)) = true := by decide +kernel
theorem cut_all (a b : Nat) (ha : a < 8) (hb : b < 5) : cut (cut (ownL.map D.str) (some (a : Int)) none ++ cut (ownL.map D.str) none (some (a : Int))) none (some (b : Int)) = (ownAt a b).map D.str := by
  have h0 : ∀ (a : Fin 8) (b : Fin 5), cut (cut ownL (some (a.1 : Int)) none ++ cut ownL none (some (a.1 : Int))) none (some (b.1 : Int)) = ownAt a.1 b.1 := by decide +kernel
  have h : ∀ a b : Nat, a < 8 → b < 5 → cut (cut ownL (some (a : Int)) none ++ cut ownL none (some (a : Int))) none (some (b : Int)) = ownAt a b := fun a b ha hb => h0 ⟨a, ha⟩ ⟨b, hb⟩
  have m : ∀ (l : List (List Nat)) (lo hi : Option Int), cut (l.map D.str) lo hi = (cut l lo hi).map D.str := by
    intro l lo hi
    unfold cut
    rw [List.length_map, List.map_take, List.map_drop]
  rw [m, m, ← List.map_append, m, h a b ha hb]
theorem own_ok {n : Nat} {g : Ga} {u v : Int} {Q : KQ} {E : FQ} (q : ∀ (ws : List (List Nat)) (u' v' : Int), ownOk ws = true → Q (.tup (ws.map D.str)) (g.at u' v')) : semF p (n + 2) "_law_own" [.ref g.a] (g.at u v) Q E := by
  have hL : LINE = 16777216 := rfl
  refine enter (fd := f_law_own) rfl ⟨rfl, ?_⟩
  simp only [f_law_own, wSs, wS, wE, wL, wT, wB, wBT, wC, wO, wD, wI, bnd_nm, Tq.wipe, entry, List.map_cons, List.map_nil, List.length_cons, List.length_nil, Nat.zero_add, List.replicate_succ, List.replicate_zero, List.cons_append, List.nil_append, Nat.reduceAdd, Nat.reduceSub, List.set_cons_zero, List.set_cons_succ, need_some, need_none, ups_same, ups_ups2, List.zip_cons_cons, List.zip_nil_left, List.foldl_cons, List.foldl_nil, bnd_nm, bnd_tp, bnd_rl, b_ai, b_as, b_at, b_rr, b_rf, b_fr, b_ff, b_mr, b_si, b_mi, b_ms, b_mt, b_fd, b_md, b_pw, v_fn, v_wd, v_gl, c_lt, c_le, c_gt, c_ge, c_eq, c_ne, c_is, c_isn, c_in, c_nin, f_non, f_bl, f_int, f_str, e_ii, e_ss, e_bb, i_non, n_non, n_int, n_str, n_tup, n_ref, n_rol, n_bl, in_ref, rIn_l, rIn_d, in_tup, in_rol, in_str, in_glo, ky_i, ky_s, t_non, t_bl, t_int, t_str, t_tup, t_rol, t_ref, rTru_l, rTru_d, ix_tup, ix_rol, ix_scr, ix_str, ix_ref, rIx_l, rIx_d, rIx_r, ix_glo, at0, at1, at2, sl_str, sl_tup, sl_rol, sl_scr, sl_ref, rSl_l, bl_len, l_str, l_tup, l_rol, l_scr, l_ref, rLen_l, rLen_d, bl_max, bl_min, bl_ii, bl_ib, bl_is, bl_st, bl_tup, bl_lst, bl_all, bl_any, bl_sum, bl_srt, rSort_d, s_ref, s_tup, s_rol, s_scr, ls_ref, ls_rol, rSeq_l, isi_non, isi_bl, isi_int, isi_str, isi_tup, isi_rol, isi_ref, rIsi_l, rIsi_d, p_app, p_get, rLst_l, rDic_d, p_up, p_spl, p_jn, p_wg, m_app, rApp_l, m_get, m_get2, rGet_d, m_up, m_spl, m_jn, m_wg, s_set, rSet_l, rSet_d, ixN0, ixN1, w_tup, w_rol, w_scr, w_str, w_ref, rWlk_l, j0, jS, Bool.true_and]
  refine ⟨by decide, ?_⟩
  refine pick_ok genP.pick (by decide) (by decide) fun k1 u1 v1 b1 b2 => ?_
  simp only [bnd_nm, bnd_tp, bnd_rl, b_ai, b_as, b_at, b_rr, b_rf, b_fr, b_ff, b_mr, b_si, b_mi, b_ms, b_mt, b_fd, b_md, b_pw, v_fn, v_wd, v_gl, c_lt, c_le, c_gt, c_ge, c_eq, c_ne, c_is, c_isn, c_in, c_nin, f_non, f_bl, f_int, f_str, e_ii, e_ss, e_bb, i_non, n_non, n_int, n_str, n_tup, n_ref, n_rol, n_bl, in_ref, rIn_l, rIn_d, in_tup, in_rol, in_str, in_glo, ky_i, ky_s, t_non, t_bl, t_int, t_str, t_tup, t_rol, t_ref, rTru_l, rTru_d, ix_tup, ix_rol, ix_scr, ix_str, ix_ref, rIx_l, rIx_d, rIx_r, ix_glo, at0, at1, at2, sl_str, sl_tup, sl_rol, sl_scr, sl_ref, rSl_l, bl_len, l_str, l_tup, l_rol, l_scr, l_ref, rLen_l, rLen_d, bl_max, bl_min, bl_ii, bl_ib, bl_is, bl_st, bl_tup, bl_lst, bl_all, bl_any, bl_sum, bl_srt, rSort_d, s_ref, s_tup, s_rol, s_scr, ls_ref, ls_rol, rSeq_l, isi_non, isi_bl, isi_int, isi_str, isi_tup, isi_rol, isi_ref, rIsi_l, rIsi_d, p_app, p_get, rLst_l, rDic_d, p_up, p_spl, p_jn, p_wg, m_app, rApp_l, m_get, m_get2, rGet_d, m_up, m_spl, m_jn, m_wg, s_set, rSet_l, rSet_d, ixN0, ixN1, w_tup, w_rol, w_scr, w_str, w_ref, rWlk_l, j0, jS, Bool.true_and, entry, List.map_cons, List.map_nil, List.length_cons, List.length_nil, Nat.zero_add, List.replicate_succ, List.replicate_zero, List.cons_append, List.nil_append, Nat.reduceAdd, Nat.reduceSub, List.set_cons_zero, List.set_cons_succ, need_some, need_none, ups_same, ups_ups2, List.zip_cons_cons, List.zip_nil_left, List.foldl_cons, List.foldl_nil]
  refine ⟨?_, ?_⟩
  · have := cut_le (ownL.map D.str) (some k1) none
    have := cut_le (ownL.map D.str) none (some k1)
    have e : (ownL.map D.str).length = 8 := rfl
    show (cut (ownL.map D.str) _ _).length + (cut (ownL.map D.str) _ _).length ≤ _
    omega
  refine pick_ok genP.pick (by decide) (by decide) fun k2 u2 v2 b3 b4 => ?_
  obtain ⟨a, rfl⟩ : ∃ a : Nat, k1 = a := ⟨k1.toNat, by omega⟩
  obtain ⟨b, rfl⟩ : ∃ b : Nat, k2 = b := ⟨k2.toNat, by omega⟩
  have e := cut_all a b (by omega) (by omega)
  have e2 : ownL.map D.str = [.str [120], .str [121], .str [104, 111, 108, 100], .str [97, 98, 99, 100, 101, 102, 103, 104], .str [115, 104, 111, 119], .str [122, 113], .str [105], .str [100, 101, 102]] := rfl
  rw [e2] at e
  dsimp only
  rw [e]
  have z := List.all_eq_true.mp (List.all_eq_true.mp own_all a (List.mem_range.mpr (by omega))) b (List.mem_range.mpr (by omega))
  exact wk_self (q _ _ _ z)
/-! ### spoilt ones -/
def sW (ws : List (List Nat)) : D := .tup (ws.map D.str)
def spL (k : Bool) (ws : List (List Nat)) (b : D) (bl : List D) (r : Nat) : List D :=
  let K := D.bl k
  let W := D.tup (ws.map D.str)
  let W3 := fun x => D.tup (cut (ws.map D.str) none (some 3) ++ [x])
  [.tup [.int (if k then 1 else 0), W, b], .tup [.non, W, b], .tup [K, .rol (ws.map D.str), b], .tup [K, W], .tup [K, W, b, .int 5],
   .rol [K, W, b], .tup [K, .tup (ws.map D.str ++ [.str [113], .str [113]]), b], .tup [K, .tup [.str [97], .str [98], .str [99], .str [100], .str [101]], b],
   .tup [K, .tup (ws.map D.str ++ [.str [102, 105, 114, 115, 116]]), b], .tup [K, .tup (.str [116, 104, 101, 110] :: ws.map D.str), b], .tup [K, W3 (.str [81]), b],
   .tup [K, W3 (.int 5), b], .tup [K, .str [120, 121], b], .tup [K, W, .non], .tup [K, W, .str [120]], .non, .tup [], .int 5,
   .tup [K, W, .tup [.str [116, 104, 101], .str [100, 111]]], .tup [K, W, .rol [b]], .tup [K, W, .tup [b]], .tup [W, K, b], .str [102], .ref r,
   .tup [.str [100, 101, 102], W, b], .tup [K, W3 (.str [97, 98, 99, 100, 101, 102, 103, 104, 105]), b], .tup [K, W, .rol bl], .tup [K, b, W]]
theorem spoilt_ok {n : Nat} {k : Bool} {ws : List (List Nat)} {bl : List D} {h : TH} {Q : KQ} {E : FQ} (hw : ws.length ≤ 4) (hb : bl.length ≤ 10)
    (q : ∀ r, h r = none → Q (.rol (spL k ws (.tup bl) bl r)) (ups h r (.dK []))) : semF p (n + 1) "_law_spoilt" [.bl k, .tup (ws.map D.str), .tup bl] h Q E := by
  have hL : LINE = 16777216 := rfl
  refine enter (fd := f_law_spoilt) rfl ⟨rfl, ?_⟩
  simp only [f_law_spoilt, wSs, wS, wE, wL, wT, wB, wBT, wC, wO, wD, wI, bnd_nm, Tq.wipe, entry, List.map_cons, List.map_nil, List.length_cons, List.length_nil, Nat.zero_add, List.replicate_succ, List.replicate_zero, List.cons_append, List.nil_append, Nat.reduceAdd, Nat.reduceSub, List.set_cons_zero, List.set_cons_succ, need_some, need_none, ups_same, ups_ups2, List.zip_cons_cons, List.zip_nil_left, List.foldl_cons, List.foldl_nil, bnd_nm, bnd_tp, bnd_rl, b_ai, b_as, b_at, b_rr, b_rf, b_fr, b_ff, b_mr, b_si, b_mi, b_ms, b_mt, b_fd, b_md, b_pw, v_fn, v_wd, v_gl, c_lt, c_le, c_gt, c_ge, c_eq, c_ne, c_is, c_isn, c_in, c_nin, f_non, f_bl, f_int, f_str, e_ii, e_ss, e_bb, i_non, n_non, n_int, n_str, n_tup, n_ref, n_rol, n_bl, in_ref, rIn_l, rIn_d, in_tup, in_rol, in_str, in_glo, ky_i, ky_s, t_non, t_bl, t_int, t_str, t_tup, t_rol, t_ref, rTru_l, rTru_d, ix_tup, ix_rol, ix_scr, ix_str, ix_ref, rIx_l, rIx_d, rIx_r, ix_glo, at0, at1, at2, sl_str, sl_tup, sl_rol, sl_scr, sl_ref, rSl_l, bl_len, l_str, l_tup, l_rol, l_scr, l_ref, rLen_l, rLen_d, bl_max, bl_min, bl_ii, bl_ib, bl_is, bl_st, bl_tup, bl_lst, bl_all, bl_any, bl_sum, bl_srt, rSort_d, s_ref, s_tup, s_rol, s_scr, ls_ref, ls_rol, rSeq_l, isi_non, isi_bl, isi_int, isi_str, isi_tup, isi_rol, isi_ref, rIsi_l, rIsi_d, p_app, p_get, rLst_l, rDic_d, p_up, p_spl, p_jn, p_wg, m_app, rApp_l, m_get, m_get2, rGet_d, m_up, m_spl, m_jn, m_wg, s_set, rSet_l, rSet_d, ixN0, ixN1, w_tup, w_rol, w_scr, w_str, w_ref, rWlk_l, j0, jS, Bool.true_and]
  have c3 := cut_le (ws.map D.str) none (some 3)
  rw [List.length_map] at c3
  have rp : (List.replicate (Int.toNat 2) [D.str [113]]).flatten = [D.str [113], D.str [113]] := rfl
  simp only [rp, List.length_map]
  repeat (refine And.intro (by (first | assumption | trivial | omega | decide | (simp only [List.length_append, List.length_cons, List.length_nil, List.length_map]; omega))) ?_)
  intro r nr
  simp only [mergeK, List.foldl_nil]
  repeat (refine And.intro (by (first | assumption | trivial | omega | decide | (simp only [List.length_append, List.length_cons, List.length_nil, List.length_map]; omega))) ?_)
  exact wk_self (q r nr)
theorem str_kn (h : TH) : ∀ ws : List (List Nat), (ws.all fun w => Nat.ble w.length 8 && decide (LX.sizeOf w = none)) = true → knL h (ws.map D.str)
  | [], _ => trivial
  | w :: r, z => by
    rw [List.all_cons, Bool.and_eq_true, Bool.and_eq_true, Nat.ble_eq] at z
    exact ⟨by show w.length ≤ 100; omega, str_kn h r z.2⟩
theorem str_dep : ∀ ws : List (List Nat), depL (ws.map D.str) = 0
  | [] => rfl
  | w :: r => by rw [List.map_cons, depL_c, dep_s, str_dep r]; rfl
theorem knL_cut {h : TH} {lo hi : Option Int} {xs : List D} (k : knL h xs) : knL h (cut xs lo hi) := by
  have m : ∀ l : List D, (∀ x ∈ l, kn h x) → knL h l := by
    intro l
    induction l with
    | nil => intro _; trivial
    | cons y r ih => intro z; exact ⟨z y List.mem_cons_self, ih fun x hx => z x (List.mem_cons_of_mem _ hx)⟩
  exact m _ fun x hx => knL_mem k (cut_mem hx)
theorem knL_app {h : TH} : ∀ {xs ys : List D}, knL h xs → knL h ys → knL h (xs ++ ys)
  | [], _, _, k => k
  | _ :: _, _, q, k => ⟨q.1, knL_app q.2 k⟩
theorem depL_app : ∀ xs ys : List D, depL (xs ++ ys) = max (depL xs) (depL ys)
  | [], ys => by rw [List.nil_append, depL_n]; omega
  | x :: xs, ys => by rw [List.cons_append, depL_c, depL_c, depL_app xs ys]; omega
theorem cut_dep (ws : List (List Nat)) (lo hi : Option Int) : depL (cut (ws.map D.str) lo hi) = 0 := by
  have := dep_sub (l := ws.map D.str) (l' := cut (ws.map D.str) lo hi) fun x hx => cut_mem hx
  rw [str_dep] at this
  omega
theorem bad_str {m : Nat} {w : List Nat} {r : List D} (h : LX.sizeOf w = none) : isE (m + 1) (.tup (.str w :: r)) = false := by
  show (decide (LX.sizeOf w = some (r.length + 1)) && _) = false
  rw [h]; rfl
theorem spoilt_bad {m : Nat} {k : Bool} {ws : List (List Nat)} {bl : List D} {r : Nat} (o : ownOk ws = true) : ∀ y ∈ spL k ws (.tup bl) bl r, funB (m + 1) y = false := by
  unfold ownOk at o
  simp only [Bool.and_eq_true, Bool.not_eq_true', List.all_cons, List.all_nil, Bool.and_true] at o
  obtain ⟨⟨⟨⟨⟨⟨o1, o2⟩, o3⟩, o4⟩, o5⟩, o6⟩, o7, o8, o9⟩ := o
  have hW : isE (m + 1) (.tup (ws.map D.str)) = false := by
    cases ws with
    | nil => rfl
    | cons w r =>
      rw [List.all_cons, Bool.and_eq_true, Bool.and_eq_true, decide_eq_true_eq] at o2
      exact bad_str o2.1.2
  have hdo : isE (m + 1) (.tup [.str [116, 104, 101], .str [100, 111]]) = false := by
    show (decide (LX.sizeOf wThe = some 2) && frC [100, 111]) = false
    rw [show frC [100, 111] = false from by decide +kernel, Bool.and_false]
  have five : wordsB (.tup [.str [97], .str [98], .str [99], .str [100], .str [101]]) = false := by decide +kernel
  have e : ∀ a b c, funB (m + 1) (.tup [a, b, c]) = (isBl a && wordsB b && isE (m + 1) c) := fun _ _ _ => rfl
  have z1 : isE (m + 1) .non = false := rfl
  have z2 : isE (m + 1) (.str [120]) = false := rfl
  have z3 : ∀ l, isE (m + 1) (.rol l) = false := fun _ => rfl
  have z4 : isE (m + 1) (.tup [.tup bl]) = false := rfl
  intro y hy
  simp only [spL, List.mem_cons, List.not_mem_nil, or_false] at hy
  rcases hy with rfl | rfl | rfl | rfl | rfl | rfl | rfl | rfl | rfl | rfl | rfl | rfl | rfl | rfl | rfl | rfl | rfl | rfl | rfl | rfl | rfl | rfl | rfl | rfl | rfl | rfl | rfl | rfl
  all_goals first
    | rfl
    | (rw [e]; simp only [o4, o5, o6, o7, o8, o9, five, hdo, hW, z1, z2, z3, z4, Bool.and_false, Bool.false_and]; done)
theorem spoilt_dep {t : Nat} {k : Bool} {ws : List (List Nat)} {bl : List D} {r : Nat} (hd : dep (.tup bl) ≤ t) : ∀ y ∈ spL k ws (.tup bl) bl r, dep y ≤ t + 2 := by
  have d1 : depL bl + 1 ≤ t := by rw [dep_tup] at hd; exact hd
  intro y hy
  simp only [spL, List.mem_cons, List.not_mem_nil, or_false] at hy
  rcases hy with rfl | rfl | rfl | rfl | rfl | rfl | rfl | rfl | rfl | rfl | rfl | rfl | rfl | rfl | rfl | rfl | rfl | rfl | rfl | rfl | rfl | rfl | rfl | rfl | rfl | rfl | rfl | rfl
  all_goals simp only [Tq.dep, depL, depL_app, str_dep, cut_dep]
  all_goals omega
theorem spoilt_kn {h : TH} {k : Bool} {ws : List (List Nat)} {bl : List D} {r : Nat} (o : ownOk ws = true) (kb : kn h (.tup bl)) (kr : kn h (.ref r)) : ∀ y ∈ spL k ws (.tup bl) bl r, kn h y := by
  unfold ownOk at o
  simp only [Bool.and_eq_true, Nat.ble_eq] at o
  obtain ⟨⟨⟨⟨⟨⟨o1, o2⟩, _⟩, _⟩, _⟩, _⟩, _⟩ := o
  have kw := str_kn h ws o2
  have lw : (ws.map D.str).length ≤ 4 := by rw [List.length_map]; exact o1
  have l3 := cut_le (ws.map D.str) none (some 3)
  have k3 : knL h (cut (ws.map D.str) none (some 3)) := knL_cut kw
  have kb2 : bl.length ≤ 100 := kb.1
  have kb3 : knL h bl := kb.2
  have ks : ∀ w : List Nat, Nat.ble w.length 100 = true → kn h (.str w) := fun w hw => by
    show w.length ≤ 100
    exact Nat.ble_eq.mp hw
  intro y hy
  simp only [spL, List.mem_cons, List.not_mem_nil, or_false] at hy
  rcases hy with rfl | rfl | rfl | rfl | rfl | rfl | rfl | rfl | rfl | rfl | rfl | rfl | rfl | rfl | rfl | rfl | rfl | rfl | rfl | rfl | rfl | rfl | rfl | rfl | rfl | rfl | rfl | rfl
  all_goals simp only [kn, knL, List.length_append, List.length_cons, List.length_nil]
  all_goals first
    | trivial
    | exact kr
    | (repeat' apply And.intro) <;> first
      | trivial
      | omega
      | assumption
      | exact knL_app kw ⟨ks _ rfl, ks _ rfl, trivial⟩
      | exact knL_app kw ⟨ks _ rfl, trivial⟩
      | exact knL_app k3 ⟨ks _ rfl, trivial⟩
      | exact knL_app k3 ⟨trivial, trivial⟩
      | decide
theorem i_bb {s t : Bool} {kk : Bool → Prop} : isT (.bl s) (.bl t) kk = kk (s == t) := rfl
theorem sem (ns : List Int) (h : ns.length ≤ 63) : semF p 80 "law" [.scr (ns.map D.int)] (fun _ => none) (fun v _ => v = .bl true) fun _ _ => False := by
  have hL : LINE = 16777216 := rfl
  refine enter (fd := f_law) rfl ⟨rfl, ?_⟩
  simp only [f_law, wSs, wS, wE, wL, wT, wB, wBT, wC, wO, wD, wI, bnd_nm, Tq.wipe, entry, List.map_cons, List.map_nil, List.length_cons, List.length_nil, Nat.zero_add, List.replicate_succ, List.replicate_zero, List.cons_append, List.nil_append, Nat.reduceAdd, Nat.reduceSub, List.set_cons_zero, List.set_cons_succ, need_some, need_none, ups_same, ups_ups2, List.zip_cons_cons, List.zip_nil_left, List.foldl_cons, List.foldl_nil, bnd_nm, bnd_tp, bnd_rl, b_ai, b_as, b_at, b_rr, b_rf, b_fr, b_ff, b_mr, b_si, b_mi, b_ms, b_mt, b_fd, b_md, b_pw, v_fn, v_wd, v_gl, c_lt, c_le, c_gt, c_ge, c_eq, c_ne, c_is, c_isn, c_in, c_nin, f_non, f_bl, f_int, f_str, e_ii, e_ss, e_bb, i_non, n_non, n_int, n_str, n_tup, n_ref, n_rol, n_bl, in_ref, rIn_l, rIn_d, in_tup, in_rol, in_str, in_glo, ky_i, ky_s, t_non, t_bl, t_int, t_str, t_tup, t_rol, t_ref, rTru_l, rTru_d, ix_tup, ix_rol, ix_scr, ix_str, ix_ref, rIx_l, rIx_d, rIx_r, ix_glo, at0, at1, at2, sl_str, sl_tup, sl_rol, sl_scr, sl_ref, rSl_l, bl_len, l_str, l_tup, l_rol, l_scr, l_ref, rLen_l, rLen_d, bl_max, bl_min, bl_ii, bl_ib, bl_is, bl_st, bl_tup, bl_lst, bl_all, bl_any, bl_sum, bl_srt, rSort_d, s_ref, s_tup, s_rol, s_scr, ls_ref, ls_rol, rSeq_l, isi_non, isi_bl, isi_int, isi_str, isi_tup, isi_rol, isi_ref, rIsi_l, rIsi_d, p_app, p_get, rLst_l, rDic_d, p_up, p_spl, p_jn, p_wg, m_app, rApp_l, m_get, m_get2, rGet_d, m_up, m_spl, m_jn, m_wg, s_set, rSet_l, rSet_d, ixN0, ixN1, w_tup, w_rol, w_scr, w_str, w_ref, rWlk_l, j0, jS, Bool.true_and]
  have hcut : (cut (ns.map D.int) none (some 19)).length ≤ 63 := Nat.le_trans (cut_le _ _ _) (by simpa using h)
  refine ⟨by omega, by omega, ?_⟩
  refine forI (fun ds σ k => (∃ s1 s2 s3 s4 s5 s6, σ = [some (.scr (ns.map D.int)), s1, s2, s3, s4, s5, s6]) ∧ (k = fun _ => none) ∧ ∀ d ∈ ds, ∃ i : Nat, d = .int i ∧ i < 1000) (fun _ _ _ _ => trivial) ?_ ?_ _ _ _ ⟨⟨_, _, _, _, _, _, rfl⟩, rfl, ?_⟩
  · rintro σ k _
    exact wk_self trivial
  · rintro d ds σ k K ⟨⟨s1, s2, s3, s4, s5, s6, rfl⟩, rfl, hd⟩ hK
    obtain ⟨i, rfl, hi⟩ := hd _ List.mem_cons_self
    have again : ∀ σ' h', (∃ s1 s2 s3 s4 s5 s6, σ' = [some (.scr (ns.map D.int)), s1, s2, s3, s4, s5, s6]) → K σ' h' := fun σ' h' e => hK σ' h' (fun _ => none) (fun _ _ z => by cases z) ⟨e, rfl, fun d m => hd d (List.mem_cons_of_mem _ m)⟩
    simp only [entry, List.map_cons, List.map_nil, List.length_cons, List.length_nil, Nat.zero_add, List.replicate_succ, List.replicate_zero, List.cons_append, List.nil_append, Nat.reduceAdd, Nat.reduceSub, List.set_cons_zero, List.set_cons_succ, need_some, need_none, ups_same, ups_ups2, List.zip_cons_cons, List.zip_nil_left, List.foldl_cons, List.foldl_nil, bnd_nm, bnd_tp, bnd_rl, b_ai, b_as, b_at, b_rr, b_rf, b_fr, b_ff, b_mr, b_si, b_mi, b_ms, b_mt, b_fd, b_md, b_pw, v_fn, v_wd, v_gl, c_lt, c_le, c_gt, c_ge, c_eq, c_ne, c_is, c_isn, c_in, c_nin, f_non, f_bl, f_int, f_str, e_ii, e_ss, e_bb, i_non, n_non, n_int, n_str, n_tup, n_ref, n_rol, n_bl, in_ref, rIn_l, rIn_d, in_tup, in_rol, in_str, in_glo, ky_i, ky_s, t_non, t_bl, t_int, t_str, t_tup, t_rol, t_ref, rTru_l, rTru_d, ix_tup, ix_rol, ix_scr, ix_str, ix_ref, rIx_l, rIx_d, rIx_r, ix_glo, at0, at1, at2, sl_str, sl_tup, sl_rol, sl_scr, sl_ref, rSl_l, bl_len, l_str, l_tup, l_rol, l_scr, l_ref, rLen_l, rLen_d, bl_max, bl_min, bl_ii, bl_ib, bl_is, bl_st, bl_tup, bl_lst, bl_all, bl_any, bl_sum, bl_srt, rSort_d, s_ref, s_tup, s_rol, s_scr, ls_ref, ls_rol, rSeq_l, isi_non, isi_bl, isi_int, isi_str, isi_tup, isi_rol, isi_ref, rIsi_l, rIsi_d, p_app, p_get, rLst_l, rDic_d, p_up, p_spl, p_jn, p_wg, m_app, rApp_l, m_get, m_get2, rGet_d, m_up, m_spl, m_jn, m_wg, s_set, rSet_l, rSet_d, ixN0, ixN1, w_tup, w_rol, w_scr, w_str, w_ref, rWlk_l, j0, jS, Bool.true_and]
    refine left_ok (p := p) (n := 77) rfl rfl (by omega) (by omega) fun g u v eg na => ?_
    refine pick_ok (n := 78) genP.pick (by decide) (by decide) fun k1 u1 v1 b1 b2 => ?_
    simp only [entry, List.map_cons, List.map_nil, List.length_cons, List.length_nil, Nat.zero_add, List.replicate_succ, List.replicate_zero, List.cons_append, List.nil_append, Nat.reduceAdd, Nat.reduceSub, List.set_cons_zero, List.set_cons_succ, need_some, need_none, ups_same, ups_ups2, List.zip_cons_cons, List.zip_nil_left, List.foldl_cons, List.foldl_nil, bnd_nm, bnd_tp, bnd_rl, b_ai, b_as, b_at, b_rr, b_rf, b_fr, b_ff, b_mr, b_si, b_mi, b_ms, b_mt, b_fd, b_md, b_pw, v_fn, v_wd, v_gl, c_lt, c_le, c_gt, c_ge, c_eq, c_ne, c_is, c_isn, c_in, c_nin, f_non, f_bl, f_int, f_str, e_ii, e_ss, e_bb, i_non, n_non, n_int, n_str, n_tup, n_ref, n_rol, n_bl, in_ref, rIn_l, rIn_d, in_tup, in_rol, in_str, in_glo, ky_i, ky_s, t_non, t_bl, t_int, t_str, t_tup, t_rol, t_ref, rTru_l, rTru_d, ix_tup, ix_rol, ix_scr, ix_str, ix_ref, rIx_l, rIx_d, rIx_r, ix_glo, at0, at1, at2, sl_str, sl_tup, sl_rol, sl_scr, sl_ref, rSl_l, bl_len, l_str, l_tup, l_rol, l_scr, l_ref, rLen_l, rLen_d, bl_max, bl_min, bl_ii, bl_ib, bl_is, bl_st, bl_tup, bl_lst, bl_all, bl_any, bl_sum, bl_srt, rSort_d, s_ref, s_tup, s_rol, s_scr, ls_ref, ls_rol, rSeq_l, isi_non, isi_bl, isi_int, isi_str, isi_tup, isi_rol, isi_ref, rIsi_l, rIsi_d, p_app, p_get, rLst_l, rDic_d, p_up, p_spl, p_jn, p_wg, m_app, rApp_l, m_get, m_get2, rGet_d, m_up, m_spl, m_jn, m_wg, s_set, rSet_l, rSet_d, ixN0, ixN1, w_tup, w_rol, w_scr, w_str, w_ref, rWlk_l, j0, jS, Bool.true_and]
    refine LY.any_ok genP 3 (1 + k1) (by omega) 79 (by decide) g u1 v1 _ _ fun body u2 v2 xb => ?_
    have gb := xb.good
    obtain ⟨bl, rfl, lb⟩ : ∃ bl, body = .tup bl ∧ bl.length ≤ 10 := by
      cases xb <;> exact ⟨_, rfl, by simp only [List.length_cons, List.length_nil]; omega⟩
    refine pick_ok (n := 78) genP.pick (by decide) (by decide) fun k2 u3 v3 b3 b4 => ?_
    simp only [entry, List.map_cons, List.map_nil, List.length_cons, List.length_nil, Nat.zero_add, List.replicate_succ, List.replicate_zero, List.cons_append, List.nil_append, Nat.reduceAdd, Nat.reduceSub, List.set_cons_zero, List.set_cons_succ, need_some, need_none, ups_same, ups_ups2, List.zip_cons_cons, List.zip_nil_left, List.foldl_cons, List.foldl_nil, bnd_nm, bnd_tp, bnd_rl, b_ai, b_as, b_at, b_rr, b_rf, b_fr, b_ff, b_mr, b_si, b_mi, b_ms, b_mt, b_fd, b_md, b_pw, v_fn, v_wd, v_gl, c_lt, c_le, c_gt, c_ge, c_eq, c_ne, c_is, c_isn, c_in, c_nin, f_non, f_bl, f_int, f_str, e_ii, e_ss, e_bb, i_non, n_non, n_int, n_str, n_tup, n_ref, n_rol, n_bl, in_ref, rIn_l, rIn_d, in_tup, in_rol, in_str, in_glo, ky_i, ky_s, t_non, t_bl, t_int, t_str, t_tup, t_rol, t_ref, rTru_l, rTru_d, ix_tup, ix_rol, ix_scr, ix_str, ix_ref, rIx_l, rIx_d, rIx_r, ix_glo, at0, at1, at2, sl_str, sl_tup, sl_rol, sl_scr, sl_ref, rSl_l, bl_len, l_str, l_tup, l_rol, l_scr, l_ref, rLen_l, rLen_d, bl_max, bl_min, bl_ii, bl_ib, bl_is, bl_st, bl_tup, bl_lst, bl_all, bl_any, bl_sum, bl_srt, rSort_d, s_ref, s_tup, s_rol, s_scr, ls_ref, ls_rol, rSeq_l, isi_non, isi_bl, isi_int, isi_str, isi_tup, isi_rol, isi_ref, rIsi_l, rIsi_d, p_app, p_get, rLst_l, rDic_d, p_up, p_spl, p_jn, p_wg, m_app, rApp_l, m_get, m_get2, rGet_d, m_up, m_spl, m_jn, m_wg, s_set, rSet_l, rSet_d, ixN0, ixN1, w_tup, w_rol, w_scr, w_str, w_ref, rWlk_l, j0, jS, Bool.true_and, d_fl f_int f_int]
    refine own_ok (n := 77) fun ws u4 v4 ow => ?_
    have ow2 := ow
    unfold ownOk at ow2
    simp only [Bool.and_eq_true, Nat.ble_eq] at ow2
    have kW := fun h => str_kn h ws ow2.1.1.1.1.1.2
    have lW := ow2.1.1.1.1.1.1
    have wW := ow2.1.1.1.1.2
    have kb := gb.2.2
    have tru : ∀ (x : Bool) (W : List D), wordsB (.tup W) = true → funB 10 (.tup [.bl x, .tup W, .tup bl]) = true := by
      intro x W hw
      show (true && wordsB (.tup W) && isE 10 (.tup bl)) = true
      rw [hw, gb.2.1 9 (by omega)]; rfl
    have dd : ∀ (x : Bool) (W : List D), depL W = 0 → dep (.tup [.bl x, .tup W, .tup bl]) ≤ 10 := by
      intro x W hw
      have := gb.1
      simp only [dep_tup, depL_c, depL_n, hw] at this ⊢
      have e : Tq.dep (.bl x) = 0 := rfl
      omega
    refine ⟨by decide, ?_⟩
    refine fun_ok (n := 78) (m := 9) (by decide) (dd _ _ (str_dep ws)) ⟨by simp, trivial, ⟨by rw [List.length_map]; omega, kW _⟩, kb _, trivial⟩ ?_
    rw [tru _ _ wW]
    simp only [entry, List.map_cons, List.map_nil, List.length_cons, List.length_nil, Nat.zero_add, List.replicate_succ, List.replicate_zero, List.cons_append, List.nil_append, Nat.reduceAdd, Nat.reduceSub, List.set_cons_zero, List.set_cons_succ, need_some, need_none, ups_same, ups_ups2, List.zip_cons_cons, List.zip_nil_left, List.foldl_cons, List.foldl_nil, bnd_nm, bnd_tp, bnd_rl, b_ai, b_as, b_at, b_rr, b_rf, b_fr, b_ff, b_mr, b_si, b_mi, b_ms, b_mt, b_fd, b_md, b_pw, v_fn, v_wd, v_gl, c_lt, c_le, c_gt, c_ge, c_eq, c_ne, c_is, c_isn, c_in, c_nin, f_non, f_bl, f_int, f_str, e_ii, e_ss, e_bb, i_non, n_non, n_int, n_str, n_tup, n_ref, n_rol, n_bl, in_ref, rIn_l, rIn_d, in_tup, in_rol, in_str, in_glo, ky_i, ky_s, t_non, t_bl, t_int, t_str, t_tup, t_rol, t_ref, rTru_l, rTru_d, ix_tup, ix_rol, ix_scr, ix_str, ix_ref, rIx_l, rIx_d, rIx_r, ix_glo, at0, at1, at2, sl_str, sl_tup, sl_rol, sl_scr, sl_ref, rSl_l, bl_len, l_str, l_tup, l_rol, l_scr, l_ref, rLen_l, rLen_d, bl_max, bl_min, bl_ii, bl_ib, bl_is, bl_st, bl_tup, bl_lst, bl_all, bl_any, bl_sum, bl_srt, rSort_d, s_ref, s_tup, s_rol, s_scr, ls_ref, ls_rol, rSeq_l, isi_non, isi_bl, isi_int, isi_str, isi_tup, isi_rol, isi_ref, rIsi_l, rIsi_d, p_app, p_get, rLst_l, rDic_d, p_up, p_spl, p_jn, p_wg, m_app, rApp_l, m_get, m_get2, rGet_d, m_up, m_spl, m_jn, m_wg, s_set, rSet_l, rSet_d, ixN0, ixN1, w_tup, w_rol, w_scr, w_str, w_ref, rWlk_l, j0, jS, Bool.true_and, Bool.not_true, Bool.not_false, Bool.false_eq_true, Bool.true_eq_false, eq_self, if_true, if_false, Bool.true_and, Bool.and_true, Bool.false_and, Bool.and_false, reduceIte, i_bb, beq_self_eq_true]
    refine ⟨by decide, by decide, ?_⟩
    refine fun_ok (n := 78) (m := 9) (by decide) (dd _ _ rfl) ⟨by simp, trivial, ⟨by simp, trivial⟩, kb _, trivial⟩ ?_
    rw [tru _ _ rfl]
    simp only [entry, List.map_cons, List.map_nil, List.length_cons, List.length_nil, Nat.zero_add, List.replicate_succ, List.replicate_zero, List.cons_append, List.nil_append, Nat.reduceAdd, Nat.reduceSub, List.set_cons_zero, List.set_cons_succ, need_some, need_none, ups_same, ups_ups2, List.zip_cons_cons, List.zip_nil_left, List.foldl_cons, List.foldl_nil, bnd_nm, bnd_tp, bnd_rl, b_ai, b_as, b_at, b_rr, b_rf, b_fr, b_ff, b_mr, b_si, b_mi, b_ms, b_mt, b_fd, b_md, b_pw, v_fn, v_wd, v_gl, c_lt, c_le, c_gt, c_ge, c_eq, c_ne, c_is, c_isn, c_in, c_nin, f_non, f_bl, f_int, f_str, e_ii, e_ss, e_bb, i_non, n_non, n_int, n_str, n_tup, n_ref, n_rol, n_bl, in_ref, rIn_l, rIn_d, in_tup, in_rol, in_str, in_glo, ky_i, ky_s, t_non, t_bl, t_int, t_str, t_tup, t_rol, t_ref, rTru_l, rTru_d, ix_tup, ix_rol, ix_scr, ix_str, ix_ref, rIx_l, rIx_d, rIx_r, ix_glo, at0, at1, at2, sl_str, sl_tup, sl_rol, sl_scr, sl_ref, rSl_l, bl_len, l_str, l_tup, l_rol, l_scr, l_ref, rLen_l, rLen_d, bl_max, bl_min, bl_ii, bl_ib, bl_is, bl_st, bl_tup, bl_lst, bl_all, bl_any, bl_sum, bl_srt, rSort_d, s_ref, s_tup, s_rol, s_scr, ls_ref, ls_rol, rSeq_l, isi_non, isi_bl, isi_int, isi_str, isi_tup, isi_rol, isi_ref, rIsi_l, rIsi_d, p_app, p_get, rLst_l, rDic_d, p_up, p_spl, p_jn, p_wg, m_app, rApp_l, m_get, m_get2, rGet_d, m_up, m_spl, m_jn, m_wg, s_set, rSet_l, rSet_d, ixN0, ixN1, w_tup, w_rol, w_scr, w_str, w_ref, rWlk_l, j0, jS, Bool.true_and, Bool.not_true, Bool.not_false, Bool.false_eq_true, Bool.true_eq_false, eq_self, if_true, if_false, Bool.true_and, Bool.and_true, Bool.false_and, Bool.and_false, reduceIte, i_bb, beq_self_eq_true]
    refine spoilt_ok (n := 78) lW lb fun r nr => ?_
    simp only [entry, List.map_cons, List.map_nil, List.length_cons, List.length_nil, Nat.zero_add, List.replicate_succ, List.replicate_zero, List.cons_append, List.nil_append, Nat.reduceAdd, Nat.reduceSub, List.set_cons_zero, List.set_cons_succ, need_some, need_none, ups_same, ups_ups2, List.zip_cons_cons, List.zip_nil_left, List.foldl_cons, List.foldl_nil, bnd_nm, bnd_tp, bnd_rl, b_ai, b_as, b_at, b_rr, b_rf, b_fr, b_ff, b_mr, b_si, b_mi, b_ms, b_mt, b_fd, b_md, b_pw, v_fn, v_wd, v_gl, c_lt, c_le, c_gt, c_ge, c_eq, c_ne, c_is, c_isn, c_in, c_nin, f_non, f_bl, f_int, f_str, e_ii, e_ss, e_bb, i_non, n_non, n_int, n_str, n_tup, n_ref, n_rol, n_bl, in_ref, rIn_l, rIn_d, in_tup, in_rol, in_str, in_glo, ky_i, ky_s, t_non, t_bl, t_int, t_str, t_tup, t_rol, t_ref, rTru_l, rTru_d, ix_tup, ix_rol, ix_scr, ix_str, ix_ref, rIx_l, rIx_d, rIx_r, ix_glo, at0, at1, at2, sl_str, sl_tup, sl_rol, sl_scr, sl_ref, rSl_l, bl_len, l_str, l_tup, l_rol, l_scr, l_ref, rLen_l, rLen_d, bl_max, bl_min, bl_ii, bl_ib, bl_is, bl_st, bl_tup, bl_lst, bl_all, bl_any, bl_sum, bl_srt, rSort_d, s_ref, s_tup, s_rol, s_scr, ls_ref, ls_rol, rSeq_l, isi_non, isi_bl, isi_int, isi_str, isi_tup, isi_rol, isi_ref, rIsi_l, rIsi_d, p_app, p_get, rLst_l, rDic_d, p_up, p_spl, p_jn, p_wg, m_app, rApp_l, m_get, m_get2, rGet_d, m_up, m_spl, m_jn, m_wg, s_set, rSet_l, rSet_d, ixN0, ixN1, w_tup, w_rol, w_scr, w_str, w_ref, rWlk_l, j0, jS, Bool.true_and]
    generalize eh : ups (g.at u4 v4) r (.dK []) = h1
    have er : h1 r = some (.dK []) := by rw [← eh]; exact ups_same
    refine forI (fun ds σ k => (∃ s1 s2 s3 s4 s5 s6, σ = [some (.scr (ns.map D.int)), s1, s2, s3, s4, s5, s6]) ∧ k = h1 ∧ ∀ y ∈ ds, y ∈ spL (k2 == 0) ws (.tup bl) bl r) (fun _ _ _ _ => trivial) ?_ ?_ _ _ _ ⟨⟨_, _, _, _, _, _, rfl⟩, rfl, fun y hy => hy⟩
    · rintro σ k ⟨e, _, _⟩
      exact again σ k e
    · rintro y ds σ k K2 ⟨⟨t1, t2, t3, t4, t5, t6, rfl⟩, rfl, hy⟩ hK2
      have my := hy y List.mem_cons_self
      simp only [entry, List.map_cons, List.map_nil, List.length_cons, List.length_nil, Nat.zero_add, List.replicate_succ, List.replicate_zero, List.cons_append, List.nil_append, Nat.reduceAdd, Nat.reduceSub, List.set_cons_zero, List.set_cons_succ, need_some, need_none, ups_same, ups_ups2, List.zip_cons_cons, List.zip_nil_left, List.foldl_cons, List.foldl_nil, bnd_nm, bnd_tp, bnd_rl, b_ai, b_as, b_at, b_rr, b_rf, b_fr, b_ff, b_mr, b_si, b_mi, b_ms, b_mt, b_fd, b_md, b_pw, v_fn, v_wd, v_gl, c_lt, c_le, c_gt, c_ge, c_eq, c_ne, c_is, c_isn, c_in, c_nin, f_non, f_bl, f_int, f_str, e_ii, e_ss, e_bb, i_non, n_non, n_int, n_str, n_tup, n_ref, n_rol, n_bl, in_ref, rIn_l, rIn_d, in_tup, in_rol, in_str, in_glo, ky_i, ky_s, t_non, t_bl, t_int, t_str, t_tup, t_rol, t_ref, rTru_l, rTru_d, ix_tup, ix_rol, ix_scr, ix_str, ix_ref, rIx_l, rIx_d, rIx_r, ix_glo, at0, at1, at2, sl_str, sl_tup, sl_rol, sl_scr, sl_ref, rSl_l, bl_len, l_str, l_tup, l_rol, l_scr, l_ref, rLen_l, rLen_d, bl_max, bl_min, bl_ii, bl_ib, bl_is, bl_st, bl_tup, bl_lst, bl_all, bl_any, bl_sum, bl_srt, rSort_d, s_ref, s_tup, s_rol, s_scr, ls_ref, ls_rol, rSeq_l, isi_non, isi_bl, isi_int, isi_str, isi_tup, isi_rol, isi_ref, rIsi_l, rIsi_d, p_app, p_get, rLst_l, rDic_d, p_up, p_spl, p_jn, p_wg, m_app, rApp_l, m_get, m_get2, rGet_d, m_up, m_spl, m_jn, m_wg, s_set, rSet_l, rSet_d, ixN0, ixN1, w_tup, w_rol, w_scr, w_str, w_ref, rWlk_l, j0, jS, Bool.true_and]
      refine fun_ok (n := 78) (m := 9) (by decide) (Nat.le_trans (spoilt_dep gb.1 y my) (by decide)) (spoilt_kn ow (kb _) ⟨_, er⟩ y my) ?_
      rw [spoilt_bad ow y my]
      simp only [entry, List.map_cons, List.map_nil, List.length_cons, List.length_nil, Nat.zero_add, List.replicate_succ, List.replicate_zero, List.cons_append, List.nil_append, Nat.reduceAdd, Nat.reduceSub, List.set_cons_zero, List.set_cons_succ, need_some, need_none, ups_same, ups_ups2, List.zip_cons_cons, List.zip_nil_left, List.foldl_cons, List.foldl_nil, bnd_nm, bnd_tp, bnd_rl, b_ai, b_as, b_at, b_rr, b_rf, b_fr, b_ff, b_mr, b_si, b_mi, b_ms, b_mt, b_fd, b_md, b_pw, v_fn, v_wd, v_gl, c_lt, c_le, c_gt, c_ge, c_eq, c_ne, c_is, c_isn, c_in, c_nin, f_non, f_bl, f_int, f_str, e_ii, e_ss, e_bb, i_non, n_non, n_int, n_str, n_tup, n_ref, n_rol, n_bl, in_ref, rIn_l, rIn_d, in_tup, in_rol, in_str, in_glo, ky_i, ky_s, t_non, t_bl, t_int, t_str, t_tup, t_rol, t_ref, rTru_l, rTru_d, ix_tup, ix_rol, ix_scr, ix_str, ix_ref, rIx_l, rIx_d, rIx_r, ix_glo, at0, at1, at2, sl_str, sl_tup, sl_rol, sl_scr, sl_ref, rSl_l, bl_len, l_str, l_tup, l_rol, l_scr, l_ref, rLen_l, rLen_d, bl_max, bl_min, bl_ii, bl_ib, bl_is, bl_st, bl_tup, bl_lst, bl_all, bl_any, bl_sum, bl_srt, rSort_d, s_ref, s_tup, s_rol, s_scr, ls_ref, ls_rol, rSeq_l, isi_non, isi_bl, isi_int, isi_str, isi_tup, isi_rol, isi_ref, rIsi_l, rIsi_d, p_app, p_get, rLst_l, rDic_d, p_up, p_spl, p_jn, p_wg, m_app, rApp_l, m_get, m_get2, rGet_d, m_up, m_spl, m_jn, m_wg, s_set, rSet_l, rSet_d, ixN0, ixN1, w_tup, w_rol, w_scr, w_str, w_ref, rWlk_l, j0, jS, Bool.true_and, Bool.not_true, Bool.not_false, Bool.false_eq_true, Bool.true_eq_false, eq_self, if_true, if_false, Bool.true_and, Bool.and_true, Bool.false_and, Bool.and_false, reduceIte, i_bb, beq_self_eq_true]
      exact hK2 _ _ _ (Le.refl _) ⟨⟨_, _, _, _, _, _, rfl⟩, rfl, fun z hz => hy z (List.mem_cons_of_mem _ hz)⟩
  · intro d hd
    obtain ⟨i, hi, rfl⟩ := List.mem_map.mp hd
    refine ⟨i, by simp, ?_⟩
    have := List.mem_range.mp hi
    omega
end K44
namespace K44
open PySem Tq
def st (i : Nat) : Stmt := PySem.Challenge.rw_onceroom_k44_functions_of_anything.prog.main.body.getD i (.Pass ⟨0, 0, 0, 0⟩)
def ps : List (Fn × Stmt) := [(f_is_word, st 3), (f_is_free, st 7), (f_is_whole, st 12), (f_are_expressions, st 13), (f_is_make, st 14), (f_is_do, st 15), (f_is_fold, st 16), (f_is_expression, st 17), (f_are_words, st 18), (f_is_function, st 19), (f_law_cell_at, st 21), (f_law_left, st 22), (f_law_pick, st 23), (f_law_number, st 24), (f_law_free, st 25), (f_law_said, st 26), (f_law_deeds, st 27), (f_law_any, st 28), (f_law_made, st 29), (f_law_own, st 30), (f_law_spoilt, st 31), (f_law, st 32)]
def loose : List Str := ["SMALL", "LONGEST", "is_word", "COUNTS", "SPOKEN", "is_free", "SORTS", "MOST_WORDS", "SIZES", "is_whole", "are_expressions", "is_make", "is_do", "is_fold", "is_expression", "are_words", "is_function", "_law_cell_at", "_law_left", "_law_pick", "_law_number", "_law_free", "_law_said", "_law_deeds", "_law_any", "_law_made", "_law_own", "_law_spoilt"]
def lawAt : Nat := 32
end K44

namespace K44
open PySem Tq
theorem chk_all : ∀ q ∈ ps, chkFn p free q.1 q.2 = true := by
  have h : (ps.all fun q => chkFn p free q.1 q.2) = true := by decide +kernel
  exact fun q hq => List.all_eq_true.mp h q hq
abbrev R : PySem.W.OpenRow := PySem.W.OpenLaw.row PySem.Challenge.rw_onceroom_k44_functions_of_anything
theorem run (w : World) : HandSHeadRun.RunEq R (PySem.W.view R.prog [lawAt]) (hookQ 4 p ps free) (fun s => obsQG 4 p ps free (HandSHeadRun.getT s)) 2000 loose w :=
  PySem.W.byRow2 "special-get-raises" (P := fun w => HandSHeadRun.RunEq R (PySem.W.view R.prog [lawAt]) (hookQ 4 p ps free) (fun s => obsQG 4 p ps free (HandSHeadRun.getT s)) 2000 loose w) (fun w => by intro os; kernel_rfl) (fun w => by intro os; kernel_rfl) w
end K44
open PySem PySem.W PySem.Calls PyProof.Rows Tq
theorem PySem.Challenge.cw_onceroom_k44_functions_of_anything_holds : PySem.Challenge.rw_onceroom_k44_functions_of_anything.Holds := by
  w_on; o_law
  refine HandSHeadRun.head_any (r := OpenLaw.row PySem.Challenge.rw_onceroom_k44_functions_of_anything) (q := view (OpenLaw.row PySem.Challenge.rw_onceroom_k44_functions_of_anything).prog [K44.lawAt]) (H := hookQ 4 K44.p K44.ps K44.free) (ob := fun s => obsQG 4 K44.p K44.ps K44.free (HandSHeadRun.getT s)) (M := 2000) (loose := K44.loose) (d := HandSHeadRun.topDef (OpenLaw.row PySem.Challenge.rw_onceroom_k44_functions_of_anything).prog K44.lawAt) (kwd := []) obQ_eq
    (by kernel_rfl) (fun s => by kernel_rfl) K44.run (by kernel_rfl) (by kernel_rfl) (by kernel_rfl) (by rfl) (by first | assumption | decide +kernel) (by decide +kernel) ⟨rfl, rfl, rfl, rfl, rfl, by decide +kernel⟩ ?hw ?hc
  case hw => w_witness2
  case hc =>
    have en : (HandSHeadRun.topDef (OpenLaw.row PySem.Challenge.rw_onceroom_k44_functions_of_anything).prog K44.lawAt).name = ("law" : PySem.Str) := by kernel_rfl
    refine law_q (l := PySem.Challenge.rw_onceroom_k44_functions_of_anything) (n := 63) (k := 80) (x := "_law_script") (p := K44.p) (ps := K44.ps) (free := K44.free) rfl (by decide) (by kernel_rfl) ⟨rfl, by decide, by decide⟩ rfl (by decide +kernel) K44.chk_all ?_ ?_
    · exact ⟨(K44.f_law, K44.st K44.lawAt), by simp [K44.ps, K44.lawAt], by rw [en]; rfl, rfl⟩
    · rw [en]
      exact K44.sem
