import PyProof.Rows.All
import Wide.All
import OpenK.AllK
import Wide.FinOn
import PySem.Str
import PyProof.EqAt
import PyProof.EqKinds
import PyProof.TupleCall
import HandS.Base
import HandS.Call
import HandS.List
import HandS.Comp
import HandS.Dict
import HandS.Iter
import HandS.Text
import HandS.Exc
import HandS.Words
import HandS.WordsList
import HandS.WordsDict
import HandS.WordsExc
import HandS.Wide
import HandS.Flow
import HandS.Lambda
import HandS.Nested
import HandS.TupAny
import HandS.TupMul
import HandS.Style
import HandS.Codes
import HandS.WideBits
import HandS.Deep
import KE.LtSeq
import HandS.IsInst
import HandS.Zip
import HandS.Zip0
import HandS.Small
import HandS.ExcOwn
import HandS.Defaults
import KE.SortData
import KE.DataMinMax
import KE.SortKeyHeap
import KE.SortKeyed
import HandS.SortKw
import HandS.NestedK
import HandS.HeadHook4
import HandS.ExcInit
import HandS.CallLocal
import HandS.SetFor
import HandS.ExcIs
import KE.KStateDown
import HandS.Head0
import HandS.Head1
import HandS.Head2
import HandS.HeadEnd
import HandS.HeadHook1
import HandS.HeadHook2
import HandS.HeadHook3
import HandS.HeadWalk
import PySem.Challenge.RW_wordreaders_k90_whole_last_words_of_step
set_option Elab.async false
section
set_option linter.all false
/-! D1: data trees, a small language over them, what its pieces come to. Pure. -/
namespace Dp

/-- data: what a Python value is as a tree -/
inductive D where
  | non | bl (b : Bool) | int (i : Int) | str (s : List Nat)
  | tup (l : List D) | lst (l : List D) | dct (ks vs : List D)
  | scr (l : List D)
  | obj (c : Nat) (fs : List String) (vs : List D)
  | exc (c : Nat) | fn (f : Nat)
  deriving Inhabited

/-- the greatest length of a text, a list -/
abbrev LIM : Nat := 16777216

/-- what a slot holds, what an expression gives: frz: may be shared, never changes; own: a list, a dict, an instance that nothing else holds; clo: a closure with what it captured; lam: a closure over this very frame -/
inductive Vl where
  | frz (d : D) | own (d : D) | clo (key : Nat) (caps : List D) | lam (key : Nat)
  deriving Inhabited

inductive Bop where | add | sub | mul | fdv | mod | pow
  deriving DecidableEq
inductive Cop where | eq | ne | lt | le | gt | ge | inn | nin | is | isn
  deriving DecidableEq
inductive Ty where | int | bool | str | tuple | list | verr | cls (c : Nat) | exc (c : Nat)
  deriving DecidableEq
inductive Bi where | len | abs | int | min | max | sum | any | all | sorted | srtSet | lenSet | repr | list | tuple | dict
  deriving DecidableEq
inductive Mt where | join | index | count | get | lstrip
  deriving DecidableEq
inductive Mu where | append | extend | pop | insert | setdefault | update
  deriving DecidableEq

/-- targets: a name, a row of names -/
inductive Tg where | name (i : Nat) | tup (is : List Nat)

mutual
inductive Ex where
  | var (i : Nat) | lit (d : D) | gfn (f : Nat) | gcon (n : Nat)
  | bin (op : Bop) (a b : Ex) | neg (a : Ex) | nt (a : Ex)
  | cmp (op : Cop) (a b : Ex) | chn (op op' : Cop) (a b c : Ex)
  | and (a b : Ex) | or (a b : Ex) | ite (c a b : Ex)
  | tup (es : Exs) | lst (es : Exs) | dct (kvs : Kvs)
  | idx (a i : Ex) | slc (a lo hi : Ex) | rev (a : Ex)
  | bi (f : Bi) (es : Exs) | lstIt (t : It) | tupIt (t : It) | dctIt (t : It)
  | mth (m : Mt) (o : Ex) (es : Exs) | mut (m : Mu) (i : Nat) (es : Exs)
  | call (f : Nat) (es : Exs) | callv (i : Nat) (es : Exs)
  | make (c : Nat) (es : Exs) | attr (o : Ex) (f : String) | umth (f : Nat) (o : Ex) (es : Exs)
  | isi (e : Ex) (ts : List Ty)
  | comp (own : List Nat) (elt : Ex) (tg : Tg) (t : It) (cs : Exs)
  | comp2 (own : List Nat) (elt : Ex) (tg : Tg) (t : It) (cs : Exs) (own2 : List Nat) (tg2 : Tg) (t2 : It) (cs2 : Exs)
  | dcomp (own : List Nat) (k v : Ex) (tg : Tg) (t : It) (cs : Exs)
  | lam (key : Nat) | srtk (a : Ex) (key : Ex)
  | refuse (x : Ex) (tab : List (Nat × List Nat))
inductive Exs where | nil | cons (e : Ex) (es : Exs)
inductive Kvs where | nil | cons (k v : Ex) (r : Kvs)
inductive It where | ex (e : Ex) | rng (es : Exs) | enum (e : Ex) | zip (es : Exs) | keys (e : Ex)
end

mutual
inductive Sm where
  | exp (e : Ex) | ret (e : Ex) | retm (i : Nat) | retN | pass
  | asg (t : Tg) (e : Ex) | par (is : List Nat) (es : Exs)
  | bad | seti (i : Nat) (k e : Ex) | swp (i : Nat) (a b c d : Ex) (j : Nat)
  | aug (i : Nat) (op : Bop) (e : Ex) | setf (f : String) (e : Ex)
  | ite (c : Ex) (a b : Sms) | whl (c : Ex) (b : Sms) | for (t : Tg) (it : It) (b : Sms)
  | raise (c : Nat) (es : Exs) | tryx (b : Sms) (c : Nat) (i : Nat) (h : Sms)
  | ndef (i : Nat) (key : Nat)
inductive Sms where | nil | cons (s : Sm) (ss : Sms)
end

/-! ### data -/
mutual
/-- ==; none: not served -/
def eqD : D → D → Option Bool
  | .non, d => match d with | .non => some true | .bl _ | .int _ | .str _ | .tup _ | .lst _ | .dct .. => some false | _ => none
  | .bl a, d => match d with | .bl b => some (a == b) | .int b => some ((if a then (1 : Int) else 0) == b) | .non | .str _ | .tup _ | .lst _ | .dct .. => some false | _ => none
  | .int a, d => match d with | .bl b => some (a == (if b then (1 : Int) else 0)) | .int b => some (a == b) | .non | .str _ | .tup _ | .lst _ | .dct .. => some false | _ => none
  | .str a, d => match d with | .str b => some (a == b) | .non | .bl _ | .int _ | .tup _ | .lst _ | .dct .. => some false | _ => none
  | .tup a, d => match d with | .tup b => eqL a b | .non | .bl _ | .int _ | .str _ | .lst _ | .dct .. => some false | _ => none
  | .lst a, d => match d with | .lst b => eqL a b | .non | .bl _ | .int _ | .str _ | .tup _ | .dct .. => some false | _ => none
  | _, _ => none
def eqL : List D → List D → Option Bool
  | [], [] => some true
  | [], _ :: _ => some false
  | _ :: _, [] => some false
  | x :: a, y :: b => match eqD x y with
    | some true => eqL a b
    | r => r
end
mutual
/-- how deep -/
def dep : D → Nat
  | .tup l => depL l + 1
  | .lst l => depL l + 1
  | .dct _ _ => 1000
  | .scr _ => 1000
  | .obj _ _ _ => 1000
  | .exc _ => 1000
  | .fn _ => 1000
  | _ => 0
def depL : List D → Nat
  | [] => 0
  | x :: r => max (dep x) (depL r)
end
mutual
/-- <; none: not served -/
def ltD : D → D → Option Bool
  | .int a, .int b => some (decide (a < b))
  | .str a, .str b => some (decide (a < b))
  | .tup a, .tup b => ltL a b
  | .lst a, .lst b => ltL a b
  | _, _ => none
def ltL : List D → List D → Option Bool
  | [], [] => some false
  | [], _ :: _ => some true
  | _ :: _, [] => some false
  | x :: a, y :: b => match eqD x y with
    | some true => ltL a b
    | some false => match ltL a b with
      | some _ => ltD x y
      | none => none
    | none => none
end
def truD : D → Option Bool
  | .non => some false
  | .bl b => some b
  | .int i => some (decide (i ≠ 0))
  | .str s => some (!s.isEmpty)
  | .tup l | .lst l => some (!l.isEmpty)
  | .dct ks _ => some (!ks.isEmpty)
  | _ => none
def lenD : D → Option Nat
  | .str s => some s.length
  | .tup l | .lst l => some l.length
  | .dct ks _ => some ks.length
  | _ => none
/-- where a key stands -/
def findK (k : D) : List D → Nat → Option (Option Nat)
  | [], _ => some none
  | x :: r, n => match eqD x k with
    | some true => some (some n)
    | some false => findK k r (n + 1)
    | none => none
/-- what stands at a key -/
def lookD (k : D) : List D → List D → Option (Option D)
  | x :: ks, v :: vs => match eqD x k with
    | some true => some (some v)
    | some false => lookD k ks vs
    | none => none
  | [], [] => some none
  | _, _ => none
/-- .. put, where it stands -/
def setAll (k v : D) : List D → List D → List D
  | x :: ks, w :: vs => (if eqD x k = some true then v else w) :: setAll k v ks vs
  | _, _ => []
/-- x in l, one by one -/
def inL (k : D) : List D → Option Bool
  | [] => some false
  | x :: r => match eqD x k with
    | some true => some true
    | some false => inL k r
    | none => none
/-- the place of an index -/
def place (n : Nat) (i : Int) : Option Nat := if 0 ≤ i then (if i < n then some i.toNat else none) else if 0 ≤ i + n then some (i + n).toNat else none
/-- a slice's end -/
def clampI (n : Nat) (i : Int) : Nat := if i < 0 then (i + n).toNat else min i.toNat n
def cut {α : Type} (l : List α) (lo hi : Option Int) : List α :=
  let a := match lo with | none => 0 | some i => clampI l.length i
  let b := match hi with | none => l.length | some i => clampI l.length i
  (l.take b).drop a
def sliceD (d : D) (a b : Option Int) : Option Vl := match d with
  | .str s => some (.frz (.str (cut s a b)))
  | .tup l => some (.frz (.tup (cut l a b)))
  | .lst l => some (.own (.lst (cut l a b)))
  | .scr l => some (.own (.lst (cut l a b)))
  | _ => none
/-- what may be a key -/
def isKey : D → Bool
  | .int _ => true
  | .str _ => true
  | _ => false
def idxD (d i : D) : Option D := match d with
  | .tup l | .lst l => match i with
    | .int i => match place l.length i with
      | some k => l[k]?
      | none => none
    | _ => none
  | .str s => match i with
    | .int i => match place s.length i with
      | some k => match s[k]? with
        | some c => some (.str [c])
        | none => none
      | none => none
    | _ => none
  | .dct ks vs => if isKey i then (match lookD i ks vs with
    | some (some d) => some d
    | _ => none) else none
  | _ => none
/-- a list as often as told -/
def rep {α : Type} (l : List α) (n : Nat) : List α := (List.replicate n l).flatten
def binD : Bop → D → D → Option Vl
  | .add, .int a, .int b => some (.frz (.int (a + b)))
  | .add, .str a, .str b => if a.length + b.length ≤ LIM then some (.frz (.str (a ++ b))) else none
  | .add, .tup a, .tup b => if a.length + b.length ≤ LIM then some (.frz (.tup (a ++ b))) else none
  | .add, .lst a, .lst b => if a.length + b.length ≤ LIM then some (.own (.lst (a ++ b))) else none
  | .sub, .int a, .int b => some (.frz (.int (a - b)))
  | .mul, .int a, .int b => if (-(2 ^ 64) < a ∧ a < 2 ^ 64) ∨ (-(2 ^ 64) < b ∧ b < 2 ^ 64) then some (.frz (.int (a * b))) else none
  | .mul, .str a, .int b => if 0 ≤ b ∧ b ≤ 1000 ∧ a.length ≤ 1000 then some (.frz (.str (rep a b.toNat))) else none
  | .mul, .tup a, .int b => if 2 ≤ b ∧ b ≤ 1000 ∧ a.length ≤ 1000 ∧ 0 < a.length then some (.frz (.tup (rep a b.toNat))) else none
  | .mul, .lst a, .int b => if 0 ≤ b ∧ b ≤ 1000 ∧ a.length ≤ 1000 then some (.own (.lst (rep a b.toNat))) else none
  | .fdv, .int a, .int b => if 0 < b ∧ b < 2 ^ 64 then some (.frz (.int (a / b))) else none
  | .mod, .int a, .int b => if 0 < b then some (.frz (.int (a % b))) else none
  | .pow, .int a, .int b => if 0 ≤ b ∧ b ≤ 64 ∧ a.natAbs < 2 ^ 64 then some (.frz (.int (a ^ b.toNat))) else none
  | _, _, _ => none
def inD (x d : D) : Option Bool := match d with
  | .tup l | .lst l => if dep x ≤ 60 ∧ depL l ≤ 60 then inL x l else none
  | .dct ks _ => if isKey x then inL x ks else none
  | .str s => match x with
    | .str [c] => some (decide (c ∈ s))
    | _ => none
  | _ => none
def isNon : D → Bool
  | .non => true
  | _ => false
def cmpD : Cop → D → D → Option Bool
  | .eq, a, b => if dep a ≤ 60 ∧ dep b ≤ 60 then eqD a b else none
  | .ne, a, b => if dep a ≤ 60 ∧ dep b ≤ 60 then (eqD a b).map (!·) else none
  | .lt, a, b => if dep a ≤ 60 ∧ dep b ≤ 60 then ltD a b else none
  | .gt, .int a, .int b => some (decide (b < a))
  | .le, .int a, .int b => some (decide (a ≤ b))
  | .ge, .int a, .int b => some (decide (b ≤ a))
  | .inn, a, b => inD a b
  | .nin, a, b => (inD a b).map (!·)
  | .is, a, .non => some (isNon a)
  | .isn, a, .non => some (!isNon a)
  | .is, .bl a, .bl b => some (a == b)
  | .isn, .bl a, .bl b => some (a != b)
  | _, _, _ => none
def iterD : D → Option (List D)
  | .tup l | .lst l => some l
  | .str s => some (s.map fun c => .str [c])
  | .dct ks _ => some ks
  | _ => none
def isTy (sub : Nat → Nat → Bool) (d : D) : Ty → Option Bool
  | .int => some (match d with | .int _ | .bl _ => true | _ => false)
  | .bool => some (match d with | .bl _ => true | _ => false)
  | .str => some (match d with | .str _ => true | _ => false)
  | .tuple => some (match d with | .tup _ => true | _ => false)
  | .list => some (match d with | .lst _ => true | _ => false)
  | .verr => some (match d with | .exc _ => true | _ => false)
  | .cls c => match d with | .obj c' _ _ => some (sub c' c) | .exc _ => none | _ => some false
  | .exc c => match d with | .exc c' => some (sub c' c) | .obj .. => none | _ => some false
def isTys (sub : Nat → Nat → Bool) (d : D) : List Ty → Option Bool
  | [] => some false
  | t :: r => match isTy sub d t with
    | some true => some true
    | some false => isTys sub d r
    | none => none
def isD (sub : Nat → Nat → Bool) (d : D) (ts : List Ty) : Option Bool := match d with
  | .fn _ => none
  | .scr _ => none
  | d => isTys sub d ts
/-! the order of data that is alike -/
mutual
def tokD : D → List (Int ⊕ List Nat)
  | .bl b => [.inl (if b = true then 1 else 0)]
  | .int n => [.inl n]
  | .str s => [.inr s]
  | .lst l => tokL l
  | .tup l => tokL l
  | _ => []
def tokL : List D → List (Int ⊕ List Nat)
  | [] => [.inl 0]
  | d :: r => .inl 1 :: (tokD d ++ tokL r)
end
def ltTok : Int ⊕ List Nat → Int ⊕ List Nat → Bool
  | .inl a, .inl b => decide (a < b)
  | .inl _, .inr _ => true
  | .inr _, .inl _ => false
  | .inr a, .inr b => decide (a < b)
def lexT : List (Int ⊕ List Nat) → List (Int ⊕ List Nat) → Bool
  | [], [] => false
  | [], _ :: _ => true
  | _ :: _, [] => false
  | x :: r, y :: t => ltTok x y || (!ltTok y x && lexT r t)
def ltT (a b : D) : Bool := lexT (tokD a) (tokD b)
mutual
def alikeD : D → D → Bool
  | .non, .non => true
  | .bl _, .bl _ => true
  | .int _, .int _ => true
  | .str _, .str _ => true
  | .lst l, .lst m => alikeL l m
  | .tup l, .tup m => alikeL l m
  | _, _ => false
def alikeL : List D → List D → Bool
  | x :: l, y :: m => alikeD x y && alikeL l m
  | [], _ => true
  | _ :: _, [] => true
end
def allAlike (l : List D) : Bool := l.all fun x => l.all fun y => alikeD x y
def isTup1 : D → Bool
  | .tup (_ :: _) => true
  | _ => false
def noTup : D → Bool
  | .tup _ => false
  | .non => false
  | _ => true
def noNon : D → Bool
  | .non => false
  | _ => true
def sortOk (l : List D) : Bool := decide (depL l ≤ 60) && allAlike l && (l.all isTup1 || l.all noTup)
/-- sorted -/
def sortT (l : List D) : List D := l.mergeSort fun a b => !ltT b a
def sortD (l : List D) : Option (List D) := if sortOk l = true then some (sortT l) else none
/-- the first of the least, of the greatest -/
def minT (x : D) (l : List D) : D := l.foldl (fun a y => if ltT y a then y else a) x
def maxT (x : D) (l : List D) : D := l.foldl (fun a y => if ltT a y then y else a) x
def cmpOk (l : List D) : Bool := decide (depL l ≤ 60) && allAlike l && l.all noNon
/-- items with their keys, sorted by keys alone -/
def sortP (ps : List (D × D)) : List (D × D) := ps.mergeSort fun a b => !ltT b.2 a.2
/-- each once -/
def dedup : List D → Option (List D)
  | [] => some []
  | x :: r => match dedup r with
    | some s => match inL x s with
      | some true => some s
      | some false => some (x :: s)
      | none => none
    | none => none
/-- k's value put -/
def putK (ks vs : List D) (k v : D) : Option (List D × List D) := if isKey k = true ∧ ks.length < LIM then (match inL k ks with
  | some true => some (ks, setAll k v ks vs)
  | some false => some (ks ++ [k], vs ++ [v])
  | none => none) else none
def putAll : List D → List D → List D → List D → Option (List D × List D)
  | ks, vs, [], [] => some (ks, vs)
  | ks, vs, k :: r, v :: s => match putK ks vs k v with
    | some (ks', vs') => putAll ks' vs' r s
    | none => none
  | _, _, _, _ => none
def pairsOf : List D → Option (List D × List D)
  | [] => some ([], [])
  | .tup [a, b] :: r => (pairsOf r).map fun p => (a :: p.1, b :: p.2)
  | _ => none
def sumD : List D → Option Int
  | [] => some 0
  | .int i :: r => (sumD r).map (i + ·)
  | _ => none
/-- boolsL all -/
def boolsL : List D → Option (List Bool)
  | [] => some []
  | .bl b :: r => (boolsL r).map (b :: ·)
  | _ => none
/-- intsL all -/
def intsL : List D → Option (List Int)
  | [] => some []
  | .int i :: r => (intsL r).map (i :: ·)
  | _ => none
/-- a list's, a tuple's items -/
def seqD : D → Option (List D)
  | .tup l | .lst l => some l
  | _ => none
def countD (k : D) : List D → Option Nat
  | [] => some 0
  | x :: r => match eqD x k, countD k r with
    | some b, some n => some (if b then n + 1 else n)
    | _, _ => none
/-- texts all -/
def txts : List D → Option (List (List Nat))
  | [] => some []
  | .str s :: r => (txts r).map (s :: ·)
  | _ => none
def joinS (sep : List Nat) : List (List Nat) → List Nat
  | [] => []
  | [p] => p
  | p :: q :: r => p ++ (sep ++ joinS sep (q :: r))
def enumD : List D → Nat → List D
  | [], _ => []
  | x :: r, n => .tup [.int n, x] :: enumD r (n + 1)
def zipD : List D → List D → List D
  | x :: a, y :: b => .tup [x, y] :: zipD a b
  | _, _ => []
def rngD (lo hi : Int) : List D := (List.range (hi - lo).toNat).map fun (k : Nat) => .int (lo + k)
def rng3 (lo hi st : Int) : List D := (List.range ((hi - lo + st - 1) / st).toNat).map fun (k : Nat) => .int (lo + k * st)
/-- what a loop goes through -/
def iterI : D → Option (List D)
  | .tup l | .lst l => some l
  | .str s => some (s.map fun c => .str [c])
  | _ => none
/-- two of one kind, side by side -/
def zipI : D → D → Option (List D)
  | .tup l, .tup m => some (zipD l m)
  | .lst l, .lst m => some (zipD l m)
  | _, _ => none
def subSeq (s t : List Nat) : Nat → Option Nat
  | n => match t with
    | [] => if s = [] then some n else none
    | c :: r => if (c :: r).take s.length = s then some n else subSeq s r (n + 1)
/-- what is shown of data; a stand-in: alike data alike -/
inductive Shown where | of (d : D)

/-! ### the monad -/
abbrev Env := List (Option Vl)
inductive Res (α : Type) where | ok (a : α) | err (c : Nat)
abbrev M (α : Type) := Env → Option (Res α × Env)
def M.pure {α : Type} (a : α) : M α := fun ρ => some (.ok a, ρ)
def M.bind {α β : Type} (m : M α) (f : α → M β) : M β := fun ρ => match m ρ with
  | some (.ok a, ρ') => f a ρ'
  | some (.err c, ρ') => some (.err c, ρ')
  | none => none
instance : Monad M where
  pure := M.pure
  bind := M.bind
def M.opt {α : Type} (o : Option α) : M α := fun ρ => match o with
  | some a => some (.ok a, ρ)
  | none => none
def M.fail {α : Type} : M α := fun _ => none

/-! ### the program -/
structure Def where
  np : Nat
  n : Nat
  body : Sms
inductive LBody where | e (x : Ex) | s (b : Sms)
structure Lam where
  np : Nat
  caps : List Nat
  n : Nat
  body : LBody
  dfl : List D := []
structure Prog where
  defs : List Def
  lams : List Lam
  cons : List D
  sub : Nat → Nat → Bool
  init : Nat → Nat
  eqf : Nat → Option Nat
inductive Fid where | fn (f : Nat) | lam (key : Nat)
/-- a call's end: the value or the error, what the parameters hold then -/
abbrev CRes := Res Vl × List (Option Vl)
abbrev Callee := Fid → List Vl → Option CRes

/-! ### slots -/
def getS (i : Nat) (ρ : Env) : Option Vl := match ρ[i]? with
  | some (some v) => some v
  | _ => none
def Vl.d? : Vl → Option D
  | .frz d => some d
  | .own d => some d
  | _ => none
/-- a name as a value: what was its own is shared from now on -/
def rdVar (i : Nat) : M Vl := fun ρ => match getS i ρ with
  | some (.own d) => some (.ok (.frz d), ρ.set i (some (.frz d)))
  | some v => some (.ok v, ρ)
  | none => none
/-- an operand: a value, or a name to be looked up when it is wanted -/
inductive A where | val (d : D) | slot (i : Nat) | lam (key : Nat)
def A.get (a : A) (ρ : Env) : Option Vl := match a with
  | .val d => some (.frz d)
  | .slot i => getS i ρ
  | .lam key => some (.lam key)
def A.d (a : A) : M D := fun ρ => match a.get ρ with
  | some v => match v.d? with
    | some d => some (.ok d, ρ)
    | none => none
  | none => none
def A.ds : List A → M (List D)
  | [] => M.pure []
  | a :: r => M.bind a.d fun d => M.bind (A.ds r) fun ds => M.pure (d :: ds)
def frzV (v : Vl) : M D := M.opt v.d?
/-- the keys of a new dict, which is locked from now on -/
def keysM : Vl → M (List D)
  | .own (.dct ks _) => M.pure ks
  | _ => M.fail
def wipe : Env → List Nat → Env
  | ρ, [] => ρ
  | ρ, i :: r => wipe (ρ.set i none) r
/-- the slots of a comprehension's own names as they stood -/
def back (ρ0 : Env) : Env → List Nat → Env
  | ρ, [] => ρ
  | ρ, i :: r => back ρ0 (ρ.set i (match ρ0[i]? with | some v => v | none => none)) r
/-- a slot that the frame may store to: none of lk (what was lent to it) -/
def setK (lk : List Nat) (i : Nat) (v : Option Vl) : M Unit := fun ρ => if i ∈ lk then none else if i < ρ.length then some (.ok (), ρ.set i v) else none
def asgN (lk : List Nat) : List Nat → List D → M Unit
  | [], [] => M.pure ()
  | i :: r, d :: ds => M.bind (setK lk i (some (.frz d))) fun _ => asgN lk r ds
  | _, _ => M.fail
def asgT (lk : List Nat) (t : Tg) (d : D) : M Unit := match t with
  | .name i => setK lk i (some (.frz d))
  | .tup is => match d with
    | .tup ds => asgN lk is ds
    | _ => M.fail
def asgV (lk : List Nat) (i : Nat) (v : Vl) : M Unit := match v with
  | .frz _ | .own _ => setK lk i (some v)
  | _ => M.fail
def asgVs (lk : List Nat) : List Nat → List Vl → M Unit
  | [], [] => M.pure ()
  | i :: r, v :: vs => M.bind (asgV lk i v) fun _ => asgVs lk r vs
  | _, _ => M.fail

/-! ### calls -/
/-- what closures capture: shared from now on -/
def capAll : List Nat → M (List D)
  | [] => M.pure []
  | i :: r => M.bind (rdVar i) fun v => M.bind (frzV v) fun d => M.bind (capAll r) fun ds => M.pure (d :: ds)
/-- an argument as the callee gets it -/
def argV (Pr : Prog) (a : A) : M Vl := fun ρ => match a.get ρ with
  | some (.lam key) => match Pr.lams[key]? with
    | some L => match capAll L.caps ρ with
      | some (.ok ds, ρ') => some (.ok (.clo key ds), ρ')
      | _ => none
    | none => none
  | some v => some (.ok v, ρ)
  | none => none
def argVs (Pr : Prog) : List A → M (List Vl)
  | [] => M.pure []
  | a :: r => M.bind (argV Pr a) fun v => M.bind (argVs Pr r) fun vs => M.pure (v :: vs)
/-- the slots whose own things are lent -/
def lent : List A → Env → List (Option Nat)
  | [], _ => []
  | .slot i :: r, ρ => (match getS i ρ with | some (.own _) => some i | _ => none) :: lent r ρ
  | _ :: r, ρ => none :: lent r ρ
def noTwice : List (Option Nat) → Bool
  | [] => true
  | none :: r => noTwice r
  | some i :: r => !(r.contains (some i)) && noTwice r
def giveBack : List (Option Nat) → List (Option Vl) → Env → Env
  | some i :: r, v :: vs, ρ => giveBack r vs (ρ.set i v)
  | none :: r, _ :: vs, ρ => giveBack r vs ρ
  | _, _, ρ => ρ
def goCall (Pr : Prog) (cal : Callee) (f : Fid) (as : List A) (caps : List D) : M Vl := fun ρ => match argVs Pr as ρ with
  | some (.ok vs, ρ1) =>
    let ln := lent as ρ1
    if noTwice ln then match cal f (vs ++ caps.map .frz) with
      | some (.ok (.frz d), ps) => some (.ok (.frz d), giveBack ln ps ρ1)
      | some (.ok (.own d), ps) => some (.ok (.own d), giveBack ln ps ρ1)
      | some (.err c, ps) => some (.err c, giveBack ln ps ρ1)
      | _ => none
    else none
  | some (.err c, ρ1) => some (.err c, ρ1)
  | none => none
/-- a local name is called -/
def goCallV (Pr : Prog) (cal : Callee) (i : Nat) (as : List A) : M Vl := fun ρ => match getS i ρ with
  | some (.frz (.fn f)) => goCall Pr cal (.fn f) as [] ρ
  | some (.clo key caps) => match Pr.lams[key]? with
    | some L => goCall Pr cal (.lam key) (as ++ (L.dfl.drop (as.length + L.dfl.length - L.np)).map fun d => A.val d) caps ρ
    | none => none
  | _ => none

/-- a local name that holds a def -/
def fnAt (Pr : Prog) (i : Nat) : M Nat := fun ρ => match getS i ρ with
  | some (.frz (.fn f)) => if f < Pr.defs.length then some (.ok f, ρ) else none
  | _ => none
/-- "let", or the word of the error that comes -/
def refM (m : M Vl) (tab : List (Nat × List Nat)) : M Vl := fun ρ => match m ρ with
  | some (.ok _, ρ') => some (.ok (.frz (.str [108, 101, 116])), ρ')
  | some (.err c, ρ') => match tab.lookup c with
    | some w => some (.ok (.frz (.str w)), ρ')
    | none => none
  | none => none

def biD (sub : Nat → Nat → Bool) : Bi → List D → Option Vl
  | .len, [d] => (lenD d).map fun n => .frz (.int n)
  | .abs, [.int i] => some (.frz (.int (if i < 0 then -i else i)))
  | .int, [.int i] => some (.frz (.int i))
  | .int, [.bl b] => some (.frz (.int (if b then 1 else 0)))
  | .min, [.int i, .int j] => some (.frz (.int (if j < i then j else i)))
  | .max, [.int i, .int j] => some (.frz (.int (if j > i then j else i)))
  | .min, [.lst (x :: r)] => if cmpOk (x :: r) = true then some (.frz (minT x r)) else none
  | .max, [.lst (x :: r)] => if cmpOk (x :: r) = true then some (.frz (maxT x r)) else none
  | .sum, [.lst l] => (intsL l).map fun is => .frz (.int is.sum)
  | .any, [.lst l] => (boolsL l).map fun bs => .frz (.bl (bs.any id))
  | .all, [.lst l] => (boolsL l).map fun bs => .frz (.bl (bs.all id))
  | .sorted, [.lst l] => (sortD l).map fun s => .own (.lst s)
  | .srtSet, [d] => match iterD d with
    | some l => match dedup l with
      | some m => (sortD m).map fun s => .own (.lst s)
      | none => none
    | none => none
  | .lenSet, [d] => match iterD d with | some l => (dedup l).map fun s => .frz (.int s.length) | none => none
  | .list, [d] => (seqD d).map fun l => .own (.lst l)
  | .tuple, [d] => (seqD d).map fun l => .frz (.tup l)
  | .dict, [d] => match iterD d with
    | some l => match pairsOf l with
      | some (ks, vs) => (putAll [] [] ks vs).map fun p => .own (.dct p.1 p.2)
      | none => none
    | none => none
  | .repr, [d] => some (.frz (.tup [.str [114], d]))   -- a stand-in: tells the data itself
  | _, _ => none
def mthD : Mt → D → List D → Option Vl
  | .join, .str s, [d] => match seqD d with
    | some l => match txts l with
      | some ss => if (ss.map List.length).sum + ss.length * s.length ≤ LIM then some (.frz (.str (joinS s ss))) else none
      | none => none
    | none => none
  | .index, .tup l, [k] => if ¬ (dep k ≤ 60 ∧ depL l ≤ 60) then none else match findK k l 0 with | some (some n) => some (.frz (.int n)) | _ => none
  | .index, .lst l, [k] => if ¬ (dep k ≤ 60 ∧ depL l ≤ 60) then none else match findK k l 0 with | some (some n) => some (.frz (.int n)) | _ => none
  | .index, .str s, [.str t] => (subSeq t s 0).map fun n => .frz (.int n)
  | .count, .lst l, [k] => if ¬ (dep k ≤ 60 ∧ depL l ≤ 60) then none else (countD k l).map fun n => .frz (.int n)
  | .count, .tup l, [k] => if ¬ (dep k ≤ 60 ∧ depL l ≤ 60) then none else (countD k l).map fun n => .frz (.int n)
  | .get, .dct ks vs, [k, x] => if isKey k = false then none else match lookD k ks vs with
    | some (some d) => some (.frz d)
    | some none => some (.frz x)
    | none => none
  | .lstrip, .str s, [.str t] => some (.frz (.str (s.dropWhile fun c => t.contains c)))
  | _, _, _ => none
/-- a change of an own thing: the value, the thing behind it -/
def mutD : Mu → D → List D → Option (D × D)
  | .append, .lst l, [d] => if l.length < LIM then some (.non, .lst (l ++ [d])) else none
  | .extend, .lst l, [.lst m] => if l.length + m.length ≤ LIM then some (.non, .lst (l ++ m)) else none
  | .pop, .lst l, [] => match l.getLast? with | some d => some (d, .lst l.dropLast) | none => none
  | .insert, .lst l, [.int i, d] => if i = 0 ∧ l.length < LIM then some (.non, .lst (d :: l)) else none
  | .setdefault, .dct ks vs, [k, v] => if isKey k = false then none else match lookD k ks vs with
    | some (some d) => some (d, .dct ks vs)
    | some none => if ks.length < LIM then some (v, .dct (ks ++ [k]) (vs ++ [v])) else none
    | none => none
  | .update, .dct ks vs, [.dct ks' vs'] => (putAll ks vs ks' vs').map fun p => (.non, .dct p.1 p.2)
  | _, _, _ => none
/-- the slot holds an own thing of the kind that is changed so -/
def ownTy (m : Mu) (i : Nat) : M Unit := fun ρ => match getS i ρ with
  | some (.own (.lst _)) => match m with | .append | .extend | .pop | .insert => some (.ok (), ρ) | _ => none
  | some (.own (.dct _ _)) => match m with | .setdefault | .update => some (.ok (), ρ) | _ => none
  | _ => none
/-- the change itself -/
def mutM (m : Mu) (i : Nat) (ds : List D) : M Vl := fun ρ => match getS i ρ with
  | some (.own d) => match mutD m d ds with
    | some (v, d') => some (.ok (.frz v), ρ.set i (some (.own d')))
    | none => none
  | _ => none
def setD (d k v : D) : Option D := match d with
  | .lst l => match k with
    | .int i => (place l.length i).map fun n => .lst (l.set n v)
    | _ => none
  | .dct ks vs => (putK ks vs k v).map fun p => .dct p.1 p.2
  | _ => none

/-! ### expressions -/
section
variable (Pr : Prog) (cal : Callee)
/-- == by an own __eq__ -/
def cmpU (op : Cop) (a b : A) : M D := fun ρ => match A.d a ρ with
  | some (.ok x, _) => match A.d b ρ with
    | some (.ok y, _) => match x, op with
      | .obj c _ _, .eq => match Pr.eqf c with
        | some f => match goCall Pr cal (.fn f) [.val x, .val y] [] ρ with
          | some (.ok (.frz (.bl r)), ρ') => some (.ok (.bl r), ρ')
          | _ => none
        | none => none
      | .obj c _ _, .ne => match Pr.eqf c with
        | some f => match goCall Pr cal (.fn f) [.val x, .val y] [] ρ with
          | some (.ok (.frz (.bl r)), ρ') => some (.ok (.bl (!r)), ρ')
          | _ => none
        | none => none
      | _, _ => match cmpD op x y with
        | some r => some (.ok (.bl r), ρ)
        | none => none
    | _ => none
  | _ => none
/-- the own names of a comprehension forgotten -/
def wipeM (own : List Nat) : M Unit := fun ρ => some (.ok (), wipe ρ own)
/-- items one by one; the own slots are the comprehension's -/
def compL (own : List Nat) (elt : M D) (asg : D → M Unit) (tst : M Bool) : List D → List D → M (List D)
  | [], acc => M.pure acc
  | x :: r, acc => M.bind (wipeM own) fun _ => M.bind (asg x) fun _ => M.bind tst fun b => if b then M.bind elt fun d => if acc.length < LIM then compL own elt asg tst r (acc ++ [d]) else M.fail else compL own elt asg tst r acc
/-- the inner loop of two -/
def compL2 (own : List Nat) (inner : List D → M (List D)) (asg : D → M Unit) (tst : M Bool) : List D → List D → M (List D)
  | [], acc => M.pure acc
  | x :: r, acc => M.bind (wipeM own) fun _ => M.bind (asg x) fun _ => M.bind tst fun b => if b then M.bind (inner acc) fun acc' => compL2 own inner asg tst r acc' else compL2 own inner asg tst r acc
def dcompL (own : List Nat) (kv : M (D × D)) (asg : D → M Unit) (tst : M Bool) : List D → List D × List D → M (List D × List D)
  | [], acc => M.pure acc
  | x :: r, acc => M.bind (wipeM own) fun _ => M.bind (asg x) fun _ => M.bind tst fun b => if b then M.bind kv fun p => M.bind (M.opt (putK acc.1 acc.2 p.1 p.2)) fun acc' => dcompL own kv asg tst r acc' else dcompL own kv asg tst r acc
/-- in a block of its own names -/
def inBlk {α : Type} (own : List Nat) (m : M α) : M α := fun ρ => match m ρ with
  | some (.ok a, ρ') => some (.ok a, back ρ ρ' own)
  | _ => none
def keysBy (cal : Callee) (key : Nat) : List D → Option (List D)
  | [] => some []
  | x :: r => match cal (.lam key) [.frz x] with
    | some (.ok (.frz k), _) => match keysBy cal key r with
      | some ks => some (k :: ks)
      | none => none
    | _ => none
/-- what sorted goes through -/
def seqK : D → Option (List D)
  | .lst l => some l
  | .tup l => some l
  | _ => none
def srtKD (cal : Callee) (key : Nat) (p : D) : Option Vl := match seqK p with
  | some l => match keysBy cal key l with
    | some ks => if sortOk ks = true then some (.own (.lst ((sortP (l.zip ks)).map (·.1)))) else none
    | none => none
  | none => none

/-- an operand: a name is looked up later -/
def opA (x : Ex) (m : M Vl) : M A := match x with
  | .var i => fun ρ => match getS i ρ with
    | some _ => some (.ok (.slot i), ρ)
    | none => none
  | .lam key => M.pure (.lam key)
  | _ => M.bind m fun v => M.bind (frzV v) fun d => M.pure (.val d)
/-- a slice's part -/
def partI (m : M A) : M (Option Int) := M.bind m fun y => M.bind y.d fun q => match q with
  | .int i => M.pure (some i)
  | _ => M.fail
def partM (x : Ex) (m : M A) : M (Option Int) := match x with
  | .lit .non => M.pure none
  | _ => partI m
def tstV (m : M A) : M Bool := M.bind m fun v => M.bind v.d fun d => M.opt (truD d)
/-- a value, and its truth -/
abbrev VB := M Vl × M Bool
def vb (m : M Vl) : VB := (m, tstV (M.bind m fun v => M.bind (frzV v) fun d => M.pure (.val d)))
mutual
def evB : Ex → VB
  | .var i => (rdVar i, tstV (opA (.var i) (rdVar i)))
  | .lit d => vb (M.pure (.frz d))
  | .gfn f => vb (M.pure (.frz (.fn f)))
  | .gcon n => vb (M.bind (M.opt Pr.cons[n]?) fun d => M.pure (.frz d))
  | .bin op a b => vb (M.bind (opA a (evB a).1) fun x => M.bind (opA b (evB b).1) fun y => M.bind x.d fun p => M.bind y.d fun q => M.opt (binD op p q))
  | .neg a => vb (M.bind (opA a (evB a).1) fun x => M.bind x.d fun p => match p with | .int i => M.pure (.frz (.int (-i))) | _ => M.fail)
  | .nt a => (M.bind (evB a).2 fun b => M.pure (.frz (.bl (!b))), M.bind (evB a).2 fun t => M.pure (!t))
  | .cmp op a b => vb (M.bind (opA a (evB a).1) fun x => M.bind (opA b (evB b).1) fun y => M.bind (cmpU Pr cal op x y) fun d => M.pure (.frz d))
  | .chn op op' a b c => vb (M.bind (opA a (evB a).1) fun x => M.bind (opA b (evB b).1) fun y => M.bind (cmpU Pr cal op x y) fun d => match d with
    | .bl true => M.bind (opA c (evB c).1) fun z => M.bind (cmpU Pr cal op' y z) fun e => M.pure (.frz e)
    | .bl false => M.pure (.frz (.bl false))
    | _ => M.fail)
  | .and a b => (M.bind (evB a).1 fun v => M.bind (frzV v) fun d => M.bind (M.opt (truD d)) fun t => if t then (evB b).1 else M.pure (.frz d), M.bind (evB a).2 fun t => if t then (evB b).2 else M.pure false)
  | .or a b => (M.bind (evB a).1 fun v => M.bind (frzV v) fun d => M.bind (M.opt (truD d)) fun t => if t then M.pure (.frz d) else (evB b).1, M.bind (evB a).2 fun t => if t then M.pure true else (evB b).2)
  | .ite c a b => (M.bind (evB c).2 fun t => if t then (evB a).1 else (evB b).1, M.bind (evB c).2 fun t => if t then (evB a).2 else (evB b).2)
  | .tup es => vb (M.bind (evalEs es) fun ds => M.pure (.frz (.tup ds)))
  | .lst es => vb (M.bind (evalEs es) fun ds => M.pure (.own (.lst ds)))
  | .dct kvs => vb (M.bind (evalKV kvs) fun p => M.bind (M.opt (putAll [] [] p.1 p.2)) fun q => M.pure (.own (.dct q.1 q.2)))
  | .idx a i => vb (M.bind (opA a (evB a).1) fun x => M.bind (opA i (evB i).1) fun y => M.bind x.d fun p => M.bind y.d fun q => M.bind (M.opt (idxD p q)) fun d => M.pure (.frz d))
  | .slc a lo hi => vb (M.bind (opA a (evB a).1) fun x => M.bind (partM lo (opA lo (evB lo).1)) fun q => M.bind (partM hi (opA hi (evB hi).1)) fun r => M.bind x.d fun p => M.opt (sliceD p q r))
  | .rev a => vb (M.bind (opA a (evB a).1) fun x => M.bind x.d fun p => match p with
    | .lst l => M.pure (.own (.lst l.reverse))
    | .tup l => M.pure (.frz (.tup l.reverse))
    | .str l => M.pure (.frz (.str l.reverse))
    | _ => M.fail)
  | .bi f es => vb (M.bind (evalAs es) fun as => M.bind (A.ds as) fun ds => M.opt (biD Pr.sub f ds))
  | .lstIt t => vb (M.bind (evalI t) fun l => M.pure (.own (.lst l)))
  | .tupIt t => vb (M.bind (evalI t) fun l => M.pure (.frz (.tup l)))
  | .dctIt t => vb (M.bind (evalI t) fun l => M.opt (biD Pr.sub .dict [.lst l]))
  | .mth m o es => vb (M.bind (opA o (evB o).1) fun x => M.bind (evalAs es) fun as => M.bind x.d fun p => M.bind (A.ds as) fun ds => M.opt (mthD m p ds))
  | .mut m i es => vb (M.bind (ownTy m i) fun _ => M.bind (evalEs es) fun ds => mutM m i ds)
  | .call f es => vb (M.bind (evalAs es) fun as => goCall Pr cal (.fn f) as [])
  | .callv i es => vb (M.bind (fnAt Pr i) fun f => M.bind (evalAs es) fun as => goCall Pr cal (.fn f) as [])
  | .make c es => vb (M.bind (evalAs es) fun as => M.bind (argVs Pr as) fun vs => fun ρ => match cal (.fn (Pr.init c)) (.own (.obj c [] []) :: vs) with
    | some (.ok (.frz .non), some (.own d) :: _) => some (.ok (.frz d), ρ)
    | some (.err e, _) => some (.err e, ρ)
    | _ => none)
  | .attr o f => vb (M.bind (opA o (evB o).1) fun x => M.bind x.d fun p => match p with
    | .obj _ fs vs => match fs.findIdx? (· == f) with
      | some n => M.bind (M.opt vs[n]?) fun d => M.pure (.frz d)
      | none => M.fail
    | _ => M.fail)
  | .umth f o es => vb (M.bind (opA o (evB o).1) fun x => M.bind (evalAs es) fun as => goCall Pr cal (.fn f) (x :: as) [])
  | .isi e ts => vb (M.bind (opA e (evB e).1) fun x => M.bind x.d fun p => M.bind (M.opt (isD Pr.sub p ts)) fun b => M.pure (.frz (.bl b)))
  | .comp own elt tg t cs => vb (M.bind (evalI t) fun l => M.bind (inBlk own (compL own (M.bind (evB elt).1 frzV) (asgT [] tg) (testAll cs) l [])) fun ds => M.pure (.own (.lst ds)))
  | .comp2 own elt tg t cs own2 tg2 t2 cs2 => vb (M.bind (evalI t) fun l =>
      M.bind (inBlk own (compL2 own (fun acc => M.bind (evalI t2) fun l2 => compL own2 (M.bind (evB elt).1 frzV) (asgT [] tg2) (testAll cs2) l2 acc) (asgT [] tg) (testAll cs) l [])) fun ds => M.pure (.own (.lst ds)))
  | .dcomp own k v tg t cs => vb (M.bind (evalI t) fun l =>
      M.bind (inBlk own (dcompL own (M.bind (evB k).1 fun kv => M.bind (frzV kv) fun kd => M.bind (evB v).1 fun vv => M.bind (frzV vv) fun vd => M.pure (kd, vd)) (asgT [] tg) (testAll cs) l ([], []))) fun p => M.pure (.own (.dct p.1 p.2)))
  | .lam key => vb (M.pure (.lam key))
  | .srtk a key => vb (M.bind (opA a (evB a).1) fun x => match key with
    | .lam n => M.bind x.d fun p => M.opt (srtKD cal n p)
    | _ => M.fail)
  | .refuse x tab => vb (refM (evB x).1 tab)
def evalEs : Exs → M (List D)
  | .nil => M.pure []
  | .cons e es => M.bind (evB e).1 fun v => M.bind (frzV v) fun d => M.bind (evalEs es) fun ds => M.pure (d :: ds)
def evalAs : Exs → M (List A)
  | .nil => M.pure []
  | .cons e es => M.bind (opA e (evB e).1) fun a => M.bind (evalAs es) fun as => M.pure (a :: as)
def evalKV : Kvs → M (List D × List D)
  | .nil => M.pure ([], [])
  | .cons k v r => M.bind (evB k).1 fun kv => M.bind (frzV kv) fun kd => M.bind (evB v).1 fun vv => M.bind (frzV vv) fun vd => M.bind (evalKV r) fun p => M.pure (kd :: p.1, vd :: p.2)
def evalI : It → M (List D)
  | .ex e => M.bind (evB e).1 fun v => M.bind (frzV v) fun d => M.opt (iterI d)
  | .rng es => M.bind (evalAs es) fun as => M.bind (A.ds as) fun ds => match ds with
    | [.int n] => if -(2 ^ 62) ≤ n ∧ n < 2 ^ 62 then M.pure (rngD 0 n) else M.fail
    | [.int a, .int b] => if -(2 ^ 62) ≤ a ∧ a < 2 ^ 62 ∧ -(2 ^ 62) ≤ b ∧ b < 2 ^ 62 then M.pure (rngD a b) else M.fail
    | [.int a, .int b, .int c] => if 0 < c then M.pure (rng3 a b c) else M.fail
    | _ => M.fail
  | .enum e => M.bind (evB e).1 fun v => M.bind (frzV v) fun d => M.bind (M.opt (seqD d)) fun l => M.pure (enumD l 0)
  | .zip es => M.bind (evalEs es) fun ds => match ds with
    | [d, e] => M.opt (zipI d e)
    | _ => M.fail
  | .keys e => M.bind (evB e).1 keysM
def testAll : Exs → M Bool
  | .nil => M.pure true
  | .cons e es => M.bind (evB e).2 fun t => if t then testAll es else M.pure false
end
abbrev evalE (x : Ex) : M Vl := (evB Pr cal x).1
abbrev testE (x : Ex) : M Bool := (evB Pr cal x).2
def evalVs : Exs → M (List Vl)
  | .nil => M.pure []
  | .cons e es => M.bind (evalE Pr cal e) fun v => M.bind (evalVs es) fun vs => M.pure (v :: vs)
end

/-! ### statements -/
inductive Fl where | nx | ret (v : Vl)
def forL (asg : D → M Unit) (body : M Fl) : List D → M Fl
  | [] => M.pure .nx
  | x :: r => M.bind (asg x) fun _ => M.bind body fun f => match f with
    | .nx => forL asg body r
    | .ret v => M.pure (.ret v)
def whlL (tst : M Bool) (body : M Fl) : Nat → M Fl
  | 0 => M.fail
  | n + 1 => M.bind tst fun t => if t then M.bind body fun f => match f with
      | .nx => whlL tst body n
      | .ret v => M.pure (.ret v)
    else M.pure .nx
/-- the slot holds an own thing -/
def chkOwn (i : Nat) : M Unit := fun ρ => match getS i ρ with
  | some (.own _) => some (.ok (), ρ)
  | _ => none
def setAt (i : Nat) (k v : D) : M Unit := fun ρ => match getS i ρ with
  | some (.own d) => match setD d k v with
    | some d' => some (.ok (), ρ.set i (some (.own d')))
    | none => none
  | _ => none
def setFld (f : String) (v : D) : M Unit := fun ρ => match getS 0 ρ with
  | some (.own (.obj c fs vs)) => match fs.findIdx? (· == f) with
    | some n => some (.ok (), ρ.set 0 (some (.own (.obj c fs (vs.set n v)))))
    | none => some (.ok (), ρ.set 0 (some (.own (.obj c (fs ++ [f]) (vs ++ [v])))))
  | _ => none
/-- try: body; except c as i: hand -/
def tryL (Pr : Prog) (lk : List Nat) (body : M Fl) (c i : Nat) (hand : M Fl) : M Fl := fun ρ => if i ∈ lk then none else match body ρ with
  | some (.ok f, ρ') => some (.ok f, ρ')
  | some (.err e, ρ') => if Pr.sub e c then match hand (ρ'.set i (some (.frz (.exc e)))) with
      | some (.ok f, ρ2) => some (.ok f, ρ2.set i none)
      | _ => none
    else some (.err e, ρ')
  | none => none
/-- turns that a while has at most -/
def FU : Nat := 2 ^ 64
section
variable (Pr : Prog) (cal : Callee) (lk : List Nat)
mutual
def evS : Sm → M Fl
  | .exp e => M.bind (evalE Pr cal e) fun _ => M.pure .nx
  | .ret e => M.bind (evalE Pr cal e) fun v => M.pure (.ret v)
  | .retm i => fun ρ => if i ∈ lk then none else match getS i ρ with
    | some (.own d) => some (.ok (.ret (.own d)), ρ.set i none)
    | some (.frz d) => some (.ok (.ret (.frz d)), ρ)
    | _ => none
  | .retN => M.pure (.ret (.frz .non))
  | .pass => M.pure .nx
  | .bad => M.fail
  | .asg t e => match t with
    | .name i => M.bind (evalE Pr cal e) fun v => M.bind (asgV lk i v) fun _ => M.pure .nx
    | .tup is => M.bind (evalE Pr cal e) fun v => M.bind (frzV v) fun d => M.bind (asgT lk (.tup is) d) fun _ => M.pure .nx
  | .par is es => M.bind (evalVs Pr cal es) fun vs => M.bind (asgVs lk is vs) fun _ => M.pure .nx
  | .seti i k e => M.bind (evalE Pr cal e) fun v => M.bind (frzV v) fun d => M.bind (chkOwn i) fun _ => M.bind (opA k (evalE Pr cal k)) fun x => M.bind x.d fun kd => M.bind (setAt i kd d) fun _ => M.pure .nx
  | .swp i a b c d j => M.bind (evalE Pr cal c) fun v => M.bind (frzV v) fun x => M.bind (evalE Pr cal d) fun w => M.bind (frzV w) fun y =>
      M.bind (opA a (evalE Pr cal a)) fun p => M.bind p.d fun pd => M.bind (setAt i pd x) fun _ => M.bind (opA b (evalE Pr cal b)) fun q => M.bind q.d fun qd => M.bind (setAt j qd y) fun _ => M.pure .nx
  | .aug i op e => M.bind (opA e (evalE Pr cal e)) fun x => M.bind x.d fun q => M.bind (A.d (.slot i)) fun p => M.bind (M.opt (binD op p q)) fun v => match v with
    | .frz d => M.bind (setK lk i (some (.frz d))) fun _ => M.pure .nx
    | _ => M.fail
  | .setf f e => M.bind (evalE Pr cal e) fun v => M.bind (frzV v) fun d => M.bind (setFld f d) fun _ => M.pure .nx
  | .ite c a b => M.bind (testE Pr cal c) fun t => if t then evSs a else evSs b
  | .whl c b => whlL (testE Pr cal c) (evSs b) FU
  | .for t it b => M.bind (evalI Pr cal it) fun l => forL (asgT lk t) (evSs b) l
  | .raise c es => M.bind (evalEs Pr cal es) fun _ => fun ρ => some (.err c, ρ)
  | .tryx b c i h => tryL Pr lk (evSs b) c i (evSs h)
  | .ndef i key => M.bind (setK lk i (some (.lam key))) fun _ => M.pure .nx
def evSs : Sms → M Fl
  | .nil => M.pure .nx
  | .cons s ss => M.bind (evS s) fun f => match f with
    | .nx => evSs ss
    | .ret v => M.pure (.ret v)
end
end
/-- what is lent -/
def ownIx : List Vl → Nat → List Nat
  | [], _ => []
  | .own _ :: r, n => n :: ownIx r (n + 1)
  | _ :: r, n => ownIx r (n + 1)
section
variable (Pr : Prog) (cal : Callee)
/-- what the parameters hold -/
def slots (np : Nat) (ρ : Env) : List (Option Vl) := (List.range np).map fun i => getS i ρ
/-- a frame's run -/
def runF (np n : Nat) (body : Sms) (args : List Vl) : Option CRes := if args.length = np then
    match evSs Pr cal (ownIx args 0) body (args.map some ++ List.replicate (n - np) none) with
    | some (.ok (.ret v), ρ) => some (.ok v, slots np ρ)
    | some (.ok .nx, ρ) => some (.ok (.frz .non), slots np ρ)
    | some (.err c, ρ) => some (.err c, slots np ρ)
    | none => none
  else none
def runX (np n : Nat) (body : Ex) (args : List Vl) : Option CRes := if args.length = np then
    match evalE Pr cal body (args.map some ++ List.replicate (n - np) none) with
    | some (.ok v, ρ) => some (.ok v, slots np ρ)
    | some (.err c, ρ) => some (.err c, slots np ρ)
    | none => none
  else none
def runFid : Fid → List Vl → Option CRes
  | .fn f, args => match Pr.defs[f]? with
    | some d => runF Pr cal d.np d.n d.body args
    | none => none
  | .lam key, args => match Pr.lams[key]? with
    | some L => match L.body with
      | .e x => runX Pr cal (L.np + L.caps.length) L.n x args
      | .s b => runF Pr cal (L.np + L.caps.length) L.n b args
    | none => none
end
/-- a call at a depth -/
def callF (Pr : Prog) : Nat → Callee
  | 0 => fun _ _ => none
  | k + 1 => runFid Pr (callF Pr k)
end Dp
end
section
set_option linter.all false
set_option maxRecDepth 100000
/-! W1: what a run of the pure language comes to, backwards: WP. -/
namespace Dw
open Dp
@[irreducible] def WP {α : Type} (m : M α) (Q : α → Env → Prop) (E : Nat → Env → Prop) (ρ : Env) : Prop := match m ρ with
  | some (.ok a, ρ') => Q a ρ'
  | some (.err c, ρ') => E c ρ'
  | none => False
def WPo {α : Type} (o : Option α) (Q : α → Prop) : Prop := match o with
  | some a => Q a
  | none => False
@[irreducible] def CW (c : Option CRes) (Q : Vl → List (Option Vl) → Prop) (E : Nat → List (Option Vl) → Prop) : Prop := match c with
  | some (.ok v, ps) => Q v ps
  | some (.err c, ps) => E c ps
  | none => False
def isFO : Vl → Bool
  | .frz _ => true
  | .own _ => true
  | _ => false
def _root_.Dp.Fl.go (f : Fl) (K : Env → Prop) (Q : Fl → Env → Prop) (ρ : Env) : Prop := match f with
  | .nx => K ρ
  | .ret v => Q (.ret v) ρ
def _root_.Dp.Fl.end (f : Fl) (Q : Vl → Prop) : Prop := match f with
  | .nx => Q (.frz .non)
  | .ret v => Q v
section
variable {α β : Type} {Q : α → Env → Prop} {E : Nat → Env → Prop} {ρ : Env}
theorem wp_congr {m m' : M α} (h : m = m') : WP m Q E ρ = WP m' Q E ρ := by rw [h]
theorem wpo_congr {o o' : Option α} {Q : α → Prop} (h : o = o') : WPo o Q = WPo o' Q := by rw [h]
theorem cw_congr {c c' : Option CRes} {Q : Vl → List (Option Vl) → Prop} {E : Nat → List (Option Vl) → Prop} (h : c = c') : CW c Q E = CW c' Q E := by rw [h]
theorem wp_mono {m : M α} {Q' : α → Env → Prop} {E' : Nat → Env → Prop} (h : WP m Q' E' ρ) (hq : ∀ a ρ, Q' a ρ → Q a ρ) (he : ∀ c ρ, E' c ρ → E c ρ) : WP m Q E ρ := by
  unfold WP at h ⊢
  split at h
  · exact hq _ _ h
  · exact he _ _ h
  · exact h
theorem wp_bind {m : M β} {f : β → M α} : WP (M.bind m f) Q E ρ = WP m (fun a ρ' => WP (f a) Q E ρ') E ρ := by
  unfold WP M.bind
  rcases m ρ with _ | ⟨a | c, ρ'⟩ <;> with_unfolding_all rfl
theorem wp_pure {a : α} : WP (M.pure a) Q E ρ = Q a ρ := by with_unfolding_all rfl
theorem wp_opt {o : Option α} : WP (M.opt o) Q E ρ = WPo o fun a => Q a ρ := by cases o <;> with_unfolding_all rfl
theorem wp_fail : WP (M.fail : M α) Q E ρ = False := by with_unfolding_all rfl
theorem wp_ite {c : Prop} [Decidable c] {m n : M α} : WP (if c then m else n) Q E ρ = if c then WP m Q E ρ else WP n Q E ρ := by split <;> with_unfolding_all rfl
theorem wp_match_bl {b : Bool} : True := trivial
theorem wpo_some {a : α} {Q : α → Prop} : WPo (some a) Q = Q a := rfl
theorem wpo_none {Q : α → Prop} : WPo (none : Option α) Q = False := rfl
theorem wpo_if {c : Prop} [Decidable c] {a : α} {Q : α → Prop} : WPo (if c then some a else none) Q = (c ∧ Q a) := by
  by_cases h : c <;> simp [h, WPo]
theorem wpo_ifn {c : Prop} [Decidable c] {o : Option α} {Q : α → Prop} : WPo (if c then none else o) Q = (¬ c ∧ WPo o Q) := by
  by_cases h : c <;> simp [h, WPo]
theorem wpo_map {o : Option β} {f : β → α} {Q : α → Prop} : WPo (o.map f) Q = WPo o fun b => Q (f b) := by cases o <;> with_unfolding_all rfl
theorem wpo_of {o : Option α} {a : α} {Q : α → Prop} (h : o = some a) (q : Q a) : WPo o Q := by rw [h]; exact q
theorem wpo_mono {o : Option α} {Q' Q : α → Prop} (h : WPo o Q') (hq : ∀ a, Q' a → Q a) : WPo o Q := by
  cases o with
  | none => exact h
  | some a => exact hq _ h
end
/-! ### slots -/
theorem getS_0 (v : Option Vl) (r : Env) : getS 0 (v :: r) = v := by cases v <;> with_unfolding_all rfl
theorem getS_s (n : Nat) (x : Option Vl) (r : Env) : getS (n + 1) (x :: r) = getS n r := by simp [getS]
theorem getS_nil (n : Nat) : getS n [] = none := by simp [getS]
theorem slots_0 (ρ : Env) : slots 0 ρ = [] := rfl
theorem slots_s (n : Nat) (x : Option Vl) (r : Env) : slots (n + 1) (x :: r) = x :: slots n r := by
  unfold slots
  rw [List.range_succ_eq_map, List.map_cons, List.map_map, getS_0]
  congr 1
section
variable {α : Type} {Q : α → Env → Prop} {E : Nat → Env → Prop} {ρ : Env}
def rdW (i : Nat) (Q : Vl → Env → Prop) (ρ : Env) : Option Vl → Prop
  | some (.own d) => Q (.frz d) (ρ.set i (some (.frz d)))
  | some v => Q v ρ
  | none => False
theorem wp_rd {i : Nat} {Q : Vl → Env → Prop} : WP (rdVar i) Q E ρ = rdW i Q ρ (getS i ρ) := by
  unfold WP rdVar rdW
  rcases getS i ρ with _ | ⟨_ | _ | _ | _⟩ <;> with_unfolding_all rfl
theorem rdW_frz {i : Nat} {Q : Vl → Env → Prop} {d : D} : rdW i Q ρ (some (.frz d)) = Q (.frz d) ρ := rfl
theorem rdW_own {i : Nat} {Q : Vl → Env → Prop} {d : D} : rdW i Q ρ (some (.own d)) = Q (.frz d) (ρ.set i (some (.frz d))) := rfl
theorem rdW_clo {i k : Nat} {Q : Vl → Env → Prop} {d : List D} : rdW i Q ρ (some (.clo k d)) = Q (.clo k d) ρ := rfl
theorem rdW_lam {i k : Nat} {Q : Vl → Env → Prop} : rdW i Q ρ (some (.lam k)) = Q (.lam k) ρ := rfl
theorem wp_d_val {d : D} {Q : D → Env → Prop} : WP (A.d (.val d)) Q E ρ = Q d ρ := by with_unfolding_all rfl
def slW (o : Option Vl) (Q : D → Prop) : Prop := match o with
  | some (.frz d) => Q d
  | some (.own d) => Q d
  | _ => False
theorem slW_congr {o o' : Option Vl} {Q : D → Prop} (h : o = o') : slW o Q = slW o' Q := by rw [h]
theorem slW_frz {d : D} {Q : D → Prop} : slW (some (.frz d)) Q = Q d := rfl
theorem slW_own {d : D} {Q : D → Prop} : slW (some (.own d)) Q = Q d := rfl
theorem wp_d_slot {i : Nat} {Q : D → Env → Prop} : WP (A.d (.slot i)) Q E ρ = slW (getS i ρ) fun d => Q d ρ := by
  unfold WP A.d A.get slW
  dsimp only
  rcases getS i ρ with _ | ⟨_ | _ | _ | _⟩ <;> with_unfolding_all rfl
theorem wp_ds_nil {Q : List D → Env → Prop} : WP (A.ds []) Q E ρ = Q [] ρ := by with_unfolding_all rfl
theorem wp_ds_cons {a : A} {r : List A} {Q : List D → Env → Prop} : WP (A.ds (a :: r)) Q E ρ = WP a.d (fun d ρ => WP (A.ds r) (fun ds ρ => Q (d :: ds) ρ) E ρ) E ρ := by
  show WP (M.bind _ _) Q E ρ = _
  rw [wp_bind]
  congr 1
  funext d ρ
  rw [wp_bind]
  with_unfolding_all rfl
theorem d_frz {d : D} : Vl.d? (.frz d) = some d := rfl
theorem d_own {d : D} : Vl.d? (.own d) = some d := rfl
theorem wp_frzV {v : Vl} {Q : D → Env → Prop} : WP (frzV v) Q E ρ = WPo v.d? fun d => Q d ρ := wp_opt
/-! ### stores -/
theorem wp_setK {lk : List Nat} {i : Nat} {v : Option Vl} {Q : Unit → Env → Prop} : WP (setK lk i v) Q E ρ = (i ∉ lk ∧ i < ρ.length ∧ Q () (ρ.set i v)) := by
  unfold WP setK
  by_cases h : i ∈ lk
  · simp [h]
  · by_cases h' : i < ρ.length <;> simp [h, h']
theorem wp_asgN_nil {lk : List Nat} {Q : Unit → Env → Prop} : WP (asgN lk [] []) Q E ρ = Q () ρ := by with_unfolding_all rfl
theorem wp_asgN_cons {lk is : List Nat} {i : Nat} {d : D} {ds : List D} {Q : Unit → Env → Prop} : WP (asgN lk (i :: is) (d :: ds)) Q E ρ = WP (setK lk i (some (.frz d))) (fun _ ρ => WP (asgN lk is ds) Q E ρ) E ρ := by
  show WP (M.bind _ _) Q E ρ = _
  rw [wp_bind]
theorem wp_asgT_name {lk : List Nat} {i : Nat} {d : D} {Q : Unit → Env → Prop} : WP (asgT lk (.name i) d) Q E ρ = WP (setK lk i (some (.frz d))) Q E ρ := by with_unfolding_all rfl
theorem wp_asgT_tup {lk is : List Nat} {ds : List D} {Q : Unit → Env → Prop} : WP (asgT lk (.tup is) (.tup ds)) Q E ρ = WP (asgN lk is ds) Q E ρ := by with_unfolding_all rfl
theorem wp_asgV_frz {lk : List Nat} {i : Nat} {d : D} {Q : Unit → Env → Prop} : WP (asgV lk i (.frz d)) Q E ρ = WP (setK lk i (some (.frz d))) Q E ρ := by with_unfolding_all rfl
theorem wp_asgV_own {lk : List Nat} {i : Nat} {d : D} {Q : Unit → Env → Prop} : WP (asgV lk i (.own d)) Q E ρ = WP (setK lk i (some (.own d))) Q E ρ := by with_unfolding_all rfl
theorem wp_asgVs_nil {lk : List Nat} {Q : Unit → Env → Prop} : WP (asgVs lk [] []) Q E ρ = Q () ρ := by with_unfolding_all rfl
theorem wp_asgVs_cons {lk is : List Nat} {i : Nat} {d : Vl} {ds : List Vl} {Q : Unit → Env → Prop} : WP (asgVs lk (i :: is) (d :: ds)) Q E ρ = WP (asgV lk i d) (fun _ ρ => WP (asgVs lk is ds) Q E ρ) E ρ := by
  show WP (M.bind _ _) Q E ρ = _
  rw [wp_bind]
theorem wp_setAt {i : Nat} {k v : D} {Q : Unit → Env → Prop} : WP (setAt i k v) Q E ρ = (match getS i ρ with | some (.own d) => WPo (setD d k v) fun d' => Q () (ρ.set i (some (.own d'))) | _ => False) := by
  unfold WP setAt
  rcases getS i ρ with _ | ⟨_ | d | _ | _⟩ <;> try with_unfolding_all rfl
  dsimp only
  cases setD d k v <;> with_unfolding_all rfl
theorem wp_chkOwn {i : Nat} {Q : Unit → Env → Prop} : WP (chkOwn i) Q E ρ = (match getS i ρ with | some (.own d) => Q () ρ | _ => False) := by
  unfold WP chkOwn
  rcases getS i ρ with _ | ⟨_ | d | _ | _⟩ <;> with_unfolding_all rfl
def okTy (m : Mu) : Option Vl → Bool
  | some (.own (.lst _)) => match m with | .append | .extend | .pop | .insert => true | _ => false
  | some (.own (.dct _ _)) => match m with | .setdefault | .update => true | _ => false
  | _ => false
theorem wp_ownTy {m : Mu} {i : Nat} {Q : Unit → Env → Prop} : WP (ownTy m i) Q E ρ = (okTy m (getS i ρ) = true ∧ Q () ρ) := by
  unfold WP ownTy okTy
  rcases getS i ρ with _ | ⟨_ | d | _ | _⟩ <;> try simp
  cases d <;> cases m <;> simp
theorem okTy_append {l : List D} : okTy .append (some (.own (.lst l))) = true := rfl
theorem okTy_extend {l : List D} : okTy .extend (some (.own (.lst l))) = true := rfl
theorem okTy_pop {l : List D} : okTy .pop (some (.own (.lst l))) = true := rfl
theorem okTy_insert {l : List D} : okTy .insert (some (.own (.lst l))) = true := rfl
theorem okTy_setdefault {l m : List D} : okTy .setdefault (some (.own (.dct l m))) = true := rfl
theorem okTy_update {l m : List D} : okTy .update (some (.own (.dct l m))) = true := rfl
theorem wp_mutM {m : Mu} {i : Nat} {ds : List D} {Q : Vl → Env → Prop} : WP (mutM m i ds) Q E ρ = (match getS i ρ with | some (.own d) => WPo (mutD m d ds) fun p => Q (.frz p.1) (ρ.set i (some (.own p.2))) | _ => False) := by
  unfold WP mutM
  rcases getS i ρ with _ | ⟨_ | d | _ | _⟩ <;> try with_unfolding_all rfl
  dsimp only
  rcases mutD m d ds with _ | ⟨a, b⟩ <;> with_unfolding_all rfl
end
theorem ownIx_nil {n : Nat} : ownIx [] n = [] := rfl
theorem ownIx_frz {n : Nat} {d : D} {r : List Vl} : ownIx (.frz d :: r) n = ownIx r (n + 1) := rfl
theorem ownIx_clo {n k : Nat} {d : List D} {r : List Vl} : ownIx (.clo k d :: r) n = ownIx r (n + 1) := rfl
theorem ownIx_own {n : Nat} {d : D} {r : List Vl} : ownIx (.own d :: r) n = n :: ownIx r (n + 1) := rfl
/-! ### calls -/
section
variable {Pr : Prog} {cal : Callee} {E : Nat → Env → Prop} {ρ : Env}
def argW (Pr : Prog) (a : A) (Q : Vl → Env → Prop) (ρ : Env) : Prop := match a.get ρ with
    | some (.lam key) => match Pr.lams[key]? with
      | some L => WP (capAll L.caps) (fun ds ρ => Q (.clo key ds) ρ) (fun _ _ => False) ρ
      | none => False
    | some v => Q v ρ
    | none => False
theorem wp_argV {a : A} {Q : Vl → Env → Prop} : WP (argV Pr a) Q E ρ = argW Pr a Q ρ := by
  unfold WP argV argW
  rcases a.get ρ with _ | ⟨_ | d | _ | key⟩ <;> try with_unfolding_all rfl
  dsimp only
  rcases Pr.lams[key]? with _ | L
  · with_unfolding_all rfl
  dsimp only
  unfold WP
  rcases capAll L.caps ρ with _ | ⟨_ | _, _⟩ <;> with_unfolding_all rfl
theorem wp_argVs_nil {Q : List Vl → Env → Prop} : WP (argVs Pr []) Q E ρ = Q [] ρ := by with_unfolding_all rfl
theorem wp_argVs_cons {a : A} {r : List A} {Q : List Vl → Env → Prop} : WP (argVs Pr (a :: r)) Q E ρ = WP (argV Pr a) (fun v ρ => WP (argVs Pr r) (fun vs ρ => Q (v :: vs) ρ) E ρ) E ρ := by
  show WP (M.bind _ _) Q E ρ = _
  rw [wp_bind]
  congr 1
  funext d ρ
  rw [wp_bind]
  with_unfolding_all rfl
theorem argW_val {d : D} {Q : Vl → Env → Prop} : argW Pr (.val d) Q ρ = Q (.frz d) ρ := by with_unfolding_all rfl
def slArg (Pr : Prog) (Q : Vl → Env → Prop) (ρ : Env) : Option Vl → Prop
    | some (.lam key) => match Pr.lams[key]? with
      | some L => WP (capAll L.caps) (fun ds ρ => Q (.clo key ds) ρ) (fun _ _ => False) ρ
      | none => False
    | some v => Q v ρ
    | none => False
theorem argW_slot {i : Nat} {Q : Vl → Env → Prop} : argW Pr (.slot i) Q ρ = slArg Pr Q ρ (getS i ρ) := by
  unfold argW slArg A.get
  with_unfolding_all rfl
theorem slArg_frz {d : D} {Q : Vl → Env → Prop} : slArg Pr Q ρ (some (.frz d)) = Q (.frz d) ρ := by with_unfolding_all rfl
theorem slArg_own {d : D} {Q : Vl → Env → Prop} : slArg Pr Q ρ (some (.own d)) = Q (.own d) ρ := by with_unfolding_all rfl
theorem slArg_clo {k : Nat} {d : List D} {Q : Vl → Env → Prop} : slArg Pr Q ρ (some (.clo k d)) = Q (.clo k d) ρ := by with_unfolding_all rfl
theorem wp_goCall {f : Fid} {as : List A} {caps : List D} {Q : Vl → Env → Prop} : WP (goCall Pr cal f as caps) Q E ρ = WP (argVs Pr as) (fun vs ρ1 => noTwice (lent as ρ1) = true ∧ CW (cal f (vs ++ caps.map .frz)) (fun v ps => isFO v = true ∧ Q v (giveBack (lent as ρ1) ps ρ1)) (fun c ps => E c (giveBack (lent as ρ1) ps ρ1))) E ρ := by
  unfold WP goCall
  rcases argVs Pr as ρ with _ | ⟨vs | c, ρ1⟩
  · with_unfolding_all rfl
  · dsimp only
    by_cases h : noTwice (lent as ρ1) = true
    · simp only [h, if_true, true_and]
      generalize cal f (vs ++ caps.map .frz) = c0
      rcases c0 with _ | ⟨v | c, ps⟩
      · with_unfolding_all rfl
      · cases v <;> simp [isFO, CW]
      · with_unfolding_all rfl
    · simp [h]
  · with_unfolding_all rfl
theorem lent_nil : lent [] ρ = [] := rfl
theorem lent_val {d : D} {r : List A} : lent (.val d :: r) ρ = none :: lent r ρ := rfl
theorem lent_lam {k : Nat} {r : List A} : lent (.lam k :: r) ρ = none :: lent r ρ := rfl
def lentS (i : Nat) : Option Vl → Option Nat
  | some (.own _) => some i
  | _ => none
theorem lent_slot {i : Nat} {r : List A} : lent (.slot i :: r) ρ = lentS i (getS i ρ) :: lent r ρ := rfl
theorem lentS_frz {i : Nat} {d : D} : lentS i (some (.frz d)) = none := rfl
theorem lentS_clo {i k : Nat} {d : List D} : lentS i (some (.clo k d)) = none := rfl
theorem lentS_own {i : Nat} {d : D} : lentS i (some (.own d)) = some i := rfl
theorem giveBack_nil {vs : List (Option Vl)} : giveBack [] vs ρ = ρ := by cases vs <;> with_unfolding_all rfl
theorem giveBack_none {r : List (Option Nat)} {v : Option Vl} {vs : List (Option Vl)} : giveBack (none :: r) (v :: vs) ρ = giveBack r vs ρ := rfl
theorem giveBack_some {i : Nat} {r : List (Option Nat)} {v : Option Vl} {vs : List (Option Vl)} : giveBack (some i :: r) (v :: vs) ρ = giveBack r vs (ρ.set i v) := rfl
/-- nothing lent -/
theorem giveBack_frz : ∀ (ln : List (Option Nat)) (ps : List (Option Vl)), (∀ x ∈ ln, x = none) → giveBack ln ps ρ = ρ
  | [], ps, _ => giveBack_nil
  | none :: r, [], _ => rfl
  | none :: r, v :: vs, h => giveBack_frz r vs fun x hx => h x (List.mem_cons_of_mem _ hx)
  | some i :: r, _, h => by cases h _ List.mem_cons_self
theorem giveBack_n1 {ps : List (Option Vl)} : giveBack [none] ps ρ = ρ := giveBack_frz _ _ (by simp)
theorem giveBack_n2 {ps : List (Option Vl)} : giveBack [none, none] ps ρ = ρ := giveBack_frz _ _ (by simp)
theorem giveBack_n3 {ps : List (Option Vl)} : giveBack [none, none, none] ps ρ = ρ := giveBack_frz _ _ (by simp)
theorem giveBack_n4 {ps : List (Option Vl)} : giveBack [none, none, none, none] ps ρ = ρ := giveBack_frz _ _ (by simp)
theorem giveBack_n5 {ps : List (Option Vl)} : giveBack [none, none, none, none, none] ps ρ = ρ := giveBack_frz _ _ (by simp)
theorem noTwice_nil : noTwice [] = true := rfl
theorem noTwice_none {r : List (Option Nat)} : noTwice (none :: r) = noTwice r := rfl
theorem noTwice_some {i : Nat} {r : List (Option Nat)} : noTwice (some i :: r) = (!(r.contains (some i)) && noTwice r) := rfl
theorem cont_nil {i : Nat} : ([] : List (Option Nat)).contains (some i) = false := rfl
theorem cont_none {i : Nat} {r : List (Option Nat)} : (none :: r).contains (some i) = r.contains (some i) := by simp
theorem isFO_frz {d : D} : isFO (.frz d) = true := rfl
theorem isFO_own {d : D} : isFO (.own d) = true := rfl
theorem cw_ok {v : Vl} {ps : List (Option Vl)} {Q : Vl → List (Option Vl) → Prop} {E : Nat → List (Option Vl) → Prop} : CW (some (.ok v, ps)) Q E = Q v ps := by with_unfolding_all rfl
theorem cw_err {c : Nat} {ps : List (Option Vl)} {Q : Vl → List (Option Vl) → Prop} {E : Nat → List (Option Vl) → Prop} : CW (some (.err c, ps)) Q E = E c ps := by with_unfolding_all rfl
theorem cw_mono {c : Option CRes} {Q Q' : Vl → List (Option Vl) → Prop} {E E' : Nat → List (Option Vl) → Prop} (h : CW c Q' E') (hq : ∀ v ps, Q' v ps → Q v ps) (he : ∀ n ps, E' n ps → E n ps) : CW c Q E := by
  unfold CW at h ⊢
  split at h
  · exact hq _ _ h
  · exact he _ _ h
  · exact h
/-- a function's run -/
theorem cw_fn {k i : Nat} {d : Def} {args : List Vl} {Q : Vl → List (Option Vl) → Prop} {E : Nat → List (Option Vl) → Prop} (hd : Pr.defs[i]? = some d) (hl : args.length = d.np)
    (h : WP (evSs Pr (callF Pr k) (ownIx args 0) d.body) (fun f ρ => f.end fun v => Q v (slots d.np ρ)) (fun c ρ => E c (slots d.np ρ)) (args.map some ++ List.replicate (d.n - d.np) none)) : CW (callF Pr (k + 1) (.fn i) args) Q E := by
  have e : callF Pr (k + 1) (.fn i) args = runF Pr (callF Pr k) d.np d.n d.body args := by
    show (match Pr.defs[i]? with | some d => runF Pr (callF Pr k) d.np d.n d.body args | none => none) = _
    rw [hd]
  rw [e]
  unfold runF
  rw [if_pos hl]
  unfold WP at h
  unfold CW
  rcases e2 : evSs Pr (callF Pr k) (ownIx args 0) d.body (args.map some ++ List.replicate (d.n - d.np) none) with _ | ⟨f | c, ρ⟩
  · rw [e2] at h; exact h
  · rw [e2] at h
    cases f <;> exact h
  · rw [e2] at h; exact h
theorem cw_lamE {k key : Nat} {L : Lam} {x : Ex} {args : List Vl} {Q : Vl → List (Option Vl) → Prop} {E : Nat → List (Option Vl) → Prop} (hd : Pr.lams[key]? = some L) (hb : L.body = .e x) (hl : args.length = L.np + L.caps.length)
    (h : WP (evB Pr (callF Pr k) x).1 (fun v ρ => Q v (slots (L.np + L.caps.length) ρ)) (fun c ρ => E c (slots (L.np + L.caps.length) ρ)) (args.map some ++ List.replicate (L.n - (L.np + L.caps.length)) none)) : CW (callF Pr (k + 1) (.lam key) args) Q E := by
  have e : callF Pr (k + 1) (.lam key) args = runX Pr (callF Pr k) (L.np + L.caps.length) L.n x args := by
    show (match Pr.lams[key]? with
    | some L => match L.body with
      | .e x => runX Pr (callF Pr k) (L.np + L.caps.length) L.n x args
      | .s b => runF Pr (callF Pr k) (L.np + L.caps.length) L.n b args
    | none => none) = _
    rw [hd]
    dsimp only
    rw [hb]
  rw [e]
  unfold runX evalE
  rw [if_pos hl]
  unfold WP at h
  unfold CW
  rcases e2 : (evB Pr (callF Pr k) x).1 (args.map some ++ List.replicate (L.n - (L.np + L.caps.length)) none) with _ | ⟨f | c, ρ⟩
  · rw [e2] at h; exact h
  · rw [e2] at h
    exact h
  · rw [e2] at h; exact h
theorem cw_eq {c : Option CRes} {v : Vl} {ps : List (Option Vl)} (h : CW c (fun v' ps' => v' = v ∧ ps' = ps) fun _ _ => False) : c = some (.ok v, ps) := by
  unfold CW at h
  split at h
  · rw [h.1, h.2]
  · exact h.elim
  · exact h.elim
end
end Dw
end
section
set_option linter.all false
set_option maxRecDepth 100000
/-! W2: rules for expressions and statements. Printed by mkW2.py. -/
namespace Dw
open Dp
section
variable {Pr : Prog} {cal : Callee} {E : Nat → Env → Prop} {ρ : Env}
theorem wp_vb2 {m : M Vl} {Q : Bool → Env → Prop} : WP (vb m).2 Q E ρ = WP m (fun v ρ => WPo v.d? fun d => WPo (truD d) fun b => Q b ρ) E ρ := by
  show WP (M.bind _ _) Q E ρ = _
  simp only [wp_bind, wp_pure, wp_d_val, wp_opt, wp_frzV]
theorem opA_slot {i : Nat} {m : M Vl} {Q : A → Env → Prop} : WP (opA (.var i) m) Q E ρ = ((getS i ρ).isSome = true ∧ Q (.slot i) ρ) := by
  unfold WP opA
  dsimp only
  cases getS i ρ <;> simp
theorem opA_lam {k : Nat} {m : M Vl} {Q : A → Env → Prop} : WP (opA (.lam k) m) Q E ρ = Q (.lam k) ρ := by with_unfolding_all rfl
theorem opA_lit (d : D) {mm : M Vl} {Q : A → Env → Prop} : WP (opA (.lit d) mm) Q E ρ = WP mm (fun v ρ => WPo v.d? fun d => Q (.val d) ρ) E ρ := by
  show WP (M.bind _ _) Q E ρ = _
  simp only [wp_bind, wp_pure, wp_frzV]
theorem opA_gfn (f : Nat) {mm : M Vl} {Q : A → Env → Prop} : WP (opA (.gfn f) mm) Q E ρ = WP mm (fun v ρ => WPo v.d? fun d => Q (.val d) ρ) E ρ := by
  show WP (M.bind _ _) Q E ρ = _
  simp only [wp_bind, wp_pure, wp_frzV]
theorem opA_gcon (n : Nat) {mm : M Vl} {Q : A → Env → Prop} : WP (opA (.gcon n) mm) Q E ρ = WP mm (fun v ρ => WPo v.d? fun d => Q (.val d) ρ) E ρ := by
  show WP (M.bind _ _) Q E ρ = _
  simp only [wp_bind, wp_pure, wp_frzV]
theorem opA_bin (op : Bop) (a b : Ex) {mm : M Vl} {Q : A → Env → Prop} : WP (opA (.bin op a b) mm) Q E ρ = WP mm (fun v ρ => WPo v.d? fun d => Q (.val d) ρ) E ρ := by
  show WP (M.bind _ _) Q E ρ = _
  simp only [wp_bind, wp_pure, wp_frzV]
theorem opA_neg (a : Ex) {mm : M Vl} {Q : A → Env → Prop} : WP (opA (.neg a) mm) Q E ρ = WP mm (fun v ρ => WPo v.d? fun d => Q (.val d) ρ) E ρ := by
  show WP (M.bind _ _) Q E ρ = _
  simp only [wp_bind, wp_pure, wp_frzV]
theorem opA_cmp (op : Cop) (a b : Ex) {mm : M Vl} {Q : A → Env → Prop} : WP (opA (.cmp op a b) mm) Q E ρ = WP mm (fun v ρ => WPo v.d? fun d => Q (.val d) ρ) E ρ := by
  show WP (M.bind _ _) Q E ρ = _
  simp only [wp_bind, wp_pure, wp_frzV]
theorem opA_chn (op op2 : Cop) (a b c : Ex) {mm : M Vl} {Q : A → Env → Prop} : WP (opA (.chn op op2 a b c) mm) Q E ρ = WP mm (fun v ρ => WPo v.d? fun d => Q (.val d) ρ) E ρ := by
  show WP (M.bind _ _) Q E ρ = _
  simp only [wp_bind, wp_pure, wp_frzV]
theorem opA_tup (es : Exs) {mm : M Vl} {Q : A → Env → Prop} : WP (opA (.tup es) mm) Q E ρ = WP mm (fun v ρ => WPo v.d? fun d => Q (.val d) ρ) E ρ := by
  show WP (M.bind _ _) Q E ρ = _
  simp only [wp_bind, wp_pure, wp_frzV]
theorem opA_lst (es : Exs) {mm : M Vl} {Q : A → Env → Prop} : WP (opA (.lst es) mm) Q E ρ = WP mm (fun v ρ => WPo v.d? fun d => Q (.val d) ρ) E ρ := by
  show WP (M.bind _ _) Q E ρ = _
  simp only [wp_bind, wp_pure, wp_frzV]
theorem opA_dct (kvs : Kvs) {mm : M Vl} {Q : A → Env → Prop} : WP (opA (.dct kvs) mm) Q E ρ = WP mm (fun v ρ => WPo v.d? fun d => Q (.val d) ρ) E ρ := by
  show WP (M.bind _ _) Q E ρ = _
  simp only [wp_bind, wp_pure, wp_frzV]
theorem opA_idx (a i : Ex) {mm : M Vl} {Q : A → Env → Prop} : WP (opA (.idx a i) mm) Q E ρ = WP mm (fun v ρ => WPo v.d? fun d => Q (.val d) ρ) E ρ := by
  show WP (M.bind _ _) Q E ρ = _
  simp only [wp_bind, wp_pure, wp_frzV]
theorem opA_slc (a lo hi : Ex) {mm : M Vl} {Q : A → Env → Prop} : WP (opA (.slc a lo hi) mm) Q E ρ = WP mm (fun v ρ => WPo v.d? fun d => Q (.val d) ρ) E ρ := by
  show WP (M.bind _ _) Q E ρ = _
  simp only [wp_bind, wp_pure, wp_frzV]
theorem opA_rev (a : Ex) {mm : M Vl} {Q : A → Env → Prop} : WP (opA (.rev a) mm) Q E ρ = WP mm (fun v ρ => WPo v.d? fun d => Q (.val d) ρ) E ρ := by
  show WP (M.bind _ _) Q E ρ = _
  simp only [wp_bind, wp_pure, wp_frzV]
theorem opA_bi (f : Bi) (es : Exs) {mm : M Vl} {Q : A → Env → Prop} : WP (opA (.bi f es) mm) Q E ρ = WP mm (fun v ρ => WPo v.d? fun d => Q (.val d) ρ) E ρ := by
  show WP (M.bind _ _) Q E ρ = _
  simp only [wp_bind, wp_pure, wp_frzV]
theorem opA_lstIt (t : It) {mm : M Vl} {Q : A → Env → Prop} : WP (opA (.lstIt t) mm) Q E ρ = WP mm (fun v ρ => WPo v.d? fun d => Q (.val d) ρ) E ρ := by
  show WP (M.bind _ _) Q E ρ = _
  simp only [wp_bind, wp_pure, wp_frzV]
theorem opA_tupIt (t : It) {mm : M Vl} {Q : A → Env → Prop} : WP (opA (.tupIt t) mm) Q E ρ = WP mm (fun v ρ => WPo v.d? fun d => Q (.val d) ρ) E ρ := by
  show WP (M.bind _ _) Q E ρ = _
  simp only [wp_bind, wp_pure, wp_frzV]
theorem opA_dctIt (t : It) {mm : M Vl} {Q : A → Env → Prop} : WP (opA (.dctIt t) mm) Q E ρ = WP mm (fun v ρ => WPo v.d? fun d => Q (.val d) ρ) E ρ := by
  show WP (M.bind _ _) Q E ρ = _
  simp only [wp_bind, wp_pure, wp_frzV]
theorem opA_mth (m : Mt) (o : Ex) (es : Exs) {mm : M Vl} {Q : A → Env → Prop} : WP (opA (.mth m o es) mm) Q E ρ = WP mm (fun v ρ => WPo v.d? fun d => Q (.val d) ρ) E ρ := by
  show WP (M.bind _ _) Q E ρ = _
  simp only [wp_bind, wp_pure, wp_frzV]
theorem opA_mut (m : Mu) (i : Nat) (es : Exs) {mm : M Vl} {Q : A → Env → Prop} : WP (opA (.mut m i es) mm) Q E ρ = WP mm (fun v ρ => WPo v.d? fun d => Q (.val d) ρ) E ρ := by
  show WP (M.bind _ _) Q E ρ = _
  simp only [wp_bind, wp_pure, wp_frzV]
theorem opA_call (f : Nat) (es : Exs) {mm : M Vl} {Q : A → Env → Prop} : WP (opA (.call f es) mm) Q E ρ = WP mm (fun v ρ => WPo v.d? fun d => Q (.val d) ρ) E ρ := by
  show WP (M.bind _ _) Q E ρ = _
  simp only [wp_bind, wp_pure, wp_frzV]
theorem opA_callv (i : Nat) (es : Exs) {mm : M Vl} {Q : A → Env → Prop} : WP (opA (.callv i es) mm) Q E ρ = WP mm (fun v ρ => WPo v.d? fun d => Q (.val d) ρ) E ρ := by
  show WP (M.bind _ _) Q E ρ = _
  simp only [wp_bind, wp_pure, wp_frzV]
theorem opA_make (c : Nat) (es : Exs) {mm : M Vl} {Q : A → Env → Prop} : WP (opA (.make c es) mm) Q E ρ = WP mm (fun v ρ => WPo v.d? fun d => Q (.val d) ρ) E ρ := by
  show WP (M.bind _ _) Q E ρ = _
  simp only [wp_bind, wp_pure, wp_frzV]
theorem opA_attr (o : Ex) (f : String) {mm : M Vl} {Q : A → Env → Prop} : WP (opA (.attr o f) mm) Q E ρ = WP mm (fun v ρ => WPo v.d? fun d => Q (.val d) ρ) E ρ := by
  show WP (M.bind _ _) Q E ρ = _
  simp only [wp_bind, wp_pure, wp_frzV]
theorem opA_umth (f : Nat) (o : Ex) (es : Exs) {mm : M Vl} {Q : A → Env → Prop} : WP (opA (.umth f o es) mm) Q E ρ = WP mm (fun v ρ => WPo v.d? fun d => Q (.val d) ρ) E ρ := by
  show WP (M.bind _ _) Q E ρ = _
  simp only [wp_bind, wp_pure, wp_frzV]
theorem opA_isi (e : Ex) (ts : List Ty) {mm : M Vl} {Q : A → Env → Prop} : WP (opA (.isi e ts) mm) Q E ρ = WP mm (fun v ρ => WPo v.d? fun d => Q (.val d) ρ) E ρ := by
  show WP (M.bind _ _) Q E ρ = _
  simp only [wp_bind, wp_pure, wp_frzV]
theorem opA_comp (own : List Nat) (elt : Ex) (tg : Tg) (t : It) (cs : Exs) {mm : M Vl} {Q : A → Env → Prop} : WP (opA (.comp own elt tg t cs) mm) Q E ρ = WP mm (fun v ρ => WPo v.d? fun d => Q (.val d) ρ) E ρ := by
  show WP (M.bind _ _) Q E ρ = _
  simp only [wp_bind, wp_pure, wp_frzV]
theorem opA_comp2 (own : List Nat) (elt : Ex) (tg : Tg) (t : It) (cs : Exs) (own2 : List Nat) (tg2 : Tg) (t2 : It) (cs2 : Exs) {mm : M Vl} {Q : A → Env → Prop} : WP (opA (.comp2 own elt tg t cs own2 tg2 t2 cs2) mm) Q E ρ = WP mm (fun v ρ => WPo v.d? fun d => Q (.val d) ρ) E ρ := by
  show WP (M.bind _ _) Q E ρ = _
  simp only [wp_bind, wp_pure, wp_frzV]
theorem opA_dcomp (own : List Nat) (k v : Ex) (tg : Tg) (t : It) (cs : Exs) {mm : M Vl} {Q : A → Env → Prop} : WP (opA (.dcomp own k v tg t cs) mm) Q E ρ = WP mm (fun v ρ => WPo v.d? fun d => Q (.val d) ρ) E ρ := by
  show WP (M.bind _ _) Q E ρ = _
  simp only [wp_bind, wp_pure, wp_frzV]
theorem opA_srtk (a : Ex) (key : Ex) {mm : M Vl} {Q : A → Env → Prop} : WP (opA (.srtk a key) mm) Q E ρ = WP mm (fun v ρ => WPo v.d? fun d => Q (.val d) ρ) E ρ := by
  show WP (M.bind _ _) Q E ρ = _
  simp only [wp_bind, wp_pure, wp_frzV]
theorem opA_refuse (x : Ex) (tab : List (Nat × List Nat)) {mm : M Vl} {Q : A → Env → Prop} : WP (opA (.refuse x tab) mm) Q E ρ = WP mm (fun v ρ => WPo v.d? fun d => Q (.val d) ρ) E ρ := by
  show WP (M.bind _ _) Q E ρ = _
  simp only [wp_bind, wp_pure, wp_frzV]
theorem opA_nt (a : Ex) {mm : M Vl} {Q : A → Env → Prop} : WP (opA (.nt a) mm) Q E ρ = WP mm (fun v ρ => WPo v.d? fun d => Q (.val d) ρ) E ρ := by
  show WP (M.bind _ _) Q E ρ = _
  simp only [wp_bind, wp_pure, wp_frzV]
theorem opA_and (a b : Ex) {mm : M Vl} {Q : A → Env → Prop} : WP (opA (.and a b) mm) Q E ρ = WP mm (fun v ρ => WPo v.d? fun d => Q (.val d) ρ) E ρ := by
  show WP (M.bind _ _) Q E ρ = _
  simp only [wp_bind, wp_pure, wp_frzV]
theorem opA_or (a b : Ex) {mm : M Vl} {Q : A → Env → Prop} : WP (opA (.or a b) mm) Q E ρ = WP mm (fun v ρ => WPo v.d? fun d => Q (.val d) ρ) E ρ := by
  show WP (M.bind _ _) Q E ρ = _
  simp only [wp_bind, wp_pure, wp_frzV]
theorem opA_ite (c a b : Ex) {mm : M Vl} {Q : A → Env → Prop} : WP (opA (.ite c a b) mm) Q E ρ = WP mm (fun v ρ => WPo v.d? fun d => Q (.val d) ρ) E ρ := by
  show WP (M.bind _ _) Q E ρ = _
  simp only [wp_bind, wp_pure, wp_frzV]
theorem wt_lit (d : D) {Q : Bool → Env → Prop} : WP (evB Pr cal (.lit d)).2 Q E ρ = WP (evB Pr cal (.lit d)).1 (fun v ρ => WPo v.d? fun d => WPo (truD d) fun b => Q b ρ) E ρ := wp_vb2
theorem wt_gfn (f : Nat) {Q : Bool → Env → Prop} : WP (evB Pr cal (.gfn f)).2 Q E ρ = WP (evB Pr cal (.gfn f)).1 (fun v ρ => WPo v.d? fun d => WPo (truD d) fun b => Q b ρ) E ρ := wp_vb2
theorem wt_gcon (n : Nat) {Q : Bool → Env → Prop} : WP (evB Pr cal (.gcon n)).2 Q E ρ = WP (evB Pr cal (.gcon n)).1 (fun v ρ => WPo v.d? fun d => WPo (truD d) fun b => Q b ρ) E ρ := wp_vb2
theorem wt_bin (op : Bop) (a b : Ex) {Q : Bool → Env → Prop} : WP (evB Pr cal (.bin op a b)).2 Q E ρ = WP (evB Pr cal (.bin op a b)).1 (fun v ρ => WPo v.d? fun d => WPo (truD d) fun b => Q b ρ) E ρ := wp_vb2
theorem wt_neg (a : Ex) {Q : Bool → Env → Prop} : WP (evB Pr cal (.neg a)).2 Q E ρ = WP (evB Pr cal (.neg a)).1 (fun v ρ => WPo v.d? fun d => WPo (truD d) fun b => Q b ρ) E ρ := wp_vb2
theorem wt_cmp (op : Cop) (a b : Ex) {Q : Bool → Env → Prop} : WP (evB Pr cal (.cmp op a b)).2 Q E ρ = WP (evB Pr cal (.cmp op a b)).1 (fun v ρ => WPo v.d? fun d => WPo (truD d) fun b => Q b ρ) E ρ := wp_vb2
theorem wt_chn (op op2 : Cop) (a b c : Ex) {Q : Bool → Env → Prop} : WP (evB Pr cal (.chn op op2 a b c)).2 Q E ρ = WP (evB Pr cal (.chn op op2 a b c)).1 (fun v ρ => WPo v.d? fun d => WPo (truD d) fun b => Q b ρ) E ρ := wp_vb2
theorem wt_tup (es : Exs) {Q : Bool → Env → Prop} : WP (evB Pr cal (.tup es)).2 Q E ρ = WP (evB Pr cal (.tup es)).1 (fun v ρ => WPo v.d? fun d => WPo (truD d) fun b => Q b ρ) E ρ := wp_vb2
theorem wt_lst (es : Exs) {Q : Bool → Env → Prop} : WP (evB Pr cal (.lst es)).2 Q E ρ = WP (evB Pr cal (.lst es)).1 (fun v ρ => WPo v.d? fun d => WPo (truD d) fun b => Q b ρ) E ρ := wp_vb2
theorem wt_dct (kvs : Kvs) {Q : Bool → Env → Prop} : WP (evB Pr cal (.dct kvs)).2 Q E ρ = WP (evB Pr cal (.dct kvs)).1 (fun v ρ => WPo v.d? fun d => WPo (truD d) fun b => Q b ρ) E ρ := wp_vb2
theorem wt_idx (a i : Ex) {Q : Bool → Env → Prop} : WP (evB Pr cal (.idx a i)).2 Q E ρ = WP (evB Pr cal (.idx a i)).1 (fun v ρ => WPo v.d? fun d => WPo (truD d) fun b => Q b ρ) E ρ := wp_vb2
theorem wt_slc (a lo hi : Ex) {Q : Bool → Env → Prop} : WP (evB Pr cal (.slc a lo hi)).2 Q E ρ = WP (evB Pr cal (.slc a lo hi)).1 (fun v ρ => WPo v.d? fun d => WPo (truD d) fun b => Q b ρ) E ρ := wp_vb2
theorem wt_rev (a : Ex) {Q : Bool → Env → Prop} : WP (evB Pr cal (.rev a)).2 Q E ρ = WP (evB Pr cal (.rev a)).1 (fun v ρ => WPo v.d? fun d => WPo (truD d) fun b => Q b ρ) E ρ := wp_vb2
theorem wt_bi (f : Bi) (es : Exs) {Q : Bool → Env → Prop} : WP (evB Pr cal (.bi f es)).2 Q E ρ = WP (evB Pr cal (.bi f es)).1 (fun v ρ => WPo v.d? fun d => WPo (truD d) fun b => Q b ρ) E ρ := wp_vb2
theorem wt_lstIt (t : It) {Q : Bool → Env → Prop} : WP (evB Pr cal (.lstIt t)).2 Q E ρ = WP (evB Pr cal (.lstIt t)).1 (fun v ρ => WPo v.d? fun d => WPo (truD d) fun b => Q b ρ) E ρ := wp_vb2
theorem wt_tupIt (t : It) {Q : Bool → Env → Prop} : WP (evB Pr cal (.tupIt t)).2 Q E ρ = WP (evB Pr cal (.tupIt t)).1 (fun v ρ => WPo v.d? fun d => WPo (truD d) fun b => Q b ρ) E ρ := wp_vb2
theorem wt_dctIt (t : It) {Q : Bool → Env → Prop} : WP (evB Pr cal (.dctIt t)).2 Q E ρ = WP (evB Pr cal (.dctIt t)).1 (fun v ρ => WPo v.d? fun d => WPo (truD d) fun b => Q b ρ) E ρ := wp_vb2
theorem wt_mth (m : Mt) (o : Ex) (es : Exs) {Q : Bool → Env → Prop} : WP (evB Pr cal (.mth m o es)).2 Q E ρ = WP (evB Pr cal (.mth m o es)).1 (fun v ρ => WPo v.d? fun d => WPo (truD d) fun b => Q b ρ) E ρ := wp_vb2
theorem wt_mut (m : Mu) (i : Nat) (es : Exs) {Q : Bool → Env → Prop} : WP (evB Pr cal (.mut m i es)).2 Q E ρ = WP (evB Pr cal (.mut m i es)).1 (fun v ρ => WPo v.d? fun d => WPo (truD d) fun b => Q b ρ) E ρ := wp_vb2
theorem wt_call (f : Nat) (es : Exs) {Q : Bool → Env → Prop} : WP (evB Pr cal (.call f es)).2 Q E ρ = WP (evB Pr cal (.call f es)).1 (fun v ρ => WPo v.d? fun d => WPo (truD d) fun b => Q b ρ) E ρ := wp_vb2
theorem wt_callv (i : Nat) (es : Exs) {Q : Bool → Env → Prop} : WP (evB Pr cal (.callv i es)).2 Q E ρ = WP (evB Pr cal (.callv i es)).1 (fun v ρ => WPo v.d? fun d => WPo (truD d) fun b => Q b ρ) E ρ := wp_vb2
theorem wt_make (c : Nat) (es : Exs) {Q : Bool → Env → Prop} : WP (evB Pr cal (.make c es)).2 Q E ρ = WP (evB Pr cal (.make c es)).1 (fun v ρ => WPo v.d? fun d => WPo (truD d) fun b => Q b ρ) E ρ := wp_vb2
theorem wt_attr (o : Ex) (f : String) {Q : Bool → Env → Prop} : WP (evB Pr cal (.attr o f)).2 Q E ρ = WP (evB Pr cal (.attr o f)).1 (fun v ρ => WPo v.d? fun d => WPo (truD d) fun b => Q b ρ) E ρ := wp_vb2
theorem wt_umth (f : Nat) (o : Ex) (es : Exs) {Q : Bool → Env → Prop} : WP (evB Pr cal (.umth f o es)).2 Q E ρ = WP (evB Pr cal (.umth f o es)).1 (fun v ρ => WPo v.d? fun d => WPo (truD d) fun b => Q b ρ) E ρ := wp_vb2
theorem wt_isi (e : Ex) (ts : List Ty) {Q : Bool → Env → Prop} : WP (evB Pr cal (.isi e ts)).2 Q E ρ = WP (evB Pr cal (.isi e ts)).1 (fun v ρ => WPo v.d? fun d => WPo (truD d) fun b => Q b ρ) E ρ := wp_vb2
theorem wt_comp (own : List Nat) (elt : Ex) (tg : Tg) (t : It) (cs : Exs) {Q : Bool → Env → Prop} : WP (evB Pr cal (.comp own elt tg t cs)).2 Q E ρ = WP (evB Pr cal (.comp own elt tg t cs)).1 (fun v ρ => WPo v.d? fun d => WPo (truD d) fun b => Q b ρ) E ρ := wp_vb2
theorem wt_comp2 (own : List Nat) (elt : Ex) (tg : Tg) (t : It) (cs : Exs) (own2 : List Nat) (tg2 : Tg) (t2 : It) (cs2 : Exs) {Q : Bool → Env → Prop} : WP (evB Pr cal (.comp2 own elt tg t cs own2 tg2 t2 cs2)).2 Q E ρ = WP (evB Pr cal (.comp2 own elt tg t cs own2 tg2 t2 cs2)).1 (fun v ρ => WPo v.d? fun d => WPo (truD d) fun b => Q b ρ) E ρ := wp_vb2
theorem wt_dcomp (own : List Nat) (k v : Ex) (tg : Tg) (t : It) (cs : Exs) {Q : Bool → Env → Prop} : WP (evB Pr cal (.dcomp own k v tg t cs)).2 Q E ρ = WP (evB Pr cal (.dcomp own k v tg t cs)).1 (fun v ρ => WPo v.d? fun d => WPo (truD d) fun b => Q b ρ) E ρ := wp_vb2
theorem wt_srtk (a : Ex) (key : Ex) {Q : Bool → Env → Prop} : WP (evB Pr cal (.srtk a key)).2 Q E ρ = WP (evB Pr cal (.srtk a key)).1 (fun v ρ => WPo v.d? fun d => WPo (truD d) fun b => Q b ρ) E ρ := wp_vb2
theorem wt_refuse (x : Ex) (tab : List (Nat × List Nat)) {Q : Bool → Env → Prop} : WP (evB Pr cal (.refuse x tab)).2 Q E ρ = WP (evB Pr cal (.refuse x tab)).1 (fun v ρ => WPo v.d? fun d => WPo (truD d) fun b => Q b ρ) E ρ := wp_vb2
theorem we_var (i : Nat) {Q : Vl → Env → Prop} : WP (evB Pr cal (.var i)).1 Q E ρ = rdW i Q ρ (getS i ρ) := wp_rd
theorem wt_var (i : Nat) {Q : Bool → Env → Prop} : WP (evB Pr cal (.var i)).2 Q E ρ = slW (getS i ρ) fun d => WPo (truD d) fun b => Q b ρ := by
  show WP (M.bind (opA (.var i) (rdVar i)) _) Q E ρ = _
  simp only [wp_bind, opA_slot, wp_d_slot, wp_opt]
  rcases getS i ρ with _ | ⟨_ | _ | _ | _⟩ <;> simp [slW]
theorem we_lit (d : D) {Q : Vl → Env → Prop} : WP (evB Pr cal (.lit d)).1 Q E ρ = Q (.frz d) ρ := by with_unfolding_all rfl
theorem we_gfn (f : Nat) {Q : Vl → Env → Prop} : WP (evB Pr cal (.gfn f)).1 Q E ρ = Q (.frz (.fn f)) ρ := by with_unfolding_all rfl
theorem we_gcon (n : Nat) {Q : Vl → Env → Prop} : WP (evB Pr cal (.gcon n)).1 Q E ρ = WPo Pr.cons[n]? fun d => Q (.frz d) ρ := by
  show WP (M.bind _ _) _ E ρ = _
  simp only [wp_bind, wp_pure, wp_frzV, wp_opt, wp_ite]
theorem we_bin (op : Bop) (a b : Ex) {Q : Vl → Env → Prop} : WP (evB Pr cal (.bin op a b)).1 Q E ρ = WP (opA a (evB Pr cal a).1) (fun x ρ => WP (opA b (evB Pr cal b).1) (fun y ρ => WP x.d (fun p ρ => WP y.d (fun q ρ => WPo (binD op p q) fun v => Q v ρ) E ρ) E ρ) E ρ) E ρ := by
  show WP (M.bind _ _) _ E ρ = _
  simp only [wp_bind, wp_pure, wp_frzV, wp_opt, wp_ite]
theorem we_cmp (op : Cop) (a b : Ex) {Q : Vl → Env → Prop} : WP (evB Pr cal (.cmp op a b)).1 Q E ρ = WP (opA a (evB Pr cal a).1) (fun x ρ => WP (opA b (evB Pr cal b).1) (fun y ρ => WP (cmpU Pr cal op x y) (fun d ρ => Q (.frz d) ρ) E ρ) E ρ) E ρ := by
  show WP (M.bind _ _) _ E ρ = _
  simp only [wp_bind, wp_pure, wp_frzV, wp_opt, wp_ite]
/-- a chain behind its first test -/
def chnW (d : D) (P R : Prop) : Prop := match d with
  | .bl true => P
  | .bl false => R
  | _ => False
theorem chnW_bl {b : Bool} {P R : Prop} : chnW (.bl b) P R = if b then P else R := by cases b <;> with_unfolding_all rfl
theorem we_chn (op op2 : Cop) (a b c : Ex) {Q : Vl → Env → Prop} : WP (evB Pr cal (.chn op op2 a b c)).1 Q E ρ = WP (opA a (evB Pr cal a).1) (fun x ρ => WP (opA b (evB Pr cal b).1) (fun y ρ => WP (cmpU Pr cal op x y) (fun d ρ => chnW d (WP (opA c (evB Pr cal c).1) (fun z ρ => WP (cmpU Pr cal op2 y z) (fun e ρ => Q (.frz e) ρ) E ρ) E ρ) (Q (.frz (.bl false)) ρ)) E ρ) E ρ) E ρ := by
  show WP (M.bind _ _) _ E ρ = _
  simp only [wp_bind]
  congr 1; funext x ρ; congr 1; funext y ρ; congr 1; funext d ρ
  unfold chnW
  cases d <;> try with_unfolding_all rfl
  rename_i b; cases b
  · with_unfolding_all rfl
  · simp only [wp_bind, wp_pure]
theorem we_nt (a : Ex) {Q : Vl → Env → Prop} : WP (evB Pr cal (.nt a)).1 Q E ρ = WP (evB Pr cal a).2 (fun b ρ => Q (.frz (.bl (!b))) ρ) E ρ := by
  show WP (M.bind _ _) _ E ρ = _
  simp only [wp_bind, wp_pure, wp_frzV, wp_opt, wp_ite]
theorem wt_nt (a : Ex) {Q : Bool → Env → Prop} : WP (evB Pr cal (.nt a)).2 Q E ρ = WP (evB Pr cal a).2 (fun b ρ => Q (!b) ρ) E ρ := by
  show WP (M.bind _ _) _ E ρ = _
  simp only [wp_bind, wp_pure, wp_frzV, wp_opt, wp_ite]
theorem wt_and (a b : Ex) {Q : Bool → Env → Prop} : WP (evB Pr cal (.and a b)).2 Q E ρ = WP (evB Pr cal a).2 (fun t ρ => if t then WP (evB Pr cal b).2 Q E ρ else Q false ρ) E ρ := by
  show WP (M.bind _ _) _ E ρ = _
  simp only [wp_bind, wp_pure, wp_frzV, wp_opt, wp_ite]
theorem wt_or (a b : Ex) {Q : Bool → Env → Prop} : WP (evB Pr cal (.or a b)).2 Q E ρ = WP (evB Pr cal a).2 (fun t ρ => if t then Q true ρ else WP (evB Pr cal b).2 Q E ρ) E ρ := by
  show WP (M.bind _ _) _ E ρ = _
  simp only [wp_bind, wp_pure, wp_frzV, wp_opt, wp_ite]
theorem wt_ite (c a b : Ex) {Q : Bool → Env → Prop} : WP (evB Pr cal (.ite c a b)).2 Q E ρ = WP (evB Pr cal c).2 (fun t ρ => if t then WP (evB Pr cal a).2 Q E ρ else WP (evB Pr cal b).2 Q E ρ) E ρ := by
  show WP (M.bind _ _) _ E ρ = _
  simp only [wp_bind, wp_pure, wp_frzV, wp_opt, wp_ite]
theorem we_and (a b : Ex) {Q : Vl → Env → Prop} : WP (evB Pr cal (.and a b)).1 Q E ρ = WP (evB Pr cal a).1 (fun v ρ => WPo v.d? fun d => WPo (truD d) fun t => if t then WP (evB Pr cal b).1 Q E ρ else Q (.frz d) ρ) E ρ := by
  show WP (M.bind _ _) _ E ρ = _
  simp only [wp_bind, wp_pure, wp_frzV, wp_opt, wp_ite]
theorem we_or (a b : Ex) {Q : Vl → Env → Prop} : WP (evB Pr cal (.or a b)).1 Q E ρ = WP (evB Pr cal a).1 (fun v ρ => WPo v.d? fun d => WPo (truD d) fun t => if t then Q (.frz d) ρ else WP (evB Pr cal b).1 Q E ρ) E ρ := by
  show WP (M.bind _ _) _ E ρ = _
  simp only [wp_bind, wp_pure, wp_frzV, wp_opt, wp_ite]
theorem we_ite (c a b : Ex) {Q : Vl → Env → Prop} : WP (evB Pr cal (.ite c a b)).1 Q E ρ = WP (evB Pr cal c).2 (fun t ρ => if t then WP (evB Pr cal a).1 Q E ρ else WP (evB Pr cal b).1 Q E ρ) E ρ := by
  show WP (M.bind _ _) _ E ρ = _
  simp only [wp_bind, wp_pure, wp_frzV, wp_opt, wp_ite]
theorem we_tup (es : Exs) {Q : Vl → Env → Prop} : WP (evB Pr cal (.tup es)).1 Q E ρ = WP (evalEs Pr cal es) (fun ds ρ => Q (.frz (.tup ds)) ρ) E ρ := by
  show WP (M.bind _ _) _ E ρ = _
  simp only [wp_bind, wp_pure, wp_frzV, wp_opt, wp_ite]
theorem we_lst (es : Exs) {Q : Vl → Env → Prop} : WP (evB Pr cal (.lst es)).1 Q E ρ = WP (evalEs Pr cal es) (fun ds ρ => Q (.own (.lst ds)) ρ) E ρ := by
  show WP (M.bind _ _) _ E ρ = _
  simp only [wp_bind, wp_pure, wp_frzV, wp_opt, wp_ite]
theorem we_dct (es : Kvs) {Q : Vl → Env → Prop} : WP (evB Pr cal (.dct es)).1 Q E ρ = WP (evalKV Pr cal es) (fun p ρ => WPo (putAll [] [] p.1 p.2) fun q => Q (.own (.dct q.1 q.2)) ρ) E ρ := by
  show WP (M.bind _ _) _ E ρ = _
  simp only [wp_bind, wp_pure, wp_frzV, wp_opt, wp_ite]
theorem we_idx (a i : Ex) {Q : Vl → Env → Prop} : WP (evB Pr cal (.idx a i)).1 Q E ρ = WP (opA a (evB Pr cal a).1) (fun x ρ => WP (opA i (evB Pr cal i).1) (fun y ρ => WP x.d (fun p ρ => WP y.d (fun q ρ => WPo (idxD p q) fun d => Q (.frz d) ρ) E ρ) E ρ) E ρ) E ρ := by
  show WP (M.bind _ _) _ E ρ = _
  simp only [wp_bind, wp_pure, wp_frzV, wp_opt, wp_ite]
theorem we_slc (a lo hi : Ex) {Q : Vl → Env → Prop} : WP (evB Pr cal (.slc a lo hi)).1 Q E ρ = WP (opA a (evB Pr cal a).1) (fun x ρ => WP (partM lo (opA lo (evB Pr cal lo).1)) (fun q ρ => WP (partM hi (opA hi (evB Pr cal hi).1)) (fun r ρ => WP x.d (fun p ρ => WPo (sliceD p q r) fun v => Q v ρ) E ρ) E ρ) E ρ) E ρ := by
  show WP (M.bind _ _) _ E ρ = _
  simp only [wp_bind, wp_pure, wp_frzV, wp_opt, wp_ite]
def negW (d : D) (Q : Vl → Prop) : Prop := match d with
  | .int i => Q (.frz (.int (-i)))
  | _ => False
theorem negW_int {i : Int} {Q : Vl → Prop} : negW (.int i) Q = Q (.frz (.int (-i))) := rfl
theorem we_neg (a : Ex) {Q : Vl → Env → Prop} : WP (evB Pr cal (.neg a)).1 Q E ρ = WP (opA a (evB Pr cal a).1) (fun x ρ => WP x.d (fun p ρ => negW p fun v => Q v ρ) E ρ) E ρ := by
  show WP (M.bind _ _) _ E ρ = _
  simp only [wp_bind]
  congr 1; funext x ρ; congr 1; funext y ρ
  unfold negW
  cases y <;> with_unfolding_all rfl
def revW (d : D) (Q : Vl → Prop) : Prop := match d with
    | .lst l => Q (.own (.lst l.reverse))
    | .tup l => Q (.frz (.tup l.reverse))
    | .str l => Q (.frz (.str l.reverse))
    | _ => False
theorem revW_lst {l : List D} {Q : Vl → Prop} : revW (.lst l) Q = Q (.own (.lst l.reverse)) := rfl
theorem revW_tup {l : List D} {Q : Vl → Prop} : revW (.tup l) Q = Q (.frz (.tup l.reverse)) := rfl
theorem revW_str {l : List Nat} {Q : Vl → Prop} : revW (.str l) Q = Q (.frz (.str l.reverse)) := rfl
theorem we_rev (a : Ex) {Q : Vl → Env → Prop} : WP (evB Pr cal (.rev a)).1 Q E ρ = WP (opA a (evB Pr cal a).1) (fun x ρ => WP x.d (fun p ρ => revW p fun v => Q v ρ) E ρ) E ρ := by
  show WP (M.bind _ _) _ E ρ = _
  simp only [wp_bind]
  congr 1; funext x ρ; congr 1; funext y ρ
  unfold revW
  cases y <;> with_unfolding_all rfl
theorem partM_lit {i : Int} {m : M A} {Q : Option Int → Env → Prop} : WP (partM (.lit (.int i)) m) Q E ρ = WP (partI m) Q E ρ := by with_unfolding_all rfl
theorem partM_non {m : M A} {Q : Option Int → Env → Prop} : WP (partM (.lit .non) m) Q E ρ = Q none ρ := by with_unfolding_all rfl
def intW (d : D) (Q : Int → Prop) : Prop := match d with
  | .int i => Q i
  | _ => False
theorem intW_int {i : Int} {Q : Int → Prop} : intW (.int i) Q = Q i := rfl
theorem wp_partI {m : M A} {Q : Option Int → Env → Prop} : WP (partI m) Q E ρ = WP m (fun y ρ => WP y.d (fun q ρ => intW q fun i => Q (some i) ρ) E ρ) E ρ := by
  show WP (M.bind _ _) _ E ρ = _
  simp only [wp_bind]
  congr 1; funext x ρ; congr 1; funext y ρ
  unfold intW
  cases y <;> with_unfolding_all rfl
theorem partM_gfn (f : Nat) {mm : M A} {Q : Option Int → Env → Prop} : WP (partM (.gfn f) mm) Q E ρ = WP (partI mm) Q E ρ := by with_unfolding_all rfl
theorem partM_gcon (n : Nat) {mm : M A} {Q : Option Int → Env → Prop} : WP (partM (.gcon n) mm) Q E ρ = WP (partI mm) Q E ρ := by with_unfolding_all rfl
theorem partM_bin (op : Bop) (a b : Ex) {mm : M A} {Q : Option Int → Env → Prop} : WP (partM (.bin op a b) mm) Q E ρ = WP (partI mm) Q E ρ := by with_unfolding_all rfl
theorem partM_neg (a : Ex) {mm : M A} {Q : Option Int → Env → Prop} : WP (partM (.neg a) mm) Q E ρ = WP (partI mm) Q E ρ := by with_unfolding_all rfl
theorem partM_cmp (op : Cop) (a b : Ex) {mm : M A} {Q : Option Int → Env → Prop} : WP (partM (.cmp op a b) mm) Q E ρ = WP (partI mm) Q E ρ := by with_unfolding_all rfl
theorem partM_chn (op op2 : Cop) (a b c : Ex) {mm : M A} {Q : Option Int → Env → Prop} : WP (partM (.chn op op2 a b c) mm) Q E ρ = WP (partI mm) Q E ρ := by with_unfolding_all rfl
theorem partM_tup (es : Exs) {mm : M A} {Q : Option Int → Env → Prop} : WP (partM (.tup es) mm) Q E ρ = WP (partI mm) Q E ρ := by with_unfolding_all rfl
theorem partM_lst (es : Exs) {mm : M A} {Q : Option Int → Env → Prop} : WP (partM (.lst es) mm) Q E ρ = WP (partI mm) Q E ρ := by with_unfolding_all rfl
theorem partM_dct (kvs : Kvs) {mm : M A} {Q : Option Int → Env → Prop} : WP (partM (.dct kvs) mm) Q E ρ = WP (partI mm) Q E ρ := by with_unfolding_all rfl
theorem partM_idx (a i : Ex) {mm : M A} {Q : Option Int → Env → Prop} : WP (partM (.idx a i) mm) Q E ρ = WP (partI mm) Q E ρ := by with_unfolding_all rfl
theorem partM_slc (a lo hi : Ex) {mm : M A} {Q : Option Int → Env → Prop} : WP (partM (.slc a lo hi) mm) Q E ρ = WP (partI mm) Q E ρ := by with_unfolding_all rfl
theorem partM_rev (a : Ex) {mm : M A} {Q : Option Int → Env → Prop} : WP (partM (.rev a) mm) Q E ρ = WP (partI mm) Q E ρ := by with_unfolding_all rfl
theorem partM_bi (f : Bi) (es : Exs) {mm : M A} {Q : Option Int → Env → Prop} : WP (partM (.bi f es) mm) Q E ρ = WP (partI mm) Q E ρ := by with_unfolding_all rfl
theorem partM_lstIt (t : It) {mm : M A} {Q : Option Int → Env → Prop} : WP (partM (.lstIt t) mm) Q E ρ = WP (partI mm) Q E ρ := by with_unfolding_all rfl
theorem partM_tupIt (t : It) {mm : M A} {Q : Option Int → Env → Prop} : WP (partM (.tupIt t) mm) Q E ρ = WP (partI mm) Q E ρ := by with_unfolding_all rfl
theorem partM_dctIt (t : It) {mm : M A} {Q : Option Int → Env → Prop} : WP (partM (.dctIt t) mm) Q E ρ = WP (partI mm) Q E ρ := by with_unfolding_all rfl
theorem partM_mth (m : Mt) (o : Ex) (es : Exs) {mm : M A} {Q : Option Int → Env → Prop} : WP (partM (.mth m o es) mm) Q E ρ = WP (partI mm) Q E ρ := by with_unfolding_all rfl
theorem partM_mut (m : Mu) (i : Nat) (es : Exs) {mm : M A} {Q : Option Int → Env → Prop} : WP (partM (.mut m i es) mm) Q E ρ = WP (partI mm) Q E ρ := by with_unfolding_all rfl
theorem partM_call (f : Nat) (es : Exs) {mm : M A} {Q : Option Int → Env → Prop} : WP (partM (.call f es) mm) Q E ρ = WP (partI mm) Q E ρ := by with_unfolding_all rfl
theorem partM_callv (i : Nat) (es : Exs) {mm : M A} {Q : Option Int → Env → Prop} : WP (partM (.callv i es) mm) Q E ρ = WP (partI mm) Q E ρ := by with_unfolding_all rfl
theorem partM_make (c : Nat) (es : Exs) {mm : M A} {Q : Option Int → Env → Prop} : WP (partM (.make c es) mm) Q E ρ = WP (partI mm) Q E ρ := by with_unfolding_all rfl
theorem partM_attr (o : Ex) (f : String) {mm : M A} {Q : Option Int → Env → Prop} : WP (partM (.attr o f) mm) Q E ρ = WP (partI mm) Q E ρ := by with_unfolding_all rfl
theorem partM_umth (f : Nat) (o : Ex) (es : Exs) {mm : M A} {Q : Option Int → Env → Prop} : WP (partM (.umth f o es) mm) Q E ρ = WP (partI mm) Q E ρ := by with_unfolding_all rfl
theorem partM_isi (e : Ex) (ts : List Ty) {mm : M A} {Q : Option Int → Env → Prop} : WP (partM (.isi e ts) mm) Q E ρ = WP (partI mm) Q E ρ := by with_unfolding_all rfl
theorem partM_comp (own : List Nat) (elt : Ex) (tg : Tg) (t : It) (cs : Exs) {mm : M A} {Q : Option Int → Env → Prop} : WP (partM (.comp own elt tg t cs) mm) Q E ρ = WP (partI mm) Q E ρ := by with_unfolding_all rfl
theorem partM_comp2 (own : List Nat) (elt : Ex) (tg : Tg) (t : It) (cs : Exs) (own2 : List Nat) (tg2 : Tg) (t2 : It) (cs2 : Exs) {mm : M A} {Q : Option Int → Env → Prop} : WP (partM (.comp2 own elt tg t cs own2 tg2 t2 cs2) mm) Q E ρ = WP (partI mm) Q E ρ := by with_unfolding_all rfl
theorem partM_dcomp (own : List Nat) (k v : Ex) (tg : Tg) (t : It) (cs : Exs) {mm : M A} {Q : Option Int → Env → Prop} : WP (partM (.dcomp own k v tg t cs) mm) Q E ρ = WP (partI mm) Q E ρ := by with_unfolding_all rfl
theorem partM_srtk (a : Ex) (key : Ex) {mm : M A} {Q : Option Int → Env → Prop} : WP (partM (.srtk a key) mm) Q E ρ = WP (partI mm) Q E ρ := by with_unfolding_all rfl
theorem partM_refuse (x : Ex) (tab : List (Nat × List Nat)) {mm : M A} {Q : Option Int → Env → Prop} : WP (partM (.refuse x tab) mm) Q E ρ = WP (partI mm) Q E ρ := by with_unfolding_all rfl
theorem partM_nt (a : Ex) {mm : M A} {Q : Option Int → Env → Prop} : WP (partM (.nt a) mm) Q E ρ = WP (partI mm) Q E ρ := by with_unfolding_all rfl
theorem partM_and (a b : Ex) {mm : M A} {Q : Option Int → Env → Prop} : WP (partM (.and a b) mm) Q E ρ = WP (partI mm) Q E ρ := by with_unfolding_all rfl
theorem partM_or (a b : Ex) {mm : M A} {Q : Option Int → Env → Prop} : WP (partM (.or a b) mm) Q E ρ = WP (partI mm) Q E ρ := by with_unfolding_all rfl
theorem partM_ite (c a b : Ex) {mm : M A} {Q : Option Int → Env → Prop} : WP (partM (.ite c a b) mm) Q E ρ = WP (partI mm) Q E ρ := by with_unfolding_all rfl
theorem partM_var (i : Nat) {mm : M A} {Q : Option Int → Env → Prop} : WP (partM (.var i) mm) Q E ρ = WP (partI mm) Q E ρ := by with_unfolding_all rfl
theorem we_bi (f : Bi) (es : Exs) {Q : Vl → Env → Prop} : WP (evB Pr cal (.bi f es)).1 Q E ρ = WP (evalAs Pr cal es) (fun as ρ => WP (A.ds as) (fun ds ρ => WPo (biD Pr.sub f ds) fun v => Q v ρ) E ρ) E ρ := by
  show WP (M.bind _ _) _ E ρ = _
  simp only [wp_bind, wp_pure, wp_frzV, wp_opt, wp_ite]
theorem we_lstIt (t : It) {Q : Vl → Env → Prop} : WP (evB Pr cal (.lstIt t)).1 Q E ρ = WP (evalI Pr cal t) (fun l ρ => Q (.own (.lst l)) ρ) E ρ := by
  show WP (M.bind _ _) _ E ρ = _
  simp only [wp_bind, wp_pure, wp_frzV, wp_opt, wp_ite]
theorem we_tupIt (t : It) {Q : Vl → Env → Prop} : WP (evB Pr cal (.tupIt t)).1 Q E ρ = WP (evalI Pr cal t) (fun l ρ => Q (.frz (.tup l)) ρ) E ρ := by
  show WP (M.bind _ _) _ E ρ = _
  simp only [wp_bind, wp_pure, wp_frzV, wp_opt, wp_ite]
theorem we_dctIt (t : It) {Q : Vl → Env → Prop} : WP (evB Pr cal (.dctIt t)).1 Q E ρ = WP (evalI Pr cal t) (fun l ρ => WPo (biD Pr.sub .dict [.lst l]) fun v => Q v ρ) E ρ := by
  show WP (M.bind _ _) _ E ρ = _
  simp only [wp_bind, wp_pure, wp_frzV, wp_opt, wp_ite]
theorem we_mth (m : Mt) (o : Ex) (es : Exs) {Q : Vl → Env → Prop} : WP (evB Pr cal (.mth m o es)).1 Q E ρ = WP (opA o (evB Pr cal o).1) (fun x ρ => WP (evalAs Pr cal es) (fun as ρ => WP x.d (fun p ρ => WP (A.ds as) (fun ds ρ => WPo (mthD m p ds) fun v => Q v ρ) E ρ) E ρ) E ρ) E ρ := by
  show WP (M.bind _ _) _ E ρ = _
  simp only [wp_bind, wp_pure, wp_frzV, wp_opt, wp_ite]
theorem we_mut (m : Mu) (i : Nat) (es : Exs) {Q : Vl → Env → Prop} : WP (evB Pr cal (.mut m i es)).1 Q E ρ = WP (ownTy m i) (fun _ ρ => WP (evalEs Pr cal es) (fun ds ρ => WP (mutM m i ds) Q E ρ) E ρ) E ρ := by
  show WP (M.bind _ _) _ E ρ = _
  simp only [wp_bind, wp_pure, wp_frzV, wp_opt, wp_ite]
theorem we_call (f : Nat) (es : Exs) {Q : Vl → Env → Prop} : WP (evB Pr cal (.call f es)).1 Q E ρ = WP (evalAs Pr cal es) (fun as ρ => WP (goCall Pr cal (.fn f) as []) Q E ρ) E ρ := by
  show WP (M.bind _ _) _ E ρ = _
  simp only [wp_bind, wp_pure, wp_frzV, wp_opt, wp_ite]
/-- a def by a local name -/
def fnW (Pr : Prog) (Q : Nat → Prop) : Option Vl → Prop
  | some (.frz (.fn f)) => f < Pr.defs.length ∧ Q f
  | _ => False
theorem fnW_fn {f : Nat} {Q : Nat → Prop} : fnW Pr Q (some (.frz (.fn f))) = (f < Pr.defs.length ∧ Q f) := rfl
theorem wp_fnAt {i : Nat} {Q : Nat → Env → Prop} : WP (fnAt Pr i) Q E ρ = fnW Pr (fun f => Q f ρ) (getS i ρ) := by
  unfold WP fnAt
  rcases getS i ρ with _ | ⟨d | _ | _ | _⟩ <;> try with_unfolding_all rfl
  cases d <;> try with_unfolding_all rfl
  rename_i f
  dsimp only
  by_cases h : f < Pr.defs.length <;> simp [h, fnW]
theorem we_callv (i : Nat) (es : Exs) {Q : Vl → Env → Prop} : WP (evB Pr cal (.callv i es)).1 Q E ρ = fnW Pr (fun f => WP (evalAs Pr cal es) (fun as ρ => WP (goCall Pr cal (.fn f) as []) Q E ρ) E ρ) (getS i ρ) := by
  show WP (M.bind _ _) _ E ρ = _
  simp only [wp_bind, wp_fnAt]
def refW (tab : List (Nat × List Nat)) (c : Nat) (Q : Vl → Prop) : Prop := match tab.lookup c with
  | some w => Q (.frz (.str w))
  | none => False
theorem we_refuse (x : Ex) (tab : List (Nat × List Nat)) {Q : Vl → Env → Prop} : WP (evB Pr cal (.refuse x tab)).1 Q E ρ = WP (evB Pr cal x).1 (fun _ ρ => Q (.frz (.str [108, 101, 116])) ρ) (fun c ρ => refW tab c fun v => Q v ρ) ρ := by
  show WP (refM (evB Pr cal x).1 tab) _ E ρ = _
  unfold WP refM refW
  rcases (evB Pr cal x).1 ρ with _ | ⟨v | c, ρ'⟩
  · rfl
  · rfl
  · dsimp only
    cases tab.lookup c <;> rfl
theorem we_umth (f : Nat) (o : Ex) (es : Exs) {Q : Vl → Env → Prop} : WP (evB Pr cal (.umth f o es)).1 Q E ρ = WP (opA o (evB Pr cal o).1) (fun x ρ => WP (evalAs Pr cal es) (fun as ρ => WP (goCall Pr cal (.fn f) (x :: as) []) Q E ρ) E ρ) E ρ := by
  show WP (M.bind _ _) _ E ρ = _
  simp only [wp_bind, wp_pure, wp_frzV, wp_opt, wp_ite]
theorem we_isi (e : Ex) (ts : List Ty) {Q : Vl → Env → Prop} : WP (evB Pr cal (.isi e ts)).1 Q E ρ = WP (opA e (evB Pr cal e).1) (fun x ρ => WP x.d (fun p ρ => WPo (isD Pr.sub p ts) fun b => Q (.frz (.bl b)) ρ) E ρ) E ρ := by
  show WP (M.bind _ _) _ E ρ = _
  simp only [wp_bind, wp_pure, wp_frzV, wp_opt, wp_ite]
theorem we_comp (own : List Nat) (elt : Ex) (tg : Tg) (t : It) (cs : Exs) {Q : Vl → Env → Prop} : WP (evB Pr cal (.comp own elt tg t cs)).1 Q E ρ = WP (evalI Pr cal t) (fun l ρ => WP (inBlk own (compL own (M.bind (evB Pr cal elt).1 frzV) (asgT [] tg) (testAll Pr cal cs) l [])) (fun ds ρ => Q (.own (.lst ds)) ρ) E ρ) E ρ := by
  show WP (M.bind _ _) _ E ρ = _
  simp only [wp_bind, wp_pure, wp_frzV, wp_opt, wp_ite]
theorem we_lam (k : Nat) {Q : Vl → Env → Prop} : WP (evB Pr cal (.lam k)).1 Q E ρ = Q (.lam k) ρ := by with_unfolding_all rfl
theorem we_srtk (a : Ex) (n : Nat) {Q : Vl → Env → Prop} : WP (evB Pr cal (.srtk a (.lam n))).1 Q E ρ = WP (opA a (evB Pr cal a).1) (fun x ρ => WP x.d (fun p ρ => WPo (srtKD cal n p) fun v => Q v ρ) E ρ) E ρ := by
  show WP (M.bind _ _) _ E ρ = _
  simp only [wp_bind, wp_pure, wp_frzV, wp_opt, wp_ite]
theorem wes_nil {Q : List D → Env → Prop} : WP (evalEs Pr cal .nil) Q E ρ = Q [] ρ := by with_unfolding_all rfl
theorem wes_cons (e : Ex) (es : Exs) {Q : List D → Env → Prop} : WP (evalEs Pr cal (.cons e es)) Q E ρ = WP (evB Pr cal e).1 (fun v ρ => WPo v.d? fun d => WP (evalEs Pr cal es) (fun ds ρ => Q (d :: ds) ρ) E ρ) E ρ := by
  show WP (M.bind _ _) _ E ρ = _
  simp only [wp_bind, wp_pure, wp_frzV, wp_opt, wp_ite]
theorem was_nil {Q : List A → Env → Prop} : WP (evalAs Pr cal .nil) Q E ρ = Q [] ρ := by with_unfolding_all rfl
theorem was_cons (e : Ex) (es : Exs) {Q : List A → Env → Prop} : WP (evalAs Pr cal (.cons e es)) Q E ρ = WP (opA e (evB Pr cal e).1) (fun a ρ => WP (evalAs Pr cal es) (fun as ρ => Q (a :: as) ρ) E ρ) E ρ := by
  show WP (M.bind _ _) _ E ρ = _
  simp only [wp_bind, wp_pure, wp_frzV, wp_opt, wp_ite]
theorem wvs_nil {Q : List Vl → Env → Prop} : WP (evalVs Pr cal .nil) Q E ρ = Q [] ρ := by with_unfolding_all rfl
theorem wvs_cons (e : Ex) (es : Exs) {Q : List Vl → Env → Prop} : WP (evalVs Pr cal (.cons e es)) Q E ρ = WP (evB Pr cal e).1 (fun a ρ => WP (evalVs Pr cal es) (fun as ρ => Q (a :: as) ρ) E ρ) E ρ := by
  show WP (M.bind _ _) _ E ρ = _
  simp only [wp_bind, wp_pure, wp_frzV, wp_opt, wp_ite]
theorem wkv_nil {Q : List D × List D → Env → Prop} : WP (evalKV Pr cal .nil) Q E ρ = Q ([], []) ρ := by with_unfolding_all rfl
theorem wkv_cons (k v : Ex) (r : Kvs) {Q : List D × List D → Env → Prop} : WP (evalKV Pr cal (.cons k v r)) Q E ρ = WP (evB Pr cal k).1 (fun kv ρ => WPo kv.d? fun kd => WP (evB Pr cal v).1 (fun vv ρ => WPo vv.d? fun vd => WP (evalKV Pr cal r) (fun p ρ => Q (kd :: p.1, vd :: p.2) ρ) E ρ) E ρ) E ρ := by
  show WP (M.bind _ _) _ E ρ = _
  simp only [wp_bind, wp_pure, wp_frzV, wp_opt, wp_ite]
theorem wi_ex (e : Ex) {Q : List D → Env → Prop} : WP (evalI Pr cal (.ex e)) Q E ρ = WP (evB Pr cal e).1 (fun v ρ => WPo v.d? fun d => WPo (iterI d) fun l => Q l ρ) E ρ := by
  show WP (M.bind _ _) _ E ρ = _
  simp only [wp_bind, wp_pure, wp_frzV, wp_opt, wp_ite]
def rngW (ds : List D) (Q : List D → Prop) : Prop := match ds with
    | [.int n] => (-(2 ^ 62) ≤ n ∧ n < 2 ^ 62) ∧ Q (rngD 0 n)
    | [.int a, .int b] => (-(2 ^ 62) ≤ a ∧ a < 2 ^ 62 ∧ -(2 ^ 62) ≤ b ∧ b < 2 ^ 62) ∧ Q (rngD a b)
    | [.int a, .int b, .int c] => 0 < c ∧ Q (rng3 a b c)
    | _ => False
theorem rngW_1 {n : Int} {Q : List D → Prop} : rngW [.int n] Q = ((-(2 ^ 62) ≤ n ∧ n < 2 ^ 62) ∧ Q (rngD 0 n)) := rfl
theorem rngW_2 {a b : Int} {Q : List D → Prop} : rngW [.int a, .int b] Q = ((-(2 ^ 62) ≤ a ∧ a < 2 ^ 62 ∧ -(2 ^ 62) ≤ b ∧ b < 2 ^ 62) ∧ Q (rngD a b)) := rfl
theorem rngW_3 {a b c : Int} {Q : List D → Prop} : rngW [.int a, .int b, .int c] Q = (0 < c ∧ Q (rng3 a b c)) := rfl
theorem wi_rng (es : Exs) {Q : List D → Env → Prop} : WP (evalI Pr cal (.rng es)) Q E ρ = WP (evalAs Pr cal es) (fun as ρ => WP (A.ds as) (fun ds ρ => rngW ds fun l => Q l ρ) E ρ) E ρ := by
  show WP (M.bind _ _) _ E ρ = _
  simp only [wp_bind]
  congr 1; funext x ρ; congr 1; funext ds ρ
  rcases ds with _ | ⟨a, _ | ⟨b, _ | ⟨c, _ | ⟨d, r⟩⟩⟩⟩
  · with_unfolding_all rfl
  · cases a <;> try with_unfolding_all rfl
    simp only [rngW_1, wp_ite, wp_pure, wp_fail]
    split <;> rename_i h
    · rw [eq_true h, true_and]
    · rw [eq_false h, false_and]
  · cases a <;> cases b <;> try with_unfolding_all rfl
    simp only [rngW_2, wp_ite, wp_pure, wp_fail]
    split <;> rename_i h
    · rw [eq_true h, true_and]
    · rw [eq_false h, false_and]
  · cases a <;> cases b <;> cases c <;> try with_unfolding_all rfl
    simp only [rngW_3, wp_ite, wp_pure, wp_fail]
    split <;> rename_i h
    · rw [eq_true h, true_and]
    · rw [eq_false h, false_and]
  · cases a <;> cases b <;> cases c <;> with_unfolding_all rfl
theorem wi_enum (e : Ex) {Q : List D → Env → Prop} : WP (evalI Pr cal (.enum e)) Q E ρ = WP (evB Pr cal e).1 (fun v ρ => WPo v.d? fun d => WPo (seqD d) fun l => Q (enumD l 0) ρ) E ρ := by
  show WP (M.bind _ _) _ E ρ = _
  simp only [wp_bind, wp_pure, wp_frzV, wp_opt]
def keysW (Q : List D → Prop) : Vl → Prop
  | .own (.dct ks _) => Q ks
  | _ => False
theorem keysW_own {ks vs : List D} {Q : List D → Prop} : keysW Q (.own (.dct ks vs)) = Q ks := rfl
theorem wi_keys (e : Ex) {Q : List D → Env → Prop} : WP (evalI Pr cal (.keys e)) Q E ρ = WP (evB Pr cal e).1 (fun v ρ => keysW (fun l => Q l ρ) v) E ρ := by
  show WP (M.bind _ _) _ E ρ = _
  simp only [wp_bind]
  congr 1; funext x ρ
  unfold keysW keysM
  rcases x with _ | d | _ | _ <;> try with_unfolding_all rfl
  cases d <;> with_unfolding_all rfl
def zipW (ds : List D) (Q : List D → Prop) : Prop := match ds with
    | [d, e] => WPo (zipI d e) Q
    | _ => False
theorem zipW_2 {d e : D} {Q : List D → Prop} : zipW [d, e] Q = WPo (zipI d e) Q := rfl
theorem wi_zip (es : Exs) {Q : List D → Env → Prop} : WP (evalI Pr cal (.zip es)) Q E ρ = WP (evalEs Pr cal es) (fun ds ρ => zipW ds fun l => Q l ρ) E ρ := by
  show WP (M.bind _ _) _ E ρ = _
  simp only [wp_bind]
  congr 1; funext ds ρ
  unfold zipW
  rcases ds with _ | ⟨d, _ | ⟨e, _ | ⟨f, r⟩⟩⟩ <;> first | with_unfolding_all rfl | exact wp_opt
theorem wta_nil {Q : Bool → Env → Prop} : WP (testAll Pr cal .nil) Q E ρ = Q true ρ := by with_unfolding_all rfl
theorem wta_cons (e : Ex) (es : Exs) {Q : Bool → Env → Prop} : WP (testAll Pr cal (.cons e es)) Q E ρ = WP (evB Pr cal e).2 (fun t ρ => if t then WP (testAll Pr cal es) Q E ρ else Q false ρ) E ρ := by
  show WP (M.bind _ _) _ E ρ = _
  simp only [wp_bind, wp_pure, wp_frzV, wp_opt, wp_ite]
variable {lk : List Nat}
theorem ws_exp (e : Ex) {Q : Fl → Env → Prop} : WP (evS Pr cal lk (.exp e)) Q E ρ = WP (evB Pr cal e).1 (fun _ ρ => Q .nx ρ) E ρ := by
  show WP (M.bind _ _) _ E ρ = _
  simp only [wp_bind, wp_pure, wp_frzV, wp_opt, wp_ite]
theorem ws_ret (e : Ex) {Q : Fl → Env → Prop} : WP (evS Pr cal lk (.ret e)) Q E ρ = WP (evB Pr cal e).1 (fun v ρ => Q (.ret v) ρ) E ρ := by
  show WP (M.bind _ _) _ E ρ = _
  simp only [wp_bind, wp_pure, wp_frzV, wp_opt, wp_ite]
def retW (i : Nat) (Q : Fl → Env → Prop) (ρ : Env) : Option Vl → Prop
  | some (.own d) => Q (.ret (.own d)) (ρ.set i none)
  | some (.frz d) => Q (.ret (.frz d)) ρ
  | _ => False
theorem retW_own {i : Nat} {Q : Fl → Env → Prop} {d : D} : retW i Q ρ (some (.own d)) = Q (.ret (.own d)) (ρ.set i none) := rfl
theorem retW_frz {i : Nat} {Q : Fl → Env → Prop} {d : D} : retW i Q ρ (some (.frz d)) = Q (.ret (.frz d)) ρ := rfl
theorem ws_retm (i : Nat) {Q : Fl → Env → Prop} : WP (evS Pr cal lk (.retm i)) Q E ρ = (i ∉ lk ∧ retW i Q ρ (getS i ρ)) := by
  unfold WP
  simp only [evS]
  by_cases h : i ∈ lk
  · simp [h]
  · simp only [h, if_false, not_false_eq_true, true_and]
    unfold retW
    rcases getS i ρ with _ | ⟨_ | _ | _ | _⟩ <;> with_unfolding_all rfl
theorem ws_retN {Q : Fl → Env → Prop} : WP (evS Pr cal lk .retN) Q E ρ = Q (.ret (.frz .non)) ρ := by with_unfolding_all rfl
theorem ws_pass {Q : Fl → Env → Prop} : WP (evS Pr cal lk .pass) Q E ρ = Q .nx ρ := by with_unfolding_all rfl
theorem ws_bad {Q : Fl → Env → Prop} : WP (evS Pr cal lk .bad) Q E ρ = False := by with_unfolding_all rfl
theorem ws_asgN (i : Nat) (e : Ex) {Q : Fl → Env → Prop} : WP (evS Pr cal lk (.asg (.name i) e)) Q E ρ = WP (evB Pr cal e).1 (fun v ρ => WP (asgV lk i v) (fun _ ρ => Q .nx ρ) E ρ) E ρ := by
  show WP (M.bind _ _) _ E ρ = _
  simp only [wp_bind, wp_pure, wp_frzV, wp_opt, wp_ite]
theorem ws_asgT (is : List Nat) (e : Ex) {Q : Fl → Env → Prop} : WP (evS Pr cal lk (.asg (.tup is) e)) Q E ρ = WP (evB Pr cal e).1 (fun v ρ => WPo v.d? fun d => WP (asgT lk (.tup is) d) (fun _ ρ => Q .nx ρ) E ρ) E ρ := by
  show WP (M.bind _ _) _ E ρ = _
  simp only [wp_bind, wp_pure, wp_frzV, wp_opt, wp_ite]
theorem ws_par (is : List Nat) (es : Exs) {Q : Fl → Env → Prop} : WP (evS Pr cal lk (.par is es)) Q E ρ = WP (evalVs Pr cal es) (fun vs ρ => WP (asgVs lk is vs) (fun _ ρ => Q .nx ρ) E ρ) E ρ := by
  show WP (M.bind _ _) _ E ρ = _
  simp only [wp_bind, wp_pure, wp_frzV, wp_opt, wp_ite]
theorem ws_seti (i : Nat) (k e : Ex) {Q : Fl → Env → Prop} : WP (evS Pr cal lk (.seti i k e)) Q E ρ = WP (evB Pr cal e).1 (fun v ρ => WPo v.d? fun d => WP (chkOwn i) (fun _ ρ => WP (opA k (evB Pr cal k).1) (fun x ρ => WP x.d (fun kd ρ => WP (setAt i kd d) (fun _ ρ => Q .nx ρ) E ρ) E ρ) E ρ) E ρ) E ρ := by
  show WP (M.bind _ _) _ E ρ = _
  simp only [wp_bind, wp_pure, wp_frzV, wp_opt, wp_ite]
def augW (v : Vl) (Q : D → Prop) : Prop := match v with
  | .frz d => Q d
  | _ => False
theorem augW_frz {d : D} {Q : D → Prop} : augW (.frz d) Q = Q d := rfl
theorem ws_aug (i : Nat) (op : Bop) (e : Ex) {Q : Fl → Env → Prop} : WP (evS Pr cal lk (.aug i op e)) Q E ρ = WP (opA e (evB Pr cal e).1) (fun x ρ => WP x.d (fun q ρ => WP (A.d (.slot i)) (fun p ρ => WPo (binD op p q) fun v => augW v fun d => WP (setK lk i (some (.frz d))) (fun _ ρ => Q .nx ρ) E ρ) E ρ) E ρ) E ρ := by
  show WP (M.bind _ _) _ E ρ = _
  simp only [wp_bind, wp_opt]
  congr 1; funext x ρ; congr 1; funext q ρ; congr 1; funext p ρ; congr 1; funext v
  unfold augW
  cases v <;> first | with_unfolding_all rfl | simp only [wp_bind, wp_pure]
theorem ws_ite (c : Ex) (a b : Sms) {Q : Fl → Env → Prop} : WP (evS Pr cal lk (.ite c a b)) Q E ρ = WP (evB Pr cal c).2 (fun t ρ => if t then WP (evSs Pr cal lk a) Q E ρ else WP (evSs Pr cal lk b) Q E ρ) E ρ := by
  show WP (M.bind _ _) _ E ρ = _
  simp only [wp_bind, wp_pure, wp_frzV, wp_opt, wp_ite]
theorem ws_whl (c : Ex) (b : Sms) {Q : Fl → Env → Prop} : WP (evS Pr cal lk (.whl c b)) Q E ρ = WP (whlL (evB Pr cal c).2 (evSs Pr cal lk b) FU) Q E ρ := by with_unfolding_all rfl
theorem ws_for (t : Tg) (it : It) (b : Sms) {Q : Fl → Env → Prop} : WP (evS Pr cal lk (.for t it b)) Q E ρ = WP (evalI Pr cal it) (fun l ρ => WP (forL (asgT lk t) (evSs Pr cal lk b) l) Q E ρ) E ρ := by
  show WP (M.bind _ _) _ E ρ = _
  simp only [wp_bind, wp_pure, wp_frzV, wp_opt, wp_ite]
theorem ws_raise (c : Nat) (es : Exs) {Q : Fl → Env → Prop} : WP (evS Pr cal lk (.raise c es)) Q E ρ = WP (evalEs Pr cal es) (fun _ ρ => E c ρ) E ρ := by
  show WP (M.bind _ _) _ E ρ = _
  simp only [wp_bind]
  with_unfolding_all rfl
theorem ws_ndef (i k : Nat) {Q : Fl → Env → Prop} : WP (evS Pr cal lk (.ndef i k)) Q E ρ = WP (setK lk i (some (.lam k))) (fun _ ρ => Q .nx ρ) E ρ := by
  show WP (M.bind _ _) _ E ρ = _
  simp only [wp_bind, wp_pure, wp_frzV, wp_opt, wp_ite]
theorem wss_nil {Q : Fl → Env → Prop} : WP (evSs Pr cal lk .nil) Q E ρ = Q .nx ρ := by with_unfolding_all rfl
theorem wss_cons (s : Sm) (ss : Sms) {Q : Fl → Env → Prop} : WP (evSs Pr cal lk (.cons s ss)) Q E ρ = WP (evS Pr cal lk s) (fun f ρ => f.go (fun ρ => WP (evSs Pr cal lk ss) Q E ρ) Q ρ) E ρ := by
  show WP (M.bind _ _) _ E ρ = _
  rw [wp_bind]
  congr 1; funext f ρ
  cases f <;> with_unfolding_all rfl
theorem go_nx {K : Env → Prop} {Q : Fl → Env → Prop} : Fl.go .nx K Q ρ = K ρ := rfl
theorem go_ret {v : Vl} {K : Env → Prop} {Q : Fl → Env → Prop} : Fl.go (.ret v) K Q ρ = Q (.ret v) ρ := rfl
theorem end_nx {Q : Vl → Prop} : Fl.end .nx Q = Q (.frz .non) := rfl
theorem end_ret {v : Vl} {Q : Vl → Prop} : Fl.end (.ret v) Q = Q v := rfl
/-- a comparison of data that is no instance -/
theorem wp_cmpU {op : Cop} {a b : A} {Q : D → Env → Prop} (h : ∀ x, a.get ρ = some (.frz x) ∨ a.get ρ = some (.own x) → ∀ c fs vs, x ≠ .obj c fs vs) : WP (cmpU Pr cal op a b) Q E ρ = slW (a.get ρ) fun x => slW (b.get ρ) fun y => WPo (cmpD op x y) fun r => Q (.bl r) ρ := by
  have e : ∀ c : A, A.d c ρ = (match c.get ρ with | some (.frz d) => some (.ok d, ρ) | some (.own d) => some (.ok d, ρ) | _ => none) := fun c => by
    unfold A.d
    rcases c.get ρ with _ | ⟨_ | _ | _ | _⟩ <;> with_unfolding_all rfl
  unfold WP cmpU slW
  rw [e a, e b]
  rcases ea : a.get ρ with _ | ⟨x | x | _ | _⟩ <;> try with_unfolding_all rfl
  all_goals
    have hx := h x (by rw [ea]; first | exact .inl rfl | exact .inr rfl)
    rcases b.get ρ with _ | ⟨y | y | _ | _⟩ <;> try with_unfolding_all rfl
    all_goals
      dsimp only
      cases x with
      | obj c fs vs => exact absurd rfl (hx _ _ _)
      | _ =>
        dsimp only
        generalize cmpD op _ y = r
        cases r <;> with_unfolding_all rfl
/-- what no instance is -/
def noObj : D → Bool
  | .obj _ _ _ => false
  | _ => true
/-- == of an instance -/
def cmpObj (Pr : Prog) (cal : Callee) (op : Cop) (x y : D) (Q : D → Env → Prop) (E : Nat → Env → Prop) (ρ : Env) : Prop := WP (cmpU Pr cal op (.val x) (.val y)) Q E ρ
theorem wp_cmpU' {op : Cop} {a b : A} {Q : D → Env → Prop} : WP (cmpU Pr cal op a b) Q E ρ = slW (a.get ρ) fun x => slW (b.get ρ) fun y => if noObj x = true then WPo (cmpD op x y) fun r => Q (.bl r) ρ else cmpObj Pr cal op x y Q E ρ := by
  unfold cmpObj
  have e : ∀ c : A, A.d c ρ = (match c.get ρ with | some (.frz d) => some (.ok d, ρ) | some (.own d) => some (.ok d, ρ) | _ => none) := fun c => by
    unfold A.d
    rcases c.get ρ with _ | ⟨_ | _ | _ | _⟩ <;> with_unfolding_all rfl
  by_cases h : ∀ x, a.get ρ = some (.frz x) ∨ a.get ρ = some (.own x) → noObj x = true
  · rw [wp_cmpU fun x hx c fs vs z => by have := h x hx; rw [z] at this; cases this]
    unfold slW
    rcases ea : a.get ρ with _ | ⟨x | x | _ | _⟩ <;> try with_unfolding_all rfl
    all_goals
      have hx := h x (by rw [ea]; first | exact .inl rfl | exact .inr rfl)
      rcases b.get ρ with _ | ⟨y | y | _ | _⟩ <;> simp only [hx, if_true]
  · have ⟨x, hx, hn⟩ : ∃ x, (a.get ρ = some (.frz x) ∨ a.get ρ = some (.own x)) ∧ noObj x = false := by
      apply Classical.byContradiction
      intro z
      apply h
      intro x hx
      cases e2 : noObj x with
      | true => rfl
      | false => exact absurd ⟨x, hx, e2⟩ z
    have key : ∀ y, (b.get ρ = some (.frz y) ∨ b.get ρ = some (.own y)) → cmpU Pr cal op a b ρ = cmpU Pr cal op (.val x) (.val y) ρ := fun y hy => by
      unfold cmpU
      have e1 : A.d a ρ = some (.ok x, ρ) := by rw [e]; rcases hx with z | z <;> rw [z]
      have e2 : A.d b ρ = some (.ok y, ρ) := by rw [e]; rcases hy with z | z <;> rw [z]
      rw [e1, e2]
      with_unfolding_all rfl
    have hs : slW (a.get ρ) = fun K => K x := by
      funext K
      rcases hx with z | z <;> rw [z] <;> with_unfolding_all rfl
    rw [hs]
    dsimp only
    simp only [hn, Bool.false_eq_true, if_false]
    rcases eb : b.get ρ with _ | ⟨y | y | _ | _⟩
    · unfold WP cmpU
      rw [e b, eb]
      dsimp only
      rcases A.d a ρ with _ | ⟨_ | _, _⟩ <;> with_unfolding_all rfl
    · unfold WP
      rw [key y (.inl eb)]; with_unfolding_all rfl
    · unfold WP
      rw [key y (.inr eb)]; with_unfolding_all rfl
    · unfold WP cmpU
      rw [e b, eb]
      dsimp only
      rcases A.d a ρ with _ | ⟨_ | _, _⟩ <;> with_unfolding_all rfl
    · unfold WP cmpU
      rw [e b, eb]
      dsimp only
      rcases A.d a ρ with _ | ⟨_ | _, _⟩ <;> with_unfolding_all rfl
theorem get_val {d : D} : A.get (.val d) ρ = some (.frz d) := rfl
theorem get_slot {i : Nat} : A.get (.slot i) ρ = getS i ρ := rfl
theorem noObj_int {i : Int} : noObj (.int i) = true := rfl
theorem noObj_bl {i : Bool} : noObj (.bl i) = true := rfl
theorem noObj_str {i : List Nat} : noObj (.str i) = true := rfl
theorem noObj_tup {i : List D} : noObj (.tup i) = true := rfl
theorem noObj_lst {i : List D} : noObj (.lst i) = true := rfl
theorem noObj_dct {i j : List D} : noObj (.dct i j) = true := rfl
theorem noObj_non : noObj .non = true := rfl
theorem noObj_exc {c : Nat} : noObj (.exc c) = true := rfl
end
end Dw
end
section
set_option linter.all false
set_option maxRecDepth 100000
/-! W3: loops; data. -/
namespace Dw
open Dp
section
variable {E : Nat → Env → Prop} {ρ : Env}
theorem lit_len0 : ([] : Env).length = 0 := rfl
/-- for: J of what is left -/
theorem wp_for {asg : D → M Unit} {body : M Fl} {Q : Fl → Env → Prop} (J : List D → Env → Prop) {l : List D} (h0 : J l ρ)
    (st : ∀ x r ρ, J (x :: r) ρ → x ∈ l → WP (asg x) (fun _ ρ => WP body (fun f ρ => f.go (fun ρ => J r ρ) Q ρ) E ρ) E ρ)
    (h1 : ∀ ρ, J [] ρ → Q .nx ρ) : WP (forL asg body l) Q E ρ := by
  suffices H : ∀ (r : List D) ρ, J r ρ → (∀ x ∈ r, x ∈ l) → WP (forL asg body r) Q E ρ from H l ρ h0 fun x h => h
  intro r
  induction r with
  | nil => intro ρ h _; exact (show WP (M.pure Fl.nx) Q E ρ by rw [wp_pure]; exact h1 ρ h)
  | cons x r ih =>
    intro ρ h hm
    show WP (M.bind _ _) Q E ρ
    rw [wp_bind]
    refine wp_mono (st x r ρ h (hm x List.mem_cons_self)) (fun _ ρ h2 => ?_) fun _ _ h => h
    rw [wp_bind]
    refine wp_mono h2 (fun f ρ h3 => ?_) fun _ _ h => h
    cases f with
    | nx => exact ih ρ h3 fun x h => hm x (List.mem_cons_of_mem _ h)
    | ret v => exact (show WP (M.pure (Fl.ret v)) Q E ρ by rw [wp_pure]; exact h3)
/-- for, of native items: J of what is done -/
theorem wp_forN {τ : Type} {asg : D → M Unit} {body : M Fl} {Q : Fl → Env → Prop} (g : τ → D) (J : List τ → Env → Prop) {l : List D} {xs : List τ} (hx : l = xs.map g) (h0 : J [] ρ)
    (st : ∀ p x r ρ, xs = p ++ x :: r → J p ρ → WP (asg (g x)) (fun _ ρ => WP body (fun f ρ => f.go (fun ρ => J (p ++ [x]) ρ) Q ρ) E ρ) E ρ)
    (h1 : ∀ ρ, J xs ρ → Q .nx ρ) : WP (forL asg body l) Q E ρ := by
  subst hx
  refine wp_for (fun r ρ => ∃ p ys, r = ys.map g ∧ xs = p ++ ys ∧ J p ρ) ⟨[], xs, rfl, rfl, h0⟩ (fun x r ρ h _ => ?_) fun ρ h => ?_
  · obtain ⟨p, ys, h2, h3, h4⟩ := h
    cases ys with
    | nil => cases h2
    | cons y ys =>
      rw [List.map_cons] at h2
      injection h2 with h2 h2'
      subst h2 h2'
      refine wp_mono (st p y ys ρ h3 h4) (fun _ ρ h5 => ?_) fun _ _ h => h
      refine wp_mono h5 (fun f ρ h6 => ?_) fun _ _ h => h
      cases f with
      | nx => exact ⟨p ++ [y], ys, rfl, by simp [h3], h6⟩
      | ret v => exact h6
  · obtain ⟨p, ys, h2, h3, h4⟩ := h
    cases ys with
    | cons y ys => cases h2
    | nil =>
      rw [List.append_nil] at h3
      subst h3
      exact h1 ρ h4
/-- while: J n: at most n turns more -/
theorem wp_whl {tst : M Bool} {body : M Fl} {Q : Fl → Env → Prop} (J : Nat → Env → Prop)
    (st : ∀ m ρ, J m ρ → WP tst (fun b ρ => if b = true then WP body (fun f ρ => f.go (fun ρ => ∃ m', m' < m ∧ J m' ρ) Q ρ) E ρ else Q .nx ρ) E ρ) :
    ∀ {n m : Nat} {ρ : Env}, J m ρ → m < n → WP (whlL tst body n) Q E ρ
  | 0, m, ρ, _, h => by omega
  | n + 1, m, ρ, hJ, h => by
    show WP (M.bind _ _) Q E ρ
    rw [wp_bind]
    refine wp_mono (st m ρ hJ) (fun b ρ h2 => ?_) fun _ _ h => h
    cases b with
    | false => exact (show WP (M.pure Fl.nx) Q E ρ by rw [wp_pure]; exact h2)
    | true =>
      simp only [if_true] at h2 ⊢
      rw [wp_bind]
      refine wp_mono h2 (fun f ρ h3 => ?_) fun _ _ h => h
      cases f with
      | nx =>
        obtain ⟨m', hm, hj⟩ := h3
        exact wp_whl J st hj (by omega)
      | ret v => exact (show WP (M.pure (Fl.ret v)) Q E ρ by rw [wp_pure]; exact h3)
theorem FU_eq : FU = 18446744073709551616 := by decide +kernel
theorem wp_inBlk {α : Type} {own : List Nat} {m : M α} {Q : α → Env → Prop} : WP (inBlk own m) Q E ρ = WP m (fun a ρ' => Q a (back ρ ρ' own)) (fun _ _ => False) ρ := by
  unfold WP inBlk
  rcases m ρ with _ | ⟨_ | _, _⟩ <;> with_unfolding_all rfl
theorem wp_wipeM {own : List Nat} {Q : Unit → Env → Prop} : WP (wipeM own) Q E ρ = Q () (wipe ρ own) := by with_unfolding_all rfl
/-- a comprehension: J of what is left, what was found -/
theorem wp_comp {own : List Nat} {elt : M D} {asg : D → M Unit} {tst : M Bool} {Q : List D → Env → Prop} (J : List D → List D → Env → Prop) {l : List D} (h0 : J l [] ρ)
    (st : ∀ x r acc ρ, J (x :: r) acc ρ → x ∈ l → WP (asg x) (fun _ ρ => WP tst (fun b ρ => if b = true then WP elt (fun d ρ => acc.length < LIM ∧ J r (acc ++ [d]) ρ) (fun _ _ => False) ρ else J r acc ρ) (fun _ _ => False) ρ) (fun _ _ => False) (wipe ρ own))
    (h1 : ∀ acc ρ', J [] acc ρ' → Q acc (back ρ ρ' own)) : WP (inBlk own (compL own elt asg tst l [])) Q E ρ := by
  rw [wp_inBlk]
  suffices H : ∀ (r acc : List D) ρ1, J r acc ρ1 → (∀ x ∈ r, x ∈ l) → WP (compL own elt asg tst r acc) (fun a ρ' => Q a (back ρ ρ' own)) (fun _ _ => False) ρ1 from H l [] ρ h0 fun x h => h
  intro r
  induction r with
  | nil => intro acc ρ1 h _; exact (show WP (M.pure acc) (fun a ρ' => Q a (back ρ ρ' own)) _ ρ1 by rw [wp_pure]; exact h1 acc ρ1 h)
  | cons x r ih =>
    intro acc ρ1 h hm
    show WP (M.bind (wipeM own) _) _ _ ρ1
    rw [wp_bind]
    rw [wp_wipeM, wp_bind]
    refine wp_mono (st x r acc ρ1 h (hm x List.mem_cons_self)) (fun _ ρ h2 => ?_) fun _ _ h => h
    rw [wp_bind]
    refine wp_mono h2 (fun b ρ h3 => ?_) fun _ _ h => h
    cases b with
    | false => exact ih acc ρ h3 fun x h => hm x (List.mem_cons_of_mem _ h)
    | true =>
      simp only [if_true] at h3 ⊢
      rw [wp_bind]
      refine wp_mono h3 (fun d ρ h4 => ?_) fun _ _ h => h
      rw [if_pos h4.1]
      exact ih _ ρ h4.2 fun x h => hm x (List.mem_cons_of_mem _ h)
/-! ### own slots of comprehensions -/
theorem wipe_nil : wipe ρ [] = ρ := rfl
theorem wipe_cons {i : Nat} {r : List Nat} : wipe ρ (i :: r) = wipe (ρ.set i none) r := rfl
theorem wipe_len : ∀ (own : List Nat) (ρ : Env), (wipe ρ own).length = ρ.length
  | [], ρ => rfl
  | i :: r, ρ => by
    show (wipe (ρ.set i none) r).length = _
    rw [wipe_len r, List.length_set]
theorem wipe_out {i : Nat} : ∀ (own : List Nat) (ρ : Env), i ∉ own → (wipe ρ own)[i]? = ρ[i]?
  | [], ρ, _ => rfl
  | j :: r, ρ, h => by
    show (wipe (ρ.set j none) r)[i]? = _
    rw [wipe_out r _ fun z => h (List.mem_cons_of_mem _ z), List.getElem?_set_ne fun z => h (by rw [z]; exact List.mem_cons_self)]
theorem back_len (ρ0 : Env) : ∀ (own : List Nat) (ρ : Env), (back ρ0 ρ own).length = ρ.length
  | [], ρ => rfl
  | i :: r, ρ => by
    show (back ρ0 (ρ.set i _) r).length = _
    rw [back_len ρ0 r, List.length_set]
theorem back_in {ρ0 : Env} {i : Nat} (hi : i < ρ0.length) : ∀ (own : List Nat) (ρ : Env), ρ.length = ρ0.length → (i ∈ own ∨ ρ[i]? = ρ0[i]?) → (back ρ0 ρ own)[i]? = ρ0[i]?
  | [], ρ, _, h => by
    rcases h with h | h
    · cases h
    · exact h
  | j :: r, ρ, hl, h => by
    show (back ρ0 (ρ.set j _) r)[i]? = _
    refine back_in hi r _ (by rw [List.length_set]; exact hl) ?_
    by_cases e : j = i
    · subst e
      right
      rw [List.getElem?_set_self (by omega)]
      rw [List.getElem?_eq_getElem hi]
    · rcases h with h | h
      · rcases List.mem_cons.mp h with z | z
        · exact absurd z.symm e
        · exact .inl z
      · right
        rw [List.getElem?_set_ne e]
        exact h
theorem back_wipe {ρ0 ρ : Env} {own : List Nat} (h : wipe ρ own = wipe ρ0 own) : back ρ0 ρ own = ρ0 := by
  have hl : ρ.length = ρ0.length := by
    have := congrArg List.length h
    rwa [wipe_len, wipe_len] at this
  apply List.ext_getElem?
  intro i
  by_cases hi : i < ρ0.length
  · refine back_in hi own ρ hl ?_
    by_cases m : i ∈ own
    · exact .inl m
    · right
      rw [← wipe_out own ρ m, h, wipe_out own ρ0 m]
  · rw [List.getElem?_eq_none (by rw [back_len]; omega), List.getElem?_eq_none (by omega)]
/-- a comprehension whose parts change nothing: the item's own image, or none -/
theorem wp_compP {own : List Nat} {elt : M D} {asg : D → M Unit} {tst : M Bool} {Q : List D → Env → Prop} (q : D → Option D) {l : List D} (hl : l.length ≤ LIM)
    (st : ∀ x ∈ l, WP (asg x) (fun _ ρ1 => WP tst (fun b ρ2 => wipe ρ2 own = wipe ρ own ∧ b = (q x).isSome ∧ ∀ d, q x = some d → WP elt (fun d' ρ3 => d' = d ∧ wipe ρ3 own = wipe ρ own) (fun _ _ => False) ρ2) (fun _ _ => False) ρ1) (fun _ _ => False) (wipe ρ own))
    (h1 : Q (l.filterMap q) ρ) : WP (inBlk own (compL own elt asg tst l [])) Q E ρ := by
  refine wp_comp (fun r acc ρ1 => wipe ρ1 own = wipe ρ own ∧ acc ++ r.filterMap q = l.filterMap q ∧ acc.length + r.length ≤ LIM) ⟨rfl, rfl, by simpa using hl⟩ (fun x r acc ρ1 h hx => ?_) fun acc ρ' h => ?_
  · obtain ⟨h2, h3, h4⟩ := h
    rw [h2]
    refine wp_mono (st x hx) (fun _ ρ h5 => ?_) fun _ _ h => h
    refine wp_mono h5 (fun b ρ h6 => ?_) fun _ _ h => h
    obtain ⟨h7, h8, h9⟩ := h6
    simp only [List.length_cons] at h4
    cases e : q x with
    | none =>
      rw [e] at h8
      rw [h8]
      simp only [Option.isSome_none, Bool.false_eq_true, if_false]
      rw [List.filterMap_cons_none e] at h3
      exact ⟨h7, h3, by omega⟩
    | some d =>
      rw [e] at h8
      rw [h8]
      simp only [Option.isSome_some, if_true]
      rw [List.filterMap_cons_some e] at h3
      refine wp_mono (h9 d e) (fun d' ρ h10 => ⟨by omega, h10.2, ?_, by simp only [List.length_append, List.length_singleton]; omega⟩) fun _ _ h => h
      rw [h10.1, ← h3]
      simp
  · rw [back_wipe h.1]
    have e := h.2.1
    simp only [List.filterMap_nil, List.append_nil] at e
    rw [e]
    exact h1
/-- .. of native items -/
theorem wp_compN {τ σ : Type} {own : List Nat} {elt : M D} {asg : D → M Unit} {tst : M Bool} {Q : List D → Env → Prop} (g : τ → D) (q : τ → Option σ) (f : σ → D) {l : List D} {xs : List τ} (hx : l = xs.map g) (hl : xs.length ≤ LIM)
    (st : ∀ x ∈ xs, WP (asg (g x)) (fun _ ρ1 => WP tst (fun b ρ2 => wipe ρ2 own = wipe ρ own ∧ b = (q x).isSome ∧ ∀ d, q x = some d → WP elt (fun d' ρ3 => d' = f d ∧ wipe ρ3 own = wipe ρ own) (fun _ _ => False) ρ2) (fun _ _ => False) ρ1) (fun _ _ => False) (wipe ρ own))
    (h1 : Q ((xs.filterMap q).map f) ρ) : WP (inBlk own (compL own elt asg tst l [])) Q E ρ := by
  subst hx
  refine wp_comp (fun r acc ρ1 => wipe ρ1 own = wipe ρ own ∧ ∃ ys, r = ys.map g ∧ (∀ y ∈ ys, y ∈ xs) ∧ acc ++ (ys.filterMap q).map f = (xs.filterMap q).map f ∧ acc.length + ys.length ≤ LIM) ⟨rfl, xs, rfl, fun _ h => h, rfl, by simpa using hl⟩ (fun x r acc ρ1 h _ => ?_) fun acc ρ' h => ?_
  · obtain ⟨h2, ys, h3, hm, h4, h5⟩ := h
    cases ys with
    | nil => cases h3
    | cons y ys =>
      rw [List.map_cons] at h3
      injection h3 with h3 h3'
      subst h3 h3'
      rw [h2]
      refine wp_mono (st y (hm y List.mem_cons_self)) (fun _ ρ h5 => ?_) fun _ _ h => h
      refine wp_mono h5 (fun b ρ h6 => ?_) fun _ _ h => h
      obtain ⟨h7, h8, h9⟩ := h6
      have hm' : ∀ z ∈ ys, z ∈ xs := fun z h => hm z (List.mem_cons_of_mem _ h)
      cases e : q y with
      | none =>
        rw [e] at h8
        rw [h8]
        simp only [Option.isSome_none, Bool.false_eq_true, if_false]
        rw [List.filterMap_cons_none e] at h4
        exact ⟨h7, ys, rfl, hm', h4, by simp only [List.length_cons] at *; omega⟩
      | some d =>
        rw [e] at h8
        rw [h8]
        simp only [Option.isSome_some, if_true]
        rw [List.filterMap_cons_some e] at h4
        refine wp_mono (h9 d e) (fun d' ρ h10 => ⟨by simp only [List.length_cons] at *; omega, h10.2, ys, rfl, hm', ?_, by simp only [List.length_append, List.length_singleton, List.length_cons, List.length_nil] at *; omega⟩) fun _ _ h => h
        rw [h10.1, ← h4]
        simp
  · obtain ⟨h2, ys, h3, hm, h4, h5⟩ := h
    cases ys with
    | cons y ys => cases h3
    | nil =>
      rw [back_wipe h2]
      simp only [List.filterMap_nil, List.map_nil, List.append_nil] at h4
      rw [h4]
      exact h1
/-- .. of native items, each taken -/
theorem wp_compM {τ : Type} {own : List Nat} {elt : M D} {asg : D → M Unit} {tst : M Bool} {Q : List D → Env → Prop} (g : τ → D) (f : τ → D) {l : List D} {xs : List τ} (hx : l = xs.map g) (hl : xs.length ≤ LIM)
    (st : ∀ x ∈ xs, WP (asg (g x)) (fun _ ρ1 => WP tst (fun b ρ2 => b = true ∧ WP elt (fun d' ρ3 => d' = f x ∧ wipe ρ3 own = wipe ρ own) (fun _ _ => False) ρ2) (fun _ _ => False) ρ1) (fun _ _ => False) (wipe ρ own))
    (h1 : Q (xs.map f) ρ) : WP (inBlk own (compL own elt asg tst l [])) Q E ρ := by
  subst hx
  refine wp_comp (fun r acc ρ1 => wipe ρ1 own = wipe ρ own ∧ ∃ ys, r = ys.map g ∧ (∀ y ∈ ys, y ∈ xs) ∧ acc ++ ys.map f = xs.map f ∧ acc.length + ys.length ≤ LIM) ⟨rfl, xs, rfl, fun _ h => h, rfl, by simpa using hl⟩ (fun x r acc ρ1 h _ => ?_) fun acc ρ' h => ?_
  · obtain ⟨h2, ys, h3, hm, h4, h5⟩ := h
    cases ys with
    | nil => cases h3
    | cons y ys =>
      rw [List.map_cons] at h3
      injection h3 with h3 h3'
      subst h3 h3'
      rw [h2]
      refine wp_mono (st y (hm y List.mem_cons_self)) (fun _ ρ h5 => ?_) fun _ _ h => h
      refine wp_mono h5 (fun b ρ h6 => ?_) fun _ _ h => h
      rw [h6.1]
      simp only [if_true]
      refine wp_mono h6.2 (fun d' ρ h10 => ⟨by simp only [List.length_cons] at *; omega, h10.2, ys, rfl, fun z h => hm z (List.mem_cons_of_mem _ h), ?_, by simp only [List.length_append, List.length_singleton, List.length_cons, List.length_nil] at *; omega⟩) fun _ _ h => h
      rw [h10.1, ← h4]
      simp
  · obtain ⟨h2, ys, h3, hm, h4, h5⟩ := h
    cases ys with
    | cons y ys => cases h3
    | nil =>
      rw [back_wipe h2]
      simp only [List.map_nil, List.append_nil] at h4
      rw [h4]
      exact h1
end
/-! ### data -/
theorem place_nat {n m : Nat} (h : n < m) : place m (n : Int) = some n := by
  unfold place
  rw [if_pos (by omega), if_pos (by omega)]
  simp
theorem clamp_nat' {n m : Nat} : clampI m (n : Int) = min n m := by
  unfold clampI
  rw [if_neg (by omega)]
  simp
theorem cut_to {α : Type} {l : List α} {n : Nat} : cut l none (some (n : Int)) = l.take n := by
  unfold cut
  simp only [clamp_nat', List.drop_zero]
  rcases Nat.le_total n l.length with h | h
  · rw [Nat.min_eq_left h]
  · rw [Nat.min_eq_right h, List.take_of_length_le (Nat.le_refl _), List.take_of_length_le h]
theorem cut_from {α : Type} {l : List α} {n : Nat} : cut l (some (n : Int)) none = l.drop n := by
  unfold cut
  simp only [clamp_nat', List.take_length]
  rcases Nat.le_total n l.length with h | h
  · rw [Nat.min_eq_left h]
  · rw [Nat.min_eq_right h, List.drop_length, List.drop_eq_nil_of_le h]
theorem cut_both {α : Type} {l : List α} {n m : Nat} : cut l (some (n : Int)) (some (m : Int)) = (l.take m).drop n := by
  unfold cut
  simp only [clamp_nat']
  have e1 : l.take (min m l.length) = l.take m := by
    rcases Nat.le_total m l.length with h | h
    · rw [Nat.min_eq_left h]
    · rw [Nat.min_eq_right h, List.take_of_length_le (Nat.le_refl _), List.take_of_length_le h]
  rw [e1]
  rcases Nat.le_total n l.length with h | h
  · rw [Nat.min_eq_left h]
  · rw [Nat.min_eq_right h, List.drop_eq_nil_of_le (by rw [List.length_take]; omega), List.drop_eq_nil_of_le (by rw [List.length_take]; omega)]
theorem sl_str {s : List Nat} {a b : Option Int} : sliceD (.str s) a b = some (.frz (.str (cut s a b))) := rfl
theorem sl_tup {s : List D} {a b : Option Int} : sliceD (.tup s) a b = some (.frz (.tup (cut s a b))) := rfl
theorem sl_lst {s : List D} {a b : Option Int} : sliceD (.lst s) a b = some (.own (.lst (cut s a b))) := rfl
theorem sl_scr {s : List D} {a b : Option Int} : sliceD (.scr s) a b = some (.own (.lst (cut s a b))) := rfl
theorem ix_t {l : List D} {n : Nat} {d : D} (h : l[n]? = some d) : idxD (.tup l) (.int n) = some d := by
  have : n < l.length := by
    apply Classical.byContradiction
    intro z
    rw [List.getElem?_eq_none (by omega)] at h
    cases h
  unfold idxD
  dsimp only
  rw [place_nat this]
  exact h
theorem ix_l {l : List D} {n : Nat} {d : D} (h : l[n]? = some d) : idxD (.lst l) (.int n) = some d := ix_t (l := l) h
theorem ix_s {l : List Nat} {n c : Nat} (h : l[n]? = some c) : idxD (.str l) (.int n) = some (.str [c]) := by
  have : n < l.length := by
    apply Classical.byContradiction
    intro z
    rw [List.getElem?_eq_none (by omega)] at h
    cases h
  unfold idxD
  dsimp only
  rw [place_nat this]
  dsimp only
  rw [h]
theorem ix_t0 {a : D} {r : List D} : idxD (.tup (a :: r)) (.int 0) = some a := by
  have := ix_t (l := a :: r) (n := 0) (d := a) rfl
  simpa using this
theorem ix_t1 {a b : D} {r : List D} : idxD (.tup (a :: b :: r)) (.int 1) = some b := by
  have := ix_t (l := a :: b :: r) (n := 1) (d := b) rfl
  simpa using this
theorem ix_t2 {a b c : D} {r : List D} : idxD (.tup (a :: b :: c :: r)) (.int 2) = some c := by
  have := ix_t (l := a :: b :: c :: r) (n := 2) (d := c) rfl
  simpa using this
theorem ix_t3 {a b c d : D} {r : List D} : idxD (.tup (a :: b :: c :: d :: r)) (.int 3) = some d := by
  have := ix_t (l := a :: b :: c :: d :: r) (n := 3) (d := d) rfl
  simpa using this
theorem ix_t4 {a b c d e : D} {r : List D} : idxD (.tup (a :: b :: c :: d :: e :: r)) (.int 4) = some e := by
  have := ix_t (l := a :: b :: c :: d :: e :: r) (n := 4) (d := e) rfl
  simpa using this
theorem ix_l0 {a : D} {r : List D} : idxD (.lst (a :: r)) (.int 0) = some a := by
  have := ix_l (l := a :: r) (n := 0) (d := a) rfl
  simpa using this
theorem ix_l1 {a b : D} {r : List D} : idxD (.lst (a :: b :: r)) (.int 1) = some b := by
  have := ix_l (l := a :: b :: r) (n := 1) (d := b) rfl
  simpa using this
theorem ix_l2 {a b c : D} {r : List D} : idxD (.lst (a :: b :: c :: r)) (.int 2) = some c := by
  have := ix_l (l := a :: b :: c :: r) (n := 2) (d := c) rfl
  simpa using this
theorem ix_l3 {a b c d : D} {r : List D} : idxD (.lst (a :: b :: c :: d :: r)) (.int 3) = some d := by
  have := ix_l (l := a :: b :: c :: d :: r) (n := 3) (d := d) rfl
  simpa using this
theorem ix_l4 {a b c d e : D} {r : List D} : idxD (.lst (a :: b :: c :: d :: e :: r)) (.int 4) = some e := by
  have := ix_l (l := a :: b :: c :: d :: e :: r) (n := 4) (d := e) rfl
  simpa using this
theorem sd_n {l : List D} {n : Nat} {x : D} (h : n < l.length) : setD (.lst l) (.int n) x = some (.lst (l.set n x)) := by
  unfold setD
  dsimp only
  rw [place_nat h]
  with_unfolding_all rfl
theorem sd_0 {a x : D} {r : List D} : setD (.lst (a :: r)) (.int 0) x = some (.lst (x :: r)) := by
  have := sd_n (l := a :: r) (n := 0) (x := x) (by simp only [List.length_cons]; omega)
  simpa using this
theorem sd_1 {a b x : D} {r : List D} : setD (.lst (a :: b :: r)) (.int 1) x = some (.lst (a :: x :: r)) := by
  have := sd_n (l := a :: b :: r) (n := 1) (x := x) (by simp only [List.length_cons]; omega)
  simpa using this
theorem sd_2 {a b c x : D} {r : List D} : setD (.lst (a :: b :: c :: r)) (.int 2) x = some (.lst (a :: b :: x :: r)) := by
  have := sd_n (l := a :: b :: c :: r) (n := 2) (x := x) (by simp only [List.length_cons]; omega)
  simpa using this
theorem sd_3 {a b c d x : D} {r : List D} : setD (.lst (a :: b :: c :: d :: r)) (.int 3) x = some (.lst (a :: b :: c :: x :: r)) := by
  have := sd_n (l := a :: b :: c :: d :: r) (n := 3) (x := x) (by simp only [List.length_cons]; omega)
  simpa using this
theorem sd_4 {a b c d e x : D} {r : List D} : setD (.lst (a :: b :: c :: d :: e :: r)) (.int 4) x = some (.lst (a :: b :: c :: d :: x :: r)) := by
  have := sd_n (l := a :: b :: c :: d :: e :: r) (n := 4) (x := x) (by simp only [List.length_cons]; omega)
  simpa using this
theorem bd_add {a b : Int} : binD .add (.int a) (.int b) = some (.frz (.int (a + b))) := rfl
theorem bd_sub {a b : Int} : binD .sub (.int a) (.int b) = some (.frz (.int (a - b))) := rfl
theorem bd_adds {a b : List Nat} : binD .add (.str a) (.str b) = if a.length + b.length ≤ LIM then some (.frz (.str (a ++ b))) else none := rfl
theorem bd_addt {a b : List D} : binD .add (.tup a) (.tup b) = if a.length + b.length ≤ LIM then some (.frz (.tup (a ++ b))) else none := rfl
theorem bd_addl {a b : List D} : binD .add (.lst a) (.lst b) = if a.length + b.length ≤ LIM then some (.own (.lst (a ++ b))) else none := rfl
theorem bd_mul {a b : Int} : binD .mul (.int a) (.int b) = if (-(2 ^ 64) < a ∧ a < 2 ^ 64) ∨ (-(2 ^ 64) < b ∧ b < 2 ^ 64) then some (.frz (.int (a * b))) else none := rfl
theorem bd_fdv {a b : Int} : binD .fdv (.int a) (.int b) = if 0 < b ∧ b < 2 ^ 64 then some (.frz (.int (a / b))) else none := rfl
theorem bd_mod {a b : Int} : binD .mod (.int a) (.int b) = if 0 < b then some (.frz (.int (a % b))) else none := rfl
theorem bd_pow {a b : Int} : binD .pow (.int a) (.int b) = if 0 ≤ b ∧ b ≤ 64 ∧ a.natAbs < 2 ^ 64 then some (.frz (.int (a ^ b.toNat))) else none := rfl
theorem bi_len_s {sub : Nat → Nat → Bool} {l : List Nat} : biD sub .len [.str l] = some (.frz (.int l.length)) := rfl
theorem bi_len_t {sub : Nat → Nat → Bool} {l : List D} : biD sub .len [.tup l] = some (.frz (.int l.length)) := rfl
theorem bi_len_l {sub : Nat → Nat → Bool} {l : List D} : biD sub .len [.lst l] = some (.frz (.int l.length)) := rfl
theorem bi_len_d {sub : Nat → Nat → Bool} {l m : List D} : biD sub .len [.dct l m] = some (.frz (.int l.length)) := rfl
theorem bi_int {sub : Nat → Nat → Bool} {i : Int} : biD sub .int [.int i] = some (.frz (.int i)) := rfl
theorem bi_min {sub : Nat → Nat → Bool} {i j : Int} : biD sub .min [.int i, .int j] = some (.frz (.int (if j < i then j else i))) := rfl
theorem bi_max {sub : Nat → Nat → Bool} {i j : Int} : biD sub .max [.int i, .int j] = some (.frz (.int (if j > i then j else i))) := rfl
theorem bi_abs {sub : Nat → Nat → Bool} {i : Int} : biD sub .abs [.int i] = some (.frz (.int (if i < 0 then -i else i))) := rfl
theorem bools_map : ∀ l : List Bool, boolsL (l.map D.bl) = some l
  | [] => rfl
  | b :: r => by simp only [List.map_cons, boolsL, bools_map r, Option.map_some]
theorem ints_map : ∀ l : List Int, intsL (l.map D.int) = some l
  | [] => rfl
  | b :: r => by simp only [List.map_cons, intsL, ints_map r, Option.map_some]
theorem bi_all {sub : Nat → Nat → Bool} {l : List Bool} : biD sub .all [.lst (l.map D.bl)] = some (.frz (.bl (l.all id))) := by
  show (boolsL _).map _ = _
  rw [bools_map]; with_unfolding_all rfl
theorem bi_any {sub : Nat → Nat → Bool} {l : List Bool} : biD sub .any [.lst (l.map D.bl)] = some (.frz (.bl (l.any id))) := by
  show (boolsL _).map _ = _
  rw [bools_map]; with_unfolding_all rfl
theorem bi_sorted {sub : Nat → Nat → Bool} {l : List D} : biD sub .sorted [.lst l] = (sortD l).map fun s => .own (.lst s) := rfl
theorem bi_tuple_l {sub : Nat → Nat → Bool} {l : List D} : biD sub .tuple [.lst l] = some (.frz (.tup l)) := rfl
theorem bi_tuple_t {sub : Nat → Nat → Bool} {l : List D} : biD sub .tuple [.tup l] = some (.frz (.tup l)) := rfl
theorem bi_list_l {sub : Nat → Nat → Bool} {l : List D} : biD sub .list [.lst l] = some (.own (.lst l)) := rfl
theorem bi_list_t {sub : Nat → Nat → Bool} {l : List D} : biD sub .list [.tup l] = some (.own (.lst l)) := rfl
theorem isd_int_int (sub : Nat → Nat → Bool) (i : Int) : isD sub (.int i) [.int] = some true := rfl
theorem isd_int_bool (sub : Nat → Nat → Bool) (i : Int) : isD sub (.int i) [.bool] = some false := rfl
theorem isd_int_str (sub : Nat → Nat → Bool) (i : Int) : isD sub (.int i) [.str] = some false := rfl
theorem isd_int_tuple (sub : Nat → Nat → Bool) (i : Int) : isD sub (.int i) [.tuple] = some false := rfl
theorem isd_int_list (sub : Nat → Nat → Bool) (i : Int) : isD sub (.int i) [.list] = some false := rfl
theorem isd_int_tl (sub : Nat → Nat → Bool) (i : Int) : isD sub (.int i) [.tuple, .list] = some false := rfl
theorem isd_bl_int (sub : Nat → Nat → Bool) (i : Bool) : isD sub (.bl i) [.int] = some true := rfl
theorem isd_bl_bool (sub : Nat → Nat → Bool) (i : Bool) : isD sub (.bl i) [.bool] = some true := rfl
theorem isd_bl_str (sub : Nat → Nat → Bool) (i : Bool) : isD sub (.bl i) [.str] = some false := rfl
theorem isd_bl_tuple (sub : Nat → Nat → Bool) (i : Bool) : isD sub (.bl i) [.tuple] = some false := rfl
theorem isd_bl_list (sub : Nat → Nat → Bool) (i : Bool) : isD sub (.bl i) [.list] = some false := rfl
theorem isd_bl_tl (sub : Nat → Nat → Bool) (i : Bool) : isD sub (.bl i) [.tuple, .list] = some false := rfl
theorem isd_str_int (sub : Nat → Nat → Bool) (i : List Nat) : isD sub (.str i) [.int] = some false := rfl
theorem isd_str_bool (sub : Nat → Nat → Bool) (i : List Nat) : isD sub (.str i) [.bool] = some false := rfl
theorem isd_str_str (sub : Nat → Nat → Bool) (i : List Nat) : isD sub (.str i) [.str] = some true := rfl
theorem isd_str_tuple (sub : Nat → Nat → Bool) (i : List Nat) : isD sub (.str i) [.tuple] = some false := rfl
theorem isd_str_list (sub : Nat → Nat → Bool) (i : List Nat) : isD sub (.str i) [.list] = some false := rfl
theorem isd_str_tl (sub : Nat → Nat → Bool) (i : List Nat) : isD sub (.str i) [.tuple, .list] = some false := rfl
theorem isd_tup_int (sub : Nat → Nat → Bool) (i : List D) : isD sub (.tup i) [.int] = some false := rfl
theorem isd_tup_bool (sub : Nat → Nat → Bool) (i : List D) : isD sub (.tup i) [.bool] = some false := rfl
theorem isd_tup_str (sub : Nat → Nat → Bool) (i : List D) : isD sub (.tup i) [.str] = some false := rfl
theorem isd_tup_tuple (sub : Nat → Nat → Bool) (i : List D) : isD sub (.tup i) [.tuple] = some true := rfl
theorem isd_tup_list (sub : Nat → Nat → Bool) (i : List D) : isD sub (.tup i) [.list] = some false := rfl
theorem isd_tup_tl (sub : Nat → Nat → Bool) (i : List D) : isD sub (.tup i) [.tuple, .list] = some true := rfl
theorem isd_lst_int (sub : Nat → Nat → Bool) (i : List D) : isD sub (.lst i) [.int] = some false := rfl
theorem isd_lst_bool (sub : Nat → Nat → Bool) (i : List D) : isD sub (.lst i) [.bool] = some false := rfl
theorem isd_lst_str (sub : Nat → Nat → Bool) (i : List D) : isD sub (.lst i) [.str] = some false := rfl
theorem isd_lst_tuple (sub : Nat → Nat → Bool) (i : List D) : isD sub (.lst i) [.tuple] = some false := rfl
theorem isd_lst_list (sub : Nat → Nat → Bool) (i : List D) : isD sub (.lst i) [.list] = some true := rfl
theorem isd_lst_tl (sub : Nat → Nat → Bool) (i : List D) : isD sub (.lst i) [.tuple, .list] = some true := rfl
theorem isd_non_int (sub : Nat → Nat → Bool)  : isD sub .non [.int] = some false := rfl
theorem isd_non_bool (sub : Nat → Nat → Bool)  : isD sub .non [.bool] = some false := rfl
theorem isd_non_str (sub : Nat → Nat → Bool)  : isD sub .non [.str] = some false := rfl
theorem isd_non_tuple (sub : Nat → Nat → Bool)  : isD sub .non [.tuple] = some false := rfl
theorem isd_non_list (sub : Nat → Nat → Bool)  : isD sub .non [.list] = some false := rfl
theorem isd_non_tl (sub : Nat → Nat → Bool)  : isD sub .non [.tuple, .list] = some false := rfl
theorem isd_dct_int (sub : Nat → Nat → Bool) (i j : List D) : isD sub (.dct i j) [.int] = some false := rfl
theorem isd_dct_bool (sub : Nat → Nat → Bool) (i j : List D) : isD sub (.dct i j) [.bool] = some false := rfl
theorem isd_dct_str (sub : Nat → Nat → Bool) (i j : List D) : isD sub (.dct i j) [.str] = some false := rfl
theorem isd_dct_tuple (sub : Nat → Nat → Bool) (i j : List D) : isD sub (.dct i j) [.tuple] = some false := rfl
theorem isd_dct_list (sub : Nat → Nat → Bool) (i j : List D) : isD sub (.dct i j) [.list] = some false := rfl
theorem isd_dct_tl (sub : Nat → Nat → Bool) (i j : List D) : isD sub (.dct i j) [.tuple, .list] = some false := rfl
theorem isd_exc_int (sub : Nat → Nat → Bool) (c : Nat) : isD sub (.exc c) [.int] = some false := rfl
theorem isd_exc_bool (sub : Nat → Nat → Bool) (c : Nat) : isD sub (.exc c) [.bool] = some false := rfl
theorem isd_exc_str (sub : Nat → Nat → Bool) (c : Nat) : isD sub (.exc c) [.str] = some false := rfl
theorem isd_exc_tuple (sub : Nat → Nat → Bool) (c : Nat) : isD sub (.exc c) [.tuple] = some false := rfl
theorem isd_exc_list (sub : Nat → Nat → Bool) (c : Nat) : isD sub (.exc c) [.list] = some false := rfl
theorem isd_exc_tl (sub : Nat → Nat → Bool) (c : Nat) : isD sub (.exc c) [.tuple, .list] = some false := rfl
theorem in_str {c : Nat} {s : List Nat} : inD (.str [c]) (.str s) = some (decide (c ∈ s)) := rfl
theorem bi_all' {sub : Nat → Nat → Bool} {τ : Type} {l : List τ} {p : τ → Bool} : biD sub .all [.lst (l.map fun x => D.bl (p x))] = some (.frz (.bl (l.all p))) := by
  have := bi_all (sub := sub) (l := l.map p)
  rw [List.map_map] at this
  have e : (id ∘ p) = p := rfl
  rw [List.all_map, e] at this
  exact this
theorem bi_any' {sub : Nat → Nat → Bool} {τ : Type} {l : List τ} {p : τ → Bool} : biD sub .any [.lst (l.map fun x => D.bl (p x))] = some (.frz (.bl (l.any p))) := by
  have := bi_any (sub := sub) (l := l.map p)
  rw [List.map_map] at this
  have e : (id ∘ p) = p := rfl
  rw [List.any_map, e] at this
  exact this
theorem it_tup {l : List D} : iterI (.tup l) = some l := rfl
theorem it_lst {l : List D} : iterI (.lst l) = some l := rfl
theorem it_str {l : List Nat} : iterI (.str l) = some (l.map fun c => .str [c]) := rfl
theorem sq_tup {l : List D} : seqD (.tup l) = some l := rfl
theorem sq_lst {l : List D} : seqD (.lst l) = some l := rfl
theorem zi_tup {l m : List D} : zipI (.tup l) (.tup m) = some (zipD l m) := rfl
theorem zi_lst {l m : List D} : zipI (.lst l) (.lst m) = some (zipD l m) := rfl
theorem tru_bl {b : Bool} : truD (.bl b) = some b := rfl
theorem tru_int {i : Int} : truD (.int i) = some (decide (i ≠ 0)) := rfl
theorem tru_str {i : List Nat} : truD (.str i) = some (!i.isEmpty) := rfl
theorem tru_lst {i : List D} : truD (.lst i) = some (!i.isEmpty) := rfl
theorem tru_tup {i : List D} : truD (.tup i) = some (!i.isEmpty) := rfl
theorem tru_non : truD .non = some false := rfl
theorem cd_lt {a b : Int} : cmpD .lt (.int a) (.int b) = some (decide (a < b)) := rfl
theorem cd_gt {a b : Int} : cmpD .gt (.int a) (.int b) = some (decide (b < a)) := rfl
theorem cd_le {a b : Int} : cmpD .le (.int a) (.int b) = some (decide (a ≤ b)) := rfl
theorem cd_ge {a b : Int} : cmpD .ge (.int a) (.int b) = some (decide (b ≤ a)) := rfl
theorem cd_eqi {a b : Int} : cmpD .eq (.int a) (.int b) = some (a == b) := rfl
theorem cd_nei {a b : Int} : cmpD .ne (.int a) (.int b) = some (!(a == b)) := rfl
theorem cd_eqs {a b : List Nat} : cmpD .eq (.str a) (.str b) = some (a == b) := rfl
theorem cd_nes {a b : List Nat} : cmpD .ne (.str a) (.str b) = some (!(a == b)) := rfl
theorem cd_eqb {a b : Bool} : cmpD .eq (.bl a) (.bl b) = some (a == b) := rfl
theorem cd_neb {a b : Bool} : cmpD .ne (.bl a) (.bl b) = some (!(a == b)) := rfl
theorem cd_lts {a b : List Nat} : cmpD .lt (.str a) (.str b) = some (decide (a < b)) := rfl
theorem cd_is {a : D} : cmpD .is a .non = some (isNon a) := by cases a <;> with_unfolding_all rfl
theorem cd_isn {a : D} : cmpD .isn a .non = some (!isNon a) := by cases a <;> with_unfolding_all rfl
theorem cd_inn {a d : D} : cmpD .inn a d = inD a d := by cases a <;> cases d <;> with_unfolding_all rfl
theorem cd_nin {a d : D} : cmpD .nin a d = (inD a d).map (!·) := by cases a <;> cases d <;> with_unfolding_all rfl
theorem non_non : isNon .non = true := rfl
theorem non_tup {l : List D} : isNon (.tup l) = false := rfl
theorem non_lst {l : List D} : isNon (.lst l) = false := rfl
theorem non_str {l : List Nat} : isNon (.str l) = false := rfl
theorem non_int {i : Int} : isNon (.int i) = false := rfl
theorem non_bl {i : Bool} : isNon (.bl i) = false := rfl
theorem mt_append {l : List D} {d : D} : mutD .append (.lst l) [d] = if l.length < LIM then some (.non, .lst (l ++ [d])) else none := rfl
theorem mt_extend {l m : List D} : mutD .extend (.lst l) [.lst m] = if l.length + m.length ≤ LIM then some (.non, .lst (l ++ m)) else none := rfl
theorem mt_pop {l : List D} {d : D} : mutD .pop (.lst (l ++ [d])) [] = some (d, .lst l) := by
  simp [mutD]
theorem rng_map0 {n : Nat} : rngD 0 (n : Int) = (List.range n).map fun (k : Nat) => D.int k := by
  unfold rngD
  simp
theorem rng_map1 {n : Nat} : rngD 0 ((n : Int) + 1) = (List.range (n + 1)).map fun (k : Nat) => D.int k := by
  have := rng_map0 (n := n + 1)
  simpa using this
theorem rng_map {n : Nat} : rngD 0 (n : Int) = (List.range n).map fun (k : Nat) => D.int k := by
  unfold rngD
  simp
theorem rng_from {a b : Nat} : rngD (a : Int) (b : Int) = (List.range' a (b - a)).map fun (k : Nat) => D.int k := by
  unfold rngD
  rw [List.range'_eq_map_range, List.map_map]
  have : ((b : Int) - (a : Int)).toNat = b - a := by omega
  rw [this]
  congr 1
theorem enum_map {τ : Type} (g : τ → D) : ∀ (l : List τ) (n : Nat), enumD (l.map g) n = (l.zipIdx n).map fun p => .tup [.int (p.2 : Int), g p.1]
  | [], n => rfl
  | x :: r, n => by
    rw [List.map_cons, List.zipIdx_cons, List.map_cons, ← enum_map g r (n + 1)]
    with_unfolding_all rfl
/-! the depth of data -/
theorem dep_str {s : List Nat} : dep (.str s) = 0 := by simp [dep]
theorem dep_int {s : Int} : dep (.int s) = 0 := by simp [dep]
theorem dep_bl {s : Bool} : dep (.bl s) = 0 := by simp [dep]
theorem dep_non : dep .non = 0 := by simp [dep]
theorem dep_tup {l : List D} : dep (.tup l) = depL l + 1 := by simp [dep]
theorem dep_lst {l : List D} : dep (.lst l) = depL l + 1 := by simp [dep]
theorem depL_nil : depL [] = 0 := by simp [depL]
theorem depL_cons {x : D} {r : List D} : depL (x :: r) = max (dep x) (depL r) := by simp [depL]
theorem depL_le {n : Nat} : ∀ {l : List D}, (∀ x ∈ l, dep x ≤ n) → depL l ≤ n
  | [], _ => by simp [depL]
  | x :: r, h => by
    rw [depL_cons]
    have := h x List.mem_cons_self
    have := depL_le (n := n) (l := r) fun y hy => h y (List.mem_cons_of_mem _ hy)
    omega
end Dw
end
section
set_option linter.all false
/-! X1: the order of data, sorted, min; == of plain data. -/
namespace Dw
open Dp
theorem lt_irr (a : List Nat) : ¬ a < a := List.lt_irrefl a
theorem x_tok_irr (x : Int ⊕ List Nat) : ltTok x x = false := by
  cases x <;> simp [ltTok, List.lt_irrefl]
theorem x_tok_asym {x y : Int ⊕ List Nat} (h : ltTok x y = true) : ltTok y x = false := by
  cases x <;> cases y <;> simp_all [ltTok]
  · omega
  · exact List.not_lt.mp (List.lt_asymm h)
theorem x_tok_tri {x y : Int ⊕ List Nat} (h : ltTok x y = false) (h' : ltTok y x = false) : x = y := by
  cases x <;> cases y <;> simp_all [ltTok]
  · omega
  · exact List.le_antisymm h' h
theorem x_tok_trans {x y z : Int ⊕ List Nat} (h : ltTok x y = true) (h' : ltTok y z = true) : ltTok x z = true := by
  cases x <;> cases y <;> cases z <;> simp_all [ltTok]
  · omega
  · exact List.lt_trans h h'
theorem x_lex_irr : ∀ l : List (Int ⊕ List Nat), lexT l l = false
  | [] => rfl
  | x :: r => by simp [lexT, x_tok_irr, x_lex_irr r]
theorem x_lex_total : ∀ {l m : List (Int ⊕ List Nat)}, lexT l m = false → lexT m l = false → l = m
  | [], [], _, _ => rfl
  | [], _ :: _, h, _ => by simp [lexT] at h
  | _ :: _, [], _, h => by simp [lexT] at h
  | x :: r, y :: t, h, h' => by
    simp only [lexT, Bool.or_eq_false_iff, Bool.and_eq_false_iff, Bool.not_eq_false'] at h h'
    have e := x_tok_tri h.1 h'.1
    subst e
    simp only [x_tok_irr, Bool.false_eq_true, false_or, true_and] at h h'
    rw [x_lex_total h h']
theorem x_lex_trans : ∀ {l m n : List (Int ⊕ List Nat)}, lexT l m = true → lexT m n = true → lexT l n = true
  | [], _, [], h, h' => by
    rename_i m
    cases m <;> simp [lexT] at h h'
  | [], _, _ :: _, h, h' => by simp [lexT]
  | _ :: _, [], _, h, _ => by simp [lexT] at h
  | x :: r, y :: t, [], _, h' => by simp [lexT] at h'
  | x :: r, y :: t, z :: u, h, h' => by
    simp only [lexT, Bool.or_eq_true, Bool.and_eq_true, Bool.not_eq_true'] at h h' ⊢
    rcases h with h | ⟨h1, h2⟩
    · rcases h' with h' | ⟨h3, h4⟩
      · exact .inl (x_tok_trans h h')
      · left
        cases e : ltTok y z with
        | true => exact x_tok_trans h e
        | false => rw [← x_tok_tri e h3]; exact h
    · rcases h' with h' | ⟨h3, h4⟩
      · left
        cases e : ltTok x y with
        | true => exact x_tok_trans e h'
        | false => rw [x_tok_tri e h1]; exact h'
      · cases e : ltTok x z with
        | true => exact .inl rfl
        | false =>
          right
          refine ⟨?_, x_lex_trans h2 h4⟩
          cases e2 : ltTok z x with
          | false => rfl
          | true =>
            cases e3 : ltTok x y with
            | true => rw [x_tok_trans e2 e3] at h3; cases h3
            | false => rw [x_tok_tri e3 h1] at e2; rw [h3] at e2; cases e2
theorem x_lt_irr (a : D) : ltT a a = false := x_lex_irr _
theorem x_lt_trans {a b c : D} (h : ltT a b = true) (h' : ltT b c = true) : ltT a c = true := x_lex_trans h h'
theorem x_lt_asym {a b : D} (h : ltT a b = true) : ltT b a = false := by
  cases e : ltT b a with
  | false => rfl
  | true => have := x_lt_trans h e; rw [x_lt_irr] at this; cases this
theorem x_le_trans {a b c : D} (h : ltT b a = false) (h' : ltT c b = false) : ltT c a = false := by
  cases e : ltT c a with
  | false => rfl
  | true =>
    exfalso
    cases e2 : ltT a b with
    | true => rw [x_lt_trans e e2] at h'; cases h'
    | false =>
      have := x_lex_total e2 h
      unfold ltT at e h'
      rw [this] at e
      rw [e] at h'
      cases h'
/-! ### sorted, min -/
theorem x_sort_perm (l : List D) : (sortT l).Perm l := List.mergeSort_perm _ _
theorem x_sort_mem {l : List D} {x : D} : x ∈ sortT l ↔ x ∈ l := (x_sort_perm l).mem_iff
theorem x_sort_pw (l : List D) : (sortT l).Pairwise fun a b => ltT b a = false := by
  have := List.pairwise_mergeSort (le := fun a b => !ltT b a) (fun a b c h1 h2 => by
    simp only [Bool.not_eq_true'] at h1 h2 ⊢
    exact x_le_trans h1 h2) (fun a b => by
    cases e : ltT b a with
    | false => simp
    | true => simp [x_lt_asym e]) l
  exact this.imp fun h => by simpa using h
theorem x_min : ∀ (x : D) (l : List D), minT x l ∈ x :: l ∧ ∀ y ∈ x :: l, ltT y (minT x l) = false
  | x, [] => ⟨List.mem_cons_self, fun y h => by
    rw [List.mem_singleton.mp h]; exact x_lt_irr x⟩
  | x, z :: l => by
    have e : minT x (z :: l) = minT (if ltT z x then z else x) l := rfl
    obtain ⟨h1, h2⟩ := x_min (if ltT z x then z else x) l
    rw [e]
    cases hz : ltT z x with
    | true =>
      simp only [hz, if_true] at h1 h2 ⊢
      refine ⟨List.mem_cons_of_mem _ h1, fun y hy => ?_⟩
      rcases List.mem_cons.mp hy with rfl | hy
      · exact x_le_trans (h2 z List.mem_cons_self) (x_lt_asym hz)
      · exact h2 y hy
    | false =>
      simp only [hz, Bool.false_eq_true, if_false] at h1 h2 ⊢
      refine ⟨?_, fun y hy => ?_⟩
      · rcases List.mem_cons.mp h1 with h | h
        · rw [h]; exact List.mem_cons_self
        · exact List.mem_cons_of_mem _ (List.mem_cons_of_mem _ h)
      · rcases List.mem_cons.mp hy with rfl | hy
        · exact h2 y List.mem_cons_self
        · rcases List.mem_cons.mp hy with rfl | hy
          · exact x_le_trans (h2 x List.mem_cons_self) hz
          · exact h2 y (List.mem_cons_of_mem _ hy)
/-- items sorted by their keys -/
theorem x_sortP_perm (l : List (D × D)) : (sortP l).Perm l := List.mergeSort_perm _ _
theorem x_sortP_pw (l : List (D × D)) : (sortP l).Pairwise fun a b => ltT b.2 a.2 = false := by
  have := List.pairwise_mergeSort (le := fun (a b : D × D) => !ltT b.2 a.2) (fun a b c h1 h2 => by
    simp only [Bool.not_eq_true'] at h1 h2 ⊢
    exact x_le_trans h1 h2) (fun a b => by
    cases e : ltT b.2 a.2 with
    | false => simp
    | true => simp [x_lt_asym e]) l
  exact this.imp fun h => by simpa using h
/-! ### == of plain data: no flags, no None -/
mutual
def plD : D → Bool
  | .int _ => true
  | .str _ => true
  | .tup l => plL l
  | .lst l => plL l
  | _ => false
def plL : List D → Bool
  | [] => true
  | x :: r => plD x && plL r
end
mutual
theorem x_eqD : ∀ (a b : D), plD a = true → plD b = true → ∃ r, eqD a b = some r ∧ (r = true ↔ a = b)
  | .int i, b, _, hb => by
    cases b <;> simp_all [plD, eqD]
  | .str i, b, _, hb => by
    cases b <;> simp_all [plD, eqD]
  | .tup l, b, ha, hb => by
    cases b with
    | tup m =>
      obtain ⟨r, h1, h2⟩ := x_eqL l m (by simpa [plD] using ha) (by simpa [plD] using hb)
      exact ⟨r, by simpa [eqD] using h1, by rw [h2]; simp⟩
    | _ => simp_all [plD, eqD]
  | .lst l, b, ha, hb => by
    cases b with
    | lst m =>
      obtain ⟨r, h1, h2⟩ := x_eqL l m (by simpa [plD] using ha) (by simpa [plD] using hb)
      exact ⟨r, by simpa [eqD] using h1, by rw [h2]; simp⟩
    | _ => simp_all [plD, eqD]
  | .non, _, ha, _ => by simp [plD] at ha
  | .bl _, _, ha, _ => by simp [plD] at ha
  | .dct _ _, _, ha, _ => by simp [plD] at ha
  | .scr _, _, ha, _ => by simp [plD] at ha
  | .obj _ _ _, _, ha, _ => by simp [plD] at ha
  | .exc _, _, ha, _ => by simp [plD] at ha
  | .fn _, _, ha, _ => by simp [plD] at ha
theorem x_eqL : ∀ (a b : List D), plL a = true → plL b = true → ∃ r, eqL a b = some r ∧ (r = true ↔ a = b)
  | [], [], _, _ => ⟨true, by simp [eqL], by simp⟩
  | [], _ :: _, _, _ => ⟨false, by simp [eqL], by simp⟩
  | _ :: _, [], _, _ => ⟨false, by simp [eqL], by simp⟩
  | x :: a, y :: b, ha, hb => by
    simp only [plL, Bool.and_eq_true] at ha hb
    obtain ⟨r, h1, h2⟩ := x_eqD x y ha.1 hb.1
    obtain ⟨q, h3, h4⟩ := x_eqL a b ha.2 hb.2
    cases r with
    | true =>
      refine ⟨q, by simp [eqL, h1, h3], ?_⟩
      rw [h4, h2.mp rfl]
      simp
    | false =>
      refine ⟨false, by simp [eqL, h1], ?_⟩
      constructor
      · intro z; cases z
      · intro z
        injection z with z1 z2
        exact h2.mpr z1
end
theorem x_inL {k : D} (hk : plD k = true) : ∀ {l : List D}, plL l = true → ∃ r, inL k l = some r ∧ (r = true ↔ k ∈ l)
  | [], _ => ⟨false, rfl, by simp⟩
  | x :: l, h => by
    simp only [plL, Bool.and_eq_true] at h
    obtain ⟨r, h1, h2⟩ := x_eqD x k h.1 hk
    obtain ⟨q, h3, h4⟩ := x_inL hk h.2
    cases r with
    | true => exact ⟨true, by simp [inL, h1], by simp [h2.mp rfl]⟩
    | false =>
      refine ⟨q, by simp [inL, h1, h3], ?_⟩
      rw [h4, List.mem_cons]
      constructor
      · exact .inr
      · rintro (z | z)
        · have := h2.mpr z.symm; cases this
        · exact z
theorem x_plL {l : List D} : plL l = true ↔ ∀ x ∈ l, plD x = true := by
  induction l with
  | nil => simp [plL]
  | cons x r ih => simp [plL, ih]
theorem x_fm_congr {α β : Type} {f g : α → Option β} : ∀ {l : List α}, (∀ x ∈ l, f x = g x) → l.filterMap f = l.filterMap g
  | [], _ => rfl
  | x :: r, h => by
    have h1 := h x List.mem_cons_self
    have h2 := x_fm_congr (l := r) fun y hy => h y (List.mem_cons_of_mem _ hy)
    simp only [List.filterMap_cons, h1, h2]
theorem x_fm_zip {α β : Type} (f : α → Option β) : ∀ (l : List α) (n : Nat), ((l.zipIdx n).filterMap fun p => f p.1) = l.filterMap f
  | [], _ => rfl
  | x :: r, n => by
    rw [List.zipIdx_cons, List.filterMap_cons, List.filterMap_cons, x_fm_zip f r]
theorem x_fm_if {α β : Type} (p : α → Bool) (g : α → β) : ∀ (l : List α), (l.filterMap fun x => if p x = true then some (g x) else none) = (l.filter p).map g
  | [] => rfl
  | x :: r => by
    rw [List.filterMap_cons, List.filter_cons, x_fm_if p g r]
    cases p x <;> rfl
/-- less than, of one kind -/
theorem x_nodup_lt : ∀ {n : Nat} {l : List Nat}, l.Nodup → (∀ x ∈ l, x < n) → l.length ≤ n
  | 0, l, _, h => by
    cases l with
    | nil => simp
    | cons x r => exact absurd (h x List.mem_cons_self) (by omega)
  | n + 1, l, hn, h => by
    have h1 : (l.filter (· ≠ n)).length ≤ n := x_nodup_lt (hn.sublist List.filter_sublist) fun x hx => by
      rw [List.mem_filter] at hx
      have := h x hx.1
      have h2 : x ≠ n := by simpa using hx.2
      omega
    have h2 : l.length ≤ (l.filter (· ≠ n)).length + 1 := by
      clear h1 h
      induction l with
      | nil => simp
      | cons x r ih =>
        rw [List.nodup_cons] at hn
        by_cases e : x = n
        · have : r.filter (· ≠ n) = r := by
            rw [List.filter_eq_self]
            intro y hy
            have : y ≠ n := fun z => hn.1 (by rw [e, ← z]; exact hy)
            simpa using this
          simp only [ne_eq, decide_not] at this
          simp [List.filter_cons, e, this]
        · have := ih hn.2
          simp only [ne_eq, decide_not] at this
          simp [List.filter_cons, e]
          omega
    omega
end Dw
end
section
set_option linter.all false
/-! N91: rules that put one word for another: steps, ends, meetings; what Newman's lemma asks. No program in sight. -/
namespace Rw
abbrev Wd := List Nat
abbrev Rl := Wd × Wd
/-- a word of a, b, c -/
def W3 (w : Wd) : Prop := ∀ c ∈ w, 97 ≤ c ∧ c ≤ 99
/-- the place among all words, by nearness -/
def rk (w : Wd) : Nat := w.foldl (fun a c => a * 3 + (c - 96)) 0
theorem rk_app (a b : Wd) : rk (a ++ b) = b.foldl (fun a c => a * 3 + (c - 96)) (rk a) := by
  unfold rk; rw [List.foldl_append]
theorem fold_eq : ∀ (b : Wd) (n : Nat), b.foldl (fun a c => a * 3 + (c - 96)) n = n * 3 ^ b.length + rk b
  | [], n => by simp [rk]
  | c :: r, n => by
    unfold rk
    rw [List.foldl_cons, List.foldl_cons, fold_eq r, fold_eq r, List.length_cons, Nat.pow_succ]
    simp only [Nat.zero_mul, Nat.zero_add, Nat.add_mul, Nat.mul_assoc]
    rw [Nat.mul_comm 3]
    omega
theorem rk_cons (c : Nat) (r : Wd) : rk (c :: r) = (c - 96) * 3 ^ r.length + rk r := by
  show (c :: r).foldl _ 0 = _
  rw [List.foldl_cons, fold_eq]
  simp
/-- bounds by length -/
theorem rk_hi : ∀ {w : Wd}, W3 w → 2 * rk w + 3 ≤ 3 ^ (w.length + 1)
  | [], _ => by simp [rk]
  | c :: r, h => by
    have h1 := rk_hi (w := r) fun x hx => h x (List.mem_cons_of_mem _ hx)
    have h2 := h c List.mem_cons_self
    rw [rk_cons, List.length_cons, Nat.pow_succ]
    have h3 : (c - 96) * 3 ^ r.length ≤ 3 * 3 ^ r.length := Nat.mul_le_mul_right _ (by omega)
    have h4 : 3 ^ (r.length + 1) = 3 * 3 ^ r.length := by rw [Nat.pow_succ, Nat.mul_comm]
    omega
theorem rk_lo : ∀ {w : Wd}, W3 w → 3 ^ w.length ≤ 2 * rk w + 1
  | [], _ => by simp [rk]
  | c :: r, h => by
    have h1 := rk_lo (w := r) fun x hx => h x (List.mem_cons_of_mem _ hx)
    have h2 := h c List.mem_cons_self
    rw [rk_cons, List.length_cons, Nat.pow_succ]
    have h3 : 1 * 3 ^ r.length ≤ (c - 96) * 3 ^ r.length := Nat.mul_le_mul_right _ (by omega)
    omega
/-- nearer -/
def Near (a b : Wd) : Prop := a.length < b.length ∨ (a.length = b.length ∧ a < b)
theorem rk_lex : ∀ {a b : Wd}, W3 a → W3 b → a.length = b.length → a < b → rk a < rk b
  | [], [], _, _, _, h => by cases h
  | [], _ :: _, _, _, h, _ => by cases h
  | _ :: _, [], _, _, h, _ => by cases h
  | x :: a, y :: b, ha, hb, hl, h => by
    have e : a.length = b.length := by simpa using hl
    have h1 := ha x List.mem_cons_self
    have h2 := hb y List.mem_cons_self
    have a3 : W3 a := fun z hz => ha z (List.mem_cons_of_mem _ hz)
    have b3 : W3 b := fun z hz => hb z (List.mem_cons_of_mem _ hz)
    rw [rk_cons, rk_cons, e]
    rcases List.cons_lt_cons_iff.mp h with h | ⟨h, h'⟩
    · have k1 := rk_hi a3
      have k2 := rk_lo b3
      rw [e, Nat.pow_succ] at k1
      have : (x - 96 + 1) * 3 ^ b.length ≤ (y - 96) * 3 ^ b.length := Nat.mul_le_mul_right _ (by omega)
      rw [Nat.add_mul] at this
      omega
    · subst h
      have := rk_lex a3 b3 e h'
      omega
theorem rk_near {a b : Wd} (ha : W3 a) (hb : W3 b) (h : Near a b) : rk a < rk b := by
  rcases h with h | ⟨h, h'⟩
  · have k1 := rk_hi ha
    have k2 := rk_lo hb
    have : 3 ^ (a.length + 1) ≤ 3 ^ b.length := Nat.pow_le_pow_right (by decide) h
    omega
  · exact rk_lex ha hb h h'
theorem near_tri {a b : Wd} (h : ¬ Near a b) (h' : ¬ Near b a) : a = b := by
  unfold Near at h h'
  have e : a.length = b.length := by omega
  have h1 : ¬ a < b := fun z => h (.inr ⟨e, z⟩)
  have h2 : ¬ b < a := fun z => h' (.inr ⟨e.symm, z⟩)
  exact List.le_antisymm (List.not_lt.mp h2) (List.not_lt.mp h1)
theorem rk_inj {a b : Wd} (ha : W3 a) (hb : W3 b) (h : rk a = rk b) : a = b := by
  apply near_tri
  · intro z; have := rk_near ha hb z; omega
  · intro z; have := rk_near hb ha z; omega
/-! ### steps -/
def Step (rs : List Rl) (u v : Wd) : Prop := ∃ a b r, r ∈ rs ∧ u = a ++ r.1 ++ b ∧ v = a ++ r.2 ++ b
inductive Star (rs : List Rl) : Wd → Wd → Prop where
  | refl (u : Wd) : Star rs u u
  | head {u v w : Wd} (h : Step rs u v) (t : Star rs v w) : Star rs u w
theorem Star.trans {rs : List Rl} {u v w : Wd} (h : Star rs u v) (t : Star rs v w) : Star rs u w := by
  induction h with
  | refl => exact t
  | head s _ ih => exact .head s (ih t)
theorem Star.one {rs : List Rl} {u v : Wd} (h : Step rs u v) : Star rs u v := .head h (.refl _)
theorem Step.ctx {rs : List Rl} {u v : Wd} (a b : Wd) (h : Step rs u v) : Step rs (a ++ u ++ b) (a ++ v ++ b) := by
  obtain ⟨x, y, r, hr, rfl, rfl⟩ := h
  exact ⟨a ++ x, y ++ b, r, hr, by simp, by simp⟩
theorem Star.ctx {rs : List Rl} {u v : Wd} (a b : Wd) (h : Star rs u v) : Star rs (a ++ u ++ b) (a ++ v ++ b) := by
  induction h with
  | refl => exact .refl _
  | head s _ ih => exact .head (s.ctx a b) ih
/-- rules: of a, b, c, each making nearer -/
structure Good (rs : List Rl) : Prop where
  l3 : ∀ r ∈ rs, W3 r.1
  r3 : ∀ r ∈ rs, W3 r.2
  near : ∀ r ∈ rs, Near r.2 r.1
theorem W3.app {a b : Wd} : W3 (a ++ b) ↔ W3 a ∧ W3 b := by
  unfold W3
  constructor
  · exact fun h => ⟨fun c hc => h c (List.mem_append_left _ hc), fun c hc => h c (List.mem_append_right _ hc)⟩
  · rintro ⟨h, h'⟩ c hc
    rcases List.mem_append.mp hc with z | z
    · exact h c z
    · exact h' c z
theorem Step.w3 {rs : List Rl} (G : Good rs) {u v : Wd} (h : Step rs u v) (hu : W3 u) : W3 v := by
  obtain ⟨a, b, r, hr, rfl, rfl⟩ := h
  rw [W3.app, W3.app] at hu ⊢
  exact ⟨⟨hu.1.1, G.r3 r hr⟩, hu.2⟩
theorem app_lt {a b : Wd} (c : Wd) (h : a < b) (hl : a.length = b.length) : a ++ c < b ++ c := by
  induction a generalizing b with
  | nil =>
    cases b with
    | nil => exact absurd h (List.lt_irrefl _)
    | cons y b => cases hl
  | cons x a ih =>
    cases b with
    | nil => cases hl
    | cons y b =>
      rw [List.cons_append, List.cons_append]
      rcases List.cons_lt_cons_iff.mp h with h | ⟨h, h'⟩
      · exact List.cons_lt_cons_iff.mpr (.inl h)
      · exact List.cons_lt_cons_iff.mpr (.inr ⟨h, ih h' (by simpa using hl)⟩)
theorem pre_lt {a b : Wd} : ∀ (c : Wd), a < b → c ++ a < c ++ b
  | [], h => h
  | x :: c, h => by
    rw [List.cons_append, List.cons_append]
    exact List.cons_lt_cons_iff.mpr (.inr ⟨rfl, pre_lt c h⟩)
theorem Near.ctx {u v : Wd} (a b : Wd) (h : Near u v) : Near (a ++ u ++ b) (a ++ v ++ b) := by
  rcases h with h | ⟨h, h'⟩
  · left; simp; omega
  · right
    refine ⟨by simp [h], ?_⟩
    rw [List.append_assoc, List.append_assoc]
    exact pre_lt _ (app_lt _ h' h)
theorem Step.near {rs : List Rl} (G : Good rs) {u v : Wd} (h : Step rs u v) : Near v u := by
  obtain ⟨a, b, r, hr, rfl, rfl⟩ := h
  exact (G.near r hr).ctx a b
theorem Step.rk {rs : List Rl} (G : Good rs) {u v : Wd} (h : Step rs u v) (hu : W3 u) : rk v < rk u := rk_near (h.w3 G hu) hu (h.near G)
theorem Star.w3 {rs : List Rl} (G : Good rs) {u v : Wd} (h : Star rs u v) (hu : W3 u) : W3 v := by
  induction h with
  | refl => exact hu
  | head s _ ih => exact ih (s.w3 G hu)
theorem Step.len {rs : List Rl} (G : Good rs) {u v : Wd} (h : Step rs u v) : v.length ≤ u.length := by
  rcases h.near G with h | h <;> omega
theorem Star.len {rs : List Rl} (G : Good rs) {u v : Wd} (h : Star rs u v) : v.length ≤ u.length := by
  induction h with
  | refl => exact Nat.le_refl _
  | head s _ ih => exact Nat.le_trans ih (s.len G)
theorem Star.mem {rs : List Rl} {u v : Wd} {l : List Nat} (h : Star rs u v) (hr : ∀ r ∈ rs, ∀ c ∈ r.2, c ∈ l) (hu : ∀ c ∈ u, c ∈ l) : ∀ c ∈ v, c ∈ l := by
  induction h with
  | refl => exact hu
  | head s _ ih =>
    apply ih
    obtain ⟨a, b, r, hm, rfl, rfl⟩ := s
    intro c hc
    simp only [List.mem_append] at hc hu
    rcases hc with (hc | hc) | hc
    · exact hu c (.inl (.inl hc))
    · exact hr r hm c hc
    · exact hu c (.inr hc)
def Rest (rs : List Rl) (w : Wd) : Prop := ∀ v, ¬ Step rs w v
/-- steps from a word end -/
theorem ends {rs : List Rl} (G : Good rs) : ∀ (n : Nat) (u : Wd), rk u < n → W3 u → ∃ v, Star rs u v ∧ Rest rs v
  | 0, _, h, _ => by omega
  | n + 1, u, h, hu => by
    by_cases e : Rest rs u
    · exact ⟨u, .refl u, e⟩
    · have ⟨v, hv⟩ : ∃ v, Step rs u v := by
        apply Classical.byContradiction
        intro z
        exact e fun v hv => z ⟨v, hv⟩
      obtain ⟨w, h1, h2⟩ := ends G n v (by have := hv.rk G hu; omega) (hv.w3 G hu)
      exact ⟨w, .head hv h1, h2⟩
def Join (rs : List Rl) (u v : Wd) : Prop := ∃ z, Star rs u z ∧ Star rs v z
theorem Join.symm {rs : List Rl} {u v : Wd} (h : Join rs u v) : Join rs v u := by
  obtain ⟨z, a, b⟩ := h
  exact ⟨z, b, a⟩
theorem Join.ctx {rs : List Rl} {u v : Wd} (a b : Wd) (h : Join rs u v) : Join rs (a ++ u ++ b) (a ++ v ++ b) := by
  obtain ⟨z, h1, h2⟩ := h
  exact ⟨_, h1.ctx a b, h2.ctx a b⟩
theorem Rest.star {rs : List Rl} {u v : Wd} (h : Rest rs u) (s : Star rs u v) : v = u := by
  cases s with
  | refl => rfl
  | head s _ => exact absurd s (h _)
/-- Newman's lemma -/
theorem newman {rs : List Rl} (G : Good rs) (loc : ∀ u v w, Step rs u v → Step rs u w → Join rs v w) :
    ∀ (n : Nat) (u v w : Wd), rk u < n → W3 u → Star rs u v → Star rs u w → Rest rs v → Rest rs w → v = w
  | 0, _, _, _, h, _, _, _, _, _ => by omega
  | n + 1, u, v, w, h, hu, h1, h2, r1, r2 => by
    cases h1 with
    | refl => exact (r1.star h2).symm
    | head s1 t1 =>
      rename_i u1
      cases h2 with
      | refl => exact absurd s1 (r2 _)
      | head s2 t2 =>
        rename_i u2
        obtain ⟨z, j1, j2⟩ := loc u u1 u2 s1 s2
        have w1 := s1.w3 G hu
        have w2 := s2.w3 G hu
        have k1 := s1.rk G hu
        have k2 := s2.rk G hu
        obtain ⟨e, e1, e2⟩ := ends G (rk z + 1) z (by omega) (j1.w3 G w1)
        have a1 := newman G loc n u1 v e (by omega) w1 t1 (j1.trans e1) r1 e2
        have a2 := newman G loc n u2 w e (by omega) w2 t2 (j2.trans e1) r2 e2
        rw [a1, a2]
/-! ### meetings -/
/-- two rules meet: the first's end is the other's beginning, or the other lies in the first -/
inductive Meet (rs : List Rl) : Wd → Wd → Wd → Prop where
  | over (x y z : Wd) (r s : Rl) (hr : r ∈ rs) (hs : s ∈ rs) (e1 : r.1 = x ++ y) (e2 : s.1 = y ++ z) (hx : x ≠ []) (hy : y ≠ []) (hz : z ≠ []) : Meet rs (x ++ y ++ z) (r.2 ++ z) (x ++ s.2)
  | within (x y : Wd) (r s : Rl) (hr : r ∈ rs) (hs : s ∈ rs) (e : r.1 = x ++ s.1 ++ y) (n : r ≠ s) : Meet rs r.1 r.2 (x ++ s.2 ++ y)
theorem Meet.steps {rs : List Rl} {w u v : Wd} (h : Meet rs w u v) : Step rs w u ∧ Step rs w v := by
  cases h with
  | over x y z r s hr hs e1 e2 _ _ _ => exact ⟨⟨[], z, r, hr, by simp [e1], by simp⟩, ⟨x, [], s, hs, by simp [e2], by simp⟩⟩
  | within x y r s hr hs e n => exact ⟨⟨[], [], r, hr, by simp, by simp⟩, ⟨x, y, s, hs, e, rfl⟩⟩
theorem split4 {α : Type} : ∀ {a b c d : List α}, a ++ b = c ++ d → a.length ≤ c.length → ∃ x, c = a ++ x ∧ b = x ++ d
  | [], b, c, d, h, _ => ⟨c, rfl, by simpa using h⟩
  | x :: a, b, [], d, _, hl => by simp at hl
  | x :: a, b, y :: c, d, h, hl => by
    rw [List.cons_append, List.cons_append] at h
    injection h with h1 h2
    obtain ⟨z, k1, k2⟩ := split4 h2 (by simpa using hl)
    exact ⟨z, by rw [k1, h1]; rfl, k2⟩
theorem loc_half {rs : List Rl} (H : ∀ w u v, Meet rs w u v → Join rs u v) {a b c d : Wd} {r s : Rl} (hr : r ∈ rs) (hs : s ∈ rs) (e : a ++ r.1 ++ b = c ++ s.1 ++ d) (hl : a.length ≤ c.length) (hn : a.length = c.length → s.1.length ≤ r.1.length) : Join rs (a ++ r.2 ++ b) (c ++ s.2 ++ d) := by
  rw [List.append_assoc, List.append_assoc] at e
  obtain ⟨x, e1, e2⟩ := split4 e hl
  subst e1
  -- r.1 ++ b = x ++ (s.1 ++ d)
  rcases Nat.le_total r.1.length x.length with h1 | h1
  · -- apart
    obtain ⟨y, f1, f2⟩ := split4 e2 h1
    subst f1
    rw [f2]
    refine ⟨a ++ r.2 ++ y ++ s.2 ++ d, Star.one ⟨a ++ r.2 ++ y, d, s, hs, by simp, by simp⟩, Star.one ⟨a, y ++ s.2 ++ d, r, hr, by simp, by simp⟩⟩
  · obtain ⟨y, f1, f2⟩ := split4 e2.symm h1
    -- r.1 = x ++ y, s.1 ++ d = y ++ b
    rcases Nat.le_total s.1.length y.length with h2 | h2
    · -- within
      obtain ⟨z, g1, g2⟩ := split4 f2 h2
      subst g1
      rw [g2]
      by_cases n : r = s
      · subst n
        have l := congrArg List.length f1
        simp only [List.length_append] at l
        have hx : x = [] := List.length_eq_zero_iff.mp (by omega)
        have hz : z = [] := List.length_eq_zero_iff.mp (by omega)
        subst hx hz
        simp only [List.append_nil, List.nil_append]
        exact ⟨_, .refl _, .refl _⟩
      · have m := H _ _ _ (Meet.within x z r s hr hs (by rw [f1, List.append_assoc]) n)
        have := m.ctx a b
        simpa only [List.append_assoc] using this
    · obtain ⟨z, g1, g2⟩ := split4 f2.symm h2
      -- s.1 = y ++ z, b = z ++ d
      subst g2
      by_cases hy : y = []
      · subst hy
        simp only [List.append_nil, List.nil_append] at f1 g1
        subst g1
        rw [f1.symm]
        refine ⟨a ++ r.2 ++ s.2 ++ d, Star.one ⟨a ++ r.2, d, s, hs, by simp, by simp⟩, Star.one ⟨a, s.2 ++ d, r, hr, by simp, by simp⟩⟩
      · by_cases hz : z = []
        · subst hz
          simp only [List.append_nil] at g1
          by_cases n : r = s
          · subst n
            have l := congrArg List.length f1
            rw [g1, List.length_append] at l
            have hx : x = [] := List.length_eq_zero_iff.mp (by omega)
            subst hx
            simp only [List.append_nil, List.nil_append]
            exact ⟨_, .refl _, .refl _⟩
          · have m := H _ _ _ (Meet.within x [] r s hr hs (by rw [f1, g1, List.append_nil]) n)
            have := m.ctx a d
            simpa only [List.append_assoc, List.append_nil, List.nil_append] using this
        · by_cases hx : x = []
          · subst hx
            exfalso
            have := hn (by simp)
            rw [f1, g1] at this
            simp only [List.length_append, List.length_nil] at this
            have : z.length = 0 := by omega
            exact hz (List.length_eq_zero_iff.mp this)
          · have m := H _ _ _ (Meet.over x y z r s hr hs f1 g1 hx hy hz)
            have := m.ctx a d
            simpa only [List.append_assoc] using this
/-- where all meetings can be joined, all pairs of steps can -/
theorem local_join {rs : List Rl} (H : ∀ w u v, Meet rs w u v → Join rs u v) (u v w : Wd) (h1 : Step rs u v) (h2 : Step rs u w) : Join rs v w := by
  obtain ⟨a, b, r, hr, rfl, rfl⟩ := h1
  obtain ⟨c, d, s, hs, e, rfl⟩ := h2
  rcases Nat.lt_trichotomy a.length c.length with h | h | h
  · exact loc_half H hr hs e (by omega) (fun z => by omega)
  · rcases Nat.le_total s.1.length r.1.length with k | k
    · exact loc_half H hr hs e (by omega) fun _ => k
    · exact (loc_half H hs hr e.symm (by omega) fun _ => k).symm
  · exact (loc_half H hs hr e.symm (by omega) (fun z => by omega)).symm
/-- of sure rules all steps end at one word -/
theorem one_end {rs : List Rl} (G : Good rs) (H : ∀ w u v, Meet rs w u v → Join rs u v) {u v w : Wd} (hu : W3 u) (h1 : Star rs u v) (h2 : Star rs u w) (r1 : Rest rs v) (r2 : Rest rs w) : v = w :=
  newman G (local_join H) (rk u + 1) u v w (by omega) hu h1 h2 r1 r2
end Rw
end
section
set_option linter.all false
/-! N91b: steps, last words, meetings as the texts reckon them. -/
namespace Rw
instance (a b : Wd) : Decidable (Near a b) := by unfold Near; infer_instance
/-- what one step makes of a word -/
def stp (w : Wd) (spot : Nat) (r : Rl) : Wd := w.take spot ++ r.2 ++ w.drop (spot + r.1.length)
def hit (w : Wd) (spot : Nat) (r : Rl) : Bool := decide ((w.take (spot + r.1.length)).drop spot = r.1)
def stepped (rs : List Rl) (w : Wd) : List Wd := (List.range w.length).flatMap fun spot => (rs.filter (hit w spot)).map (stp w spot)
theorem hit_iff {w : Wd} {spot : Nat} {r : Rl} (hs : spot ≤ w.length) : hit w spot r = true ↔ ∃ a b, a.length = spot ∧ w = a ++ r.1 ++ b := by
  unfold hit
  rw [decide_eq_true_eq]
  constructor
  · intro h
    refine ⟨w.take spot, w.drop (spot + r.1.length), by rw [List.length_take]; omega, ?_⟩
    have e : w.take spot ++ r.1 = w.take (spot + r.1.length) := by
      conv => lhs; rhs; rw [← h]
      rw [List.drop_take, ← List.take_add]
      congr 1
      omega
    rw [e, List.take_append_drop]
  · rintro ⟨a, b, rfl, rfl⟩
    have : (a ++ r.1 ++ b).take (a.length + r.1.length) = a ++ r.1 := by
      rw [← List.length_append, List.take_left]
    rw [this, List.drop_left]
theorem mem_stepped {rs : List Rl} (hne : ∀ r ∈ rs, r.1 ≠ []) {w v : Wd} : v ∈ stepped rs w ↔ Step rs w v := by
  unfold stepped
  simp only [List.mem_flatMap, List.mem_range, List.mem_map, List.mem_filter]
  constructor
  · rintro ⟨spot, hs, r, ⟨hr, hh⟩, rfl⟩
    obtain ⟨a, b, rfl, rfl⟩ := (hit_iff (by omega)).mp hh
    refine ⟨a, b, r, hr, rfl, ?_⟩
    unfold stp
    have h1 : (a ++ r.1 ++ b).take a.length = a := by rw [List.append_assoc, List.take_left]
    have h2 : (a ++ r.1 ++ b).drop (a.length + r.1.length) = b := by rw [← List.length_append, List.drop_left]
    rw [h1, h2]
  · rintro ⟨a, b, r, hr, rfl, rfl⟩
    have : r.1.length ≠ 0 := fun z => hne r hr (List.length_eq_zero_iff.mp z)
    refine ⟨a.length, by simp only [List.length_append]; omega, r, ⟨hr, (hit_iff (by simp only [List.length_append]; omega)).mpr ⟨a, b, rfl, rfl⟩⟩, ?_⟩
    unfold stp
    have h1 : (a ++ r.1 ++ b).take a.length = a := by rw [List.append_assoc, List.take_left]
    have h2 : (a ++ r.1 ++ b).drop (a.length + r.1.length) = b := by rw [← List.length_append, List.drop_left]
    rw [h1, h2]
theorem Good.ne {rs : List Rl} (G : Good rs) : ∀ r ∈ rs, r.1 ≠ [] := fun r hr z => by
  rcases G.near r hr with h | ⟨_, h⟩
  · rw [z] at h; simp at h
  · rw [z] at h; exact absurd h (List.not_lt_nil _)
theorem rest_iff {rs : List Rl} (G : Good rs) {w : Wd} : Rest rs w ↔ stepped rs w = [] := by
  unfold Rest
  rw [List.eq_nil_iff_forall_not_mem]
  exact forall_congr' fun v => not_congr (mem_stepped G.ne).symm
def lastN (rs : List Rl) : Nat → Wd → Wd
  | 0, w => w
  | n + 1, w => match stepped rs w with
    | [] => w
    | v :: _ => lastN rs n v
def last (rs : List Rl) (w : Wd) : Wd := lastN rs (rk w) w
theorem lastN_fuel {rs : List Rl} (G : Good rs) : ∀ (n m : Nat) (w : Wd), W3 w → rk w ≤ n → rk w ≤ m → lastN rs n w = lastN rs m w
  | 0, 0, _, _, _, _ => rfl
  | 0, m + 1, w, h3, h, _ => by
    cases e : stepped rs w with
    | nil => simp [lastN, e]
    | cons v r =>
      have := ((mem_stepped G.ne).mp (e ▸ List.mem_cons_self : v ∈ stepped rs w)).rk G h3
      omega
  | n + 1, 0, w, h3, _, h => by
    cases e : stepped rs w with
    | nil => simp [lastN, e]
    | cons v r =>
      have := ((mem_stepped G.ne).mp (e ▸ List.mem_cons_self : v ∈ stepped rs w)).rk G h3
      omega
  | n + 1, m + 1, w, h3, h, h' => by
    cases e : stepped rs w with
    | nil => simp [lastN, e]
    | cons v r =>
      have s := (mem_stepped G.ne).mp (e ▸ List.mem_cons_self : v ∈ stepped rs w)
      have := s.rk G h3
      simp only [lastN, e]
      exact lastN_fuel G n m v (s.w3 G h3) (by omega) (by omega)
theorem last_nil {rs : List Rl} {w : Wd} (e : stepped rs w = []) : last rs w = w := by
  unfold last
  cases rk w with
  | zero => rfl
  | succ n => simp [lastN, e]
theorem last_cons {rs : List Rl} (G : Good rs) {w v : Wd} {r : List Wd} (h3 : W3 w) (e : stepped rs w = v :: r) : last rs w = last rs v := by
  have s := (mem_stepped G.ne).mp (e ▸ List.mem_cons_self : v ∈ stepped rs w)
  have k := s.rk G h3
  unfold last
  have : rk w = (rk w - 1) + 1 := by omega
  rw [this]
  simp only [lastN, e]
  exact lastN_fuel G _ _ v (s.w3 G h3) (by omega) (by omega)
theorem last_star {rs : List Rl} (G : Good rs) : ∀ (n : Nat) (w : Wd), rk w < n → W3 w → Star rs w (last rs w) ∧ Rest rs (last rs w)
  | 0, _, h, _ => by omega
  | n + 1, w, h, h3 => by
    cases e : stepped rs w with
    | nil => rw [last_nil e]; exact ⟨.refl _, (rest_iff G).mpr e⟩
    | cons v r =>
      rw [last_cons G h3 e]
      have s := (mem_stepped G.ne).mp (e ▸ List.mem_cons_self : v ∈ stepped rs w)
      have := s.rk G h3
      obtain ⟨h1, h2⟩ := last_star G n v (by omega) (s.w3 G h3)
      exact ⟨.head s h1, h2⟩
theorem last_st {rs : List Rl} (G : Good rs) {w : Wd} (h3 : W3 w) : Star rs w (last rs w) := (last_star G _ w (Nat.lt_succ_self _) h3).1
theorem last_rest {rs : List Rl} (G : Good rs) {w : Wd} (h3 : W3 w) : Rest rs (last rs w) := (last_star G _ w (Nat.lt_succ_self _) h3).2
/-! ### meetings -/
def overs (r s : Rl) (n : Nat) : List (Wd × Wd × Wd) := (List.range' 1 n).filterMap fun size => if r.1.drop (r.1.length - size) = s.1.take size then some (r.1 ++ s.1.drop size, r.2 ++ s.1.drop size, r.1.take (r.1.length - size) ++ s.2) else none
def withins (r s : Rl) : List (Wd × Wd × Wd) := (List.range (r.1.length + 1 - s.1.length)).filterMap fun spot => if (r.1.take (spot + s.1.length)).drop spot = s.1 ∧ r ≠ s then some (r.1, r.2, r.1.take spot ++ s.2 ++ r.1.drop (spot + s.1.length)) else none
def meetsL (rs : List Rl) : List (Wd × Wd × Wd) := rs.flatMap fun r => rs.flatMap fun s => overs r s (min r.1.length s.1.length - 1) ++ withins r s
def meetsP (rs : List Rl) : List (Wd × Wd × Wd) := rs.flatMap fun r => rs.flatMap fun s => overs r s (min r.1.length s.1.length) ++ withins r s
theorem mem_overs {r s : Rl} {n : Nat} {t : Wd × Wd × Wd} (hn : n ≤ min r.1.length s.1.length) : t ∈ overs r s n ↔ ∃ x y z, r.1 = x ++ y ∧ s.1 = y ++ z ∧ 1 ≤ y.length ∧ y.length ≤ n ∧ t = (x ++ y ++ z, r.2 ++ z, x ++ s.2) := by
  unfold overs
  rw [List.mem_filterMap]
  constructor
  · rintro ⟨k, hk, h⟩
    rw [List.mem_range'_1] at hk
    split at h
    · rename_i e
      injection h with h
      subst h
      refine ⟨r.1.take (r.1.length - k), r.1.drop (r.1.length - k), s.1.drop k, (List.take_append_drop _ _).symm, by rw [e, List.take_append_drop], by rw [List.length_drop]; omega, by rw [List.length_drop]; omega, ?_⟩
      rw [List.take_append_drop]
    · cases h
  · rintro ⟨x, y, z, e1, e2, h1, h2, rfl⟩
    refine ⟨y.length, by rw [List.mem_range'_1]; omega, ?_⟩
    have l : r.1.length - y.length = x.length := by rw [e1, List.length_append]; omega
    rw [l, e1, e2, List.drop_left, List.take_left, if_pos rfl, List.drop_left, List.take_left]
theorem mem_withins {r s : Rl} {t : Wd × Wd × Wd} : t ∈ withins r s ↔ r ≠ s ∧ ∃ x y, r.1 = x ++ s.1 ++ y ∧ t = (r.1, r.2, x ++ s.2 ++ y) := by
  unfold withins
  rw [List.mem_filterMap]
  constructor
  · rintro ⟨k, hk, h⟩
    rw [List.mem_range] at hk
    split at h
    · rename_i e
      injection h with h
      subst h
      refine ⟨e.2, ?_⟩
      obtain ⟨a, b, e1, e2⟩ := (hit_iff (w := r.1) (r := s) (by omega)).mp (decide_eq_true e.1)
      refine ⟨a, b, e2, ?_⟩
      rw [e2, ← e1]
      have h1 : (a ++ s.1 ++ b).take a.length = a := by rw [List.append_assoc, List.take_left]
      have h2 : (a ++ s.1 ++ b).drop (a.length + s.1.length) = b := by rw [← List.length_append, List.drop_left]
      rw [h1, h2]
    · cases h
  · rintro ⟨n, x, y, e, rfl⟩
    refine ⟨x.length, by rw [List.mem_range, e]; simp only [List.length_append]; omega, ?_⟩
    have hh := (hit_iff (w := r.1) (r := s) (spot := x.length) (by rw [e]; simp only [List.length_append]; omega)).mpr ⟨x, y, rfl, e⟩
    unfold hit at hh
    rw [if_pos ⟨of_decide_eq_true hh, n⟩, e]
    have h1 : (x ++ s.1 ++ y).take x.length = x := by rw [List.append_assoc, List.take_left]
    have h2 : (x ++ s.1 ++ y).drop (x.length + s.1.length) = y := by rw [← List.length_append, List.drop_left]
    rw [h1, h2]
theorem mem_meetsL {rs : List Rl} {w u v : Wd} : (w, u, v) ∈ meetsL rs ↔ Meet rs w u v := by
  unfold meetsL
  simp only [List.mem_flatMap, List.mem_append]
  constructor
  · rintro ⟨r, hr, s, hs, h | h⟩
    · obtain ⟨x, y, z, e1, e2, h1, h2, e⟩ := (mem_overs (by omega)).mp h
      injection e with a1 a2
      injection a2 with a2 a3
      subst a1 a2 a3
      rw [e1, e2] at h2
      simp only [List.length_append] at h2
      refine Meet.over x y z r s hr hs e1 e2 ?_ ?_ ?_ <;> · intro h0; have := congrArg List.length h0; simp only [List.length_nil] at this; omega
    · obtain ⟨n, x, y, e1, e⟩ := mem_withins.mp h
      injection e with a1 a2
      injection a2 with a2 a3
      subst a1 a2 a3
      exact Meet.within x y r s hr hs e1 n
  · intro h
    cases h with
    | over x y z r s hr hs e1 e2 hx hy hz =>
      refine ⟨r, hr, s, hs, .inl ((mem_overs (by omega)).mpr ⟨x, y, z, e1, e2, ?_, ?_, rfl⟩)⟩
      · have : y.length ≠ 0 := fun z => hy (List.length_eq_zero_iff.mp z)
        omega
      · have h1 : x.length ≠ 0 := fun z => hx (List.length_eq_zero_iff.mp z)
        have h2 : z.length ≠ 0 := fun y => hz (List.length_eq_zero_iff.mp y)
        rw [e1, e2]
        simp only [List.length_append]
        omega
    | within x y r s hr hs e n => exact ⟨r, hr, s, hs, .inr (mem_withins.mpr ⟨n, x, y, e, rfl⟩)⟩
theorem mem_meetsP {rs : List Rl} {w u v : Wd} (h : (w, u, v) ∈ meetsP rs) : Meet rs w u v ∨ Meet rs w v u ∨ u = v := by
  unfold meetsP at h
  simp only [List.mem_flatMap, List.mem_append] at h
  obtain ⟨r, hr, s, hs, h | h⟩ := h
  · obtain ⟨x, y, z, e1, e2, h1, h2, e⟩ := (mem_overs (by omega)).mp h
    injection e with a1 a2
    injection a2 with a2 a3
    subst a1 a2 a3
    have hy : y ≠ [] := fun z => by rw [z] at h1; simp at h1
    by_cases hx : x = []
    · subst hx
      simp only [List.nil_append] at e1 ⊢
      by_cases n : s = r
      · subst n
        right; right
        have l := congrArg List.length e2
        rw [e1, List.length_append] at l
        have hz : z = [] := List.length_eq_zero_iff.mp (by omega)
        rw [hz, List.append_nil]
      · right; left
        have := Meet.within (rs := rs) [] z s r hs hr (by rw [e2, e1]; rfl) n
        rw [e2] at this
        exact this
    · by_cases hz : z = []
      · subst hz
        simp only [List.append_nil] at e2 ⊢
        by_cases n : r = s
        · subst n
          exfalso
          have l := congrArg List.length e1
          rw [e2, List.length_append] at l
          exact hx (List.length_eq_zero_iff.mp (by omega))
        · left
          have := Meet.within (rs := rs) x [] r s hr hs (by rw [e1, e2, List.append_nil]) n
          rw [List.append_nil, e1] at this
          exact this
      · exact .inl (.over x y z r s hr hs e1 e2 hx hy hz)
  · obtain ⟨n, x, y, e1, e⟩ := mem_withins.mp h
    injection e with a1 a2
    injection a2 with a2 a3
    subst a1 a2 a3
    exact .inl (.within x y r s hr hs e1 n)
theorem overs_mono {r s : Rl} {n m : Nat} (h : n ≤ m) {t : Wd × Wd × Wd} (ht : t ∈ overs r s n) : t ∈ overs r s m := by
  unfold overs at ht ⊢
  rw [List.mem_filterMap] at ht ⊢
  obtain ⟨k, hk, e⟩ := ht
  rw [List.mem_range'_1] at hk
  exact ⟨k, by rw [List.mem_range'_1]; omega, e⟩
theorem meetsL_P {rs : List Rl} {t : Wd × Wd × Wd} (h : t ∈ meetsL rs) : t ∈ meetsP rs := by
  unfold meetsL at h
  unfold meetsP
  simp only [List.mem_flatMap, List.mem_append] at h ⊢
  obtain ⟨r, hr, s, hs, h⟩ := h
  exact ⟨r, hr, s, hs, h.imp_left (overs_mono (by omega))⟩
/-- two words, the nearer first -/
def ord2 (a b : Wd) : Wd × Wd := if Near b a then (b, a) else (a, b)
theorem Near.asym {a b : Wd} (h : Near a b) : ¬ Near b a := by
  unfold Near at *
  rcases h with h | ⟨h, h'⟩
  · rintro (z | ⟨z, _⟩) <;> omega
  · rintro (z | ⟨_, z⟩)
    · omega
    · exact List.lt_asymm h' z
theorem ord2_comm (a b : Wd) : ord2 a b = ord2 b a := by
  unfold ord2
  by_cases h : Near b a
  · rw [if_pos h, if_neg h.asym]
  · by_cases h' : Near a b
    · rw [if_neg h, if_pos h']
    · rw [if_neg h, if_neg h', near_tri h h']
def partOf (rs : List Rl) (t : Wd × Wd × Wd) : Option (Wd × Wd × Wd) := if last rs t.2.1 = last rs t.2.2 then none else some (t.1, ord2 (last rs t.2.1) (last rs t.2.2))
theorem part_PL {rs : List Rl} {p : Wd × Wd × Wd} : p ∈ (meetsP rs).filterMap (partOf rs) ↔ p ∈ (meetsL rs).filterMap (partOf rs) := by
  rw [List.mem_filterMap, List.mem_filterMap]
  constructor
  · rintro ⟨⟨w, u, v⟩, h, e⟩
    rcases mem_meetsP h with m | m | m
    · exact ⟨_, mem_meetsL.mpr m, e⟩
    · refine ⟨_, mem_meetsL.mpr m, ?_⟩
      unfold partOf at e ⊢
      dsimp only at e ⊢
      by_cases h : last rs u = last rs v
      · rw [if_pos h] at e; cases e
      · rw [if_neg h] at e
        rw [if_neg fun z => h z.symm, ord2_comm]
        exact e
    · subst m
      unfold partOf at e
      rw [if_pos rfl] at e
      cases e
  · rintro ⟨t, h, e⟩
    exact ⟨t, meetsL_P h, e⟩
/-- rules no meeting of which is parted are sure -/
theorem sure {rs : List Rl} (G : Good rs) (h : (meetsL rs).filterMap (partOf rs) = []) (w u v : Wd) (m : Meet rs w u v) : Join rs u v := by
  have h3 : W3 w := by
    cases m with
    | over x y z r s hr hs e1 e2 _ _ _ =>
      have a := G.l3 r hr
      have b := G.l3 s hs
      rw [e1] at a
      rw [e2] at b
      rw [W3.app] at a b ⊢
      exact ⟨W3.app.mpr a, b.2⟩
    | within x y r s hr hs e n => exact G.l3 r hr
  have hu := m.steps.1.w3 G h3
  have hv := m.steps.2.w3 G h3
  have e : last rs u = last rs v := by
    apply Classical.byContradiction
    intro z
    have : (w, ord2 (last rs u) (last rs v)) ∈ (meetsL rs).filterMap (partOf rs) := List.mem_filterMap.mpr ⟨_, mem_meetsL.mpr m, by simp [partOf, z]⟩
    rw [h] at this
    cases this
  exact ⟨last rs u, last_st G hu, e ▸ last_st G hv⟩
theorem meet_w3 {rs : List Rl} (G : Good rs) {w u v : Wd} (m : Meet rs w u v) : W3 w := by
  cases m with
  | over x y z r s hr hs e1 e2 _ _ _ =>
    have a := G.l3 r hr
    have b := G.l3 s hs
    rw [e1] at a
    rw [e2] at b
    rw [W3.app] at a b ⊢
    exact ⟨W3.app.mpr a, b.2⟩
  | within x y r s hr hs e n => exact G.l3 r hr
/-- what is parted: two ends of one word -/
theorem part_ends {rs : List Rl} (G : Good rs) {w a b : Wd} (h : (w, a, b) ∈ (meetsL rs).filterMap (partOf rs)) : W3 w ∧ a ≠ b ∧ Star rs w a ∧ Star rs w b ∧ Rest rs a ∧ Rest rs b ∧ ∃ u v, Meet rs w u v := by
  rw [List.mem_filterMap] at h
  obtain ⟨⟨w', u, v⟩, hm, e⟩ := h
  have m := mem_meetsL.mp hm
  have h3 := meet_w3 G m
  have hu := m.steps.1.w3 G h3
  have hv := m.steps.2.w3 G h3
  unfold partOf at e
  dsimp only at e
  split at e
  · cases e
  · rename_i n
    injection e with e
    injection e with e1 e2
    subst e1
    have s1 := Star.head m.steps.1 (last_st G hu)
    have s2 := Star.head m.steps.2 (last_st G hv)
    have r1 := last_rest G hu
    have r2 := last_rest G hv
    unfold ord2 at e2
    split at e2
    · injection e2 with e2 e3
      subst e2 e3
      exact ⟨h3, fun z => n z.symm, s2, s1, r2, r1, _, _, m⟩
    · injection e2 with e2 e3
      subst e2 e3
      exact ⟨h3, n, s1, s2, r1, r2, _, _, m⟩
end Rw
end
set_option maxRecDepth 100000 in
local macro_rules
  | `(tactic| simp! only [$ts,*]) => `(tactic| simp -implicitDefEqProofs only [Dw.wp_vb2, Dw.opA_slot, Dw.opA_lam, Dw.opA_lit, Dw.opA_gfn, Dw.opA_gcon, Dw.opA_bin, Dw.opA_neg, Dw.opA_cmp, Dw.opA_chn, Dw.opA_tup, Dw.opA_lst, Dw.opA_dct, Dw.opA_idx, Dw.opA_slc, Dw.opA_rev, Dw.opA_bi, Dw.opA_lstIt, Dw.opA_tupIt, Dw.opA_dctIt, Dw.opA_mth, Dw.opA_mut, Dw.opA_call, Dw.opA_callv, Dw.opA_make, Dw.opA_attr, Dw.opA_umth, Dw.opA_isi, Dw.opA_comp, Dw.opA_comp2, Dw.opA_dcomp, Dw.opA_srtk, Dw.opA_refuse, Dw.opA_nt, Dw.opA_and, Dw.opA_or, Dw.opA_ite, Dw.wt_lit, Dw.wt_gfn, Dw.wt_gcon, Dw.wt_bin, Dw.wt_neg, Dw.wt_cmp, Dw.wt_chn, Dw.wt_tup, Dw.wt_lst, Dw.wt_dct, Dw.wt_idx, Dw.wt_slc, Dw.wt_rev, Dw.wt_bi, Dw.wt_lstIt, Dw.wt_tupIt, Dw.wt_dctIt, Dw.wt_mth, Dw.wt_mut, Dw.wt_call, Dw.wt_callv, Dw.wt_make, Dw.wt_attr, Dw.wt_umth, Dw.wt_isi, Dw.wt_comp, Dw.wt_comp2, Dw.wt_dcomp, Dw.wt_srtk, Dw.wt_refuse, Dw.we_var, Dw.wt_var, Dw.we_lit, Dw.we_gfn, Dw.we_gcon, Dw.we_bin, Dw.we_cmp, Dw.we_chn, Dw.chnW_bl, Dw.we_nt, Dw.wt_nt, Dw.wt_and, Dw.wt_or, Dw.wt_ite, Dw.we_and, Dw.we_or, Dw.we_ite, Dw.we_tup, Dw.we_lst, Dw.we_dct, Dw.we_idx, Dw.we_slc, Dw.negW_int, Dw.we_neg, Dw.revW_lst, Dw.revW_tup, Dw.revW_str, Dw.we_rev, Dw.partM_lit, Dw.partM_non, Dw.intW_int, Dw.wp_partI, Dw.partM_gfn, Dw.partM_gcon, Dw.partM_bin, Dw.partM_neg, Dw.partM_cmp, Dw.partM_chn, Dw.partM_tup, Dw.partM_lst, Dw.partM_dct, Dw.partM_idx, Dw.partM_slc, Dw.partM_rev, Dw.partM_bi, Dw.partM_lstIt, Dw.partM_tupIt, Dw.partM_dctIt, Dw.partM_mth, Dw.partM_mut, Dw.partM_call, Dw.partM_callv, Dw.partM_make, Dw.partM_attr, Dw.partM_umth, Dw.partM_isi, Dw.partM_comp, Dw.partM_comp2, Dw.partM_dcomp, Dw.partM_srtk, Dw.partM_refuse, Dw.partM_nt, Dw.partM_and, Dw.partM_or, Dw.partM_ite, Dw.partM_var, Dw.we_bi, Dw.we_lstIt, Dw.we_tupIt, Dw.we_dctIt, Dw.we_mth, Dw.we_mut, Dw.we_call, Dw.fnW_fn, Dw.we_callv, Dw.we_refuse, Dw.we_umth, Dw.we_isi, Dw.we_comp, Dw.we_lam, Dw.we_srtk, Dw.wes_nil, Dw.wes_cons, Dw.was_nil, Dw.was_cons, Dw.wvs_nil, Dw.wvs_cons, Dw.wkv_nil, Dw.wkv_cons, Dw.wi_ex, Dw.rngW_1, Dw.rngW_2, Dw.rngW_3, Dw.wi_rng, Dw.wi_enum, Dw.keysW_own, Dw.wi_keys, Dw.zipW_2, Dw.wi_zip, Dw.wta_nil, Dw.wta_cons, Dw.ws_exp, Dw.ws_ret, Dw.retW_own, Dw.retW_frz, Dw.ws_retm, Dw.ws_retN, Dw.ws_pass, Dw.ws_bad, Dw.ws_asgN, Dw.ws_asgT, Dw.ws_par, Dw.ws_seti, Dw.augW_frz, Dw.ws_aug, Dw.ws_ite, Dw.ws_whl, Dw.ws_for, Dw.ws_raise, Dw.ws_ndef, Dw.wss_nil, Dw.go_nx, Dw.go_ret, Dw.end_nx, Dw.end_ret, Dw.wp_cmpU', Dw.get_val, Dw.get_slot, Dw.noObj_int, Dw.noObj_bl, Dw.noObj_str, Dw.noObj_tup, Dw.noObj_lst, Dw.noObj_dct, Dw.noObj_non, Dw.noObj_exc, Dw.wp_bind, Dw.wp_pure, Dw.wp_opt, Dw.wp_fail, Dw.wp_ite, Dw.wpo_some, Dw.wpo_none, Dw.wpo_if, Dw.wpo_ifn, Dw.wpo_map, Dw.getS_0, Dw.getS_s, Dw.getS_nil, Dw.slots_0, Dw.slots_s, Dw.wp_rd, Dw.rdW_frz, Dw.rdW_own, Dw.rdW_clo, Dw.rdW_lam, Dw.wp_d_val, Dw.slW_frz, Dw.slW_own, Dw.wp_d_slot, Dw.wp_ds_nil, Dw.wp_ds_cons, Dw.d_frz, Dw.d_own, Dw.wp_frzV, Dw.wp_setK, Dw.wp_asgN_nil, Dw.wp_asgN_cons, Dw.wp_asgT_name, Dw.wp_asgT_tup, Dw.wp_asgV_frz, Dw.wp_asgV_own, Dw.wp_asgVs_nil, Dw.wp_asgVs_cons, 
      Dw.wp_setAt, Dw.wp_chkOwn, Dw.wp_ownTy, Dw.okTy_append, Dw.okTy_extend, Dw.okTy_pop, Dw.okTy_insert, Dw.okTy_setdefault, Dw.okTy_update, Dw.wp_mutM, Dw.ownIx_nil, Dw.ownIx_frz, Dw.ownIx_clo, Dw.ownIx_own, Dw.wp_argV, Dw.wp_argVs_nil, Dw.wp_argVs_cons, Dw.argW_val, Dw.argW_slot, Dw.slArg_frz, Dw.slArg_own, Dw.slArg_clo, Dw.wp_goCall, Dw.lent_nil, Dw.lent_val, Dw.lent_lam, Dw.lent_slot, Dw.lentS_frz, Dw.lentS_clo, Dw.lentS_own, Dw.giveBack_nil, Dw.giveBack_none, Dw.giveBack_some, Dw.giveBack_n1, Dw.giveBack_n2, Dw.giveBack_n3, Dw.giveBack_n4, Dw.giveBack_n5, Dw.noTwice_nil, Dw.noTwice_none, Dw.noTwice_some, Dw.cont_nil, Dw.cont_none, Dw.isFO_frz, Dw.isFO_own, Dw.cw_ok, Dw.cw_err, Dw.wipe_nil, Dw.wipe_cons, Dw.cut_to, Dw.cut_from, Dw.cut_both, Dw.sl_str, Dw.sl_tup, Dw.sl_lst, Dw.sl_scr, Dw.ix_t0, Dw.ix_t1, Dw.ix_t2, Dw.ix_t3, Dw.ix_t4, Dw.ix_l0, Dw.ix_l1, Dw.ix_l2, Dw.ix_l3, Dw.ix_l4, Dw.sd_0, Dw.sd_1, Dw.sd_2, Dw.sd_3, Dw.sd_4, Dw.bd_add, Dw.bd_sub, Dw.bd_adds, Dw.bd_addt, Dw.bd_addl, Dw.bd_mul, Dw.bd_fdv, Dw.bd_mod, Dw.bd_pow, Dw.bi_len_s, Dw.bi_len_t, Dw.bi_len_l, Dw.bi_len_d, Dw.bi_int, Dw.bi_min, Dw.bi_max, Dw.bi_abs, Dw.bi_all, Dw.bi_any, Dw.bi_sorted, Dw.bi_tuple_l, Dw.bi_tuple_t, Dw.bi_list_l, Dw.bi_list_t, Dw.isd_int_int, Dw.isd_int_bool, Dw.isd_int_str, Dw.isd_int_tuple, Dw.isd_int_list, Dw.isd_int_tl, Dw.isd_bl_int, Dw.isd_bl_bool, Dw.isd_bl_str, Dw.isd_bl_tuple, Dw.isd_bl_list, Dw.isd_bl_tl, Dw.isd_str_int, Dw.isd_str_bool, Dw.isd_str_str, Dw.isd_str_tuple, Dw.isd_str_list, Dw.isd_str_tl, Dw.isd_tup_int, Dw.isd_tup_bool, Dw.isd_tup_str, Dw.isd_tup_tuple, Dw.isd_tup_list, Dw.isd_tup_tl, Dw.isd_lst_int, Dw.isd_lst_bool, Dw.isd_lst_str, Dw.isd_lst_tuple, Dw.isd_lst_list, Dw.isd_lst_tl, Dw.isd_non_int, Dw.isd_non_bool, Dw.isd_non_str, Dw.isd_non_tuple, Dw.isd_non_list, Dw.isd_non_tl, Dw.isd_dct_int, Dw.isd_dct_bool, Dw.isd_dct_str, Dw.isd_dct_tuple, Dw.isd_dct_list, Dw.isd_dct_tl, Dw.isd_exc_int, Dw.isd_exc_bool, Dw.isd_exc_str, Dw.isd_exc_tuple, Dw.isd_exc_list, Dw.isd_exc_tl, Dw.in_str, Dw.bi_all', Dw.bi_any', Dw.it_tup, Dw.it_lst, Dw.it_str, Dw.sq_tup, Dw.sq_lst, Dw.zi_tup, Dw.zi_lst, Dw.tru_bl, Dw.tru_int, Dw.tru_str, Dw.tru_lst, Dw.tru_tup, Dw.tru_non, Dw.cd_lt, Dw.cd_gt, Dw.cd_le, Dw.cd_ge, Dw.cd_eqi, Dw.cd_nei, Dw.cd_eqs, Dw.cd_nes, Dw.cd_eqb, Dw.cd_neb, Dw.cd_lts, Dw.cd_is, Dw.cd_isn, Dw.cd_inn, Dw.cd_nin, Dw.non_non, Dw.non_tup, Dw.non_lst, Dw.non_str, Dw.non_int, Dw.non_bl, Dw.mt_append, Dw.mt_extend, Dw.mt_pop, Dw.dep_str, Dw.dep_int, Dw.dep_bl, Dw.dep_non, Dw.dep_tup, Dw.dep_lst, Dw.depL_nil, Dw.depL_cons, Bool.and_true, Bool.true_and, Bool.and_self, Bool.not_true, Bool.not_false, true_and, and_true, List.length_cons, List.length_nil, List.set_cons_zero, List.set_cons_succ, Option.isSome_some, not_false_eq_true, List.map_cons, List.map_nil, List.append_nil, if_true, if_false, Bool.false_eq_true, ite_true, ite_false, Nat.reduceAdd, Nat.reduceSub, Nat.reduceLT, reduceCtorEq, Nat.reduceBEq, false_or, or_self, List.mem_cons, List.not_mem_nil, 
      or_false, Nat.reduceEqDiff, List.replicate, List.cons_append, List.nil_append, $ts,*])
section
set_option linter.all false
/-! G1: what the laws' own small functions do: draw, some, hand, is, drawn words. -/
namespace Dw
open Dp
abbrev NoE : Nat → List (Option Vl) → Prop := fun _ _ => False
abbrev Is (x : Vl) : Vl → List (Option Vl) → Prop := fun v _ => v = x
def drawDef : Def := ⟨2, 5,
  (.cons (.ite (.and (.cmp .eq (.idx (.var 0) (.lit (.int 2))) (.lit (.int 0))) (.cmp .lt (.idx (.var 0) (.lit (.int 1))) (.bi .len (.cons (.idx (.var 0) (.lit (.int 0))) .nil))))
  (.cons (.asg (.name 2) (.idx (.idx (.var 0) (.lit (.int 0))) (.idx (.var 0) (.lit (.int 1)))))
  (.cons (.seti 0 (.lit (.int 1)) (.bin .add (.idx (.var 0) (.lit (.int 1))) (.lit (.int 1))))
  (.cons (.seti 0 (.lit (.int 3)) (.bin .mod (.bi .int (.cons (.bin .add (.bin .add (.bin .mul (.idx (.var 0) (.lit (.int 3))) (.lit (.int 69621))) (.var 2)) (.lit (.int 43))) .nil)) (.lit (.int 2147483629))))
  (.cons (.ite (.cmp .ge (.var 2) (.bin .pow (.lit (.int 10)) (.lit (.int 18))))
  (.cons (.seti 0 (.lit (.int 2)) (.var 2))
  .nil)
  .nil)
  .nil))))
  .nil)
  (.cons (.ite (.cmp .gt (.idx (.var 0) (.lit (.int 2))) (.lit (.int 0)))
  (.cons (.asg (.name 3) (.bin .mod (.bi .int (.cons (.idx (.var 0) (.lit (.int 2))) .nil)) (.var 1)))
  (.cons (.seti 0 (.lit (.int 2)) (.bin .fdv (.idx (.var 0) (.lit (.int 2))) (.var 1)))
  (.cons (.retm 3)
  .nil)))
  .nil)
  (.cons (.seti 0 (.lit (.int 4)) (.bin .add (.idx (.var 0) (.lit (.int 4))) (.lit (.int 1))))
  (.cons (.asg (.name 4) (.bin .mod (.bi .int (.cons (.bin .mul (.bi .int (.cons (.bin .add (.idx (.var 0) (.lit (.int 3))) (.bin .mul (.lit (.int 7919)) (.idx (.var 0) (.lit (.int 4))))) .nil)) (.lit (.int 48271))) .nil)) (.lit (.int 2147483647))))
  (.cons (.asg (.name 4) (.bin .mod (.bi .int (.cons (.bin .mul (.var 4) (.bin .add (.bin .fdv (.var 4) (.lit (.int 1009))) (.lit (.int 69621)))) .nil)) (.lit (.int 2147483647))))
  (.cons (.asg (.name 4) (.bin .mod (.bi .int (.cons (.bin .mul (.var 4) (.bin .add (.bin .fdv (.var 4) (.lit (.int 2003))) (.lit (.int 40692)))) .nil)) (.lit (.int 2147483399))))
  (.cons (.ret (.bin .mod (.bi .int (.cons (.bin .fdv (.var 4) (.lit (.int 16))) .nil)) (.var 1)))
  .nil)))))))⟩
def HandOk (d : D) : Prop := ∃ (cells : List Int) (p q r s : Int), d = .lst [.lst (cells.map .int), .int p, .int q, .int r, .int s] ∧ (∀ c ∈ cells, 0 ≤ c) ∧ 0 ≤ p ∧ 0 ≤ q
theorem g_draw2 {Pr : Prog} {k : Nat} {n : Int} (hn : 0 < n) (hn2 : n < 2 ^ 64) {A2 : Option Vl} {cells : List Int} {p q r s : Int} (hc : ∀ c ∈ cells, 0 ≤ c) (hp : 0 ≤ p) (hq : 0 ≤ q) {Q : Fl → Env → Prop} {E : Nat → Env → Prop}
    (hQ : ∀ (j : Nat) h' ρ, (j : Int) < n → HandOk h' → slots 2 ρ = [some (.own h'), some (.frz (.int n))] → Q (.ret (.frz (.int j))) ρ) :
    WP (evSs Pr (callF Pr k) [0] (.cons (.ite (.cmp .gt (.idx (.var 0) (.lit (.int 2))) (.lit (.int 0)))
  (.cons (.asg (.name 3) (.bin .mod (.bi .int (.cons (.idx (.var 0) (.lit (.int 2))) .nil)) (.var 1)))
  (.cons (.seti 0 (.lit (.int 2)) (.bin .fdv (.idx (.var 0) (.lit (.int 2))) (.var 1)))
  (.cons (.retm 3)
  .nil)))
  .nil)
  (.cons (.seti 0 (.lit (.int 4)) (.bin .add (.idx (.var 0) (.lit (.int 4))) (.lit (.int 1))))
  (.cons (.asg (.name 4) (.bin .mod (.bi .int (.cons (.bin .mul (.bi .int (.cons (.bin .add (.idx (.var 0) (.lit (.int 3))) (.bin .mul (.lit (.int 7919)) (.idx (.var 0) (.lit (.int 4))))) .nil)) (.lit (.int 48271))) .nil)) (.lit (.int 2147483647))))
  (.cons (.asg (.name 4) (.bin .mod (.bi .int (.cons (.bin .mul (.var 4) (.bin .add (.bin .fdv (.var 4) (.lit (.int 1009))) (.lit (.int 69621)))) .nil)) (.lit (.int 2147483647))))
  (.cons (.asg (.name 4) (.bin .mod (.bi .int (.cons (.bin .mul (.var 4) (.bin .add (.bin .fdv (.var 4) (.lit (.int 2003))) (.lit (.int 40692)))) .nil)) (.lit (.int 2147483399))))
  (.cons (.ret (.bin .mod (.bi .int (.cons (.bin .fdv (.var 4) (.lit (.int 16))) .nil)) (.var 1)))
  .nil)))))) ) Q E [some (.own (.lst [.lst (cells.map .int), .int p, .int q, .int r, .int s])), some (.frz (.int n)), A2, none, none] := by
  simp! only [wss_cons]
  by_cases h : 0 < q
  · simp! only [decide_eq_true h, wss_cons]
    refine ⟨hn, ⟨hn, hn2⟩, ?_⟩
    have h1 := Int.emod_nonneg q (show n ≠ 0 by omega)
    have h2 := Int.emod_lt_of_pos q hn
    have h3 : 0 ≤ q / n := Int.ediv_nonneg hq (by omega)
    obtain ⟨j, hj⟩ := Int.eq_ofNat_of_zero_le h1
    rw [hj] at h2 ⊢
    exact hQ j _ _ h2 ⟨cells, p, q / n, r, s, rfl, hc, hp, h3⟩ rfl
  · simp! only [decide_eq_false h, wss_cons]
    refine ⟨.inl (by decide), .inr (by decide), by decide, by decide, ?_⟩
    generalize ha : (r + 7919 * (s + 1)) * 48271 % 2147483647 = a
    have a1 : 0 ≤ a := by rw [← ha]; exact Int.emod_nonneg _ (by decide)
    have a2 : a < 2147483647 := by rw [← ha]; exact Int.emod_lt_of_pos _ (by decide)
    refine ⟨.inl (by omega), by decide, by decide, ?_⟩
    generalize hb : a * (a / 1009 + 69621) % 2147483647 = b
    have b1 : 0 ≤ b := by rw [← hb]; exact Int.emod_nonneg _ (by decide)
    have b2 : b < 2147483647 := by rw [← hb]; exact Int.emod_lt_of_pos _ (by decide)
    refine ⟨.inl (by omega), by decide, by decide, hn, ?_⟩
    generalize b * (b / 2003 + 40692) % 2147483399 = d
    generalize d / 16 = c
    have h1 := Int.emod_nonneg c (show n ≠ 0 by omega)
    have h2 := Int.emod_lt_of_pos c hn
    obtain ⟨j, hj⟩ := Int.eq_ofNat_of_zero_le h1
    rw [hj] at h2 ⊢
    exact hQ j _ _ h2 ⟨cells, p, q, r, s + 1, rfl, hc, hp, hq⟩ rfl
theorem g_draw {Pr : Prog} {i k : Nat} (hd : Pr.defs[i]? = some drawDef) {h : D} {n : Int} (H : HandOk h) (hn : 0 < n) (hn2 : n < 2 ^ 64) : CW (callF Pr (k + 1) (.fn i) [.own h, .frz (.int n)]) (fun v ps => ∃ (j : Nat) (h' : D), v = .frz (.int j) ∧ (j : Int) < n ∧ HandOk h' ∧ ps = [some (.own h'), some (.frz (.int n))]) NoE := by
  obtain ⟨cells, p, q, r, s, rfl, hc, hp, hq⟩ := H
  refine cw_fn hd rfl ?_
  unfold drawDef
  rw [wss_cons]
  simp! only [true_and]
  by_cases h0 : q = 0
  · subst h0
    simp! only [beq_self_eq_true, List.length_map]
    by_cases h1 : p < cells.length
    · obtain ⟨m, rfl⟩ := Int.eq_ofNat_of_zero_le hp
      have h2 : m < cells.length := by omega
      have hcm := hc _ (List.getElem_mem h2)
      have hix : idxD (.lst (cells.map .int)) (.int (m : Int)) = some (.int cells[m]) := ix_l (by rw [List.getElem?_map, List.getElem?_eq_getElem h2]; rfl)
      simp! only [decide_eq_true h1]
      rw [wss_cons]
      simp! only [hix]
      rw [wss_cons]
      simp! only [true_and]
      rw [wss_cons]
      simp! only [true_and]
      refine ⟨.inr (by decide), by decide, ?_⟩
      rw [wss_cons]
      simp! only [true_and]
      refine ⟨by decide, ?_⟩
      by_cases h3 : (10 : Int) ^ (18 : Int).toNat ≤ cells[m]
      · simp! only [decide_eq_true h3]
        rw [wss_cons]
        simp! only [true_and]
        refine g_draw2 hn hn2 hc (by omega) hcm fun j h' ρ a b c => ?_
        simp! only [wss_cons]
        rw [c]
        exact ⟨j, h', rfl, a, b, rfl⟩
      · simp! only [decide_eq_false h3]
        refine g_draw2 hn hn2 hc (by omega) (by omega) fun j h' ρ a b c => ?_
        simp! only [wss_cons]
        rw [c]
        exact ⟨j, h', rfl, a, b, rfl⟩
    · simp! only [decide_eq_false h1]
      refine g_draw2 hn hn2 hc hp (by omega) fun j h' ρ a b c => ?_
      simp! only [wss_cons]
      rw [c]
      exact ⟨j, h', rfl, a, b, rfl⟩
  · have h0' : (q == 0) = false := by rw [beq_eq_false_iff_ne]; exact h0
    simp! only [h0']
    refine g_draw2 hn hn2 hc hp hq fun j h' ρ a b c => ?_
    simp! only [wss_cons]
    rw [c]
    exact ⟨j, h', rfl, a, b, rfl⟩
end Dw
end
section
set_option linter.all false
namespace Dw
open Dp
def someDef (i : Nat) : Def := ⟨2, 2,
  (.cons (.ret (.idx (.var 1) (.call i (.cons (.var 0) (.cons (.bi .len (.cons (.var 1) .nil)) .nil)))))
  .nil)⟩
theorem g_some_s {Pr : Prog} {i j k : Nat} (hd : Pr.defs[i]? = some drawDef) (hs : Pr.defs[j]? = some (someDef i)) {h : D} {L : List Nat} (H : HandOk h) (hL : 0 < L.length) (hL2 : L.length < 2 ^ 63) : CW (callF Pr (k + 2) (.fn j) [.own h, .frz (.str L)]) (fun v ps => ∃ (c : Nat) (h' : D), v = .frz (.str [c]) ∧ c ∈ L ∧ HandOk h' ∧ ps = [some (.own h'), some (.frz (.str L))]) NoE := by
  refine cw_fn hs rfl ?_
  unfold someDef
  simp! only [wss_cons]
  refine cw_mono (g_draw (n := (L.length : Int)) hd H (by omega) (by omega)) (fun v ps z => ?_) fun _ _ h => h
  obtain ⟨m, h', rfl, h1, h2, rfl⟩ := z
  have hm : m < L.length := by omega
  simp! only [ix_s (List.getElem?_eq_getElem hm), wss_cons]
  exact ⟨L[m], h', rfl, List.getElem_mem hm, h2, rfl⟩
theorem g_some_l {Pr : Prog} {i j k : Nat} (hd : Pr.defs[i]? = some drawDef) (hs : Pr.defs[j]? = some (someDef i)) {h : D} {L : List D} (H : HandOk h) (hL : 0 < L.length) (hL2 : L.length < 2 ^ 63) : CW (callF Pr (k + 2) (.fn j) [.own h, .frz (.lst L)]) (fun v ps => ∃ (c : D) (h' : D), v = .frz c ∧ c ∈ L ∧ HandOk h' ∧ ps = [some (.own h'), some (.frz (.lst L))]) NoE := by
  refine cw_fn hs rfl ?_
  unfold someDef
  simp! only [wss_cons]
  refine cw_mono (g_draw (n := (L.length : Int)) hd H (by omega) (by omega)) (fun v ps z => ?_) fun _ _ h => h
  obtain ⟨m, h', rfl, h1, h2, rfl⟩ := z
  have hm : m < L.length := by omega
  simp! only [ix_l (List.getElem?_eq_getElem hm), wss_cons]
  exact ⟨L[m], h', rfl, List.getElem_mem hm, h2, rfl⟩
/-! ### the hand -/
def handDef : Def := ⟨1, 3,
  (.cons (.asg (.name 1) (.comp [2] (.bi .abs (.cons (.bi .int (.cons (.var 2) .nil)) .nil)) (.name 2) (.ex (.slc (.var 0) (.lit .non) (.lit (.int 63)))) .nil))
  (.cons (.ret (.lst (.cons (.var 1) (.cons (.lit (.int 0)) (.cons (.lit (.int 0)) (.cons (.bin .add (.lit (.int 389)) (.bin .mul (.lit (.int 3)) (.bi .len (.cons (.var 1) .nil)))) (.cons (.lit (.int 0)) .nil)))))))
  .nil))⟩
theorem g_hand {Pr : Prog} {j k : Nat} (hs : Pr.defs[j]? = some handDef) {ns : List Int} (hn : ns.length ≤ 63) : CW (callF Pr (k + 1) (.fn j) [.frz (.scr (ns.map .int))]) (fun v ps => ∃ h, v = .own h ∧ HandOk h) NoE := by
  refine cw_fn hs rfl ?_
  unfold handDef
  rw [wss_cons]
  simp! only [true_and]
  rw [show (63 : Int) = ((63 : Nat) : Int) from rfl, cut_to, List.take_of_length_le (by simpa using hn)]
  refine wp_compM D.int (fun i => .int (if i < 0 then -i else i)) rfl (by simp only [LIM]; omega) ?_ ?_
  · intro x hx
    simp! only [wss_cons]
  · simp! only [wss_cons]
    refine ⟨.inl (by decide), _, rfl, ns.map (fun i => if i < 0 then -i else i), 0, 0, _, 0, by simp only [List.map_map]; rfl, ?_, by omega, by omega⟩
    intro c hc
    obtain ⟨x, _, rfl⟩ := List.mem_map.mp hc
    split <;> omega
/-! ### the same, kind by kind -/
mutual
def isN : D → Bool
  | .non => true
  | .bl _ => true
  | .int _ => true
  | .str _ => true
  | .tup l => isNL l
  | .lst l => isNL l
  | _ => false
def isNL : List D → Bool
  | [] => true
  | x :: r => isN x && isNL r
end
theorem isNL_mem {l : List D} (h : isNL l = true) : ∀ x ∈ l, isN x = true := by
  induction l with
  | nil => intro x hx; cases hx
  | cons y r ih =>
    simp only [isNL, Bool.and_eq_true] at h
    intro x hx
    rcases List.mem_cons.mp hx with rfl | z
    · exact h.1
    · exact ih h.2 x z
theorem dep_mem {l : List D} {n : Nat} (h : depL l ≤ n) : ∀ x ∈ l, dep x ≤ n := by
  induction l with
  | nil => intro x hx; cases hx
  | cons y r ih =>
    rw [depL_cons] at h
    intro x hx
    rcases List.mem_cons.mp hx with rfl | z
    · omega
    · exact ih (by omega) x z
theorem zipD_self : ∀ l : List D, zipD l l = l.map fun x => .tup [x, x]
  | [] => rfl
  | x :: r => by
    rw [List.map_cons, ← zipD_self r]
    rfl
def isDef (i : Nat) : Def := ⟨2, 4,
  (.cons (.ite (.isi (.var 1) [.tuple, .list])
  (.cons (.ite (.or (.cmp .ne (.isi (.var 0) [.tuple]) (.isi (.var 1) [.tuple])) (.cmp .ne (.isi (.var 0) [.list]) (.isi (.var 1) [.list])))
  (.cons (.ret (.lit (.bl false)))
  .nil)
  .nil)
  (.cons (.ret (.and (.cmp .eq (.bi .len (.cons (.var 0) .nil)) (.bi .len (.cons (.var 1) .nil))) (.bi .all (.cons (.comp [2, 3] (.call i (.cons (.var 2) (.cons (.var 3) .nil))) (.tup [2, 3]) (.zip (.cons (.var 0) (.cons (.var 1) .nil))) .nil) .nil))))
  .nil))
  .nil)
  (.cons (.ite (.or (.cmp .is (.var 1) (.lit .non)) (.cmp .is (.var 0) (.lit .non)))
  (.cons (.ret (.and (.cmp .is (.var 1) (.lit .non)) (.cmp .is (.var 0) (.lit .non))))
  .nil)
  .nil)
  (.cons (.ite (.or (.cmp .ne (.isi (.var 0) [.bool]) (.isi (.var 1) [.bool])) (.cmp .ne (.isi (.var 0) [.int]) (.isi (.var 1) [.int])))
  (.cons (.ret (.lit (.bl false)))
  .nil)
  .nil)
  (.cons (.ret (.and (.cmp .eq (.isi (.var 0) [.str]) (.isi (.var 1) [.str])) (.cmp .eq (.var 0) (.var 1))))
  .nil))))⟩
theorem all_true {τ : Type} (l : List τ) : l.all (fun _ => true) = true := List.all_eq_true.mpr fun _ _ => rfl
theorem noObj_isN {d : D} (h : isN d = true) : noObj d = true := by
  cases d <;> first | rfl | (simp [isN] at h)
theorem g_is {Pr : Prog} {i : Nat} (hs : Pr.defs[i]? = some (isDef i)) : ∀ (m k : Nat) (d : D), isN d = true → dep d ≤ m → depL [d] ≤ 1000 → (∀ l, (d = .tup l ∨ d = .lst l) → l.length ≤ 1000) → True := fun _ _ _ _ _ _ _ => trivial
mutual
def lenOk : D → Bool
  | .tup l => decide (l.length ≤ LIM) && lenOkL l
  | .lst l => decide (l.length ≤ LIM) && lenOkL l
  | _ => true
def lenOkL : List D → Bool
  | [] => true
  | x :: r => lenOk x && lenOkL r
end
theorem lenOk_mem {l : List D} (h : lenOkL l = true) : ∀ x ∈ l, lenOk x = true := by
  induction l with
  | nil => intro x hx; cases hx
  | cons y r ih =>
    simp only [lenOkL, Bool.and_eq_true] at h
    intro x hx
    rcases List.mem_cons.mp hx with rfl | z
    · exact h.1
    · exact ih h.2 x z
theorem g_isD {Pr : Prog} {i : Nat} (hs : Pr.defs[i]? = some (isDef i)) : ∀ (m k : Nat) (d : D), isN d = true → lenOk d = true → dep d ≤ m → CW (callF Pr (k + m + 1) (.fn i) [.frz d, .frz d]) (Is (.frz (.bl true))) NoE := by
  intro m
  induction m with
  | zero =>
    intro k d h hl hd
    refine cw_fn hs rfl ?_
    unfold isDef
    cases d with
    | tup l => simp [dep] at hd
    | lst l => simp [dep] at hd
    | non => simp! only [wss_cons]
    | bl b => simp! only [beq_self_eq_true, wss_cons]
    | int b => simp! only [beq_self_eq_true, wss_cons]
    | str b => simp! only [beq_self_eq_true, wss_cons]
    | _ => simp [isN] at h
  | succ m ih =>
    intro k d h hl hd
    refine cw_fn hs rfl ?_
    unfold isDef
    cases d with
    | non => simp! only [wss_cons]
    | bl b => simp! only [beq_self_eq_true, wss_cons]
    | int b => simp! only [beq_self_eq_true, wss_cons]
    | str b => simp! only [beq_self_eq_true, wss_cons]
    | tup l =>
      simp only [isN] at h
      simp only [dep] at hd
      simp only [lenOk, Bool.and_eq_true, decide_eq_true_eq] at hl
      simp! only [beq_self_eq_true, zipD_self, wss_cons]
      refine wp_compM (fun x => D.tup [x, x]) (fun _ => D.bl true) rfl hl.1 (fun x hx => ?_) ?_
      · simp! only [wss_cons]
        refine cw_mono (ih k x (isNL_mem h x hx) (lenOk_mem hl.2 x hx) (dep_mem (by omega) x hx)) (fun v _ z => ?_) fun _ _ h => h
        subst z
        simp! only [wss_cons]
      · rw [show (fun (_ : D) => D.bl true) = fun r => D.bl ((fun _ => true) r) from rfl]
        simp! only [all_true, wss_cons]
    | lst l =>
      simp only [isN] at h
      simp only [dep] at hd
      simp only [lenOk, Bool.and_eq_true, decide_eq_true_eq] at hl
      simp! only [beq_self_eq_true, zipD_self, wss_cons]
      refine wp_compM (fun x => D.tup [x, x]) (fun _ => D.bl true) rfl hl.1 (fun x hx => ?_) ?_
      · simp! only [wss_cons]
        refine cw_mono (ih k x (isNL_mem h x hx) (lenOk_mem hl.2 x hx) (dep_mem (by omega) x hx)) (fun v _ z => ?_) fun _ _ h => h
        subst z
        simp! only [wss_cons]
      · rw [show (fun (_ : D) => D.bl true) = fun r => D.bl ((fun _ => true) r) from rfl]
        simp! only [all_true, wss_cons]
    | _ => simp [isN] at h
/-- .. of a list of one's own -/
theorem g_isO {Pr : Prog} {i : Nat} (hs : Pr.defs[i]? = some (isDef i)) (m k : Nat) (l : List D) (h : isN (.lst l) = true) (hl : lenOk (.lst l) = true) (hd : depL l ≤ m) : CW (callF Pr (k + m + 2) (.fn i) [.own (.lst l), .frz (.lst l)]) (fun v ps => v = .frz (.bl true) ∧ ps = [some (.frz (.lst l)), some (.frz (.lst l))]) NoE := by
  refine cw_fn hs rfl ?_
  unfold isDef
  simp only [isN] at h
  simp only [lenOk, Bool.and_eq_true, decide_eq_true_eq] at hl
  simp! only [beq_self_eq_true, zipD_self, wss_cons]
  refine wp_compM (fun x => D.tup [x, x]) (fun _ => D.bl true) rfl hl.1 (fun x hx => ?_) ?_
  · simp! only [wss_cons]
    refine cw_mono (g_isD hs m k x (isNL_mem h x hx) (lenOk_mem hl.2 x hx) (dep_mem hd x hx)) (fun v _ z => ?_) fun _ _ h => h
    subst z
    simp! only [wss_cons]
  · rw [show (fun (_ : D) => D.bl true) = fun r => D.bl ((fun _ => true) r) from rfl]
    simp! only [all_true, wss_cons]
end Dw
end
section
set_option linter.all false
namespace Dw
open Dp
theorem txts_chars : ∀ w : List Nat, txts (w.map fun c => D.str [c]) = some (w.map fun c => [c])
  | [] => rfl
  | c :: r => by
    rw [List.map_cons]
    unfold txts
    rw [txts_chars r]
    rfl
theorem join_nil : ∀ ss : List (List Nat), joinS [] ss = ss.flatten
  | [] => rfl
  | [p] => by simp [joinS]
  | p :: q :: r => by
    show p ++ ([] ++ joinS [] (q :: r)) = _
    rw [join_nil (q :: r)]
    simp
theorem join_chars {w : List Nat} (h : w.length ≤ LIM) : mthD .join (.str []) [.lst (w.map fun c => D.str [c])] = some (.frz (.str w)) := by
  show (match seqD (.lst (w.map fun c => D.str [c])) with
    | some l => match txts l with
      | some ss => if (ss.map List.length).sum + ss.length * ([] : List Nat).length ≤ LIM then some (Vl.frz (.str (joinS [] ss))) else none
      | none => none
    | none => none) = _
  dsimp only [seqD]
  rw [txts_chars]
  dsimp only
  have e1 : ((w.map fun c => [c]).map List.length).sum = w.length := by
    clear h
    induction w with
    | nil => rfl
    | cons c r ih => simp at ih ⊢; omega
  have e2 : (w.map fun c => [c]).flatten = w := by
    clear h e1
    induction w with
    | nil => rfl
    | cons c r ih => simp at ih ⊢; exact ih
  rw [e1, join_nil, e2, if_pos (by simpa using h)]
/-- a drawn word -/
def dwDef (s d : Nat) : Def := ⟨3, 4,
  (.cons (.ret (.mth .join (.lit (.str [])) (.cons (.comp [3] (.call s (.cons (.var 0) (.cons (.var 1) .nil))) (.name 3) (.rng (.cons (.call d (.cons (.var 0) (.cons (.bin .add (.var 2) (.lit (.int 1))) .nil))) .nil)) .nil) .nil)))
  .nil)⟩
theorem g_dw {Pr : Prog} {i j l k : Nat} (hd : Pr.defs[i]? = some drawDef) (hs : Pr.defs[j]? = some (someDef i)) (hw : Pr.defs[l]? = some (dwDef j i)) {h : D} {L : List Nat} {n : Nat} (H : HandOk h) (hL : 0 < L.length) (hL2 : L.length < 2 ^ 63) (hn : n ≤ 1000) : CW (callF Pr (k + 3) (.fn l) [.own h, .frz (.str L), .frz (.int n)]) (fun v ps => ∃ (w : List Nat) (h' : D), v = .frz (.str w) ∧ (∀ c ∈ w, c ∈ L) ∧ w.length ≤ n ∧ HandOk h' ∧ ps = [some (.own h'), some (.frz (.str L)), some (.frz (.int n))]) NoE := by
  refine cw_fn hw rfl ?_
  unfold dwDef
  simp! only [wss_cons]
  refine cw_mono (g_draw (n := (n : Int) + 1) hd H (by omega) (by omega)) (fun v ps z => ?_) fun _ _ h => h
  obtain ⟨m, h', rfl, h1, h2, rfl⟩ := z
  simp! only [wss_cons]
  refine ⟨by omega, ?_⟩
  refine wp_comp (fun r acc ρ => ∃ h' w x3, ρ = [some (.own h'), some (.frz (.str L)), some (.frz (.int n)), x3] ∧ HandOk h' ∧ acc = w.map (fun c => D.str [c]) ∧ (∀ c ∈ w, c ∈ L) ∧ w.length + r.length = m) ⟨h', [], none, rfl, h2, rfl, by simp, by rw [rng_map]; simp⟩ ?_ ?_
  · rintro x r acc ρ ⟨h', w, x3, rfl, h3, rfl, h4, h5⟩ hx
    simp! only [wss_cons]
    refine cw_mono (g_some_s hd hs h3 hL hL2) (fun v ps z => ?_) fun _ _ h => h
    obtain ⟨c, h'', rfl, h6, h7, rfl⟩ := z
    simp only [List.length_cons] at h5
    simp! only [List.length_map, wss_cons]
    refine ⟨by simp only [LIM]; omega, h'', w ++ [c], some (.frz x), rfl, h7, by simp, fun d hd => ?_, by simp only [List.length_append, List.length_singleton]; omega⟩
    rcases List.mem_append.mp hd with z | z
    · exact h4 d z
    · rw [List.mem_singleton.mp z]; exact h6
  · rintro acc ρ ⟨h', w, x3, rfl, h3, rfl, h4, h5⟩
    simp only [List.length_nil] at h5
    simp! only [join_chars (w := w) (by simp only [LIM]; omega), wss_cons]
    simp! only [back, wss_cons]
    exact ⟨w, h', rfl, h4, by omega, h3, rfl⟩
/-! ### all words -/
def frontW (L : List Nat) : Nat → List (List Nat)
  | 0 => [[]]
  | n + 1 => (frontW L n).flatMap fun w => L.map fun c => w ++ [c]
def wordsW (L : List Nat) (n : Nat) : List (List Nat) := (List.range (n + 1)).flatMap (frontW L)
theorem wordsW_succ (L : List Nat) (n : Nat) : wordsW L (n + 1) = wordsW L n ++ frontW L (n + 1) := by
  unfold wordsW
  rw [List.range_succ, List.flatMap_append]
  simp
theorem frontW_mem {L : List Nat} : ∀ {n : Nat} {w : List Nat}, w ∈ frontW L n ↔ w.length = n ∧ ∀ c ∈ w, c ∈ L
  | 0, w => by
    simp only [frontW, List.mem_singleton, List.length_eq_zero_iff]
    constructor
    · rintro rfl; simp
    · exact fun h => h.1
  | n + 1, w => by
    simp only [frontW, List.mem_flatMap, List.mem_map]
    constructor
    · rintro ⟨u, hu, c, hc, rfl⟩
      obtain ⟨h1, h2⟩ := frontW_mem.mp hu
      refine ⟨by simp [h1], fun d hd => ?_⟩
      rcases List.mem_append.mp hd with z | z
      · exact h2 d z
      · rw [List.mem_singleton.mp z]; exact hc
    · rintro ⟨h1, h2⟩
      rcases List.eq_nil_or_concat w with e | ⟨u, c, e⟩
      · rw [e] at h1; cases h1
      · rw [List.concat_eq_append] at e
        subst e
        refine ⟨u, frontW_mem.mpr ⟨by simpa using h1, fun d hd => h2 d (List.mem_append_left _ hd)⟩, c, h2 c (by simp), rfl⟩
theorem wordsW_mem {L : List Nat} {n : Nat} {w : List Nat} : w ∈ wordsW L n ↔ w.length ≤ n ∧ ∀ c ∈ w, c ∈ L := by
  unfold wordsW
  simp only [List.mem_flatMap, List.mem_range, frontW_mem]
  constructor
  · rintro ⟨m, h1, h2, h3⟩
    exact ⟨by omega, h3⟩
  · rintro ⟨h1, h2⟩
    exact ⟨_, by omega, rfl, h2⟩
theorem frontW_len (L : List Nat) : ∀ n, (frontW L n).length = L.length ^ n
  | 0 => rfl
  | n + 1 => by
    rw [frontW, Nat.pow_succ, ← frontW_len L n]
    induction frontW L n with
    | nil => simp
    | cons x r ih => simp only [List.flatMap_cons, List.length_append, List.length_map, ih, List.length_cons, Nat.add_mul]; omega
theorem wordsW_len {L : List Nat} (hL : L.length ≤ 3) : ∀ {m : Nat}, m ≤ 8 → (wordsW L m).length ≤ (m + 1) * 19683
  | 0, _ => by simp [wordsW, frontW]
  | m + 1, h => by
    have := wordsW_len hL (m := m) (by omega)
    have h2 : (frontW L (m + 1)).length ≤ 19683 := by
      rw [frontW_len]
      have : L.length ^ (m + 1) ≤ 3 ^ (m + 1) := Nat.pow_le_pow_left hL (m + 1)
      have : 3 ^ (m + 1) ≤ 3 ^ 9 := Nat.pow_le_pow_right (by decide) (by omega)
      have : (3 : Nat) ^ 9 = 19683 := by decide
      omega
    rw [wordsW_succ, List.length_append]
    omega
def wordsDef : Def := ⟨2, 8,
  (.cons (.par [2, 3] (.cons (.lst (.cons (.lit (.str [])) .nil)) (.cons (.lst (.cons (.lit (.str [])) .nil)) .nil)))
  (.cons (.for (.name 4) (.rng (.cons (.var 1) .nil))
  (.cons (.asg (.name 5) (.lst .nil))
  (.cons (.for (.name 6) (.ex (.var 3))
  (.cons (.exp (.mut .extend 5 (.cons (.comp [7] (.bin .add (.var 6) (.var 7)) (.name 7) (.ex (.var 0)) .nil) .nil)))
  .nil))
  (.cons (.par [2, 3] (.cons (.bin .add (.var 2) (.var 5)) (.cons (.var 5) .nil)))
  .nil))))
  (.cons (.retm 2)
  .nil)))⟩
theorem g_words {Pr : Prog} {j k : Nat} (hs : Pr.defs[j]? = some wordsDef) {L : List Nat} {n : Nat} (hL : L.length ≤ 3) (hn : n ≤ 8) : CW (callF Pr (k + 1) (.fn j) [.frz (.str L), .frz (.int n)]) (Is (.own (.lst ((wordsW L n).map D.str)))) NoE := by
  have fl : ∀ m, m ≤ 9 → (frontW L m).length ≤ 19683 := fun m hm => by
    rw [frontW_len]
    have : L.length ^ m ≤ 3 ^ m := Nat.pow_le_pow_left hL m
    have : 3 ^ m ≤ 3 ^ 9 := Nat.pow_le_pow_right (by decide) hm
    have : (3 : Nat) ^ 9 = 19683 := by decide
    omega
  have wl : ∀ m, m ≤ 8 → (wordsW L m).length ≤ (m + 1) * 19683 := fun m => by
    induction m with
    | zero => intro _; simp [wordsW, frontW]
    | succ m ih =>
      intro h
      have := ih (by omega)
      have := fl (m + 1) (by omega)
      rw [wordsW_succ, List.length_append]
      omega
  refine cw_fn hs rfl ?_
  unfold wordsDef
  rw [wss_cons]
  simp! only [true_and]
  rw [wss_cons]
  simp! only [true_and]
  refine ⟨by omega, ?_⟩
  refine wp_forN (fun (k : Nat) => D.int k) (fun p ρ => ∃ A3 x4 x5 x6, ρ = [some (.frz (.str L)), some (.frz (.int n)), some (.own (.lst ((wordsW L p.length).map D.str))), some A3, x4, x5, x6, none] ∧ (A3 = .own (.lst ((frontW L p.length).map D.str)) ∨ A3 = .frz (.lst ((frontW L p.length).map D.str)))) rng_map ⟨_, none, none, none, rfl, .inl rfl⟩ ?_ ?_
  · rintro p q r _ hp ⟨A3, x4, x5, x6, rfl, hA⟩
    have hl := congrArg List.length hp
    simp only [List.length_range, List.length_append, List.length_cons] at hl
    simp! only [true_and]
    rw [wss_cons]
    simp! only [true_and]
    rw [wss_cons]
    simp! only [true_and]
    have key : ∀ (K : Fl → Env → Prop) E, (∀ x6, K .nx [some (.frz (.str L)), some (.frz (.int n)), some (.own (.lst ((wordsW L p.length).map D.str))), some (.frz (.lst ((frontW L p.length).map D.str))), some (.frz (.int q)), some (.own (.lst ((frontW L (p.length + 1)).map D.str))), x6, none]) → WP (forL (asgT [] (.name 6)) (evSs Pr (callF Pr k) [] (.cons (.exp (.mut .extend 5 (.cons (.comp [7] (.bin .add (.var 6) (.var 7)) (.name 7) (.ex (.var 0)) .nil) .nil)))
  .nil)) ((frontW L p.length).map D.str)) K E [some (.frz (.str L)), some (.frz (.int n)), some (.own (.lst ((wordsW L p.length).map D.str))), some (.frz (.lst ((frontW L p.length).map D.str))), some (.frz (.int q)), some (.own (.lst [])), x6, none] := fun K E hK => by
      refine wp_forN D.str (fun p2 ρ => ∃ x6, ρ = [some (.frz (.str L)), some (.frz (.int n)), some (.own (.lst ((wordsW L p.length).map D.str))), some (.frz (.lst ((frontW L p.length).map D.str))), some (.frz (.int q)), some (.own (.lst ((p2.flatMap fun w => L.map fun c => w ++ [c]).map D.str))), x6, none] ∧ (p2.flatMap fun w => L.map fun c => w ++ [c]).length ≤ p2.length * 3) rfl ⟨x6, rfl, by simp⟩ ?_ ?_
      · rintro p2 w r2 _ hp2 ⟨x6, rfl, hb⟩
        have hl2 := congrArg List.length hp2
        simp only [List.length_append, List.length_cons] at hl2
        have hw := (frontW_mem.mp (show w ∈ frontW L p.length by rw [hp2]; simp)).1
        have := fl p.length (by omega)
        simp! only [wss_cons]
        refine wp_compM (fun (c : Nat) => D.str [c]) (fun c => D.str (w ++ [c])) rfl (by simp only [LIM]; omega) (fun c hc => ?_) ?_
        · simp! only [wss_cons]
          simp only [LIM]; omega
        · simp! only [List.length_map, wss_cons]
          refine ⟨by simp only [LIM]; omega, some (.frz (.str w)), ?_, ?_⟩
          · rw [List.flatMap_append, List.map_append]
            simp only [List.flatMap_cons, List.flatMap_nil, List.append_nil, List.map_map]
            rfl
          · rw [List.flatMap_append]
            simp only [List.flatMap_cons, List.flatMap_nil, List.append_nil, List.length_append, List.length_map, List.length_cons, List.length_nil]
            omega
      · rintro _ ⟨x6, rfl, hb⟩
        exact hK x6
    have tail : ∀ x6, WP (evSs Pr (callF Pr k) [] (.cons (.par [2, 3] (.cons (.bin .add (.var 2) (.var 5)) (.cons (.var 5) .nil))) .nil)) (fun f ρ => f.go (fun ρ => ∃ A3 x4 x5 x6, ρ = [some (.frz (.str L)), some (.frz (.int n)), some (.own (.lst ((wordsW L (p ++ [q]).length).map D.str))), some A3, x4, x5, x6, none] ∧ (A3 = .own (.lst ((frontW L (p ++ [q]).length).map D.str)) ∨ A3 = .frz (.lst ((frontW L (p ++ [q]).length).map D.str)))) (fun f ρ => f.go (fun ρ => WP (evSs Pr (callF Pr k) [] (.cons (.retm 2) .nil)) (fun f ρ => f.end fun v => Is (.own (.lst ((wordsW L n).map D.str))) v (slots 2 ρ)) (fun c ρ => NoE c (slots 2 ρ)) ρ) (fun f ρ => f.end fun v => Is (.own (.lst ((wordsW L n).map D.str))) v (slots 2 ρ)) ρ) ρ) (fun c ρ => NoE c (slots 2 ρ)) [some (.frz (.str L)), some (.frz (.int n)), some (.own (.lst ((wordsW L p.length).map D.str))), some (.frz (.lst ((frontW L p.length).map D.str))), some (.frz (.int q)), some (.own (.lst ((frontW L (p.length + 1)).map D.str))), x6, none] := fun x6 => by
      have := fl (p.length + 1) (by omega)
      have := wl p.length (by omega)
      have : (p.length + 1) * 19683 ≤ 9 * 19683 := Nat.mul_le_mul_right _ (by omega)
      rw [wss_cons]
      simp! only [List.length_map, List.length_append]
      refine ⟨by simp only [LIM]; omega, .frz (.lst ((frontW L (p.length + 1)).map D.str)), some (.frz (.int q)), some (.frz (.lst ((frontW L (p.length + 1)).map D.str))), x6, ?_, .inr rfl⟩
      rw [← List.map_append, wordsW_succ]
    rcases hA with rfl | rfl
    · simp! only [true_and]
      exact key _ _ tail
    · simp! only [true_and]
      exact key _ _ tail
  · rintro _ ⟨A3, x4, x5, x6, rfl, hA⟩
    simp! only [List.length_range]
    rw [wss_cons]
    simp! only [wss_cons]
/-- nearness -/
def keyDef : Def := ⟨1, 1,
  (.cons (.ret (.tup (.cons (.bi .len (.cons (.var 0) .nil)) (.cons (.var 0) .nil))))
  .nil)⟩
theorem g_key {Pr : Prog} {j k : Nat} (hs : Pr.defs[j]? = some keyDef) {w : List Nat} : CW (callF Pr (k + 1) (.fn j) [.frz (.str w)]) (Is (.frz (.tup [.int w.length, .str w]))) NoE := by
  refine cw_fn hs rfl ?_
  unfold keyDef
  simp! only [wss_cons]
end Dw
end
section
set_option linter.all false
namespace Pk90
open Dp
/- 0 is_tuple(thing, size) -/
def f0 : Def := ⟨2, 2,
  (.cons (.ret (.and (.isi (.var 0) [.tuple]) (.cmp .eq (.bi .len (.cons (.var 0) .nil)) (.var 1))))
  .nil)⟩
/- 1 is_sized(thing, least, most) -/
def f1 : Def := ⟨3, 3,
  (.cons (.ret (.and (.isi (.var 0) [.tuple]) (.chn .le .le (.var 1) (.bi .len (.cons (.var 0) .nil)) (.var 2))))
  .nil)⟩
/- 2 are_letters(thing) -/
def f2 : Def := ⟨1, 1,
  (.cons (.ret (.and (.isi (.var 0) [.str]) (.cmp .inn (.var 0) (.gcon 0))))
  .nil)⟩
/- 3 check_letters(thing) -/
def f3 : Def := ⟨1, 1,
  (.cons (.ite (.nt (.call 2 (.cons (.var 0) .nil)))
  (.cons (.raise 2 .nil)
  .nil)
  .nil)
  .nil)⟩
/- 4 is_word_of(letters, thing, most, sign) -/
def f4 : Def := ⟨3, 4,
  (.cons (.ret (.and (.isi (.var 1) [.str]) (.and (.cmp .le (.bi .len (.cons (.var 1) .nil)) (.var 2)) (.bi .all (.cons (.comp [3] (.cmp .inn (.var 3) (.var 0)) (.name 3) (.ex (.var 1)) .nil) .nil)))))
  .nil)⟩
/- 5 check_word(letters, thing) -/
def f5 : Def := ⟨2, 2,
  (.cons (.ite (.nt (.call 4 (.cons (.var 0) (.cons (.var 1) (.cons (.gcon 1) .nil)))))
  (.cons (.raise 1 .nil)
  .nil)
  .nil)
  .nil)⟩
/- 6 near(word) -/
def f6 : Def := ⟨1, 1,
  (.cons (.ret (.tup (.cons (.bi .len (.cons (.var 0) .nil)) (.cons (.var 0) .nil))))
  .nil)⟩
/- 7 is_rule(letters, thing, word) -/
def f7 : Def := ⟨2, 3,
  (.cons (.ite (.or (.nt (.call 0 (.cons (.var 1) (.cons (.lit (.int 2)) .nil)))) (.nt (.bi .all (.cons (.comp [2] (.call 4 (.cons (.var 0) (.cons (.var 2) (.cons (.gcon 3) .nil)))) (.name 2) (.ex (.var 1)) .nil) .nil))))
  (.cons (.ret (.lit (.bl false)))
  .nil)
  .nil)
  (.cons (.ret (.cmp .lt (.call 6 (.cons (.idx (.var 1) (.lit (.int 1))) .nil)) (.call 6 (.cons (.idx (.var 1) (.lit (.int 0))) .nil))))
  .nil))⟩
/- 8 check_rules(letters, rules, rule, spot) -/
def f8 : Def := ⟨2, 4,
  (.cons (.exp (.call 3 (.cons (.var 0) .nil)))
  (.cons (.ite (.or (.nt (.call 1 (.cons (.var 1) (.cons (.lit (.int 0)) (.cons (.gcon 2) .nil))))) (.nt (.bi .all (.cons (.comp [2] (.call 7 (.cons (.var 0) (.cons (.var 2) .nil))) (.name 2) (.ex (.var 1)) .nil) .nil))))
  (.cons (.raise 4 .nil)
  .nil)
  .nil)
  (.cons (.ite (.nt (.bi .all (.cons (.comp [3] (.cmp .lt (.idx (.var 1) (.bin .sub (.var 3) (.lit (.int 1)))) (.idx (.var 1) (.var 3))) (.name 3) (.rng (.cons (.lit (.int 1)) (.cons (.bi .len (.cons (.var 1) .nil)) .nil))) .nil) .nil)))
  (.cons (.raise 4 .nil)
  .nil)
  .nil)
  .nil)))⟩
/- 9 steps_of(rules, word, found, spot, number, rule) -/
def f9 : Def := ⟨2, 6,
  (.cons (.asg (.name 2) (.lst .nil))
  (.cons (.for (.name 3) (.rng (.cons (.bin .add (.bi .len (.cons (.var 1) .nil)) (.lit (.int 1))) .nil))
  (.cons (.exp (.mut .extend 2 (.cons (.comp [4, 5] (.tup (.cons (.var 3) (.cons (.var 4) .nil))) (.tup [4, 5]) (.enum (.var 0)) (.cons (.cmp .eq (.slc (.var 1) (.var 3) (.bin .add (.var 3) (.bi .len (.cons (.idx (.var 5) (.lit (.int 0))) .nil)))) (.idx (.var 5) (.lit (.int 0)))) .nil)) .nil)))
  .nil))
  (.cons (.retm 2)
  .nil)))⟩
/- 10 done(rules, word, step, spot, number, left, right) -/
def f10 : Def := ⟨3, 7,
  (.cons (.asg (.tup [3, 4]) (.var 2))
  (.cons (.asg (.tup [5, 6]) (.idx (.var 0) (.var 4)))
  (.cons (.ret (.bin .add (.bin .add (.slc (.var 1) (.lit .non) (.var 3)) (.var 6)) (.slc (.var 1) (.bin .add (.var 3) (.bi .len (.cons (.var 5) .nil))) (.lit .non))))
  .nil)))⟩
/- 11 raw_last(rules, word, steps) -/
def f11 : Def := ⟨2, 3,
  (.cons (.asg (.name 2) (.call 9 (.cons (.var 0) (.cons (.var 1) .nil))))
  (.cons (.whl (.cmp .gt (.bi .len (.cons (.var 2) .nil)) (.lit (.int 0)))
  (.cons (.asg (.name 1) (.call 10 (.cons (.var 0) (.cons (.var 1) (.cons (.idx (.var 2) (.lit (.int 0))) .nil)))))
  (.cons (.asg (.name 2) (.call 9 (.cons (.var 0) (.cons (.var 1) .nil))))
  .nil)))
  (.cons (.ret (.var 1))
  .nil)))⟩
/- 12 last_of(letters, rules, word) -/
def f12 : Def := ⟨3, 3,
  (.cons (.exp (.call 8 (.cons (.var 0) (.cons (.var 1) .nil))))
  (.cons (.exp (.call 5 (.cons (.var 0) (.cons (.var 2) .nil))))
  (.cons (.ret (.call 11 (.cons (.var 1) (.cons (.var 2) .nil))))
  .nil)))⟩
/- 13 comes_to(letters, rules, word, found, waiting, ends, here, laters, step, later) -/
def f13 : Def := ⟨3, 10,
  (.cons (.exp (.call 8 (.cons (.var 0) (.cons (.var 1) .nil))))
  (.cons (.exp (.call 5 (.cons (.var 0) (.cons (.var 2) .nil))))
  (.cons (.par [3, 4, 5] (.cons (.dct (.cons (.var 2) (.lit (.bl true)) .nil)) (.cons (.lst (.cons (.var 2) .nil)) (.cons (.lst .nil) .nil))))
  (.cons (.whl (.cmp .gt (.bi .len (.cons (.var 4) .nil)) (.lit (.int 0)))
  (.cons (.asg (.name 6) (.mut .pop 4 .nil))
  (.cons (.asg (.name 7) (.comp [8] (.call 10 (.cons (.var 1) (.cons (.var 6) (.cons (.var 8) .nil)))) (.name 8) (.ex (.call 9 (.cons (.var 1) (.cons (.var 6) .nil)))) .nil))
  (.cons (.ite (.cmp .eq (.bi .len (.cons (.var 7) .nil)) (.lit (.int 0)))
  (.cons (.exp (.mut .append 5 (.cons (.var 6) .nil)))
  .nil)
  .nil)
  (.cons (.for (.name 9) (.ex (.var 7))
  (.cons (.ite (.cmp .nin (.var 9) (.var 3))
  (.cons (.seti 3 (.var 9) (.lit (.bl true)))
  (.cons (.exp (.mut .append 4 (.cons (.var 9) .nil)))
  (.cons (.ite (.cmp .gt (.bi .len (.cons (.var 3) .nil)) (.gcon 4))
  (.cons .bad
  .nil)
  .nil)
  .nil)))
  .nil)
  .nil))
  .nil)))))
  (.cons (.ret (.srtk (.var 5) (.lam 0)))
  .nil)))))⟩
/- 14 _law_draw(hand, span, cell, digit, number) -/
def f14 : Def := ⟨2, 5,
  (.cons (.ite (.and (.cmp .eq (.idx (.var 0) (.lit (.int 2))) (.lit (.int 0))) (.cmp .lt (.idx (.var 0) (.lit (.int 1))) (.bi .len (.cons (.idx (.var 0) (.lit (.int 0))) .nil))))
  (.cons (.asg (.name 2) (.idx (.idx (.var 0) (.lit (.int 0))) (.idx (.var 0) (.lit (.int 1)))))
  (.cons (.seti 0 (.lit (.int 1)) (.bin .add (.idx (.var 0) (.lit (.int 1))) (.lit (.int 1))))
  (.cons (.seti 0 (.lit (.int 3)) (.bin .mod (.bi .int (.cons (.bin .add (.bin .add (.bin .mul (.idx (.var 0) (.lit (.int 3))) (.lit (.int 69621))) (.var 2)) (.lit (.int 43))) .nil)) (.lit (.int 2147483629))))
  (.cons (.ite (.cmp .ge (.var 2) (.bin .pow (.lit (.int 10)) (.lit (.int 18))))
  (.cons (.seti 0 (.lit (.int 2)) (.var 2))
  .nil)
  .nil)
  .nil))))
  .nil)
  (.cons (.ite (.cmp .gt (.idx (.var 0) (.lit (.int 2))) (.lit (.int 0)))
  (.cons (.asg (.name 3) (.bin .mod (.bi .int (.cons (.idx (.var 0) (.lit (.int 2))) .nil)) (.var 1)))
  (.cons (.seti 0 (.lit (.int 2)) (.bin .fdv (.idx (.var 0) (.lit (.int 2))) (.var 1)))
  (.cons (.retm 3)
  .nil)))
  .nil)
  (.cons (.seti 0 (.lit (.int 4)) (.bin .add (.idx (.var 0) (.lit (.int 4))) (.lit (.int 1))))
  (.cons (.asg (.name 4) (.bin .mod (.bi .int (.cons (.bin .mul (.bi .int (.cons (.bin .add (.idx (.var 0) (.lit (.int 3))) (.bin .mul (.lit (.int 7919)) (.idx (.var 0) (.lit (.int 4))))) .nil)) (.lit (.int 48271))) .nil)) (.lit (.int 2147483647))))
  (.cons (.asg (.name 4) (.bin .mod (.bi .int (.cons (.bin .mul (.var 4) (.bin .add (.bin .fdv (.var 4) (.lit (.int 1009))) (.lit (.int 69621)))) .nil)) (.lit (.int 2147483647))))
  (.cons (.asg (.name 4) (.bin .mod (.bi .int (.cons (.bin .mul (.var 4) (.bin .add (.bin .fdv (.var 4) (.lit (.int 2003))) (.lit (.int 40692)))) .nil)) (.lit (.int 2147483399))))
  (.cons (.ret (.bin .mod (.bi .int (.cons (.bin .fdv (.var 4) (.lit (.int 16))) .nil)) (.var 1)))
  .nil)))))))⟩
/- 15 _law_some(hand, things) -/
def f15 : Def := ⟨2, 2,
  (.cons (.ret (.idx (.var 1) (.call 14 (.cons (.var 0) (.cons (.bi .len (.cons (.var 1) .nil)) .nil)))))
  .nil)⟩
/- 16 _law_is(thing, due, one, other) -/
def f16 : Def := ⟨2, 4,
  (.cons (.ite (.isi (.var 1) [.tuple, .list])
  (.cons (.ite (.or (.cmp .ne (.isi (.var 0) [.tuple]) (.isi (.var 1) [.tuple])) (.cmp .ne (.isi (.var 0) [.list]) (.isi (.var 1) [.list])))
  (.cons (.ret (.lit (.bl false)))
  .nil)
  .nil)
  (.cons (.ret (.and (.cmp .eq (.bi .len (.cons (.var 0) .nil)) (.bi .len (.cons (.var 1) .nil))) (.bi .all (.cons (.comp [2, 3] (.call 16 (.cons (.var 2) (.cons (.var 3) .nil))) (.tup [2, 3]) (.zip (.cons (.var 0) (.cons (.var 1) .nil))) .nil) .nil))))
  .nil))
  .nil)
  (.cons (.ite (.or (.cmp .is (.var 1) (.lit .non)) (.cmp .is (.var 0) (.lit .non)))
  (.cons (.ret (.and (.cmp .is (.var 1) (.lit .non)) (.cmp .is (.var 0) (.lit .non))))
  .nil)
  .nil)
  (.cons (.ite (.or (.cmp .ne (.isi (.var 0) [.bool]) (.isi (.var 1) [.bool])) (.cmp .ne (.isi (.var 0) [.int]) (.isi (.var 1) [.int])))
  (.cons (.ret (.lit (.bl false)))
  .nil)
  .nil)
  (.cons (.ret (.and (.cmp .eq (.isi (.var 0) [.str]) (.isi (.var 1) [.str])) (.cmp .eq (.var 0) (.var 1))))
  .nil))))⟩
/- 17 _law_hand(script, cells, cell) -/
def f17 : Def := ⟨1, 3,
  (.cons (.asg (.name 1) (.comp [2] (.bi .abs (.cons (.bi .int (.cons (.var 2) .nil)) .nil)) (.name 2) (.ex (.slc (.var 0) (.lit .non) (.lit (.int 63)))) .nil))
  (.cons (.ret (.lst (.cons (.var 1) (.cons (.lit (.int 0)) (.cons (.lit (.int 0)) (.cons (.bin .add (.lit (.int 389)) (.bin .mul (.lit (.int 3)) (.bi .len (.cons (.var 1) .nil)))) (.cons (.lit (.int 0)) .nil)))))))
  .nil))⟩
/- 18 _law_deep(hand, thing, turn) -/
def f18 : Def := ⟨1, 3,
  (.cons (.asg (.name 1) (.call 15 (.cons (.var 0) (.cons (.lst (.cons (.lit .non) (.cons (.neg (.lit (.int 1))) (.cons (.lit (.str [65])) .nil)))) .nil))))
  (.cons (.for (.name 2) (.rng (.cons (.bin .add (.lit (.int 12)) (.call 14 (.cons (.var 0) (.cons (.lit (.int 14)) .nil)))) .nil))
  (.cons (.asg (.name 1) (.call 15 (.cons (.var 0) (.cons (.lst (.cons (.tup (.cons (.var 1) .nil)) (.cons (.lst (.cons (.var 1) .nil)) .nil))) .nil))))
  .nil))
  (.cons (.retm 1)
  .nil)))⟩
/- 19 _law_drawn_word(hand, letters, most, step) -/
def f19 : Def := ⟨3, 4,
  (.cons (.ret (.mth .join (.lit (.str [])) (.cons (.comp [3] (.call 15 (.cons (.var 0) (.cons (.var 1) .nil))) (.name 3) (.rng (.cons (.call 14 (.cons (.var 0) (.cons (.bin .add (.var 2) (.lit (.int 1))) .nil))) .nil)) .nil) .nil)))
  .nil)⟩
/- 20 _law_key(word) -/
def f20 : Def := ⟨1, 1,
  (.cons (.ret (.tup (.cons (.bi .len (.cons (.var 0) .nil)) (.cons (.var 0) .nil))))
  .nil)⟩
/- 21 _law_rules(hand, letters, most, long, short, found, lap, one, other) -/
def f21 : Def := ⟨5, 9,
  (.cons (.asg (.name 5) (.lst .nil))
  (.cons (.for (.name 6) (.rng (.cons (.call 14 (.cons (.var 0) (.cons (.bin .add (.var 2) (.lit (.int 1))) .nil))) .nil))
  (.cons (.asg (.name 7) (.bin .add (.call 15 (.cons (.var 0) (.cons (.var 1) .nil))) (.call 19 (.cons (.var 0) (.cons (.var 1) (.cons (.bin .sub (.var 3) (.lit (.int 1))) .nil))))))
  (.cons (.asg (.name 8) (.call 19 (.cons (.var 0) (.cons (.var 1) (.cons (.var 4) .nil)))))
  (.cons (.ite (.and (.cmp .lt (.call 20 (.cons (.var 8) .nil)) (.call 20 (.cons (.var 7) .nil))) (.cmp .nin (.tup (.cons (.var 7) (.cons (.var 8) .nil))) (.var 5)))
  (.cons (.exp (.mut .append 5 (.cons (.tup (.cons (.var 7) (.cons (.var 8) .nil))) .nil)))
  .nil)
  .nil)
  .nil))))
  (.cons (.ret (.bi .tuple (.cons (.bi .sorted (.cons (.var 5) .nil)) .nil)))
  .nil)))⟩
/- 22 _law_stepped(rules, word, found, spot, some, one, other) -/
def f22 : Def := ⟨2, 7,
  (.cons (.asg (.name 2) (.lst .nil))
  (.cons (.for (.name 3) (.rng (.cons (.bi .len (.cons (.var 1) .nil)) .nil))
  (.cons (.asg (.name 4) (.comp [5, 6] (.tup (.cons (.var 5) (.cons (.var 6) .nil))) (.tup [5, 6]) (.ex (.var 0)) (.cons (.cmp .eq (.slc (.var 1) (.var 3) (.bin .add (.var 3) (.bi .len (.cons (.var 5) .nil)))) (.var 5)) .nil)))
  (.cons (.exp (.mut .extend 2 (.cons (.comp [5, 6] (.bin .add (.bin .add (.slc (.var 1) (.lit .non) (.var 3)) (.var 6)) (.slc (.var 1) (.bin .add (.var 3) (.bi .len (.cons (.var 5) .nil))) (.lit .non))) (.tup [5, 6]) (.ex (.var 4)) .nil) .nil)))
  .nil)))
  (.cons (.retm 2)
  .nil)))⟩
/- 23 _law_last(rules, word, here, later) -/
def f23 : Def := ⟨2, 4,
  (.cons (.par [2, 3] (.cons (.var 1) (.cons (.call 22 (.cons (.var 0) (.cons (.var 1) .nil))) .nil)))
  (.cons (.whl (.cmp .ne (.var 3) (.lst .nil))
  (.cons (.asg (.name 2) (.idx (.var 3) (.lit (.int 0))))
  (.cons (.asg (.name 3) (.call 22 (.cons (.var 0) (.cons (.var 2) .nil))))
  .nil)))
  (.cons (.retm 2)
  .nil)))⟩
/- 24 _law_all_behind(rules, word, found, front, later) -/
def f24 : Def := ⟨2, 5,
  (.cons (.par [2, 3] (.cons (.dct (.cons (.var 1) (.lit (.bl true)) .nil)) (.cons (.lst (.cons (.var 1) .nil)) .nil)))
  (.cons (.whl (.cmp .ne (.var 3) (.lst .nil))
  (.cons (.for (.name 4) (.ex (.call 22 (.cons (.var 0) (.cons (.mut .pop 3 .nil) .nil))))
  (.cons (.ite (.cmp .nin (.var 4) (.var 2))
  (.cons (.seti 2 (.var 4) (.lit (.bl true)))
  (.cons (.exp (.mut .append 3 (.cons (.var 4) .nil)))
  .nil))
  .nil)
  .nil))
  .nil))
  (.cons (.retm 2)
  .nil)))⟩
/- 25 _law_ends(rules, word, some, here, size) -/
def f25 : Def := ⟨2, 5,
  (.cons (.asg (.name 2) (.comp [3] (.var 3) (.name 3) (.keys (.call 24 (.cons (.var 0) (.cons (.var 1) .nil)))) (.cons (.cmp .eq (.call 22 (.cons (.var 0) (.cons (.var 3) .nil))) (.lst .nil)) .nil)))
  (.cons (.ret (.comp [4, 1] (.var 1) (.tup [4, 1]) (.ex (.bi .sorted (.cons (.comp [3] (.call 20 (.cons (.var 3) .nil)) (.name 3) (.ex (.var 2)) .nil) .nil))) .nil))
  .nil))⟩
/- 26 _law_refusal(asked, word, e, some, words) -/
def f26 : Def := ⟨1, 5,
  (.cons .bad .nil)⟩
/- 27 _law_no_rules(hand, rules, some) -/
def f27 : Def := ⟨2, 3,
  (.cons (.asg (.name 2) (.lst (.cons (.lit .non) (.cons (.lit (.int 0)) (.cons (.bi .list (.cons (.var 1) .nil)) (.cons (.tup (.cons (.tup (.cons (.lit (.str [97])) (.cons (.lit (.str [98])) .nil))) .nil)) (.cons (.tup (.cons (.tup (.cons (.lit (.str [97])) (.cons (.lit (.str [97])) .nil))) .nil)) (.cons (.tup (.cons (.tup (.cons (.lit (.str [])) (.cons (.lit (.str [])) .nil))) .nil)) (.cons (.tup (.cons (.tup (.cons (.lit (.str [97, 98])) (.cons (.lit (.str [98, 97])) .nil))) .nil)) (.cons (.dct .nil) .nil))))))))))
  (.cons (.asg (.name 2) (.bin .add (.var 2) (.lst (.cons (.tup (.cons (.tup (.cons (.lit (.str [98])) (.cons (.lit (.str [97])) .nil))) (.cons (.tup (.cons (.lit (.str [97])) (.cons (.lit (.str [])) .nil))) .nil))) (.cons (.tup (.cons (.tup (.cons (.lit (.str [99])) (.cons (.lit (.str [])) .nil))) .nil)) (.cons (.tup (.cons (.tup (.cons (.lit (.str [97])) .nil)) .nil)) (.cons (.tup (.cons (.lst (.cons (.lit (.str [97])) (.cons (.lit (.str [])) .nil))) .nil)) (.cons (.tup (.cons (.tup (.cons (.lit (.str [97])) (.cons (.lit .non) .nil))) .nil)) (.cons (.tup (.cons (.tup (.cons (.lit (.str [97, 97, 97, 97, 97, 97, 97])) (.cons (.lit (.str [])) .nil))) .nil)) .nil)))))))))
  (.cons (.exp (.mut .append 2 (.cons (.tup (.cons (.tup (.cons (.lit (.str [98])) (.cons (.lit (.str [])) .nil))) (.cons (.tup (.cons (.lit (.str [98])) (.cons (.lit (.str [])) .nil))) .nil))) .nil)))
  (.cons (.ret (.call 15 (.cons (.var 0) (.cons (.bin .add (.var 2) (.lst (.cons (.tup (.cons (.lit (.str [97])) (.cons (.lit (.str [])) .nil))) (.cons (.lit (.str [97, 98])) (.cons (.call 18 (.cons (.var 0) .nil)) .nil))))) .nil))))
  .nil))))⟩
/- 28 _law_are_refused(hand, rules, letters, bad, word, words, asked) -/
def f28 : Def := ⟨1, 7,
  (.cons (.asg (.name 1) (.tup (.cons (.tup (.cons (.lit (.str [97, 98])) (.cons (.lit (.str [])) .nil))) (.cons (.tup (.cons (.lit (.str [98])) (.cons (.lit (.str [97])) .nil))) .nil))))
  (.cons (.asg (.name 2) (.call 15 (.cons (.var 0) (.cons (.lst (.cons (.lit .non) (.cons (.lit (.int 0)) (.cons (.lit (.str [])) (.cons (.lit (.str [98])) (.cons (.lit (.str [98, 97])) (.cons (.lit (.str [97, 98, 99, 100])) (.cons (.tup (.cons (.lit (.str [97])) .nil)) (.cons (.dct .nil) (.cons (.lit (.str [97, 97])) (.cons (.call 18 (.cons (.var 0) .nil)) .nil))))))))))) .nil))))
  (.cons (.asg (.name 3) (.call 27 (.cons (.var 0) (.cons (.var 1) .nil))))
  (.cons (.asg (.name 4) (.call 15 (.cons (.var 0) (.cons (.lst (.cons (.lit .non) (.cons (.lit (.int 0)) (.cons (.lit (.str [99])) (.cons (.bin .mul (.lit (.str [97])) (.lit (.int 61))) (.cons (.tup (.cons (.lit (.str [97])) .nil)) (.cons (.lst (.cons (.lit (.str [97])) .nil)) (.cons (.dct .nil) (.cons (.lit (.str [32])) (.cons (.call 18 (.cons (.var 0) .nil)) .nil)))))))))) .nil))))
  (.cons (.asg (.name 5) (.lst .nil))
  (.cons (.for (.name 6) (.ex (.tup (.cons (.gfn 12) (.cons (.gfn 13) .nil))))
  (.cons (.exp (.mut .append 5 (.cons (.refuse (.callv 6 (.cons (.var 2) (.cons (.var 3) (.cons (.var 4) .nil)))) [(2, [108, 101, 116, 116, 101, 114, 115]), (4, [114, 117, 108, 101, 115]), (1, [119, 111, 114, 100])]) .nil)))
  (.cons (.exp (.mut .append 5 (.cons (.refuse (.callv 6 (.cons (.lit (.str [97, 98])) (.cons (.var 3) (.cons (.var 4) .nil)))) [(2, [108, 101, 116, 116, 101, 114, 115]), (4, [114, 117, 108, 101, 115]), (1, [119, 111, 114, 100])]) .nil)))
  (.cons (.exp (.mut .append 5 (.cons (.refuse (.callv 6 (.cons (.lit (.str [97, 98])) (.cons (.var 1) (.cons (.var 4) .nil)))) [(2, [108, 101, 116, 116, 101, 114, 115]), (4, [114, 117, 108, 101, 115]), (1, [119, 111, 114, 100])]) .nil)))
  .nil))))
  (.cons (.ret (.cmp .eq (.var 5) (.bin .mul (.lst (.cons (.lit (.str [108, 101, 116, 116, 101, 114, 115])) (.cons (.lit (.str [114, 117, 108, 101, 115])) (.cons (.lit (.str [119, 111, 114, 100])) .nil)))) (.lit (.int 2)))))
  .nil)))))))⟩
/- 29 _law_is_told_right(hand, letters, rules, lap, word, due, came) -/
def f29 : Def := ⟨2, 7,
  (.cons (.asg (.name 2) (.call 21 (.cons (.var 0) (.cons (.var 1) (.cons (.lit (.int 4)) (.cons (.lit (.int 3)) (.cons (.lit (.int 3)) .nil)))))))
  (.cons (.for (.name 3) (.rng (.cons (.lit (.int 5)) .nil))
  (.cons (.asg (.name 4) (.call 19 (.cons (.var 0) (.cons (.var 1) (.cons (.lit (.int 6)) .nil)))))
  (.cons (.asg (.name 5) (.call 23 (.cons (.var 2) (.cons (.var 4) .nil))))
  (.cons (.ite (.nt (.call 16 (.cons (.lst (.cons (.call 12 (.cons (.var 1) (.cons (.var 2) (.cons (.var 4) .nil)))) (.cons (.call 12 (.cons (.var 1) (.cons (.var 2) (.cons (.var 5) .nil)))) .nil))) (.cons (.lst (.cons (.var 5) (.cons (.var 5) .nil))) .nil))))
  (.cons (.ret (.lit (.bl false)))
  .nil)
  .nil)
  (.cons (.asg (.name 6) (.call 13 (.cons (.var 1) (.cons (.var 2) (.cons (.var 4) .nil)))))
  (.cons (.ite (.or (.nt (.call 16 (.cons (.var 6) (.cons (.call 25 (.cons (.var 2) (.cons (.var 4) .nil))) .nil)))) (.cmp .nin (.var 5) (.var 6)))
  (.cons (.ret (.lit (.bl false)))
  .nil)
  .nil)
  .nil))))))
  (.cons (.ret (.lit (.bl true)))
  .nil)))⟩
/- 30 law(script, hand, known, letters) -/
def f30 : Def := ⟨1, 4,
  (.cons (.asg (.name 1) (.call 17 (.cons (.var 0) .nil)))
  (.cons (.asg (.name 2) (.lst (.cons (.call 12 (.cons (.lit (.str [97, 98])) (.cons (.tup (.cons (.tup (.cons (.lit (.str [98, 97])) (.cons (.lit (.str [97, 98])) .nil))) .nil)) (.cons (.lit (.str [98, 98, 97])) .nil)))) (.cons (.call 12 (.cons (.lit (.str [97])) (.cons (.tup .nil) (.cons (.lit (.str [97, 97])) .nil)))) .nil))))
  (.cons (.exp (.mut .append 2 (.cons (.call 13 (.cons (.lit (.str [97, 98])) (.cons (.tup (.cons (.tup (.cons (.lit (.str [97, 98])) (.cons (.lit (.str [])) .nil))) (.cons (.tup (.cons (.lit (.str [98, 97])) (.cons (.lit (.str [])) .nil))) .nil))) (.cons (.lit (.str [97, 98, 97])) .nil)))) .nil)))
  (.cons (.exp (.mut .append 2 (.cons (.call 13 (.cons (.lit (.str [97, 98])) (.cons (.tup (.cons (.tup (.cons (.lit (.str [97, 98])) (.cons (.lit (.str [])) .nil))) (.cons (.tup (.cons (.lit (.str [98, 97])) (.cons (.lit (.str [98])) .nil))) .nil))) (.cons (.lit (.str [97, 98, 97])) .nil)))) .nil)))
  (.cons (.ite (.nt (.call 16 (.cons (.var 2) (.cons (.lst (.cons (.lit (.str [97, 98, 98])) (.cons (.lit (.str [97, 97])) (.cons (.lst (.cons (.lit (.str [97])) .nil)) (.cons (.lst (.cons (.lit (.str [])) (.cons (.lit (.str [97])) .nil))) .nil))))) .nil))))
  (.cons (.ret (.lit (.bl false)))
  .nil)
  .nil)
  (.cons (.ret (.bi .all (.cons (.comp [3] (.and (.call 29 (.cons (.var 1) (.cons (.var 3) .nil))) (.call 28 (.cons (.var 1) .nil))) (.name 3) (.ex (.tup (.cons (.lit (.str [97])) (.cons (.lit (.str [97, 98])) (.cons (.lit (.str [97, 98])) (.cons (.lit (.str [97, 98, 99])) .nil)))))) .nil) .nil)))
  .nil))))))⟩
/- one -/
def l0 : Lam := ⟨1, [], 1, .e (.call 6 (.cons (.var 0) .nil)), []⟩
def sub (a b : Nat) : Bool := match a with
  | 0 => [0].contains b
  | 1 => [1, 0].contains b
  | 2 => [2, 0].contains b
  | 3 => [3, 0].contains b
  | 4 => [4, 0].contains b
  | _ => false
def init (c : Nat) : Nat := match c with
  | _ => 0
def eqf (c : Nat) : Option Nat := match c with
  | _ => none
def cons : List D := [(.tup [(.str [97]), (.str [97, 98]), (.str [97, 98, 99])]), (.int 60), (.int 12), (.int 6), (.int 2000)]
def P : Prog := ⟨[f0, f1, f2, f3, f4, f5, f6, f7, f8, f9, f10, f11, f12, f13, f14, f15, f16, f17, f18, f19, f20, f21, f22, f23, f24, f25, f26, f27, f28, f29, f30], [l0], cons, sub, init, eqf⟩
end Pk90
end
section
set_option linter.all false
namespace Rk90
open Dp Dw Rw Pk90
def Lt (L : List Nat) : Prop := L = [97] ∨ L = [97, 98] ∨ L = [97, 98, 99]
theorem r0 {k : Nat} {l : List D} {n : Int} (h : (l.length : Int) = n) : CW (callF P (k + 1) (.fn 0) [.frz (.tup l), .frz (.int n)]) (Is (.frz (.bl true))) NoE := by
  refine cw_fn (show P.defs[0]? = some f0 from rfl) rfl ?_
  unfold f0
  simp! only [wss_cons]
  simp [h]
theorem r1 {k : Nat} {l : List D} {n m : Int} (h : n ≤ (l.length : Int)) (h' : (l.length : Int) ≤ m) : CW (callF P (k + 1) (.fn 1) [.frz (.tup l), .frz (.int n), .frz (.int m)]) (Is (.frz (.bl true))) NoE := by
  refine cw_fn (show P.defs[1]? = some f1 from rfl) rfl ?_
  unfold f1
  simp! only [chnW_bl, wss_cons]
  simp [h, h']
theorem r2 {k : Nat} {L : List Nat} (h : Lt L) : CW (callF P (k + 1) (.fn 2) [.frz (.str L)]) (Is (.frz (.bl true))) NoE := by
  refine cw_fn (show P.defs[2]? = some f2 from rfl) rfl ?_
  unfold f2
  simp! only [wss_cons]
  rcases h with rfl | rfl | rfl <;> simp [P, cons, WPo, inD, inL, eqD, depL, dep]
theorem r3 {k : Nat} {L : List Nat} (h : Lt L) : CW (callF P (k + 2) (.fn 3) [.frz (.str L)]) (Is (.frz .non)) NoE := by
  refine cw_fn (show P.defs[3]? = some f3 from rfl) rfl ?_
  unfold f3
  simp! only [wss_cons]
  refine cw_mono (r2 h) (fun v _ h => ?_) fun _ _ h => h
  subst h
  simp! only [wss_cons]
theorem r4 {k : Nat} {L w : List Nat} {n : Int} (h : ∀ c ∈ w, c ∈ L) (hl : (w.length : Int) ≤ n) (hw : w.length ≤ 1000) : CW (callF P (k + 1) (.fn 4) [.frz (.str L), .frz (.str w), .frz (.int n)]) (Is (.frz (.bl true))) NoE := by
  refine cw_fn (show P.defs[4]? = some f4 from rfl) rfl ?_
  unfold f4
  simp! only [decide_eq_true_eq, hl, wss_cons]
  refine wp_compM (fun (c : Nat) => D.str [c]) (fun c => .bl (decide (c ∈ L))) rfl (by simp [LIM]; omega) ?_ ?_
  · intro c hc
    simp! only [wss_cons]
  · simp! only [wss_cons]
    simpa using h
theorem r5 {k : Nat} {L w : List Nat} (h : ∀ c ∈ w, c ∈ L) (hl : w.length ≤ 60) : CW (callF P (k + 2) (.fn 5) [.frz (.str L), .frz (.str w)]) (Is (.frz .non)) NoE := by
  refine cw_fn (show P.defs[5]? = some f5 from rfl) rfl ?_
  unfold f5
  simp! only [show P.cons[1]? = some (.int 60) from rfl, wss_cons]
  refine cw_mono (r4 h (by omega) (by omega)) (fun v _ h => ?_) fun _ _ h => h
  subst h
  simp! only [wss_cons]
def nearD (w : List Nat) : D := .tup [.int w.length, .str w]
theorem r6 {k : Nat} {w : List Nat} : CW (callF P (k + 1) (.fn 6) [.frz (.str w)]) (Is (.frz (nearD w))) NoE := by
  refine cw_fn (show P.defs[6]? = some f6 from rfl) rfl ?_
  unfold f6
  simp! only [wss_cons]
  rfl
theorem r20 {k : Nat} {w : List Nat} : CW (callF P (k + 1) (.fn 20) [.frz (.str w)]) (Is (.frz (nearD w))) NoE := by
  refine cw_fn (show P.defs[20]? = some f20 from rfl) rfl ?_
  unfold f20
  simp! only [wss_cons]
  rfl
/-- nearness of what is told -/
theorem near_ltD (a b : List Nat) : ltD (nearD a) (nearD b) = some (decide (Near a b)) := by
  simp only [nearD, ltD, ltL, eqD]
  by_cases h : (a.length : Int) = (b.length : Int)
  · have h' : a.length = b.length := by omega
    simp only [h, beq_self_eq_true]
    by_cases e : a = b
    · subst e
      simp [Near, List.lt_irrefl]
    · have : (a == b) = false := by simpa using e
      simp [this, Near, h']
  · have h' : ¬ a.length = b.length := by omega
    have : ((a.length : Int) == (b.length : Int)) = false := by
      rw [beq_eq_false_iff_ne]
      exact h
    by_cases e : a = b
    · subst e; exact absurd rfl h'
    · have e2 : (a == b) = false := by simpa using e
      simp [this, e2, Near, h']
theorem near_cmp (a b : List Nat) : cmpD .lt (nearD a) (nearD b) = some (decide (Near a b)) := by
  show (if dep (nearD a) ≤ 60 ∧ dep (nearD b) ≤ 60 then ltD (nearD a) (nearD b) else none) = _
  rw [if_pos (by simp [nearD, dep, depL])]
  exact near_ltD a b
theorem noObj_near {w : List Nat} : noObj (nearD w) = true := rfl
def rD (r : Rl) : D := .tup [.str r.1, .str r.2]
/-- what rules are here -/
structure RlOk (L : List Nat) (r : Rl) : Prop where
  a : ∀ c ∈ r.1, c ∈ L
  b : ∀ c ∈ r.2, c ∈ L
  l : r.1.length ≤ 6
  n : Near r.2 r.1
theorem RlOk.l2 {L : List Nat} {r : Rl} (h : RlOk L r) : r.2.length ≤ 6 := by
  have := h.l
  rcases h.n with z | z <;> omega
theorem r7 {k : Nat} {L : List Nat} {r : Rl} (h : RlOk L r) : CW (callF P (k + 2) (.fn 7) [.frz (.str L), .frz (rD r)]) (Is (.frz (.bl true))) NoE := by
  refine cw_fn (show P.defs[7]? = some f7 from rfl) rfl ?_
  unfold f7
  unfold rD
  simp! only [wss_cons]
  refine cw_mono (r0 rfl) (fun v _ h => ?_) fun _ _ h => h
  subst h
  simp! only [wss_cons]
  refine wp_compM (fun (w : List Nat) => D.str w) (fun _ => .bl true) (xs := [r.1, r.2]) rfl (by simp [LIM]) ?_ ?_
  · intro c hc
    simp! only [show P.cons[3]? = some (.int 6) from rfl, wss_cons]
    have : (∀ x ∈ c, x ∈ L) ∧ c.length ≤ 6 := by
      simp only [List.mem_cons, List.not_mem_nil, or_false] at hc
      rcases hc with rfl | rfl
      · exact ⟨h.a, h.l⟩
      · exact ⟨h.b, h.l2⟩
    refine cw_mono (r4 this.1 (by omega) (by omega)) (fun v _ h => ?_) fun _ _ h => h
    subst h
    simp! only [wss_cons]
  · simp! only [wss_cons]
    rw [show ([D.bl true, D.bl true] : List D) = [true, true].map D.bl from rfl, bi_all]
    simp! only [List.all_cons, List.all_nil, id, Bool.and_self, Bool.not_true, wss_cons]
    refine cw_mono r6 (fun v _ h => ?_) fun _ _ h => h
    subst h
    simp! only [wss_cons]
    refine cw_mono r6 (fun v _ h => ?_) fun _ _ h => h
    subst h
    simp! only [noObj_near, near_cmp, decide_eq_true h.n, wss_cons]
end Rk90
end
section
set_option linter.all false
namespace Rk90
open Dp Dw Rw Pk90
/-- ascending, each once -/
def Asc (rs : List Rl) : Prop := ∀ (i : Nat) (a b : Rl), rs[i]? = some a → rs[i + 1]? = some b → cmpD .lt (rD a) (rD b) = some true
structure RsOk (L : List Nat) (rs : List Rl) : Prop where
  lt : Lt L
  one : ∀ r ∈ rs, RlOk L r
  n : rs.length ≤ 12
  asc : Asc rs
theorem rng_1 {n : Nat} : rngD 1 (n : Int) = (List.range' 1 (n - 1)).map fun (k : Nat) => D.int k := by
  have := rng_from (a := 1) (b := n)
  simpa using this
abbrev rsD (rs : List Rl) : D := .tup (rs.map rD)
theorem r8 {k : Nat} {L : List Nat} {rs : List Rl} (h : RsOk L rs) : CW (callF P (k + 3) (.fn 8) [.frz (.str L), .frz (.tup (rs.map rD))]) (Is (.frz .non)) NoE := by
  refine cw_fn (show P.defs[8]? = some f8 from rfl) rfl ?_
  unfold f8
  simp! only [wss_cons]
  refine cw_mono (r3 h.lt) (fun v _ h => ?_) fun _ _ h => h
  subst h
  simp! only [show P.cons[2]? = some (.int 12) from rfl, wss_cons]
  refine cw_mono (r1 (by omega) (by have := h.n; simp only [List.length_map]; omega)) (fun v _ h => ?_) fun _ _ h => h
  subst h
  simp! only [wss_cons]
  refine wp_compM rD (fun _ => .bl true) rfl (by have := h.n; simp only [LIM]; omega) ?_ ?_
  · intro r hr
    simp! only [rD, wss_cons]
    refine cw_mono (r7 (h.one r hr)) (fun v _ h => ?_) fun _ _ h => h
    subst h
    simp! only [wss_cons]
  · rw [show (fun (_ : Rl) => D.bl true) = fun r => D.bl ((fun _ => true) r) from rfl]
    simp! only [List.all_eq_true.mpr (fun (x : Rl) _ => rfl), wss_cons]
    have hn := h.n
    refine ⟨by simp only [List.length_map]; omega, ?_⟩
    refine wp_compM (fun (k : Nat) => D.int k) (fun _ => .bl true) (xs := List.range' 1 (rs.length - 1)) (by rw [List.length_map]; exact rng_1) (by simp [LIM]; omega) ?_ ?_
    · intro i hi
      rw [List.mem_range'_1] at hi
      obtain ⟨j, rfl⟩ : ∃ j, i = j + 1 := ⟨i - 1, by omega⟩
      have l1 : rs[j]? = some rs[j] := List.getElem?_eq_getElem (by omega)
      have l2 : rs[j + 1]? = some rs[j + 1] := List.getElem?_eq_getElem (by omega)
      have ej : ((j + 1 : Nat) : Int) - 1 = (j : Int) := by omega
      simp! only [ej, ix_t (show (rs.map rD)[j]? = some (rD rs[j]) by rw [List.getElem?_map, l1]; rfl), ix_t (show (rs.map rD)[j + 1]? = some (rD rs[j + 1]) by rw [List.getElem?_map, l2]; rfl), h.asc j _ _ l1 l2, show ∀ r, noObj (rD r) = true from fun _ => rfl, wss_cons]
    · rw [show (fun (_ : Nat) => D.bl true) = fun r => D.bl ((fun _ => true) r) from rfl]
      simp! only [List.all_eq_true.mpr (fun (x : Nat) _ => rfl), wss_cons]
/-! ### steps -/
def stq (w : Wd) (spot : Nat) (p : Rl × Nat) : Option (Nat × Nat) := if hit w spot p.1 = true then some (spot, p.2) else none
def stepAt (rs : List Rl) (w : Wd) (spot : Nat) : List (Nat × Nat) := rs.zipIdx.filterMap (stq w spot)
def stepsN (rs : List Rl) (w : Wd) : List (Nat × Nat) := (List.range (w.length + 1)).flatMap (stepAt rs w)
def stD (s : Nat × Nat) : D := .tup [.int s.1, .int s.2]
theorem stepAt_len {rs : List Rl} {w : Wd} {n : Nat} : (stepAt rs w n).length ≤ rs.length := by
  unfold stepAt
  exact Nat.le_trans (List.length_filterMap_le _ _) (by simp)
theorem flat_len {α β : Type} {f : α → List β} {n : Nat} (h : ∀ x, (f x).length ≤ n) : ∀ l : List α, (l.flatMap f).length ≤ l.length * n
  | [] => by simp
  | x :: r => by
    have h1 := flat_len h r
    have h2 := h x
    simp only [List.flatMap_cons, List.length_append, List.length_cons, Nat.add_mul]
    omega
theorem stepsN_len {rs : List Rl} {w : Wd} : (stepsN rs w).length ≤ (w.length + 1) * rs.length := by
  have := flat_len (fun x => stepAt_len (rs := rs) (w := w) (n := x)) (List.range (w.length + 1))
  rw [List.length_range] at this
  exact this
theorem r9 {k : Nat} {rs : List Rl} {w : Wd} (hw : w.length ≤ 1000) (hr : rs.length ≤ 1000) : CW (callF P (k + 1) (.fn 9) [.frz (.tup (rs.map rD)), .frz (.str w)]) (Is (.own (.lst ((stepsN rs w).map stD)))) NoE := by
  refine cw_fn (show P.defs[9]? = some f9 from rfl) rfl ?_
  unfold f9
  simp! only [wss_cons]
  refine ⟨by omega, ?_⟩
  refine wp_forN (fun (k : Nat) => D.int k) (fun p ρ => ∃ x3, ρ = [some (.frz (.tup (rs.map rD))), some (.frz (.str w)), some (.own (.lst ((p.flatMap (stepAt rs w)).map stD))), x3, none, none]) rng_map1 ⟨none, rfl⟩ ?_ ?_
  · rintro p spot r _ hp ⟨x3, rfl⟩
    have hl := congrArg List.length hp
    simp only [List.length_range, List.length_append, List.length_cons] at hl
    simp! only [wss_cons]
    refine wp_compN (fun p => .tup [.int (p.2 : Int), rD p.1]) (stq w spot) stD (enum_map _ _ _) (by simp [LIM]; omega) ?_ ?_
    · intro x hx
      simp! only [rD, wss_cons]
      rw [show (spot : Int) + (x.1.1.length : Int) = ((spot + x.1.1.length : Nat) : Int) by simp, cut_both]
      unfold stq hit
      by_cases h : (w.take (spot + x.1.1.length)).drop spot = x.1.1 <;> simp [h, stD]
    · simp! only [wss_cons]
      rw [← List.map_append]
      have := flat_len (fun x => stepAt_len (rs := rs) (w := w) (n := x)) p
      have h2 := stepAt_len (rs := rs) (w := w) (n := spot)
      unfold stepAt at h2
      have h3 : p.length * rs.length ≤ 1000 * 1000 := Nat.mul_le_mul (by omega) hr
      refine ⟨by simp only [List.length_map, LIM]; omega, some (.frz (.int spot)), ?_⟩
      simp [stepAt]
  · rintro _ ⟨x3, rfl⟩
    simp! only [wss_cons]
    rfl
theorem steps_done {rs : List Rl} (hne : ∀ r ∈ rs, r.1 ≠ []) {w : Wd} {g : Nat × Nat → Wd} (hg : ∀ s r, rs[s.2]? = some r → g s = stp w s.1 r) : (stepsN rs w).map g = stepped rs w := by
  have key : ∀ spot, (stepAt rs w spot).map g = (rs.filter (hit w spot)).map (stp w spot) := fun spot => by
    unfold stepAt
    rw [List.map_filterMap]
    have e : ∀ p ∈ rs.zipIdx, (stq w spot p).map g = (fun r => if hit w spot r = true then some (stp w spot r) else none) p.1 := fun p hp => by
      have hp' := List.mem_zipIdx_iff_getElem?.mp hp
      unfold stq
      dsimp only
      split
      · rw [Option.map_some, hg (spot, p.2) p.1 (by simpa using hp')]
      · rfl
    rw [x_fm_congr e, x_fm_zip (fun r => if hit w spot r = true then some (stp w spot r) else none), x_fm_if]
  unfold stepsN stepped
  rw [List.range_succ, List.flatMap_append, List.map_append, List.map_flatMap]
  have e0 : ((List.flatMap (stepAt rs w) [w.length]).map g) = [] := by
    simp only [List.flatMap_cons, List.flatMap_nil, List.append_nil]
    rw [key, List.map_eq_nil_iff, List.filter_eq_nil_iff]
    intro r hr hh
    obtain ⟨a, b, h1, h2⟩ := (hit_iff (Nat.le_refl _)).mp hh
    have l := congrArg List.length h2
    simp only [List.length_append] at l
    exact hne r hr (List.length_eq_zero_iff.mp (by omega))
  rw [e0, List.append_nil]
  congr 1
  funext spot
  exact key spot
end Rk90
end
section
set_option linter.all false
namespace Rk90
open Dp Dw Rw Pk90
theorem r10 {k : Nat} {rs : List Rl} {w : Wd} {spot n : Nat} {r : Rl} (hr : rs[n]? = some r) (hw : w.length ≤ 1000) (h2 : r.2.length ≤ 1000) : CW (callF P (k + 1) (.fn 10) [.frz (.tup (rs.map rD)), .frz (.str w), .frz (.tup [.int spot, .int n])]) (Is (.frz (.str (stp w spot r)))) NoE := by
  refine cw_fn (show P.defs[10]? = some f10 from rfl) rfl ?_
  unfold f10
  simp! only [ix_t (show (rs.map rD)[n]? = some (rD r) by rw [List.getElem?_map, hr]; rfl), wss_cons]
  unfold rD
  simp! only [← Int.natCast_add, wss_cons]
  refine ⟨?_, ?_, rfl⟩
  · simp only [List.length_take, LIM]; omega
  · simp only [List.length_take, List.length_drop, List.length_append, LIM]; omega
theorem steps_hd {rs : List Rl} (hne : ∀ r ∈ rs, r.1 ≠ []) {w : Wd} : (stepsN rs w = [] → stepped rs w = []) ∧ ∀ s t, stepsN rs w = s :: t → ∃ r, r ∈ rs ∧ rs[s.2]? = some r ∧ ∃ l, stepped rs w = stp w s.1 r :: l := by
  have key := steps_done hne (w := w) (g := fun s => match rs[s.2]? with | some r => stp w s.1 r | none => []) fun s r h => by simp only [h]
  constructor
  · intro h
    rw [← key, h]
    rfl
  · intro s t h
    have hs : s ∈ stepsN rs w := by rw [h]; exact List.mem_cons_self
    unfold stepsN stepAt at hs
    simp only [List.mem_flatMap, List.mem_filterMap] at hs
    obtain ⟨spot, _, p, hp, e⟩ := hs
    unfold stq at e
    split at e
    · injection e with e
      subst e
      have hp' := List.mem_zipIdx_iff_getElem?.mp hp
      refine ⟨p.1, List.mem_of_getElem? hp', hp', ?_⟩
      rw [← key, h, List.map_cons]
      simp only [hp']
      exact ⟨_, rfl⟩
    · cases e
theorem rk_FU {w : Wd} (h : W3 w) (hl : w.length ≤ 20) : rk w < FU := by
  have := rk_hi h
  have h2 : 3 ^ (w.length + 1) ≤ 3 ^ 21 := Nat.pow_le_pow_right (by decide) (by omega)
  rw [FU_eq]
  have : (3 : Nat) ^ 21 = 10460353203 := by decide
  omega
theorem r11 {k : Nat} {rs : List Rl} {w : Wd} (G : Good rs) (hs : ∀ r ∈ rs, r.2.length ≤ 1000) (hn : rs.length ≤ 1000) (h3 : W3 w) (hl : w.length ≤ 20) : CW (callF P (k + 2) (.fn 11) [.frz (.tup (rs.map rD)), .frz (.str w)]) (Is (.frz (.str (last rs w)))) NoE := by
  refine cw_fn (show P.defs[11]? = some f11 from rfl) rfl ?_
  unfold f11
  simp! only [wss_cons]
  refine cw_mono (r9 (by omega) hn) (fun v _ h => ?_) fun _ _ h => h
  subst h
  simp! only [wss_cons]
  refine wp_whl (fun m ρ => ∃ u, ρ = [some (.frz (.tup (rs.map rD))), some (.frz (.str u)), some (.own (.lst ((stepsN rs u).map stD)))] ∧ W3 u ∧ u.length ≤ 20 ∧ last rs u = last rs w ∧ rk u = m) ?_ (m := rk w) ⟨w, rfl, h3, hl, rfl, rfl⟩ (rk_FU h3 hl)
  rintro m _ ⟨u, rfl, u3, ul, ue, rfl⟩
  obtain ⟨h1, h2⟩ := steps_hd G.ne (w := u)
  simp! only [List.length_map, wss_cons]
  cases e : stepsN rs u with
  | nil =>
    simp! only [wss_cons]
    simp! only [show decide ((0 : Int) < ((0 : Nat) : Int)) = false by decide, wss_cons]
    rw [← ue, last_nil (h1 e)]
  | cons s t =>
    obtain ⟨r, hr, h4, l, h5⟩ := h2 s t e
    have st := (mem_stepped G.ne).mp (h5 ▸ List.mem_cons_self : stp u s.1 r ∈ stepped rs u)
    simp! only [stD, decide_eq_true (show (0 : Int) < ((t.length + 1 : Nat) : Int) by omega), wss_cons]
    refine cw_mono (r10 h4 (by omega) (hs r hr)) (fun v _ h => ?_) fun _ _ h => h
    subst h
    simp! only [wss_cons]
    have sl := st.len G
    refine cw_mono (r9 (by omega) hn) (fun v _ h => ?_) fun _ _ h => h
    subst h
    simp! only [wss_cons]
    exact ⟨rk (stp u s.1 r), st.rk G u3, stp u s.1 r, rfl, st.w3 G u3, by omega, by rw [← ue]; exact (last_cons G u3 h5).symm, rfl⟩
end Rk90
end
section
set_option linter.all false
namespace Rk90
open Dp Dw Rw Pk90
theorem cw_is {c : Option CRes} {v : Vl} (h : CW c (Is v) NoE) : ∃ ps, c = some (.ok v, ps) := by
  unfold CW at h
  split at h
  · exact ⟨_, by rw [h]⟩
  · exact h.elim
  · exact h.elim
theorem keys_words {cal : Callee} {key : Nat} (hc : ∀ w, CW (cal (.lam key) [.frz (.str w)]) (Is (.frz (nearD w))) NoE) : ∀ ws : List Wd, keysBy cal key (ws.map D.str) = some (ws.map nearD)
  | [] => rfl
  | w :: r => by
    obtain ⟨ps, e⟩ := cw_is (hc w)
    rw [List.map_cons, List.map_cons]
    unfold keysBy
    rw [e]
    dsimp only
    rw [keys_words hc r]
theorem near_ltT (a b : Wd) : ltT (nearD a) (nearD b) = decide (Near a b) := by
  unfold ltT nearD
  simp only [tokD, tokL, List.cons_append, List.nil_append, lexT, ltTok, Int.lt_irrefl, decide_false, Bool.not_false, Bool.true_and, Bool.false_or, Bool.and_false, Bool.or_false]
  unfold Near
  by_cases h : a.length < b.length
  · simp [h]
  · by_cases h2 : a.length = b.length
    · by_cases h3 : a < b
      · simp [h2, h3]
      · simp [h2, h3]
    · have : b.length < a.length := by omega
      simp [h, h2, this]
def unstr : D → Wd
  | .str w => w
  | _ => []
theorem unstr_map (ws : List Wd) : (ws.map D.str).map unstr = ws := by
  rw [List.map_map]
  have : (unstr ∘ D.str) = id := rfl
  rw [this, List.map_id]
theorem near_ok (ws : List Wd) : sortOk (ws.map nearD) = true := by
  unfold sortOk
  simp only [Bool.and_eq_true, decide_eq_true_eq, Bool.or_eq_true]
  refine ⟨⟨depL_le fun x hx => ?_, ?_⟩, .inl ?_⟩
  · obtain ⟨w, _, rfl⟩ := List.mem_map.mp hx
    simp [nearD, dep, depL]
  · unfold allAlike
    simp only [List.all_eq_true, List.mem_map]
    rintro _ ⟨a, _, rfl⟩ _ ⟨b, _, rfl⟩
    simp [nearD, alikeD, alikeL]
  · simp only [List.all_eq_true, List.mem_map]
    rintro _ ⟨a, _, rfl⟩
    rfl
/-- sorted by nearness -/
theorem srt_words {cal : Callee} {key : Nat} (hc : ∀ w, CW (cal (.lam key) [.frz (.str w)]) (Is (.frz (nearD w))) NoE) {ws : List Wd} {d : D} (hd : seqK d = some (ws.map D.str)) : ∃ us : List Wd, srtKD cal key d = some (.own (.lst (us.map D.str))) ∧ us.Perm ws ∧ us.Pairwise fun a b => ¬ Near b a := by
  have ez : (ws.map D.str).zip (ws.map nearD) = ws.map fun w => (D.str w, nearD w) := by
    clear hd
    induction ws with
    | nil => rfl
    | cons w r ih => rw [List.map_cons, List.map_cons, List.zip_cons_cons, ih, List.map_cons]
  let S := sortP (ws.map fun w => (D.str w, nearD w))
  have hp : S.Perm (ws.map fun w => (D.str w, nearD w)) := x_sortP_perm _
  have hm : ∀ p ∈ S, p = (D.str (unstr p.1), nearD (unstr p.1)) := fun p h => by
    obtain ⟨w, _, rfl⟩ := List.mem_map.mp (hp.mem_iff.mp h)
    rfl
  refine ⟨S.map fun p => unstr p.1, ?_, ?_, ?_⟩
  · unfold srtKD
    rw [hd]
    dsimp only
    rw [keys_words hc]
    dsimp only
    rw [if_pos (near_ok ws), ez]
    show some (Vl.own (.lst (S.map (·.1)))) = _
    rw [List.map_map]
    congr 3
    apply List.map_congr_left
    intro p h
    rw [hm p h]
    rfl
  · have := hp.map fun p => unstr p.1
    rw [List.map_map] at this
    have e : ((fun p : D × D => unstr p.1) ∘ fun w => (D.str w, nearD w)) = id := rfl
    rw [e, List.map_id] at this
    exact this
  · rw [List.pairwise_map]
    have := x_sortP_pw (ws.map fun w => (D.str w, nearD w))
    refine List.Pairwise.imp_of_mem (fun {a b} ha hb h => ?_) this
    rw [hm a ha, hm b hb] at h
    simp only [near_ltT, decide_eq_false_iff_not] at h
    exact h
theorem rl0 {k : Nat} (w : Wd) : CW (callF P (k + 2) (.lam 0) [.frz (.str w)]) (Is (.frz (nearD w))) NoE := by
  refine cw_lamE (L := l0) (x := .call 6 (.cons (.var 0) .nil)) (show P.lams[0]? = some l0 from rfl) rfl rfl ?_
  show WP _ _ _ [some (Vl.frz (.str w))]
  simp! only [wss_cons]
  refine cw_mono r6 (fun v _ h => ?_) fun _ _ h => h
  subst h
  simp! only [wss_cons]
theorem in_words {v : Wd} : ∀ ws : List Wd, inL (.str v) (ws.map D.str) = some (decide (v ∈ ws))
  | [] => rfl
  | w :: r => by
    rw [List.map_cons]
    unfold inL
    rw [show eqD (.str w) (.str v) = some (w == v) by simp [eqD]]
    by_cases h : w = v
    · subst h; simp
    · have h' : ¬ v = w := fun z => h z.symm
      have : (w == v) = false := by simpa using h
      rw [this]
      dsimp only
      rw [in_words r]
      simp [h']
end Rk90
end
section
set_option linter.all false

namespace Rk90
open Dp Dw Rw Pk90
theorem RsOk.good {L : List Nat} {rs : List Rl} (h : RsOk L rs) : Good rs := by
  have l3 : ∀ c ∈ L, 97 ≤ c ∧ c ≤ 99 := by
    rcases h.lt with e | e | e <;> rw [e] <;> decide
  exact ⟨fun r hr c hc => l3 c ((h.one r hr).a c hc), fun r hr c hc => l3 c ((h.one r hr).b c hc), fun r hr => (h.one r hr).n⟩
theorem Lt.w3 {L : List Nat} (h : Lt L) {w : Wd} (hw : ∀ c ∈ w, c ∈ L) : W3 w := by
  have l3 : ∀ c ∈ L, 97 ≤ c ∧ c ≤ 99 := by
    rcases h with e | e | e <;> rw [e] <;> decide
  exact fun c hc => l3 c (hw c hc)
theorem put_new {fs : List Wd} {vs : List D} {v : Wd} (h : v ∉ fs) (hl : fs.length < LIM) : setD (.dct (fs.map D.str) vs) (.str v) (.bl true) = some (.dct ((fs ++ [v]).map D.str) (vs ++ [.bl true])) := by
  unfold setD putK
  dsimp only
  rw [if_pos ⟨rfl, by rw [List.length_map]; exact hl⟩, in_words, decide_eq_false h]
  simp
/-- what is gone through -/
structure Inv (rs : List Rl) (w : Wd) (ps wl fs : List Wd) : Prop where
  nd : fs.Nodup
  pm : fs.Perm (ps ++ wl)
  st : ∀ f ∈ fs, Star rs w f
  cl : ∀ p ∈ ps, ∀ v, Step rs p v → v ∈ fs
  w : w ∈ fs
theorem Inv.all {rs : List Rl} {w : Wd} {ps fs : List Wd} (h : Inv rs w ps [] fs) {u : Wd} (s0 : Star rs w u) : u ∈ ps := by
  have pm := h.pm
  rw [List.append_nil] at pm
  have h0 : w ∈ ps := pm.mem_iff.mp h.w
  have : ∀ a b, Star rs a b → a ∈ ps → b ∈ ps := fun a b s => by
    induction s with
    | refl => exact id
    | head t _ ih => exact fun ha => ih (pm.mem_iff.mp (h.cl _ ha _ t))
  exact this w u s0 h0
theorem Inv.len {rs : List Rl} {w : Wd} {ps wl fs : List Wd} (h : Inv rs w ps wl fs) (G : Good rs) (h3 : W3 w) (hl : w.length ≤ 6) : fs.length ≤ 1093 := by
  have hr : ∀ f ∈ fs, rk f < 1093 := fun f hf => by
    have k := rk_hi ((h.st f hf).w3 G h3)
    have l := (h.st f hf).len G
    have : (3 : Nat) ^ (f.length + 1) ≤ 3 ^ 7 := Nat.pow_le_pow_right (by decide) (by omega)
    have : (3 : Nat) ^ 7 = 2187 := by decide
    omega
  have nd : (fs.map rk).Nodup := by
    unfold List.Nodup
    rw [List.pairwise_map]
    refine List.Pairwise.imp_of_mem (fun {a b} ha hb hne z => hne ?_) h.nd
    exact rk_inj ((h.st a ha).w3 G h3) ((h.st b hb).w3 G h3) z
  have := x_nodup_lt nd (n := 1093) fun x hx => by
    obtain ⟨f, hf, rfl⟩ := List.mem_map.mp hx
    exact hr f hf
  rwa [List.length_map] at this
abbrev T1 (n : Nat) : List D := List.replicate n (.bl true)
/-- a word's later words put on the heap of what waits -/
structure Inn (fs0 wl0 p fs wl : List Wd) : Prop where
  ex : ∃ nw, fs = fs0 ++ nw ∧ wl = wl0 ++ nw ∧ (∀ v ∈ nw, v ∈ p)
  nd : fs.Nodup
  al : ∀ v ∈ p, v ∈ fs
theorem Inn.add {fs0 wl0 p fs wl : List Wd} (h : Inn fs0 wl0 p fs wl) {v : Wd} (hv : v ∉ fs) : Inn fs0 wl0 (p ++ [v]) (fs ++ [v]) (wl ++ [v]) := by
  obtain ⟨nw, e1, e2, e3⟩ := h.ex
  refine ⟨⟨nw ++ [v], by rw [e1, List.append_assoc], by rw [e2, List.append_assoc], fun x hx => ?_⟩, ?_, fun x hx => ?_⟩
  · rcases List.mem_append.mp hx with z | z
    · exact List.mem_append_left _ (e3 x z)
    · exact List.mem_append_right _ z
  · rw [List.nodup_append]
    refine ⟨h.nd, by simp, fun a ha b hb => ?_⟩
    rw [List.mem_singleton] at hb
    rintro rfl
    exact hv (hb ▸ ha)
  · rcases List.mem_append.mp hx with z | z
    · exact List.mem_append_left _ (h.al x z)
    · exact List.mem_append_right _ z
theorem Inn.skip {fs0 wl0 p fs wl : List Wd} (h : Inn fs0 wl0 p fs wl) {v : Wd} (hv : v ∈ fs) : Inn fs0 wl0 (p ++ [v]) fs wl := by
  obtain ⟨nw, e1, e2, e3⟩ := h.ex
  refine ⟨⟨nw, e1, e2, fun x hx => List.mem_append_left _ (e3 x hx)⟩, h.nd, fun x hx => ?_⟩
  rcases List.mem_append.mp hx with z | z
  · exact h.al x z
  · rw [List.mem_singleton.mp z]; exact hv
theorem Inn.inv {rs : List Rl} {w : Wd} (hne : ∀ r ∈ rs, r.1 ≠ []) {ps wl0 fs0 fs wl p : List Wd} {u : Wd} (h : Inv rs w ps (wl0 ++ [u]) fs0) (hp : ∀ v ∈ p, Step rs u v) (k : Inn fs0 wl0 p fs wl) (hw : ∀ v, Step rs u v → v ∈ p ∨ p = p) : Inv rs w ps (u :: wl) fs ∧ ∀ v ∈ p, v ∈ fs := by
  obtain ⟨nw, e1, e2, e3⟩ := k.ex
  refine ⟨⟨k.nd, ?_, fun f hf => ?_, fun q hq v s => ?_, ?_⟩, k.al⟩
  · subst e1 e2
    refine (h.pm.append_right nw).trans ?_
    rw [List.append_assoc, List.append_assoc]
    refine List.Perm.append_left ps ?_
    show (wl0 ++ ([u] ++ nw)).Perm (u :: (wl0 ++ nw))
    exact List.perm_middle
  · rw [e1] at hf
    rcases List.mem_append.mp hf with z | z
    · exact h.st f z
    · have hu : u ∈ fs0 := h.pm.mem_iff.mpr (by simp)
      exact (h.st u hu).trans (.one (hp f (e3 f z)))
  · rw [e1]
    exact List.mem_append_left _ (h.cl q hq v s)
  · rw [e1]
    exact List.mem_append_left _ h.w
abbrev b12 : Sms := (.cons (.ite (.cmp .nin (.var 9) (.var 3))
  (.cons (.seti 3 (.var 9) (.lit (.bl true)))
  (.cons (.exp (.mut .append 4 (.cons (.var 9) .nil)))
  (.cons (.ite (.cmp .gt (.bi .len (.cons (.var 3) .nil)) (.gcon 4))
  (.cons .bad
  .nil)
  .nil)
  .nil)))
  .nil)
  .nil)
theorem f12_for {k : Nat} {Q : Fl → Env → Prop} {E : Nat → Env → Prop} {A0 A1 A2 A5 A6 A7 A9 : Option Vl} {fs0 wl0 ls : List Wd} (h1 : fs0.Nodup) (hb : ∀ p fs wl, Inn fs0 wl0 p fs wl → (∀ v ∈ p, v ∈ ls) → fs.length ≤ 2000) (hw : wl0.length ≤ 2000)
    (hQ : ∀ fs wl x9, Inn fs0 wl0 ls fs wl → Q .nx [A0, A1, A2, some (.own (.dct (fs.map D.str) (T1 fs.length))), some (.own (.lst (wl.map D.str))), A5, A6, A7, none, x9]) :
    WP (forL (asgT [] (.name 9)) (evSs P (callF P k) [] b12) (ls.map D.str)) Q E [A0, A1, A2, some (.own (.dct (fs0.map D.str) (T1 fs0.length))), some (.own (.lst (wl0.map D.str))), A5, A6, A7, none, A9] := by
  refine wp_forN D.str (fun p ρ => ∃ fs wl x9, ρ = [A0, A1, A2, some (.own (.dct (fs.map D.str) (T1 fs.length))), some (.own (.lst (wl.map D.str))), A5, A6, A7, none, x9] ∧ Inn fs0 wl0 p fs wl ∧ ∀ v ∈ p, v ∈ ls) rfl ⟨fs0, wl0, A9, rfl, ⟨⟨[], by simp, by simp, by simp⟩, h1, by simp⟩, by simp⟩ ?_ ?_
  · rintro p v r _ hp ⟨fs, wl, x9, rfl, hI, hm⟩
    have hv : v ∈ ls := by rw [hp]; simp
    have hm' : ∀ x ∈ p ++ [v], x ∈ ls := fun x hx => by
      rcases List.mem_append.mp hx with z | z
      · exact hm x z
      · rw [List.mem_singleton.mp z]; exact hv
    have l0 := hb p fs wl hI hm
    obtain ⟨nw, e1, e2, _⟩ := hI.ex
    have lw : wl.length ≤ 4000 := by
      have a := congrArg List.length e1
      have b := congrArg List.length e2
      rw [List.length_append] at a b
      omega
    simp! only [show inD (D.str v) (.dct (fs.map D.str) (T1 fs.length)) = inL (D.str v) (fs.map D.str) from rfl, in_words, Option.map_some, List.length_map, wss_cons]
    by_cases h : v ∈ fs
    · simp! only [decide_eq_true h, wss_cons]
      exact ⟨fs, wl, _, rfl, hI.skip h, hm'⟩
    · simp! only [decide_eq_false h, put_new h (by simp only [LIM]; omega), wss_cons]
      have l1 := hb _ _ _ (hI.add h) hm'
      simp! only [List.length_map, show P.cons[4]? = some (.int 2000) from rfl, wss_cons]
      refine ⟨by simp only [LIM]; omega, ?_⟩
      simp! only [decide_eq_false (show ¬ (2000 : Int) < ((fs ++ [v]).length : Int) by omega), wss_cons]
      refine ⟨fs ++ [v], wl ++ [v], some (.frz (.str v)), ?_, hI.add h, hm'⟩
      simp! only [List.map_append, List.length_append, T1, List.replicate_succ', wss_cons]
  · rintro _ ⟨fs, wl, x9, rfl, hI, hm⟩
    exact hQ fs wl x9 hI
theorem r13 {k : Nat} {L : List Nat} {rs : List Rl} {w : Wd} (h : RsOk L rs) (hw : ∀ c ∈ w, c ∈ L) (hl : w.length ≤ 6) : CW (callF P (k + 4) (.fn 13) [.frz (.str L), .frz (.tup (rs.map rD)), .frz (.str w)]) (fun v _ => ∃ us : List Wd, v = .own (.lst (us.map D.str)) ∧ us.Nodup ∧ (us.Pairwise fun a b => ¬ Near b a) ∧ ∀ u, u ∈ us ↔ Star rs w u ∧ Rest rs u) NoE := by
  have G := h.good
  have h3 := h.lt.w3 hw
  have hn := h.n
  refine cw_fn (show P.defs[13]? = some f13 from rfl) rfl ?_
  unfold f13
  simp! only [wss_cons]
  refine cw_mono (r8 h) (fun v _ h => ?_) fun _ _ h => h
  subst h
  simp! only [wss_cons]
  refine cw_mono (r5 hw (by omega)) (fun v _ h => ?_) fun _ _ h => h
  subst h
  simp! only [show putAll [] [] [D.str w] [D.bl true] = some ([D.str w], [D.bl true]) by simp [putAll, putK, isKey, inL, LIM], wss_cons]
  refine wp_whl (fun m ρ => ∃ ps wl fs x6 x7 x9, ρ = [some (.frz (.str L)), some (.frz (.tup (rs.map rD))), some (.frz (.str w)), some (.own (.dct (fs.map D.str) (T1 fs.length))), some (.own (.lst (wl.map D.str))), some (.own (.lst ((ps.filter fun p => (stepped rs p).isEmpty).map D.str))), x6, x7, none, x9] ∧ Inv rs w ps wl fs ∧ m = 2000 - ps.length) ?_ (m := 2000) ⟨[], [w], [w], none, none, none, rfl, ⟨by simp, by simp, fun f hf => by rw [List.mem_singleton.mp hf]; exact .refl _, fun p hp => (by cases hp), by simp⟩, by simp⟩ (by rw [FU_eq]; omega)
  rintro m _ ⟨ps, wl, fs, x6, x7, x9, rfl, I, rfl⟩
  simp! only [List.length_map, wss_cons]
  have len := I.len G h3 hl
  have plen : ps.length + wl.length = fs.length := by rw [I.pm.length_eq, List.length_append]
  rcases List.eq_nil_or_concat wl with e | ⟨wl', u, e⟩
  · subst e
    simp! only [show decide ((0 : Int) < ((([] : List Wd).length : Nat) : Int)) = false from rfl, wss_cons]
    obtain ⟨us, e1, e2, e3⟩ := srt_words (cal := callF P (k + 3)) (key := 0) (ws := ps.filter fun p => (stepped rs p).isEmpty) (d := .lst ((ps.filter fun p => (stepped rs p).isEmpty).map D.str)) rl0 rfl
    rw [e1]
    simp! only [wss_cons]
    have pm := I.pm
    rw [List.append_nil] at pm
    refine ⟨us, rfl, ?_, e3, fun u => ?_⟩
    · exact (e2.nodup_iff).mpr ((pm.nodup_iff.mp I.nd).sublist List.filter_sublist)
    · rw [e2.mem_iff, List.mem_filter]
      constructor
      · rintro ⟨z1, z2⟩
        exact ⟨I.st u (pm.mem_iff.mpr z1), (rest_iff G).mpr (by simpa using z2)⟩
      · rintro ⟨z1, z2⟩
        exact ⟨I.all z1, by simpa using (rest_iff G).mp z2⟩
  · rw [List.concat_eq_append] at e
    subst e
    have hu : u ∈ fs := I.pm.mem_iff.mpr (by simp)
    have su := I.st u hu
    have lu := su.len G
    simp! only [List.length_append, decide_eq_true (show (0 : Int) < ((wl'.length + 1 : Nat) : Int) by omega), List.map_append, wss_cons]
    refine cw_mono (r9 (by omega) (by omega)) (fun v _ h => ?_) fun _ _ h => h
    subst h
    simp! only [wss_cons]
    let g : Nat × Nat → Wd := fun s => match rs[s.2]? with | some r => stp u s.1 r | none => []
    have hg : (stepsN rs u).map g = stepped rs u := steps_done G.ne fun s r h => by simp only [g, h]
    have sl : (stepped rs u).length ≤ 1000 := by
      rw [← hg, List.length_map]
      have := stepsN_len (rs := rs) (w := u)
      have : (u.length + 1) * rs.length ≤ 7 * 12 := Nat.mul_le_mul (by omega) hn
      omega
    refine wp_compM stD (fun s => D.str (g s)) rfl (by rw [← List.length_map (f := g), hg]; simp only [LIM]; omega) ?_ ?_
    · intro s hs
      have hs' : ∃ r, r ∈ rs ∧ rs[s.2]? = some r := by
        unfold stepsN stepAt at hs
        simp only [List.mem_flatMap, List.mem_filterMap] at hs
        obtain ⟨spot, _, p, hp, e⟩ := hs
        unfold stq at e
        split at e
        · injection e with e
          subst e
          have hp' := List.mem_zipIdx_iff_getElem?.mp hp
          exact ⟨p.1, List.mem_of_getElem? hp', hp'⟩
        · cases e
      obtain ⟨r, hr, e⟩ := hs'
      simp! only [stD, wss_cons]
      refine cw_mono (r10 e (by omega) (by have := (h.one r hr).l2; omega)) (fun v _ h => ?_) fun _ _ h => h
      subst h
      simp! only [g, e, wss_cons]
    · rw [show (stepsN rs u).map (fun s => D.str (g s)) = (stepped rs u).map D.str by rw [← hg, List.map_map]; rfl]
      simp! only [List.length_map, wss_cons]
      have hp : ∀ v ∈ stepped rs u, Step rs u v := fun v hv => (mem_stepped G.ne).mp hv
      have inv' : ∀ p fs' wl, Inn fs wl' p fs' wl → (∀ v ∈ p, v ∈ stepped rs u) → Inv rs w ps (u :: wl) fs' := fun p fs' wl hI hm => (Inn.inv G.ne I (fun v hv => hp v (hm v hv)) hI fun _ _ => .inr rfl).1
      have fin : ∀ fs' wl, Inn fs wl' (stepped rs u) fs' wl → Inv rs w (ps ++ [u]) wl fs' := fun fs' wl hI => by
        have J := inv' _ _ _ hI fun _ h => h
        refine ⟨J.nd, J.pm.trans (by simp), J.st, fun p hq v s => ?_, J.w⟩
        rcases List.mem_append.mp hq with z | z
        · exact J.cl p z v s
        · rw [List.mem_singleton.mp z] at s
          exact hI.al v ((mem_stepped G.ne).mpr s)
      have bd : ∀ p fs' wl, Inn fs wl' p fs' wl → (∀ v ∈ p, v ∈ stepped rs u) → fs'.length ≤ 2000 := fun p fs' wl hI hm => by
        have := (inv' p fs' wl hI hm).len G h3 hl
        omega
      rw [List.length_append, List.length_singleton] at plen
      by_cases e : stepped rs u = []
      · simp! only [e, List.length_nil, show (((0 : Nat) : Int) == 0) = true from rfl, List.length_map, wss_cons]
        refine ⟨by have := List.length_filter_le (fun p => (stepped rs p).isEmpty) ps; simp only [LIM]; omega, ?_⟩
        rw [show ([] : List D) = (stepped rs u).map D.str by rw [e]; rfl]
        refine f12_for I.nd bd (by omega) fun fs' wl x9 hI => ?_
        simp! only [wss_cons]
        refine ⟨2000 - (ps ++ [u]).length, by rw [List.length_append, List.length_singleton]; omega, ps ++ [u], wl, fs', some (.frz (.str u)), some (.frz (.lst ((stepped rs u).map D.str))), x9, ?_, fin fs' wl hI, rfl⟩
        rw [List.filter_append, List.map_append]
        simp! only [e, List.filter_cons, List.isEmpty_nil, List.filter_nil, wss_cons]
      · have e2 : (((stepped rs u).length : Int) == 0) = false := by
          rw [beq_eq_false_iff_ne]
          intro z
          exact e (List.length_eq_zero_iff.mp (by omega))
        simp! only [e2, wss_cons]
        refine f12_for I.nd bd (by omega) fun fs' wl x9 hI => ?_
        simp! only [wss_cons]
        refine ⟨2000 - (ps ++ [u]).length, by rw [List.length_append, List.length_singleton]; omega, ps ++ [u], wl, fs', some (.frz (.str u)), some (.frz (.lst ((stepped rs u).map D.str))), x9, ?_, fin fs' wl hI, rfl⟩
        rw [List.filter_append]
        have e3 : (stepped rs u).isEmpty = false := by
          rw [Bool.eq_false_iff]
          intro z
          exact e (List.isEmpty_iff.mp z)
        simp! only [e3, List.filter_cons, List.filter_nil, wss_cons]
end Rk90
end
section
set_option linter.all false
namespace Rk90
open Dp Dw Rw Pk90
theorem allAlike_map {τ : Type} {f : τ → D} (h : ∀ a b, alikeD (f a) (f b) = true) (l : List τ) : allAlike (l.map f) = true := by
  unfold allAlike
  simp only [List.all_eq_true, List.mem_map]
  rintro _ ⟨a, _, rfl⟩ _ ⟨b, _, rfl⟩
  exact h a b
theorem depL_map {τ : Type} {f : τ → D} {n : Nat} (h : ∀ a, dep (f a) ≤ n) (l : List τ) : depL (l.map f) ≤ n := depL_le fun x hx => by
  obtain ⟨a, _, rfl⟩ := List.mem_map.mp hx
  exact h a
theorem d14 : P.defs[14]? = some drawDef := rfl
theorem d15 : P.defs[15]? = some (someDef 14) := rfl
theorem d16 : P.defs[16]? = some (isDef 16) := rfl
theorem d17 : P.defs[17]? = some handDef := rfl
theorem d19 : P.defs[19]? = some (dwDef 15 14) := rfl
/-! ### steps of the law -/
theorem r22 {k : Nat} {rs : List Rl} {w : Wd} (hw : w.length ≤ 1000) (hr : rs.length ≤ 1000) (h2 : ∀ r ∈ rs, r.2.length ≤ 1000) : CW (callF P (k + 1) (.fn 22) [.frz (.tup (rs.map rD)), .frz (.str w)]) (Is (.own (.lst ((stepped rs w).map D.str)))) NoE := by
  refine cw_fn (show P.defs[22]? = some f22 from rfl) rfl ?_
  unfold f22
  rw [wss_cons]
  simp! only [true_and]
  rw [wss_cons]
  simp! only [true_and]
  refine ⟨by omega, ?_⟩
  have sl : ∀ spot, ((rs.filter (hit w spot)).map (stp w spot)).length ≤ rs.length := fun spot => by
    rw [List.length_map]
    exact List.length_filter_le _ _
  refine wp_forN (fun (k : Nat) => D.int k) (fun p ρ => ∃ x3 x4, ρ = [some (.frz (.tup (rs.map rD))), some (.frz (.str w)), some (.own (.lst ((p.flatMap fun spot => (rs.filter (hit w spot)).map (stp w spot)).map D.str))), x3, x4, none, none]) rng_map ⟨none, none, rfl⟩ ?_ ?_
  · rintro p spot r _ hp ⟨x3, x4, rfl⟩
    have hl := congrArg List.length hp
    simp only [List.length_range, List.length_append, List.length_cons] at hl
    simp! only [true_and]
    rw [wss_cons]
    simp! only [true_and]
    refine wp_compN rD (fun r => if hit w spot r = true then some r else none) rD rfl (by simp only [LIM]; omega) ?_ ?_
    · intro x hx
      rw [show rD x = .tup [.str x.1, .str x.2] from rfl]
      simp! only [← Int.natCast_add]
      unfold hit
      by_cases h : (w.take (spot + x.1.length)).drop spot = x.1 <;> simp [h, rD]
    · have ef : (rs.filterMap fun r => if hit w spot r = true then some r else none) = rs.filter (hit w spot) := by
        have := x_fm_if (hit w spot) id rs
        simpa using this
      rw [ef]
      simp! only [true_and]
      rw [wss_cons]
      simp! only [true_and]
      refine wp_compM rD (fun r => D.str (stp w spot r)) rfl (by have := List.length_filter_le (hit w spot) rs; simp only [LIM]; omega) ?_ ?_
      · intro x hx
        have := h2 x (List.mem_filter.mp hx).1
        rw [show rD x = .tup [.str x.1, .str x.2] from rfl]
        simp! only [← Int.natCast_add]
        refine ⟨?_, ?_, rfl⟩
        · simp only [List.length_take, LIM]; omega
        · simp only [List.length_append, List.length_take, List.length_drop, LIM]; omega
      · simp! only [List.length_map, wss_cons]
        have h3 := flat_len sl p
        have h4 := sl spot
        rw [List.length_map] at h4
        have h5 : p.length * rs.length ≤ 1000 * 1000 := Nat.mul_le_mul (by omega) hr
        refine ⟨by simp only [LIM]; omega, some (.frz (.int spot)), some (.frz (.lst ((rs.filter (hit w spot)).map rD))), ?_⟩
        rw [List.flatMap_append, List.map_append]
        simp only [List.flatMap_cons, List.flatMap_nil, List.append_nil, List.map_map]
        rfl
  · rintro _ ⟨x3, x4, rfl⟩
    simp! only [wss_cons]
    rfl
theorem r23 {k : Nat} {rs : List Rl} {w : Wd} (G : Good rs) (hs : ∀ r ∈ rs, r.2.length ≤ 1000) (hn : rs.length ≤ 1000) (h3 : W3 w) (hl : w.length ≤ 20) : CW (callF P (k + 2) (.fn 23) [.frz (.tup (rs.map rD)), .frz (.str w)]) (Is (.frz (.str (last rs w)))) NoE := by
  refine cw_fn (show P.defs[23]? = some f23 from rfl) rfl ?_
  unfold f23
  rw [wss_cons]
  simp! only [true_and]
  refine cw_mono (r22 (by omega) hn hs) (fun v ps h => ?_) fun _ _ h => h
  subst h
  simp! only [true_and]
  rw [wss_cons]
  simp! only [true_and]
  refine wp_whl (fun m ρ => ∃ u, ρ = [some (.frz (.tup (rs.map rD))), some (.frz (.str w)), some (.frz (.str u)), some (.own (.lst ((stepped rs u).map D.str)))] ∧ W3 u ∧ u.length ≤ 20 ∧ last rs u = last rs w ∧ rk u = m) ?_ (m := rk w) ⟨w, rfl, h3, hl, rfl, rfl⟩ (rk_FU h3 hl)
  rintro m _ ⟨u, rfl, u3, ul, ue, rfl⟩
  have ce : ∀ l : List Wd, cmpD .ne (.lst (l.map D.str)) (.lst []) = some (!l.isEmpty) := fun l => by
    show (if dep (.lst (l.map D.str)) ≤ 60 ∧ dep (.lst []) ≤ 60 then (eqD (.lst (l.map D.str)) (.lst [])).map (!·) else none) = _
    rw [if_pos ⟨by rw [dep_lst]; have := depL_map (f := D.str) (n := 0) (fun a => by simp [dep]) l; omega, by simp [dep, depL]⟩]
    cases l <;> simp [eqD, eqL]
  simp! only [ce]
  cases e : stepped rs u with
  | nil =>
    simp! only [List.isEmpty_nil, wss_cons]
    rw [← ue, last_nil e]
  | cons s t =>
    have st := (mem_stepped G.ne).mp (e ▸ List.mem_cons_self : s ∈ stepped rs u)
    simp! only [List.isEmpty_cons]
    rw [wss_cons]
    simp! only [true_and]
    rw [wss_cons]
    simp! only [true_and]
    have sl := st.len G
    refine cw_mono (r22 (by omega) hn hs) (fun v ps h => ?_) fun _ _ h => h
    subst h
    simp! only [wss_cons]
    exact ⟨rk s, st.rk G u3, s, rfl, st.w3 G u3, by omega, by rw [← ue]; exact (last_cons G u3 e).symm, rfl⟩
def unrD : D → Rl
  | .tup [.str a, .str b] => (a, b)
  | _ => ([], [])
theorem rD_inj {a b : Rl} (h : rD a = rD b) : a = b := congrArg unrD h
theorem in_rD (r : Rl) (fs : List Rl) : inD (.tup [.str r.1, .str r.2]) (.lst (fs.map rD)) = some (decide (r ∈ fs)) := by
  show (if dep (rD r) ≤ 60 ∧ depL (fs.map rD) ≤ 60 then inL (rD r) (fs.map rD) else none) = _
  rw [if_pos ⟨by simp [rD, dep, depL], Nat.le_trans (depL_map (n := 1) (fun a => by simp [rD, dep, depL]) fs) (by decide)⟩]
  obtain ⟨b, e1, e2⟩ := x_inL (k := rD r) (by simp [rD, plD, plL]) (l := fs.map rD) (x_plL.mpr fun x hx => by
    obtain ⟨a, _, rfl⟩ := List.mem_map.mp hx
    simp [rD, plD, plL])
  rw [e1]
  have : rD r ∈ fs.map rD ↔ r ∈ fs := by
    rw [List.mem_map]
    constructor
    · rintro ⟨a, h1, h2⟩
      rw [← rD_inj h2]; exact h1
    · exact fun h => ⟨r, h, rfl⟩
  rw [this] at e2
  congr 1
  rw [Bool.eq_iff_iff, e2, decide_eq_true_eq]
theorem rD_lt (a b : Rl) : cmpD .lt (rD a) (rD b) = some (ltT (rD a) (rD b)) := by
  show (if dep (rD a) ≤ 60 ∧ dep (rD b) ≤ 60 then ltD (rD a) (rD b) else none) = _
  rw [if_pos (by simp [rD, dep, depL])]
  obtain ⟨a, c⟩ := a
  obtain ⟨b, d⟩ := b
  unfold ltT rD
  simp only [tokD, tokL, List.cons_append, List.nil_append, lexT, ltTok, Int.lt_irrefl, decide_false, Bool.not_false, Bool.true_and, Bool.false_or, Bool.and_false, Bool.or_false, ltD, ltL, eqD]
  by_cases h : a = b
  · subst h
    simp only [beq_self_eq_true, List.lt_irrefl, decide_false, Bool.not_false, Bool.true_and, Bool.false_or]
    by_cases h2 : c = d
    · subst h2; simp [List.lt_irrefl]
    · have : (c == d) = false := by simpa using h2
      simp [this]
  · have e : (a == b) = false := by simpa using h
    rw [e]
    dsimp only
    have key : (decide (a < b) || !decide (b < a) && (decide (c < d))) = decide (a < b) := by
      by_cases h1 : a < b
      · simp [h1]
      · have h2 : b < a := by
          apply Classical.byContradiction
          intro h2
          exact h (List.le_antisymm (List.not_lt.mp h2) (List.not_lt.mp h1))
        simp [h1, h2]
    rw [key]
    by_cases h2 : c = d
    · subst h2; simp
    · have : (c == d) = false := by simpa using h2
      simp [this]
theorem srt_rules {fs : List Rl} (nd : fs.Nodup) : ∃ rs : List Rl, sortD (fs.map rD) = some (rs.map rD) ∧ rs.Perm fs ∧ Asc rs := by
  have ok : sortOk (fs.map rD) = true := by
    unfold sortOk
    simp only [Bool.and_eq_true, decide_eq_true_eq, Bool.or_eq_true]
    refine ⟨⟨Nat.le_trans (depL_map (n := 1) (fun a => ?_) fs) (by decide), allAlike_map (fun a b => ?_) fs⟩, .inl ?_⟩
    · simp [rD, dep, depL]
    · simp [rD, alikeD, alikeL]
    · simp only [List.all_eq_true, List.mem_map]
      rintro _ ⟨a, _, rfl⟩
      rfl
  have hp := x_sort_perm (fs.map rD)
  have hw := x_sort_pw (fs.map rD)
  have hm : ∀ x ∈ sortT (fs.map rD), rD (unrD x) = x := fun x hx => by
    obtain ⟨a, _, rfl⟩ := List.mem_map.mp (hp.mem_iff.mp hx)
    rfl
  have e : ((sortT (fs.map rD)).map unrD).map rD = sortT (fs.map rD) := by
    rw [List.map_map]
    conv => rhs; rw [← List.map_id (sortT (fs.map rD))]
    exact List.map_congr_left hm
  refine ⟨(sortT (fs.map rD)).map unrD, ?_, ?_, ?_⟩
  · unfold sortD; rw [if_pos ok, e]
  · have := hp.map unrD
    rw [List.map_map] at this
    have e2 : (unrD ∘ rD) = id := rfl
    rw [e2, List.map_id] at this
    exact this
  · have nd2 : ((sortT (fs.map rD)).map unrD).Nodup := by
      have := hp.map unrD
      rw [List.map_map] at this
      have e2 : (unrD ∘ rD) = id := rfl
      rw [e2, List.map_id] at this
      exact this.nodup_iff.mpr nd
    intro i a b ha hb
    rw [rD_lt]
    have hl : i + 1 < ((sortT (fs.map rD)).map unrD).length := by
      apply Classical.byContradiction
      intro z
      rw [List.getElem?_eq_none (by omega)] at hb
      cases hb
    have pw : ((sortT (fs.map rD)).map unrD).Pairwise fun a b => ltT (rD b) (rD a) = false ∧ a ≠ b := by
      refine List.Pairwise.and ?_ nd2
      rw [List.pairwise_map]
      refine List.Pairwise.imp_of_mem (fun {x y} hx hy h => ?_) hw
      rw [hm x hx, hm y hy]
      exact h
    have := List.pairwise_iff_getElem.mp pw i (i + 1) (by omega) hl (by omega)
    rw [List.getElem?_eq_getElem (by omega)] at ha hb
    injection ha with ha
    injection hb with hb
    rw [ha, hb] at this
    congr 1
    cases e3 : ltT (rD a) (rD b) with
    | true => rfl
    | false =>
      have t := x_lex_total e3 this.1
      exfalso
      apply this.2
      have : rD a = rD b := by
        unfold rD at t ⊢
        simp only [tokD, tokL, List.cons_append, List.nil_append] at t
        injection t with _ t
        injection t with t1 t
        injection t with _ t
        injection t with t2 _
        injection t1 with t1
        injection t2 with t2
        rw [t1, t2]
      exact rD_inj this
theorem r21 {k : Nat} {L : List Nat} (hL : Lt L) {h : D} (H : HandOk h) {most long short : Nat} (hm : most ≤ 12) (hlo : long + 1 ≤ 6) (hsh : short ≤ 6) : CW (callF P (k + 4) (.fn 21) [.own h, .frz (.str L), .frz (.int most), .frz (.int ((long + 1 : Nat) : Int)), .frz (.int short)]) (fun v ps => ∃ rs h', v = .frz (.tup (rs.map rD)) ∧ RsOk L rs ∧ (∀ r ∈ rs, r.1.length ≤ long + 1) ∧ HandOk h' ∧ ps = [some (.own h'), some (.frz (.str L)), some (.frz (.int most)), some (.frz (.int ((long + 1 : Nat) : Int))), some (.frz (.int short))]) NoE := by
  have L1 : 0 < L.length := by rcases hL with e | e | e <;> rw [e] <;> decide
  have L2 : L.length < 2 ^ 63 := by rcases hL with e | e | e <;> rw [e] <;> decide
  refine cw_fn (show P.defs[21]? = some f21 from rfl) rfl ?_
  unfold f21
  rw [wss_cons]
  simp! only [true_and]
  rw [wss_cons]
  simp! only [true_and]
  refine cw_mono (g_draw (n := (most : Int) + 1) d14 H (by omega) (by omega)) (fun v ps z => ?_) fun _ _ h => h
  obtain ⟨m, h', rfl, h1, h2, rfl⟩ := z
  simp! only [true_and]
  refine ⟨by omega, ?_⟩
  refine wp_forN (fun (k : Nat) => D.int k) (fun p ρ => ∃ h' fs x6 x7 x8, ρ = [some (.own h'), some (.frz (.str L)), some (.frz (.int most)), some (.frz (.int ((long + 1 : Nat) : Int))), some (.frz (.int short)), some (.own (.lst (fs.map rD))), x6, x7, x8] ∧ HandOk h' ∧ fs.Nodup ∧ (∀ r ∈ fs, RlOk L r ∧ r.1.length ≤ long + 1) ∧ fs.length ≤ p.length) rng_map ⟨h', [], none, none, none, rfl, h2, by simp, by simp, by simp⟩ ?_ ?_
  · rintro p lap q _ hp ⟨h', fs, x6, x7, x8, rfl, H', nd, ok, fl⟩
    have hl := congrArg List.length hp
    simp only [List.length_range, List.length_append, List.length_cons] at hl
    simp! only [true_and]
    rw [wss_cons]
    simp! only [true_and]
    refine cw_mono (g_some_s d14 d15 H' L1 L2) (fun v ps z => ?_) fun _ _ h => h
    obtain ⟨c, h3, rfl, hc, H3, rfl⟩ := z
    simp! only [true_and]
    have el : ((long + 1 : Nat) : Int) - 1 = (long : Int) := by omega
    simp! only [el]
    refine cw_mono (g_dw d14 d15 d19 H3 L1 L2 (by omega)) (fun v ps z => ?_) fun _ _ h => h
    obtain ⟨w, h4, rfl, hw, wl, H4, rfl⟩ := z
    simp! only [true_and]
    refine ⟨by simp only [LIM]; omega, ?_⟩
    rw [wss_cons]
    simp! only [true_and]
    refine cw_mono (g_dw d14 d15 d19 H4 L1 L2 (by omega)) (fun v ps z => ?_) fun _ _ h => h
    obtain ⟨u, h5, rfl, hu, ul, H5, rfl⟩ := z
    simp! only [true_and]
    rw [wss_cons]
    simp! only [true_and]
    refine cw_mono r20 (fun v _ h => ?_) fun _ _ h => h
    subst h
    simp! only [true_and]
    refine cw_mono r20 (fun v _ h => ?_) fun _ _ h => h
    subst h
    simp! only [noObj_near, near_cmp]
    by_cases hn : Near u (c :: w)
    · have in2 := in_rD (c :: w, u) fs
      dsimp only at in2
      simp! only [decide_eq_true hn, in2, Option.map_some]
      by_cases hi : (c :: w, u) ∈ fs
      · simp! only [decide_eq_true hi, wss_cons]
        exact ⟨h5, fs, _, _, _, rfl, H5, nd, ok, by simp only [List.length_append]; omega⟩
      · simp! only [decide_eq_false hi, List.length_map, wss_cons]
        refine ⟨by simp only [LIM]; omega, h5, fs ++ [(c :: w, u)], some (.frz (.int lap)), some (.frz (.str (c :: w))), some (.frz (.str u)), ?_, H5, ?_, ?_, by simp only [List.length_append, List.length_singleton]; omega⟩
        · simp [rD]
        · rw [List.nodup_append]
          refine ⟨nd, by simp, fun a ha b hb => ?_⟩
          rw [List.mem_singleton] at hb
          rintro rfl
          exact hi (hb ▸ ha)
        · intro r hr
          rcases List.mem_append.mp hr with z | z
          · exact ok r z
          · rw [List.mem_singleton.mp z]
            have lw : (c :: w).length ≤ long + 1 := by simp only [List.length_cons]; omega
            refine ⟨⟨fun d hd => ?_, hu, by dsimp only; omega, hn⟩, lw⟩
            rcases List.mem_cons.mp hd with z | z
            · rw [z]; exact hc
            · exact hw d z
    · simp! only [decide_eq_false hn, wss_cons]
      exact ⟨h5, fs, _, _, _, rfl, H5, nd, ok, by simp only [List.length_append]; omega⟩
  · rintro _ ⟨h', fs, x6, x7, x8, rfl, H', nd, ok, fl⟩
    simp only [List.length_range] at fl
    obtain ⟨rs, e1, e2, e3⟩ := srt_rules nd
    simp! only [e1, Option.map_some, wss_cons]
    refine ⟨rs, h', rfl, ⟨hL, fun r hr => (ok r (e2.mem_iff.mp hr)).1, by rw [e2.length_eq]; omega, e3⟩, fun r hr => (ok r (e2.mem_iff.mp hr)).2, H', rfl⟩
end Rk90
end
section
set_option linter.all false
namespace Rk90
open Dp Dw Rw Pk90
/-- sorted, nothing twice: told by what is in it -/
theorem srt_one {us vs : List Wd} (n1 : us.Nodup) (n2 : vs.Nodup) (p1 : us.Pairwise fun a b => ¬ Near b a) (p2 : vs.Pairwise fun a b => ¬ Near b a) (h : ∀ u, u ∈ us ↔ u ∈ vs) : us = vs :=
  List.Perm.eq_of_pairwise (le := fun a b => ¬ Near b a) (fun a b _ _ h1 h2 => near_tri h2 h1) p1 p2 ((List.perm_ext_iff_of_nodup n1 n2).mpr h)
def unnear : D → Wd
  | .tup [_, .str w] => w
  | _ => []
theorem srt_near (ws : List Wd) : ∃ us : List Wd, sortD (ws.map nearD) = some (us.map nearD) ∧ us.Perm ws ∧ us.Pairwise fun a b => ¬ Near b a := by
  have hp := x_sort_perm (ws.map nearD)
  have hw := x_sort_pw (ws.map nearD)
  have hm : ∀ x ∈ sortT (ws.map nearD), nearD (unnear x) = x := fun x hx => by
    obtain ⟨a, _, rfl⟩ := List.mem_map.mp (hp.mem_iff.mp hx)
    rfl
  refine ⟨(sortT (ws.map nearD)).map unnear, ?_, ?_, ?_⟩
  · unfold sortD
    rw [if_pos (near_ok ws), List.map_map]
    congr 1
    conv => lhs; rw [← List.map_id (sortT (ws.map nearD))]
    exact (List.map_congr_left hm).symm
  · have := hp.map unnear
    rw [List.map_map] at this
    have e2 : (unnear ∘ nearD) = id := rfl
    rw [e2, List.map_id] at this
    exact this
  · rw [List.pairwise_map]
    refine List.Pairwise.imp_of_mem (fun {x y} hx hy h => ?_) hw
    rw [← hm x hx, ← hm y hy] at h
    rw [near_ltT, decide_eq_false_iff_not] at h
    exact h
theorem r12 {k : Nat} {L : List Nat} {rs : List Rl} {w : Wd} (h : RsOk L rs) (hw : ∀ c ∈ w, c ∈ L) (hl : w.length ≤ 20) : CW (callF P (k + 4) (.fn 12) [.frz (.str L), .frz (.tup (rs.map rD)), .frz (.str w)]) (Is (.frz (.str (last rs w)))) NoE := by
  refine cw_fn (show P.defs[12]? = some f12 from rfl) rfl ?_
  unfold f12
  simp! only [wss_cons]
  refine cw_mono (r8 h) (fun v _ h => ?_) fun _ _ h => h
  subst h
  simp! only [wss_cons]
  refine cw_mono (r5 hw (by omega)) (fun v _ h => ?_) fun _ _ h => h
  subst h
  simp! only [wss_cons]
  refine cw_mono (r11 h.good (fun r hr => by have := (h.one r hr).l2; omega) (by have := h.n; omega) (h.lt.w3 hw) hl) (fun v _ h => ?_) fun _ _ h => h
  subst h
  simp! only [wss_cons]
abbrev b24 : Sms := (.cons (.ite (.cmp .nin (.var 4) (.var 2))
  (.cons (.seti 2 (.var 4) (.lit (.bl true)))
  (.cons (.exp (.mut .append 3 (.cons (.var 4) .nil)))
  .nil))
  .nil)
  .nil)
theorem f24_for {k : Nat} {Q : Fl → Env → Prop} {E : Nat → Env → Prop} {A0 A1 A4 : Option Vl} {fs0 wl0 ls : List Wd} (h1 : fs0.Nodup) (hb : ∀ p fs wl, Inn fs0 wl0 p fs wl → (∀ v ∈ p, v ∈ ls) → fs.length ≤ 2000) (hw : wl0.length ≤ 2000)
    (hQ : ∀ fs wl x4, Inn fs0 wl0 ls fs wl → Q .nx [A0, A1, some (.own (.dct (fs.map D.str) (T1 fs.length))), some (.own (.lst (wl.map D.str))), x4]) :
    WP (forL (asgT [] (.name 4)) (evSs P (callF P k) [] b24) (ls.map D.str)) Q E [A0, A1, some (.own (.dct (fs0.map D.str) (T1 fs0.length))), some (.own (.lst (wl0.map D.str))), A4] := by
  refine wp_forN D.str (fun p ρ => ∃ fs wl x4, ρ = [A0, A1, some (.own (.dct (fs.map D.str) (T1 fs.length))), some (.own (.lst (wl.map D.str))), x4] ∧ Inn fs0 wl0 p fs wl ∧ ∀ v ∈ p, v ∈ ls) rfl ⟨fs0, wl0, A4, rfl, ⟨⟨[], by simp, by simp, by simp⟩, h1, by simp⟩, by simp⟩ ?_ ?_
  · rintro p v r _ hp ⟨fs, wl, x4, rfl, hI, hm⟩
    have hv : v ∈ ls := by rw [hp]; simp
    have hm' : ∀ x ∈ p ++ [v], x ∈ ls := fun x hx => by
      rcases List.mem_append.mp hx with z | z
      · exact hm x z
      · rw [List.mem_singleton.mp z]; exact hv
    have l0 := hb p fs wl hI hm
    obtain ⟨nw, e1, e2, _⟩ := hI.ex
    have lw : wl.length ≤ 4000 := by
      have a := congrArg List.length e1
      have b := congrArg List.length e2
      rw [List.length_append] at a b
      omega
    simp! only [show inD (D.str v) (.dct (fs.map D.str) (T1 fs.length)) = inL (D.str v) (fs.map D.str) from rfl, in_words, Option.map_some, List.length_map, wss_cons]
    by_cases h : v ∈ fs
    · simp! only [decide_eq_true h, wss_cons]
      exact ⟨fs, wl, _, rfl, hI.skip h, hm'⟩
    · simp! only [decide_eq_false h, put_new h (by simp only [LIM]; omega), List.length_map, wss_cons]
      refine ⟨by simp only [LIM]; omega, ?_⟩
      refine ⟨fs ++ [v], wl ++ [v], some (.frz (.str v)), ?_, hI.add h, hm'⟩
      simp! only [List.map_append, List.length_append, T1, List.replicate_succ', wss_cons]
  · rintro _ ⟨fs, wl, x4, rfl, hI, hm⟩
    exact hQ fs wl x4 hI
theorem ne_nil (l : List Wd) : cmpD .ne (.lst (l.map D.str)) (.lst []) = some (!l.isEmpty) := by
  show (if dep (.lst (l.map D.str)) ≤ 60 ∧ dep (.lst []) ≤ 60 then (eqD (.lst (l.map D.str)) (.lst [])).map (!·) else none) = _
  rw [if_pos ⟨by rw [dep_lst]; have := depL_map (f := D.str) (n := 0) (fun a => by simp [dep]) l; omega, by simp [dep, depL]⟩]
  cases l <;> simp [eqD, eqL]
theorem eq_nil (l : List Wd) : cmpD .eq (.lst (l.map D.str)) (.lst []) = some l.isEmpty := by
  show (if dep (.lst (l.map D.str)) ≤ 60 ∧ dep (.lst []) ≤ 60 then eqD (.lst (l.map D.str)) (.lst []) else none) = _
  rw [if_pos ⟨by rw [dep_lst]; have := depL_map (f := D.str) (n := 0) (fun a => by simp [dep]) l; omega, by simp [dep, depL]⟩]
  cases l <;> simp [eqD, eqL]
theorem r24 {k : Nat} {rs : List Rl} {w : Wd} (G : Good rs) (hs : ∀ r ∈ rs, r.2.length ≤ 1000) (hn : rs.length ≤ 12) (h3 : W3 w) (hl : w.length ≤ 6) : CW (callF P (k + 2) (.fn 24) [.frz (.tup (rs.map rD)), .frz (.str w)]) (fun v _ => ∃ fs : List Wd, v = .own (.dct (fs.map D.str) (T1 fs.length)) ∧ fs.Nodup ∧ fs.length ≤ 1093 ∧ ∀ u, u ∈ fs ↔ Star rs w u) NoE := by
  refine cw_fn (show P.defs[24]? = some f24 from rfl) rfl ?_
  unfold f24
  rw [wss_cons]
  simp! only [show putAll [] [] [D.str w] [D.bl true] = some ([D.str w], [D.bl true]) by simp [putAll, putK, isKey, inL, LIM]]
  rw [wss_cons]
  simp! only [true_and]
  refine wp_whl (fun m ρ => ∃ ps wl fs x4, ρ = [some (.frz (.tup (rs.map rD))), some (.frz (.str w)), some (.own (.dct (fs.map D.str) (T1 fs.length))), some (.own (.lst (wl.map D.str))), x4] ∧ Inv rs w ps wl fs ∧ m = 2000 - ps.length) ?_ (m := 2000) ⟨[], [w], [w], none, rfl, ⟨by simp, by simp, fun f hf => by rw [List.mem_singleton.mp hf]; exact .refl _, fun p hp => (by cases hp), by simp⟩, by simp⟩ (by rw [FU_eq]; omega)
  rintro m _ ⟨ps, wl, fs, x4, rfl, I, rfl⟩
  have len := I.len G h3 hl
  have plen : ps.length + wl.length = fs.length := by rw [I.pm.length_eq, List.length_append]
  rcases List.eq_nil_or_concat wl with e | ⟨wl', u, e⟩
  · subst e
    simp! only [ne_nil, List.isEmpty_nil]
    simp! only [wss_cons]
    have pm := I.pm
    rw [List.append_nil] at pm
    exact ⟨fs, rfl, I.nd, len, fun u => ⟨I.st u, fun s => pm.mem_iff.mpr (I.all s)⟩⟩
  · rw [List.concat_eq_append] at e
    subst e
    have hu : u ∈ fs := I.pm.mem_iff.mpr (by simp)
    have su := I.st u hu
    have lu := su.len G
    have ie : (wl' ++ [u]).isEmpty = false := by cases wl' <;> rfl
    simp! only [ne_nil, ie]
    rw [wss_cons]
    simp! only [List.map_append]
    refine cw_mono (r22 (by omega) (by omega) hs) (fun v _ h => ?_) fun _ _ h => h
    subst h
    simp! only [true_and]
    have hp : ∀ v ∈ stepped rs u, Step rs u v := fun v hv => (mem_stepped G.ne).mp hv
    have inv' : ∀ p fs' wl, Inn fs wl' p fs' wl → (∀ v ∈ p, v ∈ stepped rs u) → Inv rs w ps (u :: wl) fs' := fun p fs' wl hI hm => (Inn.inv G.ne I (fun v hv => hp v (hm v hv)) hI fun _ _ => .inr rfl).1
    have fin : ∀ fs' wl, Inn fs wl' (stepped rs u) fs' wl → Inv rs w (ps ++ [u]) wl fs' := fun fs' wl hI => by
      have J := inv' _ _ _ hI fun _ h => h
      refine ⟨J.nd, J.pm.trans (by simp), J.st, fun p hq v s => ?_, J.w⟩
      rcases List.mem_append.mp hq with z | z
      · exact J.cl p z v s
      · rw [List.mem_singleton.mp z] at s
        exact hI.al v ((mem_stepped G.ne).mpr s)
    have bd : ∀ p fs' wl, Inn fs wl' p fs' wl → (∀ v ∈ p, v ∈ stepped rs u) → fs'.length ≤ 2000 := fun p fs' wl hI hm => by
      have := (inv' p fs' wl hI hm).len G h3 hl
      omega
    rw [List.length_append, List.length_singleton] at plen
    refine f24_for I.nd bd (by omega) fun fs' wl x4 hI => ?_
    simp! only [wss_cons]
    exact ⟨2000 - (ps ++ [u]).length, by rw [List.length_append, List.length_singleton]; omega, ps ++ [u], wl, fs', x4, rfl, fin fs' wl hI, rfl⟩
theorem r25 {k : Nat} {rs : List Rl} {w : Wd} (G : Good rs) (hs : ∀ r ∈ rs, r.2.length ≤ 1000) (hn : rs.length ≤ 12) (h3 : W3 w) (hl : w.length ≤ 6) : CW (callF P (k + 3) (.fn 25) [.frz (.tup (rs.map rD)), .frz (.str w)]) (fun v _ => ∃ us : List Wd, v = .own (.lst (us.map D.str)) ∧ us.Nodup ∧ us.length ≤ 1093 ∧ (us.Pairwise fun a b => ¬ Near b a) ∧ ∀ u, u ∈ us ↔ Star rs w u ∧ Rest rs u) NoE := by
  refine cw_fn (show P.defs[25]? = some f25 from rfl) rfl ?_
  unfold f25
  rw [wss_cons]
  simp! only [true_and]
  refine cw_mono (r24 G hs hn h3 hl) (fun v _ h => ?_) fun _ _ h => h
  obtain ⟨fs, rfl, nd, fl, hm⟩ := h
  simp! only [true_and]
  refine wp_compN D.str (fun u => if (stepped rs u).isEmpty = true then some u else none) D.str rfl (by simp only [LIM]; omega) ?_ ?_
  · intro u hu
    have lu := ((hm u).mp hu).len G
    simp! only [true_and]
    refine cw_mono (r22 (by omega) (by omega) hs) (fun v _ h => ?_) fun _ _ h => h
    subst h
    simp! only [eq_nil]
    cases e : (stepped rs u).isEmpty <;> simp
  · have ef : (fs.filterMap fun u => if (stepped rs u).isEmpty = true then some u else none) = fs.filter fun u => (stepped rs u).isEmpty := by
      have := x_fm_if (fun u => (stepped rs u).isEmpty) id fs
      simpa using this
    rw [ef]
    have gl : (fs.filter fun u => (stepped rs u).isEmpty).length ≤ 1093 := Nat.le_trans (List.length_filter_le _ _) fl
    have gm : ∀ u, u ∈ (fs.filter fun u => (stepped rs u).isEmpty) ↔ Star rs w u ∧ Rest rs u := fun u => by
      rw [List.mem_filter, hm u, rest_iff G, List.isEmpty_iff]
    have gn : (fs.filter fun u => (stepped rs u).isEmpty).Nodup := nd.sublist List.filter_sublist
    generalize (fs.filter fun u => (stepped rs u).isEmpty) = gs at gl gm gn
    simp! only [true_and]
    rw [wss_cons]
    simp! only [true_and]
    refine wp_compM D.str nearD rfl (by simp only [LIM]; omega) ?_ ?_
    · intro u hu
      simp! only [true_and]
      refine cw_mono r20 (fun v _ h => ?_) fun _ _ h => h
      subst h
      simp! only [true_and]
    · obtain ⟨us, e1, e2, e3⟩ := srt_near gs
      simp! only [e1, Option.map_some]
      refine wp_compM nearD D.str rfl (by rw [e2.length_eq]; simp only [LIM]; omega) ?_ ?_
      · intro u hu
        rw [show nearD u = .tup [.int u.length, .str u] from rfl]
        simp! only [true_and]
      · exact ⟨us, rfl, e2.nodup_iff.mpr gn, by rw [e2.length_eq]; exact gl, e3, fun u => by rw [e2.mem_iff, gm]⟩
end Rk90
end
section
set_option linter.all false
namespace Rk90
open Dp Dw Rw Pk90
abbrev NoV : Vl → List (Option Vl) → Prop := fun _ _ => False
abbrev Err (n : Nat) : Nat → List (Option Vl) → Prop := fun c _ => c = n
def errB (c : Nat) : Option CRes → Bool
  | some (.err e, _) => e == c
  | _ => false
theorem cw_err {c : Nat} {o : Option CRes} (h : errB c o = true) : CW o NoV (Err c) := by
  unfold errB at h
  unfold CW
  split at h
  · exact eq_of_beq h
  · cases h
/-! ### a deep thing -/
def Lay : Nat → D → Prop
  | 0, _ => True
  | n + 1, d => ∃ x, (d = .tup [x] ∨ d = .lst [x]) ∧ Lay n x
theorem Lay.two {n : Nat} {d : D} (h : Lay (n + 2) d) : Lay 2 d := by
  obtain ⟨x, hx, y, hy, _⟩ := h
  exact ⟨x, hx, y, hy, trivial⟩
theorem r18 {k : Nat} {h : D} (H : HandOk h) : CW (callF P (k + 3) (.fn 18) [.own h]) (fun v ps => ∃ d h', v = .frz d ∧ Lay 2 d ∧ HandOk h' ∧ ps = [some (.own h')]) NoE := by
  refine cw_fn (show P.defs[18]? = some f18 from rfl) rfl ?_
  unfold f18
  rw [wss_cons]
  simp! only [true_and]
  refine cw_mono (g_some_l d14 d15 H (by simp) (by simp)) (fun v ps z => ?_) fun _ _ h => h
  obtain ⟨d, h', rfl, _, H', rfl⟩ := z
  simp! only [true_and]
  rw [wss_cons]
  simp! only [true_and]
  refine cw_mono (g_draw (n := 14) d14 H' (by decide) (by decide)) (fun v ps z => ?_) fun _ _ h => h
  obtain ⟨j, h2, rfl, hj, H2, rfl⟩ := z
  have e12 : (12 : Int) + (j : Int) = ((12 + j : Nat) : Int) := by omega
  simp! only [e12]
  refine ⟨by omega, ?_⟩
  refine wp_forN (fun (k : Nat) => D.int k) (fun p ρ => ∃ h' d x2, ρ = [some (.own h'), some (.frz d), x2] ∧ HandOk h' ∧ Lay p.length d) rng_map ⟨h2, d, none, rfl, H2, trivial⟩ ?_ ?_
  · rintro p t r _ hp ⟨h', d, x2, rfl, H', lay⟩
    simp! only [true_and]
    rw [wss_cons]
    simp! only [true_and]
    refine cw_mono (g_some_l d14 d15 H' (by simp) (by simp)) (fun v ps z => ?_) fun _ _ h => h
    obtain ⟨e, h3, rfl, he, H3, rfl⟩ := z
    simp! only [wss_cons]
    refine ⟨h3, e, _, rfl, H3, ?_⟩
    rw [List.length_append, List.length_singleton]
    simp only [List.mem_cons, List.not_mem_nil, or_false] at he
    exact ⟨d, he, lay⟩
  · rintro _ ⟨h', d, x2, rfl, H', lay⟩
    rw [List.length_range] at lay
    simp! only [wss_cons]
    refine ⟨d, h', rfl, ?_, H', rfl⟩
    rw [show 12 + j = (10 + j) + 2 by omega] at lay
    exact lay.two
theorem r2d {k : Nat} {d : D} (h : Lay 2 d) : CW (callF P (k + 1) (.fn 2) [.frz d]) (Is (.frz (.bl false))) NoE := by
  refine cw_fn (show P.defs[2]? = some f2 from rfl) rfl ?_
  unfold f2
  obtain ⟨x, rfl | rfl, _⟩ := h <;> simp! only [wss_cons]
theorem r3d {k : Nat} {d : D} (h : Lay 2 d) : CW (callF P (k + 2) (.fn 3) [.frz d]) NoV (Err 2) := by
  refine cw_fn (show P.defs[3]? = some f3 from rfl) rfl ?_
  unfold f3
  simp! only [wss_cons]
  refine cw_mono (r2d h) (fun v _ h => ?_) fun _ _ h => h.elim
  subst h
  simp! only [wss_cons]
theorem r4d {k : Nat} {L : List Nat} {n : Int} {d : D} (h : Lay 2 d) : CW (callF P (k + 1) (.fn 4) [.frz (.str L), .frz d, .frz (.int n)]) (Is (.frz (.bl false))) NoE := by
  refine cw_fn (show P.defs[4]? = some f4 from rfl) rfl ?_
  unfold f4
  obtain ⟨x, rfl | rfl, _⟩ := h <;> simp! only [wss_cons]
theorem r5d {k : Nat} {L : List Nat} {d : D} (h : Lay 2 d) : CW (callF P (k + 2) (.fn 5) [.frz (.str L), .frz d]) NoV (Err 1) := by
  refine cw_fn (show P.defs[5]? = some f5 from rfl) rfl ?_
  unfold f5
  simp! only [show P.cons[1]? = some (.int 60) from rfl, wss_cons]
  refine cw_mono (r4d h) (fun v _ h => ?_) fun _ _ h => h.elim
  subst h
  simp! only [wss_cons]
theorem r0d {k : Nat} {y : D} {d : D} (h : d = .tup [y] ∨ d = .lst [y]) : CW (callF P (k + 1) (.fn 0) [.frz d, .frz (.int 2)]) (Is (.frz (.bl false))) NoE := by
  refine cw_fn (show P.defs[0]? = some f0 from rfl) rfl ?_
  unfold f0
  rcases h with rfl | rfl
  · simp! only [wss_cons]
    rfl
  · simp! only [wss_cons]
theorem r7d {k : Nat} {L : List Nat} {y : D} {d : D} (h : d = .tup [y] ∨ d = .lst [y]) : CW (callF P (k + 2) (.fn 7) [.frz (.str L), .frz d]) (Is (.frz (.bl false))) NoE := by
  refine cw_fn (show P.defs[7]? = some f7 from rfl) rfl ?_
  unfold f7
  simp! only [wss_cons]
  refine cw_mono (r0d h) (fun v _ h => ?_) fun _ _ h => h.elim
  subst h
  simp! only [wss_cons]
theorem r8d {k : Nat} {L : List Nat} {d : D} (hL : Lt L) (h : Lay 2 d) : CW (callF P (k + 3) (.fn 8) [.frz (.str L), .frz d]) NoV (Err 4) := by
  refine cw_fn (show P.defs[8]? = some f8 from rfl) rfl ?_
  unfold f8
  simp! only [wss_cons]
  refine cw_mono (r3 hL) (fun v _ h => ?_) fun _ _ h => h.elim
  subst h
  simp! only [show P.cons[2]? = some (.int 12) from rfl, wss_cons]
  obtain ⟨x, rfl | rfl, y, hy, _⟩ := h
  · refine cw_mono (r1 (l := [x]) (n := 0) (m := 12) (by simp) (by simp)) (fun v _ h => ?_) fun _ _ h => h.elim
    subst h
    simp! only [wss_cons]
    refine wp_compM (fun _ : Nat => x) (fun _ => .bl false) (xs := [0]) rfl (by simp [LIM]) ?_ ?_
    · intro c hc
      simp! only [wss_cons]
      refine cw_mono (r7d hy) (fun v _ h => ?_) fun _ _ h => h.elim
      subst h
      simp! only [wss_cons]
    · simp! only [wss_cons]
      rw [show ([D.bl false] : List D) = [false].map D.bl from rfl, bi_all]
      simp! only [List.all_cons, List.all_nil, id, Bool.and_self, Bool.not_false, wss_cons]
  · refine cw_mono (cw_fn (k := k + 1) (Q := Is (.frz (.bl false))) (E := NoE) (show P.defs[1]? = some f1 from rfl) rfl (by unfold f1; simp! only [wss_cons])) (fun v _ h => ?_) fun _ _ h => h.elim
    subst h
    simp! only [wss_cons]
end Rk90
end
section
set_option linter.all false
namespace Rk90
open Dp Dw Rw Pk90
abbrev kR : List D := [.tup [.str [97, 98], .str []], .tup [.str [98], .str [97]]]
abbrev badLs : List D := [.non, .int 0, .str [], .str [98], .str [98, 97], .str [97, 98, 99, 100], .tup [.str [97]], .dct [] [], .str [97, 97]]
abbrev badRs : List D := [.non, .int 0, .lst kR, .tup [.tup [.str [97], .str [98]]], .tup [.tup [.str [97], .str [97]]], .tup [.tup [.str [], .str []]], .tup [.tup [.str [97, 98], .str [98, 97]]], .dct [] [],
  .tup [.tup [.str [98], .str [97]], .tup [.str [97], .str []]], .tup [.tup [.str [99], .str []]], .tup [.tup [.str [97]]], .tup [.lst [.str [97], .str []]], .tup [.tup [.str [97], .non]], .tup [.tup [.str [97, 97, 97, 97, 97, 97, 97], .str []]],
  .tup [.tup [.str [98], .str []], .tup [.str [98], .str []]], .tup [.str [97], .str []], .str [97, 98]]
abbrev badWs : List D := [.non, .int 0, .str [99], .str (rep [97] 61), .tup [.str [97]], .lst [.str [97]], .dct [] [], .str [32]]
def BadL (d : D) : Prop := d ∈ badLs ∨ Lay 2 d
def BadR (d : D) : Prop := d ∈ badRs ∨ Lay 2 d
def BadW (d : D) : Prop := d ∈ badWs ∨ Lay 2 d
theorem cL : ∀ d ∈ badLs, errB 2 (callF P 16 (.fn 3) [.frz d]) = true := by decide +kernel
theorem cR : ∀ d ∈ badRs, errB 4 (callF P 17 (.fn 8) [.frz (.str [97, 98]), .frz d]) = true := by decide +kernel
theorem cW : ∀ d ∈ badWs, errB 1 (callF P 17 (.fn 5) [.frz (.str [97, 98]), .frz d]) = true := by decide +kernel
theorem r3n {d : D} (h : BadL d) : CW (callF P 16 (.fn 3) [.frz d]) NoV (Err 2) := by
  rcases h with h | h
  · exact cw_err (cL d h)
  · exact r3d (k := 14) h
theorem r8R {d : D} (h : BadR d) : CW (callF P 17 (.fn 8) [.frz (.str [97, 98]), .frz d]) NoV (Err 4) := by
  rcases h with h | h
  · exact cw_err (cR d h)
  · exact r8d (k := 14) (.inr (.inl rfl)) h
theorem r5W {d : D} (h : BadW d) : CW (callF P 17 (.fn 5) [.frz (.str [97, 98]), .frz d]) NoV (Err 1) := by
  rcases h with h | h
  · exact cw_err (cW d h)
  · exact r5d (k := 15) h
theorem r8L {d e : D} (h : BadL d) : CW (callF P 17 (.fn 8) [.frz d, .frz e]) NoV (Err 2) := by
  refine cw_fn (show P.defs[8]? = some f8 from rfl) rfl ?_
  unfold f8
  simp! only [wss_cons]
  exact cw_mono (r3n h) (fun v _ h => h.elim) fun _ _ h => h
theorem r12L {d e w : D} (h : BadL d) : CW (callF P 18 (.fn 12) [.frz d, .frz e, .frz w]) NoV (Err 2) := by
  refine cw_fn (show P.defs[12]? = some f12 from rfl) rfl ?_
  unfold f12
  simp! only [wss_cons]
  exact cw_mono (r8L h) (fun v _ h => h.elim) fun _ _ h => h
theorem r13L {d e w : D} (h : BadL d) : CW (callF P 18 (.fn 13) [.frz d, .frz e, .frz w]) NoV (Err 2) := by
  refine cw_fn (show P.defs[13]? = some f13 from rfl) rfl ?_
  unfold f13
  rw [wss_cons]
  simp! only [true_and]
  exact cw_mono (r8L h) (fun v _ h => h.elim) fun _ _ h => h
theorem r12R {d w : D} (h : BadR d) : CW (callF P 18 (.fn 12) [.frz (.str [97, 98]), .frz d, .frz w]) NoV (Err 4) := by
  refine cw_fn (show P.defs[12]? = some f12 from rfl) rfl ?_
  unfold f12
  simp! only [wss_cons]
  exact cw_mono (r8R h) (fun v _ h => h.elim) fun _ _ h => h
theorem r13R {d w : D} (h : BadR d) : CW (callF P 18 (.fn 13) [.frz (.str [97, 98]), .frz d, .frz w]) NoV (Err 4) := by
  refine cw_fn (show P.defs[13]? = some f13 from rfl) rfl ?_
  unfold f13
  rw [wss_cons]
  simp! only [true_and]
  exact cw_mono (r8R h) (fun v _ h => h.elim) fun _ _ h => h
theorem asc2 {a b : Rl} (h : cmpD .lt (rD a) (rD b) = some true) : Asc [a, b] := by
  intro i x y h1 h2
  match i with
  | 0 =>
    simp at h1 h2
    rw [← h1, ← h2]; exact h
  | n + 1 => simp at h2
theorem asc1 (a : Rl) : Asc [a] := by
  intro i x y h1 h2
  simp at h2
theorem ok_of {L : List Nat} {r : Rl} (h : (r.1.all (L.contains ·) && r.2.all (L.contains ·) && decide (r.1.length ≤ 6) && decide (Near r.2 r.1)) = true) : RlOk L r := by
  simp only [Bool.and_eq_true, decide_eq_true_eq, List.all_eq_true, List.contains_eq_mem] at h
  exact ⟨h.1.1.1, h.1.1.2, h.1.2, h.2⟩
theorem kR_ok : RsOk [97, 98] [([97, 98], []), ([98], [97])] := by
  refine ⟨.inr (.inl rfl), fun r hr => ?_, by decide, asc2 (by rfl)⟩
  rcases List.mem_cons.mp hr with rfl | hr
  · exact ok_of (by decide)
  · rw [List.mem_singleton.mp hr]; exact ok_of (by decide)
theorem r8k : CW (callF P 17 (.fn 8) [.frz (.str [97, 98]), .frz (.tup kR)]) (Is (.frz .non)) NoE := r8 (k := 14) kR_ok
theorem r12W {w : D} (h : BadW w) : CW (callF P 18 (.fn 12) [.frz (.str [97, 98]), .frz (.tup kR), .frz w]) NoV (Err 1) := by
  refine cw_fn (show P.defs[12]? = some f12 from rfl) rfl ?_
  unfold f12
  simp! only [wss_cons]
  refine cw_mono r8k (fun v _ h => ?_) fun _ _ h => h.elim
  subst h
  simp! only [wss_cons]
  exact cw_mono (r5W h) (fun v _ h => h.elim) fun _ _ h => h
theorem r13W {w : D} (h : BadW w) : CW (callF P 18 (.fn 13) [.frz (.str [97, 98]), .frz (.tup kR), .frz w]) NoV (Err 1) := by
  refine cw_fn (show P.defs[13]? = some f13 from rfl) rfl ?_
  unfold f13
  rw [wss_cons]
  simp! only [true_and]
  refine cw_mono r8k (fun v _ h => ?_) fun _ _ h => h.elim
  subst h
  simp! only [true_and]
  rw [wss_cons]
  simp! only [true_and]
  exact cw_mono (r5W h) (fun v _ h => h.elim) fun _ _ h => h
end Rk90
end
section
set_option linter.all false
namespace Rk90
open Dp Dw Rw Pk90
theorem r27 {k : Nat} {h : D} (H : HandOk h) : CW (callF P (k + 4) (.fn 27) [.own h, .frz (.tup kR)]) (fun v ps => ∃ d h', v = .frz d ∧ BadR d ∧ HandOk h' ∧ ps = [some (.own h'), some (.frz (.tup kR))]) NoE := by
  refine cw_fn (show P.defs[27]? = some f27 from rfl) rfl ?_
  unfold f27
  rw [wss_cons]
  simp! only [show biD P.sub .list [.tup kR] = some (.own (.lst kR)) from rfl, show putAll [] [] [] [] = some ([], []) from rfl]
  rw [wss_cons]
  simp! only [true_and]
  refine ⟨by simp [LIM], ?_⟩
  rw [wss_cons]
  simp! only [true_and]
  refine ⟨by simp [LIM], ?_⟩
  rw [wss_cons]
  simp! only [true_and]
  refine cw_mono (r18 H) (fun v ps z => ?_) fun _ _ h => h
  obtain ⟨x, h', rfl, lx, H', rfl⟩ := z
  simp! only [true_and]
  refine ⟨by simp [LIM], ?_⟩
  refine cw_mono (g_some_l d14 d15 H' (by simp) (by simp)) (fun v ps z => ?_) fun _ _ h => h
  obtain ⟨d, h2, rfl, hd, H2, rfl⟩ := z
  simp! only [true_and]
  refine ⟨d, h2, rfl, ?_, H2, rfl⟩
  have : d ∈ badRs ++ [x] := hd
  rcases List.mem_append.mp this with z | z
  · exact .inl z
  · rw [List.mem_singleton.mp z]; exact .inr lx
end Rk90
end
section
set_option linter.all false
namespace Rk90
open Dp Dw Rw Pk90
abbrev wl : D := .str [108, 101, 116, 116, 101, 114, 115]
abbrev wr : D := .str [114, 117, 108, 101, 115]
abbrev ww : D := .str [119, 111, 114, 100]
abbrev tab : List (Nat × List Nat) := [(2, [108, 101, 116, 116, 101, 114, 115]), (4, [114, 117, 108, 101, 115]), (1, [119, 111, 114, 100])]
theorem rw2 {Q : Vl → Prop} : refW tab 2 Q = Q (.frz wl) := rfl
theorem rw4 {Q : Vl → Prop} : refW tab 4 Q = Q (.frz wr) := rfl
theorem rw1 {Q : Vl → Prop} : refW tab 1 Q = Q (.frz ww) := rfl
def ws3 : Nat → List D
  | 0 => []
  | n + 1 => ws3 n ++ [wl, wr, ww]
theorem ws3_len : ∀ n, (ws3 n).length = 3 * n
  | 0 => rfl
  | n + 1 => by
    show (ws3 n ++ [wl, wr, ww]).length = _
    rw [List.length_append, ws3_len n]
    simp only [List.length_cons, List.length_nil]
    omega
abbrev bRef : Sms := (.cons (.exp (.mut .append 5 (.cons (.refuse (.callv 6 (.cons (.var 2) (.cons (.var 3) (.cons (.var 4) .nil)))) tab) .nil)))
  (.cons (.exp (.mut .append 5 (.cons (.refuse (.callv 6 (.cons (.lit (.str [97, 98])) (.cons (.var 3) (.cons (.var 4) .nil)))) tab) .nil)))
  (.cons (.exp (.mut .append 5 (.cons (.refuse (.callv 6 (.cons (.lit (.str [97, 98])) (.cons (.var 1) (.cons (.var 4) .nil)))) tab) .nil)))
  .nil)))
theorem bref {f : Nat} (hf : f = 12 ∨ f = 13) {Q : Fl → Env → Prop} {E : Nat → Env → Prop} {A0 : Option Vl} {dl dr dw : D} (hl : BadL dl) (hr : BadR dr) (hw : BadW dw) {n : Nat} (hn : n ≤ 10)
    (hQ : Q .nx [A0, some (.frz (.tup kR)), some (.frz dl), some (.frz dr), some (.frz dw), some (.own (.lst (ws3 (n + 1)))), some (.frz (.fn f))]) :
    WP (evSs P (callF P 18) [] bRef) Q E [A0, some (.frz (.tup kR)), some (.frz dl), some (.frz dr), some (.frz dw), some (.own (.lst (ws3 n))), some (.frz (.fn f))] := by
  have hd : f < P.defs.length := by rcases hf with rfl | rfl <;> decide
  have cl : ∀ {d e w : D}, BadL d → CW (callF P 18 (.fn f) [.frz d, .frz e, .frz w]) NoV (Err 2) := fun h => by
    rcases hf with rfl | rfl
    · exact r12L h
    · exact r13L h
  have cr : ∀ {d w : D}, BadR d → CW (callF P 18 (.fn f) [.frz (.str [97, 98]), .frz d, .frz w]) NoV (Err 4) := fun h => by
    rcases hf with rfl | rfl
    · exact r12R h
    · exact r13R h
  have cw : ∀ {w : D}, BadW w → CW (callF P 18 (.fn f) [.frz (.str [97, 98]), .frz (.tup kR), .frz w]) NoV (Err 1) := fun h => by
    rcases hf with rfl | rfl
    · exact r12W h
    · exact r13W h
  have l0 := ws3_len n
  rw [wss_cons]
  simp! only [true_and]
  refine ⟨hd, ?_⟩
  refine cw_mono (cl hl) (fun v _ h => h.elim) fun c _ h => ?_
  have h : c = 2 := h
  subst h
  rw [rw2]
  simp! only [true_and]
  refine ⟨by simp only [LIM]; omega, ?_⟩
  rw [wss_cons]
  simp! only [true_and]
  refine ⟨hd, ?_⟩
  refine cw_mono (cr hr) (fun v _ h => h.elim) fun c _ h => ?_
  have h : c = 4 := h
  subst h
  rw [rw4]
  simp! only [List.length_append]
  refine ⟨by simp only [LIM]; omega, ?_⟩
  rw [wss_cons]
  simp! only [true_and]
  refine ⟨hd, ?_⟩
  refine cw_mono (cw hw) (fun v _ h => h.elim) fun c _ h => ?_
  have h : c = 1 := h
  subst h
  rw [rw1]
  simp! only [List.length_append]
  refine ⟨by simp only [LIM]; omega, ?_⟩
  simp! only [List.append_assoc, wss_cons]
  exact hQ
theorem r28 {h : D} (H : HandOk h) : CW (callF P 19 (.fn 28) [.own h]) (fun v ps => v = .frz (.bl true) ∧ ∃ h', HandOk h' ∧ ps = [some (.own h')]) NoE := by
  refine cw_fn (show P.defs[28]? = some f28 from rfl) rfl ?_
  unfold f28
  rw [wss_cons]
  simp! only [true_and]
  rw [wss_cons]
  simp! only [show putAll [] [] [] [] = some ([], []) from rfl]
  refine cw_mono (r18 (k := 15) H) (fun v ps z => ?_) fun _ _ h => h
  obtain ⟨x, h1, rfl, lx, H1, rfl⟩ := z
  simp! only [true_and]
  refine cw_mono (g_some_l d14 d15 H1 (by simp) (by simp)) (fun v ps z => ?_) fun _ _ h => h
  obtain ⟨dl, h2, rfl, hd, H2, rfl⟩ := z
  have hl : BadL dl := by
    have : dl ∈ badLs ++ [x] := hd
    rcases List.mem_append.mp this with z | z
    · exact .inl z
    · rw [List.mem_singleton.mp z]; exact .inr lx
  clear hd lx
  simp! only [true_and]
  rw [wss_cons]
  simp! only [true_and]
  refine cw_mono (r27 (k := 14) H2) (fun v ps z => ?_) fun _ _ h => h
  obtain ⟨dr, h3, rfl, hr, H3, rfl⟩ := z
  simp! only [true_and]
  rw [wss_cons]
  simp! only [show binD .mul (.str [97]) (.int 61) = some (.frz (.str (rep [97] 61))) from rfl, show putAll [] [] [] [] = some ([], []) from rfl]
  refine cw_mono (r18 (k := 15) H3) (fun v ps z => ?_) fun _ _ h => h
  obtain ⟨y, h4, rfl, ly, H4, rfl⟩ := z
  simp! only [true_and]
  refine cw_mono (g_some_l d14 d15 H4 (by simp) (by simp)) (fun v ps z => ?_) fun _ _ h => h
  obtain ⟨dw, h5, rfl, hd, H5, rfl⟩ := z
  have hw : BadW dw := by
    have : dw ∈ badWs ++ [y] := hd
    rcases List.mem_append.mp this with z | z
    · exact .inl z
    · rw [List.mem_singleton.mp z]; exact .inr ly
  clear hd ly
  simp! only [true_and]
  rw [wss_cons]
  simp! only [true_and]
  rw [wss_cons]
  simp! only [true_and]
  refine wp_forN D.fn (xs := [12, 13]) (fun p ρ => ∃ x6, ρ = [some (.own h5), some (.frz (.tup kR)), some (.frz dl), some (.frz dr), some (.frz dw), some (.own (.lst (ws3 p.length))), x6]) rfl ⟨none, rfl⟩ ?_ ?_
  · rintro p f r _ hp ⟨x6, rfl⟩
    have hf : f ∈ [12, 13] := by rw [hp]; simp
    have hl2 := congrArg List.length hp
    simp only [List.length_append, List.length_cons, List.length_nil] at hl2
    simp! only [true_and]
    refine bref (by simpa using hf) hl hr hw (by omega) ?_
    simp! only [true_and]
    exact ⟨_, by rw [List.length_append, List.length_singleton]⟩
  · rintro _ ⟨x6, rfl⟩
    simp! only [show cmpD .eq (.lst (ws3 [12, 13].length)) (.lst (rep [wl, wr, ww] 2)) = some true by decide +kernel, wss_cons]
    exact ⟨rfl, h5, H5, rfl⟩
end Rk90
end
section
set_option linter.all false
namespace Rk90
open Dp Dw Rw Pk90
theorem in_wd {us : List Wd} (x : Wd) : inD (.str x) (.lst (us.map D.str)) = some (decide (x ∈ us)) := by
  show (if dep (.str x) ≤ 60 ∧ depL (us.map D.str) ≤ 60 then inL (.str x) (us.map D.str) else none) = _
  rw [if_pos ⟨by simp [dep], Nat.le_trans (depL_map (n := 0) (fun a => by simp [dep]) us) (by decide)⟩, in_words]
theorem isN_words : ∀ us : List Wd, isNL (us.map D.str) = true
  | [] => rfl
  | u :: r => by
    rw [List.map_cons]
    unfold isNL
    rw [isN_words r]
    rfl
theorem lenOk_words : ∀ us : List Wd, lenOkL (us.map D.str) = true
  | [] => rfl
  | u :: r => by
    rw [List.map_cons]
    unfold lenOkL
    rw [lenOk_words r]
    rfl
theorem r29 {k : Nat} {L : List Nat} (hL : Lt L) {h : D} (H : HandOk h) : CW (callF P (k + 6) (.fn 29) [.own h, .frz (.str L)]) (fun v ps => v = .frz (.bl true) ∧ ∃ h', HandOk h' ∧ ps = [some (.own h'), some (.frz (.str L))]) NoE := by
  have L1 : 0 < L.length := by rcases hL with e | e | e <;> rw [e] <;> decide
  have L2 : L.length < 2 ^ 63 := by rcases hL with e | e | e <;> rw [e] <;> decide
  refine cw_fn (show P.defs[29]? = some f29 from rfl) rfl ?_
  unfold f29
  rw [wss_cons]
  simp! only [true_and]
  refine cw_mono (r21 (most := 4) (long := 2) (short := 3) hL H (by decide) (by decide) (by decide)) (fun v ps z => ?_) fun _ _ h => h
  obtain ⟨rs, h', rfl, ok, _, H', rfl⟩ := z
  have G := ok.good
  have hs : ∀ r ∈ rs, r.2.length ≤ 1000 := fun r hr => by have := (ok.one r hr).l2; omega
  have hn := ok.n
  simp! only [true_and]
  rw [wss_cons]
  simp! only [true_and]
  refine ⟨by decide, ?_⟩
  refine wp_forN (fun (k : Nat) => D.int k) (xs := List.range 5) (fun p ρ => ∃ h' x3 x4 x5 x6, ρ = [some (.own h'), some (.frz (.str L)), some (.frz (.tup (rs.map rD))), x3, x4, x5, x6] ∧ HandOk h') (rng_map (n := 5)) ⟨h', none, none, none, none, rfl, H'⟩ ?_ ?_
  · rintro p lap r _ hp ⟨h', x3, x4, x5, x6, rfl, H'⟩
    simp! only [true_and]
    rw [wss_cons]
    simp! only [true_and]
    refine cw_mono (g_dw (n := 6) d14 d15 d19 H' L1 L2 (by decide)) (fun v ps z => ?_) fun _ _ h => h
    obtain ⟨w, h2, rfl, hw, wlen, H2, rfl⟩ := z
    have w3 := hL.w3 hw
    have st := last_st G w3
    have re := last_rest G w3
    have ll := st.len G
    have lL : ∀ c ∈ last rs w, c ∈ L := st.mem (fun r hr => (ok.one r hr).b) hw
    have le : last rs (last rs w) = last rs w := last_nil ((rest_iff G).mp re)
    simp! only [true_and]
    rw [wss_cons]
    simp! only [true_and]
    refine cw_mono (r23 G hs (by omega) w3 (by omega)) (fun v _ h => ?_) fun _ _ h => h
    subst h
    simp! only [true_and]
    rw [wss_cons]
    simp! only [true_and]
    refine cw_mono (r12 ok hw (by omega)) (fun v _ h => ?_) fun _ _ h => h
    subst h
    simp! only [true_and]
    refine cw_mono (r12 ok lL (by omega)) (fun v _ h => ?_) fun _ _ h => h
    subst h
    simp! only [le]
    refine cw_mono (g_isD d16 1 _ (.lst [.str (last rs w), .str (last rs w)]) rfl (by simp [lenOk, lenOkL, LIM]) (by simp [dep, depL])) (fun v _ h => ?_) fun _ _ h => h
    subst h
    simp! only [true_and]
    rw [wss_cons]
    simp! only [true_and]
    refine cw_mono (r13 ok hw wlen) (fun v _ h => ?_) fun _ _ h => h
    obtain ⟨us, rfl, nd, pw, hm⟩ := h
    simp! only [true_and]
    rw [wss_cons]
    simp! only [true_and]
    refine cw_mono (r25 G hs hn w3 wlen) (fun v _ h => ?_) fun _ _ h => h
    obtain ⟨vs, rfl, nd2, vl, pw2, hm2⟩ := h
    have e : vs = us := srt_one nd2 nd pw2 pw fun u => (hm2 u).trans (hm u).symm
    subst e
    have li : last rs w ∈ vs := (hm _).mpr ⟨st, re⟩
    simp! only [true_and]
    refine cw_mono (g_isO d16 0 (k + 3) (vs.map D.str) ?_ ?_ ?_) (fun v ps h => ?_) fun _ _ h => h
    · exact isN_words vs
    · simp only [lenOk, lenOk_words, List.length_map, Bool.and_true, decide_eq_true_eq, LIM]; omega
    · exact depL_map (fun a => by simp [dep]) vs
    obtain ⟨rfl, rfl⟩ := h
    simp! only [in_wd, decide_eq_true li, Option.map_some]
    exact ⟨h2, _, _, _, _, rfl, H2⟩
  · rintro _ ⟨h', x3, x4, x5, x6, rfl, H'⟩
    simp! only [wss_cons]
    exact ⟨h', H', rfl⟩
end Rk90
end
section
set_option linter.all false
namespace Rk90
open Dp Dw Rw Pk90
abbrev kA : List Rl := [([98, 97], [97, 98])]
abbrev kB : List Rl := [([97, 98], []), ([98, 97], [])]
abbrev kC : List Rl := [([97, 98], []), ([98, 97], [98])]
theorem kA_ok : RsOk [97, 98] kA := by
  refine ⟨.inr (.inl rfl), fun r hr => ?_, by decide, asc1 _⟩
  rw [List.mem_singleton.mp hr]; exact ok_of (by decide)
theorem k0_ok : RsOk [97] [] := ⟨.inl rfl, by simp, by decide, fun i x y h1 h2 => by simp at h1⟩
theorem kB_ok : RsOk [97, 98] kB := by
  refine ⟨.inr (.inl rfl), fun r hr => ?_, by decide, asc2 (by rfl)⟩
  rcases List.mem_cons.mp hr with rfl | hr
  · exact ok_of (by decide)
  · rw [List.mem_singleton.mp hr]; exact ok_of (by decide)
theorem kC_ok : RsOk [97, 98] kC := by
  refine ⟨.inr (.inl rfl), fun r hr => ?_, by decide, asc2 (by rfl)⟩
  rcases List.mem_cons.mp hr with rfl | hr
  · exact ok_of (by decide)
  · rw [List.mem_singleton.mp hr]; exact ok_of (by decide)
theorem kA_l : last kA [98, 98, 97] = [97, 98, 98] := by decide +kernel
theorem k0_l : last [] [97, 97] = [97, 97] := by decide +kernel
theorem in_close {rs : List Rl} (hne : ∀ r ∈ rs, r.1 ≠ []) {l : List Wd} (hc : ∀ x ∈ l, ∀ v ∈ stepped rs x, v ∈ l) {w u : Wd} (s : Star rs w u) : w ∈ l → u ∈ l := by
  induction s with
  | refl => exact id
  | head t _ ih => exact fun ha => ih (hc _ ha _ ((mem_stepped hne).mpr t))
/-- the ends told by what is reached -/
theorem ends_of {L : List Nat} {rs : List Rl} (h : RsOk L rs) {w : Wd} (l es us : List Wd) (hw : w ∈ l) (hc : ∀ x ∈ l, ∀ v ∈ stepped rs x, v ∈ l) (he : ∀ x ∈ l, stepped rs x = [] → x ∈ es) (hs : ∀ x ∈ es, Star rs w x ∧ stepped rs x = []) (nd : us.Nodup) (nd2 : es.Nodup) (pw : us.Pairwise fun a b => ¬ Near b a) (pw2 : es.Pairwise fun a b => ¬ Near b a) (hm : ∀ u, u ∈ us ↔ Star rs w u ∧ Rest rs u) : us = es := by
  refine srt_one nd nd2 pw pw2 fun u => (hm u).trans ⟨fun ⟨s, r⟩ => he u (in_close h.good.ne hc s hw) ((rest_iff h.good).mp r), fun z => ⟨(hs u z).1, (rest_iff h.good).mpr (hs u z).2⟩⟩
theorem stp_one {rs : List Rl} (hne : ∀ r ∈ rs, r.1 ≠ []) {w v : Wd} (h : v ∈ stepped rs w) : Step rs w v := (mem_stepped hne).mp h
theorem r13b {k : Nat} : CW (callF P (k + 4) (.fn 13) [.frz (.str [97, 98]), .frz (.tup [.tup [.str [97, 98], .str []], .tup [.str [98, 97], .str []]]), .frz (.str [97, 98, 97])]) (Is (.own (.lst [.str [97]]))) NoE := by
  have H := r13 (k := k) kB_ok (w := [97, 98, 97]) (by decide) (by decide)
  rw [show kB.map rD = [.tup [.str [97, 98], .str []], .tup [.str [98, 97], .str []]] from rfl] at H
  refine cw_mono H (fun v _ h => ?_) fun _ _ h => h
  obtain ⟨us, rfl, nd, pw, hm⟩ := h
  rw [ends_of kB_ok [[97, 98, 97], [97]] [[97]] us (by decide) (by decide +kernel) (by decide +kernel) (fun x hx => ?_) nd (by decide) pw (by simp) hm]
  · rfl
  · rw [List.mem_singleton.mp hx]
    exact ⟨.one (stp_one kB_ok.good.ne (by decide +kernel)), by decide +kernel⟩
theorem r13c {k : Nat} : CW (callF P (k + 4) (.fn 13) [.frz (.str [97, 98]), .frz (.tup [.tup [.str [97, 98], .str []], .tup [.str [98, 97], .str [98]]]), .frz (.str [97, 98, 97])]) (Is (.own (.lst [.str [], .str [97]]))) NoE := by
  have H := r13 (k := k) kC_ok (w := [97, 98, 97]) (by decide) (by decide)
  rw [show kC.map rD = [.tup [.str [97, 98], .str []], .tup [.str [98, 97], .str [98]]] from rfl] at H
  refine cw_mono H (fun v _ h => ?_) fun _ _ h => h
  obtain ⟨us, rfl, nd, pw, hm⟩ := h
  rw [ends_of kC_ok [[97, 98, 97], [97], [97, 98], []] [[], [97]] us (by decide) (by decide +kernel) (by decide +kernel) (fun x hx => ?_) nd (by decide) pw (by simp [Near]) hm]
  · rfl
  · rcases List.mem_cons.mp hx with rfl | hx
    · exact ⟨.head (v := [97, 98]) (stp_one kC_ok.good.ne (by decide +kernel)) (.one (stp_one kC_ok.good.ne (by decide +kernel))), by decide +kernel⟩
    · rw [List.mem_singleton.mp hx]
      exact ⟨.one (stp_one kC_ok.good.ne (by decide +kernel)), by decide +kernel⟩
theorem r12a {k : Nat} : CW (callF P (k + 4) (.fn 12) [.frz (.str [97, 98]), .frz (.tup [.tup [.str [98, 97], .str [97, 98]]]), .frz (.str [98, 98, 97])]) (Is (.frz (.str [97, 98, 98]))) NoE := by
  have H := r12 (k := k) kA_ok (w := [98, 98, 97]) (by decide) (by decide)
  rw [kA_l] at H
  exact H
theorem r12b {k : Nat} : CW (callF P (k + 4) (.fn 12) [.frz (.str [97]), .frz (.tup []), .frz (.str [97, 97])]) (Is (.frz (.str [97, 97]))) NoE := by
  have H := r12 (k := k) k0_ok (w := [97, 97]) (by decide) (by decide)
  rw [k0_l] at H
  exact H
theorem r30 {ns : List Int} (hn : ns.length ≤ 63) : CW (callF P 20 (.fn 30) [.frz (.scr (ns.map .int))]) (Is (.frz (.bl true))) NoE := by
  refine cw_fn (show P.defs[30]? = some f30 from rfl) rfl ?_
  unfold f30
  rw [wss_cons]
  simp! only [true_and]
  refine cw_mono (g_hand (k := 18) d17 hn) (fun v _ h => ?_) fun _ _ h => h
  obtain ⟨h, rfl, H⟩ := h
  simp! only [true_and]
  rw [wss_cons]
  simp! only [true_and]
  refine cw_mono (r12a (k := 15)) (fun v _ h => ?_) fun _ _ h => h
  subst h
  simp! only [true_and]
  refine cw_mono (r12b (k := 15)) (fun v _ h => ?_) fun _ _ h => h
  subst h
  simp! only [true_and]
  rw [wss_cons]
  simp! only [true_and]
  refine cw_mono (r13b (k := 15)) (fun v _ h => ?_) fun _ _ h => h
  subst h
  simp! only [true_and]
  refine ⟨by decide, ?_⟩
  rw [wss_cons]
  simp! only [true_and]
  refine cw_mono (r13c (k := 15)) (fun v _ h => ?_) fun _ _ h => h
  subst h
  simp! only [true_and]
  refine ⟨by decide, ?_⟩
  rw [wss_cons]
  simp! only [true_and]
  refine cw_mono (g_isO d16 2 15 [.str [97, 98, 98], .str [97, 97], .lst [.str [97]], .lst [.str [], .str [97]]] rfl rfl (by simp [dep, depL])) (fun v _ h => ?_) fun _ _ h => h
  obtain ⟨rfl, rfl⟩ := h
  simp! only [true_and]
  rw [wss_cons]
  simp! only [true_and]
  refine wp_comp (fun r acc ρ => ∃ h x3, ρ = [some (.frz (.scr (ns.map .int))), some (.own h), some (.frz (.lst [.str [97, 98, 98], .str [97, 97], .lst [.str [97]], .lst [.str [], .str [97]]])), x3] ∧ HandOk h ∧ (∀ x ∈ r, ∃ L, x = .str L ∧ Lt L) ∧ acc = List.replicate acc.length (.bl true) ∧ acc.length + r.length = 4) ⟨h, none, rfl, H, ?_, rfl, rfl⟩ ?_ ?_
  · intro x hx
    simp only [List.mem_cons, List.not_mem_nil, or_false] at hx
    rcases hx with rfl | rfl | rfl | rfl
    · exact ⟨_, rfl, .inl rfl⟩
    · exact ⟨_, rfl, .inr (.inl rfl)⟩
    · exact ⟨_, rfl, .inr (.inl rfl)⟩
    · exact ⟨_, rfl, .inr (.inr rfl)⟩
  · rintro x r acc _ ⟨h, x3, rfl, H, hr, ha, hl⟩ _
    obtain ⟨L, rfl, hL⟩ := hr x List.mem_cons_self
    simp! only [true_and]
    refine cw_mono (r29 (k := 13) hL H) (fun v _ h => ?_) fun _ _ h => h
    obtain ⟨rfl, h', H', rfl⟩ := h
    simp! only [true_and]
    refine cw_mono (r28 H') (fun v _ h => ?_) fun _ _ h => h
    obtain ⟨rfl, h2, H2, rfl⟩ := h
    simp! only [true_and]
    rw [List.length_cons] at hl
    refine ⟨by simp only [LIM]; omega, h2, _, rfl, H2, fun x hx => hr x (List.mem_cons_of_mem _ hx), ?_, by rw [List.length_append, List.length_singleton]; omega⟩
    rw [List.length_append, List.length_singleton, List.replicate_succ', ← ha]
  · rintro acc _ ⟨h, x3, rfl, H, _, ha, hl⟩
    have l4 : acc.length = 4 := by simpa using hl
    rw [ha, l4]
    exact rfl
/-- the plain law -/
theorem plain (ns : List Int) (hn : ns.length ≤ 63) : ∃ ps, callF P 20 (.fn 30) [.frz (.scr (ns.map D.int))] = some (.ok (.frz (.bl true)), ps) := cw_is (r30 hn)
end Rk90
end
section
set_option Elab.async false
set_option linter.all false
set_option maxRecDepth 100000
set_option maxHeartbeats 1000000
/-! S1: how data lies in the abstract heap. -/
namespace Dp
open PySem PySem.Spec PyProof.Rows L2

/-- what stands fixed while a law runs: the written part, where the defs stand -/
structure Kt where
  K : PySem.W.Frag
  fa : Nat → Addr
  ca : Nat → Addr
  tb : List NdefX.NTab
  dk : Nat → Option Addr → Prop

section
variable (T : Kt)
mutual
/-- the value x is the data d, by what F tells (F: what never changes any more) -/
inductive Rep (F : Hp) : V → D → Prop
  | non : Rep F .non .non
  | bl (b : Bool) : Rep F (.bl b) (.bl b)
  | int (i : Int) : Rep F (.int i) (.int i)
  | str (z : Str) (h : z.length ≤ sizeLine) (k : PyData.strOk z = true) : Rep F (.str z) (.str z.cps.toList)
  | tup {a : Addr} {vs : List V} {ds : List D} (h : SqT T.K F a vs) (r : RepL F vs ds) : Rep F (.ref a) (.tup ds)
  | lst {a : Addr} {vs : List V} {ds : List D} (h : F a = some (.lst vs)) (r : RepL F vs ds) : Rep F (.ref a) (.lst ds)
  | scr {a : Addr} {vs : List V} {ds : List D} (h : SqL T.K F a vs) (r : RepL F vs ds) : Rep F (.ref a) (.scr ds)
  | dct {a : Addr} {kvs : List (Key × V)} {ks vs : List D} (h : F a = some (.dK kvs)) (r : RepL F (kvs.map fun p => kV p.1) ks) (q : RepL F (kvs.map (·.2)) vs) : Rep F (.ref a) (.dct ks vs)
  | fn (f : Nat) : Rep F (.ref (T.fa f)) (.fn f)
inductive RepL (F : Hp) : List V → List D → Prop
  | nil : RepL F [] []
  | cons {x : V} {d : D} {xs : List V} {ds : List D} (h : Rep F x d) (r : RepL F xs ds) : RepL F (x :: xs) (d :: ds)
end
end

/-! ### heaps -/
theorem SqL.mono {K : PySem.W.Frag} {H H' : Hp} {a : Addr} {xs : List V} (e : Same H H') (h : SqL K H a xs) : SqL K H' a xs := e.seq h
theorem SqT.mono {K : PySem.W.Frag} {H H' : Hp} {a : Addr} {xs : List V} (e : Same H H') (h : SqT K H a xs) : SqT K H' a xs := by
  rcases h with (h | ⟨o, h⟩) | h
  · exact .inl (.inl (e _ _ h))
  · exact .inl (.inr ⟨o, e _ _ h⟩)
  · exact .inr h
theorem Same.upd {H : Hp} {p : Addr} {o : HO} (h : H p = none) : Same H (upd H p o) := fun b u e => by
  rw [upd_ne (ne_of_none e h)]
  exact e

section
variable {T : Kt} {F F' H H' H1 F1 : Hp}
mutual
theorem Rep.mono (e : Same F F') : ∀ {x : V} {d : D}, Rep T F x d → Rep T F' x d
  | _, _, .non => .non
  | _, _, .bl b => .bl b
  | _, _, .int i => .int i
  | _, _, .str z h k => .str z h k
  | _, _, .tup h r => .tup (SqT.mono e h) (RepL.mono e r)
  | _, _, .lst h r => .lst (e _ _ h) (RepL.mono e r)
  | _, _, .scr h r => .scr (SqL.mono e h) (RepL.mono e r)
  | _, _, .dct h r q => .dct (e _ _ h) (RepL.mono e r) (RepL.mono e q)
  | _, _, .fn f => .fn f
theorem RepL.mono (e : Same F F') : ∀ {xs : List V} {ds : List D}, RepL T F xs ds → RepL T F' xs ds
  | _, _, .nil => .nil
  | _, _, .cons h r => .cons (Rep.mono e h) (RepL.mono e r)
end
theorem RepL.length : ∀ {xs : List V} {ds : List D}, RepL T F xs ds → xs.length = ds.length
  | _, _, .nil => rfl
  | _, _, .cons _ r => congrArg (· + 1) (RepL.length r)
theorem RepL.append : ∀ {xs ys : List V} {ds es : List D}, RepL T F xs ds → RepL T F ys es → RepL T F (xs ++ ys) (ds ++ es)
  | _, _, _, _, .nil, q => q
  | _, _, _, _, .cons h r, q => .cons h (RepL.append r q)
theorem RepL.get : ∀ {xs : List V} {ds : List D} {i : Nat} {d : D}, RepL T F xs ds → ds[i]? = some d → ∃ x, xs[i]? = some x ∧ Rep T F x d
  | _, _, _, _, .nil, e => by simp at e
  | _, _, 0, _, .cons h _, e => by simp at e; subst e; exact ⟨_, rfl, h⟩
  | _, _, i + 1, d, .cons _ r, e => by
    obtain ⟨x, h1, h2⟩ := RepL.get (i := i) (d := d) r (by simpa using e)
    exact ⟨x, by simpa using h1, h2⟩
theorem RepL.getV : ∀ {xs : List V} {ds : List D} {i : Nat} {x : V}, RepL T F xs ds → xs[i]? = some x → ∃ d, ds[i]? = some d ∧ Rep T F x d
  | _, _, _, _, .nil, e => by simp at e
  | _, _, 0, _, .cons h _, e => by simp at e; subst e; exact ⟨_, rfl, h⟩
  | _, _, i + 1, x, .cons _ r, e => by
    obtain ⟨d, h1, h2⟩ := RepL.getV (i := i) (x := x) r (by simpa using e)
    exact ⟨d, by simpa using h1, h2⟩
theorem RepL.take : ∀ {xs : List V} {ds : List D} (n : Nat), RepL T F xs ds → RepL T F (xs.take n) (ds.take n)
  | _, _, 0, _ => .nil
  | _, _, _ + 1, .nil => .nil
  | _, _, n + 1, .cons h r => .cons h (RepL.take n r)
theorem RepL.drop : ∀ {xs : List V} {ds : List D} (n : Nat), RepL T F xs ds → RepL T F (xs.drop n) (ds.drop n)
  | _, _, 0, r => r
  | _, _, _ + 1, .nil => .nil
  | _, _, n + 1, .cons _ r => RepL.drop n r
theorem RepL.set {x : V} {d : D} (h : Rep T F x d) : ∀ {xs : List V} {ds : List D} (n : Nat), RepL T F xs ds → RepL T F (xs.set n x) (ds.set n d)
  | _, _, _, .nil => .nil
  | _, _, 0, .cons _ r => .cons h r
  | _, _, n + 1, .cons q r => .cons q (RepL.set h n r)
theorem RepL.snoc {xs : List V} {ds : List D} {x : V} {d : D} (r : RepL T F xs ds) (h : Rep T F x d) : RepL T F (xs ++ [x]) (ds ++ [d]) := r.append (.cons h .nil)
theorem RepL.ints : ∀ (ns : List Int), RepL T F (ns.map V.int) (ns.map D.int)
  | [] => .nil
  | n :: r => .cons (.int n) (RepL.ints r)

/-- an own thing's content -/
inductive OwnR (T : Kt) (F : Hp) : HO → D → Prop
  | lst {vs : List V} {ds : List D} (r : RepL T F vs ds) : OwnR T F (.lst vs) (.lst ds)
  | dct {kvs : List (Key × V)} {ks vs : List D} (r : RepL T F (kvs.map fun p => kV p.1) ks) (q : RepL T F (kvs.map (·.2)) vs) : OwnR T F (.dK kvs) (.dct ks vs)
theorem OwnR.mono (e : Same F F') {o : HO} {d : D} (h : OwnR T F o d) : OwnR T F' o d := by
  cases h with
  | lst r => exact .lst (r.mono e)
  | dct r q => exact .dct (r.mono e) (q.mono e)
theorem OwnR.noTbl {o : HO} {d : D} (h : OwnR T F o d) : ∀ ps, o ≠ .tbl ps := by
  cases h <;> intro ps z <;> cases z
/-- what was own is shared from now on -/
theorem OwnR.rep {o : HO} {d : D} {p : Addr} (h : OwnR T F o d) (e : Same F F') (hp : F' p = some o) : Rep T F' (.ref p) d := by
  cases h with
  | lst r => exact .lst hp (r.mono e)
  | dct r q => exact .dct hp (r.mono e) (q.mono e)

/-- a value that may be read as d: shared, or an own thing -/
def RdR (T : Kt) (F H : Hp) (x : V) (d : D) : Prop := Rep T F x d ∨ ∃ p o, x = .ref p ∧ F p = none ∧ H p = some o ∧ OwnR T F o d
/-- as data of the whole heap -/
theorem RdR.rep (e : Same F H) {x : V} {d : D} (h : RdR T F H x d) : Rep T H x d := by
  rcases h with h | ⟨p, o, rfl, _, h2, h3⟩
  · exact h.mono e
  · exact h3.rep e h2

/-! ### slots -/
/-- what the slot i holds is what σ tells -/
def SlotOk (T : Kt) (F H : Hp) (σ : L2.St) (i : Nat) : Vl → Prop
  | .frz d => ∃ x, σ[i]? = some (some x) ∧ Rep T F x d
  | .own d => ∃ p o, σ[i]? = some (some (.ref p)) ∧ F p = none ∧ H p = some o ∧ OwnR T F o d
  | .clo _ _ => False
  | .lam _ => False
/-- an own thing of a slot -/
def OwnAt (ρ : Env) (σ : L2.St) (p : Addr) : Prop := ∃ i d, getS i ρ = some (.own d) ∧ σ[i]? = some (some (.ref p))
structure SR (T : Kt) (F H : Hp) (ρ : Env) (σ : L2.St) : Prop where
  sub : Same F H
  len : ρ.length = σ.length
  slot : ∀ i v, getS i ρ = some v → SlotOk T F H σ i v
  apart : ∀ i j d e p, getS i ρ = some (.own d) → getS j ρ = some (.own e) → σ[i]? = some (some (.ref p)) → σ[j]? = some (some (.ref p)) → i = j
  tabs : NdefX.TabsN T.tb H
  ft : ∀ p ∈ T.tb, F p.1 = none
/-- what others hold stays -/
def Fram (F H : Hp) (own : Addr → Prop) (F' H' : Hp) : Prop := ∀ p o, F p = none → H p = some o → (∀ ps, o ≠ .tbl ps) → ¬ own p → F' p = none ∧ H' p = some o
/-- behind an expression -/
structure Post (T : Kt) (F H : Hp) (ρ : Env) (σ : L2.St) (F' H' : Hp) (ρ' : Env) : Prop where
  s0 : SR T F H ρ σ
  sr : SR T F' H' ρ' σ
  gr : Same F F'
  fr : Fram F H (OwnAt ρ σ) F' H'
  os : ∀ i d, getS i ρ' = some (.own d) → ∃ e, getS i ρ = some (.own e)
  th : ∀ p, H' p = none → H p = none
theorem Post.refl {ρ : Env} {σ : L2.St} (h : SR T F H ρ σ) : Post T F H ρ σ F H ρ := ⟨h, h, Same.refl F, fun _ _ a b _ _ => ⟨a, b⟩, fun _ d e => ⟨d, e⟩, fun _ e => e⟩
theorem Post.trans {ρ ρ1 ρ2 : Env} {σ : L2.St} {F2 H2 : Hp} (a : Post T F H ρ σ F1 H1 ρ1) (b : Post T F1 H1 ρ1 σ F2 H2 ρ2) : Post T F H ρ σ F2 H2 ρ2 where
  s0 := a.s0
  sr := b.sr
  gr := a.gr.trans b.gr
  fr := fun p o h1 h2 h3 h4 => by
    obtain ⟨k1, k2⟩ := a.fr p o h1 h2 h3 h4
    refine b.fr p o k1 k2 h3 fun ⟨i, d, e1, e2⟩ => h4 ?_
    obtain ⟨e, e3⟩ := a.os i d e1
    exact ⟨i, e, e3, e2⟩
  os := fun i d e => by
    obtain ⟨d1, e1⟩ := b.os i d e
    exact a.os i d1 e1
  th := fun p e => a.th p (b.th p e)
/-- an own thing of a slot was there -/
theorem SR.ownThere {ρ : Env} {σ : L2.St} {p : Addr} (s : SR T F H ρ σ) (h : OwnAt ρ σ p) : ∃ o, H p = some o := by
  obtain ⟨i, d, e1, e2⟩ := h
  obtain ⟨p', o, k1, _, k3, _⟩ := s.slot i _ e1
  rw [e2] at k1
  cases k1
  exact ⟨o, k3⟩
theorem Post.ownBack {ρ ρ' : Env} {σ : L2.St} {p : Addr} (a : Post T F H ρ σ F' H' ρ') (h : OwnAt ρ' σ p) : OwnAt ρ σ p := by
  obtain ⟨i, d, e1, e2⟩ := h
  obtain ⟨e, e3⟩ := a.os i d e1
  exact ⟨i, e, e3, e2⟩

/-- only new things came -/
structure Grow (F H F' H' : Hp) : Prop where
  hh : Same H H'
  ff : Same F F'
  fh : Same F' H'
  nw : ∀ p o, H p = some o → F p = none → F' p = none
theorem Grow.refl (h : Same F H) : Grow F H F H := ⟨Same.refl _, Same.refl _, h, fun _ _ _ e => e⟩
theorem Grow.trans {F2 H2 : Hp} (a : Grow F H F1 H1) (b : Grow F1 H1 F2 H2) : Grow F H F2 H2 :=
  ⟨a.hh.trans b.hh, a.ff.trans b.ff, b.fh, fun p o h1 h2 => b.nw p o (a.hh p o h1) (a.nw p o h1 h2)⟩
/-- a new thing, shared -/
theorem Grow.frz {p : Addr} {o : HO} (h : Same F H) (hp : H p = none) : Grow F H (upd F p o) (upd H p o) := by
  have fp : F p = none := h.free hp
  refine ⟨Same.upd hp, Same.upd fp, fun b u e => ?_, fun q u e1 e2 => ?_⟩
  · by_cases hb : b = p
    · subst hb; rw [upd_same] at e ⊢; exact e
    · rw [upd_ne hb] at e ⊢; exact h b u e
  · rw [upd_ne (ne_of_none e1 hp)]; exact e2
/-- a new thing, own -/
theorem Grow.own {p : Addr} {o : HO} (h : Same F H) (hp : H p = none) : Grow F H F (upd H p o) :=
  ⟨Same.upd hp, Same.refl _, fun b u e => Same.upd hp b u (h b u e), fun _ _ _ e => e⟩
theorem SR.grow {ρ : Env} {σ : L2.St} (s : SR T F H ρ σ) (g : Grow F H F' H') : SR T F' H' ρ σ where
  sub := g.fh
  len := s.len
  slot := fun i v e => by
    have q := s.slot i v e
    cases v with
    | frz d => obtain ⟨x, e1, r⟩ := q; exact ⟨x, e1, r.mono g.ff⟩
    | own d => obtain ⟨p, o, e1, e2, e3, r⟩ := q; exact ⟨p, o, e1, g.nw p o e3 e2, g.hh p o e3, r.mono g.ff⟩
    | clo _ _ => exact q
    | lam _ => exact q
  apart := s.apart
  tabs := s.tabs.ext g.hh
  ft := fun p hp => by
    obtain ⟨ps, e, _⟩ := s.tabs p hp
    exact g.nw p.1 _ e (s.ft p hp)
theorem Post.of_grow {ρ : Env} {σ : L2.St} (s : SR T F H ρ σ) (g : Grow F H F' H') : Post T F H ρ σ F' H' ρ :=
  ⟨s, s.grow g, g.ff, fun p o h1 h2 _ _ => ⟨g.nw p o h2 h1, g.hh p o h2⟩, fun _ d e => ⟨d, e⟩, fun p e => g.hh.free e⟩

/-! ### what an expression gives -/
/-- H0: the heap ahead of the expression: an own thing is new -/
def VOk (T : Kt) (H0 F H : Hp) (x : V) : Vl → Prop
  | .frz d => Rep T F x d
  | .own d => ∃ p o, x = .ref p ∧ H0 p = none ∧ F p = none ∧ H p = some o ∧ OwnR T F o d
  | .clo _ _ => False
  | .lam _ => False
def AOk (T : Kt) (F : Hp) (σ : L2.St) (x : V) : A → Prop
  | .val d => Rep T F x d
  | .slot i => σ[i]? = some (some x)
  | .lam _ => False
theorem AOk.mono {σ : L2.St} {x : V} {a : A} (h : AOk T F σ x a) (e : Same F F') : AOk T F' σ x a := by
  cases a with
  | val d => exact Rep.mono e h
  | slot i => exact h
  | lam _ => exact h
/-- an operand that is wanted now -/
theorem AOk.rd {ρ : Env} {σ : L2.St} {x : V} {a : A} {v : Vl} {d : D} (h : AOk T F σ x a) (s : SR T F H ρ σ) (e : a.get ρ = some v) (ed : v.d? = some d) : RdR T F H x d := by
  cases a with
  | val w =>
    have e : Vl.frz w = v := Option.some.inj e
    subst e
    cases ed
    exact .inl h
  | lam _ => exact h.elim
  | slot i =>
    have h : σ[i]? = some (some x) := h
    have e : getS i ρ = some v := e
    have q := s.slot i v e
    cases v with
    | frz d' =>
      cases ed
      obtain ⟨y, e1, r⟩ := q
      rw [h] at e1
      cases e1
      exact .inl r
    | own d' =>
      cases ed
      obtain ⟨p, o, e1, e2, e3, r⟩ := q
      rw [h] at e1
      cases e1
      exact .inr ⟨p, o, rfl, e2, e3, r⟩
    | clo _ _ => cases ed
    | lam _ => cases ed
theorem VOk.pre {H2 : Hp} {x : V} {v : Vl} (h : VOk T H1 F H x v) (e : ∀ p, H1 p = none → H2 p = none) : VOk T H2 F H x v := by
  cases v with
  | frz d => exact h
  | own d => obtain ⟨p, o, k1, k2, k3⟩ := h; exact ⟨p, o, k1, e p k2, k3⟩
  | clo _ _ => exact h
  | lam _ => exact h
/-- what was own is shared from now on: as seen from ahead of the expression -/
theorem VOk.share {H0 F0 : Hp} {ρ0 ρ : Env} {σ : L2.St} {x : V} {v : Vl} {d : D} (h : VOk T H0 F H x v) (e : v.d? = some d) (P : Post T F0 H0 ρ0 σ F H ρ) : ∃ F', Post T F0 H0 ρ0 σ F' H ρ ∧ Same F F' ∧ Rep T F' x d := by
  cases v with
  | frz d' => cases e; exact ⟨F, P, Same.refl F, h⟩
  | own d' =>
    cases e
    obtain ⟨p, o, rfl, e1, e2, e3, r⟩ := h
    have g : Same F (upd F p o) := Same.upd e2
    have q : Same (upd F p o) H := fun b u e => by
      by_cases hb : b = p
      · subst hb; rw [upd_same] at e; rw [← e]; exact e3
      · rw [upd_ne hb] at e; exact P.sr.sub b u e
    have nof : ∀ i d' p', getS i ρ = some (.own d') → σ[i]? = some (some (.ref p')) → p' ≠ p := fun i d' p' q1 q2 z => by
      obtain ⟨o', k⟩ := P.s0.ownThere (P.ownBack ⟨i, d', q1, q2⟩)
      rw [z, e1] at k
      cases k
    refine ⟨upd F p o, ⟨P.s0, ⟨q, P.sr.len, fun i v e => ?_, P.sr.apart, P.sr.tabs, fun p' hp => ?_⟩, P.gr.trans g, fun p' o' h1 h2 h3 h4 => ?_, P.os, P.th⟩, g, r.rep g upd_same⟩
    · have z := P.sr.slot i v e
      cases v with
      | frz d => obtain ⟨x, e1, r⟩ := z; exact ⟨x, e1, r.mono g⟩
      | own d => obtain ⟨p', o', e1, k2, k3, r⟩ := z; exact ⟨p', o', e1, by rw [upd_ne (nof i d p' e e1)]; exact k2, k3, r.mono g⟩
      | clo _ _ => exact z
      | lam _ => exact z
    · obtain ⟨ps, e4, _⟩ := P.sr.tabs p' hp
      rw [upd_ne (fun z => by rw [z, e3] at e4; exact r.noTbl ps (Option.some.inj e4))]
      exact P.sr.ft p' hp
    · obtain ⟨k1, k2⟩ := P.fr p' o' h1 h2 h3 h4
      refine ⟨?_, k2⟩
      rw [upd_ne (fun z => by rw [z, e1] at h2; cases h2)]
      exact k1
  | clo _ _ => exact h.elim
  | lam _ => exact h.elim
end
end Dp
end
section
set_option Elab.async false
set_option linter.all false
set_option maxRecDepth 100000
set_option maxHeartbeats 1000000
/-! S2: readings by runs. -/
namespace Dp
open PySem PySem.Spec PyProof.Rows L2

/-! ### readings from stronger readings -/
theorem PE.imp {X : Cx} {e : Expr} {t t' : TE} (h : PE X e t) (k : ∀ σ H Q, t' σ H Q → t σ H Q) : PE X e t' := ⟨fun pins s σ H Q I q => h.run pins s σ H Q I (k _ _ _ q)⟩
theorem PT.imp {X : Cx} {e : Expr} {t t' : TT} (h : PT X e t) (k : ∀ σ H Q, t' σ H Q → t σ H Q) : PT X e t' := ⟨fun pins s σ H Q I q => h.run pins s σ H Q I (k _ _ _ q)⟩
theorem PW.imp {X : Cx} {e : Expr} {t t' : TT} (h : PW X e t) (k : ∀ σ H Q, t' σ H Q → t σ H Q) : PW X e t' := ⟨fun wh pins s σ H Q I q => h.run wh pins s σ H Q I (k _ _ _ q)⟩
theorem PA.imp {X : Cx} {e : List Expr} {t t' : TA} (h : PA X e t) (k : ∀ σ H Q, t' σ H Q → t σ H Q) : PA X e t' := ⟨fun pos pins s σ H Q I q => h.run pos pins s σ H Q I (k _ _ _ q)⟩
theorem PS.imp {X : Cx} {e : Stmt} {t t' : TS} (h : PS X e t) (k : ∀ D σ H, t' D σ H → t D σ H) : PS X e t' := ⟨fun pins s σ H D I q => h.run pins s σ H D I (k _ _ _ q)⟩
theorem PSs.imp {X : Cx} {e : List Stmt} {t t' : TS} (h : PSs X e t) (k : ∀ D σ H, t' D σ H → t D σ H) : PSs X e t' := ⟨fun pins s σ H D I q => h.run pins s σ H D I (k _ _ _ q)⟩
theorem PG.imp {X : Cx} {e : Expr} {t t' : TG} (h : PG X e t) (k : ∀ v σ H Q, t' v σ H Q → t v σ H Q) : PG X e t' := ⟨fun pins s σ H v u Q I r q => h.run pins s σ H v u Q I r (k _ _ _ _ q)⟩
theorem OpR.imp {X : Cx} {f : Value → Value → Sem Value} {r r' : R2} (h : OpR X f r) (k : ∀ x y H Q, r' x y H Q → r x y H Q) : OpR X f r' := fun pins s σ H x y v u Q I rx ry q => h pins s σ H x y v u Q I rx ry (k _ _ _ _ q)

theorem M.bind_ok {α β : Type} {f : M α} {g : α → M β} {ρ ρ' : Env} {a : α} (e : f ρ = some (.ok a, ρ')) : M.bind f g ρ = g a ρ' := by unfold M.bind; rw [e]
theorem M.bind_err {α β : Type} {f : M α} {g : α → M β} {ρ ρ' : Env} {c : Nat} (e : f ρ = some (.err c, ρ')) : M.bind f g ρ = some (.err c, ρ') := by unfold M.bind; rw [e]
theorem M.bind_none {α β : Type} {f : M α} {g : α → M β} {ρ : Env} (e : f ρ = none) : M.bind f g ρ = none := by unfold M.bind; rw [e]
section
variable {ι α β κ : Type}
/-- a rule of how a value lies: the heap ahead; F, H behind; the slots -/
abbrev Rl (ι α : Type) := Hp → Hp → Hp → L2.St → ι → α → Prop
/-- what the run f from (F, ρ) tells of what follows; F0, H0, ρ0: ahead of the whole -/
def tGa (T : Kt) (F0 H0 : Hp) (ρ0 : Env) (F : Hp) (ρ : Env) (R : Rl ι α) (W : WX) (f : M α) (σ : L2.St) (H : Hp) (Q : ι → Hp → Prop) : Prop :=
  Post T F0 H0 ρ0 σ F H ρ ∧ ∃ r ρ', f ρ = some (r, ρ') ∧ match r with
    | .ok a => ∀ x F' H', Post T F0 H0 ρ0 σ F' H' ρ' → R H0 F' H' σ x a → Q x H'
    | .err c => ∀ F' H' d, T.dk c d → Post T F0 H0 ρ0 σ F' H' ρ' → W (.ref (T.ca c)) d σ H'
def tG (T : Kt) (R : Rl ι α) (W : WX) (f : M α) (σ : L2.St) (H : Hp) (Q : ι → Hp → Prop) : Prop :=
  ∃ F ρ, tGa T F H ρ F ρ R W f σ H Q
variable {T : Kt} {F0 H0 F H : Hp} {ρ0 ρ : Env} {σ : L2.St} {W : WX}
theorem tGa.g {R : Rl ι α} {f : M α} {Q : ι → Hp → Prop} (h : tGa T F H ρ F ρ R W f σ H Q) : tG T R W f σ H Q := ⟨F, ρ, h⟩
/-- f, then g: f's own reading -/
theorem tGa.bind {R1 : Rl κ α} {R2 : Rl ι β} {f : M α} {g : α → M β} {Q : ι → Hp → Prop} (h : tGa T F0 H0 ρ0 F ρ R2 W (M.bind f g) σ H Q) :
    tG T R1 W f σ H fun x H1 => ∃ F1 ρ1 a, Post T F H ρ σ F1 H1 ρ1 ∧ R1 H F1 H1 σ x a ∧ tGa T F0 H0 ρ0 F1 ρ1 R2 W (g a) σ H1 Q := by
  obtain ⟨P0, r, ρ', e, q⟩ := h
  have e : (match f ρ with
    | some (.ok a, ρ') => g a ρ'
    | some (.err c, ρ') => some (.err c, ρ')
    | none => none) = some (r, ρ') := e
  cases ef : f ρ with
  | none => rw [ef] at e; cases e
  | some p =>
    obtain ⟨r1, ρ1⟩ := p
    rw [ef] at e
    cases r1 with
    | err c =>
      have e : some (Res.err c, ρ1) = some (r, ρ') := e
      cases e
      exact ⟨F, ρ, Post.refl P0.sr, _, _, ef, fun F' H' d hd P => q F' H' d hd (P0.trans P)⟩
    | ok a =>
      have e : g a ρ1 = some (r, ρ') := e
      exact ⟨F, ρ, Post.refl P0.sr, _, _, ef, fun x F1 H1 P1 r1 => ⟨F1, ρ1, a, P1, r1, P0.trans P1, r, ρ', e, q⟩⟩
/-- the run itself, by its own reading -/
theorem tGa.run {R1 : Rl κ α} {R : Rl ι α} {f : M α} {Q : ι → Hp → Prop} (h : tGa T F0 H0 ρ0 F ρ R W f σ H Q) :
    tG T R1 W f σ H fun x H1 => ∃ F1 ρ1 a, Post T F H ρ σ F1 H1 ρ1 ∧ R1 H F1 H1 σ x a ∧ tGa T F0 H0 ρ0 F1 ρ1 R W (M.pure a) σ H1 Q := by
  obtain ⟨P0, r, ρ', e, q⟩ := h
  refine ⟨F, ρ, Post.refl P0.sr, r, ρ', e, ?_⟩
  cases r with
  | err c => exact fun F' H' d hd P => q F' H' d hd (P0.trans P)
  | ok a => exact fun x F1 H1 P1 r1 => ⟨F1, ρ', a, P1, r1, P0.trans P1, .ok a, ρ', rfl, q⟩
theorem tGa.imp {R : Rl ι α} {f : M α} {Q Q' : ι → Hp → Prop} (h : tGa T F0 H0 ρ0 F ρ R W f σ H Q) (k : ∀ x H, Q x H → Q' x H) : tGa T F0 H0 ρ0 F ρ R W f σ H Q' := by
  obtain ⟨sr, r, ρ', e, q⟩ := h
  refine ⟨sr, r, ρ', e, ?_⟩
  cases r with
  | ok a => exact fun x F' H' P r => k _ _ (q x F' H' P r)
  | err c => exact q
theorem tG.imp {R : Rl ι α} {f : M α} {Q Q' : ι → Hp → Prop} (h : tG T R W f σ H Q) (k : ∀ x H, Q x H → Q' x H) : tG T R W f σ H Q' := by
  obtain ⟨F, ρ, h⟩ := h
  exact ⟨F, ρ, h.imp k⟩
/-- a pure value at the end -/
theorem tGa.ret {R : Rl ι α} {a : α} {Q : ι → Hp → Prop} (h : tGa T F0 H0 ρ0 F ρ R W (M.pure a) σ H Q) {x : ι} {F' H' : Hp} (P : Post T F H ρ σ F' H' ρ) (r : R H0 F' H' σ x a) : Q x H' := by
  obtain ⟨P0, r', ρ', e, q⟩ := h
  have e : some (Res.ok a, ρ) = some (r', ρ') := e
  cases e
  exact q x F' H' (P0.trans P) r
theorem tGa.ret0 {R : Rl ι α} {a : α} {Q : ι → Hp → Prop} (h : tGa T F0 H0 ρ0 F ρ R W (M.pure a) σ H Q) {x : ι} (r : R H0 F H σ x a) : Q x H := h.ret (Post.refl h.1.sr) r
theorem tGa.opt {R : Rl ι β} {o : Option α} {g : α → M β} {Q : ι → Hp → Prop} (h : tGa T F0 H0 ρ0 F ρ R W (M.bind (M.opt o) g) σ H Q) : ∃ a, o = some a ∧ tGa T F0 H0 ρ0 F ρ R W (g a) σ H Q := by
  cases o with
  | some a => exact ⟨a, rfl, h⟩
  | none => obtain ⟨sr, r, ρ', e, q⟩ := h; cases e
theorem tGa.optEnd {R : Rl ι α} {o : Option α} {Q : ι → Hp → Prop} (h : tGa T F0 H0 ρ0 F ρ R W (M.opt o) σ H Q) : ∃ a, o = some a ∧ tGa T F0 H0 ρ0 F ρ R W (M.pure a) σ H Q := by
  cases o with
  | some a => exact ⟨a, rfl, h⟩
  | none => obtain ⟨sr, r, ρ', e, q⟩ := h; cases e
theorem A.d_eq {a : A} {ρ : Env} {r : Res D} {ρ' : Env} (e : A.d a ρ = some (r, ρ')) : ∃ v d, a.get ρ = some v ∧ v.d? = some d ∧ r = .ok d ∧ ρ' = ρ := by
  unfold A.d at e
  cases e1 : a.get ρ with
  | none => rw [e1] at e; cases e
  | some v =>
    rw [e1] at e
    dsimp only at e
    cases e2 : v.d? with
    | none => rw [e2] at e; cases e
    | some d =>
      rw [e2] at e
      cases e
      exact ⟨v, d, rfl, e2, rfl, rfl⟩
/-- what an operand holds now -/
theorem tGa.dd {R : Rl ι β} {a : A} {g : D → M β} {Q : ι → Hp → Prop} (h : tGa T F0 H0 ρ0 F ρ R W (M.bind a.d g) σ H Q) : ∃ v d, a.get ρ = some v ∧ v.d? = some d ∧ tGa T F0 H0 ρ0 F ρ R W (g d) σ H Q := by
  obtain ⟨P, r, ρ', e, q⟩ := h
  cases ed : A.d a ρ with
  | none => rw [M.bind_none ed] at e; cases e
  | some p =>
    obtain ⟨r1, ρ1⟩ := p
    obtain ⟨v, d, h1, h2, h3, h4⟩ := A.d_eq ed
    rw [h3, h4] at ed
    rw [M.bind_ok ed] at e
    exact ⟨v, d, h1, h2, P, r, ρ', e, q⟩
theorem tGa.fail {R : Rl ι α} {Q : ι → Hp → Prop} (h : tGa T F0 H0 ρ0 F ρ R W M.fail σ H Q) : False := by
  obtain ⟨sr, r, ρ', e, q⟩ := h
  cases e
/-- a value is shared: x, the value of a part that began at H1, where all of the whole's own heap stood -/
theorem tGa.shr {R : Rl ι β} {x : V} {v : Vl} {g : D → M β} {Q : ι → Hp → Prop} (h : tGa T F0 H0 ρ0 F ρ R W (M.bind (frzV v) g) σ H Q) (r : VOk T H0 F H x v) :
    ∃ d F2, Same F F2 ∧ Rep T F2 x d ∧ tGa T F0 H0 ρ0 F2 ρ R W (g d) σ H Q := by
  obtain ⟨d, e, h⟩ := h.opt
  obtain ⟨P, q⟩ := h
  obtain ⟨F2, P2, s, rp⟩ := VOk.share r e P
  exact ⟨d, F2, s, rp, P2, q⟩
end
/-- the reading of a value, of an operand -/
abbrev RV (T : Kt) : Rl V Vl := fun H0 F H _ x v => VOk T H0 F H x v
abbrev RA (T : Kt) : Rl V A := fun _ F _ σ x a => AOk T F σ x a
abbrev RB : Rl Bool Bool := fun _ _ _ _ x a => x = a
def RAs (T : Kt) : Rl (List V) (List A) := fun _ F _ σ xs as => Paired (fun x a => AOk T F σ x a) xs as
def RDs (T : Kt) : Rl (List V) (List D) := fun _ F _ _ xs ds => RepL T F xs ds
end Dp
end
section
set_option Elab.async false
set_option linter.all false
set_option maxRecDepth 100000
set_option maxHeartbeats 1000000
/-! S3: operators on data. -/
namespace Dp
open PySem PySem.Spec PyProof.Rows L2

theorem lim_line : LIM = sizeLine := by rw [sizeLine_eq]
/-- an operator on two values -/
def OpD (T : Kt) (X : Cx) (f : Value → Value → Sem Value) (g : D → D → Option Vl) : Prop :=
  OpR X f fun x y H Q => ∃ F p q v, Same F H ∧ RdR T F H x p ∧ RdR T F H y q ∧ g p q = some v ∧ ∀ z F' H', Grow F H F' H' → VOk T H F' H' z v → Q z H'
section
variable {T : Kt} {X : Cx} {F H : Hp} {x y : V}
/-! ### what lies there -/
theorem RdR.int {i : Int} (h : RdR T F H x (.int i)) : x = .int i := by
  rcases h with h | ⟨p, o, _, _, _, h⟩
  · cases h; rfl
  · cases h
theorem RdR.bl {b : Bool} (h : RdR T F H x (.bl b)) : x = .bl b := by
  rcases h with h | ⟨p, o, _, _, _, h⟩
  · cases h; rfl
  · cases h
theorem RdR.non (h : RdR T F H x .non) : x = .non := by
  rcases h with h | ⟨p, o, _, _, _, h⟩
  · cases h; rfl
  · cases h
theorem RdR.str {s : List Nat} (h : RdR T F H x (.str s)) : ∃ z : Str, x = .str z ∧ z.cps.toList = s ∧ z.length ≤ sizeLine ∧ PyData.strOk z = true := by
  rcases h with h | ⟨p, o, _, _, _, h⟩
  · cases h with | str z hz hk => exact ⟨z, rfl, rfl, hz, hk⟩
  · cases h
theorem RdR.tup {ds : List D} (h : RdR T F H x (.tup ds)) (e : Same F H) : ∃ a vs, x = .ref a ∧ SqT T.K H a vs ∧ SqT T.K F a vs ∧ RepL T F vs ds := by
  rcases h with h | ⟨p, o, _, _, _, h⟩
  · cases h with | tup h r => exact ⟨_, _, rfl, SqT.mono e h, h, r⟩
  · cases h
theorem RdR.lst {ds : List D} (h : RdR T F H x (.lst ds)) (e : Same F H) : ∃ a vs, x = .ref a ∧ H a = some (.lst vs) ∧ RepL T F vs ds := by
  rcases h with h | ⟨p, o, rfl, _, h2, h⟩
  · cases h with | lst h r => exact ⟨_, _, rfl, e _ _ h, r⟩
  · cases h with | lst r => exact ⟨_, _, rfl, h2, r⟩
theorem RdR.scr {ds : List D} (h : RdR T F H x (.scr ds)) (e : Same F H) : ∃ a vs, x = .ref a ∧ SqL T.K H a vs ∧ RepL T F vs ds := by
  rcases h with h | ⟨p, o, _, _, _, h⟩
  · cases h with | scr h r => exact ⟨_, _, rfl, SqL.mono e h, r⟩
  · cases h
theorem RdR.dct {ks vs : List D} (h : RdR T F H x (.dct ks vs)) (e : Same F H) : ∃ a kvs, x = .ref a ∧ H a = some (.dK kvs) ∧ RepL T F (kvs.map fun p => kV p.1) ks ∧ RepL T F (kvs.map (·.2)) vs := by
  rcases h with h | ⟨p, o, rfl, _, h2, h⟩
  · cases h with | dct h r q => exact ⟨_, _, rfl, e _ _ h, r, q⟩
  · cases h with | dct r q => exact ⟨_, _, rfl, h2, r, q⟩
theorem Str.len (z : Str) : z.cps.toList.length = z.length := by show _ = z.cps.size; simp
def okL (s : List Nat) : Bool := s.all fun c => decide (c < 0x110000)
theorem strOk_iff {z : Str} : PyData.strOk z = okL z.cps.toList := by
  show z.cps.all _ = _
  unfold okL
  rw [← Array.all_toList]
theorem okL_app {a b : List Nat} (h : okL a = true) (k : okL b = true) : okL (a ++ b) = true := by
  unfold okL at *
  rw [List.all_append, h, k] <;> rfl
theorem okL_mem {s : List Nat} : okL s = true ↔ ∀ c ∈ s, c < 0x110000 := by
  unfold okL
  simp
theorem okL_sub {a b : List Nat} (h : okL b = true) (k : ∀ c ∈ a, c ∈ b) : okL a = true := okL_mem.mpr fun c hc => okL_mem.mp h c (k c hc)
/-- a text by its signs -/
theorem rep_str {z : Str} {s : List Nat} (e : z.cps.toList = s) (h : s.length ≤ LIM) (k : okL s = true) : Rep T F (.str z) (.str s) := by
  subst e
  exact .str z (by rw [← lim_line, ← Str.len]; exact h) (by rw [strOk_iff]; exact k)
theorem Rep.okS {s : List Nat} (h : Rep T F x (.str s)) : okL s = true ∧ s.length ≤ LIM := by
  cases h with
  | str z hz hk => exact ⟨by rw [← strOk_iff]; exact hk, by rw [Str.len, lim_line]; exact hz⟩

/-! ### data as the library's data -/
mutual
def py : D → PyData
  | .bl b => .bool b
  | .int i => .int i
  | .str s => .str ⟨s.toArray⟩
  | .tup l => .tuple (pyL l)
  | .lst l => .list (pyL l)
  | _ => .none
def pyL : List D → List PyData
  | [] => []
  | d :: r => py d :: pyL r
end
theorem depL_le {d : D} {l : List D} {n : Nat} (h : depL (d :: l) ≤ n) : dep d ≤ n ∧ depL l ≤ n := by
  have h : max (dep d) (depL l) ≤ n := h
  omega
mutual
theorem py_rep : ∀ {x : V} {d : D}, Rep T H x d → dep d ≤ 900 → L2.Dp T.K H x (py d) ∧ PyData.canLay0 (py d) = true ∧ PyData.depth (py d) = dep d
  | _, _, .non, _ => ⟨.non, by simp [py, PyData.canLay0], by simp [py, PyData.depth, dep]⟩
  | _, _, .bl b, _ => ⟨.bl b, by simp [py, PyData.canLay0], by simp [py, PyData.depth, dep]⟩
  | _, _, .int i, _ => ⟨.int i, by simp [py, PyData.canLay0], by simp [py, PyData.depth, dep]⟩
  | _, _, .str z h k, _ => by
    have e : (⟨z.cps.toList.toArray⟩ : Str) = z := by
      obtain ⟨a⟩ := z
      simp
    refine ⟨?_, ?_, by simp [py, PyData.depth, dep]⟩
    · show L2.Dp T.K H (.str z) (.str ⟨z.cps.toList.toArray⟩)
      rw [e]
      exact .str z
    · show PyData.canLay0 (.str ⟨z.cps.toList.toArray⟩) = true
      rw [e]
      simpa [PyData.canLay0] using k
  | _, _, .tup h r, hd => by
    have hd : depL _ + 1 ≤ 900 := hd
    obtain ⟨a, b, c⟩ := py_repL r (by omega)
    refine ⟨.tup h a, ?_, ?_⟩
    · simpa [py, PyData.canLay0] using b
    · simp [py, PyData.depth, dep, c]
  | _, _, .lst h r, hd => by
    have hd : depL _ + 1 ≤ 900 := hd
    obtain ⟨a, b, c⟩ := py_repL r (by omega)
    refine ⟨.lst (.inl (.inl h)) a, ?_, ?_⟩
    · simpa [py, PyData.canLay0] using b
    · simp [py, PyData.depth, dep, c]
  | _, _, .scr h r, hd => absurd hd (by simp [dep])
  | _, _, .dct h r q, hd => absurd hd (by simp [dep])
  | _, _, .fn f, hd => absurd hd (by simp [dep])
theorem py_repL : ∀ {xs : List V} {ds : List D}, RepL T H xs ds → depL ds ≤ 900 → L2.DpAll T.K H xs (pyL ds) ∧ PyData.canLayAll0 (pyL ds) = true ∧ PyData.depthAll (pyL ds) = depL ds
  | _, _, .nil, _ => ⟨.nil, by simp [pyL, PyData.canLayAll0], by simp [pyL, PyData.depthAll, depL]⟩
  | _, _, .cons h r, hd => by
    obtain ⟨h1, h2⟩ := depL_le hd
    obtain ⟨a, b, c⟩ := py_rep h h1
    obtain ⟨a', b', c'⟩ := py_repL r h2
    refine ⟨.cons a a', ?_, ?_⟩
    · simp [pyL, PyData.canLayAll0, b, b']
    · simp [pyL, PyData.depthAll, depL, c, c']
end
theorem str_toArray_beq (a b : List Nat) : ((⟨a.toArray⟩ : Str) == ⟨b.toArray⟩) = (a == b) := by
  rw [Bool.eq_iff_iff, beq_iff_eq, beq_iff_eq]
  constructor
  · intro h
    have := congrArg (fun z : Str => z.cps.toList) h
    simpa using this
  · intro h
    rw [h]
mutual
theorem eqD_py : ∀ (d e : D) (b : Bool), eqD d e = some b → dep d ≤ 900 → dep e ≤ 900 → PyData.eqv (py d) (py e) = b
  | .non, e, b, h, _, he => by cases e <;> simp [eqD, dep] at h he <;> subst h <;> simp [py, PyData.eqv]
  | .bl a, e, b, h, _, he => by cases e <;> simp [eqD, dep] at h he <;> subst h <;> simp [py, PyData.eqv]
  | .int a, e, b, h, _, he => by cases e <;> simp [eqD, dep] at h he <;> subst h <;> simp [py, PyData.eqv]
  | .str a, e, b, h, _, he => by
    cases e <;> simp [eqD, dep] at h he
    all_goals (try (subst h; simp [py, PyData.eqv]; done))
    subst h
    simp only [py, PyData.eqv]
    exact str_toArray_beq _ _
  | .tup l, e, b, h, hd, he => by
    cases e <;> simp [eqD, dep] at h he
    all_goals (try (subst h; simp [py, PyData.eqv]; done))
    rename_i m
    simp only [py, PyData.eqv]
    have hd : depL l + 1 ≤ 900 := hd
    exact eqL_py l m b h (by omega) (by omega)
  | .lst l, e, b, h, hd, he => by
    cases e <;> simp [eqD, dep] at h he
    all_goals (try (subst h; simp [py, PyData.eqv]; done))
    rename_i m
    simp only [py, PyData.eqv]
    have hd : depL l + 1 ≤ 900 := hd
    exact eqL_py l m b h (by omega) (by omega)
  | .dct _ _, _, _, _, hd, _ => absurd hd (by simp [dep])
  | .scr _, _, _, _, hd, _ => absurd hd (by simp [dep])
  | .obj _ _ _, _, _, _, hd, _ => absurd hd (by simp [dep])
  | .exc _, _, _, _, hd, _ => absurd hd (by simp [dep])
  | .fn _, _, _, _, hd, _ => absurd hd (by simp [dep])
theorem eqL_py : ∀ (l m : List D) (b : Bool), eqL l m = some b → depL l ≤ 900 → depL m ≤ 900 → PyData.eqvAll (pyL l) (pyL m) = b
  | [], [], b, h, _, _ => by simp [eqL] at h; subst h; simp [pyL, PyData.eqvAll]
  | [], _ :: _, b, h, _, _ => by simp [eqL] at h; subst h; simp [pyL, PyData.eqvAll]
  | _ :: _, [], b, h, _, _ => by simp [eqL] at h; subst h; simp [pyL, PyData.eqvAll]
  | x :: l, y :: m, b, h, hl, hm => by
    obtain ⟨h1, h2⟩ := depL_le hl
    obtain ⟨k1, k2⟩ := depL_le hm
    cases q : eqD x y with
    | none => simp [eqL, q] at h
    | some c =>
      have e := eqD_py x y c q h1 k1
      cases c with
      | true =>
        simp only [eqL, q] at h
        simp only [pyL, PyData.eqvAll, e, eqL_py l m b h h2 k2, Bool.true_and]
      | false =>
        simp only [eqL, q] at h
        cases h
        simp only [pyL, PyData.eqvAll, e, Bool.false_and]
end
theorem shaped_py {d : D} (h : Rep T H x d) (k : dep d ≤ 60) : SeqAt.shaped (py d) = true := by
  obtain ⟨_, b, c⟩ := py_rep h (by omega)
  unfold SeqAt.shaped
  rw [b, c, Bool.true_and]
  exact decide_eq_true (by omega)
end
end Dp
end
section
set_option Elab.async false
set_option linter.all false
set_option maxRecDepth 100000
set_option maxHeartbeats 1000000
/-! S4: operators on data, one by one. -/
namespace Dp
open PySem PySem.Spec PyProof.Rows L2
section
variable {T : Kt} {X : Cx} {F H : Hp} {x y : V}
variable (hK : X.K = T.K)
include hK
theorem op_addD : OpD T X (binaryOp .Add) (binD .add) := by
  intro pins s σ H x y v u Q I rx ry ⟨F, p, q, w, e, hp, hq, hw, k⟩
  cases p with
  | int i =>
    cases q with
    | int j =>
      cases hw
      obtain rfl := hp.int
      obtain rfl := hq.int
      exact op_add pins s σ H _ _ v u Q I rx ry ⟨i, j, rfl, rfl, k _ F H (Grow.refl e) (.int _)⟩
    | _ => cases hw
  | str a =>
    cases q with
    | str b =>
      have hw : (if a.length + b.length ≤ LIM then some (Vl.frz (.str (a ++ b))) else none) = some w := hw
      split at hw
      · rename_i hl
        cases hw
        obtain ⟨z, rfl, rfl, h1, o1⟩ := hp.str
        obtain ⟨z', rfl, rfl, h2, o2⟩ := hq.str
        rw [strOk_iff] at o1 o2
        have hl' : z.length + z'.length ≤ LIM := by rw [← Str.len, ← Str.len]; exact hl
        refine op_add_str pins s σ H _ _ v u Q I rx ry ⟨z, z', rfl, rfl, by rw [← lim_line]; exact hl', k _ F H (Grow.refl e) ?_⟩
        exact rep_str (by show (z.cps ++ z'.cps).toList = _; simp) (by rw [List.length_append]; exact hl) (okL_app o1 o2)
      · cases hw
    | _ => cases hw
  | tup a =>
    cases q with
    | tup b =>
      have hw : (if a.length + b.length ≤ LIM then some (Vl.frz (.tup (a ++ b))) else none) = some w := hw
      split at hw
      · rename_i hl
        cases hw
        obtain ⟨l, vs, rfl, t1, t1', r1⟩ := hp.tup e
        obtain ⟨m, us, rfl, t2, t2', r2⟩ := hq.tup e
        refine op_catA pins s σ H _ _ v u Q I rx ry ⟨l, m, vs, us, rfl, rfl, hK ▸ t1, hK ▸ t2, by rw [r1.length, r2.length, ← lim_line]; exact hl, fun hv => ?_, fun hv hu => ?_, fun hv hu p np => ?_⟩
        · subst hv
          cases r1
          exact k _ F H (Grow.refl e) (.tup t2' r2)
        · subst hu
          cases r2
          rw [List.append_nil] at k
          exact k _ F H (Grow.refl e) (.tup t1' r1)
        · have g := Grow.frz (F := F) (o := .tup (vs ++ us)) e np
          exact k _ _ _ g (.tup (.inl (.inl upd_same)) ((r1.append r2).mono g.ff))
      · cases hw
    | _ => cases hw
  | lst a =>
    cases q with
    | lst b =>
      have hw : (if a.length + b.length ≤ LIM then some (Vl.own (.lst (a ++ b))) else none) = some w := hw
      split at hw
      · rename_i hl
        cases hw
        obtain ⟨l, vs, rfl, t1, r1⟩ := hp.lst e
        obtain ⟨m, us, rfl, t2, r2⟩ := hq.lst e
        refine op_cat pins s σ H _ _ v u Q I rx ry ⟨l, m, vs, us, rfl, rfl, t1, t2, by rw [r1.length, r2.length, ← lim_line]; exact hl, fun p np => ?_⟩
        exact k _ F _ (Grow.own e np) ⟨p, _, rfl, np, e.free np, upd_same, .lst (r1.append r2)⟩
      · cases hw
    | _ => cases hw
  | _ => cases hw
omit hK
theorem op_subD : OpD T X (binaryOp .Sub) (binD .sub) := by
  intro pins s σ H x y v u Q I rx ry ⟨F, p, q, w, e, hp, hq, hw, k⟩
  cases p with
  | int i =>
    cases q with
    | int j =>
      cases hw
      obtain rfl := hp.int
      obtain rfl := hq.int
      exact op_sub pins s σ H _ _ v u Q I rx ry ⟨i, j, rfl, rfl, k _ F H (Grow.refl e) (.int _)⟩
    | _ => cases hw
  | _ => cases hw
theorem op_modD : OpD T X (binaryOp .Mod) (binD .mod) := by
  intro pins s σ H x y v u Q I rx ry ⟨F, p, q, w, e, hp, hq, hw, k⟩
  cases p with
  | int i =>
    cases q with
    | int j =>
      have hw : (if 0 < j then some (Vl.frz (.int (i % j))) else none) = some w := hw
      split at hw
      · rename_i hj
        cases hw
        obtain rfl := hp.int
        obtain rfl := hq.int
        exact op_mod pins s σ H _ _ v u Q I rx ry ⟨i, j, rfl, rfl, hj, k _ F H (Grow.refl e) (.int _)⟩
      · cases hw
    | _ => cases hw
  | _ => cases hw
theorem op_fdvD : OpD T X (binaryOp .FloorDiv) (binD .fdv) := by
  intro pins s σ H x y v u Q I rx ry ⟨F, p, q, w, e, hp, hq, hw, k⟩
  cases p with
  | int i =>
    cases q with
    | int j =>
      have hw : (if 0 < j ∧ j < 2 ^ 64 then some (Vl.frz (.int (i / j))) else none) = some w := hw
      split at hw
      · rename_i hj
        cases hw
        obtain rfl := hp.int
        obtain rfl := hq.int
        refine op_fdivW pins s σ H _ _ v u Q I rx ry ⟨i, j, rfl, rfl, wide_div (b := 64) hj.1 (by omega) (by decide) (by decide), k _ F H (Grow.refl e) (.int _)⟩
      · cases hw
    | _ => cases hw
  | _ => cases hw
theorem op_powD : OpD T X (binaryOp .Pow) (binD .pow) := by
  intro pins s σ H x y v u Q I rx ry ⟨F, p, q, w, e, hp, hq, hw, k⟩
  cases p with
  | int i =>
    cases q with
    | int j =>
      have hw : (if 0 ≤ j ∧ j ≤ 64 ∧ i.natAbs < 2 ^ 64 then some (Vl.frz (.int (i ^ j.toNat))) else none) = some w := hw
      split at hw
      · rename_i hj
        cases hw
        obtain rfl := hp.int
        obtain rfl := hq.int
        exact op_pow pins s σ H _ _ v u Q I rx ry ⟨i, j, rfl, rfl, ⟨hj.1, by omega, hj.2.2⟩, k _ F H (Grow.refl e) (.int _)⟩
      · cases hw
    | _ => cases hw
  | _ => cases hw
theorem rep_len {α : Type} (l : List α) (n : Nat) : (rep l n).length = n * l.length := by
  unfold rep
  rw [List.length_flatten]
  simp
theorem okL_rep {l : List Nat} (h : okL l = true) (n : Nat) : okL (rep l n) = true := okL_sub h fun c hc => by
  unfold rep at hc
  obtain ⟨m, h1, h2⟩ := List.mem_flatten.mp hc
  rw [List.eq_of_mem_replicate h1] at h2
  exact h2
theorem RepL.rep {vs : List V} {ds : List D} (r : RepL T F vs ds) : ∀ n : Nat, RepL T F (List.replicate n vs).flatten (Dp.rep ds n)
  | 0 => .nil
  | n + 1 => by
    have q := r.append (RepL.rep r n)
    unfold Dp.rep at q ⊢
    rw [List.replicate_succ, List.flatten_cons, List.replicate_succ, List.flatten_cons]
    exact q
theorem mul_list (z : Str) (n : Int) (h : 0 ≤ n) : (Txt.mul z n).cps.toList = rep z.cps.toList n.toNat := by
  have f0 : ∀ (m : Nat) (acc : Array Nat), (List.foldl (· ++ ·) acc (List.replicate m z.cps)).toList = acc.toList ++ rep z.cps.toList m := by
    intro m
    induction m with
    | zero => intro acc; simp [rep]
    | succ m ih =>
      intro acc
      rw [List.replicate_succ, List.foldl_cons, ih]
      unfold rep
      rw [List.replicate_succ, List.flatten_cons]
      simp
  unfold Txt.mul
  by_cases h1 : n < 1
  · rw [if_pos h1]
    have e : n = 0 := by omega
    subst e
    rfl
  · rw [if_neg h1]
    by_cases h2 : (n == 1 || z.length == 0) = true
    · rw [if_pos h2]
      rw [Bool.or_eq_true] at h2
      rcases h2 with h2 | h2
      · have e : n = 1 := eq_of_beq h2
        subst e
        unfold rep
        simp
      · have e : z.length = 0 := eq_of_beq h2
        have e2 : z.cps.toList = [] := List.eq_nil_of_length_eq_zero (by rw [Str.len]; exact e)
        rw [e2]
        unfold rep
        rw [List.flatten_replicate_nil]
    · rw [if_neg h2]
      have q := f0 n.toNat #[]
      simpa using q
include hK
theorem op_mulD : OpD T X (binaryOp .Mult) (binD .mul) := by
  intro pins s σ H x y v u Q I rx ry ⟨F, p, q, w, e, hp, hq, hw, k⟩
  cases q with
  | int j =>
    obtain rfl := hq.int
    cases p with
    | int i =>
      have hw : (if (-(2 ^ 64) < i ∧ i < 2 ^ 64) ∨ (-(2 ^ 64) < j ∧ j < 2 ^ 64) then some (Vl.frz (.int (i * j))) else none) = some w := hw
      split at hw
      · rename_i hc
        cases hw
        obtain rfl := hp.int
        exact op_mul pins s σ H _ _ v u Q I rx ry ⟨i, j, rfl, rfl, hc, k _ F H (Grow.refl e) (.int _)⟩
      · cases hw
    | str a =>
      have hw : (if 0 ≤ j ∧ j ≤ 1000 ∧ a.length ≤ 1000 then some (Vl.frz (.str (rep a j.toNat))) else none) = some w := hw
      split at hw
      · rename_i hc
        cases hw
        obtain ⟨z, rfl, rfl, h1, o1⟩ := hp.str
        obtain ⟨t, rfl⟩ := rx
        obtain ⟨t', rfl⟩ := ry
        rw [Str.len] at hc
        have hl : (rep z.cps.toList j.toNat).length ≤ LIM := by
          rw [rep_len, Str.len]
          have : j.toNat * z.length ≤ 1000 * 1000 := Nat.mul_le_mul (by omega) hc.2.2
          have : LIM = 16777216 := rfl
          omega
        rw [strOk_iff] at o1
        refine SB.mul (PyProof.Rows.mulOk_of 1000 1000 hc.2.2 (by omega) (by omega) (by decide) (by decide)) fun t' k' => ?_
        exact ⟨.str (Txt.mul z j), H, I.tok _, ⟨_, rfl⟩, k _ F H (Grow.refl e) (rep_str (mul_list z j hc.1) hl (okL_rep o1 _))⟩
      · cases hw
    | tup a =>
      have hw : (if 2 ≤ j ∧ j ≤ 1000 ∧ a.length ≤ 1000 ∧ 0 < a.length then some (Vl.frz (.tup (rep a j.toNat))) else none) = some w := hw
      split at hw
      · rename_i hc
        cases hw
        obtain ⟨l, vs, rfl, t1, t1', r1⟩ := hp.tup e
        refine op_repT pins s σ H _ _ v u Q I rx ry ⟨l, j, vs, rfl, rfl, hK ▸ t1, fun z => ?_, hc.1, hc.2.1, by rw [r1.length]; exact hc.2.2.1, fun p np => ?_⟩
        · subst z
          cases r1
          exact absurd hc.2.2.2 (by simp)
        · have g := Grow.frz (F := F) (o := .tup (List.replicate j.toNat vs).flatten) e np
          exact k _ _ _ g (.tup (.inl (.inl upd_same)) ((r1.rep j.toNat).mono g.ff))
      · cases hw
    | lst a =>
      have hw : (if 0 ≤ j ∧ j ≤ 1000 ∧ a.length ≤ 1000 then some (Vl.own (.lst (rep a j.toNat))) else none) = some w := hw
      split at hw
      · rename_i hc
        cases hw
        obtain ⟨l, vs, rfl, t1, r1⟩ := hp.lst e
        refine op_rep pins s σ H _ _ v u Q I rx ry ⟨l, j, vs, rfl, rfl, t1, by omega, by omega, ?_, fun p np => ?_⟩
        · rw [r1.length, sizeLine_eq]
          have : a.length * j.toNat ≤ 1000 * 1000 := Nat.mul_le_mul hc.2.2 (by omega)
          omega
        · exact k _ F _ (Grow.own e np) ⟨p, _, rfl, np, e.free np, upd_same, .lst (r1.rep j.toNat)⟩
      · cases hw
    | _ => cases hw
  | _ => cases p <;> cases hw
end
end Dp
end
section
set_option Elab.async false
set_option linter.all false
set_option maxRecDepth 100000
set_option maxHeartbeats 1000000
/-! S5: comparisons of data. -/
namespace Dp
open PySem PySem.Spec PyProof.Rows L2
/-- a comparison of two values -/
def CmpD (T : Kt) (X : Cx) (op : CmpOp) (c : Cop) : Prop :=
  OpR X (compareOp op) fun x y H Q => ∃ F p q b, Same F H ∧ RdR T F H x p ∧ RdR T F H y q ∧ cmpD c p q = some b ∧ Q (.bl b) H
section
variable {T : Kt} {X : Cx} {F H : Hp} {x y : V} {pins : List (Addr × Obj)} {σ : L2.St} {s : Shared}
theorem in1_units (A : Around) : A.in1.units = A.units + 1 := rfl
/-! ### == of items -/
theorem eqAt_rep (hK : X.K = T.K) (I : Inv X pins σ H s) {d e : D} {b : Bool} {v u : Value} {A : Around} (hd : Rep T H x d) (hx : RelV x v) (he : Rep T H y e) (hy : RelV y u) (h : eqD d e = some b) (k : dep d ≤ 60) (k' : dep e ≤ 60) (hu : A.units + 60 < cLine) :
    SeqAt.EqAt A s v u b := by
  obtain ⟨a1, a2, a3⟩ := py_rep hd (by omega)
  obtain ⟨b1, b2, b3⟩ := py_rep he (by omega)
  obtain ⟨as, r1⟩ := Dp.reads I (py d) x v (hK ▸ a1) hx
  obtain ⟨bs, r2⟩ := Dp.reads I (py e) y u (hK ▸ b1) hy
  rw [← eqD_py d e b h (by omega) (by omega)]
  exact SeqAt.eqAt_reads (py d) (py e) A s v u as bs r1 r2 a2 b2 (by have := Nat.min_le_left (py d).depth (py e).depth; omega)
/-! ### < -/
theorem ltL_all : ∀ {l m : List D} {b : Bool}, ltL l m = some b → ∀ (j : Nat) (d e : D), l[j]? = some d → m[j]? = some e → eqD d e = some true ∨ (eqD d e = some false ∧ ∃ r, ltD d e = some r)
  | [], _, _, _, j, d, e, h1, _ => by simp at h1
  | _ :: _, [], _, _, j, d, e, _, h2 => by simp at h2
  | x :: l, y :: m, b, h, j, d, e, h1, h2 => by
    cases q : eqD x y with
    | none => simp [ltL, q] at h
    | some c =>
      cases c with
      | true =>
        simp only [ltL, q] at h
        cases j with
        | zero => simp at h1 h2; subst h1; subst h2; exact .inl q
        | succ j => exact ltL_all h j d e (by simpa using h1) (by simpa using h2)
      | false =>
        simp only [ltL, q] at h
        cases q2 : ltL l m with
        | none => rw [q2] at h; cases h
        | some r =>
          rw [q2] at h
          cases j with
          | zero => simp at h1 h2; subst h1; subst h2; exact .inr ⟨q, b, h⟩
          | succ j => exact ltL_all q2 j d e (by simpa using h1) (by simpa using h2)
def eAt (l m : List D) (j : Nat) : Bool := match l[j]?, m[j]? with
  | some d, some e => eqD d e == some true
  | _, _ => true
def rAt (l m : List D) (j : Nat) : Bool := match l[j]?, m[j]? with
  | some d, some e => ltD d e == some true
  | _, _ => true
theorem firstLt_map (e r : Nat → Bool) (fin : Bool) (f : Nat → Nat) : ∀ js : List Nat, SeqAt.firstLt e r fin (js.map f) = SeqAt.firstLt (fun j => e (f j)) (fun j => r (f j)) fin js
  | [] => rfl
  | j :: t => by
    show (if e (f j) = true then SeqAt.firstLt e r fin (t.map f) else r (f j)) = (if e (f j) = true then SeqAt.firstLt (fun j => e (f j)) (fun j => r (f j)) fin t else r (f j))
    rw [firstLt_map]
theorem firstLt_ltL : ∀ {l m : List D} {b : Bool}, ltL l m = some b → SeqAt.firstLt (eAt l m) (rAt l m) (decide (l.length < m.length)) (List.range (min l.length m.length)) = b
  | [], [], b, h => by simp [ltL] at h; subst h; rfl
  | [], _ :: _, b, h => by simp [ltL] at h; subst h; simp [SeqAt.firstLt]
  | _ :: _, [], b, h => by simp [ltL] at h; subst h; simp [SeqAt.firstLt]
  | x :: l, y :: m, b, h => by
    have er : List.range (min (x :: l).length (y :: m).length) = 0 :: (List.range (min l.length m.length)).map Nat.succ := by
      rw [List.length_cons, List.length_cons, Nat.add_min_add_right, List.range_succ_eq_map]
    rw [er]
    have e0 : eAt (x :: l) (y :: m) 0 = (eqD x y == some true) := rfl
    have r0 : rAt (x :: l) (y :: m) 0 = (ltD x y == some true) := rfl
    show (if eAt (x :: l) (y :: m) 0 = true then SeqAt.firstLt (eAt (x :: l) (y :: m)) (rAt (x :: l) (y :: m)) _ ((List.range (min l.length m.length)).map Nat.succ) else rAt (x :: l) (y :: m) 0) = b
    rw [e0, r0]
    cases q : eqD x y with
    | none => simp [ltL, q] at h
    | some c =>
      cases c with
      | true =>
        simp only [ltL, q] at h
        rw [if_pos (by simp), firstLt_map]
        have ih := firstLt_ltL h
        have e1 : (fun j => eAt (x :: l) (y :: m) (Nat.succ j)) = eAt l m := by funext j; unfold eAt; simp
        have e2 : (fun j => rAt (x :: l) (y :: m) (Nat.succ j)) = rAt l m := by funext j; unfold rAt; simp
        rw [e1, e2]
        have e3 : decide ((x :: l).length < (y :: m).length) = decide (l.length < m.length) := by simp
        rw [e3]
        exact ih
      | false =>
        simp only [ltL, q] at h
        rw [if_neg (by simp)]
        cases q2 : ltL l m with
        | none => rw [q2] at h; cases h
        | some r =>
          rw [q2] at h
          have h : ltD x y = some b := h
          rw [h]
          cases b <;> rfl
theorem dep_mem : ∀ {l : List D} {j : Nat} {d : D}, l[j]? = some d → dep d ≤ depL l
  | [], _, _, h => by simp at h
  | x :: l, 0, d, h => by simp at h; subst h; show _ ≤ max _ _; omega
  | x :: l, j + 1, d, h => by
    have := dep_mem (l := l) (j := j) (d := d) (by simpa using h)
    show _ ≤ max _ _
    omega
theorem lt_str_at (a : Str) (t : Tok) (b : Str) (u : Tok) (A : Around) (s : Shared) : SeqAt.RcLt A s (.str a t) (.str b u) (decide (a.cps.toList < b.cps.toList)) := fun prog w E Q h =>
  (PyProof.Rows.lt_str h : wpAny (model prog w) A (compareOp .Lt (.str a t) (.str b u)) Q E s)
theorem ltD_at (hK : X.K = T.K) (I : Inv X pins σ H s) : ∀ (n : Nat) (d e : D) (b : Bool) (x y : V) (v u : Value) (A : Around), dep d ≤ n → n ≤ 60 → dep e ≤ 60 → Rep T H x d → RelV x v → Rep T H y e → RelV y u → ltD d e = some b → A.units + n + 60 < cLine →
    SeqAt.RcLt A s v u b := by
  intro n
  induction n with
  | zero =>
    intro d e b x y v u A hn _ he rd hx re hy h hu
    cases d with
    | int i =>
      cases e with
      | int j =>
        cases h
        cases rd
        cases re
        obtain ⟨t, rfl⟩ := hx
        obtain ⟨t', rfl⟩ := hy
        exact fun prog w E Q q => HT.rcLt_int A s i t j t' prog w E Q q
      | _ => cases h
    | str i =>
      cases e with
      | str j =>
        cases h
        cases rd
        cases re
        obtain ⟨t, rfl⟩ := hx
        obtain ⟨t', rfl⟩ := hy
        exact lt_str_at _ _ _ _ A s
      | _ => cases h
    | tup l => exact absurd hn (by simp [dep])
    | lst l => exact absurd hn (by simp [dep])
    | _ => cases h
  | succ n ih =>
    intro d e b x y v u A hn hn6 he rd hx re hy h hu
    cases d with
    | int i =>
      cases e with
      | int j =>
        cases h
        cases rd
        cases re
        obtain ⟨t, rfl⟩ := hx
        obtain ⟨t', rfl⟩ := hy
        exact fun prog w E Q q => HT.rcLt_int A s i t j t' prog w E Q q
      | _ => cases h
    | str i =>
      cases e with
      | str j =>
        cases h
        cases rd
        cases re
        obtain ⟨t, rfl⟩ := hx
        obtain ⟨t', rfl⟩ := hy
        exact lt_str_at _ _ _ _ A s
      | _ => cases h
    | tup l =>
      cases e with
      | tup m =>
        have h : ltL l m = some b := h
        have hn : depL l + 1 ≤ n + 1 := hn
        have he : depL m + 1 ≤ 60 := he
        cases rd with
        | tup h1 r1 =>
          cases re with
          | tup h2 r2 =>
            cases hx
            cases hy
            obtain ⟨its, rv1, p1, z1⟩ := I.tuple (hK ▸ h1)
            obtain ⟨its2, rv2, p2, z2⟩ := I.tuple (hK ▸ h2)
            have l1 : its.length = l.length := by rw [← rv1.length, r1.length]
            have l2 : its2.length = m.length := by rw [← rv2.length, r2.length]
            have item : ∀ j (j1 : j < its.toArray.size) (j2 : j < its2.toArray.size), ∃ d e x y, l[j]? = some d ∧ m[j]? = some e ∧ Rep T H x d ∧ RelV x its.toArray[j] ∧ Rep T H y e ∧ RelV y its2.toArray[j] := by
              intro j j1 j2
              have j1' : j < its.length := by simpa using j1
              have j2' : j < its2.length := by simpa using j2
              obtain ⟨x1, e1, q1⟩ := r1.get (i := j) (d := l[j]'(by omega)) (List.getElem?_eq_getElem _)
              obtain ⟨x2, e2, q2⟩ := r2.get (i := j) (d := m[j]'(by omega)) (List.getElem?_eq_getElem _)
              obtain ⟨u1, f1, g1⟩ := rv1.get e1
              obtain ⟨u2, f2, g2⟩ := rv2.get e2
              rw [List.getElem?_eq_getElem j1'] at f1
              rw [List.getElem?_eq_getElem j2'] at f2
              refine ⟨_, _, x1, x2, List.getElem?_eq_getElem _, List.getElem?_eq_getElem _, q1, ?_, q2, ?_⟩
              · have := Option.some.inj f1; simpa [this] using g1
              · have := Option.some.inj f2; simpa [this] using g2
            have key := SeqAt.RcLt.tuples (A := A) (e := eAt l m) (r := rAt l m) p1 p2 (by omega) (fun j j1 j2 => by
              obtain ⟨d, e, x, y, k1, k2, q1, q2, q3, q4⟩ := item j j1 j2
              have d1 := dep_mem k1
              have d2 := dep_mem k2
              have ee : eAt l m j = (eqD d e == some true) := by unfold eAt; rw [k1, k2]
              rw [ee]
              rcases ltL_all h j d e k1 k2 with z | ⟨z, _⟩
              · rw [z]
                exact eqAt_rep hK I q1 q2 q3 q4 z (by omega) (by omega) (by rw [in1_units]; omega)
              · rw [z]
                exact eqAt_rep hK I q1 q2 q3 q4 z (by omega) (by omega) (by rw [in1_units]; omega)) (fun j j1 j2 ef => by
              obtain ⟨d, e, x, y, k1, k2, q1, q2, q3, q4⟩ := item j j1 j2
              have d1 := dep_mem k1
              have d2 := dep_mem k2
              have ee : eAt l m j = (eqD d e == some true) := by unfold eAt; rw [k1, k2]
              have re : rAt l m j = (ltD d e == some true) := by unfold rAt; rw [k1, k2]
              rw [ee] at ef
              rw [re]
              rcases ltL_all h j d e k1 k2 with z | ⟨_, r, z⟩
              · rw [z] at ef; cases ef
              · have q := ih d e r x y _ _ A.in1 (by omega) (by omega) (by omega) q1 q2 q3 q4 z (by rw [in1_units]; omega)
                rw [z]
                cases r <;> exact q)
            have ef := firstLt_ltL h
            rw [← l1, ← l2] at ef
            simp only [List.size_toArray] at key
            rw [ef] at key
            exact key
      | _ => cases h
    | lst l =>
      cases e with
      | lst m =>
        have h : ltL l m = some b := h
        have hn : depL l + 1 ≤ n + 1 := hn
        have he : depL m + 1 ≤ 60 := he
        cases rd with
        | lst h1 r1 =>
          cases re with
          | lst h2 r2 =>
            cases hx
            cases hy
            obtain ⟨its, rv1, p1, z1⟩ := I.list (xs := _) (.inl (.inl h1))
            obtain ⟨its2, rv2, p2, z2⟩ := I.list (xs := _) (.inl (.inl h2))
            have l1 : its.length = l.length := by rw [← rv1.length, r1.length]
            have l2 : its2.length = m.length := by rw [← rv2.length, r2.length]
            have item : ∀ j (j1 : j < its.toArray.size) (j2 : j < its2.toArray.size), ∃ d e x y, l[j]? = some d ∧ m[j]? = some e ∧ Rep T H x d ∧ RelV x its.toArray[j] ∧ Rep T H y e ∧ RelV y its2.toArray[j] := by
              intro j j1 j2
              have j1' : j < its.length := by simpa using j1
              have j2' : j < its2.length := by simpa using j2
              obtain ⟨x1, e1, q1⟩ := r1.get (i := j) (d := l[j]'(by omega)) (List.getElem?_eq_getElem _)
              obtain ⟨x2, e2, q2⟩ := r2.get (i := j) (d := m[j]'(by omega)) (List.getElem?_eq_getElem _)
              obtain ⟨u1, f1, g1⟩ := rv1.get e1
              obtain ⟨u2, f2, g2⟩ := rv2.get e2
              rw [List.getElem?_eq_getElem j1'] at f1
              rw [List.getElem?_eq_getElem j2'] at f2
              refine ⟨_, _, x1, x2, List.getElem?_eq_getElem _, List.getElem?_eq_getElem _, q1, ?_, q2, ?_⟩
              · have := Option.some.inj f1; simpa [this] using g1
              · have := Option.some.inj f2; simpa [this] using g2
            have key := SeqAt.RcLt.lists (A := A) (e := eAt l m) (r := rAt l m) p1.isList p2.isList (by omega) (fun j j1 j2 => by
              obtain ⟨d, e, x, y, k1, k2, q1, q2, q3, q4⟩ := item j j1 j2
              have d1 := dep_mem k1
              have d2 := dep_mem k2
              have ee : eAt l m j = (eqD d e == some true) := by unfold eAt; rw [k1, k2]
              rw [ee]
              rcases ltL_all h j d e k1 k2 with z | ⟨z, _⟩
              · rw [z]
                exact eqAt_rep hK I q1 q2 q3 q4 z (by omega) (by omega) (by rw [in1_units]; omega)
              · rw [z]
                exact eqAt_rep hK I q1 q2 q3 q4 z (by omega) (by omega) (by rw [in1_units]; omega)) (fun j j1 j2 ef => by
              obtain ⟨d, e, x, y, k1, k2, q1, q2, q3, q4⟩ := item j j1 j2
              have d1 := dep_mem k1
              have d2 := dep_mem k2
              have ee : eAt l m j = (eqD d e == some true) := by unfold eAt; rw [k1, k2]
              have re : rAt l m j = (ltD d e == some true) := by unfold rAt; rw [k1, k2]
              rw [ee] at ef
              rw [re]
              rcases ltL_all h j d e k1 k2 with z | ⟨_, r, z⟩
              · rw [z] at ef; cases ef
              · have q := ih d e r x y _ _ A.in1 (by omega) (by omega) (by omega) q1 q2 q3 q4 z (by rw [in1_units]; omega)
                rw [z]
                cases r <;> exact q)
            have ef := firstLt_ltL h
            rw [← l1, ← l2] at ef
            simp only [List.size_toArray] at key
            rw [ef] at key
            exact key
      | _ => cases h
    | _ => cases h
variable (hK : X.K = T.K) (hu : X.A.units + 200 < cLine)
include hK hu
theorem op_cmpEq : CmpD T X .Eq .eq := by
  intro pins s σ H x y v u Q I rx ry ⟨F, p, q, b, e, hp, hq, hb, k⟩
  have hb : (if dep p ≤ 60 ∧ dep q ≤ 60 then eqD p q else none) = some b := hb
  split at hb
  · rename_i hd
    have r1 := hp.rep e
    have r2 := hq.rep e
    refine op_eqD (by omega) pins s σ H x y v u Q I rx ry ⟨py p, py q, hK ▸ (py_rep r1 (by omega)).1, hK ▸ (py_rep r2 (by omega)).1, shaped_py r1 hd.1, shaped_py r2 hd.2, ?_⟩
    rw [eqD_py p q b hb (by omega) (by omega)]
    exact k
  · cases hb
theorem op_cmpNe : CmpD T X .NotEq .ne := by
  intro pins s σ H x y v u Q I rx ry ⟨F, p, q, b, e, hp, hq, hb, k⟩
  have hb : (if dep p ≤ 60 ∧ dep q ≤ 60 then (eqD p q).map (!·) else none) = some b := hb
  split at hb
  · rename_i hd
    cases z : eqD p q with
    | none => rw [z] at hb; cases hb
    | some c =>
      rw [z] at hb
      cases hb
      have r1 := hp.rep e
      have r2 := hq.rep e
      refine op_neD (by omega) pins s σ H x y v u Q I rx ry ⟨py p, py q, hK ▸ (py_rep r1 (by omega)).1, hK ▸ (py_rep r2 (by omega)).1, shaped_py r1 hd.1, shaped_py r2 hd.2, ?_⟩
      rw [eqD_py p q c z (by omega) (by omega)]
      exact k
  · cases hb
theorem op_cmpLt : CmpD T X .Lt .lt := by
  intro pins s σ H x y v u Q I rx ry ⟨F, p, q, b, e, hp, hq, hb, k⟩
  have hb : (if dep p ≤ 60 ∧ dep q ≤ 60 then ltD p q else none) = some b := hb
  split at hb
  · rename_i hd
    exact ltD_at hK I 60 p q b x y v u X.A hd.1 (by omega) hd.2 (hp.rep e) rx (hq.rep e) ry hb (by omega) X.prog X.w X.xe _ ⟨.bl b, H, I, rfl, k⟩
  · cases hb
omit hK hu
theorem op_cmpGt : CmpD T X .Gt .gt := by
  intro pins s σ H x y v u Q I rx ry ⟨F, p, q, b, e, hp, hq, hb, k⟩
  cases p with
  | int i =>
    cases q with
    | int j =>
      cases hb
      obtain rfl := hp.int
      obtain rfl := hq.int
      exact op_gt pins s σ H _ _ v u Q I rx ry ⟨i, j, rfl, rfl, k⟩
    | _ => cases hb
  | _ => cases hb
theorem op_cmpLe : CmpD T X .LtE .le := by
  intro pins s σ H x y v u Q I rx ry ⟨F, p, q, b, e, hp, hq, hb, k⟩
  cases p with
  | int i =>
    cases q with
    | int j =>
      cases hb
      obtain rfl := hp.int
      obtain rfl := hq.int
      exact op_le pins s σ H _ _ v u Q I rx ry ⟨i, j, rfl, rfl, k⟩
    | _ => cases hb
  | _ => cases hb
theorem op_cmpGe : CmpD T X .GtE .ge := by
  intro pins s σ H x y v u Q I rx ry ⟨F, p, q, b, e, hp, hq, hb, k⟩
  cases p with
  | int i =>
    cases q with
    | int j =>
      cases hb
      obtain rfl := hp.int
      obtain rfl := hq.int
      exact op_ge pins s σ H _ _ v u Q I rx ry ⟨i, j, rfl, rfl, k⟩
    | _ => cases hb
  | _ => cases hb
theorem isNon_iff {p : D} (h : RdR T F H x p) : decide (x = V.non) = isNon p := by
  cases p with
  | non => obtain rfl := h.non; rfl
  | bl b => obtain rfl := h.bl; rfl
  | int i => obtain rfl := h.int; rfl
  | str s => obtain ⟨z, rfl, _⟩ := h.str; rfl
  | _ =>
    rcases h with h | ⟨a, o, rfl, _⟩
    · cases h <;> rfl
    · rfl
theorem op_cmpIs : CmpD T X .Is .is := by
  intro pins s σ H x y v u Q I rx ry ⟨F, p, q, b, e, hp, hq, hb, k⟩
  cases q with
  | non =>
    obtain rfl := hq.non
    have hb : some (isNon p) = some b := by cases p <;> exact hb
    rw [← isNon_iff hp] at hb
    cases hb
    exact op_isN pins s σ H _ _ v u Q I rx ry ⟨rfl, k⟩
  | bl c =>
    cases p with
    | bl a =>
      cases hb
      obtain rfl := hp.bl
      obtain rfl := hq.bl
      refine op_isBl pins s σ H _ _ v u Q I rx ry ⟨a, c, rfl, rfl, ?_⟩
      rw [← Bool.beq_eq_decide_eq]
      exact k
    | _ => cases hb
  | _ => cases p <;> cases hb
theorem op_cmpIsN : CmpD T X .IsNot .isn := by
  intro pins s σ H x y v u Q I rx ry ⟨F, p, q, b, e, hp, hq, hb, k⟩
  cases q with
  | non =>
    obtain rfl := hq.non
    have hb : some (!isNon p) = some b := by cases p <;> exact hb
    rw [← isNon_iff hp] at hb
    cases hb
    exact op_notN pins s σ H _ _ v u Q I rx ry ⟨rfl, k⟩
  | bl c =>
    cases p with
    | bl a =>
      cases hb
      obtain rfl := hp.bl
      obtain rfl := hq.bl
      refine op_notBl pins s σ H _ _ v u Q I rx ry ⟨a, c, rfl, rfl, ?_⟩
      rw [← Bool.beq_eq_decide_eq]
      exact k
    | _ => cases hb
  | _ => cases p <;> cases hb
end
end Dp
end
section
set_option Elab.async false
set_option linter.all false
set_option maxRecDepth 100000
set_option maxHeartbeats 1000000
/-! S6: dicts; in; places; slices; truth; lengths. -/
namespace Dp
open PySem PySem.Spec PyProof.Rows L2
section
variable {T : Kt} {X : Cx} {F H : Hp} {x y : V} {pins : List (Addr × Obj)} {σ : L2.St} {s : Shared}
/-! ### keys -/
def kD : Key → D
  | .inl i => .int i
  | .inr z => .str z.cps.toList
theorem rep_key {k : Key} {d : D} (h : Rep T F (kV k) d) : d = kD k := by
  cases k with
  | inl i => cases h; rfl
  | inr z => cases h; rfl
theorem rep_keys : ∀ {kvs : List (Key × V)} {ks : List D}, RepL T F (kvs.map fun p => kV p.1) ks → ks = kvs.map fun p => kD p.1
  | [], _, .nil => rfl
  | p :: r, _, .cons h q => by rw [rep_key h, rep_keys q] <;> rfl
theorem key_of {d : D} (h : RdR T F H x d) (k : isKey d = true) : ∃ q : Key, x = kV q ∧ d = kD q := by
  cases d with
  | int i => exact ⟨.inl i, h.int, rfl⟩
  | str s => obtain ⟨z, e1, e2, _⟩ := h.str; exact ⟨.inr z, e1, by rw [← e2] <;> rfl⟩
  | _ => cases k
theorem str_ext {a b : Str} : (a.cps.toList == b.cps.toList) = decide (a = b) := by
  rw [Bool.eq_iff_iff, beq_iff_eq, decide_eq_true_iff]
  constructor
  · intro h
    obtain ⟨a⟩ := a
    obtain ⟨b⟩ := b
    have : a = b := by simpa using h
    rw [this]
  · intro h
    rw [h]
theorem eqD_key (a b : Key) : eqD (kD a) (kD b) = some (decide (a = b)) := by
  cases a with
  | inl i =>
    cases b with
    | inl j => show some (i == j) = _; rw [Option.some_inj, Bool.eq_iff_iff]; simp
    | inr z => show some false = _; rw [Option.some_inj, Bool.eq_iff_iff]; simp
  | inr z =>
    cases b with
    | inl j => show some false = _; rw [Option.some_inj, Bool.eq_iff_iff]; simp
    | inr w =>
      show some (z.cps.toList == w.cps.toList) = _
      rw [str_ext, Option.some_inj, Bool.eq_iff_iff]
      simp
theorem inL_key (k : Key) : ∀ kvs : List (Key × V), inL (kD k) (kvs.map fun (p : Key × V) => kD p.1) = some (valV kvs k).isSome
  | [] => rfl
  | p :: r => by
    show (match eqD (kD p.1) (kD k) with | some true => some true | some false => inL (kD k) (r.map fun (p : Key × V) => kD p.1) | none => none) = _
    rw [eqD_key]
    by_cases e : p.1 = k
    · rw [decide_eq_true e, valV_pos e] <;> rfl
    · rw [decide_eq_false e, valV_neg e]
      exact inL_key k r
theorem lookD_key (k : Key) : ∀ {kvs : List (Key × V)} {ds : List D}, RepL T F (kvs.map (·.2)) ds → ∃ o, lookD (kD k) (kvs.map fun (p : Key × V) => kD p.1) ds = some o ∧ (match o with | some d => ∃ v, valV kvs k = some v ∧ Rep T F v d | none => valV kvs k = none)
  | [], _, .nil => ⟨none, rfl, rfl⟩
  | p :: r, _, .cons (d := d) (ds := ds) h q => by
    show ∃ o, (match eqD (kD p.1) (kD k) with | some true => some (some d) | some false => lookD (kD k) (r.map fun p => kD p.1) ds | none => none) = some o ∧ _
    rw [eqD_key]
    by_cases e : p.1 = k
    · rw [decide_eq_true e]
      exact ⟨some d, rfl, p.2, valV_pos e, h⟩
    · rw [decide_eq_false e]
      obtain ⟨o, h1, h2⟩ := lookD_key k q
      refine ⟨o, h1, ?_⟩
      rw [valV_neg e]
      exact h2
theorem setAll_key (k : Key) {v : V} {d : D} (hv : Rep T F v d) : ∀ {kvs : List (Key × V)} {ds : List D}, RepL T F (kvs.map (·.2)) ds →
    RepL T F ((kvs.map fun kv => if kv.1 = k then (kv.1, v) else kv).map (·.2)) (setAll (kD k) d (kvs.map fun (p : Key × V) => kD p.1) ds)
  | [], _, .nil => .nil
  | p :: r, _, .cons (d := e) (ds := ds) h q => by
    have ih := setAll_key k hv q
    show RepL T F ((if p.1 = k then (p.1, v) else p).2 :: _) ((if eqD (kD p.1) (kD k) = some true then d else e) :: setAll (kD k) d (r.map fun p => kD p.1) ds)
    rw [eqD_key]
    by_cases c : p.1 = k
    · rw [if_pos c, if_pos (by rw [decide_eq_true c])]
      exact .cons hv ih
    · rw [if_neg c, if_neg (by rw [decide_eq_false c]; simp)]
      exact .cons h ih
theorem keys_upd (k : Key) (v : V) : ∀ kvs : List (Key × V), (kvs.map fun kv => if kv.1 = k then (kv.1, v) else kv).map (fun p => kD p.1) = kvs.map fun p => kD p.1
  | [] => rfl
  | p :: r => by
    show kD (if p.1 = k then (p.1, v) else p).1 :: _ = kD p.1 :: _
    rw [show (List.map (fun p => kD p.1) (List.map (fun kv => if kv.1 = k then (kv.1, v) else kv) r)) = r.map fun p => kD p.1 from keys_upd k v r]
    split <;> rfl
theorem rep_kV (k : Key) {d : D} (h : Rep T F (kV k) d) : Rep T F (kV k) (kD k) := by rw [← rep_key h]; exact h
theorem repL_upd (k : Key) (v : V) : ∀ {kvs : List (Key × V)} {ks : List D}, RepL T F (kvs.map fun p => kV p.1) ks → RepL T F ((kvs.map fun kv => if kv.1 = k then (kv.1, v) else kv).map fun p => kV p.1) ks
  | [], _, .nil => .nil
  | p :: r, _, .cons h q => by
    refine .cons ?_ (repL_upd k v q)
    show Rep T F (kV (if p.1 = k then (p.1, v) else p).1) _
    split <;> exact h
/-- a key's value put, on both sides -/
theorem put_rep2 {k : Key} {v : V} {d : D} {kvs : List (Key × V)} {ks ds ks' ds' : List D} (hk : Rep T F (kV k) (kD k)) (hv : Rep T F v d) (r1 : RepL T F (kvs.map fun p => kV p.1) ks) (r2 : RepL T F (kvs.map (·.2)) ds) (h : Dp.putK ks ds (kD k) d = some (ks', ds')) :
    RepL T F ((L2.putK kvs k v).map fun p => kV p.1) ks' ∧ RepL T F ((L2.putK kvs k v).map (·.2)) ds' ∧ kvs.length < sizeLine := by
  have ek := rep_keys r1
  unfold Dp.putK at h
  split at h
  · rename_i hg
    have hl : kvs.length < sizeLine := by rw [← lim_line, ← List.length_map (f := fun p : Key × V => kV p.1), r1.length]; exact hg.2
    rw [ek, inL_key] at h
    unfold L2.putK
    rw [valV_any]
    cases c : (valV kvs k).isSome with
    | true =>
      rw [c] at h
      simp only at h
      cases h
      rw [if_pos rfl]
      exact ⟨repL_upd k v (ek ▸ r1), setAll_key k hv r2, hl⟩
    | false =>
      rw [c] at h
      simp only at h
      cases h
      rw [if_neg (by simp), List.map_append, List.map_append]
      exact ⟨(ek ▸ r1).append (.cons hk .nil), r2.append (.cons hv .nil), hl⟩
  · cases h

/-! ### in, not in -/
theorem inL_py {k : D} : ∀ {l : List D} {b : Bool}, inL k l = some b → dep k ≤ 60 → depL l ≤ 60 → ((pyL l).any fun z => PyData.eqv z (py k)) = b
  | [], b, h, _, _ => by simp [inL] at h; subst h; rfl
  | x :: l, b, h, hk, hl => by
    obtain ⟨h1, h2⟩ := depL_le hl
    show (PyData.eqv (py x) (py k) || (pyL l).any fun z => PyData.eqv z (py k)) = b
    cases q : eqD x k with
    | none => simp [inL, q] at h
    | some c =>
      rw [eqD_py x k c q (by omega) (by omega)]
      cases c with
      | true => simp [inL, q] at h; subst h; rfl
      | false => simp [inL, q] at h; rw [Bool.false_or]; exact inL_py h hk h2
variable (hK : X.K = T.K) (hu : X.A.units + 200 < cLine)
include hK hu
theorem cmp_in {p q : D} {b : Bool} {v u : Value} {Q : Value → Shared → Prop} (I : Inv X pins σ H s) (rx : RelV x v) (ry : RelV y u) (e : Same F H) (hp : RdR T F H x p) (hq : RdR T F H y q) (h : inD p q = some b)
    (k : ∀ s', Inv X pins σ H s' → Q (.bool b) s') : wpAny (model X.prog X.w) X.A (compareOp .In v u) Q X.xe s := by
  cases q with
  | tup l =>
    have h : (if dep p ≤ 60 ∧ depL l ≤ 60 then inL p l else none) = some b := h
    split at h
    · rename_i hd
      obtain ⟨a, vs, rfl, t1, _, r1⟩ := hq.tup e
      obtain ⟨c1, c2, c3⟩ := py_rep (hp.rep e) (by omega)
      obtain ⟨as, ra⟩ := Dp.reads I _ _ _ (hK ▸ c1) rx
      obtain ⟨d1, d2, d3⟩ := py_repL (r1.mono e) (by omega)
      obtain ⟨bs, rb⟩ := Dp.reads I (.tuple (pyL l)) _ _ (hK ▸ (.tup t1 d1)) ry
      refine SeqAt.in_tuple_reads rb ra d2 c2 (by rw [d3, c3]; have := Nat.min_le_left (depL l) (dep p); omega) ?_
      rw [inL_py h hd.1 hd.2]
      exact k s I
    · cases h
  | lst l =>
    have h : (if dep p ≤ 60 ∧ depL l ≤ 60 then inL p l else none) = some b := h
    split at h
    · rename_i hd
      obtain ⟨a, vs, rfl, t1, r1⟩ := hq.lst e
      obtain ⟨c1, c2, c3⟩ := py_rep (hp.rep e) (by omega)
      obtain ⟨as, ra⟩ := Dp.reads I _ _ _ (hK ▸ c1) rx
      obtain ⟨d1, d2, d3⟩ := py_repL (r1.mono e) (by omega)
      obtain ⟨bs, rb⟩ := Dp.reads I (.list (pyL l)) _ _ (hK ▸ (.lst (.inl (.inl t1)) d1)) ry
      refine SeqAt.in_list_reads rb ra d2 c2 (by rw [d3, c3]; have := Nat.min_le_left (depL l) (dep p); omega) ?_
      rw [inL_py h hd.1 hd.2]
      exact k s I
    · cases h
  | dct ks vs =>
    have h : (if isKey p then inL p ks else none) = some b := h
    split at h
    · rename_i hk
      obtain ⟨a, kvs, rfl, t1, r1, r2⟩ := hq.dct e
      obtain ⟨q, rfl, rfl⟩ := key_of hp hk
      rw [rep_keys r1, inL_key] at h
      cases h
      obtain rfl : u = Value.ref a := ry
      exact d_in (by omega) I (DGet.k (k := q) t1) rx fun s3 I3 => k s3 I3
    · cases h
  | str l =>
    cases p with
    | str m =>
      cases m with
      | nil => cases h
      | cons c r =>
        cases r with
        | nil =>
          cases h
          obtain ⟨z, rfl, e1, _⟩ := hp.str
          obtain ⟨w, rfl, e2, _⟩ := hq.str
          obtain ⟨t, rfl⟩ := rx
          obtain ⟨t', rfl⟩ := ry
          have ez : z = ⟨#[c]⟩ := by
            obtain ⟨z⟩ := z
            have : z = #[c] := by apply Array.ext'; simpa using e1
            rw [this]
          subst ez
          refine PyProof.Rows.in_str ?_
          rw [PySem.StrLaws.found_one w c, e2]
          exact k s I
        | cons _ _ => cases h
    | _ => cases h
  | _ => cases h
theorem cmp_nin {p q : D} {b : Bool} {v u : Value} {Q : Value → Shared → Prop} (I : Inv X pins σ H s) (rx : RelV x v) (ry : RelV y u) (e : Same F H) (hp : RdR T F H x p) (hq : RdR T F H y q) (h : inD p q = some b)
    (k : ∀ s', Inv X pins σ H s' → Q (.bool (!b)) s') : wpAny (model X.prog X.w) X.A (compareOp .NotIn v u) Q X.xe s := by
  cases q with
  | tup l =>
    have h : (if dep p ≤ 60 ∧ depL l ≤ 60 then inL p l else none) = some b := h
    split at h
    · rename_i hd
      obtain ⟨a, vs, rfl, t1, _, r1⟩ := hq.tup e
      obtain ⟨c1, c2, c3⟩ := py_rep (hp.rep e) (by omega)
      obtain ⟨as, ra⟩ := Dp.reads I _ _ _ (hK ▸ c1) rx
      obtain ⟨d1, d2, d3⟩ := py_repL (r1.mono e) (by omega)
      obtain ⟨bs, rb⟩ := Dp.reads I (.tuple (pyL l)) _ _ (hK ▸ (.tup t1 d1)) ry
      refine SeqAt.notIn_tuple_reads rb ra d2 c2 (by rw [d3, c3]; have := Nat.min_le_left (depL l) (dep p); omega) ?_
      rw [inL_py h hd.1 hd.2]
      exact k s I
    · cases h
  | lst l =>
    have h : (if dep p ≤ 60 ∧ depL l ≤ 60 then inL p l else none) = some b := h
    split at h
    · rename_i hd
      obtain ⟨a, vs, rfl, t1, r1⟩ := hq.lst e
      obtain ⟨c1, c2, c3⟩ := py_rep (hp.rep e) (by omega)
      obtain ⟨as, ra⟩ := Dp.reads I _ _ _ (hK ▸ c1) rx
      obtain ⟨d1, d2, d3⟩ := py_repL (r1.mono e) (by omega)
      obtain ⟨bs, rb⟩ := Dp.reads I (.list (pyL l)) _ _ (hK ▸ (.lst (.inl (.inl t1)) d1)) ry
      refine SeqAt.notIn_list_reads rb ra d2 c2 (by rw [d3, c3]; have := Nat.min_le_left (depL l) (dep p); omega) ?_
      rw [inL_py h hd.1 hd.2]
      exact k s I
    · cases h
  | dct ks vs =>
    have h : (if isKey p then inL p ks else none) = some b := h
    split at h
    · rename_i hk
      obtain ⟨a, kvs, rfl, t1, r1, r2⟩ := hq.dct e
      obtain ⟨q, rfl, rfl⟩ := key_of hp hk
      rw [rep_keys r1, inL_key] at h
      cases h
      obtain rfl : u = Value.ref a := ry
      exact d_notIn (by omega) I (DGet.k (k := q) t1) rx fun s3 I3 => k s3 I3
    · cases h
  | str l =>
    cases p with
    | str m =>
      cases m with
      | nil => cases h
      | cons c r =>
        cases r with
        | nil =>
          cases h
          obtain ⟨z, rfl, e1, _⟩ := hp.str
          obtain ⟨w, rfl, e2, _⟩ := hq.str
          obtain ⟨t, rfl⟩ := rx
          obtain ⟨t', rfl⟩ := ry
          have ez : z = ⟨#[c]⟩ := by
            obtain ⟨z⟩ := z
            have : z = #[c] := by apply Array.ext'; simpa using e1
            rw [this]
          subst ez
          refine PyProof.Rows.notIn_str ?_
          rw [PySem.StrLaws.found_one w c, e2]
          exact k s I
        | cons _ _ => cases h
    | _ => cases h
  | _ => cases h
theorem op_cmpIn : CmpD T X .In .inn := by
  intro pins s σ H x y v u Q I rx ry ⟨F, p, q, b, e, hp, hq, hb, k⟩
  exact cmp_in hK hu I rx ry e hp hq hb fun s' I' => ⟨.bl b, H, I', rfl, k⟩
theorem op_cmpNin : CmpD T X .NotIn .nin := by
  intro pins s σ H x y v u Q I rx ry ⟨F, p, q, b, e, hp, hq, hb, k⟩
  have hb : (inD p q).map (!·) = some b := hb
  cases c : inD p q with
  | none => rw [c] at hb; cases hb
  | some b' =>
    rw [c] at hb
    cases hb
    exact cmp_nin hK hu I rx ry e hp hq c fun s' I' => ⟨.bl (!b'), H, I', rfl, k⟩
end
end Dp
end
section
set_option Elab.async false
set_option linter.all false
set_option maxRecDepth 100000
set_option maxHeartbeats 1000000
/-! S7: expressions. -/
namespace Dp
open PySem PySem.Spec PyProof.Rows L2

/-- what a text's pieces stand in -/
structure Cc where
  T : Kt
  Pr : Prog
  cal : Callee
  W : WX
  X : Cx
  hK : X.K = T.K
  hu : X.A.units + 200 < cLine
  calm : X.calm = true
  hN : X.N.Nodup

def SE (C : Cc) (e : Expr) (x : Ex) : Prop := PE C.X e (tG C.T (RV C.T) C.W (evB C.Pr C.cal x).1)
def SO (C : Cc) (e : Expr) (x : Ex) : Prop := PE C.X e (tG C.T (RA C.T) C.W (opA x (evB C.Pr C.cal x).1))
def ST (C : Cc) (e : Expr) (x : Ex) : Prop := PT C.X e (tG C.T RB C.W (evB C.Pr C.cal x).2)
structure SX (C : Cc) (e : Expr) (x : Ex) : Prop where
  v : SE C e x
  o : SO C e x
  t : ST C e x

section
variable {ι α β κ : Type} {T : Kt} {F0 H0 F H : Hp} {ρ0 ρ : Env} {σ : L2.St} {W : WX}
/-- a value at the end -/
theorem tGa.val {v : Vl} {Q : VK} (h : tGa T F0 H0 ρ0 F ρ (RV T) W (M.pure v) σ H Q) {z : V} {F' H' : Hp} (g : Grow F H F' H') (r : VOk T H F' H' z v) : Q z H' :=
  h.ret (Post.of_grow h.1.sr g) (r.pre h.1.th)
/-- a value as an operand -/
theorem tG.share {m : M Vl} {Q : VK} (h : tG T (RA T) W (M.bind m fun v => M.bind (frzV v) fun d => M.pure (.val d)) σ H Q) : tG T (RV T) W m σ H Q := by
  obtain ⟨F, ρ, h⟩ := h
  refine h.bind.imp fun x H1 ⟨F1, ρ1, a, P, r, h1⟩ => ?_
  obtain ⟨d, F2, s, rp, h2⟩ := h1.shr (r.pre fun p e => e)
  exact h2.ret0 (a := A.val d) rp
/-- two operands -/
theorem tGa.two {R : Rl ι α} {m n : M A} {k : D → D → M α} {Q : ι → Hp → Prop} (h : tGa T F0 H0 ρ0 F ρ R W (M.bind m fun x => M.bind n fun y => M.bind x.d fun p => M.bind y.d fun q => k p q) σ H Q) :
    tG T (RA T) W m σ H fun x H1 => tG T (RA T) W n σ H1 fun y H2 => ∃ F2 ρ2 p q, RdR T F2 H2 x p ∧ RdR T F2 H2 y q ∧ tGa T F0 H0 ρ0 F2 ρ2 R W (k p q) σ H2 Q := by
  refine h.bind.imp fun x H1 ⟨F1, ρ1, a, P, r, h1⟩ => ?_
  refine h1.bind.imp fun y H2 ⟨F2, ρ2, b, P2, r2, h2⟩ => ?_
  obtain ⟨v, d, e1, e2, h3⟩ := h2.dd
  obtain ⟨w, e, e3, e4, h4⟩ := h3.dd
  exact ⟨F2, ρ2, d, e, (r.mono P2.gr).rd h3.1.sr e1 e2, r2.rd h3.1.sr e3 e4, h4⟩
/-- one operand -/
theorem tGa.one {R : Rl ι α} {m : M A} {k : D → M α} {Q : ι → Hp → Prop} (h : tGa T F0 H0 ρ0 F ρ R W (M.bind m fun x => M.bind x.d fun p => k p) σ H Q) :
    tG T (RA T) W m σ H fun x H1 => ∃ F1 ρ1 p, RdR T F1 H1 x p ∧ tGa T F0 H0 ρ0 F1 ρ1 R W (k p) σ H1 Q := by
  refine h.bind.imp fun x H1 ⟨F1, ρ1, a, P, r, h1⟩ => ?_
  obtain ⟨v, d, e1, e2, h3⟩ := h1.dd
  exact ⟨F1, ρ1, d, r.rd h3.1.sr e1 e2, h3⟩
/-- three operands -/
theorem tGa.three {R : Rl ι α} {m n o : M A} {k : D → D → D → M α} {Q : ι → Hp → Prop} (h : tGa T F0 H0 ρ0 F ρ R W (M.bind m fun x => M.bind n fun y => M.bind o fun z => M.bind x.d fun p => M.bind y.d fun q => M.bind z.d fun r => k p q r) σ H Q) :
    tG T (RA T) W m σ H fun x H1 => tG T (RA T) W n σ H1 fun y H2 => tG T (RA T) W o σ H2 fun z H3 => ∃ F2 ρ2 p q r, RdR T F2 H3 x p ∧ RdR T F2 H3 y q ∧ RdR T F2 H3 z r ∧ tGa T F0 H0 ρ0 F2 ρ2 R W (k p q r) σ H3 Q := by
  refine h.bind.imp fun x H1 ⟨F1, ρ1, a, P, r, h1⟩ => ?_
  refine h1.bind.imp fun y H2 ⟨F2, ρ2, b, P2, r2, h2⟩ => ?_
  refine h2.bind.imp fun z H3 ⟨F3, ρ3, c, P3, r3, h3⟩ => ?_
  obtain ⟨v, d, e1, e2, h3⟩ := h3.dd
  obtain ⟨w, e, e3, e4, h4⟩ := h3.dd
  obtain ⟨u, f, e5, e6, h5⟩ := h4.dd
  exact ⟨F3, ρ3, d, e, f, ((r.mono P2.gr).mono P3.gr).rd h3.1.sr e1 e2, (r2.mono P3.gr).rd h3.1.sr e3 e4, r3.rd h3.1.sr e5 e6, h5⟩
end

/-! ### truth -/
theorem tru_rd {T : Kt} {F H : Hp} {x : V} {d : D} {k : Bool} (e : Same F H) (h : RdR T F H x d) (t : truD d = some k) : TruV T.K x H k := by
  cases d with
  | non => obtain rfl := h.non; cases t; rfl
  | bl b => obtain rfl := h.bl; cases t; rfl
  | int i =>
    obtain rfl := h.int
    cases t
    show decide (i ≠ 0) = (i != 0)
    rw [Bool.eq_iff_iff]
    simp
  | str s =>
    obtain ⟨z, rfl, e1, e2, _⟩ := h.str
    cases t
    refine ⟨e2, ?_⟩
    rw [← Str.len, e1]
    cases s with
    | nil => rfl
    | cons a l =>
      show true = _
      simp
      omega
  | tup l =>
    obtain ⟨a, vs, rfl, t1, _, r⟩ := h.tup e
    cases t
    refine .inr (.inl ⟨vs, t1, ?_⟩)
    cases r <;> rfl
  | lst l =>
    obtain ⟨a, vs, rfl, t1, r⟩ := h.lst e
    cases t
    refine .inl ⟨vs, .inl (.inl t1), ?_⟩
    cases r <;> rfl
  | dct ks vs =>
    obtain ⟨a, kvs, rfl, t1, r, q⟩ := h.dct e
    cases t
    refine .inr (.inr ⟨kvs, t1, ?_⟩)
    cases kvs with
    | nil => cases r; rfl
    | cons p l => cases r; rfl
  | _ => cases t

section
variable {C : Cc} {e a b c : Expr} {x y z : Ex} {pos : Pos}
/-- an expression whose test is its value's truth -/
abbrev Plain (C : Cc) (e : Expr) : Prop := ∀ whole, isTrue e C.X.env whole = (do let v ← whole; standAt e.pos; holding [v] (truthy v))
theorem pt_tst {m : M A} (h : PE C.X e (tG C.T (RA C.T) C.W m)) (he : Plain C e) : PT C.X e (tG C.T RB C.W (tstV m)) :=
  PT.imp (pt_truth h he) fun σ H Q ⟨F, ρ, h⟩ => by
    refine h.bind.imp fun x H1 ⟨F1, ρ1, a, P, r, h1⟩ => ?_
    obtain ⟨v, d, e1, e2, h3⟩ := h1.dd
    obtain ⟨k, e3, h4⟩ := h3.optEnd
    refine ⟨k, ?_, h4.ret0 rfl⟩
    rw [C.hK]
    exact tru_rd h4.1.sr.sub (r.rd h3.1.sr e1 e2) e3
theorem SX.mk' {m : M Vl} (hm : evB C.Pr C.cal x = vb m) (h : PE C.X e (tG C.T (RV C.T) C.W m)) (ho : opA x = fun m => M.bind m fun v => M.bind (frzV v) fun d => M.pure (.val d)) (he : Plain C e) : SX C e x := by
  have hs : PE C.X e (tG C.T (RA C.T) C.W (M.bind m fun v => M.bind (frzV v) fun d => M.pure (.val d))) := PE.imp h fun σ H Q h => h.share
  refine ⟨?_, ?_, ?_⟩
  · unfold SE; rw [hm]; exact h
  · unfold SO; rw [hm, ho]; exact hs
  · unfold ST; rw [hm]; exact pt_tst hs he
theorem SX.mkT {m : M Vl} (hm : evB C.Pr C.cal x = vb m) (h : PE C.X e (tG C.T (RV C.T) C.W m)) (ho : opA x = fun m => M.bind m fun v => M.bind (frzV v) fun d => M.pure (.val d))
    (he : PT C.X e (tG C.T RB C.W (tstV (M.bind m fun v => M.bind (frzV v) fun d => M.pure (.val d))))) : SX C e x := by
  have hs : PE C.X e (tG C.T (RA C.T) C.W (M.bind m fun v => M.bind (frzV v) fun d => M.pure (.val d))) := PE.imp h fun σ H Q h => h.share
  refine ⟨?_, ?_, ?_⟩
  · unfold SE; rw [hm]; exact h
  · unfold SO; rw [hm, ho]; exact hs
  · unfold ST; rw [hm]; exact he

/-! ### names, constants -/
theorem getS_some {i : Nat} {ρ : Env} {v : Vl} (h : getS i ρ = some v) : ρ[i]? = some (some v) := by
  unfold getS at h
  split at h
  · rename_i w e; cases h; exact e
  · cases h
theorem getS_of {i : Nat} {ρ : Env} {v : Vl} (h : ρ[i]? = some (some v)) : getS i ρ = some v := by
  unfold getS; rw [h]
theorem getS_set {i j : Nat} {ρ : Env} {v : Option Vl} (hj : j < ρ.length) : getS i (ρ.set j v) = if i = j then v else getS i ρ := by
  unfold getS
  by_cases e : i = j
  · subst e
    rw [if_pos rfl, List.getElem?_set_self hj]
    cases v <;> rfl
  · rw [if_neg e, List.getElem?_set_ne (Ne.symm e)]
theorem getS_lt {i : Nat} {ρ : Env} {v : Vl} (h : getS i ρ = some v) : i < ρ.length := by
  have := getS_some h
  rcases Nat.lt_or_ge i ρ.length with q | q
  · exact q
  · rw [List.getElem?_eq_none q] at this; cases this
/-- a name's own thing is shared from now on -/
theorem Post.shareSlot {T : Kt} {F H : Hp} {ρ : Env} {σ : L2.St} {i : Nat} {d : D} (s : SR T F H ρ σ) (h : getS i ρ = some (.own d)) :
    ∃ p F', σ[i]? = some (some (.ref p)) ∧ Rep T F' (.ref p) d ∧ Post T F H ρ σ F' H (ρ.set i (some (.frz d))) := by
  obtain ⟨p, o, e1, e2, e3, r⟩ := s.slot i _ h
  have hi := getS_lt h
  have g : Same F (upd F p o) := Same.upd e2
  have q : Same (upd F p o) H := fun b u e => by
    by_cases hb : b = p
    · subst hb; rw [upd_same] at e; rw [← e]; exact e3
    · rw [upd_ne hb] at e; exact s.sub b u e
  have rp : Rep T (upd F p o) (.ref p) d := r.rep g upd_same
  refine ⟨p, upd F p o, e1, rp, ⟨s, ⟨q, by rw [List.length_set]; exact s.len, fun j v e => ?_, fun j k d1 d2 p1 f1 f2 f3 f4 => ?_, s.tabs, fun p' hp => ?_⟩, g, fun p' o' h1 h2 h3 h4 => ?_, fun j d' e => ?_, fun _ e => e⟩⟩
  · rw [getS_set hi] at e
    by_cases ej : j = i
    · rw [if_pos ej] at e
      cases e
      subst ej
      exact ⟨_, e1, rp⟩
    · rw [if_neg ej] at e
      have z := s.slot j v e
      cases v with
      | frz d => obtain ⟨x, k1, r⟩ := z; exact ⟨x, k1, r.mono g⟩
      | own d1 =>
        obtain ⟨p', o', k1, k2, k3, r⟩ := z
        refine ⟨p', o', k1, ?_, k3, r.mono g⟩
        rw [upd_ne fun z => ?_]
        · exact k2
        · subst z; exact ej (s.apart j i _ _ _ e h k1 e1)
      | clo _ _ => exact z
      | lam _ => exact z
  · rw [getS_set hi] at f1 f2
    split at f1
    · cases f1
    · split at f2
      · cases f2
      · exact s.apart j k d1 d2 p1 f1 f2 f3 f4
  · obtain ⟨ps, e4, _⟩ := s.tabs p' hp
    rw [upd_ne (fun z => by rw [z, e3] at e4; exact r.noTbl ps (Option.some.inj e4))]
    exact s.ft p' hp
  · refine ⟨?_, h2⟩
    rw [upd_ne fun z => h4 ⟨i, d, h, by rw [z]; exact e1⟩]
    exact h1
  · rw [getS_set hi] at e
    split at e
    · cases e
    · exact ⟨d', e⟩
theorem tG_var {T : Kt} {W : WX} {i : Nat} {σ : L2.St} {H : Hp} {Q : VK} (h : tG T (RV T) W (rdVar i) σ H Q) : tVar i σ H Q := by
  obtain ⟨F, ρ, P, r, ρ', e, q⟩ := h
  unfold rdVar at e
  cases g : getS i ρ with
  | none => rw [g] at e; cases e
  | some v =>
    rw [g] at e
    cases v with
    | frz d =>
      cases e
      obtain ⟨x, e1, rp⟩ := P.sr.slot i _ g
      exact ⟨x, e1, q x F H P rp⟩
    | own d =>
      cases e
      obtain ⟨p, F', e1, rp, P'⟩ := Post.shareSlot P.sr g
      exact ⟨_, e1, q _ F' H (P.trans P') rp⟩
    | clo _ _ => exact (P.sr.slot i _ g).elim
    | lam _ => exact (P.sr.slot i _ g).elim
theorem tG_slot {T : Kt} {W : WX} {i : Nat} {m : M Vl} {σ : L2.St} {H : Hp} {Q : VK} (h : tG T (RA T) W (opA (.var i) m) σ H Q) : tVar i σ H Q := by
  obtain ⟨F, ρ, P, r, ρ', e, q⟩ := h
  have e : (match getS i ρ with | some _ => some (Res.ok (A.slot i), ρ) | none => none) = some (r, ρ') := e
  cases g : getS i ρ with
  | none => rw [g] at e; cases e
  | some v =>
    rw [g] at e
    cases e
    cases v with
    | frz d =>
      obtain ⟨x, e1, rp⟩ := P.sr.slot i _ g
      exact ⟨x, e1, q x F H P e1⟩
    | own d =>
      obtain ⟨p, o, e1, _⟩ := P.sr.slot i _ g
      exact ⟨_, e1, q _ F H P e1⟩
    | clo _ _ => exact (P.sr.slot i _ g).elim
    | lam _ => exact (P.sr.slot i _ g).elim
theorem sx_var {nm : PySem.Str} (i : Nat) (hn : C.X.N[i]? = some nm) (hv : Vis C.X.env.scope nm) (hd : (nm == ("__debug__" : PySem.Str)) = false) (hcd : (nm == ("__classdict__" : PySem.Str)) = false) : SX C (.Name nm pos) (.var i) := by
  have h : PE C.X (.Name nm pos) (tVar i) := pe_var hn hv hd hcd
  have ho : SO C (.Name nm pos) (.var i) := PE.imp h fun σ H Q h => tG_slot h
  exact ⟨PE.imp h fun σ H Q h => tG_var h, ho, pt_tst ho fun _ => rfl⟩
theorem tG_lit {T : Kt} {W : WX} {d : D} {v : V} (hv : ∀ F, Rep T F v d) {σ : L2.St} {H : Hp} {Q : VK} (h : tG T (RV T) W (M.pure (.frz d)) σ H Q) : Q v H := by
  obtain ⟨F, ρ, h⟩ := h
  exact h.ret0 (hv F)
theorem sx_int {i : Int} {j} : SX C (.Constant (.int i) j pos) (.lit (.int i)) := SX.mk' rfl (PE.imp pe_int fun σ H Q h => tG_lit (fun F => .int i) h) rfl fun _ => rfl
theorem sx_bl {b : Bool} {j} : SX C (.Constant (.bool b) j pos) (.lit (.bl b)) := SX.mk' rfl (PE.imp pe_bl fun σ H Q h => tG_lit (fun F => .bl b) h) rfl fun _ => rfl
theorem sx_non {j} : SX C (.Constant .none j pos) (.lit .non) := SX.mk' rfl (PE.imp pe_non fun σ H Q h => tG_lit (fun F => .non) h) rfl fun _ => rfl
theorem sx_str {w : PySem.Str} {l : List Nat} {j} (hl : w.cps.toList = l) (h1 : l.length ≤ LIM) (h2 : okL l = true) : SX C (.Constant (.str w) j pos) (.lit (.str l)) :=
  SX.mk' rfl (PE.imp pe_str fun σ H Q h => tG_lit (fun F => rep_str hl h1 h2) h) rfl fun _ => rfl
/-- a module's constant, a class, a function -/
theorem sx_gcon {nm : PySem.Str} {n : Nat} {d : D} {v : V} {u : Value} (hg : Gl C.X nm) (hm : C.X.mg nm = some u) (r : RelV v u) (hd : C.Pr.cons[n]? = some d) (hv : ∀ F, Rep C.T F v d) (hdb : (nm == ("__debug__" : PySem.Str)) = false) : SX C (.Name nm pos) (.gcon n) :=
  SX.mk' rfl (PE.imp (pe_glob hg hm r hdb) fun σ H Q ⟨F, ρ, h⟩ => by
    obtain ⟨d', e, h⟩ := h.opt
    rw [hd] at e
    cases e
    exact h.ret0 (hv F)) rfl fun _ => rfl
theorem sx_gfn {nm : PySem.Str} {f : Nat} {u : Value} (hg : Gl C.X nm) (hm : C.X.mg nm = some u) (r : RelV (.ref (C.T.fa f)) u) (hdb : (nm == ("__debug__" : PySem.Str)) = false) : SX C (.Name nm pos) (.gfn f) :=
  SX.mk' rfl (PE.imp (pe_glob hg hm r hdb) fun σ H Q h => tG_lit (fun F => .fn f) h) rfl fun _ => rfl

/-! ### operators -/
theorem pe_opD {op : Operator} {g : D → D → Option Vl} {m n : M A} (ho : OpD C.T C.X (binaryOp op) g) (ha : PE C.X a (tG C.T (RA C.T) C.W m)) (hb : PE C.X b (tG C.T (RA C.T) C.W n)) :
    PE C.X (.BinOp a op b pos) (tG C.T (RV C.T) C.W (M.bind m fun x => M.bind n fun y => M.bind x.d fun p => M.bind y.d fun q => M.opt (g p q))) :=
  PE.imp (pe_op ho ha hb) fun σ H Q ⟨F, ρ, h⟩ => h.two.imp fun x H1 h1 => h1.imp fun y H2 ⟨F2, ρ2, p, q, r1, r2, h2⟩ => by
    obtain ⟨v, e, h3⟩ := h2.optEnd
    exact ⟨F2, p, q, v, h3.1.sr.sub, r1, r2, e, fun z F' H' g r => h3.val g r⟩
theorem sx_add (ha : SX C a x) (hb : SX C b y) : SX C (.BinOp a .Add b pos) (.bin .add x y) := SX.mk' rfl (pe_opD (op_addD C.hK) ha.o hb.o) rfl fun _ => rfl
theorem sx_sub (ha : SX C a x) (hb : SX C b y) : SX C (.BinOp a .Sub b pos) (.bin .sub x y) := SX.mk' rfl (pe_opD op_subD ha.o hb.o) rfl fun _ => rfl
theorem sx_mul (ha : SX C a x) (hb : SX C b y) : SX C (.BinOp a .Mult b pos) (.bin .mul x y) := SX.mk' rfl (pe_opD (op_mulD C.hK) ha.o hb.o) rfl fun _ => rfl
theorem sx_fdv (ha : SX C a x) (hb : SX C b y) : SX C (.BinOp a .FloorDiv b pos) (.bin .fdv x y) := SX.mk' rfl (pe_opD op_fdvD ha.o hb.o) rfl fun _ => rfl
theorem sx_mod (ha : SX C a x) (hb : SX C b y) : SX C (.BinOp a .Mod b pos) (.bin .mod x y) := SX.mk' rfl (pe_opD op_modD ha.o hb.o) rfl fun _ => rfl
theorem sx_pow (ha : SX C a x) (hb : SX C b y) : SX C (.BinOp a .Pow b pos) (.bin .pow x y) := SX.mk' rfl (pe_opD op_powD ha.o hb.o) rfl fun _ => rfl
theorem sx_neg (ha : SX C a x) : SX C (.UnaryOp .USub a pos) (.neg x) := SX.mk' rfl (PE.imp (pe_un un_neg ha.o) fun σ H Q ⟨F, ρ, h⟩ => by
    refine tG.imp h.one fun z H1 ⟨F1, ρ1, p, r, h1⟩ => ?_
    cases p with
    | int i => obtain rfl := r.int; exact ⟨i, rfl, h1.val (Grow.refl h1.1.sr.sub) (.int _)⟩
    | _ => exact h1.fail.elim) rfl fun _ => rfl
end
end Dp
end
section
set_option Elab.async false
set_option linter.all false
set_option maxRecDepth 100000
set_option maxHeartbeats 1000000
/-! S8: comparisons, and, or, not, if; tuples, lists; places; slices. -/
namespace Dp
open PySem PySem.Spec PyProof.Rows L2

section
variable {α β γ : Type}
theorem M.assoc (m : M α) (f : α → M β) (g : β → M γ) : M.bind (M.bind m f) g = M.bind m fun x => M.bind (f x) g := by
  funext ρ
  unfold M.bind
  cases m ρ with
  | none => rfl
  | some p => obtain ⟨r, ρ'⟩ := p; cases r <;> rfl
theorem M.pure_bind (a : α) (f : α → M β) : M.bind (M.pure a) f = f a := rfl
end
section
variable {ι α β κ : Type} {T : Kt} {F0 H0 F H : Hp} {ρ0 ρ : Env} {σ : L2.St} {W : WX} {x y : V}
/-- a value that is a bool -/
def RVb (T : Kt) : Rl V Vl := fun _ _ _ _ x v => ∃ b, x = .bl b ∧ v = .frz (.bl b)
theorem cmpU_rd {op : Cop} {a b : A} {R : Rl ι α} {k : D → M α} {Q : ι → Hp → Prop} (h : tGa T F0 H0 ρ0 F ρ R W (M.bind (cmpU Pr cal op a b) k) σ H Q) (ra : AOk T F σ x a) (rb : AOk T F σ y b) :
    ∃ p q r, RdR T F H x p ∧ RdR T F H y q ∧ cmpD op p q = some r ∧ tGa T F0 H0 ρ0 F ρ R W (k (.bl r)) σ H Q := by
  obtain ⟨P, r, ρ', e, q⟩ := h
  cases e1 : A.d a ρ with
  | none => rw [M.bind_none (by unfold cmpU; rw [e1])] at e; cases e
  | some p1 =>
    obtain ⟨r1, ρ1⟩ := p1
    obtain ⟨v, d, h1, h2, rfl, rfl⟩ := A.d_eq e1
    cases e2 : A.d b ρ1 with
    | none => rw [M.bind_none (by unfold cmpU; rw [e1]; dsimp only; rw [e2])] at e; cases e
    | some p2 =>
      obtain ⟨r2, ρ2⟩ := p2
      obtain ⟨w, f, k1, k2, rfl, rfl⟩ := A.d_eq e2
      have rd := ra.rd P.sr h1 h2
      have re := rb.rd P.sr k1 k2
      have eq : cmpU Pr cal op a b ρ2 = match cmpD op d f with | some r => some (.ok (.bl r), ρ2) | none => none := by
        unfold cmpU
        rw [e1]
        dsimp only
        rw [e2]
        cases d with
        | obj c fs vs =>
          rcases rd with rd | ⟨p, o, _, _, _, rd⟩
          · cases rd
          · cases rd
        | _ => rfl
      cases c : cmpD op d f with
      | none => rw [M.bind_none (by rw [eq, c])] at e; cases e
      | some r' =>
        rw [M.bind_ok (by rw [eq, c])] at e
        exact ⟨d, f, r', rd, re, c, P, r, ρ', e, q⟩
/-- a bool's truth -/
theorem tG_b {m : M Vl} {Q : Bool → Hp → Prop} (h : tG T RB W (tstV (M.bind m fun v => M.bind (frzV v) fun d => M.pure (.val d))) σ H Q) : tG T (RVb T) W m σ H fun x H' => ∃ k, x = .bl k ∧ Q k H' := by
  obtain ⟨F, ρ, h⟩ := h
  unfold tstV at h
  rw [M.assoc] at h
  refine h.bind.imp fun x H1 ⟨F1, ρ1, a, P, ⟨b, e1, e2⟩, h1⟩ => ?_
  subst e1 e2
  exact ⟨b, rfl, h1.ret0 (a := b) rfl⟩
end

section
variable {C : Cc} {e a b c : Expr} {x y z : Ex} {pos : Pos}
/-! ### comparisons -/
theorem cmp_rd {cop : Cop} {m n : M A} {R : Rl V Vl} (hR : ∀ H0 F H σ b, R H0 F H σ (.bl b) (.frz (.bl b))) {σ : L2.St} {H : Hp} {Q : VK}
    (h : tG C.T R C.W (M.bind m fun x => M.bind n fun y => M.bind (cmpU C.Pr C.cal cop x y) fun d => M.pure (.frz d)) σ H Q) :
    tOp (fun x y H Q => ∃ F p q b, Same F H ∧ RdR C.T F H x p ∧ RdR C.T F H y q ∧ cmpD cop p q = some b ∧ Q (.bl b) H) (tG C.T (RA C.T) C.W m) (tG C.T (RA C.T) C.W n) σ H Q := by
  obtain ⟨F, ρ, h⟩ := h
  refine h.bind.imp fun x H1 ⟨F1, ρ1, a, P, r, h1⟩ => ?_
  refine h1.bind.imp fun y H2 ⟨F2, ρ2, b, P2, r2, h2⟩ => ?_
  obtain ⟨p, q, b, k1, k2, k3, h3⟩ := cmpU_rd h2 (r.mono P2.gr) r2
  exact ⟨F2, p, q, b, h3.1.sr.sub, k1, k2, k3, h3.ret0 (hR _ _ _ _ _)⟩
theorem sx_cmp {op : CmpOp} {cop : Cop} (ho : CmpD C.T C.X op cop) (ha : SX C a x) (hb : SX C b y) (hm : behindInMarks op b = false) : SX C (.Compare a [op] [b] pos) (.cmp cop x y) :=
  SX.mkT rfl (PE.imp (pe_cmpR ho ha.o hb.o hm) fun σ H Q h => cmp_rd (fun _ _ _ _ b => .bl b) h) rfl
    (PT.imp (pt_cmpR ho ha.o hb.o hm) fun σ H Q h => cmp_rd (R := RVb C.T) (fun _ _ _ _ b => ⟨b, rfl, rfl⟩) (tG_b h))
theorem sx_eq (ha : SX C a x) (hb : SX C b y) : SX C (.Compare a [.Eq] [b] pos) (.cmp .eq x y) := sx_cmp (op_cmpEq C.hK C.hu) ha hb (nomark _)
theorem sx_ne (ha : SX C a x) (hb : SX C b y) : SX C (.Compare a [.NotEq] [b] pos) (.cmp .ne x y) := sx_cmp (op_cmpNe C.hK C.hu) ha hb (nomark _)
theorem sx_lt (ha : SX C a x) (hb : SX C b y) : SX C (.Compare a [.Lt] [b] pos) (.cmp .lt x y) := sx_cmp (op_cmpLt C.hK C.hu) ha hb (nomark _)
theorem sx_gt (ha : SX C a x) (hb : SX C b y) : SX C (.Compare a [.Gt] [b] pos) (.cmp .gt x y) := sx_cmp op_cmpGt ha hb (nomark _)
theorem sx_le (ha : SX C a x) (hb : SX C b y) : SX C (.Compare a [.LtE] [b] pos) (.cmp .le x y) := sx_cmp op_cmpLe ha hb (nomark _)
theorem sx_ge (ha : SX C a x) (hb : SX C b y) : SX C (.Compare a [.GtE] [b] pos) (.cmp .ge x y) := sx_cmp op_cmpGe ha hb (nomark _)
theorem sx_is (ha : SX C a x) (hb : SX C b y) : SX C (.Compare a [.Is] [b] pos) (.cmp .is x y) := sx_cmp op_cmpIs ha hb (nomark _)
theorem sx_isn (ha : SX C a x) (hb : SX C b y) : SX C (.Compare a [.IsNot] [b] pos) (.cmp .isn x y) := sx_cmp op_cmpIsN ha hb (nomark _)
theorem sx_in (ha : SX C a x) (hb : SX C b y) (hm : behindInMarks .In b = false) : SX C (.Compare a [.In] [b] pos) (.cmp .inn x y) := sx_cmp (op_cmpIn C.hK C.hu) ha hb hm
theorem sx_nin (ha : SX C a x) (hb : SX C b y) (hm : behindInMarks .NotIn b = false) : SX C (.Compare a [.NotIn] [b] pos) (.cmp .nin x y) := sx_cmp (op_cmpNin C.hK C.hu) ha hb hm
/-- a chain -/
theorem chn_rd {cop cop' : Cop} {m n o : M A} {R : Rl V Vl} (hR : ∀ H0 F H σ b, R H0 F H σ (.bl b) (.frz (.bl b))) {σ : L2.St} {H : Hp} {Q : VK}
    (h : tG C.T R C.W (M.bind m fun x => M.bind n fun y => M.bind (cmpU C.Pr C.cal cop x y) fun d => match d with
      | .bl true => M.bind o fun z => M.bind (cmpU C.Pr C.cal cop' y z) fun e => M.pure (.frz e)
      | .bl false => M.pure (.frz (.bl false))
      | _ => M.fail) σ H Q) :
    tChain (fun x y H Q => ∃ F p q b, Same F H ∧ RdR C.T F H x p ∧ RdR C.T F H y q ∧ cmpD cop p q = some b ∧ Q (.bl b) H) (fun x y H Q => ∃ F p q b, Same F H ∧ RdR C.T F H x p ∧ RdR C.T F H y q ∧ cmpD cop' p q = some b ∧ Q (.bl b) H) (tG C.T (RA C.T) C.W m) (tG C.T (RA C.T) C.W n) (tG C.T (RA C.T) C.W o) σ H Q := by
  obtain ⟨F, ρ, h⟩ := h
  refine h.bind.imp fun x H1 ⟨F1, ρ1, a, P, r, h1⟩ => ?_
  refine h1.bind.imp fun y H2 ⟨F2, ρ2, b, P2, r2, h2⟩ => ?_
  obtain ⟨p, q, k, k1, k2, k3, h3⟩ := cmpU_rd h2 (r.mono P2.gr) r2
  refine ⟨F2, p, q, k, h3.1.sr.sub, k1, k2, k3, k, rfl, ?_⟩
  cases k with
  | false => exact h3.ret0 (hR _ _ _ _ _)
  | true =>
    show tG _ _ _ _ _ _ _
    refine tG.imp (tGa.bind (f := o) h3) fun z H4 ⟨F4, ρ4, c, P4, r4, h4⟩ => ?_
    obtain ⟨p', q', k', j1, j2, j3, h5⟩ := cmpU_rd h4 (r2.mono P4.gr) r4
    exact ⟨F4, p', q', k', h5.1.sr.sub, j1, j2, j3, h5.ret0 (hR _ _ _ _ _)⟩
theorem sx_chn {op op' : CmpOp} {cop cop' : Cop} (ho : CmpD C.T C.X op cop) (ho' : CmpD C.T C.X op' cop') (ha : SX C a x) (hb : SX C b y) (hc : SX C c z) (hm : lastMarks [op, op'] [b, c] = false) : SX C (.Compare a [op, op'] [b, c] pos) (.chn cop cop' x y z) :=
  SX.mkT rfl (PE.imp (pe_chain ho ho' ha.o hb.o hc.o hm) fun σ H Q h => chn_rd (fun _ _ _ _ b => .bl b) h) rfl
    (PT.imp (pt_chain ho ho' ha.o hb.o hc.o hm) fun σ H Q h => chn_rd (R := RVb C.T) (fun _ _ _ _ b => ⟨b, rfl, rfl⟩) (tG_b h))
theorem sx_lele (ha : SX C a x) (hb : SX C b y) (hc : SX C c z) (hm : lastMarks [.LtE, .LtE] [b, c] = false) : SX C (.Compare a [.LtE, .LtE] [b, c] pos) (.chn .le .le x y z) := sx_chn op_cmpLe op_cmpLe ha hb hc hm

/-! ### and, or, not, if -/
structure SL (C : Cc) (op : BoolOp) (es : List Expr) (x : Ex) : Prop where
  v : ∀ pos, PE C.X (.BoolOp op es pos) (tG C.T (RV C.T) C.W (evB C.Pr C.cal x).1)
  t : ∀ pos, PW C.X (.BoolOp op es pos) (tG C.T RB C.W (evB C.Pr C.cal x).2)
theorem sl_and1 (h : SX C a x) : SL C .And [a] x := ⟨fun _ => pe_one h.v, fun _ => pw_and1 h.t⟩
theorem sl_or1 (h : SX C a x) : SL C .Or [a] x := ⟨fun _ => pe_one h.v, fun _ => pw_or1 h.t⟩
theorem sl_and {rest : List Expr} (ha : SX C a x) (hb : SL C .And (b :: rest) y) : SL C .And (a :: b :: rest) (.and x y) := by
  refine ⟨fun pos => PE.imp (pe_andT ha.v (hb.v pos)) fun σ H Q ⟨F, ρ, h⟩ => ?_, fun pos => PW.imp (pw_and ha.t (hb.t pos)) fun σ H Q ⟨F, ρ, h⟩ => ?_⟩
  · have h : tGa C.T F H ρ F ρ (RV C.T) C.W (M.bind (evB C.Pr C.cal x).1 fun v => M.bind (frzV v) fun d => M.bind (M.opt (truD d)) fun t => if t then (evB C.Pr C.cal y).1 else M.pure (.frz d)) σ H Q := h
    refine h.bind.imp fun z H1 ⟨F1, ρ1, v, P, r, h1⟩ => ?_
    obtain ⟨d, F2, s, rp, h2⟩ := h1.shr (r.pre fun p e => e)
    obtain ⟨k, e, h3⟩ := h2.opt
    refine ⟨k, by rw [C.hK]; exact tru_rd h3.1.sr.sub (.inl rp) e, ?_⟩
    cases k with
    | true =>
      rw [if_pos rfl] at h3 ⊢
      exact tG.imp (h3.run (R1 := RV C.T)) fun w H4 ⟨F4, ρ4, v4, P4, r4, h4⟩ => h4.ret0 (r4.pre h3.1.th)
    | false => exact h3.ret0 (a := Vl.frz d) rp
  · have h : tGa C.T F H ρ F ρ RB C.W (M.bind (evB C.Pr C.cal x).2 fun t => if t then (evB C.Pr C.cal y).2 else M.pure false) σ H Q := h
    refine h.bind.imp fun z H1 ⟨F1, ρ1, v, P, r, h1⟩ => ?_
    subst r
    cases z with
    | true => rw [if_pos rfl] at h1 ⊢; exact tG.imp (h1.run (R1 := RB)) fun w H4 ⟨F4, ρ4, v4, P4, r4, h4⟩ => h4.ret0 r4
    | false => exact h1.ret0 (a := false) rfl
theorem sl_or {rest : List Expr} (ha : SX C a x) (hb : SL C .Or (b :: rest) y) : SL C .Or (a :: b :: rest) (.or x y) := by
  refine ⟨fun pos => PE.imp (pe_orT ha.v (hb.v pos)) fun σ H Q ⟨F, ρ, h⟩ => ?_, fun pos => PW.imp (pw_or ha.t (hb.t pos)) fun σ H Q ⟨F, ρ, h⟩ => ?_⟩
  · have h : tGa C.T F H ρ F ρ (RV C.T) C.W (M.bind (evB C.Pr C.cal x).1 fun v => M.bind (frzV v) fun d => M.bind (M.opt (truD d)) fun t => if t then M.pure (.frz d) else (evB C.Pr C.cal y).1) σ H Q := h
    refine h.bind.imp fun z H1 ⟨F1, ρ1, v, P, r, h1⟩ => ?_
    obtain ⟨d, F2, s, rp, h2⟩ := h1.shr (r.pre fun p e => e)
    obtain ⟨k, e, h3⟩ := h2.opt
    refine ⟨k, by rw [C.hK]; exact tru_rd h3.1.sr.sub (.inl rp) e, ?_⟩
    cases k with
    | true => exact h3.ret0 (a := Vl.frz d) rp
    | false =>
      rw [if_neg (by simp)] at h3 ⊢
      exact tG.imp (h3.run (R1 := RV C.T)) fun w H4 ⟨F4, ρ4, v4, P4, r4, h4⟩ => h4.ret0 (r4.pre h3.1.th)
  · have h : tGa C.T F H ρ F ρ RB C.W (M.bind (evB C.Pr C.cal x).2 fun t => if t then M.pure true else (evB C.Pr C.cal y).2) σ H Q := h
    refine h.bind.imp fun z H1 ⟨F1, ρ1, v, P, r, h1⟩ => ?_
    subst r
    cases z with
    | true => exact h1.ret0 (a := true) rfl
    | false => rw [if_neg (by simp)] at h1 ⊢; exact tG.imp (h1.run (R1 := RB)) fun w H4 ⟨F4, ρ4, v4, P4, r4, h4⟩ => h4.ret0 r4
theorem sx_bool {op : BoolOp} {es : List Expr} (h : SL C op es x) (ho : opA x = fun m => M.bind m fun v => M.bind (frzV v) fun d => M.pure (.val d)) : SX C (.BoolOp op es pos) x :=
  ⟨h.v pos, by unfold SO; rw [ho]; exact PE.imp (h.v pos) fun σ H Q h => h.share, (h.t pos).pt⟩
theorem sx_not (ha : SX C a x) (hv : (evB C.Pr C.cal x).2 = tstV (opA x (evB C.Pr C.cal x).1)) : SX C (.UnaryOp .Not a pos) (.nt x) := by
  have hv' : PE C.X (.UnaryOp .Not a pos) (tG C.T (RV C.T) C.W (evB C.Pr C.cal (.nt x)).1) := PE.imp (pe_notT ha.o) fun σ H Q ⟨F, ρ, h⟩ => by
    have h : tGa C.T F H ρ F ρ (RV C.T) C.W (M.bind (evB C.Pr C.cal x).2 fun b => M.pure (.frz (.bl (!b)))) σ H Q := h
    rw [hv] at h
    unfold tstV at h
    rw [M.assoc] at h
    refine h.bind.imp fun z H1 ⟨F1, ρ1, v, P, r, h1⟩ => ?_
    rw [M.assoc] at h1
    obtain ⟨w, d, e1, e2, h2⟩ := h1.dd
    obtain ⟨k, e3, h3⟩ := h2.opt
    exact ⟨k, by rw [C.hK]; exact tru_rd h3.1.sr.sub (r.rd h3.1.sr e1 e2) e3, h3.ret0 (a := Vl.frz (.bl (!k))) (.bl _)⟩
  exact ⟨hv', PE.imp hv' fun σ H Q h => tG.share h, PT.imp (pt_not ha.t) fun σ H Q ⟨F, ρ, h⟩ => by
    have h : tGa C.T F H ρ F ρ RB C.W (M.bind (evB C.Pr C.cal x).2 fun t => M.pure (!t)) σ H Q := h
    refine h.bind.imp fun z H1 ⟨F1, ρ1, v, P, r, h1⟩ => ?_
    subst r
    exact h1.ret0 (a := !z) rfl⟩
/-- not in a test -/
theorem st_not (ha : ST C a x) : ST C (.UnaryOp .Not a pos) (.nt x) := PT.imp (pt_not ha) fun σ H Q ⟨F, ρ, h⟩ => by
    have h : tGa C.T F H ρ F ρ RB C.W (M.bind (evB C.Pr C.cal x).2 fun t => M.pure (!t)) σ H Q := h
    refine h.bind.imp fun z H1 ⟨F1, ρ1, v, P, r, h1⟩ => ?_
    subst r
    exact h1.ret0 (a := !z) rfl
theorem pt_ifExp {tA tX tY : TT} (hc : PT C.X c tA) (ha : PT C.X a tX) (hb : PT C.X b tY) : PT C.X (.IfExp c a b pos) (fun σ H Q => tA σ H fun k H1 => if k = true then tX σ H1 Q else tY σ H1 Q) := by
  refine ⟨fun pins s σ H Q I h => ?_⟩
  refine isTrue_IfExp (thn (hc.run pins s σ H _ I h) fun d s1 ⟨H1, I1, q1⟩ => ?_)
  cases d with
  | true => exact ha.run pins s1 σ H1 Q I1 q1
  | false => exact hb.run pins s1 σ H1 Q I1 q1
theorem sx_ite (hc : ST C c z) (ha : SX C a x) (hb : SX C b y) : SX C (.IfExp c a b pos) (.ite z x y) := by
  have hv : PE C.X (.IfExp c a b pos) (tG C.T (RV C.T) C.W (evB C.Pr C.cal (.ite z x y)).1) := PE.imp (pe_ifExp hc ha.v hb.v) fun σ H Q ⟨F, ρ, h⟩ => by
    have h : tGa C.T F H ρ F ρ (RV C.T) C.W (M.bind (evB C.Pr C.cal z).2 fun t => if t then (evB C.Pr C.cal x).1 else (evB C.Pr C.cal y).1) σ H Q := h
    refine tG.imp h.bind fun w H1 ⟨F1, ρ1, v, P, r, h1⟩ => ?_
    subst r
    cases w with
    | true =>
      rw [if_pos rfl] at h1 ⊢
      exact tG.imp (h1.run (R1 := RV C.T)) fun w H4 ⟨F4, ρ4, v4, P4, r4, h4⟩ => h4.ret0 (r4.pre h1.1.th)
    | false =>
      rw [if_neg (by simp)] at h1 ⊢
      exact tG.imp (h1.run (R1 := RV C.T)) fun w H4 ⟨F4, ρ4, v4, P4, r4, h4⟩ => h4.ret0 (r4.pre h1.1.th)
  refine ⟨hv, PE.imp hv fun σ H Q h => tG.share h, PT.imp (pt_ifExp hc ha.t hb.t) fun σ H Q ⟨F, ρ, h⟩ => ?_⟩
  have h : tGa C.T F H ρ F ρ RB C.W (M.bind (evB C.Pr C.cal z).2 fun t => if t then (evB C.Pr C.cal x).2 else (evB C.Pr C.cal y).2) σ H Q := h
  refine tG.imp h.bind fun w H1 ⟨F1, ρ1, v, P, r, h1⟩ => ?_
  subst r
  cases w with
  | true => rw [if_pos rfl] at h1 ⊢; exact tG.imp (h1.run (R1 := RB)) fun w H4 ⟨F4, ρ4, v4, P4, r4, h4⟩ => h4.ret0 r4
  | false => rw [if_neg (by simp)] at h1 ⊢; exact tG.imp (h1.run (R1 := RB)) fun w H4 ⟨F4, ρ4, v4, P4, r4, h4⟩ => h4.ret0 r4

/-! ### rows of expressions -/
def RDn (T : Kt) (n : Nat) : Rl (List V) (List D) := fun _ F _ _ xs ds => RepL T F xs ds ∧ xs.length = n
def RAn (T : Kt) (n : Nat) : Rl (List V) (List A) := fun _ F _ σ xs as => Paired (fun x a => AOk T F σ x a) xs as ∧ xs.length = n
def SEs (C : Cc) (n : Nat) (es : List Expr) (xs : Exs) : Prop := PA C.X es (tG C.T (RDn C.T n) C.W (evalEs C.Pr C.cal xs))
def SAs (C : Cc) (n : Nat) (es : List Expr) (xs : Exs) : Prop := PA C.X es (tG C.T (RAn C.T n) C.W (evalAs C.Pr C.cal xs))
theorem ses_nil : SEs C 0 [] .nil := PA.imp pa_nil fun σ H Q ⟨F, ρ, h⟩ => tGa.ret0 (a := []) h ⟨.nil, rfl⟩
theorem ses_cons {n : Nat} {es : List Expr} {xs : Exs} (ha : SX C a x) (hr : SEs C n es xs) (hs : starEach (a :: es) C.X.env = (false, eval a C.X.env) :: starEach es C.X.env) : SEs C (n + 1) (a :: es) (.cons x xs) :=
  PA.imp (pa_cons ha.v hr hs) fun σ H Q ⟨F, ρ, h⟩ => by
    have h : tGa C.T F H ρ F ρ (RDn C.T (n + 1)) C.W (M.bind (evB C.Pr C.cal x).1 fun v => M.bind (frzV v) fun d => M.bind (evalEs C.Pr C.cal xs) fun ds => M.pure (d :: ds)) σ H Q := h
    refine tG.imp h.bind fun z H1 ⟨F1, ρ1, v, P, r, h1⟩ => ?_
    obtain ⟨d, F2, s, rp, h2⟩ := h1.shr (r.pre fun p e => e)
    refine tG.imp h2.bind fun zs H3 ⟨F3, ρ3, ds, P3, r3, h3⟩ => ?_
    exact h3.ret0 (a := d :: ds) ⟨.cons (rp.mono P3.gr) r3.1, congrArg (· + 1) r3.2⟩
theorem sas_nil : SAs C 0 [] .nil := PA.imp pa_nil fun σ H Q ⟨F, ρ, h⟩ => tGa.ret0 (a := []) h ⟨.nil, rfl⟩
theorem aokL_mono {F F' : Hp} {T : Kt} {σ : L2.St} (e : Same F F') : ∀ {xs : List V} {as : List A}, Paired (fun x a => AOk T F σ x a) xs as → Paired (fun x a => AOk T F' σ x a) xs as
  | _, _, .nil => .nil
  | _, _, .cons h r => .cons (h.mono e) (aokL_mono e r)
theorem sas_cons {n : Nat} {es : List Expr} {xs : Exs} (ha : SX C a x) (hr : SAs C n es xs) (hs : starEach (a :: es) C.X.env = (false, eval a C.X.env) :: starEach es C.X.env) : SAs C (n + 1) (a :: es) (.cons x xs) :=
  PA.imp (pa_cons ha.o hr hs) fun σ H Q ⟨F, ρ, h⟩ => by
    have h : tGa C.T F H ρ F ρ (RAn C.T (n + 1)) C.W (M.bind (opA x (evB C.Pr C.cal x).1) fun a => M.bind (evalAs C.Pr C.cal xs) fun as => M.pure (a :: as)) σ H Q := h
    refine tG.imp h.bind fun z H1 ⟨F1, ρ1, v, P, r, h1⟩ => ?_
    refine tG.imp h1.bind fun zs H3 ⟨F3, ρ3, ds, P3, r3, h3⟩ => ?_
    exact h3.ret0 (a := v :: ds) ⟨.cons (r.mono P3.gr) r3.1, congrArg (· + 1) r3.2⟩
theorem sx_tup {n : Nat} {es : List Expr} {xs : Exs} {x1} (h : SEs C n es xs) (hn : n ≤ 1000) : SX C (.Tuple es x1 pos) (.tup xs) :=
  SX.mk' rfl (PE.imp (pe_tup h) fun σ H Q ⟨F, ρ, h⟩ => by
    refine tG.imp h.bind fun z H1 ⟨F1, ρ1, ds, P, r, h1⟩ => ⟨by rw [r.2]; exact Nat.le_trans hn (by rw [sizeLine_eq]; decide), fun p np => ?_⟩
    have g := Grow.frz (F := F1) (o := .tup z) P.sr.sub np
    exact h1.val g (.tup (.inl (.inl upd_same)) (r.1.mono g.ff))) rfl fun _ => rfl
theorem sx_lst {n : Nat} {es : List Expr} {xs : Exs} (h : SEs C n es xs) (hn : n ≤ 1000) : SX C (.List es pos) (.lst xs) :=
  SX.mk' rfl (PE.imp (pe_lst h) fun σ H Q ⟨F, ρ, h⟩ => by
    refine tG.imp h.bind fun z H1 ⟨F1, ρ1, ds, P, r, h1⟩ => ⟨by rw [r.2]; exact Nat.le_trans hn (by rw [sizeLine_eq]; decide), fun p np => ?_⟩
    exact h1.val (Grow.own P.sr.sub np) ⟨p, _, rfl, np, P.sr.sub.free np, upd_same, .lst r.1⟩) rfl fun _ => rfl

/-! ### places -/
theorem place_ixN (n : Nat) (i : Int) : place n i = ixN n i := by
  unfold place ixN
  by_cases h : 0 ≤ i
  · rw [if_pos h, if_pos h]
  · rw [if_neg h, if_neg h]
    by_cases k : -(n : Int) ≤ i
    · rw [if_pos k, if_pos (by omega)]
    · rw [if_neg k, if_neg (by omega)]
theorem atI_of {T : Kt} {F : Hp} {vs : List V} {l : List D} {i : Int} {d : D} (r : RepL T F vs l) (h : (match place l.length i with | some k => l[k]? | none => none) = some d) : ∃ v, atI vs i = some v ∧ Rep T F v d := by
  rw [place_ixN, ← r.length] at h
  unfold atI
  cases e : ixN vs.length i with
  | none => rw [e] at h; cases h
  | some k => rw [e] at h; exact r.get h
theorem ix_D : IxR C.X fun x y H Q => ∃ F p q d, Same F H ∧ RdR C.T F H x p ∧ RdR C.T F H y q ∧ idxD p q = some d ∧ ∀ z, Rep C.T F z d → Q z H := by
  intro value slice pins s σ H x y v u Q I rx ry ⟨F, p, q, d, e, hp, hq, hw, k⟩ hs
  cases p with
  | tup l =>
    obtain ⟨a, vs, rfl, t1, _, r⟩ := hp.tup e
    cases q with
    | int i =>
      obtain rfl := hq.int
      obtain ⟨z, e1, e2⟩ := atI_of r hw
      exact ix_tup value slice pins s σ H _ _ v u Q I rx ry ⟨a, vs, i, z, rfl, rfl, C.hK ▸ t1, e1, k z e2⟩ hs
    | _ => cases hw
  | lst l =>
    obtain ⟨a, vs, rfl, t1, r⟩ := hp.lst e
    cases q with
    | int i =>
      obtain rfl := hq.int
      obtain ⟨z, e1, e2⟩ := atI_of r hw
      exact ix_list value slice pins s σ H _ _ v u Q I rx ry ⟨a, vs, i, z, rfl, rfl, .inl (.inl t1), e1, k z e2⟩ hs
    | _ => cases hw
  | str l =>
    obtain ⟨z, rfl, e1, e2, e3⟩ := hp.str
    cases q with
    | int i =>
      obtain rfl := hq.int
      have hw : (match place l.length i with | some k => (match l[k]? with | some c => some (D.str [c]) | none => none) | none => none) = some d := hw
      rw [place_ixN] at hw
      cases e4 : ixN l.length i with
      | none => rw [e4] at hw; cases hw
      | some j =>
        rw [e4] at hw
        dsimp only at hw
        cases e5 : l[j]? with
        | none => rw [e5] at hw; cases hw
        | some c =>
          rw [e5] at hw
          cases hw
          refine ix_str value slice pins s σ H _ _ v u Q I rx ry ⟨z, i, c, rfl, rfl, e2, ?_, k _ (rep_str rfl (by show 1 ≤ 16777216; decide) ?_)⟩ hs
          · unfold atI; rw [e1, e4]; exact e5
          · rw [strOk_iff, e1] at e3
            refine okL_sub e3 fun b hb => ?_
            simp at hb
            subst hb
            exact List.mem_of_getElem? e5
    | _ => cases hw
  | dct ks vs =>
    obtain ⟨a, kvs, rfl, t1, r1, r2⟩ := hp.dct e
    have hw : (if isKey q then (match lookD q ks vs with | some (some d) => some d | _ => none) else none) = some d := hw
    split at hw
    · rename_i hk
      obtain ⟨key, rfl, rfl⟩ := key_of hq hk
      obtain ⟨o, e1, e2⟩ := lookD_key key r2
      rw [rep_keys r1, e1] at hw
      cases o with
      | none => cases hw
      | some d' =>
        cases hw
        obtain ⟨w, e3, e4⟩ := e2
        obtain rfl : v = Value.ref a := rx
        have g : DGet H a (kV key) (some w) := by rw [← e3]; exact DGet.k t1
        exact tail_any (dict_typeIs I g) slot_dict_getitem.lookup (d_getItem (by have := C.hu; omega) I g ry fun w' s' I' r' => ⟨w, H, I', r', k w e4⟩) hs
    · cases hw
  | _ => cases hw
theorem sx_idx (ha : SX C a x) (hb : SX C b y) (hs : PlainIx b) : SX C (.Subscript a b pos) (.idx x y) :=
  SX.mk' rfl (PE.imp (pe_ix ix_D ha.o hb.o hs) fun σ H Q ⟨F, ρ, h⟩ => tG.imp h.two fun x H1 h1 => h1.imp fun y H2 ⟨F2, ρ2, p, q, r1, r2, h2⟩ => by
    obtain ⟨d, e, h3⟩ := h2.opt
    exact ⟨F2, p, q, d, h3.1.sr.sub, r1, r2, e, fun z rz => h3.ret0 (a := Vl.frz d) rz⟩) rfl fun _ => rfl
end
end Dp
end
section
set_option Elab.async false
set_option linter.all false
set_option maxRecDepth 100000
set_option maxHeartbeats 1000000
/-! S9: slices; built-ins; methods; isinstance; changes. -/
namespace Dp
open PySem PySem.Spec PyProof.Rows L2

/-! ### slices -/
theorem cut_V {α : Type} (l : List α) (lo hi : Option Int) : cut l lo hi = (l.drop (HT.sIx l.length 0 lo)).take (HT.sIx l.length l.length hi - HT.sIx l.length 0 lo) := by
  cases lo <;> cases hi <;> exact List.drop_take
theorem cut_cutV (xs : List V) (lo hi : Option Int) : cutV xs lo hi = cut xs lo hi := (cut_V xs lo hi).symm
theorem RepL.cut {T : Kt} {F : Hp} {xs : List V} {ds : List D} (r : RepL T F xs ds) (lo hi : Option Int) : RepL T F (cutV xs lo hi) (cut ds lo hi) := by
  rw [cut_V, ← r.length]
  exact (r.drop _).take _
theorem cut_le {α : Type} (l : List α) (lo hi : Option Int) : (cut l lo hi).length ≤ l.length := by
  rw [cut_V, List.length_take, List.length_drop]
  omega
theorem cut_mem {α : Type} {l : List α} {lo hi : Option Int} {c : α} (h : c ∈ cut l lo hi) : c ∈ l := by
  rw [cut_V] at h
  exact List.mem_of_mem_drop (List.mem_of_mem_take h)
theorem cutV_whole {xs : List V} {lo hi : Option Int} (h : HT.sIx xs.length 0 lo = 0 ∧ HT.sIx xs.length xs.length hi = xs.length) : cutV xs lo hi = xs := by
  unfold cutV
  rw [h.1, h.2]
  simp
section
variable {C : Cc} {e a b c : Expr} {x y z : Ex} {pos : Pos}
theorem sl_D : SlR C.X fun x lo hi H Q => ∃ F p v, Same F H ∧ RdR C.T F H x p ∧ sliceD p lo hi = some v ∧ ∀ z F' H', Grow F H F' H' → VOk C.T H F' H' z v → Q z H' := by
  intro pins s σ H x v vl vu lo hi sl Q I rx hs pl pu ⟨F, p, w, e, hp, hw, k⟩
  cases p with
  | str l =>
    cases hw
    obtain ⟨z, rfl, e1, e2, e3⟩ := hp.str
    refine sl_str pins s σ H _ v vl vu lo hi sl Q I rx hs pl pu ⟨z, rfl, e2, k _ F H (Grow.refl e) ?_⟩
    rw [strOk_iff, e1] at e3
    refine rep_str ?_ (Nat.le_trans (cut_le _ _ _) ?_) (okL_sub e3 fun c hc => cut_mem hc)
    · unfold cutS
      show ((z.cps.toList.drop _).take _) = _
      rw [cut_V, e1, ← Str.len, e1]
    · rw [← e1, Str.len, lim_line]; exact e2
  | tup l =>
    cases hw
    obtain ⟨a, vs, rfl, t1, t2, r⟩ := hp.tup e
    refine sl_tupA pins s σ H _ v vl vu lo hi sl Q I rx hs pl pu ⟨a, vs, rfl, C.hK ▸ t1, fun hh => k _ F H (Grow.refl e) ?_, fun hh p np => ?_⟩
    · have q := r.cut lo hi
      rw [cutV_whole hh] at q
      exact .tup t2 q
    · have g := Grow.frz (F := F) (o := .tup (cutV vs lo hi)) e np
      exact k _ _ _ g (.tup (.inl (.inl upd_same)) ((r.cut lo hi).mono g.ff))
  | lst l =>
    cases hw
    obtain ⟨a, vs, rfl, t1, r⟩ := hp.lst e
    refine sl_list pins s σ H _ v vl vu lo hi sl Q I rx hs pl pu ⟨a, vs, rfl, .inl (.inl t1), fun p np => ?_⟩
    exact k _ F _ (Grow.own e np) ⟨p, _, rfl, np, e.free np, upd_same, .lst (r.cut lo hi)⟩
  | scr l =>
    cases hw
    obtain ⟨a, vs, rfl, t1, r⟩ := hp.scr e
    refine sl_list pins s σ H _ v vl vu lo hi sl Q I rx hs pl pu ⟨a, vs, rfl, C.hK ▸ t1, fun p np => ?_⟩
    exact k _ F _ (Grow.own e np) ⟨p, _, rfl, np, e.free np, upd_same, .lst (r.cut lo hi)⟩
  | _ => cases hw
abbrev RO : Rl (Option Int) (Option Int) := fun _ _ _ _ x a => x = a
def SP (C : Cc) (o : Option Expr) (x : Ex) : Prop := PO C.X o fun σ H Q => tG C.T RO C.W (partM x (opA x (evB C.Pr C.cal x).1)) σ H Q
theorem PO.imp {X : Cx} {o : Option Expr} {t t' : TO} (h : PO X o t) (k : ∀ σ H Q, t' σ H Q → t σ H Q) : PO X o t' := ⟨fun pins s σ H Q I q => h.run pins s σ H Q I (k _ _ _ q)⟩
theorem sp_none : SP C none (.lit .non) := PO.imp po_none fun σ H Q ⟨F, ρ, h⟩ => tGa.ret0 (a := none) h rfl
theorem sp_some (h : SX C e x) (hx : ∀ m, partM x m = partI m) : SP C (some e) x := PO.imp (po_some h.o) fun σ H Q ⟨F, ρ, h⟩ => by
  rw [hx] at h
  unfold partI at h
  refine tG.imp h.one fun z H1 ⟨F1, ρ1, p, r, h1⟩ => ?_
  cases p with
  | int i => obtain rfl := r.int; exact ⟨i, rfl, h1.ret0 (a := some i) rfl⟩
  | _ => exact h1.fail.elim
theorem sx_slc {lo hi : Option Expr} {p2 : Pos} (ha : SX C a x) (hl : SP C lo y) (hh : SP C hi z) : SX C (.Subscript a (.Slice lo hi none p2) pos) (.slc x y z) :=
  SX.mk' rfl (PE.imp (pe_slice sl_D ha.o hl hh) fun σ H Q ⟨F, ρ, h⟩ => by
    refine tG.imp h.bind fun w H1 ⟨F1, ρ1, v, P, r, h1⟩ => tG.imp h1.bind fun l H2 ⟨F2, ρ2, l', P2, r2, h2⟩ => tG.imp h2.bind fun u H3 ⟨F3, ρ3, u', P3, r3, h3⟩ => ?_
    subst r2 r3
    obtain ⟨v1, d, e1, e2, h4⟩ := h3.dd
    obtain ⟨w', e3, h5⟩ := h4.optEnd
    exact ⟨F3, d, w', h5.1.sr.sub, ((r.mono P2.gr).mono P3.gr).rd h5.1.sr e1 e2, e3, fun z F' H' g r => h5.val g r⟩) rfl fun _ => rfl

/-! ### built-ins -/
/-- operands all wanted now -/
theorem tGa.ds {ι α : Type} {T : Kt} {F0 H0 F H : Hp} {ρ0 ρ : Dp.Env} {σ : L2.St} {W : WX} {R : Rl ι α} {Q : ι → Hp → Prop} : ∀ {as : List A} {xs : List V} {k : List D → M α}, tGa T F0 H0 ρ0 F ρ R W (M.bind (A.ds as) k) σ H Q → Paired (fun x a => AOk T F σ x a) xs as →
    ∃ ds, Paired (RdR T F H) xs ds ∧ tGa T F0 H0 ρ0 F ρ R W (k ds) σ H Q
  | [], _, k, h, .nil => ⟨[], .nil, h⟩
  | a :: as, x :: xs, k, h, .cons r q => by
    have h : tGa T F0 H0 ρ0 F ρ R W (M.bind (M.bind a.d fun d => M.bind (A.ds as) fun ds => M.pure (d :: ds)) k) σ H Q := h
    rw [M.assoc] at h
    obtain ⟨v, d, e1, e2, h1⟩ := h.dd
    rw [M.assoc] at h1
    obtain ⟨ds, r1, h2⟩ := tGa.ds (k := fun ds => k (d :: ds)) h1 q
    exact ⟨d :: ds, .cons (r.rd h.1.sr e1 e2) r1, h2⟩
/-- what a built-in's rule is to be -/
def BiR (C : Cc) (f : Value) (b : Bi) : Prop := CallR C.X f fun vs H Q => ∃ F ds v, Same F H ∧ Paired (RdR C.T F H) vs ds ∧ biD C.Pr.sub b ds = some v ∧ ∀ z F' H', Grow F H F' H' → VOk C.T H F' H' z v → Q z H'
theorem bi_rd {n : Nat} {xs : Exs} {b : Bi} {σ : L2.St} {H : Hp} {Q : VK} (h : tG C.T (RV C.T) C.W (M.bind (evalAs C.Pr C.cal xs) fun as => M.bind (A.ds as) fun ds => M.opt (biD C.Pr.sub b ds)) σ H Q) :
    tCB (fun vs H Q => ∃ F ds v, Same F H ∧ Paired (RdR C.T F H) vs ds ∧ biD C.Pr.sub b ds = some v ∧ ∀ z F' H', Grow F H F' H' → VOk C.T H F' H' z v → Q z H') (tG C.T (RAn C.T n) C.W (evalAs C.Pr C.cal xs)) σ H Q := by
  obtain ⟨F, ρ, h⟩ := h
  refine tG.imp h.bind fun vs H1 ⟨F1, ρ1, as, P, r, h1⟩ => ?_
  obtain ⟨ds, r1, h2⟩ := h1.ds r.1
  obtain ⟨v, e, h3⟩ := h2.optEnd
  exact ⟨F1, ds, v, h3.1.sr.sub, r1, e, fun z F' H' g r => h3.val g r⟩
theorem sx_bi {n : Nat} {es : List Expr} {xs : Exs} {b : Bi} {nm : PySem.Str} {id : String} {p : Pos} (hc : BiR C (.builtin id) b) (hg : Gl C.X nm) (hm : C.X.mg nm = none) (hv : bootBuiltins nm = some (.builtin id)) (ha : SAs C n (e :: es) xs) (hn : nm ≠ "__name__") (hdb : (nm == ("__debug__" : PySem.Str)) = false)
    (he : starEach (e :: es) C.X.env = (false, eval e C.X.env) :: starEach es C.X.env) (hpl : (backTo pos (starEach es C.X.env)).any (·.1) = false) : SX C (.Call (.Name nm p) (e :: es) [] pos) (.bi b xs) :=
  SX.mk' rfl (PE.imp (pe_callB hc hg hm hv ha hn hdb he hpl) fun σ H Q h => bi_rd h) rfl fun _ => rfl
theorem sx_biT {n : Nat} {es : List Expr} {xs : Exs} {b : Bi} {nm : PySem.Str} {id : String} {p : Pos} (hc : BiR C (.type id) b) (hg : Gl C.X nm) (hm : C.X.mg nm = none) (hv : bootBuiltins nm = some (.type id)) (ha : SAs C n (e :: es) xs) (hn : nm ≠ "__name__") (hdb : (nm == ("__debug__" : PySem.Str)) = false)
    (he : starEach (e :: es) C.X.env = (false, eval e C.X.env) :: starEach es C.X.env) (hpl : (backTo pos (starEach es C.X.env)).any (·.1) = false) : SX C (.Call (.Name nm p) (e :: es) [] pos) (.bi b xs) :=
  SX.mk' rfl (PE.imp (pe_callTy hc hg hm hv ha hn hdb he hpl) fun σ H Q h => bi_rd h) rfl fun _ => rfl
theorem bi_len : BiR C (.builtin "len") .len := by
  intro pins s σ H xs us Q I r ⟨F, ds, v, e, rp, hw, k⟩
  cases rp with
  | nil => cases hw
  | cons hp rp =>
    cases rp with
    | cons _ _ => cases hw
    | nil =>
      rename_i x p
      cases p with
      | str l =>
        cases hw
        obtain ⟨z, rfl, e1, e2, _⟩ := hp.str
        exact call_len pins s σ H _ us Q I r ⟨_, l.length, rfl, ⟨e2, by rw [← e1, Str.len]⟩, k _ F H (Grow.refl e) (.int _)⟩
      | tup l =>
        cases hw
        obtain ⟨a, vs, rfl, t1, _, r1⟩ := hp.tup e
        exact call_len pins s σ H _ us Q I r ⟨_, l.length, rfl, .inr ⟨vs, C.hK ▸ t1, r1.length.symm⟩, k _ F H (Grow.refl e) (.int _)⟩
      | lst l =>
        cases hw
        obtain ⟨a, vs, rfl, t1, r1⟩ := hp.lst e
        exact call_len pins s σ H _ us Q I r ⟨_, l.length, rfl, .inl ⟨vs, .inl (.inl t1), r1.length.symm⟩, k _ F H (Grow.refl e) (.int _)⟩
      | dct ks vs =>
        cases hw
        obtain ⟨a, kvs, rfl, t1, r1, r2⟩ := hp.dct e
        have el : kvs.length = ks.length := by rw [← r1.length, List.length_map]
        exact call_lenD pins s σ H _ us Q I r ⟨a, kvs, rfl, t1, by rw [el]; exact k _ F H (Grow.refl e) (.int _)⟩
      | _ => cases hw
theorem bi_abs : BiR C (.builtin "abs") .abs := by
  intro pins s σ H xs us Q I r ⟨F, ds, v, e, rp, hw, k⟩
  cases rp with
  | nil => cases hw
  | cons hp rp =>
    cases rp with
    | cons _ _ => rename_i p _ _ _ _ _ _; cases p <;> cases hw
    | nil =>
      rename_i x p
      cases p with
      | int i => cases hw; obtain rfl := hp.int; exact call_abs pins s σ H _ us Q I r ⟨i, rfl, k _ F H (Grow.refl e) (.int _)⟩
      | _ => cases hw
theorem bi_int : BiR C (.type "int") .int := by
  intro pins s σ H xs us Q I r ⟨F, ds, v, e, rp, hw, k⟩
  cases rp with
  | nil => cases hw
  | cons hp rp =>
    cases rp with
    | cons _ _ => rename_i p _ _ _ _ _ _; cases p <;> cases hw
    | nil =>
      rename_i x p
      cases p with
      | int i => cases hw; obtain rfl := hp.int; exact call_int1 pins s σ H _ us Q I r (.inl ⟨i, rfl, k _ F H (Grow.refl e) (.int _)⟩)
      | bl b => cases hw; obtain rfl := hp.bl; exact call_int1 pins s σ H _ us Q I r (.inr ⟨b, rfl, k _ F H (Grow.refl e) (.int _)⟩)
      | _ => cases hw
theorem bools_of {T : Kt} {F : Hp} : ∀ {l : List D} {bs : List Bool} {vs : List V}, boolsL l = some bs → RepL T F vs l → vs = bs.map V.bl
  | [], _, _, h, .nil => by cases h; rfl
  | d :: l, bs, _, h, .cons r q => by
    cases d with
    | bl b =>
      have h : (boolsL l).map (b :: ·) = some bs := h
      cases e : boolsL l with
      | none => rw [e] at h; cases h
      | some cs =>
        rw [e] at h
        cases h
        cases r
        rw [bools_of e q] <;> rfl
    | _ => cases h
theorem ints_of {T : Kt} {F : Hp} : ∀ {l : List D} {bs : List Int} {vs : List V}, intsL l = some bs → RepL T F vs l → vs = bs.map V.int
  | [], _, _, h, .nil => by cases h; rfl
  | d :: l, bs, _, h, .cons r q => by
    cases d with
    | int b =>
      have h : (intsL l).map (b :: ·) = some bs := h
      cases e : intsL l with
      | none => rw [e] at h; cases h
      | some cs =>
        rw [e] at h
        cases h
        cases r
        rw [ints_of e q] <;> rfl
    | _ => cases h
theorem bi_all : BiR C (.builtin "all") .all := by
  intro pins s σ H xs us Q I r ⟨F, ds, v, e, rp, hw, k⟩
  cases rp with
  | nil => cases hw
  | cons hp rp =>
    cases rp with
    | cons _ _ => rename_i p _ _ _ _ _ _; cases p <;> cases hw
    | nil =>
      rename_i x p
      cases p with
      | lst l =>
        obtain ⟨bs, e1, rfl⟩ := Option.map_eq_some_iff.mp (show (boolsL l).map (fun bs => Vl.frz (.bl (bs.all id))) = some v from hw)
        obtain ⟨a, vs, rfl, t1, r1⟩ := hp.lst e
        exact cr_all C.calm pins s σ H _ us Q I r ⟨a, bs, rfl, .inl (.inl (by rw [← bools_of e1 r1]; exact t1)), k _ F H (Grow.refl e) (.bl _)⟩
      | _ => cases hw
theorem bi_any : BiR C (.builtin "any") .any := by
  intro pins s σ H xs us Q I r ⟨F, ds, v, e, rp, hw, k⟩
  cases rp with
  | nil => cases hw
  | cons hp rp =>
    cases rp with
    | cons _ _ => rename_i p _ _ _ _ _ _; cases p <;> cases hw
    | nil =>
      rename_i x p
      cases p with
      | lst l =>
        obtain ⟨bs, e1, rfl⟩ := Option.map_eq_some_iff.mp (show (boolsL l).map (fun bs => Vl.frz (.bl (bs.any id))) = some v from hw)
        obtain ⟨a, vs, rfl, t1, r1⟩ := hp.lst e
        exact cr_any C.calm pins s σ H _ us Q I r ⟨a, bs, rfl, .inl (.inl (by rw [← bools_of e1 r1]; exact t1)), k _ F H (Grow.refl e) (.bl _)⟩
      | _ => cases hw
theorem bi_sum : BiR C (.builtin "sum") .sum := by
  intro pins s σ H xs us Q I r ⟨F, ds, v, e, rp, hw, k⟩
  cases rp with
  | nil => cases hw
  | cons hp rp =>
    cases rp with
    | cons _ _ => rename_i p _ _ _ _ _ _; cases p <;> cases hw
    | nil =>
      rename_i x p
      cases p with
      | lst l =>
        obtain ⟨bs, e1, rfl⟩ := Option.map_eq_some_iff.mp (show (intsL l).map (fun bs => Vl.frz (.int bs.sum)) = some v from hw)
        obtain ⟨a, vs, rfl, t1, r1⟩ := hp.lst e
        exact cr_sum C.calm pins s σ H _ us Q I r ⟨a, bs, rfl, .inl (.inl (by rw [← ints_of e1 r1]; exact t1)), k _ F H (Grow.refl e) (.int _)⟩
      | _ => cases hw
theorem bi_list : BiR C (.type "list") .list := by
  intro pins s σ H xs us Q I r ⟨F, ds, v, e, rp, hw, k⟩
  cases rp with
  | nil => cases hw
  | cons hp rp =>
    cases rp with
    | cons _ _ => cases hw
    | nil =>
      rename_i x p
      cases p with
      | lst l =>
        cases hw
        obtain ⟨a, vs, rfl, t1, r1⟩ := hp.lst e
        exact call_list_of pins s σ H _ us Q I r ⟨a, vs, rfl, .inl (.inl (.inl t1)), fun p np => k _ F _ (Grow.own e np) ⟨p, _, rfl, np, e.free np, upd_same, .lst r1⟩⟩
      | tup l =>
        cases hw
        obtain ⟨a, vs, rfl, t1, _, r1⟩ := hp.tup e
        exact call_list_of pins s σ H _ us Q I r ⟨a, vs, rfl, .inr (C.hK ▸ t1), fun p np => k _ F _ (Grow.own e np) ⟨p, _, rfl, np, e.free np, upd_same, .lst r1⟩⟩
      | _ => cases hw
theorem bi_tuple : BiR C (.type "tuple") .tuple := by
  intro pins s σ H xs us Q I r ⟨F, ds, v, e, rp, hw, k⟩
  cases rp with
  | nil => cases hw
  | cons hp rp =>
    cases rp with
    | cons _ _ => cases hw
    | nil =>
      rename_i x p
      cases p with
      | lst l =>
        cases hw
        obtain ⟨a, vs, rfl, t1, r1⟩ := hp.lst e
        exact call_tuple_of pins s σ H _ us Q I r ⟨a, vs, rfl, .inl ⟨.inl (.inl t1), fun p np => by
          have g := Grow.frz (F := F) (o := .tup vs) e np
          exact k _ _ _ g (.tup (.inl (.inl upd_same)) (r1.mono g.ff))⟩⟩
      | tup l =>
        cases hw
        obtain ⟨a, vs, rfl, t1, t2, r1⟩ := hp.tup e
        exact call_tuple_of pins s σ H _ us Q I r ⟨a, vs, rfl, .inr ⟨C.hK ▸ t1, k _ F H (Grow.refl e) (.tup t2 r1)⟩⟩
      | _ => cases hw
end
end Dp
end
section
set_option Elab.async false
set_option linter.all false
set_option maxRecDepth 100000
set_option maxHeartbeats 1000000
/-! S10: join, isinstance; changes of own things. -/
namespace Dp
open PySem PySem.Spec PyProof.Rows L2
section
variable {C : Cc} {e a b c : Expr} {x y z : Ex} {pos : Pos}

/-! ### own things change -/
theorem tabs_upd {T : Kt} {H : Hp} {p : Addr} {o o' : HO} (t : NdefX.TabsN T.tb H) (hp : H p = some o) (n1 : ∀ ps, o ≠ .tbl ps) (n2 : ∀ c nm, o ≠ LamX.CodeO c nm) : NdefX.TabsN T.tb (upd H p o') := fun q hq => by
  obtain ⟨ps, h1, h2, h3⟩ := t q hq
  refine ⟨ps, ?_, h2, fun pos cv hc => ?_⟩
  · rw [upd_ne fun z => ?_]
    · exact h1
    · rw [z, hp] at h1; exact n1 ps (Option.some.inj h1)
  · obtain ⟨c, e1, e2⟩ := h3 pos cv hc
    refine ⟨c, e1, ?_⟩
    rw [upd_ne fun z => ?_]
    · exact e2
    · rw [z, hp] at e2; exact n2 _ _ (Option.some.inj e2)
theorem OwnR.noCode {T : Kt} {F : Hp} {o : HO} {d : D} (h : OwnR T F o d) : ∀ c nm, o ≠ LamX.CodeO c nm := by
  cases h <;> intro c nm z <;> cases z
theorem Post.change {T : Kt} {F H : Hp} {ρ : Dp.Env} {σ : L2.St} {i : Nat} {d d' : D} {p : Addr} {o o' : HO} (s : SR T F H ρ σ) (h : getS i ρ = some (.own d)) (e1 : σ[i]? = some (some (.ref p))) (e2 : F p = none) (e3 : H p = some o) (r : OwnR T F o d) (r' : OwnR T F o' d') :
    Post T F H ρ σ F (upd H p o') (ρ.set i (some (.own d'))) := by
  have hi := getS_lt h
  refine ⟨s, ⟨fun b u e => ?_, by rw [List.length_set]; exact s.len, fun j v e => ?_, fun j k d1 d2 p1 f1 f2 f3 f4 => ?_, tabs_upd s.tabs e3 r.noTbl r.noCode, s.ft⟩, Same.refl F, fun p' o1 h1 h2 h3 h4 => ⟨h1, ?_⟩, fun j d1 e => ?_, fun q e => ?_⟩
  · rw [upd_ne fun z => by rw [z, e2] at e; cases e]
    exact s.sub b u e
  · rw [getS_set hi] at e
    by_cases ej : j = i
    · rw [if_pos ej] at e
      cases e
      subst ej
      exact ⟨p, o', e1, e2, upd_same, r'⟩
    · rw [if_neg ej] at e
      have z := s.slot j v e
      cases v with
      | frz d => exact z
      | own d1 =>
        obtain ⟨p', o1, k1, k2, k3, r1⟩ := z
        refine ⟨p', o1, k1, k2, ?_, r1⟩
        rw [upd_ne fun z => ?_]
        · exact k3
        · subst z; exact ej (s.apart j i _ _ _ e h k1 e1)
      | clo _ _ => exact z
      | lam _ => exact z
  · have g1 : ∃ d, getS j ρ = some (.own d) := by
      rw [getS_set hi] at f1
      split at f1
      · rename_i q; subst q; exact ⟨_, h⟩
      · exact ⟨_, f1⟩
    have g2 : ∃ d, getS k ρ = some (.own d) := by
      rw [getS_set hi] at f2
      split at f2
      · rename_i q; subst q; exact ⟨_, h⟩
      · exact ⟨_, f2⟩
    obtain ⟨d3, g1⟩ := g1
    obtain ⟨d4, g2⟩ := g2
    exact s.apart j k _ _ p1 g1 g2 f3 f4
  · rw [upd_ne fun z => h4 ⟨i, d, h, by rw [z]; exact e1⟩]
    exact h2
  · rw [getS_set hi] at e
    split at e
    · rename_i q; subst q; exact ⟨_, h⟩
    · exact ⟨d1, e⟩
  · by_cases hq : q = p
    · subst hq; rw [upd_same] at e; cases e
    · rw [upd_ne hq] at e; exact e
/-- a change by a method: what is there, what is then -/
theorem mut_rd {T : Kt} {F0 H0 F H : Hp} {ρ0 ρ : Dp.Env} {σ : L2.St} {W : WX} {m : Mu} {i : Nat} {ds : List D} {Q : VK} {x : V} (h : tGa T F0 H0 ρ0 F ρ (RV T) W (mutM m i ds) σ H Q) (hx : σ[i]? = some (some x)) :
    ∃ p o d v d', x = .ref p ∧ F p = none ∧ H p = some o ∧ OwnR T F o d ∧ mutD m d ds = some (v, d') ∧ Same F H ∧ ∀ z o', Rep T F z v → OwnR T F o' d' → Q z (upd H p o') := by
  obtain ⟨P, r, ρ', e, q⟩ := h
  unfold mutM at e
  cases g : getS i ρ with
  | none => rw [g] at e; cases e
  | some w =>
    rw [g] at e
    cases w with
    | own d =>
      dsimp only at e
      cases c : mutD m d ds with
      | none => rw [c] at e; cases e
      | some vd =>
        obtain ⟨v, d'⟩ := vd
        rw [c] at e
        cases e
        obtain ⟨p, o, e1, e2, e3, r⟩ := P.sr.slot i _ g
        rw [hx] at e1
        cases e1
        exact ⟨p, o, d, v, d', rfl, e2, e3, r, c, P.sr.sub, fun z o' rz ro => q z F _ (P.trans (Post.change P.sr g hx e2 e3 r ro)) rz⟩
    | frz _ => cases e
    | clo _ _ => cases e
    | lam _ => cases e
theorem own_rd {ι α : Type} {T : Kt} {F0 H0 F H : Hp} {ρ0 ρ : Dp.Env} {σ : L2.St} {W : WX} {m : Mu} {i : Nat} {R : Rl ι α} {k : Unit → M α} {Q : ι → Hp → Prop} (h : tGa T F0 H0 ρ0 F ρ R W (M.bind (ownTy m i) k) σ H Q) :
    ∃ p d, σ[i]? = some (some (.ref p)) ∧ ((∃ vs, H p = some (.lst vs) ∧ (m = .append ∨ m = .extend ∨ m = .pop ∨ m = .insert)) ∨ (∃ kvs, H p = some (.dK kvs) ∧ (m = .setdefault ∨ m = .update))) ∧ getS i ρ = some (.own d) ∧ tGa T F0 H0 ρ0 F ρ R W (k ()) σ H Q := by
  obtain ⟨P, r, ρ', e, q⟩ := h
  cases g : getS i ρ with
  | none => rw [M.bind_none (by unfold ownTy; rw [g])] at e; cases e
  | some w =>
    cases w with
    | own d =>
      obtain ⟨p, o, e1, e2, e3, ro⟩ := P.sr.slot i _ g
      cases ro with
      | lst r1 =>
        by_cases hm : m = .append ∨ m = .extend ∨ m = .pop ∨ m = .insert
        · refine ⟨p, _, e1, .inl ⟨_, e3, hm⟩, rfl, P, r, ρ', ?_, q⟩
          rw [M.bind_ok (a := ()) (by unfold ownTy; rw [g]; rcases hm with rfl | rfl | rfl | rfl <;> rfl)] at e
          exact e
        · rw [M.bind_none (by unfold ownTy; rw [g]; cases m <;> first | rfl | simp at hm)] at e; cases e
      | dct r1 r2 =>
        by_cases hm : m = .setdefault ∨ m = .update
        · refine ⟨p, _, e1, .inr ⟨_, e3, hm⟩, rfl, P, r, ρ', ?_, q⟩
          rw [M.bind_ok (a := ()) (by unfold ownTy; rw [g]; rcases hm with rfl | rfl <;> rfl)] at e
          exact e
        · rw [M.bind_none (by unfold ownTy; rw [g]; cases m <;> first | rfl | simp at hm)] at e; cases e
    | frz _ => rw [M.bind_none (by unfold ownTy; rw [g])] at e; cases e
    | clo _ _ => rw [M.bind_none (by unfold ownTy; rw [g])] at e; cases e
    | lam _ => rw [M.bind_none (by unfold ownTy; rw [g])] at e; cases e
section
variable {i : Nat} {nm : PySem.Str} {apos p : Pos}
theorem sx_append {xs : Exs} (hn : C.X.N[i]? = some nm) (hv : Vis C.X.env.scope nm) (hd : (nm == ("__debug__" : PySem.Str)) = false) (hcd : (nm == ("__classdict__" : PySem.Str)) = false) (ha : SEs C 1 [e] xs)
    (hfew : ((backTo pos (starEach [e] C.X.env)).all (fun x => !x.1) && (backToKw pos (keywordEach [] C.X.env)).all (fun x => x.1.isSome) && decide ([e].length + ([] : List Keyword).length + (if ([] : List Keyword).isEmpty then 0 else 1) < 30)) = true)
    (hline : (apos.endLine == pos.line) = true) (hs : starEach [e] C.X.env = (false, eval e C.X.env) :: starEach [] C.X.env) :
    SX C (.Call (.Attribute (.Name nm p) "append" apos) [e] [] pos) (.mut .append i xs) :=
  SX.mk' rfl (PE.imp (pe_bm (T := "list") F.plainAttrs_list F.slot_list_append F.type_list_append (r := rAppend) mt_append (pe_var hn hv hd hcd) ha rfl hfew hline hs rfl) fun σ H Q ⟨F, ρ, h⟩ => by
    obtain ⟨p, d, e1, e2, e3, h1⟩ := own_rd h
    rcases e2 with ⟨vs, e2, _⟩ | ⟨_, _, hm⟩
    · refine ⟨_, e1, .inl ⟨rfl, vs, .inl (.inl e2)⟩, tG.imp h1.bind fun xs H1 ⟨F1, ρ1, ds, P1, ⟨r1, hl⟩, h2⟩ => ?_⟩
      obtain ⟨q, o, d, v, d', hq, k1, k2, k3, k4, k5, k6⟩ := mut_rd h2 e1
      cases hq
      cases r1 with
      | nil => cases hl
      | @cons y dy _ _ ry rr =>
        cases rr with
        | cons _ _ => simp at hl
        | nil =>
          cases k3 with
          | dct _ _ => cases k4
          | @lst us l r2 =>
            have k4 : (if l.length < LIM then some (D.non, D.lst (l ++ [dy])) else none) = some (v, d') := k4
            split at k4
            · rename_i hlt
              cases k4
              exact ⟨_, us, y, rfl, rfl, k2, by rw [r2.length, ← lim_line]; exact hlt, k6 _ _ .non (.lst (r2.snoc ry))⟩
            · cases k4
    · rcases hm with hm | hm <;> cases hm) rfl fun _ => rfl
theorem sx_extend {xs : Exs} (hn : C.X.N[i]? = some nm) (hv : Vis C.X.env.scope nm) (hd : (nm == ("__debug__" : PySem.Str)) = false) (hcd : (nm == ("__classdict__" : PySem.Str)) = false) (ha : SEs C 1 [e] xs)
    (hfew : ((backTo pos (starEach [e] C.X.env)).all (fun x => !x.1) && (backToKw pos (keywordEach [] C.X.env)).all (fun x => x.1.isSome) && decide ([e].length + ([] : List Keyword).length + (if ([] : List Keyword).isEmpty then 0 else 1) < 30)) = true)
    (hline : (apos.endLine == pos.line) = true) (hs : starEach [e] C.X.env = (false, eval e C.X.env) :: starEach [] C.X.env) :
    SX C (.Call (.Attribute (.Name nm p) "extend" apos) [e] [] pos) (.mut .extend i xs) :=
  SX.mk' rfl (PE.imp (pe_bm (T := "list") F.plainAttrs_list F.slot_list_extend F.type_list_extend (r := rExtend) mt_extend (pe_var hn hv hd hcd) ha rfl hfew hline hs rfl) fun σ H Q ⟨F, ρ, h⟩ => by
    obtain ⟨p, d, e1, e2, e3, h1⟩ := own_rd h
    rcases e2 with ⟨vs, e2, _⟩ | ⟨_, _, hm⟩
    · refine ⟨_, e1, .inl ⟨rfl, vs, .inl (.inl e2)⟩, tG.imp h1.bind fun xs H1 ⟨F1, ρ1, ds, P1, ⟨r1, hl⟩, h2⟩ => ?_⟩
      obtain ⟨q, o, d, v, d', hq, k1, k2, k3, k4, k5, k6⟩ := mut_rd h2 e1
      cases hq
      cases r1 with
      | nil => cases hl
      | @cons y dy _ _ ry rr =>
        cases rr with
        | cons _ _ => simp at hl
        | nil =>
          cases k3 with
          | dct _ _ => cases k4
          | @lst us l r2 =>
            cases dy with
            | lst m =>
              have k4 : (if l.length + m.length ≤ LIM then some (D.non, D.lst (l ++ m)) else none) = some (v, d') := k4
              split at k4
              · rename_i hlt
                cases k4
                cases ry with
                | @lst b zs _ hb rb =>
                  exact ⟨_, b, us, zs, rfl, rfl, k2, k5 _ _ hb, by rw [r2.length, rb.length, ← lim_line]; exact hlt, k6 _ _ .non (.lst (r2.append rb))⟩
              · cases k4
            | _ => cases k4
    · rcases hm with hm | hm <;> cases hm) rfl fun _ => rfl
theorem RepL.last {T : Kt} {F : Hp} {xs : List V} {ds : List D} {d : D} (r : RepL T F xs ds) (h : ds.getLast? = some d) : ∃ x, xs[xs.length - 1]? = some x ∧ Rep T F x d := by
  rw [List.getLast?_eq_getElem?] at h
  obtain ⟨x, h1, h2⟩ := r.get h
  exact ⟨x, by rw [r.length]; exact h1, h2⟩
theorem RepL.dropLast {T : Kt} {F : Hp} {xs : List V} {ds : List D} (r : RepL T F xs ds) : RepL T F xs.dropLast ds.dropLast := by
  rw [List.dropLast_eq_take, List.dropLast_eq_take, r.length]
  exact r.take _
theorem sx_pop (hn : C.X.N[i]? = some nm) (hv : Vis C.X.env.scope nm) (hd : (nm == ("__debug__" : PySem.Str)) = false) (hcd : (nm == ("__classdict__" : PySem.Str)) = false)
    (hline : (apos.endLine == pos.line) = true) :
    SX C (.Call (.Attribute (.Name nm p) "pop" apos) [] [] pos) (.mut .pop i .nil) :=
  SX.mk' rfl (PE.imp (pe_bm0 (T := "list") F.plainAttrs_list F.slot_list_pop F.type_list_pop (r := rPop) mt_pop (pe_var hn hv hd hcd) rfl hline) fun σ H Q ⟨F, ρ, h⟩ => by
    obtain ⟨p, d, e1, e2, e3, h1⟩ := own_rd h
    rcases e2 with ⟨vs, e2, _⟩ | ⟨_, _, hm⟩
    · refine ⟨_, e1, .inl ⟨rfl, vs, .inl (.inl e2)⟩, ?_⟩
      obtain ⟨q, o, d, v, d', hq, k1, k2, k3, k4, k5, k6⟩ := mut_rd (ds := []) h1 e1
      cases hq
      cases k3 with
      | dct _ _ => cases k4
      | @lst us l r2 =>
        have k4 : (match l.getLast? with | some d => some (d, D.lst l.dropLast) | none => none) = some (v, d') := k4
        cases e4 : l.getLast? with
        | none => rw [e4] at k4; cases k4
        | some w =>
          rw [e4] at k4
          cases k4
          obtain ⟨y, e5, r5⟩ := r2.last e4
          exact ⟨_, us, y, rfl, rfl, k2, e5, k6 _ _ r5 (.lst r2.dropLast)⟩
    · rcases hm with hm | hm <;> cases hm) rfl fun _ => rfl
end

/-! ### join -/
theorem joinS_TL (sep : List Nat) : ∀ ss : List (List Nat), joinS sep ss = TL.joinL sep ss
  | [] => rfl
  | [_] => rfl
  | p :: q :: r => by
    show p ++ (sep ++ joinS sep (q :: r)) = p ++ (sep ++ TL.joinL sep (q :: r))
    rw [joinS_TL sep (q :: r)]
theorem txts_rep {T : Kt} {F : Hp} : ∀ {l : List D} {ss : List (List Nat)} {vs : List V}, txts l = some ss → RepL T F vs l → ∃ ys : List Str, vs = ys.map V.str ∧ ys = ss.map (fun s => (⟨s.toArray⟩ : Str)) ∧ (∀ s ∈ ss, okL s = true)
  | [], _, _, h, .nil => by cases h; exact ⟨[], rfl, rfl, fun _ h => nomatch h⟩
  | d :: l, ss, _, h, .cons r q => by
    cases d with
    | str s =>
      obtain ⟨qs, e1, rfl⟩ := Option.map_eq_some_iff.mp (show (txts l).map (s :: ·) = some ss from h)
      obtain ⟨ys, e2, e3, e4⟩ := txts_rep e1 q
      have ok := r.okS
      cases r with
      | str z hz hk =>
        refine ⟨z :: ys, by rw [e2] <;> rfl, ?_, fun s hs => ?_⟩
        · rw [List.map_cons, ← e3]
        · rcases List.mem_cons.mp hs with rfl | hs
          · exact ok.1
          · exact e4 s hs
    | _ => cases h
theorem joinL_len (sep : List Nat) : ∀ ss : List (List Nat), (TL.joinL sep ss).length ≤ (ss.map (·.length)).sum + ss.length * sep.length
  | [] => Nat.zero_le _
  | [s] => by show s.length ≤ _; simp
  | s :: q :: r => by
    have ih := joinL_len sep (q :: r)
    show (s ++ (sep ++ TL.joinL sep (q :: r))).length ≤ _
    rw [List.length_append, List.length_append, List.map_cons, List.sum_cons, List.length_cons, Nat.succ_mul]
    omega
theorem joinL_ok {sep : List Nat} (hs : okL sep = true) : ∀ {ss : List (List Nat)}, (∀ s ∈ ss, okL s = true) → okL (TL.joinL sep ss) = true
  | [], _ => rfl
  | [s], h => h s (by simp)
  | s :: q :: r, h => by
    show okL (s ++ (sep ++ TL.joinL sep (q :: r))) = true
    exact okL_app (h s (by simp)) (okL_app hs (joinL_ok hs fun t ht => h t (List.mem_cons_of_mem _ ht)))
theorem lens_map (ss : List (List Nat)) : (ss.map fun s => (⟨s.toArray⟩ : Str)).map (·.length) = ss.map (·.length) := by
  rw [List.map_map]
  exact List.map_congr_left fun a _ => by show (⟨a.toArray⟩ : Str).length = _; simp [Str.length]
theorem join_rep {T : Kt} {F : Hp} {z : Str} {ss : List (List Nat)} {ys : List Str} (e : ys = ss.map (fun s => (⟨s.toArray⟩ : Str))) (ok : ∀ s ∈ ss, okL s = true) (zk : okL z.cps.toList = true) (hl : (ss.map List.length).sum + ss.length * z.cps.toList.length ≤ LIM) : Rep T F (.str (Txt.join z ys)) (.str (joinS z.cps.toList ss)) := by
  rw [joinS_TL]
  have ez : z = (⟨z.cps.toList.toArray⟩ : Str) := by obtain ⟨z⟩ := z; simp
  have ej : Txt.join z ys = (⟨(TL.joinL z.cps.toList ss).toArray⟩ : Str) := by
    rw [e]
    conv => lhs; rw [ez]
    exact _root_.SX.join_S _ _
  rw [ej]
  exact rep_str (by simp) (Nat.le_trans (joinL_len _ _) hl) (joinL_ok zk ok)
theorem sx_join {w : PySem.Str} {l : List Nat} {j} {p0 apos : Pos} (hl : w.cps.toList = l) (h1 : l.length ≤ LIM) (h2 : okL l = true) (hb : SX C b y)
    (hs : starEach [b] C.X.env = [(false, eval b C.X.env)]) (hline : (apos.endLine == pos.line) = true) :
    SX C (.Call (.Attribute (.Constant (.str w) j p0) "join" apos) [b] [] pos) (.mth .join (.lit (.str l)) (.cons y .nil)) :=
  SX.mk' rfl (PE.imp (pe_m1 F.slot_str_join F.type_str_join mt_join pe_str hb.o hs rfl hline) fun σ H Q ⟨F, ρ, h⟩ => by
    have h : tGa C.T F H ρ F ρ (RV C.T) C.W (M.bind (M.bind (opA y (evB C.Pr C.cal y).1) fun a => M.pure [a]) fun as => M.bind (A.ds as) fun ds => M.opt (mthD .join (.str l) ds)) σ H Q := h
    rw [M.assoc] at h
    refine ⟨⟨w, rfl⟩, tG.imp h.bind fun v H1 ⟨F1, ρ1, a, P1, r, h1⟩ => ?_⟩
    have h1 : tGa C.T F H ρ F1 ρ1 (RV C.T) C.W (M.bind (A.ds [a]) fun ds => M.opt (mthD .join (.str l) ds)) σ H1 Q := h1
    obtain ⟨ds, r1, h3⟩ := h1.ds (.cons r .nil)
    obtain ⟨u, e, h4⟩ := h3.optEnd
    cases r1 with
    | cons rd rn =>
      cases rn
      rename_i d
      have key : ∀ m, seqD d = some m → ∃ p ys, v = .ref p ∧ (SqL C.X.K H1 p ys ∨ SqT C.X.K H1 p ys) ∧ RepL C.T F1 ys m := fun m hm => by
        cases d with
        | lst m' => cases hm; obtain ⟨p, vs, rfl, t1, r1⟩ := rd.lst h4.1.sr.sub; exact ⟨p, vs, rfl, .inl (.inl (.inl t1)), r1⟩
        | tup m' => cases hm; obtain ⟨p, vs, rfl, t1, _, r1⟩ := rd.tup h4.1.sr.sub; exact ⟨p, vs, rfl, .inr (C.hK ▸ t1), r1⟩
        | _ => cases hm
      have e : (match seqD d with | some l' => (match txts l' with | some ss => if (ss.map List.length).sum + ss.length * l.length ≤ LIM then some (Vl.frz (.str (joinS l ss))) else none | none => none) | none => none) = some u := e
      cases e1 : seqD d with
      | none => rw [e1] at e; cases e
      | some m =>
        rw [e1] at e
        dsimp only at e
        cases e2 : txts m with
        | none => rw [e2] at e; cases e
        | some ss =>
          rw [e2] at e
          dsimp only at e
          split at e
          · rename_i hle
            cases e
            obtain ⟨p, vs, rfl, hq, r2⟩ := key m e1
            obtain ⟨ys, rfl, e4, e5⟩ := txts_rep e2 r2
            subst hl
            refine ⟨w, p, ys, rfl, rfl, hq, ?_, h4.val (Grow.refl h4.1.sr.sub) (join_rep e4 e5 h2 hle)⟩
            rw [e4, lens_map, List.length_map, ← Str.len]
            exact hle
          · cases e) rfl fun _ => rfl

/-! ### isinstance -/
def tyN : Ty → Option String
  | .int => some "int"
  | .bool => some "bool"
  | .str => some "str"
  | .tuple => some "tuple"
  | .list => some "list"
  | _ => none
theorem tyX_of {T : Kt} {F H : Hp} {x : V} {d : D} (e : Same F H) (h : RdR T F H x d) (hf : ∀ f, d ≠ .fn f) (hs : ∀ l, d ≠ .scr l) : ∃ n, TyX T.K H x (.type n) ∧ ∀ t s sub, tyN t = some s → ∃ b, isTy sub d t = some b ∧ kitB n s = some b := by
  have fin : ∀ (n : String) (f : Ty → Bool) , (∀ t s, tyN t = some s → kitB n s = some (f t)) → (∀ t s sub, tyN t = some s → isTy sub d t = some (f t)) → ∀ t s sub, tyN t = some s → ∃ b, isTy sub d t = some b ∧ kitB n s = some b :=
    fun n f h1 h2 t s sub ht => ⟨f t, h2 t s sub ht, h1 t s ht⟩
  have tup : ∀ {a : Addr} {vs : List V}, SqT T.K H a vs → TyX T.K H (.ref a) (.type "tuple") := fun {a vs} q => by
    rcases q with (q | ⟨o, q⟩) | ⟨o, its, n, q1, q2, _⟩
    · exact .base (.tup q)
    · exact .fTuple q
    · exact .kTuple q1 q2
  cases d with
  | non => obtain rfl := h.non; exact ⟨_, .base .non, fin _ (fun t => false) (fun t s ht => by cases t <;> cases ht <;> decide +kernel) (fun t s sub ht => by cases t <;> cases ht <;> rfl)⟩
  | bl b => obtain rfl := h.bl; exact ⟨_, .base (.bl b), fin _ (fun t => match t with | .int | .bool => true | _ => false) (fun t s ht => by cases t <;> cases ht <;> decide +kernel) (fun t s sub ht => by cases t <;> cases ht <;> rfl)⟩
  | int i => obtain rfl := h.int; exact ⟨_, .base (.int i), fin _ (fun t => match t with | .int => true | _ => false) (fun t s ht => by cases t <;> cases ht <;> decide +kernel) (fun t s sub ht => by cases t <;> cases ht <;> rfl)⟩
  | str s => obtain ⟨z, rfl, _⟩ := h.str; exact ⟨_, .base (.str z), fin _ (fun t => match t with | .str => true | _ => false) (fun t s ht => by cases t <;> cases ht <;> decide +kernel) (fun t s sub ht => by cases t <;> cases ht <;> rfl)⟩
  | tup l => obtain ⟨a, vs, rfl, t1, _, _⟩ := h.tup e; exact ⟨_, tup t1, fin _ (fun t => match t with | .tuple => true | _ => false) (fun t s ht => by cases t <;> cases ht <;> decide +kernel) (fun t s sub ht => by cases t <;> cases ht <;> rfl)⟩
  | lst l => obtain ⟨a, vs, rfl, t1, _⟩ := h.lst e; exact ⟨_, .base (.lst t1), fin _ (fun t => match t with | .list => true | _ => false) (fun t s ht => by cases t <;> cases ht <;> decide +kernel) (fun t s sub ht => by cases t <;> cases ht <;> rfl)⟩
  | dct ks vs => obtain ⟨a, kvs, rfl, t1, _, _⟩ := h.dct e; exact ⟨_, .base (.dK t1), fin _ (fun t => false) (fun t s ht => by cases t <;> cases ht <;> decide +kernel) (fun t s sub ht => by cases t <;> cases ht <;> rfl)⟩
  | scr l => exact (hs l rfl).elim
  | fn f => exact (hf f rfl).elim
  | obj c fs vs =>
    rcases h with h | ⟨p, o, _, _, _, h⟩
    · cases h
    · cases h
  | exc c =>
    rcases h with h | ⟨p, o, _, _, _, h⟩
    · cases h
    · cases h
/-- isinstance(e, T) -/
theorem isi_rd {m : M A} {ts : List Ty} {σ : L2.St} {H : Hp} {Q : VK} (h : tG C.T (RV C.T) C.W (M.bind m fun x => M.bind x.d fun p => M.bind (M.opt (isD C.Pr.sub p ts)) fun b => M.pure (.frz (.bl b))) σ H Q) :
    tG C.T (RA C.T) C.W m σ H fun x H1 => ∃ F p b, Same F H1 ∧ RdR C.T F H1 x p ∧ isD C.Pr.sub p ts = some b ∧ ∀ F' H', Grow F H1 F' H' → Q (.bl b) H' := by
  obtain ⟨F, ρ, h⟩ := h
  refine tG.imp h.one fun x H1 ⟨F1, ρ1, p, r, h1⟩ => ?_
  obtain ⟨b, e, h2⟩ := h1.opt
  exact ⟨F1, p, b, h2.1.sr.sub, r, e, fun F' H' g => h2.val g (.bl b)⟩
theorem isD_ne {sub : Nat → Nat → Bool} {p : D} {ts : List Ty} {b : Bool} (h : isD sub p ts = some b) : (∀ f, p ≠ .fn f) ∧ (∀ l, p ≠ .scr l) ∧ isTys sub p ts = some b := by
  unfold isD at h
  split at h
  · cases h
  · cases h
  · rename_i h1 h2
    exact ⟨fun f z => h1 f z, fun l z => h2 l z, h⟩
theorem RdR.grow {T : Kt} {F H H' : Hp} {x : V} {p : D} (g : Same H H') (h : RdR T F H x p) : RdR T F H' x p := by
  rcases h with h | ⟨q, o, e, h1, h2, h3⟩
  · exact .inl h
  · exact .inr ⟨q, o, e, h1, g _ _ h2, h3⟩
theorem sx_isi1 {t : Ty} {n : PySem.Str} {s : String} {p p2 : Pos} (ha : SX C a x) (ht : tyN t = some s) (hg : Gl C.X "isinstance") (hm : C.X.mg "isinstance" = none) (hg2 : Gl C.X n) (hm2 : C.X.mg n = none) (hv2 : bootBuiltins n = some (.type s)) (hn2 : n ≠ "__name__") (hd2 : (n == ("__debug__" : PySem.Str)) = false)
    (he : starEach [a, .Name n p2] C.X.env = [(false, eval a C.X.env), (false, eval (.Name n p2) C.X.env)]) :
    SX C (.Call (.Name "isinstance" p) [a, .Name n p2] [] pos) (.isi x [t]) :=
  SX.mk' rfl (PE.imp (pe_callB call_isi hg hm rfl (pa_cons ha.o (pa_cons (pe_bltn (v := .ty s) hg2 hm2 hv2 rfl hn2 hd2) pa_nil rfl) he) (by decide) (by decide) he rfl) fun σ H Q h => tG.imp (isi_rd h) fun v H1 ⟨F1, q, b, e, r, hb, k⟩ => by
    obtain ⟨n1, n2, hb⟩ := isD_ne hb
    obtain ⟨nm, ty, hk⟩ := tyX_of e r n1 n2
    obtain ⟨b', e1, e2⟩ := hk t s C.Pr.sub ht
    have hb : (match isTy C.Pr.sub q t with | some true => some true | some false => some false | none => none) = some b := hb
    rw [e1] at hb
    have eb : b' = b := by cases b' <;> simpa using hb
    subst eb
    exact ⟨v, .ty s, _, _, b', rfl, .ty s, C.hK ▸ ty, kit_ty e2, k F1 H1 (Grow.refl e)⟩) rfl fun _ => rfl
theorem sx_isi2 {t t' : Ty} {n n' : PySem.Str} {s s' : String} {p p2 p3 p4 : Pos} {k1} (ha : SX C a x) (ht : tyN t = some s) (ht' : tyN t' = some s') (hg : Gl C.X "isinstance") (hm : C.X.mg "isinstance" = none) (hg2 : Gl C.X n) (hm2 : C.X.mg n = none) (hv2 : bootBuiltins n = some (.type s)) (hn2 : n ≠ "__name__") (hd2 : (n == ("__debug__" : PySem.Str)) = false)
    (hg3 : Gl C.X n') (hm3 : C.X.mg n' = none) (hv3 : bootBuiltins n' = some (.type s')) (hn3 : n' ≠ "__name__") (hd3 : (n' == ("__debug__" : PySem.Str)) = false)
    (he : starEach [a, .Tuple [.Name n p2, .Name n' p3] k1 p4] C.X.env = [(false, eval a C.X.env), (false, eval (.Tuple [.Name n p2, .Name n' p3] k1 p4) C.X.env)]) :
    SX C (.Call (.Name "isinstance" p) [a, .Tuple [.Name n p2, .Name n' p3] k1 p4] [] pos) (.isi x [t, t']) :=
  SX.mk' rfl (PE.imp (pe_callB call_isiT hg hm rfl (pa_cons ha.o (pa_cons (pe_tup (pa_cons (pe_bltn (v := .ty s) hg2 hm2 hv2 rfl hn2 hd2) (pa_cons (pe_bltn (v := .ty s') hg3 hm3 hv3 rfl hn3 hd3) pa_nil rfl) rfl)) pa_nil rfl) he) (by decide) (by decide) he rfl) fun σ H Q h => tG.imp (isi_rd h) fun v H1 ⟨F1, q, b, e, r, hb, k⟩ => by
    refine ⟨by rw [sizeLine_eq]; show 2 ≤ 16777216; decide, fun tp np => ?_⟩
    have g := Grow.own (F := F1) (o := .tup [.ty s, .ty s']) e np
    obtain ⟨n1, n2, hb⟩ := isD_ne hb
    obtain ⟨nm, ty, hk⟩ := tyX_of g.fh (r.grow g.hh) n1 n2
    obtain ⟨b1, e1, e2⟩ := hk t s C.Pr.sub ht
    obtain ⟨b2, e3, e4⟩ := hk t' s' C.Pr.sub ht'
    have hb : (match isTy C.Pr.sub q t with | some true => some true | some false => (match isTy C.Pr.sub q t' with | some true => some true | some false => some false | none => none) | none => none) = some b := hb
    rw [e1, e3] at hb
    refine ⟨v, tp, [.ty s, .ty s'], _, [.type s, .type s'], b, rfl, upd_same, .cons (.ty s) (.cons (.ty s') .nil), C.hK ▸ ty, ?_, k _ _ g⟩
    refine kitAny_cons (kit_ty e2) (fun h1 => kitAny_cons (kit_ty e4) (fun h2 => ?_) fun h2 => ?_) fun h1 => ?_
    · subst h1 h2; cases hb; rfl
    · subst h1 h2; cases hb; rfl
    · subst h1; cases hb; rfl) rfl fun _ => rfl
end
end Dp
end
section
set_option Elab.async false
set_option linter.all false
set_option maxRecDepth 100000
set_option maxHeartbeats 2000000
/-! EN: enumerate of a tuple. -/
namespace PySem
open PySem.Spec PyProof.Rows
set_option maxHeartbeats 4000000 in
theorem meets_enumerate_newT (l : Addr) (items : Array Value) (n : Nat) (dct : Option Addr) (sl : Array (Option Value)) :
    Meets (Builtin.«enumerate.__new__» ⟨[.type "enumerate", .ref l], []⟩) (fun _ R s => s.heap.get? l = some { cls := .type "tuple", dict := dct, data := .seq items n, slots := sl } ∧
      R (.ok (.ret (.ref (s.heap.push { cls := .type "tuple_iterator", data := .fields #[.ref l, .int 0 0] }).objs.size)))
        { s with heap := (s.heap.push { cls := .type "tuple_iterator", data := .fields #[.ref l, .int 0 0] }).push { cls := .type "enumerate", data := .fields #[.none, .bool false, .ref s.heap.objs.size, rawInt 0, .none, .none] } }) :=
  .of_wp fun prog w A R s h => by
    obtain ⟨hp, g, d, tk, os⟩ := s; obtain ⟨hl, h⟩ := h
    have hsub := sub_enumerate
    have hL : Heap.IsTuple (Shared.heap ⟨hp, g, d, tk, os⟩) l items := ⟨_, hl, rfl, n, rfl⟩
    wp_walk using wpAny_loadPart' hl
    refine wpAny_stack_any fun st => wpAny_pure ?_
    split
    · rename_i c _ _ _ _ _
      cases (c == Value.type "enumerate")
      · wp_walk using wpAny_loadPart' hl, wpAny_pyIter_tuple hL
        exact ⟨_, rfl, h⟩
      · wp_walk using wpAny_loadPart' hl, wpAny_pyIter_tuple hL
        exact ⟨_, rfl, h⟩
    · wp_walk using wpAny_loadPart' hl, wpAny_pyIter_tuple hL
      exact ⟨_, rfl, h⟩
section
variable {prog : Program} {w : World} {A : Around} {E : Value → Shared → Prop} {s : Shared}
theorem call_enumerate_tuple {l : Addr} {items : Array Value} {Q : Value → Shared → Prop} (hL : s.heap.IsTuple l items)
    (h : ∀ h', IsEnum h' (s.heap.objs.size + 1) s.heap.objs.size 0 .none → h'.IsTupleIter s.heap.objs.size l 0 → h'.objs.size = s.heap.objs.size + 2 →
      (∀ b o, s.heap.get? b = some o → h'.get? b = some o) → Q (.ref (s.heap.objs.size + 1)) { s with heap := h' }) :
    wpAny (model prog w) A (call (.type "enumerate") [.ref l]) Q E s := by
  obtain ⟨⟨c, dct, dt, sl⟩, hl, hc, n, hd⟩ := hL
  replace hc : c = .type "tuple" := hc
  replace hd : dt = .seq items n := hd
  subst hc hd
  refine callType_new F.called_enumerate (by decide) (F.typeCall_enumerate_1 _) (F.newCall_enumerate_1 _) (fun obj => F.args_object_init_2 obj _) F.entry_enumerate_new
    (meets_enumerate_newT l items n dct sl) ⟨hl, ?_⟩
  have hz : (s.heap.push { cls := .type "tuple_iterator", data := .fields #[.ref l, .int 0 0] }).objs.size = s.heap.objs.size + 1 := Heap.size_push ..
  show _ ∧ _
  rw [hz]
  have he : IsEnum ((s.heap.push { cls := .type "tuple_iterator", data := .fields #[.ref l, .int 0 0] }).push
      { cls := .type "enumerate", data := .fields #[.none, .bool false, .ref s.heap.objs.size, rawInt 0, .none, .none] }) (s.heap.objs.size + 1) s.heap.objs.size 0 .none := by
    have := Heap.get?_push_size (s.heap.push { cls := .type "tuple_iterator", data := .fields #[.ref l, .int 0 0] })
      (o := { cls := .type "enumerate", data := .fields #[.none, .bool false, .ref s.heap.objs.size, rawInt 0, .none, .none] }) rfl
    rw [hz] at this; exact this
  refine ⟨⟨_, he, rfl⟩, h _ he ⟨_, Heap.get?_push_of_some _ (Heap.get?_push_size _ rfl), rfl, rfl⟩ (by rw [Heap.size_push, hz]) fun b o x => Heap.get?_push_of_some _ (Heap.get?_push_of_some _ x)⟩
end
end PySem
end
section
set_option Elab.async false
set_option linter.all false
set_option maxRecDepth 100000
set_option maxHeartbeats 2000000
/-! S11: what loops go through. -/
namespace Dp
open PySem PySem.Spec PyProof.Rows L2

theorem draws_tuple {prog : Program} {w : World} {A : Around} (hh : A.handled = none) (it l : Addr) (hne : l ≠ it) (items : Array Value) :
    Draws prog w A it [it, l] items.size (fun i v => items[i]? = some v) (fun i h => h.IsTupleIter it l i ∧ h.IsTuple l items) where
  live := fun _ _ st => let ⟨o, ho, _⟩ := st.1; ⟨o, ho⟩
  frame := fun _ _ _ st hk => ⟨st.1.at fun o e => hk it (by simp) o e, st.2.at fun o e => hk l (by simp) o e⟩
  item := fun i s Q E hi st hQ => by
    refine RZ.nextOf_tuple_item st.1 st.2 (x := items[i]) (by simp [hi]) fun h' hit' hs' => ?_
    exact hQ _ h' s.toks (by simp [hi]) ⟨hit', st.2.extBut hs'.extBut hne⟩ hs'
  done := fun s Q E st hE => RZ.nextOf_tuple_end hh st.1 st.2 (by simp) hE
/-- the tuple at a, each item in a new pair -/
def IteT (K : PySem.W.Frag) (a : Addr) : L2.It :=
  ⟨fun i H => ∃ (xs : List V) (x : V), SqT K H a xs ∧ xs[i]? = some x, fun i H v H' => ∃ T x, v = .ref T ∧ H T = none ∧ H' = upd H T (.tup [.int (i : Nat), x]) ∧ ∀ xs, SqT K H a xs → xs[i]? = some x, fun i H => ∃ xs : List V, SqT K H a xs ∧ xs.length = i⟩
theorem turn_enumT {P : Program} {w : World} {K : PySem.W.Frag} {elts : List Expr} {kk : Nat} {tpos : Pos} (a e it : Addr) (hai : a ≠ it) :
    Turn P w K (.Tuple elts kk tpos) (IteT K a) [e, it] e (fun i h => (∃ old, IsEnum h e it ((i : Nat) : Int) old) ∧ h.IsTupleIter it a i ∧ e ≠ it ∧ e ≠ a) where
  mem := by simp
  obj := fun i h st b hb => by
    obtain ⟨⟨old, he⟩, ⟨o, ho, hc, hd⟩, _⟩ := st
    have e' : b = e ∨ b = it := by simpa using hb
    rcases e' with z | z
    · rw [z]; exact ⟨_, he, fun v q => nomatch q⟩
    · rw [z]; exact ⟨o, ho, fun v q => by rw [hd] at q; cases q⟩
  keep := fun i h h' st k => let ⟨⟨old, he⟩, hi, hne⟩ := st; ⟨⟨old, k e (by simp) _ he⟩, hi.at fun o q => k it (by simp) o q, hne⟩
  item := by
    intro X hP hw hK hc i pins s σ H E I hf st hg
    subst hP hw hK
    obtain ⟨⟨old, he⟩, hit, hne, hea⟩ := st
    obtain ⟨xs, x, hq, hx⟩ := hg
    obtain ⟨its, rv, p, hz⟩ := I.tuple hq
    obtain ⟨u, hu, ru⟩ := rv.get hx
    have hel : e < s.heap.objs.size := Heap.lt_size he
    have hil : it < s.heap.objs.size := by obtain ⟨_, q, _⟩ := hit; exact Heap.lt_size q
    have hlt : i < its.toArray.size := by
      rcases Nat.lt_or_ge i its.toArray.size with q | q
      · exact q
      · rw [List.size_toArray] at q; rw [List.getElem?_eq_none q] at hu; cases hu
    refine wpAny_pyNext_enum_itemD (draws_tuple (show X.A.in1.handled = none from I.ok.hd hc) it a hai its.toArray) he ⟨hit, p⟩ hlt hne (fun q => by
      rcases List.mem_cons.mp q with q | q
      · exact hne q
      · exact hea (List.mem_singleton.mp q)) fun u' h' tk hP ho hst hT hsz hk => ?_
    have eu : u' = u := by
      have hP : its.toArray[i]? = some u' := hP
      rw [show its.toArray[i]? = its[i]? by simp, hu] at hP
      exact (Option.some.inj hP).symm
    subst eu
    refine ⟨_, rfl, wpAny_letOwnedTupleGo_enum (s := { s with heap := h', toks := tk + 1 }) ho fun h'' he' sb => ?_⟩
    have hT2 : h''.get? s.heap.objs.size = some { cls := .type "tuple", data := .seq #[.int i tk, u'] } := (sb.2 _ (Nat.ne_of_gt hel)).trans hT
    have new : ObjOk X.prog X.w (upd H s.heap.objs.size (.tup [.int (i : Nat), x])) h'' s.heap.objs.size (.tup [.int (i : Nat), x]) :=
      ⟨by show 2 ≤ sizeLine; decide, [.int i tk, u'], .cons ⟨_, rfl⟩ (.cons ru .nil), ⟨_, hT2, rfl, _, rfl⟩⟩
    have I1 : Inv X pins σ (upd H s.heap.objs.size (.tup [.int (i : Nat), x])) { s with heap := h'', toks := tk + 1 } :=
      I.turnedNew (ch := [e, it]) (fun b ob hb q => (sb.2 b (fun z => hb (by simp [z]))).trans (hk b ob (fun z => hb (by simp [z])) (fun z => hb (by simp [z])) q)) hf (Nat.le_refl _) new
    refine ⟨.ref s.heap.objs.size, _, I1, rfl, ⟨_, x, rfl, I.hok.fresh (Nat.le_refl _), rfl, fun ys hy => by rw [I.tuple_inj hy hq]; exact hx⟩, ⟨⟨u', ?_⟩, hst.1.at fun o q => (sb.2 it (Ne.symm hne)).trans q, hne, hea⟩, fun b hb => ?_⟩
    · have e1 : ((i + 1 : Nat) : Int) = (i : Int) + 1 := by omega
      rw [e1]; exact he'
    · have hb' : b < s.heap.objs.size := by
        have e' : b = e ∨ b = it := by simpa using hb
        rcases e' with z | z
        · rw [z]; exact hel
        · rw [z]; exact hil
      rw [upd_ne (Nat.ne_of_lt hb')]
      exact (hf b hb).1
  done := by
    intro X hP hw hK hc i pins s σ H E I hf st hg
    subst hP hw hK
    obtain ⟨⟨old, he⟩, hit, hne, hea⟩ := st
    obtain ⟨xs, hq, hx⟩ := hg
    obtain ⟨its, rv, p, hz⟩ := I.tuple hq
    obtain ⟨f0, f1, f2, f3, f4, f5⟩ := hf it (by simp)
    have hl := rv.length
    have ei : i = its.toArray.size := by rw [List.size_toArray, ← hl, hx]
    exact wpAny_pyNext_enum_endD (draws_tuple (show X.A.in1.handled = none from I.ok.hd hc) it a hai its.toArray) he (by rw [← ei]; exact ⟨hit, p⟩) fun h' eb => ⟨rfl, I.turned (t' := s.toks) (fun b o hb q => eb b o hb q) f0 f1 f3 f4 f5⟩
  self := fun A i s Q E st h => let ⟨⟨_, he⟩, _⟩ := st; wpAny_pyIter_enum he h

/-- J goes through l -/
structure ItOk (T : Kt) (J : L2.It) (F : Hp) (l : List D) : Prop where
  go : ∀ (i : Nat) (d : D) (F' H' : Hp), l[i]? = some d → Same F F' → Same F' H' → J.go i H' ∧ ∀ x H'', J.yld i H' x H'' → ∃ F'', Grow F' H' F'' H'' ∧ Rep T F'' x d
  stop : ∀ (F' H' : Hp), Same F F' → Same F' H' → J.stop l.length H'
abbrev RIt (T : Kt) : Rl L2.It (List D) := fun _ F _ _ J l => ItOk T J F l
section
variable {T : Kt} {F : Hp} {a : Addr} {vs us : List V} {l m : List D}
theorem sqT {K : PySem.W.Frag} {H H' : Hp} {a : Addr} {xs : List V} (e : Same H H') (h : SqT K H a xs) : SqT K H' a xs := SqT.mono e h
theorem it_list (h : F a = some (.lst vs)) (r : RepL T F vs l) : ItOk T (Itl T.K a) F l where
  go := fun i d F' H' e s s' => by
    obtain ⟨x, e1, rx⟩ := r.get e
    have q : SqL T.K H' a vs := .inl (.inl (s' _ _ (s _ _ h)))
    refine ⟨⟨vs, x, q, e1⟩, fun y H'' ⟨eH, ey⟩ => ⟨F', by subst eH; exact Grow.refl s', ?_⟩⟩
    have := ey vs q
    rw [e1] at this
    cases this
    exact rx.mono s
  stop := fun F' H' s s' => ⟨vs, .inl (.inl (s' _ _ (s _ _ h))), by rw [r.length]; exact Nat.le_refl _⟩
theorem it_tup (h : SqT T.K F a vs) (r : RepL T F vs l) : ItOk T (Itt T.K a) F l where
  go := fun i d F' H' e s s' => by
    obtain ⟨x, e1, rx⟩ := r.get e
    have q : SqT T.K H' a vs := sqT s' (sqT s h)
    refine ⟨⟨vs, x, q, e1⟩, fun y H'' ⟨eH, ey⟩ => ⟨F', by subst eH; exact Grow.refl s', ?_⟩⟩
    have := ey vs q
    rw [e1] at this
    cases this
    exact rx.mono s
  stop := fun F' H' s s' => ⟨vs, sqT s' (sqT s h), by rw [r.length]; exact Nat.le_refl _⟩
theorem it_str {z : Str} {s0 : List Nat} (e0 : z.cps.toList = s0) (ok : okL s0 = true) : ItOk T (Its z) F (s0.map fun c => D.str [c]) where
  go := fun i d F' H' e s s' => by
    rw [List.getElem?_map] at e
    obtain ⟨c, ec, rfl⟩ := Option.map_eq_some_iff.mp e
    have ec' : z.cps[i]? = some c := by rw [← e0] at ec; simpa using ec
    have hi : i < z.cps.size := by
      rcases Nat.lt_or_ge i z.cps.size with q | q
      · exact q
      · rw [Array.getElem?_eq_none q] at ec'; cases ec'
    refine ⟨hi, fun y H'' ⟨eH, c', e1, e2⟩ => ⟨F', by subst eH; exact Grow.refl s', ?_⟩⟩
    rw [ec'] at e1
    cases e1
    subst e2
    refine rep_str rfl (by show 1 ≤ 16777216; decide) (okL_sub ok fun b hb => ?_)
    have : b = c := by simpa using hb
    subst this
    exact List.mem_of_getElem? ec
  stop := fun F' H' s s' => by
    show z.cps.size ≤ (s0.map fun c => D.str [c]).length
    rw [List.length_map, ← e0]
    simp
theorem it_rng (lo : Int) (n : Nat) : ItOk T (Itr lo n) F ((List.range n).map fun (k : Nat) => D.int (lo + k)) where
  go := fun i d F' H' e s s' => by
    rw [List.getElem?_map] at e
    obtain ⟨k, ek, rfl⟩ := Option.map_eq_some_iff.mp e
    have hi : i < n := by
      rcases Nat.lt_or_ge i n with q | q
      · exact q
      · rw [List.getElem?_eq_none (by simpa using q)] at ek; cases ek
    have : k = i := by
      rw [List.getElem?_range hi] at ek
      exact (Option.some.inj ek).symm
    subst this
    exact ⟨hi, fun y H'' ⟨eH, e1⟩ => ⟨F', by subst eH; exact Grow.refl s', by subst e1; exact .int _⟩⟩
  stop := fun F' H' s s' => by show n ≤ _; simp
theorem enumD_get : ∀ {l : List D} {n i : Nat} {d : D}, (enumD l n)[i]? = some d → ∃ e, l[i]? = some e ∧ d = .tup [.int (n + i : Nat), e]
  | [], _, _, _, h => by simp [enumD] at h
  | x :: l, n, 0, d, h => by
    simp [enumD] at h
    exact ⟨x, rfl, by rw [← h]; rfl⟩
  | x :: l, n, i + 1, d, h => by
    obtain ⟨e, h1, h2⟩ := enumD_get (l := l) (n := n + 1) (i := i) (d := d) (by simpa [enumD] using h)
    exact ⟨e, by simpa using h1, by rw [h2, show n + 1 + i = n + (i + 1) by omega]⟩
theorem enumD_len : ∀ (l : List D) (n : Nat), (enumD l n).length = l.length
  | [], _ => rfl
  | _ :: l, n => congrArg (· + 1) (enumD_len l (n + 1))
theorem pair_grow {F' H' : Hp} {p : Addr} {x y : V} {d e : D} (s : Same F' H') (np : H' p = none) (rx : Rep T F' x d) (ry : Rep T F' y e) : ∃ F'', Grow F' H' F'' (upd H' p (.tup [x, y])) ∧ Rep T F'' (.ref p) (.tup [d, e]) := by
  have g := Grow.frz (F := F') (o := .tup [x, y]) s np
  exact ⟨_, g, .tup (.inl (.inl upd_same)) (.cons (rx.mono g.ff) (.cons (ry.mono g.ff) .nil))⟩
theorem it_enumL (h : F a = some (.lst vs)) (r : RepL T F vs l) : ItOk T (Ite T.K a) F (enumD l 0) where
  go := fun i d F' H' e s s' => by
    obtain ⟨d', ed, rfl⟩ := enumD_get e
    obtain ⟨x, e1, rx⟩ := r.get ed
    have q : SqL T.K H' a vs := .inl (.inl (s' _ _ (s _ _ h)))
    refine ⟨⟨vs, x, q, e1⟩, fun y H'' ⟨p, z, e2, np, e3, e4⟩ => ?_⟩
    have := e4 vs q
    rw [e1] at this
    cases this
    subst e2 e3
    rw [Nat.zero_add]
    exact pair_grow s' np (.int _) (rx.mono s)
  stop := fun F' H' s s' => ⟨vs, .inl (.inl (s' _ _ (s _ _ h))), by rw [enumD_len, r.length]; exact Nat.le_refl _⟩
theorem it_enumT (h : SqT T.K F a vs) (r : RepL T F vs l) : ItOk T (IteT T.K a) F (enumD l 0) where
  go := fun i d F' H' e s s' => by
    obtain ⟨d', ed, rfl⟩ := enumD_get e
    obtain ⟨x, e1, rx⟩ := r.get ed
    have q : SqT T.K H' a vs := sqT s' (sqT s h)
    refine ⟨⟨vs, x, q, e1⟩, fun y H'' ⟨p, z, e2, np, e3, e4⟩ => ?_⟩
    have := e4 vs q
    rw [e1] at this
    cases this
    subst e2 e3
    rw [Nat.zero_add]
    exact pair_grow s' np (.int _) (rx.mono s)
  stop := fun F' H' s s' => ⟨vs, sqT s' (sqT s h), by rw [enumD_len, r.length]⟩
theorem zipD_get : ∀ {l m : List D} {i : Nat} {d : D}, (zipD l m)[i]? = some d → ∃ e f, l[i]? = some e ∧ m[i]? = some f ∧ d = .tup [e, f]
  | [], _, _, _, h => by simp [zipD] at h
  | _ :: _, [], _, _, h => by simp [zipD] at h
  | x :: l, y :: m, 0, d, h => by
    simp [zipD] at h
    exact ⟨x, y, rfl, rfl, h.symm⟩
  | x :: l, y :: m, i + 1, d, h => by
    obtain ⟨e, f, h1, h2, h3⟩ := zipD_get (l := l) (m := m) (i := i) (d := d) (by simpa [zipD] using h)
    exact ⟨e, f, by simpa using h1, by simpa using h2, h3⟩
theorem zipD_len : ∀ (l m : List D), (zipD l m).length = min l.length m.length
  | [], _ => by simp [zipD]
  | _ :: _, [] => by simp [zipD]
  | _ :: l, _ :: m => by simp [zipD, zipD_len l m]
theorem it_zipL {b : Addr} (h : F a = some (.lst vs)) (r : RepL T F vs l) (h2 : F b = some (.lst us)) (r2 : RepL T F us m) : ItOk T (Itz T.K a b) F (zipD l m) where
  go := fun i d F' H' e s s' => by
    obtain ⟨d1, d2, e1, e2, rfl⟩ := zipD_get e
    obtain ⟨x, ex, rx⟩ := r.get e1
    obtain ⟨y, ey, ry⟩ := r2.get e2
    have q : SqL T.K H' a vs := .inl (.inl (s' _ _ (s _ _ h)))
    have q2 : SqL T.K H' b us := .inl (.inl (s' _ _ (s _ _ h2)))
    refine ⟨⟨vs, us, x, y, q, q2, ex, ey⟩, fun v H'' ⟨p, x', y', f1, np, f2, f3, f4⟩ => ?_⟩
    have g1 := f3 vs q
    have g2 := f4 us q2
    rw [ex] at g1
    rw [ey] at g2
    cases g1
    cases g2
    subst f1 f2
    exact pair_grow s' np (rx.mono s) (ry.mono s)
  stop := fun F' H' s s' => ⟨vs, us, .inl (.inl (s' _ _ (s _ _ h))), .inl (.inl (s' _ _ (s _ _ h2))), by rw [zipD_len, r.length, r2.length]; omega⟩
theorem it_zipT {b : Addr} (h : SqT T.K F a vs) (r : RepL T F vs l) (h2 : SqT T.K F b us) (r2 : RepL T F us m) : ItOk T (RZ.ItzT T.K a b) F (zipD l m) where
  go := fun i d F' H' e s s' => by
    obtain ⟨d1, d2, e1, e2, rfl⟩ := zipD_get e
    obtain ⟨x, ex, rx⟩ := r.get e1
    obtain ⟨y, ey, ry⟩ := r2.get e2
    have q : SqT T.K H' a vs := sqT s' (sqT s h)
    have q2 : SqT T.K H' b us := sqT s' (sqT s h2)
    refine ⟨⟨vs, us, x, y, q, q2, ex, ey⟩, fun v H'' ⟨p, x', y', f1, np, f2, f3, f4⟩ => ?_⟩
    have g1 := f3 vs q
    have g2 := f4 us q2
    rw [ex] at g1
    rw [ey] at g2
    cases g1
    cases g2
    subst f1 f2
    exact pair_grow s' np (rx.mono s) (ry.mono s)
  stop := fun F' H' s s' => ⟨vs, us, sqT s' (sqT s h), sqT s' (sqT s h2), by rw [zipD_len, r.length, r2.length]; omega⟩
end
/-! ### iterables -/
section
variable {C : Cc} {e a b c tg : Expr} {x y z : Ex} {pos p : Pos}
def SI (C : Cc) (tg e : Expr) (t : Dp.It) : Prop := PI C.X tg e fun σ H R => tG C.T (RIt C.T) C.W (evalI C.Pr C.cal t) σ H R
theorem PI.imp {X : Cx} {tg e : Expr} {t t' : TI} (h : PI X tg e t) (k : ∀ σ H Q, t' σ H Q → t σ H Q) : PI X tg e t' := ⟨fun pins s σ H Q I q => h.run pins s σ H Q I (k _ _ _ q)⟩
theorem it_val {pins : List (Addr × Obj)} {σ : L2.St} {F H : Hp} {s : Shared} {R : L2.It → Hp → Prop} {v : V} {u : Value} {d : D} {l : List D} (I : Inv C.X pins σ H s) (rx : RelV v u) (e : Same F H) (r : Rep C.T F v d) (hd : iterI d = some l) (k : ∀ J, ItOk C.T J F l → R J H) :
    wpAny (model C.X.prog C.X.w) C.X.A (pyIter u) (PIE C.X pins σ tg R) C.X.xe s := by
  cases r with
  | @str z hz hk =>
    cases hd
    obtain ⟨t, rfl⟩ := rx
    have q := k _ (it_str (T := C.T) (F := F) rfl (by rw [← strOk_iff]; exact hk))
    cases ha : z.cps.all (· < 128)
    · exact wpAny_pyIter_wide ha (pi_one (tk := s.toks) I _ (turn_str _ z t "str_iterator" (.inr rfl)) ⟨_, Heap.get?_push_size _ rfl, rfl, rfl⟩ q)
    · exact wpAny_pyIter_ascii ha (pi_one (tk := s.toks) I _ (turn_str _ z t "str_ascii_iterator" (.inl rfl)) ⟨_, Heap.get?_push_size _ rfl, rfl, rfl⟩ q)
  | @tup a vs ds h r =>
    cases hd
    obtain rfl : u = Value.ref a := rx
    have q := k _ (it_tup h r)
    rw [← C.hK] at q h
    obtain ⟨its, rv, p, hz⟩ := I.tuple (sqT e h)
    exact wpAny_pyIter_tuple (show s.heap.IsTuple a its.toArray from p) (pi_one (tk := s.toks) I _ (turn_tuple a _) ⟨_, Heap.get?_push_size _ rfl, rfl, rfl⟩ q)
  | @lst a vs ds h r =>
    cases hd
    obtain rfl : u = Value.ref a := rx
    have q := k _ (it_list h r)
    rw [← C.hK] at q
    obtain ⟨its, rv, p, hz⟩ := I.list (.inl (.inl (e _ _ h)))
    exact wpAny_pyIter_list p.isList (pi_one (tk := s.toks) I _ (turn_list a _) ⟨_, Heap.get?_push_size _ rfl, rfl, rfl⟩ q)
  | _ => cases hd
theorem si_ex (h : SX C e x) : SI C tg e (.ex x) := ⟨fun pins s σ H R I ⟨F, ρ, hq⟩ => by
  have hq : tGa C.T F H ρ F ρ (RIt C.T) C.W (M.bind (evB C.Pr C.cal x).1 fun v => M.bind (frzV v) fun d => M.opt (iterI d)) σ H R := hq
  refine thn (h.v.run pins s σ H _ I hq.bind) fun u s1 ⟨v, H1, I1, r1, F1, ρ1, w, P, r, h1⟩ => ?_
  obtain ⟨d, F2, sm, rp, h2⟩ := h1.shr (r.pre fun p e => e)
  obtain ⟨l, e, h3⟩ := h2.optEnd
  exact it_val I1 r1 h3.1.sr.sub rp e fun J ok => h3.ret0 (a := l) ok⟩
theorem si_rng1 {xs : Exs} (hg : Gl C.X "range") (hm : C.X.mg "range" = none) (ha : SAs C 1 [e] xs) (hs : starEach [e] C.X.env = [(false, eval e C.X.env)]) : SI C tg (.Call (.Name "range" p) [e] [] pos) (.rng xs) :=
  PI.imp (pi_range1 hg hm ha hs) fun σ H R ⟨F, ρ, h⟩ => by
    have h : tGa C.T F H ρ F ρ (RIt C.T) C.W (M.bind (evalAs C.Pr C.cal xs) fun as => M.bind (A.ds as) fun ds => match ds with
      | [.int n] => if -(2 ^ 62) ≤ n ∧ n < 2 ^ 62 then M.pure (rngD 0 n) else M.fail
      | [.int a, .int b] => if -(2 ^ 62) ≤ a ∧ a < 2 ^ 62 ∧ -(2 ^ 62) ≤ b ∧ b < 2 ^ 62 then M.pure (rngD a b) else M.fail
      | [.int a, .int b, .int c] => if 0 < c then M.pure (rng3 a b c) else M.fail
      | _ => M.fail) σ H R := h
    refine tG.imp h.bind fun vs H1 ⟨F1, ρ1, as, P, r, h1⟩ => ?_
    obtain ⟨ds, r1, h2⟩ := h1.ds r.1
    have hl := r.2
    cases r1 with
    | nil => cases hl
    | @cons v d _ _ rd rr =>
      cases rr with
      | cons _ _ => simp at hl
      | nil =>
        cases d with
        | int n =>
          obtain rfl := rd.int
          dsimp only at h2
          split at h2
          · rename_i hb
            refine ⟨n, rfl, hb.1, hb.2, h2.ret0 ?_⟩
            have q := it_rng (T := C.T) (F := F1) 0 (n - 0).toNat
            rw [show (n - 0).toNat = n.toNat by simp] at q
            show ItOk C.T (Itr 0 n.toNat) F1 (rngD 0 n)
            unfold rngD
            rw [show (n - 0).toNat = n.toNat by simp]
            exact q
          · exact h2.fail.elim
        | _ => exact h2.fail.elim
theorem si_rng2 {xs : Exs} (hg : Gl C.X "range") (hm : C.X.mg "range" = none) (ha : SAs C 2 [a, b] xs) (hs : starEach [a, b] C.X.env = [(false, eval a C.X.env), (false, eval b C.X.env)]) (hs2 : starEach [b] C.X.env = [(false, eval b C.X.env)]) : SI C tg (.Call (.Name "range" p) [a, b] [] pos) (.rng xs) :=
  PI.imp (pi_range2 hg hm ha hs hs2) fun σ H R ⟨F, ρ, h⟩ => by
    have h : tGa C.T F H ρ F ρ (RIt C.T) C.W (M.bind (evalAs C.Pr C.cal xs) fun as => M.bind (A.ds as) fun ds => match ds with
      | [.int n] => if -(2 ^ 62) ≤ n ∧ n < 2 ^ 62 then M.pure (rngD 0 n) else M.fail
      | [.int a, .int b] => if -(2 ^ 62) ≤ a ∧ a < 2 ^ 62 ∧ -(2 ^ 62) ≤ b ∧ b < 2 ^ 62 then M.pure (rngD a b) else M.fail
      | [.int a, .int b, .int c] => if 0 < c then M.pure (rng3 a b c) else M.fail
      | _ => M.fail) σ H R := h
    refine tG.imp h.bind fun vs H1 ⟨F1, ρ1, as, P, r, h1⟩ => ?_
    obtain ⟨ds, r1, h2⟩ := h1.ds r.1
    have hl := r.2
    cases r1 with
    | nil => cases hl
    | @cons v d _ _ rd rr =>
      cases rr with
      | nil => cases hl
      | @cons v2 d2 _ _ rd2 rr =>
        cases rr with
        | cons _ _ => simp at hl
        | nil =>
          cases d with
          | int n =>
            cases d2 with
            | int m =>
              obtain rfl := rd.int
              obtain rfl := rd2.int
              dsimp only at h2
              split at h2
              · rename_i hb
                exact ⟨n, m, rfl, hb, h2.ret0 (it_rng n (m - n).toNat)⟩
              · exact h2.fail.elim
            | _ => exact h2.fail.elim
          | _ => first | exact h2.fail.elim | (cases d2 <;> exact h2.fail.elim)
theorem si_enum {elts : List Expr} {kk : Nat} {tpos : Pos} (hg : Gl C.X "enumerate") (hm : C.X.mg "enumerate" = none) (ha : SX C e x) (hs : starEach [e] C.X.env = [(false, eval e C.X.env)]) : SI C (.Tuple elts kk tpos) (.Call (.Name "enumerate" p) [e] [] pos) (.enum x) := ⟨fun pins s σ H R I ⟨F, ρ, hq⟩ => by
  have hq : tGa C.T F H ρ F ρ (RIt C.T) C.W (M.bind (evB C.Pr C.cal x).1 fun v => M.bind (frzV v) fun d => M.bind (M.opt (seqD d)) fun l => M.pure (enumD l 0)) σ H R := hq
  refine Call_ (ld_blt I hg hm boot_enumerate (PyProof.Rows.callWith_type1 (thn ((pa_cons ha.v pa_nil hs).run pos pins s σ H (fun vs H1 => ∃ v F1 ρ1 w, vs = [v] ∧ Post C.T F H ρ σ F1 H1 ρ1 ∧ VOk C.T H F1 H1 v w ∧ tGa C.T F H ρ F1 ρ1 (RIt C.T) C.W (M.bind (frzV w) fun d => M.bind (M.opt (seqD d)) fun l => M.pure (enumD l 0)) σ H1 R) I (tG.imp hq.bind fun v H1 ⟨F1, ρ1, w, P, r, h1⟩ => ⟨v, F1, ρ1, w, rfl, P, r, h1⟩)) fun us s1 ⟨vs, H1, I1, r1, v, F1, ρ1, w, ev, P, r, h1⟩ => ?_) hs rfl))
  subst ev
  obtain ⟨d, F2, sm, rp, h2⟩ := h1.shr r
  obtain ⟨l, e, h3⟩ := h2.opt
  have e3 := h3.1.sr.sub
  have hfp : ∀ b ∈ [s1.heap.objs.size + 1, s1.heap.objs.size], FpOk C.X pins H1 b := fun b hb => by
    have e' : b = s1.heap.objs.size + 1 ∨ b = s1.heap.objs.size := by simpa using hb
    have hle : s1.heap.objs.size ≤ b := by
      rcases e' with z | z
      · rw [z]; exact Nat.le_add_right _ _
      · rw [z]; exact Nat.le_refl _
    exact I1.fpOk hle (I1.hok.fresh hle)
  cases r1 with
  | cons rv rr =>
    cases rr
    cases rp with
    | @lst a vs ds hh rr =>
      cases e
      cases rv
      obtain ⟨its, rv, p', hz⟩ := I1.list (.inl (.inl (e3 _ _ hh)))
      refine call_enumerate_list p'.isList fun h' he hit hsz hk => wpAny_pyIter_enum he ?_
      have I2 : Inv C.X pins σ H1 { s1 with heap := h' } := I1.kept (t' := s1.toks) hk
      have q := h3.ret0 (a := enumD l 0) (it_enumL hh rr)
      rw [← C.hK] at q
      exact ⟨s1.heap.objs.size + 1, [s1.heap.objs.size + 1, s1.heap.objs.size], _, _, H1, rfl, I2, turn_enum a (s1.heap.objs.size + 1) s1.heap.objs.size, ⟨⟨.none, he⟩, hit, Nat.succ_ne_self _⟩, hfp, q⟩
    | @tup a vs ds hh rr =>
      cases e
      cases rv
      obtain ⟨its, rv, p', hz⟩ := I1.tuple (C.hK ▸ sqT e3 hh)
      have la : a < s1.heap.objs.size := by obtain ⟨o, ho, _⟩ := p'; exact Heap.lt_size ho
      refine call_enumerate_tuple p' fun h' he hit hsz hk => wpAny_pyIter_enum he ?_
      have I2 : Inv C.X pins σ H1 { s1 with heap := h' } := I1.kept (t' := s1.toks) hk
      have q := h3.ret0 (a := enumD l 0) (it_enumT hh rr)
      rw [← C.hK] at q
      exact ⟨s1.heap.objs.size + 1, [s1.heap.objs.size + 1, s1.heap.objs.size], _, _, H1, rfl, I2, turn_enumT a (s1.heap.objs.size + 1) s1.heap.objs.size (Nat.ne_of_lt la), ⟨⟨.none, he⟩, hit, Nat.succ_ne_self _, Nat.ne_of_gt (Nat.lt_succ_of_lt la)⟩, hfp, q⟩
    | _ => cases e⟩
theorem si_zip {xs : Exs} {elts : List Expr} {kk : Nat} {tpos : Pos} (hg : Gl C.X "zip") (hm : C.X.mg "zip" = none) (ha : SEs C 2 [a, b] xs)
    (hs : starEach [a, b] C.X.env = (false, eval a C.X.env) :: starEach [b] C.X.env) (hpl : (backTo pos (starEach [b] C.X.env)).any (·.1) = false) : SI C (.Tuple elts kk tpos) (.Call (.Name "zip" p) [a, b] [] pos) (.zip xs) :=
  PI.imp (RZ.pi_zipA hg hm ha hs hpl) fun σ H R ⟨F, ρ, h⟩ => by
    have h : tGa C.T F H ρ F ρ (RIt C.T) C.W (M.bind (evalEs C.Pr C.cal xs) fun ds => match ds with
      | [d, e] => M.opt (zipI d e)
      | _ => M.fail) σ H R := h
    refine tG.imp h.bind fun vs H1 ⟨F1, ρ1, ds, P, r, h1⟩ => ?_
    have hl := r.2
    cases r.1 with
    | nil => cases hl
    | cons rd rr =>
      cases rr with
      | nil => cases hl
      | cons rd2 rr =>
        cases rr with
        | cons _ _ => simp at hl
        | nil =>
          obtain ⟨l, e, h2⟩ := h1.optEnd
          cases rd with
          | @lst p vs l1 hh r1 =>
            cases rd2 with
            | @lst q us l2 hh2 r2 =>
              cases e
              refine ⟨p, q, vs, us, rfl, .inl ⟨.inl (.inl (h2.1.sr.sub _ _ hh)), .inl (.inl (h2.1.sr.sub _ _ hh2)), ?_⟩⟩
              rw [C.hK]
              exact h2.ret0 (it_zipL hh r1 hh2 r2)
            | _ => cases e
          | @tup p vs l1 hh r1 =>
            cases rd2 with
            | @tup q us l2 hh2 r2 =>
              cases e
              refine ⟨p, q, vs, us, rfl, .inr ⟨C.hK ▸ sqT h2.1.sr.sub hh, C.hK ▸ sqT h2.1.sr.sub hh2, ?_⟩⟩
              rw [C.hK]
              exact h2.ret0 (it_zipT hh r1 hh2 r2)
            | _ => cases e
          | _ => cases rd2 <;> cases e
end
end Dp
end
section
set_option Elab.async false
set_option linter.all false
set_option maxRecDepth 100000
set_option maxHeartbeats 2000000
/-! S12: targets; blocks of their own names. -/
namespace Dp
open PySem PySem.Spec PyProof.Rows L2

/-! ### slots forgotten, given back -/
theorem wipe_len : ∀ (own : List Nat) (ρ : Dp.Env), (wipe ρ own).length = ρ.length
  | [], _ => rfl
  | i :: r, ρ => by
    show (wipe (ρ.set i none) r).length = _
    rw [wipe_len r, List.length_set]
theorem getS_out {i : Nat} {ρ : Dp.Env} (h : ¬ i < ρ.length) : getS i ρ = none := by
  unfold getS
  rw [List.getElem?_eq_none (by omega)]
theorem getS_wipe : ∀ (own : List Nat) (ρ : Dp.Env) (j : Nat), getS j (wipe ρ own) = if j ∈ own then none else getS j ρ
  | [], _, _ => by simp [wipe]
  | i :: r, ρ, j => by
    show getS j (wipe (ρ.set i none) r) = _
    rw [getS_wipe r]
    by_cases hr : j ∈ r
    · rw [if_pos hr, if_pos (List.mem_cons_of_mem _ hr)]
    · rw [if_neg hr]
      by_cases hi : i < ρ.length
      · rw [getS_set hi]
        by_cases e : j = i
        · rw [if_pos e, if_pos (by rw [e]; exact List.mem_cons_self)]
        · rw [if_neg e, if_neg (by simp only [List.mem_cons, not_or]; exact ⟨e, hr⟩)]
      · rw [List.set_eq_of_length_le (by omega)]
        by_cases e : j = i
        · rw [if_pos (by rw [e]; exact List.mem_cons_self)]
          exact getS_out (by omega)
        · rw [if_neg (by simp only [List.mem_cons, not_or]; exact ⟨e, hr⟩)]
theorem back_len (ρ0 : Dp.Env) : ∀ (own : List Nat) (ρ : Dp.Env), (back ρ0 ρ own).length = ρ.length
  | [], _ => rfl
  | i :: r, ρ => by
    show (back ρ0 (ρ.set i _) r).length = _
    rw [back_len ρ0 r, List.length_set]
theorem getS_back (ρ0 : Dp.Env) : ∀ (own : List Nat) (ρ : Dp.Env) (j : Nat), ρ.length = ρ0.length → getS j (back ρ0 ρ own) = if j ∈ own then getS j ρ0 else getS j ρ
  | [], _, _, _ => by simp [back]
  | i :: r, ρ, j, hl => by
    show getS j (back ρ0 (ρ.set i (match ρ0[i]? with | some v => v | none => none)) r) = _
    rw [getS_back ρ0 r _ j (by rw [List.length_set]; exact hl)]
    by_cases hr : j ∈ r
    · rw [if_pos hr, if_pos (List.mem_cons_of_mem _ hr)]
    · rw [if_neg hr]
      by_cases hi : i < ρ.length
      · rw [getS_set hi]
        by_cases e : j = i
        · rw [if_pos e, if_pos (by rw [e]; exact List.mem_cons_self), e]
          unfold getS
          rw [List.getElem?_eq_getElem (by omega : i < ρ0.length)]
          dsimp only
          cases ρ0[i] <;> rfl
        · rw [if_neg e, if_neg (by simp only [List.mem_cons, not_or]; exact ⟨e, hr⟩)]
      · rw [List.set_eq_of_length_le (by omega)]
        by_cases e : j = i
        · rw [if_pos (by rw [e]; exact List.mem_cons_self), getS_out (by omega), getS_out (by omega)]
        · rw [if_neg (by simp only [List.mem_cons, not_or]; exact ⟨e, hr⟩)]
theorem wipeS_ne : ∀ (vs : List Nat) (σ : L2.St) (j : Nat), j ∉ vs → (L2.wipe σ vs)[j]? = σ[j]?
  | [], _, _, _ => rfl
  | v :: r, σ, j, h => by
    simp only [List.mem_cons, not_or] at h
    show ((L2.wipe σ r).set v none)[j]? = _
    rw [List.getElem?_set_ne (Ne.symm h.1), wipeS_ne r σ j h.2]
section
variable {T : Kt} {F H F' H' : Hp} {ρ ρ' : Dp.Env} {σ : L2.St} {own : List Nat}
theorem getS_wipe_some {j : Nat} {v : Vl} (h : getS j (wipe ρ own) = some v) : j ∉ own ∧ getS j ρ = some v := by
  rw [getS_wipe] at h
  split at h
  · cases h
  · rename_i q; exact ⟨q, h⟩
theorem slot_ne {i : Nat} {v : Vl} {σ' : L2.St} (e : σ'[i]? = σ[i]?) (h : SlotOk T F H σ i v) : SlotOk T F H σ' i v := by
  cases v with
  | frz d => obtain ⟨x, a, b⟩ := h; exact ⟨x, by rw [e]; exact a, b⟩
  | own d => obtain ⟨p, o, a, b⟩ := h; exact ⟨p, o, by rw [e]; exact a, b⟩
  | clo _ _ => exact h
  | lam _ => exact h
theorem SR.wipe (s : SR T F H ρ σ) : SR T F H (Dp.wipe ρ own) (L2.wipe σ own) where
  sub := s.sub
  len := by rw [wipe_len, L2.wipe_length]; exact s.len
  slot := fun i v e => by
    obtain ⟨h1, h2⟩ := getS_wipe_some e
    exact slot_ne (wipeS_ne own σ i h1) (s.slot i v h2)
  apart := fun i j d e p h1 h2 h3 h4 => by
    obtain ⟨k1, k2⟩ := getS_wipe_some h1
    obtain ⟨k3, k4⟩ := getS_wipe_some h2
    rw [wipeS_ne own σ i k1] at h3
    rw [wipeS_ne own σ j k3] at h4
    exact s.apart i j d e p k2 k4 h3 h4
  tabs := s.tabs
  ft := s.ft
theorem ownAt_wipe {p : Addr} (h : OwnAt (Dp.wipe ρ own) (L2.wipe σ own) p) : OwnAt ρ σ p := by
  obtain ⟨i, d, h1, h2⟩ := h
  obtain ⟨k1, k2⟩ := getS_wipe_some h1
  rw [wipeS_ne own σ i k1] at h2
  exact ⟨i, d, k2, h2⟩
theorem Post.wipe (P : Post T F H ρ σ F' H' ρ') (hn : ∀ j ∈ own, ∀ d, getS j ρ ≠ some (.own d)) : Post T F H (Dp.wipe ρ own) (L2.wipe σ own) F' H' (Dp.wipe ρ' own) where
  s0 := P.s0.wipe
  sr := P.sr.wipe
  gr := P.gr
  fr := fun p o h1 h2 h3 h4 => P.fr p o h1 h2 h3 fun ⟨i, d, e1, e2⟩ => h4 ⟨i, d, by
    rw [getS_wipe, if_neg fun q => hn i q d e1]; exact e1, by rw [wipeS_ne own σ i fun q => hn i q d e1]; exact e2⟩
  os := fun i d e => by
    obtain ⟨k1, k2⟩ := getS_wipe_some e
    obtain ⟨d', e'⟩ := P.os i d k2
    exact ⟨d', by rw [getS_wipe, if_neg k1]; exact e'⟩
  th := P.th
theorem Post.back {ρ1 : Dp.Env} (s : SR T F H ρ1 σ) (P : Post T F H (Dp.wipe ρ1 own) (L2.wipe σ own) F' H' (Dp.wipe ρ own)) : Post T F H ρ1 σ F' H' (Dp.back ρ1 ρ own) := by
  have hl : ρ.length = ρ1.length := by
    have h1 := P.sr.len
    have h2 := s.len
    rw [wipe_len, L2.wipe_length] at h1
    omega
  have key : ∀ j v, getS j (Dp.back ρ1 ρ own) = some v → (j ∈ own ∧ getS j ρ1 = some v) ∨ (j ∉ own ∧ getS j ρ = some v) := fun j v e => by
    rw [getS_back ρ1 own ρ j hl] at e
    split at e
    · rename_i q; exact .inl ⟨q, e⟩
    · rename_i q; exact .inr ⟨q, e⟩
  have stay : ∀ j ∈ own, ∀ d p o, getS j ρ1 = some (.own d) → σ[j]? = some (some (.ref p)) → F p = none → H p = some o → OwnR T F o d → F' p = none ∧ H' p = some o := fun j hj d p o e1 e2 e3 e4 e5 =>
    P.fr p o e3 e4 e5.noTbl fun ⟨i, d', k1, k2⟩ => by
      obtain ⟨k3, k4⟩ := getS_wipe_some k1
      rw [wipeS_ne own σ i k3] at k2
      exact k3 (by rw [s.apart i j _ _ p k4 e1 k2 e2]; exact hj)
  have ownB : ∀ i d, getS i (Dp.back ρ1 ρ own) = some (.own d) → ∃ e, getS i ρ1 = some (.own e) := fun i d e => by
    rcases key i _ e with ⟨_, k⟩ | ⟨k0, k⟩
    · exact ⟨d, k⟩
    · obtain ⟨d', e'⟩ := P.os i d (by rw [getS_wipe, if_neg k0]; exact k)
      exact ⟨d', (getS_wipe_some e').2⟩
  refine ⟨s, ⟨P.sr.sub, by rw [back_len, hl]; exact s.len, fun i v e => ?_, fun i j d e p h1 h2 h3 h4 => ?_, P.sr.tabs, P.sr.ft⟩, P.gr, fun p o h1 h2 h3 h4 => P.fr p o h1 h2 h3 fun q => h4 (ownAt_wipe q), ownB, P.th⟩
  · rcases key i v e with ⟨k0, k⟩ | ⟨k0, k⟩
    · have q := s.slot i v k
      cases v with
      | frz d => obtain ⟨x, a, b⟩ := q; exact ⟨x, a, b.mono P.gr⟩
      | own d =>
        obtain ⟨p, o, a, b, c, r⟩ := q
        obtain ⟨m1, m2⟩ := stay i k0 d p o k a b c r
        exact ⟨p, o, a, m1, m2, r.mono P.gr⟩
      | clo _ _ => exact q
      | lam _ => exact q
    · exact slot_ne (wipeS_ne own σ i k0).symm (P.sr.slot i v (by rw [getS_wipe, if_neg k0]; exact k))
  · obtain ⟨d', e1⟩ := ownB i d h1
    obtain ⟨d2, e2⟩ := ownB j e h2
    exact s.apart i j d' d2 p e1 e2 h3 h4
end

/-! ### targets -/
def tgIx : Tg → List Nat
  | .name i => [i]
  | .tup is => is
def gNames : List Nat → TGs
  | [] => gNil
  | i :: r => gCons (gName i) (gNames r)
def gOf (K : PySem.W.Frag) : Tg → TG
  | .name i => gName i
  | .tup is => gTup K is.length (gNames is)
/-- behind a store of shared values -/
structure AsgS (T : Kt) (F H : Hp) (lk : List Nat) (is : List Nat) (ρ : Dp.Env) (σ : L2.St) (ρ' : Dp.Env) (σ' : L2.St) : Prop where
  sr : SR T F H ρ' σ'
  ne : ∀ j, j ∉ is → σ'[j]? = σ[j]? ∧ getS j ρ' = getS j ρ
  own : ∀ j d, getS j ρ' = some (.own d) → j ∉ is
  lk : ∀ j ∈ is, j ∉ lk
theorem AsgS.refl {T : Kt} {F H : Hp} {lk : List Nat} {ρ : Dp.Env} {σ : L2.St} (s : SR T F H ρ σ) : AsgS T F H lk [] ρ σ ρ σ := ⟨s, fun _ _ => ⟨rfl, rfl⟩, fun _ _ _ h => (nomatch h), fun _ h => (nomatch h)⟩
theorem SR.put {T : Kt} {F H : Hp} {ρ : Dp.Env} {σ : L2.St} {i : Nat} {v : V} {d : D} (s : SR T F H ρ σ) (r : Rep T F v d) (hi : i < ρ.length) : SR T F H (ρ.set i (some (.frz d))) (σ.set i (some v)) where
  sub := s.sub
  len := by rw [List.length_set, List.length_set]; exact s.len
  slot := fun j w e => by
    rw [getS_set hi] at e
    by_cases ej : j = i
    · rw [if_pos ej] at e
      cases e
      subst ej
      exact ⟨v, List.getElem?_set_self (by rw [← s.len]; exact hi), r⟩
    · rw [if_neg ej] at e
      exact slot_ne (List.getElem?_set_ne (Ne.symm ej)) (s.slot j w e)
  apart := fun j k d1 d2 p h1 h2 h3 h4 => by
    rw [getS_set hi] at h1 h2
    by_cases ej : j = i
    · rw [if_pos ej] at h1; cases h1
    · by_cases ek : k = i
      · rw [if_pos ek] at h2; cases h2
      · rw [if_neg ej] at h1
        rw [if_neg ek] at h2
        rw [List.getElem?_set_ne (Ne.symm ej)] at h3
        rw [List.getElem?_set_ne (Ne.symm ek)] at h4
        exact s.apart j k d1 d2 p h1 h2 h3 h4
  tabs := s.tabs
  ft := s.ft
theorem setK_ok {lk : List Nat} {i : Nat} {v : Option Vl} {ρ ρ' : Dp.Env} {u : Unit} (h : setK lk i v ρ = some (.ok u, ρ')) : i ∉ lk ∧ i < ρ.length ∧ ρ' = ρ.set i v := by
  unfold setK at h
  split at h
  · cases h
  · split at h
    · rename_i h1 h2
      cases h
      exact ⟨h1, h2, rfl⟩
    · cases h
theorem setK_res {lk : List Nat} {i : Nat} {v : Option Vl} {ρ ρ' : Dp.Env} {r : Res Unit} (h : setK lk i v ρ = some (r, ρ')) : r = .ok () := by
  unfold setK at h
  split at h
  · cases h
  · split at h
    · cases h; rfl
    · cases h
theorem asg1 {T : Kt} {F H : Hp} {lk : List Nat} {ρ ρ' : Dp.Env} {σ : L2.St} {i : Nat} {v : V} {d : D} {u : Unit} (s : SR T F H ρ σ) (r : Rep T F v d) (h : setK lk i (some (.frz d)) ρ = some (.ok u, ρ')) : AsgS T F H lk [i] ρ σ ρ' (σ.set i (some v)) := by
  obtain ⟨h1, h2, rfl⟩ := setK_ok h
  refine ⟨s.put r h2, fun j hj => ?_, fun j d' e => ?_, fun j hj => by rw [List.mem_singleton.mp hj]; exact h1⟩
  · have : j ≠ i := fun e => hj (by rw [e]; exact List.mem_singleton.mpr rfl)
    exact ⟨List.getElem?_set_ne (Ne.symm this), by rw [getS_set h2, if_neg this]⟩
  · intro hj
    rw [List.mem_singleton.mp hj, getS_set h2, if_pos rfl] at e
    cases e
theorem AsgS.trans {T : Kt} {F H : Hp} {lk is js : List Nat} {ρ ρ1 ρ2 : Dp.Env} {σ σ1 σ2 : L2.St} (a : AsgS T F H lk is ρ σ ρ1 σ1) (b : AsgS T F H lk js ρ1 σ1 ρ2 σ2) : AsgS T F H lk (is ++ js) ρ σ ρ2 σ2 where
  sr := b.sr
  ne := fun j hj => by
    simp only [List.mem_append, not_or] at hj
    obtain ⟨a1, a2⟩ := a.ne j hj.1
    obtain ⟨b1, b2⟩ := b.ne j hj.2
    exact ⟨b1.trans a1, b2.trans a2⟩
  own := fun j d e hj => by
    have h2 := b.own j d e
    rcases List.mem_append.mp hj with q | q
    · rw [(b.ne j h2).2] at e
      exact a.own j d e q
    · exact h2 q
  lk := fun j hj => by
    rcases List.mem_append.mp hj with q | q
    · exact a.lk j q
    · exact b.lk j q
theorem asgN_run {T : Kt} {F H : Hp} {lk : List Nat} : ∀ {is : List Nat} {ds : List D} {vs : List V} {ρ ρ' : Dp.Env} {σ : L2.St} {u : Unit} {Q : L2.St → Hp → Prop}, SR T F H ρ σ → RepL T F vs ds → asgN lk is ds ρ = some (.ok u, ρ') →
    (∀ σ', AsgS T F H lk is ρ σ ρ' σ' → Q σ' H) → is.length = vs.length ∧ gNames is vs σ H Q
  | [], [], _, ρ, ρ', σ, u, Q, s, .nil, h, k => by
    cases h
    exact ⟨rfl, rfl, k σ (AsgS.refl s)⟩
  | [], _ :: _, _, _, _, _, _, _, _, _, h, _ => by cases h
  | _ :: _, [], _, _, _, _, _, _, _, _, h, _ => by cases h
  | i :: is, d :: ds, _, ρ, ρ', σ, u, Q, s, .cons (x := x) (xs := xs) r q, h, k => by
    have h : M.bind (setK lk i (some (.frz d))) (fun _ => asgN lk is ds) ρ = some (.ok u, ρ') := h
    cases e : setK lk i (some (.frz d)) ρ with
    | none => rw [M.bind_none e] at h; cases h
    | some p =>
      obtain ⟨r1, ρ1⟩ := p
      have hr := setK_res e
      subst hr
      rw [M.bind_ok e] at h
      have a := asg1 s r e
      obtain ⟨h1, h2⟩ := asgN_run (Q := Q) a.sr q h fun σ' b => k σ' (AsgS.trans a b)
      exact ⟨by rw [List.length_cons, List.length_cons, h1], x, xs, rfl, h2⟩
theorem gOf_run {T : Kt} {F H : Hp} {lk : List Nat} {t : Tg} {d : D} {v : V} {ρ ρ' : Dp.Env} {σ : L2.St} {u : Unit} {K : PySem.W.Frag} {Q : L2.St → Hp → Prop} (hK : K = T.K) (s : SR T F H ρ σ) (r : Rep T F v d) (h : asgT lk t d ρ = some (.ok u, ρ'))
    (k : ∀ σ', AsgS T F H lk (tgIx t) ρ σ ρ' σ' → Q σ' H) : gOf K t v σ H Q := by
  cases t with
  | name i => exact k _ (asg1 s r h)
  | tup is =>
    cases r with
    | @tup a vs ds hh rr =>
      obtain ⟨h1, h2⟩ := asgN_run s rr h k
      exact ⟨a, vs, rfl, hK ▸ sqT s.sub hh, h1.symm, h2⟩
    | _ => cases h
theorem asgN_res {lk : List Nat} : ∀ {is : List Nat} {ds : List D} {ρ ρ' : Dp.Env} {r : Res Unit}, asgN lk is ds ρ = some (r, ρ') → r = .ok ()
  | [], [], _, _, _, h => by cases h; rfl
  | [], _ :: _, _, _, _, h => by cases h
  | _ :: _, [], _, _, _, h => by cases h
  | i :: is, d :: ds, ρ, ρ', r, h => by
    have h : M.bind (setK lk i (some (.frz d))) (fun _ => asgN lk is ds) ρ = some (r, ρ') := h
    cases e : setK lk i (some (.frz d)) ρ with
    | none => rw [M.bind_none e] at h; cases h
    | some p =>
      obtain ⟨r1, ρ1⟩ := p
      have hr := setK_res e
      subst hr
      rw [M.bind_ok e] at h
      exact asgN_res h
theorem asgT_res {lk : List Nat} {t : Tg} {d : D} {ρ ρ' : Dp.Env} {r : Res Unit} (h : asgT lk t d ρ = some (r, ρ')) : r = .ok () := by
  cases t with
  | name i => exact setK_res h
  | tup is => cases d with
    | tup ds => exact asgN_res h
    | _ => cases h
section
variable {C : Cc} {e : Expr} {pos : Pos}
def STg (C : Cc) (tg : Expr) (t : Tg) : Prop := PG C.X tg (gOf C.X.K t)
theorem stg_name {nm : PySem.Str} (i : Nat) (hn : C.X.N[i]? = some nm) (hv : Loc C.X.env.scope nm) (hf : C.X.fn nm = true ∨ C.X.env.scope.names.lookup nm = some .local) : STg C (.Name nm pos) (.name i) := pg_name C.hN hn hv hf
def STs (C : Cc) (es : List Expr) (is : List Nat) : Prop := PGs C.X es (gNames is)
theorem sts_nil : STs C [] [] := pgs_nil
theorem sts_cons {nm : PySem.Str} {es : List Expr} {is : List Nat} (i : Nat) (hn : C.X.N[i]? = some nm) (hv : Loc C.X.env.scope nm) (hf : C.X.fn nm = true ∨ C.X.env.scope.names.lookup nm = some .local) (hr : STs C es is)
    (hs : (assignEach (.Name nm pos :: es) C.X.env).map (·.2) = assign (.Name nm pos) C.X.env :: (assignEach es C.X.env).map (·.2)) : STs C (.Name nm pos :: es) (i :: is) := pgs_cons (pg_name C.hN hn hv hf) hr hs
theorem stg_tup {es : List Expr} {is : List Nat} {k : Nat} (h : STs C es is) (hn : (assignEach es C.X.env).length = is.length) (hst : (assignEach es C.X.env).findIdx? (·.1) = none) : STg C (.Tuple es k pos) (.tup is) := pg_tup C.calm h hn hst
end
end Dp
end
section
set_option Elab.async false
set_option linter.all false
set_option maxRecDepth 100000
set_option maxHeartbeats 2000000
/-! S13: list comprehensions. -/
namespace Dp
open PySem PySem.Spec PyProof.Rows L2

abbrev W0 : WX := fun _ _ _ _ => False
/-- the context of a block -/
def Cc.blk (C : Cc) (s : Shared) (H : Hp) (scope : Scope) (A : Addr) (cl : List (PySem.Str × Addr)) (fp : List Addr) : Cc := { C with X := C.X.blk s H scope (compEnvC scope cl A C.X.env) fp, W := W0 }
/-- conditions -/
def STts (C : Cc) (es : List Expr) (xs : Exs) : Prop := PTs C.X es (tG C.T RB C.W (testAll C.Pr C.cal xs))
section
variable {C : Cc} {c : Expr} {x : Ex}
theorem PTs.imp {X : Cx} {es : List Expr} {t t' : TT} (h : PTs X es t) (k : ∀ σ H Q, t' σ H Q → t σ H Q) : PTs X es t' := ⟨fun pins s σ H Q I q => h.run pins s σ H Q I (k _ _ _ q)⟩
theorem sts_none : STts C [] .nil := PTs.imp pts_nil fun σ H Q ⟨F, ρ, h⟩ => tGa.ret0 (a := true) h rfl
theorem sts_one (h : ST C c x) : STts C [c] (.cons x .nil) := PTs.imp (pts_one h) fun σ H Q ⟨F, ρ, h⟩ => by
  have h : tGa C.T F H ρ F ρ RB C.W (M.bind (evB C.Pr C.cal x).2 fun t => if t then M.pure true else M.pure false) σ H Q := h
  refine tG.imp h.bind fun b H1 ⟨F1, ρ1, b', P, r, h1⟩ => ?_
  subst r
  cases b with
  | true => exact h1.ret0 (a := true) rfl
  | false => exact h1.ret0 (a := false) rfl
end
section
variable {α β : Type}
theorem M.bind_some {m : M α} {f : α → M β} {ρ ρ' : Dp.Env} {b : β} (h : M.bind m f ρ = some (.ok b, ρ')) : ∃ a ρ1, m ρ = some (.ok a, ρ1) ∧ f a ρ1 = some (.ok b, ρ') := by
  unfold M.bind at h
  cases e : m ρ with
  | none => rw [e] at h; cases h
  | some p =>
    obtain ⟨r, ρ1⟩ := p
    rw [e] at h
    cases r with
    | ok a => exact ⟨a, ρ1, rfl, h⟩
    | err c => cases h
theorem M.opt_some {o : Option α} {ρ ρ' : Dp.Env} {a : α} (h : M.opt o ρ = some (.ok a, ρ')) : o = some a ∧ ρ' = ρ := by
  unfold M.opt at h
  cases o with
  | none => cases h
  | some b => cases h; exact ⟨rfl, rfl⟩
end
theorem inBlk_some {α : Type} {own : List Nat} {m : M α} {ρ ρ' : Dp.Env} {r : Res α} (h : inBlk own m ρ = some (r, ρ')) : ∃ a ρ1, r = .ok a ∧ m ρ = some (.ok a, ρ1) ∧ ρ' = back ρ ρ1 own := by
  unfold inBlk at h
  cases e : m ρ with
  | none => rw [e] at h; cases h
  | some p =>
    obtain ⟨r1, ρ1⟩ := p
    rw [e] at h
    cases r1 with
    | ok a => cases h; exact ⟨a, ρ1, rfl, rfl, rfl⟩
    | err c => cases h
theorem Post.priv {T : Kt} {F0 H0 F H : Hp} {ρ0 ρ : Dp.Env} {σ : L2.St} {p : Addr} {o o' : HO} (P : Post T F0 H0 ρ0 σ F H ρ) (h0 : H0 p = none) (hF : F p = none) (hH : H p = some o) (n1 : ∀ ps, o ≠ .tbl ps) (n2 : ∀ c nm, o ≠ LamX.CodeO c nm) : Post T F0 H0 ρ0 σ F (upd H p o') ρ where
  s0 := P.s0
  sr := {
    sub := fun b u e => by
      rw [upd_ne fun z => by rw [z, hF] at e; cases e]
      exact P.sr.sub b u e
    len := P.sr.len
    slot := fun i v e => by
      have q := P.sr.slot i v e
      cases v with
      | frz d => exact q
      | own d =>
        obtain ⟨p', u, a, b, c, r⟩ := q
        refine ⟨p', u, a, b, ?_, r⟩
        rw [upd_ne fun z => ?_]
        · exact c
        · obtain ⟨w, hw⟩ := P.s0.ownThere (P.ownBack ⟨i, d, e, a⟩)
          rw [z, h0] at hw
          cases hw
      | clo _ _ => exact q
      | lam _ => exact q
    apart := P.sr.apart
    tabs := tabs_upd P.sr.tabs hH n1 n2
    ft := P.sr.ft }
  gr := P.gr
  fr := fun q u h1 h2 h3 h4 => by
    obtain ⟨a, b⟩ := P.fr q u h1 h2 h3 h4
    refine ⟨a, ?_⟩
    rw [upd_ne fun z => by rw [z, h0] at h2; cases h2]
    exact b
  os := P.os
  th := fun q e => by
    by_cases hq : q = p
    · subst hq; rw [upd_same] at e; cases e
    · rw [upd_ne hq] at e; exact P.th q e
theorem Post.newOwn {T : Kt} {F H : Hp} {ρ : Dp.Env} {σ : L2.St} {p : Addr} {o : HO} (s : SR T F H ρ σ) (np : H p = none) : Post T F H ρ σ F (upd H p o) ρ := Post.of_grow s (Grow.own s.sub np)
/-- the run of a comprehension's loop -/
theorem compL_cons {own : List Nat} {elt : M D} {asg : D → M Unit} {tst : M Bool} {x : D} {r acc ds : List D} {ρ ρ' : Dp.Env} (h : compL own elt asg tst (x :: r) acc ρ = some (.ok ds, ρ')) :
    ∃ ρ2 ρ3 b, asg x (wipe ρ own) = some (.ok (), ρ2) ∧ tst ρ2 = some (.ok b, ρ3) ∧
      (b = true → ∃ d ρ4, elt ρ3 = some (.ok d, ρ4) ∧ acc.length < LIM ∧ compL own elt asg tst r (acc ++ [d]) ρ4 = some (.ok ds, ρ')) ∧ (b = false → compL own elt asg tst r acc ρ3 = some (.ok ds, ρ')) := by
  have h : M.bind (wipeM own) (fun _ => M.bind (asg x) fun _ => M.bind tst fun b => if b then M.bind elt fun d => if acc.length < LIM then compL own elt asg tst r (acc ++ [d]) else M.fail else compL own elt asg tst r acc) ρ = some (.ok ds, ρ') := h
  obtain ⟨_, ρ1, e1, h⟩ := M.bind_some h
  cases e1
  obtain ⟨_, ρ2, e2, h⟩ := M.bind_some h
  obtain ⟨b, ρ3, e3, h⟩ := M.bind_some h
  refine ⟨ρ2, ρ3, b, e2, e3, fun hb => ?_, fun hb => ?_⟩
  · subst hb
    rw [if_pos rfl] at h
    obtain ⟨d, ρ4, e4, h⟩ := M.bind_some h
    split at h
    · rename_i hl; exact ⟨d, ρ4, e4, hl, h⟩
    · cases h
  · subst hb
    exact h
section
variable {C : Cc} {elt tg iter : Expr} {ifs : List Expr} {scope : Scope} {pos : Pos} {x : Ex} {t : Tg} {it : Dp.It} {cs : Exs}
theorem lc_rd {own : List (PySem.Str × Nat)} (hin : ∀ j ∈ tgIx t, j ∈ own.map (·.2)) {σ : L2.St} {H : Hp} {Q : VK}
    (h : tG C.T (RV C.T) C.W (M.bind (evalI C.Pr C.cal it) fun l => M.bind (inBlk (own.map (·.2)) (compL (own.map (·.2)) (M.bind (evB C.Pr C.cal x).1 frzV) (asgT [] t) (testAll C.Pr C.cal cs) l [])) fun ds => M.pure (.own (.lst ds))) σ H Q) :
    tLc (fun σ H R => tG C.T (RIt C.T) C.W (evalI C.Pr C.cal it) σ H R) (gOf C.X.K t) (tG C.T RB W0 (testAll C.Pr C.cal cs)) (tG C.T (RV C.T) W0 (evB C.Pr C.cal x).1) (own.map (·.2)) σ H Q := by
  generalize hO : own.map (·.2) = ow at *
  obtain ⟨F, ρ, h⟩ := h
  refine tG.imp h.bind fun J H1 ⟨F1, ρ1, l, P1, ok, h1⟩ => ?_
  intro A hA
  obtain ⟨P, r, ρe, er, q⟩ := h1
  -- the whole block's run
  obtain ⟨ds, ρn, hrun, hr, hρe⟩ : ∃ ds ρn, compL ow (M.bind (evB C.Pr C.cal x).1 frzV) (asgT [] t) (testAll C.Pr C.cal cs) l [] ρ1 = some (.ok ds, ρn) ∧ r = .ok (.own (.lst ds)) ∧ ρe = back ρ1 ρn ow := by
    cases e : inBlk ow (compL ow (M.bind (evB C.Pr C.cal x).1 frzV) (asgT [] t) (testAll C.Pr C.cal cs) l []) ρ1 with
    | none => rw [M.bind_none e] at er; cases er
    | some p =>
      obtain ⟨r', ρ'⟩ := p
      obtain ⟨ds, ρn, e1, e2, e3⟩ := inBlk_some e
      subst e1
      rw [M.bind_ok e] at er
      cases er
      exact ⟨ds, ρn, e2, rfl, e3⟩
  subst hr hρe
  have s1 : SR C.T F1 H1 ρ1 σ := P.sr
  have q : ∀ z F' H', Post C.T F H ρ σ F' H' (back ρ1 ρn ow) → VOk C.T H F' H' z (.own (.lst ds)) → Q z H' := q
  refine ⟨fun i m H2 => m = l.length - i ∧ i ≤ l.length ∧ ∃ F2 ρ2 acc accV, Post C.T F1 H1 (wipe ρ1 ow) (L2.wipe σ ow) F2 H2 (wipe ρ2 ow) ∧ H2 A = some (.lst accV) ∧ F2 A = none ∧ RepL C.T F2 accV acc ∧
    compL ow (M.bind (evB C.Pr C.cal x).1 frzV) (asgT [] t) (testAll C.Pr C.cal cs) (l.drop i) acc ρ2 = some (.ok ds, ρn), ⟨l.length, by simp, Nat.zero_le _, F1, ρ1, [], [], Post.newOwn s1.wipe hA, upd_same, s1.sub.free hA, .nil, hrun⟩, ?_⟩
  rintro i m H2 ⟨rfl, hi, F2, ρ2, acc, accV, P2, hD, hF, ra, run⟩
  by_cases hlt : i < l.length
  · right
    obtain ⟨d, hd⟩ : ∃ d, l[i]? = some d := ⟨l[i], by simp [hlt]⟩
    have hdrop : l.drop i = d :: l.drop (i + 1) := by
      rw [List.drop_eq_getElem_cons hlt]
      rw [List.getElem?_eq_getElem hlt] at hd
      rw [Option.some.inj hd]
    rw [hdrop] at run
    obtain ⟨ρ3, ρ4, b, e3, e4, k1, k2⟩ := compL_cons run
    obtain ⟨g1, g2⟩ := ok.go i d F2 H2 hd P2.gr P2.sr.sub
    refine ⟨g1, fun H' => (∃ F' ρ' acc' accV', Post C.T F1 H1 (wipe ρ1 ow) (L2.wipe σ ow) F' H' (wipe ρ' ow) ∧ H' A = some (.lst accV') ∧ F' A = none ∧ RepL C.T F' accV' acc' ∧
      compL ow (M.bind (evB C.Pr C.cal x).1 frzV) (asgT [] t) (testAll C.Pr C.cal cs) (l.drop (i + 1)) acc' ρ' = some (.ok ds, ρn)), fun H' hN => ⟨l.length - (i + 1), by omega, rfl, hlt, hN⟩, fun v H3 hy => ?_⟩
    obtain ⟨F3, G, rv⟩ := g2 v H3 hy
    have s3 : SR C.T F3 H3 (wipe ρ2 ow) (L2.wipe σ ow) := P2.sr.grow G
    have hD3 : H3 A = some (.lst accV) := G.hh _ _ hD
    have hF3 : F3 A = none := G.nw _ _ hD hF
    refine gOf_run (lk := []) C.hK s3 rv e3 fun σ2 as => ?_
    have hwip : L2.wipe σ2 ow = L2.wipe σ ow := by
      have hsz : σ2.length = σ.length := by
        have a1 := as.sr.len
        have a2 := s3.len
        have a3 : ρ3.length = (wipe ρ2 ow).length := by
          rcases t with i' | is
          · obtain ⟨_, _, rfl⟩ := setK_ok e3; rw [List.length_set]
          · cases d with
            | tup dl =>
              have gen : ∀ (is : List Nat) (dl : List Dp.D) (ρ ρ' : Dp.Env), asgN [] is dl ρ = some (.ok (), ρ') → ρ'.length = ρ.length := by
                intro is
                induction is with
                | nil => intro dl ρ ρ' h; cases dl <;> cases h; rfl
                | cons j js ih =>
                  intro dl ρ ρ' h
                  cases dl with
                  | nil => cases h
                  | cons y ys =>
                    obtain ⟨_, ρ5, e5, h⟩ := M.bind_some (show M.bind (setK [] j (some (.frz y))) (fun _ => asgN [] js ys) ρ = some (.ok (), ρ') from h)
                    obtain ⟨_, _, rfl⟩ := setK_ok e5
                    rw [ih ys _ _ h, List.length_set]
              exact gen is dl _ _ e3
            | _ => cases e3
        rw [wipe_len] at a2 a3
        rw [L2.wipe_length] at a2
        omega
      apply List.ext_getElem?
      intro j
      by_cases hj : j ∈ ow
      · have wn : ∀ (vs : List Nat) (σ' : L2.St), j ∈ vs → (L2.wipe σ' vs)[j]? = if j < σ'.length then some none else none := by
          intro vs
          induction vs with
          | nil => intro σ' h; cases h
          | cons w ws ih =>
            intro σ' h
            show ((L2.wipe σ' ws).set w none)[j]? = _
            by_cases e : w = j
            · subst e
              by_cases hl : w < σ'.length
              · rw [if_pos hl, List.getElem?_set_self (by rw [L2.wipe_length]; exact hl)]
              · rw [if_neg hl, List.getElem?_eq_none (by rw [List.length_set, L2.wipe_length]; omega)]
            · rw [List.getElem?_set_ne e]
              rcases List.mem_cons.mp h with h | h
              · exact absurd h.symm e
              · exact ih σ' h
        rw [wn ow σ2 hj, wn ow σ hj, hsz]
      · rw [wipeS_ne ow σ2 j hj, (as.ne j fun z => hj (hin j z)).1]
    have noOwn : ∀ j ∈ ow, ∀ d, getS j ρ3 ≠ some (.own d) := fun j hj d' e => by
      have h1 := as.own j d' e
      rw [(as.ne j h1).2] at e
      exact (getS_wipe_some e).1 hj
    have Pb : Post C.T F1 H1 (wipe ρ1 ow) (L2.wipe σ ow) F3 H3 (wipe ρ3 ow) := by
      have Pg := P2.trans (Post.of_grow P2.sr G)
      refine ⟨Pg.s0, ?_, Pg.gr, Pg.fr, fun j d' e => ?_, Pg.th⟩
      · have q := as.sr.wipe (own := ow)
        rw [hwip] at q
        exact q
      · obtain ⟨n1, e⟩ := getS_wipe_some e
        have h1 := as.own j d' e
        rw [(as.ne j h1).2] at e
        exact Pg.os j d' e
    refine ⟨hwip, F3, ρ3, Post.refl as.sr, .ok b, ρ4, e4, fun b' F4 H4 P4 hb => ?_⟩
    have hb : b' = b := hb
    subst hb
    have Pb4 : Post C.T F1 H1 (wipe ρ1 ow) (L2.wipe σ ow) F4 H4 (wipe ρ4 ow) := by
      have q := P4.wipe (own := ow) noOwn
      rw [hwip] at q
      exact Pb.trans q
    have notOwn : ¬ OwnAt ρ3 σ2 A := fun ⟨j, d', e1, e2⟩ => by
      have h1 := as.own j d' e1
      rw [(as.ne j h1).2] at e1
      rw [(as.ne j h1).1] at e2
      obtain ⟨w, hw⟩ := P2.s0.ownThere (P2.ownBack ⟨j, d', e1, e2⟩)
      rw [hA] at hw
      cases hw
    obtain ⟨hF4, hD4⟩ := P4.fr A _ hF3 hD3 (fun ps z => nomatch z) notOwn
    cases b' with
    | false => exact ⟨F4, ρ4, acc, accV, Pb4, hD4, hF4, (ra.mono G.ff).mono P4.gr, k2 rfl⟩
    | true =>
      obtain ⟨de, ρ5, e5, hlen, run5⟩ := k1 rfl
      obtain ⟨w, ρ6, e6, e7⟩ := M.bind_some e5
      obtain ⟨e8, e9⟩ := M.opt_some e7
      subst e9
      show (if true = true then _ else _)
      rw [if_pos rfl]
      refine ⟨F4, ρ4, Post.refl P4.sr, .ok w, ρ5, e6, fun y F5 H5 P5 ry => ?_⟩
      obtain ⟨F6, P6, g6, r6⟩ := VOk.share ry e8 P5
      have nOwn4 : ∀ j ∈ ow, ∀ d, getS j ρ4 ≠ some (.own d) := fun j hj d' e => by
        obtain ⟨d2, e2⟩ := P4.os j d' e
        exact noOwn j hj d2 e2
      have notOwn4 : ¬ OwnAt ρ4 σ2 A := fun z => notOwn (P4.ownBack z)
      obtain ⟨hF6, hD6⟩ := P6.fr A _ hF4 hD4 (fun ps z => nomatch z) notOwn4
      have Pb6 : Post C.T F1 H1 (wipe ρ1 ow) (L2.wipe σ ow) F6 H5 (wipe ρ5 ow) := by
        have q := P6.wipe (own := ow) nOwn4
        rw [hwip] at q
        exact Pb4.trans q
      have ra6 := ((ra.mono G.ff).mono P4.gr).mono P6.gr
      exact ⟨accV, hD6, by rw [ra.length, ← lim_line]; exact hlen, F6, ρ5, acc ++ [de], accV ++ [y], Pb6.priv hA hF6 hD6 (fun ps z => nomatch z) (fun c nm z => nomatch z), upd_same, hF6, ra6.snoc r6, run5⟩
  · left
    have ei : i = l.length := by omega
    subst ei
    refine ⟨ok.stop F2 H2 P2.gr P2.sr.sub, ?_⟩
    rw [List.drop_length] at run
    cases run
    exact q _ F2 H2 (P.trans (Post.back s1 P2)) ⟨A, _, rfl, P1.th A hA, hF, hD, .lst ra⟩
theorem sx_comp {own : List (PySem.Str × Nat)} {own' : List Nat} (ok : BlkOk C.X.N C.X.env.scope scope own) (ho : own.map (·.2) = own') (hin : ∀ j ∈ tgIx t, j ∈ own') (hi : SI C tg iter it)
    (hg : ∀ s H A cl fp, STg (C.blk s H scope A cl fp) tg t) (ht : ∀ s H A cl fp, STts (C.blk s H scope A cl fp) ifs cs) (he : ∀ s H A cl fp, SX (C.blk s H scope A cl fp) elt x) (hs : ∀ v, foldedSetIterable iter C.X.env v = pure v) :
    SX C (.ListComp elt [⟨tg, iter, ifs, 0⟩] scope pos) (.comp own' x t it cs) := by
  subst ho
  exact SX.mk' rfl (PE.imp (pe_lc (g := gOf C.X.K t) (tt := tG C.T RB W0 (testAll C.Pr C.cal cs)) (te := tG C.T (RV C.T) W0 (evB C.Pr C.cal x).1) C.calm C.hN hi ok (fun s H A cl fp => hg s H A cl fp) (fun s H A cl fp => ht s H A cl fp) (fun s H A cl fp => (he s H A cl fp).v) hs) fun σ H Q h => lc_rd hin h) rfl fun _ => rfl
end
end Dp
end
section
set_option Elab.async false
set_option linter.all false
set_option maxRecDepth 100000
set_option maxHeartbeats 2000000
/-! S14: statements. -/
namespace Dp
open PySem PySem.Spec PyProof.Rows L2

/-- behind a statement; lk: the slots whose own things were lent -/
structure PostS (T : Kt) (lk : List Nat) (F H : Hp) (ρ : Dp.Env) (σ : L2.St) (F' H' : Hp) (ρ' : Dp.Env) (σ' : L2.St) : Prop where
  s0 : SR T F H ρ σ
  sr : SR T F' H' ρ' σ'
  gr : Same F F'
  fr : Fram F H (OwnAt ρ σ) F' H'
  osn : ∀ i, i ∉ lk → ∀ d p, getS i ρ' = some (.own d) → σ'[i]? = some (some (.ref p)) → H p = none ∨ ∃ j, j ∉ lk ∧ ∃ e, getS j ρ = some (.own e) ∧ σ[j]? = some (some (.ref p))
  osl : ∀ i ∈ lk, ∀ d, getS i ρ' = some (.own d) → ∃ e, getS i ρ = some (.own e)
  lk : ∀ i ∈ lk, σ'[i]? = σ[i]?
  th : ∀ p, H' p = none → H p = none
section
variable {T : Kt} {lk : List Nat} {F H F1 H1 F' H' : Hp} {ρ ρ1 ρ' : Dp.Env} {σ σ1 σ' : L2.St}
theorem Post.s (P : Post T F H ρ σ F' H' ρ') : PostS T lk F H ρ σ F' H' ρ' σ where
  s0 := P.s0
  sr := P.sr
  gr := P.gr
  fr := P.fr
  osn := fun i hi d p e1 e2 => by
    obtain ⟨e, h⟩ := P.os i d e1
    exact .inr ⟨i, hi, e, h, e2⟩
  osl := fun i _ d e => P.os i d e
  lk := fun _ _ => rfl
  th := P.th
theorem PostS.refl (s : SR T F H ρ σ) : PostS T lk F H ρ σ F H ρ σ := (Post.refl s).s
theorem PostS.ownBack {p : Addr} (P : PostS T lk F H ρ σ F' H' ρ' σ') (h : OwnAt ρ' σ' p) : H p = none ∨ OwnAt ρ σ p := by
  obtain ⟨i, d, e1, e2⟩ := h
  by_cases hi : i ∈ lk
  · obtain ⟨e, k⟩ := P.osl i hi d e1
    rw [P.lk i hi] at e2
    exact .inr ⟨i, e, k, e2⟩
  · rcases P.osn i hi d p e1 e2 with k | ⟨j, _, e, k1, k2⟩
    · exact .inl k
    · exact .inr ⟨j, e, k1, k2⟩
theorem PostS.trans (a : PostS T lk F H ρ σ F1 H1 ρ1 σ1) (b : PostS T lk F1 H1 ρ1 σ1 F' H' ρ' σ') : PostS T lk F H ρ σ F' H' ρ' σ' where
  s0 := a.s0
  sr := b.sr
  gr := a.gr.trans b.gr
  fr := fun p o h1 h2 h3 h4 => by
    obtain ⟨k1, k2⟩ := a.fr p o h1 h2 h3 h4
    refine b.fr p o k1 k2 h3 fun q => ?_
    rcases a.ownBack q with z | z
    · rw [z] at h2; cases h2
    · exact h4 z
  osn := fun i hi d p e1 e2 => by
    rcases b.osn i hi d p e1 e2 with k | ⟨j, hj, e, k1, k2⟩
    · exact .inl (a.th p k)
    · exact a.osn j hj e p k1 k2
  osl := fun i hi d e => by
    obtain ⟨e', k⟩ := b.osl i hi d e
    exact a.osl i hi e' k
  lk := fun i hi => (b.lk i hi).trans (a.lk i hi)
  th := fun p e => a.th p (b.th p e)
theorem AsgS.s {is : List Nat} (s : SR T F H ρ σ) (a : AsgS T F H lk is ρ σ ρ' σ') : PostS T lk F H ρ σ F H ρ' σ' where
  s0 := s
  sr := a.sr
  gr := Same.refl F
  fr := fun _ _ h1 h2 _ _ => ⟨h1, h2⟩
  osn := fun i hi d p e1 e2 => by
    have h := a.own i d e1
    obtain ⟨k1, k2⟩ := a.ne i h
    rw [k2] at e1
    rw [k1] at e2
    exact .inr ⟨i, hi, d, e1, e2⟩
  osl := fun i hi d e => by
    have h := a.own i d e
    rw [(a.ne i h).2] at e
    exact ⟨d, e⟩
  lk := fun i hi => (a.ne i fun z => a.lk i z hi).1
  th := fun _ e => e
/-- a new own thing is stored -/
theorem PostS.own {i : Nat} {p : Addr} {o : HO} {d : D} (P : PostS T lk F H ρ σ F' H' ρ1 σ1) (hno : ¬ OwnAt ρ1 σ1 p) (hn : H p = none) (hF : F' p = none) (hH : H' p = some o) (r : OwnR T F' o d) (hi : i ∉ lk) (hl : i < ρ1.length) :
    PostS T lk F H ρ σ F' H' (ρ1.set i (some (.own d))) (σ1.set i (some (.ref p))) := by
  have nown : ∀ j d' p', getS j ρ1 = some (.own d') → σ1[j]? = some (some (.ref p')) → p' ≠ p := fun j d' p' e1 e2 z => hno (z ▸ ⟨j, d', e1, e2⟩)
  refine ⟨P.s0, ⟨P.sr.sub, by rw [List.length_set, List.length_set]; exact P.sr.len, fun j v e => ?_, fun j k d1 d2 q h1 h2 h3 h4 => ?_, P.sr.tabs, P.sr.ft⟩, P.gr, P.fr, fun j hj d' q e1 e2 => ?_, fun j hj d' e => ?_, fun j hj => ?_, P.th⟩
  · rw [getS_set hl] at e
    by_cases ej : j = i
    · rw [if_pos ej] at e
      cases e
      subst ej
      exact ⟨p, o, List.getElem?_set_self (by rw [← P.sr.len]; exact hl), hF, hH, r⟩
    · rw [if_neg ej] at e
      exact slot_ne (List.getElem?_set_ne (Ne.symm ej)) (P.sr.slot j v e)
  · rw [getS_set hl] at h1 h2
    by_cases ej : j = i
    · by_cases ek : k = i
      · rw [ej, ek]
      · rw [ej, List.getElem?_set_self (by rw [← P.sr.len]; exact hl)] at h3
        cases h3
        rw [if_neg ek] at h2
        rw [List.getElem?_set_ne (Ne.symm ek)] at h4
        exact absurd rfl (nown k d2 _ h2 h4)
    · by_cases ek : k = i
      · rw [ek, List.getElem?_set_self (by rw [← P.sr.len]; exact hl)] at h4
        cases h4
        rw [if_neg ej] at h1
        rw [List.getElem?_set_ne (Ne.symm ej)] at h3
        exact absurd rfl (nown j d1 _ h1 h3)
      · rw [if_neg ej] at h1
        rw [if_neg ek] at h2
        rw [List.getElem?_set_ne (Ne.symm ej)] at h3
        rw [List.getElem?_set_ne (Ne.symm ek)] at h4
        exact P.sr.apart j k d1 d2 q h1 h2 h3 h4
  · rw [getS_set hl] at e1
    by_cases ej : j = i
    · rw [ej, List.getElem?_set_self (by rw [← P.sr.len]; exact hl)] at e2
      cases e2
      exact .inl hn
    · rw [if_neg ej] at e1
      rw [List.getElem?_set_ne (Ne.symm ej)] at e2
      exact P.osn j hj d' q e1 e2
  · have ej : j ≠ i := fun z => hi (z ▸ hj)
    rw [getS_set hl, if_neg ej] at e
    exact P.osl j hj d' e
  · have ej : j ≠ i := fun z => hi (z ▸ hj)
    exact (List.getElem?_set_ne (Ne.symm ej)).trans (P.lk j hj)
theorem Post.notOwn {p : Addr} (P : Post T F H ρ σ F' H' ρ1) (hn : H p = none) : ¬ OwnAt ρ1 σ p := fun z => by
  obtain ⟨w, hw⟩ := P.s0.ownThere (P.ownBack z)
  rw [hn] at hw
  cases hw
/-- a slot's thing is let go -/
theorem PostS.drop {i : Nat} (s : SR T F H ρ σ) (hi : i ∉ lk) : PostS T lk F H ρ σ F H (ρ.set i none) σ := by
  have key : ∀ j v, getS j (ρ.set i none) = some v → getS j ρ = some v := fun j v e => by
    by_cases hl : i < ρ.length
    · rw [getS_set hl] at e
      split at e
      · cases e
      · exact e
    · rw [List.set_eq_of_length_le (by omega)] at e
      exact e
  exact ⟨s, ⟨s.sub, by rw [List.length_set]; exact s.len, fun j v e => s.slot j v (key j v e), fun j k d e p h1 h2 h3 h4 => s.apart j k d e p (key j _ h1) (key k _ h2) h3 h4, s.tabs, s.ft⟩, Same.refl F, fun _ _ a b _ _ => ⟨a, b⟩,
    fun j hj d p e1 e2 => .inr ⟨j, hj, d, key j _ e1, e2⟩, fun j hj d e => ⟨d, key j _ e⟩, fun _ _ => rfl, fun _ e => e⟩
end
/-- a returned value -/
def RtOk (T : Kt) (lk : List Nat) (H : Hp) (ρ : Dp.Env) (σ : L2.St) (F' H' : Hp) (x : V) : Vl → Prop
  | .frz d => Rep T F' x d
  | .own d => ∃ p o, x = .ref p ∧ (H p = none ∨ ∃ j, j ∉ lk ∧ ∃ e, getS j ρ = some (.own e) ∧ σ[j]? = some (some (.ref p))) ∧ F' p = none ∧ H' p = some o ∧ OwnR T F' o d
  | .clo _ _ => False
  | .lam _ => False
section
variable {T : Kt} {lk : List Nat} {F H F1 H1 F' H' : Hp} {ρ ρ1 ρ' : Dp.Env} {σ σ1 σ' : L2.St} {x : V} {v : Vl}
theorem RtOk.of (h : VOk T H F' H' x v) : RtOk T lk H ρ σ F' H' x v := by
  cases v with
  | frz d => exact h
  | own d => obtain ⟨p, o, a, b, c⟩ := h; exact ⟨p, o, a, .inl b, c⟩
  | clo _ _ => exact h
  | lam _ => exact h
theorem RtOk.back (P : PostS T lk F H ρ σ F1 H1 ρ1 σ1) (h : RtOk T lk H1 ρ1 σ1 F' H' x v) : RtOk T lk H ρ σ F' H' x v := by
  cases v with
  | frz d => exact h
  | own d =>
    obtain ⟨p, o, a, b, c⟩ := h
    refine ⟨p, o, a, ?_, c⟩
    rcases b with b | ⟨j, hj, e, k1, k2⟩
    · exact .inl (P.th p b)
    · exact P.osn j hj e p k1 k2
  | clo _ _ => exact h
  | lam _ => exact h
end
/-- a run's end, as seen from (F0, H0, ρ0, σ0) -/
def tSa (T : Kt) (lk : List Nat) (W : WX) (F0 H0 : Hp) (ρ0 : Dp.Env) (σ0 : L2.St) (F : Hp) (ρ : Dp.Env) (f : M Fl) (D : Ends) (σ : L2.St) (H : Hp) : Prop :=
  PostS T lk F0 H0 ρ0 σ0 F H ρ σ ∧ ∃ r ρ', f ρ = some (r, ρ') ∧ match r with
    | .ok .nx => ∀ F' H' σ', PostS T lk F0 H0 ρ0 σ0 F' H' ρ' σ' → D.nx σ' H'
    | .ok (.ret v) => ∀ x F' H' σ', PostS T lk F0 H0 ρ0 σ0 F' H' ρ' σ' → RtOk T lk H0 ρ0 σ0 F' H' x v → D.rt x H'
    | .err c => ∀ F' H' σ' d, T.dk c d → PostS T lk F0 H0 ρ0 σ0 F' H' ρ' σ' → W (.ref (T.ca c)) d σ' H'
def tS (T : Kt) (lk : List Nat) (W : WX) (f : M Fl) : TS := fun D σ H => ∃ F ρ, tSa T lk W F H ρ σ F ρ f D σ H
/-- what statements stand in -/
structure Cs extends Cc where
  lk : List Nat
  own : PassesOwn (model X.prog X.w) X.A X.env X.xe
def SS (C : Cs) (st : Stmt) (s : Sm) : Prop := PS C.X st (tS C.T C.lk C.W (evS C.Pr C.cal C.lk s))
def SB (C : Cs) (sts : List Stmt) (ss : Sms) : Prop := PSs C.X sts (tS C.T C.lk C.W (evSs C.Pr C.cal C.lk ss))
section
variable {T : Kt} {lk : List Nat} {W : WX} {F0 H0 F H : Hp} {ρ0 ρ : Dp.Env} {σ0 σ : L2.St} {D : Ends} {ι α : Type}
/-- an expression's run at the head of a statement -/
theorem tSa.ex {R : Rl ι α} {f : M α} {g : α → M Fl} (h : tSa T lk W F0 H0 ρ0 σ0 F ρ (M.bind f g) D σ H) :
    tG T R W f σ H fun x H1 => ∃ F1 ρ1 a, Post T F H ρ σ F1 H1 ρ1 ∧ R H F1 H1 σ x a ∧ tSa T lk W F0 H0 ρ0 σ0 F1 ρ1 (g a) D σ H1 := by
  obtain ⟨P0, r, ρ', e, q⟩ := h
  cases ef : f ρ with
  | none => rw [M.bind_none ef] at e; cases e
  | some p =>
    obtain ⟨r1, ρ1⟩ := p
    cases r1 with
    | err c =>
      rw [M.bind_err ef] at e
      cases e
      exact ⟨F, ρ, Post.refl P0.sr, _, _, ef, fun F' H' d hd P => q F' H' σ d hd (P0.trans P.s)⟩
    | ok a =>
      rw [M.bind_ok ef] at e
      exact ⟨F, ρ, Post.refl P0.sr, _, _, ef, fun x F1 H1 P1 r1 => ⟨F1, ρ1, a, P1, r1, P0.trans P1.s, r, ρ', e, q⟩⟩
theorem tSa.opt {o : Option α} {g : α → M Fl} (h : tSa T lk W F0 H0 ρ0 σ0 F ρ (M.bind (M.opt o) g) D σ H) : ∃ a, o = some a ∧ tSa T lk W F0 H0 ρ0 σ0 F ρ (g a) D σ H := by
  cases o with
  | some a => exact ⟨a, rfl, h⟩
  | none => obtain ⟨P, r, ρ', e, q⟩ := h; cases e
theorem tSa.shr {x : V} {v : Vl} {g : Dp.D → M Fl} (h : tSa T lk W F0 H0 ρ0 σ0 F ρ (M.bind (frzV v) g) D σ H) {F1 H1 : Hp} {ρ1 : Dp.Env} (P : Post T F1 H1 ρ1 σ F H ρ) (r : VOk T H1 F H x v) :
    ∃ d F2, Same F F2 ∧ Rep T F2 x d ∧ Post T F1 H1 ρ1 σ F2 H ρ ∧ ∀ Pa : PostS T lk F0 H0 ρ0 σ0 F1 H1 ρ1 σ, tSa T lk W F0 H0 ρ0 σ0 F2 ρ (g d) D σ H := by
  obtain ⟨d, e, h⟩ := h.opt
  obtain ⟨F2, P2, s, rp⟩ := VOk.share r e P
  exact ⟨d, F2, s, rp, P2, fun Pa => ⟨Pa.trans P2.s, h.2⟩⟩
theorem tSa.dd {a : A} {g : Dp.D → M Fl} (h : tSa T lk W F0 H0 ρ0 σ0 F ρ (M.bind a.d g) D σ H) : ∃ v d, a.get ρ = some v ∧ v.d? = some d ∧ tSa T lk W F0 H0 ρ0 σ0 F ρ (g d) D σ H := by
  obtain ⟨P, r, ρ', e, q⟩ := h
  cases ed : A.d a ρ with
  | none => rw [M.bind_none ed] at e; cases e
  | some p =>
    obtain ⟨r1, ρ1⟩ := p
    obtain ⟨v, d, h1, h2, h3, h4⟩ := A.d_eq ed
    rw [h3, h4] at ed
    rw [M.bind_ok ed] at e
    exact ⟨v, d, h1, h2, P, r, ρ', e, q⟩
theorem tSa.nx (h : tSa T lk W F0 H0 ρ0 σ0 F ρ (M.pure .nx) D σ H) {F' H' : Hp} {σ' : L2.St} (P : PostS T lk F H ρ σ F' H' ρ σ') : D.nx σ' H' := by
  obtain ⟨P0, r, ρ', e, q⟩ := h
  cases e
  exact q F' H' σ' (P0.trans P)
theorem tSa.rt {v : Vl} {x : V} (h : tSa T lk W F0 H0 ρ0 σ0 F ρ (M.pure (.ret v)) D σ H) (r : RtOk T lk H0 ρ0 σ0 F H x v) : D.rt x H := by
  obtain ⟨P0, r', ρ', e, q⟩ := h
  cases e
  exact q x F H σ P0 r
theorem tSa.fail (h : tSa T lk W F0 H0 ρ0 σ0 F ρ M.fail D σ H) : False := by
  obtain ⟨P0, r, ρ', e, q⟩ := h
  cases e
/-- a store -/
theorem tSa.asgT {t : Tg} {d : Dp.D} {v : V} {g : Unit → M Fl} {K : PySem.W.Frag} (hK : K = T.K) (h : tSa T lk W F0 H0 ρ0 σ0 F ρ (M.bind (asgT lk t d) g) D σ H) (r : Rep T F v d) {Q : L2.St → Hp → Prop}
    (k : ∀ ρ1 σ1, tSa T lk W F0 H0 ρ0 σ0 F ρ1 (g ()) D σ1 H → Q σ1 H) : gOf K t v σ H Q := by
  obtain ⟨P0, r', ρ', e, q⟩ := h
  cases ef : Dp.asgT lk t d ρ with
  | none => rw [M.bind_none ef] at e; cases e
  | some p =>
    obtain ⟨r1, ρ1⟩ := p
    have hr := asgT_res ef
    subst hr
    rw [M.bind_ok ef] at e
    exact gOf_run hK P0.sr r ef fun σ1 as => k ρ1 σ1 ⟨P0.trans (as.s P0.sr), r', ρ', e, q⟩
/-- one statement, then the rest -/
theorem tSa.seq {f : M Fl} {g : Fl → M Fl} (hg : ∀ v, g (.ret v) = M.pure (.ret v)) (h : tSa T lk W F0 H0 ρ0 σ0 F ρ (M.bind f g) D σ H) :
    tS T lk W f { D with nx := fun σ1 H1 => ∃ F1 ρ1, Same F F1 ∧ tSa T lk W F0 H0 ρ0 σ0 F1 ρ1 (g .nx) D σ1 H1 } σ H := by
  obtain ⟨P0, r, ρ', e, q⟩ := h
  refine ⟨F, ρ, PostS.refl P0.sr, ?_⟩
  cases ef : f ρ with
  | none => rw [M.bind_none ef] at e; cases e
  | some p =>
    obtain ⟨r1, ρ1⟩ := p
    refine ⟨r1, ρ1, rfl, ?_⟩
    cases r1 with
    | err c =>
      rw [M.bind_err ef] at e
      cases e
      exact fun F' H' σ' d hd P => q F' H' σ' d hd (P0.trans P)
    | ok fl =>
      rw [M.bind_ok ef] at e
      cases fl with
      | nx => exact fun F' H' σ' P => ⟨F', ρ1, P.gr, P0.trans P, r, ρ', e, q⟩
      | ret v =>
        rw [hg] at e
        cases e
        exact fun x F' H' σ' P rt => q x F' H' σ' (P0.trans P) (rt.back P0)
/-- the whole of a run, handed on -/
theorem tSa.all {f : M Fl} (h : tSa T lk W F0 H0 ρ0 σ0 F ρ f D σ H) : tS T lk W f D σ H := by
  obtain ⟨P0, r, ρ', e, q⟩ := h
  refine ⟨F, ρ, PostS.refl P0.sr, r, ρ', e, ?_⟩
  cases r with
  | err c => exact fun F' H' σ' d hd P => q F' H' σ' d hd (P0.trans P)
  | ok fl =>
    cases fl with
    | nx => exact fun F' H' σ' P => q F' H' σ' (P0.trans P)
    | ret v => exact fun x F' H' σ' P rt => q x F' H' σ' (P0.trans P) (rt.back P0)
end
section
variable {C : Cs} {e : Expr} {x : Ex} {pos : Pos} {st : Stmt} {sts a b : List Stmt} {s : Sm} {ss sa sb : Sms}
theorem sb_nil : SB C [] .nil := PSs.imp pss_nil fun D σ H ⟨F, ρ, h⟩ => h.nx (PostS.refl h.1.sr)
theorem sb_cons (h : SS C st s) (hr : SB C sts ss) : SB C (st :: sts) (.cons s ss) := PSs.imp (pss_cons h hr) fun D σ H ⟨F, ρ, h⟩ => by
  have h : tSa C.T C.lk C.W F H ρ σ F ρ (M.bind (evS C.Pr C.cal C.lk s) fun f => match f with
    | .nx => evSs C.Pr C.cal C.lk ss
    | .ret v => M.pure (.ret v)) D σ H := h
  obtain ⟨F1, ρ1, P1, r1, ρ2, e1, q1⟩ := tSa.seq (g := fun f => match f with
    | .nx => evSs C.Pr C.cal C.lk ss
    | .ret v => M.pure (.ret v)) (fun v => rfl) h
  refine ⟨F1, ρ1, P1, r1, ρ2, e1, ?_⟩
  cases r1 with
  | err c => exact q1
  | ok fl =>
    cases fl with
    | ret v => exact q1
    | nx =>
      intro F' H' σ' P
      obtain ⟨F3, ρ3, _, h3⟩ := q1 F' H' σ' P
      exact h3.all
theorem ss_pass : SS C (.Pass pos) .pass := PS.imp ps_pass fun D σ H ⟨F, ρ, h⟩ => h.nx (PostS.refl h.1.sr)
theorem ss_exp (h : SX C.toCc e x) (hs : swapsWith e none pos.line C.X.env = pure false) : SS C (.Expr e pos) (.exp x) := PS.imp (ps_expr h.v hs) fun D σ H ⟨F, ρ, h⟩ => by
  have h : tSa C.T C.lk C.W F H ρ σ F ρ (M.bind (evB C.Pr C.cal x).1 fun _ => M.pure .nx) D σ H := h
  exact tG.imp (h.ex (R := RV C.T)) fun y H1 ⟨F1, ρ1, v, P, r, h1⟩ => h1.nx (PostS.refl h1.1.sr)
theorem ss_ret (h : SX C.toCc e x) : SS C (.Return (some e) pos) (.ret x) := PS.imp (ps_ret h.v) fun D σ H ⟨F, ρ, h⟩ => by
  have h : tSa C.T C.lk C.W F H ρ σ F ρ (M.bind (evB C.Pr C.cal x).1 fun v => M.pure (.ret v)) D σ H := h
  exact tG.imp (h.ex (R := RV C.T)) fun y H1 ⟨F1, ρ1, v, P, r, h1⟩ => h1.rt (.of r)
theorem ss_retN : SS C (.Return none pos) .retN := PS.imp ps_retN fun D σ H ⟨F, ρ, h⟩ => tSa.rt (v := .frz .non) h .non
theorem ss_if {c : Expr} {z : Ex} (hc : ST C.toCc c z) (ha : SB C a sa) (hb : SB C b sb) : SS C (.If c a b pos) (.ite z sa sb) := PS.imp (ps_if hc ha hb) fun D σ H ⟨F, ρ, h⟩ => by
  have h : tSa C.T C.lk C.W F H ρ σ F ρ (M.bind (evB C.Pr C.cal z).2 fun t => if t then evSs C.Pr C.cal C.lk sa else evSs C.Pr C.cal C.lk sb) D σ H := h
  refine tG.imp (h.ex (R := RB)) fun y H1 ⟨F1, ρ1, v, P, r, h1⟩ => ?_
  have r : y = v := r
  subst r
  cases y with
  | true => exact tSa.all h1
  | false => exact tSa.all h1
end
end Dp
end
section
set_option Elab.async false
set_option linter.all false
set_option maxRecDepth 100000
set_option maxHeartbeats 2000000
/-! S15: stores, loops. -/
namespace Dp
open PySem PySem.Spec PyProof.Rows L2

section
variable {T : Kt} {lk : List Nat} {W : WX} {F0 H0 F H : Hp} {ρ0 ρ : Dp.Env} {σ0 σ : L2.St} {D : Ends}
theorem tSa.setK {i : Nat} {v : Option Vl} {g : Unit → M Fl} (h : tSa T lk W F0 H0 ρ0 σ0 F ρ (M.bind (setK lk i v) g) D σ H) :
    i ∉ lk ∧ i < ρ.length ∧ ∀ F' H' σ', PostS T lk F0 H0 ρ0 σ0 F' H' (ρ.set i v) σ' → tSa T lk W F0 H0 ρ0 σ0 F' (ρ.set i v) (g ()) D σ' H' := by
  obtain ⟨P0, r, ρ', e, q⟩ := h
  cases ef : Dp.setK lk i v ρ with
  | none => rw [M.bind_none ef] at e; cases e
  | some p =>
    obtain ⟨r1, ρ1⟩ := p
    have hr := setK_res ef
    subst hr
    rw [M.bind_ok ef] at e
    obtain ⟨h1, h2, rfl⟩ := setK_ok ef
    exact ⟨h1, h2, fun F' H' σ' P => ⟨P, r, ρ', e, q⟩⟩
/-- any value is stored -/
theorem tSa.asgV {i : Nat} {v : Vl} {y : V} {g : Unit → M Fl} (h : tSa T lk W F0 H0 ρ0 σ0 F ρ (M.bind (asgV lk i v) g) D σ H) (hy : VOk T H0 F H y v) (hno : ∀ p, y = .ref p → (∃ d, v = .own d) → ¬ OwnAt ρ σ p) :
    i < ρ.length ∧ tSa T lk W F0 H0 ρ0 σ0 F (ρ.set i (some v)) (g ()) D (σ.set i (some y)) H := by
  have hP := h.1
  cases v with
  | frz d =>
    obtain ⟨h1, h2, h3⟩ := tSa.setK (v := some (.frz d)) h
    refine ⟨h2, h3 F H _ (hP.trans ?_)⟩
    exact (asg1 (lk := lk) (u := ()) hP.sr (show Rep T F y d from hy) (by unfold Dp.setK; rw [if_neg h1, if_pos h2])).s hP.sr
  | own d =>
    obtain ⟨h1, h2, h3⟩ := tSa.setK (v := some (.own d)) h
    obtain ⟨p, o, rfl, k1, k2, k3, k4⟩ := hy
    exact ⟨h2, h3 F H _ (PostS.own hP (hno p rfl ⟨d, rfl⟩) k1 k2 k3 k4 h1 h2)⟩
  | clo _ _ => exact hy.elim
  | lam _ => exact hy.elim
end
/-- values in a row: own ones stand apart -/
inductive RVl (T : Kt) (H0 F H : Hp) : List V → List Vl → Prop
  | nil : RVl T H0 F H [] []
  | cons {x : V} {v : Vl} {xs : List V} {vs : List Vl} (h : VOk T H0 F H x v) (r : RVl T H0 F H xs vs) (ap : ∀ p d, v = .own d → x = .ref p → ∀ y ∈ xs.zip vs, (∃ e, y.2 = .own e) → y.1 ≠ .ref p) : RVl T H0 F H (x :: xs) (v :: vs)
theorem RVl.pre {T : Kt} {H1 H0 F H : Hp} (e : ∀ p, H1 p = none → H0 p = none) : ∀ {xs : List V} {vs : List Vl}, RVl T H1 F H xs vs → RVl T H0 F H xs vs
  | _, _, .nil => .nil
  | _, _, .cons h r ap => .cons (h.pre e) (RVl.pre e r) ap
theorem RVl.new {T : Kt} {H0 F H : Hp} : ∀ {xs : List V} {vs : List Vl}, RVl T H0 F H xs vs → ∀ y ∈ xs.zip vs, (∃ e, y.2 = .own e) → ∃ p, y.1 = .ref p ∧ H0 p = none
  | _, _, .nil, y, hy, _ => by cases hy
  | _, _, .cons (x := x) (v := v) h r ap, y, hy, ⟨e, he⟩ => by
    rcases List.mem_cons.mp hy with rfl | hy
    · have he : v = .own e := he
      subst he
      obtain ⟨p, o, a, b, _⟩ := h
      exact ⟨p, a, b⟩
    · exact RVl.new r y hy ⟨e, he⟩
def RVn (T : Kt) (n : Nat) : Rl (List V) (List Vl) := fun H0 F H _ xs vs => RVl T H0 F H xs vs ∧ xs.length = n
def SVs (C : Cc) (n : Nat) (es : List Expr) (xs : Exs) : Prop := PA C.X es (tG C.T (RVn C.T n) C.W (evalVs C.Pr C.cal xs))
/-- a value stays what it is while others are made -/
theorem VOk.stay {T : Kt} {H0 F H F' H' : Hp} {ρ ρ' : Dp.Env} {σ : L2.St} {x : V} {v : Vl} (h : VOk T H0 F H x v) (P : Post T F H ρ σ F' H' ρ') (hno : ∀ p, x = .ref p → (∃ d, v = .own d) → ¬ OwnAt ρ σ p) : VOk T H0 F' H' x v := by
  cases v with
  | frz d => exact Rep.mono P.gr h
  | own d =>
    obtain ⟨p, o, rfl, a, b, c, r⟩ := h
    obtain ⟨k1, k2⟩ := P.fr p o b c r.noTbl (hno p rfl ⟨d, rfl⟩)
    exact ⟨p, o, rfl, a, k1, k2, r.mono P.gr⟩
  | clo _ _ => exact h
  | lam _ => exact h
section
variable {C : Cc} {a b e : Expr} {x y : Ex} {pos : Pos}
theorem svs_nil : SVs C 0 [] .nil := PA.imp pa_nil fun σ H Q ⟨F, ρ, h⟩ => tGa.ret0 (a := []) h ⟨.nil, rfl⟩
theorem svs_cons {n : Nat} {es : List Expr} {xs : Exs} (ha : SX C a x) (hr : SVs C n es xs) (hs : starEach (a :: es) C.X.env = (false, eval a C.X.env) :: starEach es C.X.env) : SVs C (n + 1) (a :: es) (.cons x xs) :=
  PA.imp (pa_cons ha.v hr hs) fun σ H Q ⟨F, ρ, h⟩ => by
    have h : tGa C.T F H ρ F ρ (RVn C.T (n + 1)) C.W (M.bind (evB C.Pr C.cal x).1 fun v => M.bind (evalVs C.Pr C.cal xs) fun vs => M.pure (v :: vs)) σ H Q := h
    refine tG.imp h.bind fun z H1 ⟨F1, ρ1, v, P, r, h1⟩ => ?_
    refine tG.imp h1.bind fun zs H3 ⟨F3, ρ3, vs, P3, r3, h3⟩ => ?_
    have hno : ∀ p, z = .ref p → (∃ d, v = .own d) → ¬ OwnAt ρ1 σ p := fun p hz ⟨d, hd⟩ => by
      subst hd
      obtain ⟨p', o, e1, e2, _⟩ := r
      rw [hz] at e1
      cases e1
      exact P.notOwn e2
    refine h3.ret0 (a := v :: vs) ⟨.cons (r.stay P3 hno) (r3.1.pre P.th) ?_, congrArg (· + 1) r3.2⟩
    intro p d hv hz w hw ho
    obtain ⟨p', e1, e2⟩ := r3.1.new w hw ho
    subst hv
    obtain ⟨p2, o, e3, e4, e5, e6, _⟩ := r
    rw [hz] at e3
    cases e3
    intro z2
    rw [e1] at z2
    cases z2
    rw [e2] at e6
    cases e6
end
section
variable {C : Cs} {e tg : Expr} {x : Ex} {pos : Pos} {t : Tg}
theorem ss_set {nm : PySem.Str} {p : Pos} (i : Nat) (hn : C.X.N[i]? = some nm) (hv : Loc C.X.env.scope nm) (h : SX C.toCc e x) (hs : swapsWith e (some (.Name nm p)) pos.line C.X.env = pure false) (hf : C.X.fn nm = true ∨ C.X.env.scope.names.lookup nm = some .local) : SS C (.Assign [.Name nm p] e pos) (.asg (.name i) x) :=
  PS.imp (ps_set C.hN hn hv h.v hs hf) fun D σ H ⟨F, ρ, h⟩ => by
    have h : tSa C.T C.lk C.W F H ρ σ F ρ (M.bind (evB C.Pr C.cal x).1 fun v => M.bind (asgV C.lk i v) fun _ => M.pure .nx) D σ H := h
    refine tG.imp (h.ex (R := RV C.T)) fun y H1 ⟨F1, ρ1, v, P, r, h1⟩ => ?_
    obtain ⟨_, h2⟩ := h1.asgV r fun p hp ⟨d, hd⟩ => by
      subst hd
      obtain ⟨p', o, e1, e2, _⟩ := r
      rw [hp] at e1
      cases e1
      exact P.notOwn e2
    exact h2.nx (PostS.refl h2.1.sr)
/-- .. of a comprehension on the same line -/
theorem ss_setC {nm : PySem.Str} {p : Pos} {elt tg iter : Expr} {ifs : List Expr} {scope : Scope} {cpos : Pos} {it : Dp.It} {cs : Exs} {own : List (PySem.Str × Nat)} {own' : List Nat} (i : Nat) (hn : C.X.N[i]? = some nm) (hvl : C.X.env.scope.names.lookup nm = some .local)
    (hsw : swapsWith (.ListComp elt [⟨tg, iter, ifs, 0⟩] scope cpos) (some (.Name nm p)) pos.line C.X.env = pure true) (ok : BlkOk C.X.N C.X.env.scope scope own) (ho : own.map (·.2) = own') (hin : ∀ j ∈ tgIx t, j ∈ own') (hi : SI C.toCc tg iter it)
    (hg : ∀ s H A cl fp, STg (C.toCc.blk s H scope A cl fp) tg t) (ht : ∀ s H A cl fp, STts (C.toCc.blk s H scope A cl fp) ifs cs) (he : ∀ s H A cl fp, SX (C.toCc.blk s H scope A cl fp) elt x) (hs : ∀ v, foldedSetIterable iter C.X.env v = pure v) :
    SS C (.Assign [.Name nm p] (.ListComp elt [⟨tg, iter, ifs, 0⟩] scope cpos) pos) (.asg (.name i) (.comp own' x t it cs)) := by
  subst ho
  refine PS.imp (ps_setLc (g := gOf C.X.K t) (tt := tG C.T RB W0 (testAll C.Pr C.cal cs)) (te := tG C.T (RV C.T) W0 (evB C.Pr C.cal x).1) C.calm C.hN hn hvl hsw hi ok (fun s H A cl fp => hg s H A cl fp) (fun s H A cl fp => ht s H A cl fp) (fun s H A cl fp => (he s H A cl fp).v) hs) fun D σ H ⟨F, ρ, h⟩ => ?_
  have h : tSa C.T C.lk C.W F H ρ σ F ρ (M.bind (evB C.Pr C.cal (.comp (own.map (·.2)) x t it cs)).1 fun v => M.bind (asgV C.lk i v) fun _ => M.pure .nx) D σ H := h
  refine lc_rd hin (tG.imp (h.ex (R := RV C.T)) fun y H1 ⟨F1, ρ1, v, P, r, h1⟩ => ?_)
  obtain ⟨_, h2⟩ := h1.asgV r fun p hp ⟨d, hd⟩ => by
    subst hd
    obtain ⟨p', o, e1, e2, _⟩ := r
    rw [hp] at e1
    cases e1
    exact P.notOwn e2
  exact h2.nx (PostS.refl h2.1.sr)
theorem ss_tup {is : List Nat} (h : SX C.toCc e x) (hg : STg C.toCc tg (.tup is)) (hs : swapsWithSole [tg] e pos.line C.X.env = pure false) (hw : swappedStores [tg] e C.X.env = pure none) (h1 : (assignEach [tg] C.X.env).map (·.2) = [assign tg C.X.env]) : SS C (.Assign [tg] e pos) (.asg (.tup is) x) :=
  PS.imp (ps_asg h.v hg hs hw h1) fun D σ H ⟨F, ρ, h⟩ => by
    have h : tSa C.T C.lk C.W F H ρ σ F ρ (M.bind (evB C.Pr C.cal x).1 fun v => M.bind (frzV v) fun d => M.bind (Dp.asgT C.lk (.tup is) d) fun _ => M.pure .nx) D σ H := h
    refine tG.imp (h.ex (R := RV C.T)) fun y H1 ⟨F1, ρ1, v, P, r, h1⟩ => ?_
    obtain ⟨d, F2, s, rp, P2, h2⟩ := h1.shr P r
    exact tSa.asgT C.hK (h2 (PostS.refl h.1.sr)) rp fun ρ2 σ2 h3 => h3.nx (PostS.refl h3.1.sr)
def setS : L2.St → List Nat → List V → L2.St
  | σ, i :: is, x :: xs => setS (σ.set i (some x)) is xs
  | σ, _, _ => σ
theorem asgVs_run {T : Kt} {lk : List Nat} {W : WX} {F0 H0 F H : Hp} {ρ0 : Dp.Env} {σ0 : L2.St} {D : Ends} : ∀ {is : List Nat} {xs : List V} {vs : List Vl} {ρ : Dp.Env} {σ : L2.St} {g : Unit → M Fl},
    tSa T lk W F0 H0 ρ0 σ0 F ρ (M.bind (asgVs lk is vs) g) D σ H → RVl T H0 F H xs vs → (∀ y ∈ xs.zip vs, (∃ d, y.2 = .own d) → ∀ p, y.1 = .ref p → ¬ OwnAt ρ σ p) → ∃ ρ', tSa T lk W F0 H0 ρ0 σ0 F ρ' (g ()) D (setS σ is xs) H
  | [], _, _, ρ, σ, g, h, .nil, _ => ⟨ρ, h⟩
  | [], _ :: _, _ :: _, ρ, σ, g, h, .cons _ _ _, _ => (tSa.fail (show tSa T lk W F0 H0 ρ0 σ0 F ρ M.fail D σ H from h)).elim
  | _ :: _, _, _, ρ, σ, g, h, .nil, _ => (tSa.fail (show tSa T lk W F0 H0 ρ0 σ0 F ρ M.fail D σ H from h)).elim
  | i :: is, y :: xs, v :: vs, ρ, σ, g, h, .cons hy r ap, hno => by
    have h : tSa T lk W F0 H0 ρ0 σ0 F ρ (M.bind (M.bind (Dp.asgV lk i v) fun _ => asgVs lk is vs) g) D σ H := h
    rw [M.assoc] at h
    obtain ⟨hi, h1⟩ := h.asgV hy fun p hp hd => hno (y, v) (by simp) hd p hp
    refine asgVs_run (is := is) (xs := xs) (vs := vs) (σ := σ.set i (some y)) h1 r fun z hz ho p hp => ?_
    intro ⟨m, d', e1, e2⟩
    rw [getS_set hi] at e1
    by_cases em : m = i
    · rw [if_pos em] at e1
      have hv : v = .own d' := Option.some.inj e1
      have hl : i < σ.length := by rw [← h.1.sr.len]; exact hi
      rw [em, List.getElem?_set_self hl] at e2
      have hy2 : y = .ref p := Option.some.inj (Option.some.inj e2)
      exact ap p d' hv hy2 z hz ho hp
    · rw [if_neg em] at e1
      rw [List.getElem?_set_ne (Ne.symm em)] at e2
      exact hno z (List.mem_cons_of_mem _ hz) ho p hp ⟨m, d', e1, e2⟩
theorem par_rd {is : List Nat} {xs : Exs} {n : Nat} {D : Ends} {σ : L2.St} {H : Hp} (h : tS C.T C.lk C.W (M.bind (evalVs C.Pr C.cal xs) fun vs => M.bind (asgVs C.lk is vs) fun _ => M.pure .nx) D σ H) :
    tG C.T (RVn C.T n) C.W (evalVs C.Pr C.cal xs) σ H fun vs H1 => vs.length = n ∧ D.nx (setS σ is vs) H1 := by
  obtain ⟨F, ρ, h⟩ := h
  refine tG.imp (h.ex (R := RVn C.T n)) fun ys H1 ⟨F1, ρ1, vs, P, r, h1⟩ => ⟨r.2, ?_⟩
  obtain ⟨ρ', h2⟩ := asgVs_run h1 r.1 fun y hy ho p hp => by
    obtain ⟨p', e1, e2⟩ := r.1.new y hy ho
    rw [hp] at e1
    cases e1
    exact P.notOwn e2
  exact h2.nx (PostS.refl h2.1.sr)
theorem ss_par2 {n1 n2 : PySem.Str} {a b : Expr} {xs : Exs} {px py pt pt2 : Pos} {kt k2} (i j : Nat) (hi : C.X.N[i]? = some n1) (hj : C.X.N[j]? = some n2) (hij : i ≠ j)
    (hx : C.X.env.scope.names.lookup n1 = some .local) (hy : C.X.env.scope.names.lookup n2 = some .local) (ha : SVs C.toCc 2 [a, b] xs)
    (hw : swappedStores [.Tuple [.Name n1 px, .Name n2 py] kt pt] (.Tuple [a, b] k2 pt2) C.X.env = pure (some [n1, n2]))
    (hs : swapsWithSole [.Tuple [.Name n1 px, .Name n2 py] kt pt] (.Tuple [a, b] k2 pt2) pos.line C.X.env = pure false) :
    SS C (.Assign [.Tuple [.Name n1 px, .Name n2 py] kt pt] (.Tuple [a, b] k2 pt2) pos) (.par [i, j] xs) :=
  PS.imp (ps_par C.calm C.hN hi hj hij hx hy ha hw hs) fun D σ H h => tG.imp (par_rd (n := 2) h) fun vs H1 ⟨hl, k⟩ => by
    match vs, hl, k with
    | [v, w], _, k => exact ⟨v, w, rfl, k⟩
theorem ss_par3 {n1 n2 n3 : PySem.Str} {a b c : Expr} {xs : Exs} {px py pz pt pt2 : Pos} {kt k2} (i j l : Nat) (hi : C.X.N[i]? = some n1) (hj : C.X.N[j]? = some n2) (hl : C.X.N[l]? = some n3) (hij : i ≠ j) (hil : i ≠ l) (hjl : j ≠ l)
    (hx : C.X.env.scope.names.lookup n1 = some .local) (hy : C.X.env.scope.names.lookup n2 = some .local) (hz : C.X.env.scope.names.lookup n3 = some .local) (ha : SVs C.toCc 3 [a, b, c] xs)
    (hw : swappedStores [.Tuple [.Name n1 px, .Name n2 py, .Name n3 pz] kt pt] (.Tuple [a, b, c] k2 pt2) C.X.env = pure (some [n1, n2, n3]))
    (hs : swapsWithSole [.Tuple [.Name n1 px, .Name n2 py, .Name n3 pz] kt pt] (.Tuple [a, b, c] k2 pt2) pos.line C.X.env = pure false) :
    SS C (.Assign [.Tuple [.Name n1 px, .Name n2 py, .Name n3 pz] kt pt] (.Tuple [a, b, c] k2 pt2) pos) (.par [i, j, l] xs) :=
  PS.imp (ps_par3 C.calm C.hN hi hj hl hij hil hjl hx hy hz ha hw hs) fun D σ H h => tG.imp (par_rd (n := 3) h) fun vs H1 ⟨hl, k⟩ => by
    match vs, hl, k with
    | [u, v, w], _, k => exact ⟨u, v, w, rfl, k⟩
theorem ss_bad {st : Stmt} : SS C st .bad := ⟨fun pins s σ H D I ⟨F, ρ, h⟩ => (tSa.fail h).elim⟩
/-- a local name is returned -/
theorem ss_retm {nm : PySem.Str} {p : Pos} (i : Nat) (hn : C.X.N[i]? = some nm) (hv : Vis C.X.env.scope nm) (hd : (nm == ("__debug__" : PySem.Str)) = false) (hcd : (nm == ("__classdict__" : PySem.Str)) = false) : SS C (.Return (some (.Name nm p)) pos) (.retm i) :=
  PS.imp (ps_ret (pe_var hn hv hd hcd)) fun D σ H ⟨F, ρ, P, r, ρ', e, q⟩ => by
    have e : (if i ∈ C.lk then none else match getS i ρ with
      | some (.own d) => some (Res.ok (Fl.ret (.own d)), ρ.set i none)
      | some (.frz d) => some (.ok (.ret (.frz d)), ρ)
      | _ => none) = some (r, ρ') := e
    split at e
    · cases e
    · rename_i hi
      cases g : getS i ρ with
      | none => rw [g] at e; cases e
      | some v =>
        rw [g] at e
        cases v with
        | frz d =>
          cases e
          obtain ⟨x, e1, rp⟩ := P.sr.slot i _ g
          exact ⟨x, e1, q x F H σ P rp⟩
        | own d =>
          cases e
          obtain ⟨p, o, e1, e2, e3, r⟩ := P.sr.slot i _ g
          exact ⟨_, e1, q _ F H σ (PostS.drop P.sr hi) ⟨p, o, rfl, .inr ⟨i, hi, d, g, e1⟩, e2, e3, r⟩⟩
        | clo _ _ => cases e
        | lam _ => cases e

/-! ### loops -/
theorem ss_while {c : Expr} {z : Ex} {body : List Stmt} {sb : Sms} (hc : ST C.toCc c z) (hb : SB C body sb) : SS C (.While c body [] pos) (.whl z sb) := PS.imp (ps_while C.own hc hb) fun D σ H ⟨F, ρ, h⟩ => by
  refine ⟨fun m σ1 H1 => ∃ F1 ρ1, tSa C.T C.lk C.W F H ρ σ F1 ρ1 (whlL (evB C.Pr C.cal z).2 (evSs C.Pr C.cal C.lk sb) m) D σ1 H1, ⟨FU, F, ρ, h⟩, fun m σ1 H1 ⟨F1, ρ1, h1⟩ => ?_⟩
  cases m with
  | zero => exact (tSa.fail h1).elim
  | succ n =>
    have h1 : tSa C.T C.lk C.W F H ρ σ F1 ρ1 (M.bind (evB C.Pr C.cal z).2 fun t => if t then M.bind (evSs C.Pr C.cal C.lk sb) (fun f => match f with
      | .nx => whlL (evB C.Pr C.cal z).2 (evSs C.Pr C.cal C.lk sb) n
      | .ret v => M.pure (.ret v)) else M.pure .nx) D σ1 H1 := h1
    refine tG.imp (h1.ex (R := RB)) fun y H2 ⟨F2, ρ2, v, P, r, h2⟩ => ?_
    have r : y = v := r
    subst r
    cases y with
    | false => exact h2.nx (PostS.refl h2.1.sr)
    | true =>
      show (if true = true then _ else _)
      rw [if_pos rfl]
      rw [if_pos rfl] at h2
      exact ⟨_, fun σ' H' ⟨F3, ρ3, _, hn⟩ => ⟨n, Nat.lt_succ_self n, F3, ρ3, hn⟩, tSa.seq (g := fun f => match f with
        | .nx => whlL (evB C.Pr C.cal z).2 (evSs C.Pr C.cal C.lk sb) n
        | .ret v => M.pure (.ret v)) (fun v => rfl) h2⟩
theorem ss_for {iter : Expr} {it : Dp.It} {body : List Stmt} {sb : Sms} (hi : SI C.toCc tg iter it) (hg : STg C.toCc tg t) (hb : SB C body sb) (hs : ∀ v, foldedSetIterable iter C.X.env v = pure v) : SS C (.For tg iter body [] pos) (.for t it sb) :=
  PS.imp (ps_for C.own C.calm hi hg hb hs) fun D σ H ⟨F, ρ, h⟩ => by
    have h : tSa C.T C.lk C.W F H ρ σ F ρ (M.bind (evalI C.Pr C.cal it) fun l => forL (Dp.asgT C.lk t) (evSs C.Pr C.cal C.lk sb) l) D σ H := h
    refine tG.imp (h.ex (R := RIt C.T)) fun J H1 ⟨F1, ρ1, l, P, ok, h1⟩ => ?_
    refine ⟨fun i m σ2 H2 => m = l.length - i ∧ i ≤ l.length ∧ ∃ F2 ρ2, Same F1 F2 ∧ tSa C.T C.lk C.W F H ρ σ F2 ρ2 (forL (Dp.asgT C.lk t) (evSs C.Pr C.cal C.lk sb) (l.drop i)) D σ2 H2, ⟨l.length, by simp, Nat.zero_le _, F1, ρ1, Same.refl F1, h1⟩, ?_⟩
    rintro i m σ2 H2 ⟨rfl, hi, F2, ρ2, sm, h2⟩
    by_cases hlt : i < l.length
    · right
      obtain ⟨d, hd⟩ : ∃ d, l[i]? = some d := ⟨l[i], by simp [hlt]⟩
      have hdrop : l.drop i = d :: l.drop (i + 1) := by
        rw [List.drop_eq_getElem_cons hlt]
        rw [List.getElem?_eq_getElem hlt] at hd
        rw [Option.some.inj hd]
      rw [hdrop] at h2
      obtain ⟨g1, g2⟩ := ok.go i d F2 H2 hd sm h2.1.sr.sub
      refine ⟨g1, fun σ3 H3 => ∃ F3 ρ3, Same F1 F3 ∧ tSa C.T C.lk C.W F H ρ σ F3 ρ3 (forL (Dp.asgT C.lk t) (evSs C.Pr C.cal C.lk sb) (l.drop (i + 1))) D σ3 H3, fun σ3 H3 hn => ⟨l.length - (i + 1), by omega, rfl, hlt, hn⟩, fun v H3 hy => ?_⟩
      obtain ⟨F3, G, rv⟩ := g2 v H3 hy
      have h3 : tSa C.T C.lk C.W F H ρ σ F3 ρ2 (M.bind (Dp.asgT C.lk t d) fun _ => M.bind (evSs C.Pr C.cal C.lk sb) (fun f => match f with
        | .nx => forL (Dp.asgT C.lk t) (evSs C.Pr C.cal C.lk sb) (l.drop (i + 1))
        | .ret v => M.pure (.ret v))) D σ2 H3 := ⟨h2.1.trans (Post.of_grow h2.1.sr G).s, h2.2⟩
      refine tSa.asgT C.hK h3 rv fun ρ4 σ4 h4 => ?_
      obtain ⟨F5, ρ5, P5, r5, ρ6, e5, q5⟩ := tSa.seq (g := fun f => match f with
        | .nx => forL (Dp.asgT C.lk t) (evSs C.Pr C.cal C.lk sb) (l.drop (i + 1))
        | .ret v => M.pure (.ret v)) (fun v => rfl) h4
      refine ⟨F5, ρ5, P5, r5, ρ6, e5, ?_⟩
      cases r5 with
      | err c => exact q5
      | ok fl =>
        cases fl with
        | ret v => exact q5
        | nx =>
          intro F' H' σ' P
          obtain ⟨F6, ρ7, s6, h6⟩ := q5 F' H' σ' P
          exact ⟨F6, ρ7, (sm.trans G.ff).trans s6, h6⟩
    · left
      have ei : i = l.length := by omega
      subst ei
      rw [List.drop_length] at h2
      exact ⟨ok.stop F2 H2 sm h2.1.sr.sub, tSa.nx h2 (PostS.refl h2.1.sr)⟩
end
end Dp
end
section
set_option Elab.async false
set_option linter.all false
set_option maxRecDepth 100000
set_option maxHeartbeats 2000000
/-! S16: calls. -/
namespace Dp
open PySem PySem.Spec PyProof.Rows L2

/-- an argument as the callee has it -/
def ArgR (T : Kt) (F H : Hp) (x : V) : Vl → Prop
  | .frz d => Rep T F x d
  | .own d => ∃ p o, x = .ref p ∧ F p = none ∧ H p = some o ∧ OwnR T F o d
  | .clo _ _ => False
  | .lam _ => False
structure ArgsR (T : Kt) (F H : Hp) (xs : List V) (vs : List Vl) : Prop where
  all : Paired (ArgR T F H) xs vs
  apart : ∀ (i j : Nat) (d e : D) (p : Addr), vs[i]? = some (.own d) → vs[j]? = some (.own e) → xs[i]? = some (.ref p) → xs[j]? = some (.ref p) → i = j
/-- what stands at a call -/
structure HpOk (T : Kt) (F H : Hp) : Prop where
  sub : Same F H
  tabs : NdefX.TabsN T.tb H
  ft : ∀ p ∈ T.tb, F p.1 = none
/-- behind a call -/
structure PostC (T : Kt) (F H : Hp) (xs : List V) (vs : List Vl) (F' H' : Hp) (ps : List (Option Vl)) : Prop where
  hp : HpOk T F' H'
  gr : Same F F'
  fr : ∀ p o, F p = none → H p = some o → (∀ ps, o ≠ .tbl ps) → (∀ (i : Nat) (d : D), vs[i]? = some (.own d) → xs[i]? ≠ some (.ref p)) → F' p = none ∧ H' p = some o
  gb : ∀ (i : Nat) (d : D) (p : Addr) (v : Vl), vs[i]? = some (.own d) → xs[i]? = some (.ref p) → ps[i]? = some (some v) → match v with
    | .frz d' => Rep T F' (.ref p) d'
    | .own d' => F' p = none ∧ ∃ o, H' p = some o ∧ OwnR T F' o d'
    | _ => False
  th : ∀ p, H' p = none → H p = none
/-- what a function promises, by its run -/
def spD (T : Kt) (cal : Callee) (f : Fid) : Sp := fun xs H Q E => ∃ F vs r ps, HpOk T F H ∧ ArgsR T F H xs vs ∧ cal f vs = some (r, ps) ∧ match r with
  | .ok v => ∀ x F' H', PostC T F H xs vs F' H' ps → VOk T H F' H' x v → Q x H'
  | .err c => ∀ F' H' d, T.dk c d → PostC T F H xs vs F' H' ps → E (.ref (T.ca c)) d H'

theorem SR.hp {T : Kt} {F H : Hp} {ρ : Dp.Env} {σ : L2.St} (s : SR T F H ρ σ) : HpOk T F H := ⟨s.sub, s.tabs, s.ft⟩
/-! ### arguments -/
theorem argV_ok {T : Kt} {F H : Hp} {ρ : Dp.Env} {σ : L2.St} {x : V} {a : A} {Pr : Prog} {r : Res Vl} {ρ1 : Dp.Env} (s : SR T F H ρ σ) (h : AOk T F σ x a) (e : argV Pr a ρ = some (r, ρ1)) : ∃ v, r = .ok v ∧ ρ1 = ρ ∧ a.get ρ = some v ∧ ArgR T F H x v := by
  unfold argV at e
  cases a with
  | val d => cases e; exact ⟨.frz d, rfl, rfl, rfl, h⟩
  | lam _ => exact h.elim
  | slot i =>
    have e : (match getS i ρ with
      | some (.lam key) => (match Pr.lams[key]? with
        | some L => (match capAll L.caps ρ with
          | some (.ok ds, ρ') => some (Res.ok (Vl.clo key ds), ρ')
          | _ => none)
        | none => none)
      | some v => some (.ok v, ρ)
      | none => none) = some (r, ρ1) := e
    have h : σ[i]? = some (some x) := h
    cases g : getS i ρ with
    | none => rw [g] at e; cases e
    | some v =>
      rw [g] at e
      have q := s.slot i v g
      cases v with
      | frz d =>
        cases e
        obtain ⟨y, e1, ry⟩ := q
        rw [h] at e1
        cases e1
        exact ⟨_, rfl, rfl, g, ry⟩
      | own d =>
        cases e
        obtain ⟨p, o, e1, e2, e3, r⟩ := q
        rw [h] at e1
        cases e1
        exact ⟨_, rfl, rfl, g, p, o, rfl, e2, e3, r⟩
      | clo _ _ => exact q.elim
      | lam _ => exact q.elim
theorem argVs_ok {T : Kt} {F H : Hp} {ρ : Dp.Env} {σ : L2.St} {Pr : Prog} (s : SR T F H ρ σ) : ∀ {xs : List V} {as : List A} {r : Res (List Vl)} {ρ1 : Dp.Env}, Paired (fun x a => AOk T F σ x a) xs as → argVs Pr as ρ = some (r, ρ1) →
    ∃ vs, r = .ok vs ∧ ρ1 = ρ ∧ Paired (fun a v => A.get a ρ = some v) as vs ∧ Paired (ArgR T F H) xs vs
  | [], [], r, ρ1, .nil, e => by cases e; exact ⟨[], rfl, rfl, .nil, .nil⟩
  | x :: xs, a :: as, r, ρ1, .cons h q, e => by
    have e : M.bind (argV Pr a) (fun v => M.bind (argVs Pr as) fun vs => M.pure (v :: vs)) ρ = some (r, ρ1) := e
    cases e1 : argV Pr a ρ with
    | none => rw [M.bind_none e1] at e; cases e
    | some p =>
      obtain ⟨r1, ρ2⟩ := p
      obtain ⟨v, rfl, rfl, g1, g2⟩ := argV_ok s h e1
      rw [M.bind_ok e1] at e
      cases e2 : argVs Pr as ρ2 with
      | none => rw [M.bind_none e2] at e; cases e
      | some p2 =>
        obtain ⟨r2, ρ3⟩ := p2
        obtain ⟨vs, rfl, rfl, g3, g4⟩ := argVs_ok s q e2
        rw [M.bind_ok e2] at e
        cases e
        exact ⟨v :: vs, rfl, rfl, .cons g1 g3, .cons g2 g4⟩
theorem pair_get {α β : Type} {R : α → β → Prop} : ∀ {l : List α} {m : List β} {i : Nat} {a : α} {b : β}, Paired R l m → l[i]? = some a → m[i]? = some b → R a b
  | _, _, _, _, _, .nil, h, _ => by simp at h
  | _, _, 0, _, _, .cons h _, e1, e2 => by simp at e1 e2; subst e1 e2; exact h
  | _, _, i + 1, a, b, .cons _ r, e1, e2 => pair_get (i := i) r (by simpa using e1) (by simpa using e2)
theorem pair_some {α β : Type} {R : α → β → Prop} {l : List α} {m : List β} {i : Nat} {b : β} (p : Paired R l m) (h : m[i]? = some b) : ∃ a, l[i]? = some a := by
  have hl := Paired.length p
  have : i < m.length := by
    rcases Nat.lt_or_ge i m.length with q | q
    · exact q
    · rw [List.getElem?_eq_none q] at h; cases h
  exact ⟨l[i]'(by omega), List.getElem?_eq_getElem (by omega)⟩
/-- what is lent, one by one -/
theorem lent_get {ρ : Dp.Env} : ∀ {as : List A} {vs : List Vl} {i j : Nat}, Paired (fun a v => A.get a ρ = some v) as vs → (lent as ρ)[i]? = some (some j) → as[i]? = some (.slot j) ∧ ∃ d, vs[i]? = some (.own d) ∧ getS j ρ = some (.own d)
  | [], _, i, j, .nil, h => by simp [lent] at h
  | a :: as, v :: vs, 0, j, .cons h _, e => by
    cases a with
    | slot k =>
      have h : getS k ρ = some v := h
      simp only [lent, List.getElem?_cons_zero] at e
      rw [h] at e
      cases v with
      | own d => cases e; exact ⟨rfl, d, rfl, h⟩
      | frz _ => cases e
      | clo _ _ => cases e
      | lam _ => cases e
    | val _ => simp [lent] at e
    | lam _ => simp [lent] at e
  | a :: as, v :: vs, i + 1, j, .cons _ r, e => by
    have e : (lent as ρ)[i]? = some (some j) := by cases a <;> simpa [lent] using e
    obtain ⟨h1, d, h2, h3⟩ := lent_get r e
    exact ⟨by simpa using h1, d, by simpa using h2, h3⟩
theorem lent_of {ρ : Dp.Env} : ∀ {as : List A} {vs : List Vl} {i : Nat} {d : D}, Paired (fun a v => A.get a ρ = some v) as vs → vs[i]? = some (.own d) → ∃ j, (lent as ρ)[i]? = some (some j)
  | [], _, i, d, .nil, h => by simp at h
  | a :: as, v :: vs, 0, d, .cons h _, e => by
    simp at e
    subst e
    cases a with
    | slot k =>
      have h : getS k ρ = some (.own d) := h
      exact ⟨k, by simp [lent, h]⟩
    | val _ => cases h
    | lam _ => cases h
  | a :: as, v :: vs, i + 1, d, .cons _ r, e => by
    obtain ⟨j, hj⟩ := lent_of (i := i) r (by simpa using e)
    exact ⟨j, by cases a <;> simpa [lent] using hj⟩
theorem noTwice_in {i : Nat} : ∀ {l : List (Option Nat)} {n : Nat}, l[n]? = some (some i) → l.contains (some i) = true
  | [], n, h => by simp at h
  | x :: l, 0, h => by simp at h; subst h; simp
  | x :: l, n + 1, h => by
    have := noTwice_in (l := l) (n := n) (by simpa using h)
    simp only [List.contains_cons, this, Bool.or_true]
theorem noTwice_inj {i : Nat} : ∀ {l : List (Option Nat)} {n m : Nat}, noTwice l = true → l[n]? = some (some i) → l[m]? = some (some i) → n = m
  | [], n, m, _, h, _ => by simp at h
  | x :: l, 0, 0, _, _, _ => rfl
  | x :: l, 0, m + 1, t, h, k => by
    simp at h
    subst h
    have t : (!(l.contains (some i)) && noTwice l) = true := t
    rw [noTwice_in (l := l) (n := m) (by simpa using k)] at t
    cases t
  | x :: l, n + 1, 0, t, h, k => by
    simp at k
    subst k
    have t : (!(l.contains (some i)) && noTwice l) = true := t
    rw [noTwice_in (l := l) (n := n) (by simpa using h)] at t
    cases t
  | x :: l, n + 1, m + 1, t, h, k => by
    have t' : noTwice l = true := by
      cases x with
      | none => exact t
      | some j =>
        have t : (!(l.contains (some j)) && noTwice l) = true := t
        rw [Bool.and_eq_true] at t
        exact t.2
    have := noTwice_inj (l := l) (n := n) (m := m) t' (by simpa using h) (by simpa using k)
    omega
theorem giveBack_len : ∀ (ln : List (Option Nat)) (ps : List (Option Vl)) (ρ : Dp.Env), (giveBack ln ps ρ).length = ρ.length
  | [], ps, ρ => by cases ps <;> rfl
  | none :: _, [], _ => rfl
  | some _ :: _, [], _ => rfl
  | none :: r, _ :: vs, ρ => giveBack_len r vs ρ
  | some i :: r, v :: vs, ρ => by
    show (giveBack r vs (ρ.set i v)).length = _
    rw [giveBack_len r vs, List.length_set]
/-- behind the giving back -/
theorem getS_giveBack {i : Nat} {w : Vl} : ∀ {ln : List (Option Nat)} {ps : List (Option Vl)} {ρ : Dp.Env}, getS i (giveBack ln ps ρ) = some w → (∃ n : Nat, ln[n]? = some (some i) ∧ ps[n]? = some (some w)) ∨ getS i ρ = some w ∧ ∀ n : Nat, ln[n]? = some (some i) → ps[n]? = none
  | [], ps, ρ, h => by
    right
    cases ps <;> exact ⟨h, fun n e => by simp at e⟩
  | none :: r, [], ρ, h => .inr ⟨h, fun n e => by simp⟩
  | some j :: r, [], ρ, h => .inr ⟨h, fun n e => by simp⟩
  | none :: r, _ :: vs, ρ, h => by
    rcases getS_giveBack (ln := r) (ps := vs) (ρ := ρ) h with ⟨n, h1, h2⟩ | ⟨h1, h2⟩
    · exact .inl ⟨n + 1, by simpa using h1, by simpa using h2⟩
    · refine .inr ⟨h1, fun n e => ?_⟩
      cases n with
      | zero => simp at e
      | succ n => simpa using h2 n (by simpa using e)
  | some j :: r, v :: vs, ρ, h => by
    have h : getS i (giveBack r vs (ρ.set j v)) = some w := h
    rcases getS_giveBack h with ⟨n, h1, h2⟩ | ⟨h1, h2⟩
    · exact .inl ⟨n + 1, by simpa using h1, by simpa using h2⟩
    · by_cases e : i = j
      · subst e
        by_cases hl : i < ρ.length
        · rw [getS_set hl, if_pos rfl] at h1
          exact .inl ⟨0, rfl, by simp [h1]⟩
        · rw [getS_out (by rw [List.length_set]; exact hl)] at h1
          cases h1
      · by_cases hl : j < ρ.length
        · rw [getS_set hl, if_neg e] at h1
          refine .inr ⟨h1, fun n q => ?_⟩
          cases n with
          | zero => simp at q; exact absurd q.symm e
          | succ n => simpa using h2 n (by simpa using q)
        · rw [List.set_eq_of_length_le (by omega)] at h1
          refine .inr ⟨h1, fun n q => ?_⟩
          cases n with
          | zero => simp at q; exact absurd q.symm e
          | succ n => simpa using h2 n (by simpa using q)
/-- behind a call, as the caller sees it -/
theorem PostC.post {T : Kt} {F H F' H' : Hp} {ρ : Dp.Env} {σ : L2.St} {xs : List V} {as : List A} {vs : List Vl} {ps : List (Option Vl)} (s : SR T F H ρ σ) (ra : Paired (fun x a => AOk T F σ x a) xs as) (rg : Paired (fun a v => A.get a ρ = some v) as vs) (rv : Paired (ArgR T F H) xs vs)
    (nt : noTwice (lent as ρ) = true) (hps : ps.length = vs.length) (c : PostC T F H xs vs F' H' ps) : Post T F H ρ σ F' H' (giveBack (lent as ρ) ps ρ) := by
  have sl : ∀ (n i : Nat), (lent as ρ)[n]? = some (some i) → ∃ d p, vs[n]? = some (.own d) ∧ getS i ρ = some (.own d) ∧ xs[n]? = some (.ref p) ∧ σ[i]? = some (some (.ref p)) := fun n i e => by
    obtain ⟨h1, d, h2, h3⟩ := lent_get rg e
    obtain ⟨x, hx⟩ := pair_some rv h2
    obtain ⟨p, o, e1, _⟩ := pair_get rv hx h2
    have q : AOk T F σ x (.slot i) := pair_get ra hx h1
    have q : σ[i]? = some (some x) := q
    subst e1
    exact ⟨d, p, h2, h3, hx, q⟩
  have owned : ∀ (n : Nat) (d : D) (p : Addr), vs[n]? = some (.own d) → xs[n]? = some (.ref p) → OwnAt ρ σ p := fun n d p h1 h2 => by
    obtain ⟨j, hj⟩ := lent_of rg h1
    obtain ⟨d', p', k1, k2, k3, k4⟩ := sl n j hj
    rw [h2] at k3
    cases k3
    exact ⟨j, d', k2, k4⟩
  have ownB : ∀ (i : Nat) (d : D), getS i (giveBack (lent as ρ) ps ρ) = some (.own d) → ∃ e, getS i ρ = some (.own e) := fun i d e => by
    rcases getS_giveBack e with ⟨n, h1, h2⟩ | ⟨h1, _⟩
    · obtain ⟨d', p, _, k2, _⟩ := sl n i h1
      exact ⟨d', k2⟩
    · exact ⟨d, h1⟩
  refine ⟨s, ⟨c.hp.sub, by rw [giveBack_len]; exact s.len, fun i v e => ?_, fun i j d e p h1 h2 h3 h4 => ?_, c.hp.tabs, c.hp.ft⟩, c.gr, fun p o h1 h2 h3 h4 => c.fr p o h1 h2 h3 fun n d k1 k2 => h4 (owned n d p k1 k2), ownB, c.th⟩
  · rcases getS_giveBack e with ⟨n, h1, h2⟩ | ⟨h1, h2⟩
    · obtain ⟨d', p, k1, k2, k3, k4⟩ := sl n i h1
      have q := c.gb n d' p v k1 k3 h2
      cases v with
      | frz d => exact ⟨_, k4, q⟩
      | own d => obtain ⟨a, o, b, r⟩ := q; exact ⟨p, o, k4, a, b, r⟩
      | clo _ _ => exact q.elim
      | lam _ => exact q.elim
    · have q := s.slot i v h1
      cases v with
      | frz d => obtain ⟨x, a, b⟩ := q; exact ⟨x, a, b.mono c.gr⟩
      | own d =>
        obtain ⟨p, o, a, b, e3, r⟩ := q
        have notL : ∀ (n : Nat) (d' : D), vs[n]? = some (.own d') → xs[n]? ≠ some (.ref p) := fun n d' k1 k2 => by
          obtain ⟨j, hj⟩ := lent_of rg k1
          obtain ⟨d2, p2, m1, m2, m3, m4⟩ := sl n j hj
          rw [k2] at m3
          cases m3
          have ij : i = j := s.apart i j _ _ p h1 m2 a m4
          subst ij
          have := h2 n hj
          have hn : n < vs.length := by
            rcases Nat.lt_or_ge n vs.length with q | q
            · exact q
            · rw [List.getElem?_eq_none q] at k1; cases k1
          rw [List.getElem?_eq_getElem (by omega)] at this
          cases this
        obtain ⟨m1, m2⟩ := c.fr p o b e3 r.noTbl notL
        exact ⟨p, o, a, m1, m2, r.mono c.gr⟩
      | clo _ _ => exact q
      | lam _ => exact q
  · obtain ⟨d', e1⟩ := ownB i d h1
    obtain ⟨d2, e2⟩ := ownB j e h2
    exact s.apart i j d' d2 p e1 e2 h3 h4
end Dp
namespace Dp
open PySem PySem.Spec PyProof.Rows L2
/-! ### a call -/
/-- a function of the text, as it may be called here -/
structure FnE (C : Cc) (f : Nat) (nm : PySem.Str) : Prop where
  fn : ∃ k fd ps, FnOk C.X.prog C.X.w C.X.K C.X.mg C.X.base (L2.CX C.X.prog C.X.w) k (C.T.fa f) fd ps (spD C.T C.cal (.fn f)) ∧ Room k C.X.A ∧ Binds C.X.K fd ps []
  mg : C.X.mg nm = some (.ref (C.T.fa f))
  kp : PySem.W.keepIn C.X.K (.ref (C.T.fa f)) = true
theorem callOk {T : Kt} {F H : Hp} {ρ : Dp.Env} {σ : L2.St} {xs : List V} {as : List A} {Pr : Prog} {cal : Callee} {f : Fid} {r : Res Vl} {ρ' : Dp.Env} (hcal : ∀ vs r ps, cal f vs = some (r, ps) → ps.length = vs.length) (s : SR T F H ρ σ) (ra : Paired (fun x a => AOk T F σ x a) xs as) (h : goCall Pr cal f as [] ρ = some (r, ρ')) :
    ∃ vs ps, HpOk T F H ∧ ArgsR T F H xs vs ∧ cal f vs = some (r, ps) ∧ (∀ F' H', PostC T F H xs vs F' H' ps → Post T F H ρ σ F' H' ρ') := by
  unfold goCall at h
  cases e : argVs Pr as ρ with
  | none => rw [e] at h; cases h
  | some p =>
    obtain ⟨r1, ρ1⟩ := p
    obtain ⟨vs, rfl, rfl, rg, rv⟩ := argVs_ok s ra e
    rw [e] at h
    dsimp only at h
    rw [List.map_nil, List.append_nil] at h
    split at h
    · rename_i nt
      have hap : ArgsR T F H xs vs := ⟨rv, fun i j d e p h1 h2 h3 h4 => by
        obtain ⟨a, ha⟩ := lent_of rg h1
        obtain ⟨b, hb⟩ := lent_of rg h2
        obtain ⟨k1, d1, k2, k3⟩ := lent_get rg ha
        obtain ⟨l1, d2, l2, l3⟩ := lent_get rg hb
        have q1 : AOk T F σ (.ref p) (.slot a) := pair_get ra h3 k1
        have q2 : AOk T F σ (.ref p) (.slot b) := pair_get ra h4 l1
        have ab := s.apart a b d1 d2 p k3 l3 q1 q2
        subst ab
        exact noTwice_inj nt ha hb⟩
      cases c : cal f vs with
      | none => rw [c] at h; cases h
      | some p =>
        obtain ⟨r2, ps⟩ := p
        rw [c] at h
        have fin : ρ' = giveBack (lent as ρ1) ps ρ1 → r2 = r → ∃ vs' ps', HpOk T F H ∧ ArgsR T F H xs vs' ∧ cal f vs' = some (r, ps') ∧ ∀ F' H', PostC T F H xs vs' F' H' ps' → Post T F H ρ1 σ F' H' ρ' := fun e1 e2 => by
          subst e1 e2
          exact ⟨vs, ps, s.hp, hap, c, fun F' H' pc => pc.post s ra rg rv nt (hcal _ _ _ c)⟩
        cases r2 with
        | err c => cases h; exact fin rfl rfl
        | ok v =>
          cases v with
          | frz d => cases h; exact fin rfl rfl
          | own d => cases h; exact fin rfl rfl
          | clo _ _ => cases h
          | lam _ => cases h
    · cases h
section
variable {C : Cc} {a e : Expr} {x : Ex} {pos p : Pos}
theorem call_rd {n : Nat} {xs : Exs} {f : Nat} {σ : L2.St} {H : Hp} {Q : VK} (hcal : ∀ vs r ps, C.cal (.fn f) vs = some (r, ps) → ps.length = vs.length)
    (h : tG C.T (RV C.T) C.W (M.bind (evalAs C.Pr C.cal xs) fun as => goCall C.Pr C.cal (.fn f) as []) σ H Q) :
    tCallS (spD C.T C.cal (.fn f)) (WE C.W) (tG C.T (RAn C.T n) C.W (evalAs C.Pr C.cal xs)) σ H Q := by
  obtain ⟨F, ρ, h⟩ := h
  refine tG.imp h.bind fun vs H1 ⟨F1, ρ1, as, P, r, h1⟩ => ?_
  obtain ⟨P0, r1, ρ', e, q⟩ := h1
  obtain ⟨ws, ps, hp, ha, hc, hpost⟩ := callOk hcal P.sr r.1 e
  refine ⟨F1, ws, r1, ps, hp, ha, hc, ?_⟩
  cases r1 with
  | ok v => exact fun x F' H' pc rx => q x F' H' (P0.trans (hpost F' H' pc)) (rx.pre P.th)
  | err c => exact fun F' H' d hd pc => q F' H' d hd (P0.trans (hpost F' H' pc))
theorem sx_call {n : Nat} {es : List Expr} {xs : Exs} {f : Nat} {nm : PySem.Str} (hf : FnE C f nm) (tk : Takes C.X C.W) (hcal : ∀ vs r ps, C.cal (.fn f) vs = some (r, ps) → ps.length = vs.length) (hg : Gl C.X nm) (ha : SAs C n (e :: es) xs) (hdb : (nm == ("__debug__" : PySem.Str)) = false)
    (he : starEach (e :: es) C.X.env = (false, eval e C.X.env) :: starEach es C.X.env) (hpl : (backTo pos (starEach es C.X.env)).any (·.1) = false) : SX C (.Call (.Name nm p) (e :: es) [] pos) (.call f xs) := by
  obtain ⟨⟨k, fd, ps, F, hr, hb⟩, hm, hk⟩ := hf
  exact SX.mk' rfl (PE.imp (pe_callS F hr hg hm hk hb (passAt tk) ha hdb he hpl) fun σ H Q h => call_rd hcal h) rfl fun _ => rfl
end
end Dp
end
section
set_option Elab.async false
set_option linter.all false
set_option maxRecDepth 100000
set_option maxHeartbeats 2000000
/-! S17: a function's body. -/
namespace Dp
open PySem PySem.Spec PyProof.Rows L2

theorem slots_len (np : Nat) (ρ : Dp.Env) : (slots np ρ).length = np := by unfold slots; simp
theorem slots_get {np i : Nat} {ρ : Dp.Env} {v : Vl} (h : (slots np ρ)[i]? = some (some v)) : i < np ∧ getS i ρ = some v := by
  unfold slots at h
  rw [List.getElem?_map] at h
  obtain ⟨j, hj, e⟩ := Option.map_eq_some_iff.mp h
  have hi : i < np := by
    rcases Nat.lt_or_ge i np with q | q
    · exact q
    · rw [List.getElem?_eq_none (by simpa using q)] at hj; cases hj
  rw [List.getElem?_range hi] at hj
  cases hj
  exact ⟨hi, e⟩
theorem runF_some {Pr : Prog} {cal : Callee} {np n : Nat} {body : Sms} {args : List Vl} {r : Res Vl} {ps : List (Option Vl)} (h : runF Pr cal np n body args = some (r, ps)) :
    args.length = np ∧ ∃ r0 ρ', evSs Pr cal (ownIx args 0) body (args.map some ++ List.replicate (n - np) none) = some (r0, ρ') ∧ ps = slots np ρ' ∧ (match r0 with | .ok (.ret v) => r = .ok v | .ok .nx => r = .ok (.frz .non) | .err c => r = .err c) := by
  unfold runF at h
  split at h
  · rename_i hl
    refine ⟨hl, ?_⟩
    cases e : evSs Pr cal (ownIx args 0) body (args.map some ++ List.replicate (n - np) none) with
    | none => rw [e] at h; cases h
    | some p =>
      obtain ⟨r0, ρ'⟩ := p
      rw [e] at h
      refine ⟨r0, ρ', rfl, ?_⟩
      cases r0 with
      | err c => cases h; exact ⟨rfl, rfl⟩
      | ok fl =>
        cases fl with
        | nx => cases h; exact ⟨rfl, rfl⟩
        | ret v => cases h; exact ⟨rfl, rfl⟩
  · cases h
theorem callF_len {Pr : Prog} : ∀ {k : Nat} {f : Nat} {vs : List Vl} {r : Res Vl} {ps : List (Option Vl)}, callF Pr k (.fn f) vs = some (r, ps) → ps.length = vs.length
  | 0, _, _, _, _, h => by cases h
  | k + 1, f, vs, r, ps, h => by
    have h : (match Pr.defs[f]? with | some d => runF Pr (callF Pr k) d.np d.n d.body vs | none => none) = some (r, ps) := h
    cases e : Pr.defs[f]? with
    | none => rw [e] at h; cases h
    | some d =>
      rw [e] at h
      obtain ⟨h1, r0, ρ', _, h2, _⟩ := runF_some h
      rw [h2, slots_len, h1]
theorem ownIx_mem : ∀ {l : List Vl} {m i : Nat} {d : D}, l[i]? = some (.own d) → i + m ∈ ownIx l m
  | [], _, _, _, h => by simp at h
  | v :: l, m, 0, d, h => by
    simp at h
    subst h
    simp [ownIx]
  | v :: l, m, i + 1, d, h => by
    have q := ownIx_mem (l := l) (m := m + 1) (i := i) (d := d) (by simpa using h)
    rw [show i + (m + 1) = i + 1 + m by omega] at q
    cases v with
    | own _ => exact List.mem_cons_of_mem _ q
    | frz _ => exact q
    | clo _ _ => exact q
    | lam _ => exact q
theorem mem_ownIx : ∀ {l : List Vl} {m j : Nat}, j ∈ ownIx l m → ∃ i d, j = i + m ∧ l[i]? = some (.own d)
  | [], _, _, h => by simp [ownIx] at h
  | v :: l, m, j, h => by
    have step : j ∈ ownIx l (m + 1) → ∃ i d, j = i + m ∧ (v :: l)[i]? = some (.own d) := fun h => by
      obtain ⟨i, d, e1, e2⟩ := mem_ownIx h
      exact ⟨i + 1, d, by omega, by simpa using e2⟩
    cases v with
    | own d =>
      rcases List.mem_cons.mp (show j ∈ m :: ownIx l (m + 1) from h) with e | h
      · exact ⟨0, d, by omega, rfl⟩
      · exact step h
    | frz _ => exact step h
    | clo _ _ => exact step h
    | lam _ => exact step h
theorem getS_start {args : List Vl} {n i : Nat} {v : Vl} (h : getS i (args.map some ++ List.replicate n none) = some v) : args[i]? = some v := by
  have h := getS_some h
  by_cases hi : i < args.length
  · rw [List.getElem?_append_left (by simpa using hi), List.getElem?_map] at h
    obtain ⟨w, e, q⟩ := Option.map_eq_some_iff.mp h
    cases q
    exact e
  · rw [List.getElem?_append_right (by simpa using hi), List.getElem?_replicate] at h
    split at h <;> cases h
theorem getS_start_of {args : List Vl} {n i : Nat} {v : Vl} (h : args[i]? = some v) : getS i (args.map some ++ List.replicate n none) = some v := by
  have hi : i < args.length := by
    rcases Nat.lt_or_ge i args.length with q | q
    · exact q
    · rw [List.getElem?_eq_none q] at h; cases h
  refine getS_of ?_
  rw [List.getElem?_append_left (by simpa using hi), List.getElem?_map, h] <;> rfl
theorem start_get {N : List PySem.Str} {xs : List V} {i : Nat} {x : V} (h : xs[i]? = some x) : (L2.start N xs)[i]? = some (some x) := by
  have hi : i < xs.length := by
    rcases Nat.lt_or_ge i xs.length with q | q
    · exact q
    · rw [List.getElem?_eq_none q] at h; cases h
  unfold L2.start
  rw [List.getElem?_append_left (by simpa using hi), List.getElem?_map, h] <;> rfl
theorem SR.start {T : Kt} {F H : Hp} {xs : List V} {vs : List Vl} {N : List PySem.Str} (hp : HpOk T F H) (ha : ArgsR T F H xs vs) (hl : vs.length ≤ N.length) : SR T F H (vs.map some ++ List.replicate (N.length - vs.length) none) (L2.start N xs) := by
  have lx : xs.length = vs.length := Paired.length ha.all
  refine ⟨hp.sub, ?_, fun i v e => ?_, fun i j d e p h1 h2 h3 h4 => ?_, hp.tabs, hp.ft⟩
  · unfold L2.start
    simp [lx]
  · have e := getS_start e
    obtain ⟨x, hx⟩ := pair_some ha.all e
    have q := pair_get ha.all hx e
    have sx := start_get (N := N) hx
    cases v with
    | frz d => exact ⟨x, sx, q⟩
    | own d => obtain ⟨p, o, rfl, r⟩ := q; exact ⟨p, o, sx, r⟩
    | clo _ _ => exact q.elim
    | lam _ => exact q.elim
  · have h1 := getS_start h1
    have h2 := getS_start h2
    obtain ⟨x, hx⟩ := pair_some ha.all h1
    obtain ⟨y, hy⟩ := pair_some ha.all h2
    rw [start_get hx] at h3
    rw [start_get hy] at h4
    cases h3
    cases h4
    exact ha.apart i j d e p h1 h2 hx hy
/-- behind a body, as the caller has it -/
theorem PostS.c {T : Kt} {F H F' H' : Hp} {xs : List V} {vs : List Vl} {N : List PySem.Str} {ρ' : Dp.Env} {σ' : L2.St} (ha : ArgsR T F H xs vs) (P : PostS T (ownIx vs 0) F H (vs.map some ++ List.replicate (N.length - vs.length) none) (L2.start N xs) F' H' ρ' σ') : PostC T F H xs vs F' H' (slots vs.length ρ') where
  hp := P.sr.hp
  gr := P.gr
  fr := fun p o h1 h2 h3 h4 => P.fr p o h1 h2 h3 fun ⟨i, d, e1, e2⟩ => by
    have e1 := getS_start e1
    obtain ⟨x, hx⟩ := pair_some ha.all e1
    rw [start_get hx] at e2
    cases e2
    exact h4 i d e1 hx
  gb := fun i d p v h1 h2 h3 => by
    obtain ⟨_, h3⟩ := slots_get h3
    have hi : i ∈ ownIx vs 0 := by simpa using ownIx_mem (m := 0) h1
    have e := P.lk i hi
    rw [start_get h2] at e
    have q := P.sr.slot i v h3
    cases v with
    | frz d' => obtain ⟨x, a, b⟩ := q; rw [e] at a; cases a; exact b
    | own d' => obtain ⟨p', o, a, b, c, r⟩ := q; rw [e] at a; cases a; exact ⟨b, o, c, r⟩
    | clo _ _ => exact q
    | lam _ => exact q
  th := P.th
theorem RtOk.c {T : Kt} {H F' H' : Hp} {vs : List Vl} {n : Nat} {σ : L2.St} {x : V} {v : Vl} (h : RtOk T (ownIx vs 0) H (vs.map some ++ List.replicate n none) σ F' H' x v) : VOk T H F' H' x v := by
  cases v with
  | frz d => exact h
  | own d =>
    obtain ⟨p, o, a, b, c⟩ := h
    refine ⟨p, o, a, ?_, c⟩
    rcases b with b | ⟨j, hj, e, k, _⟩
    · exact b
    · exact absurd (by simpa using ownIx_mem (m := 0) (getS_start k)) hj
  | clo _ _ => exact h
  | lam _ => exact h
/-- what all texts stand on -/
structure Gb where
  P : Program
  w : World
  mg : PySem.Str → Option Value
  base : Heap
  T : Kt
  Pr : Prog
/-- the context of a body -/
def CsOf (G : Gb) (k : Nat) (N ps : List PySem.Str) (qual : PySem.Str) (sc : Scope) (S : FnScope N ps sc) (lk : List Nat) (f : Addr) (cd : Value) (A : Around) (outer : List PySem.Env) (s : Shared) (H : Hp) (E : XK) (hr : Room (5 * k + 4) (A.deeper (envOfC qual sc s.heap.objs.size f cd))) : Cs where
  T := G.T
  Pr := G.Pr
  cal := callF G.Pr k
  W := fun cls d _ H => E cls d H
  X := cxOf (L2.CX G.P G.w) G.P G.w G.T.K G.mg G.base N qual sc f cd A outer s H E
  hK := rfl
  hu := by have := hr.un; show (A.deeper (envOfC qual sc s.heap.objs.size f cd)).units + 200 < cLine; omega
  calm := rfl
  hN := S.nd
  lk := lk
  own := passes_of rfl
theorem takes_body {G : Gb} {k : Nat} {N ps : List PySem.Str} {qual : PySem.Str} {sc : Scope} {S : FnScope N ps sc} {lk : List Nat} {f : Addr} {cd : Value} {A : Around} {outer : List PySem.Env} {s : Shared} {H : Hp} {E : XK} {hr : Room (5 * k + 4) (A.deeper (envOfC qual sc s.heap.objs.size f cd))} :
    Takes (CsOf G k N ps qual sc S lk f cd A outer s H E hr).X (CsOf G k N ps qual sc S lk f cd A outer s H E hr).W := takes_of rfl rfl rfl rfl
theorem takes0 {X : Cx} : Takes X W0 := fun u s' ⟨_, _, _, _, _, _, _, _, _, _, _, _, _, _, _, _, w⟩ => w.elim
/-- the rule for a def, the code object known -/
theorem FunD.okC {P : Program} {w : World} {K : PySem.W.Frag} {mg : PySem.Str → Option Value} {base : Heap} {x qual : PySem.Str} {params : Arguments} {body : List Stmt} {scope : Scope} {dvs : List V} {kws : List (PySem.Str × V)} {f : Addr} {fd : FuncData} {CX : CXT} {N ps : List PySem.Str} {k : Nat} {sp : Sp}
    (F : FunD K x qual params body scope dvs kws f fd) (S : FnScope N ps scope) (len : ∀ vs H Q E, sp vs H Q E → vs.length = ps.length)
    (hbody : ∀ (cdv : Value), fd.code = cdv → ∀ (A : Around) (outer : List PySem.Env) (s : Shared) (H : Hp) (vs : List V) (Q : VK) (E : XK), Room k (A.deeper (envOfC qual scope s.heap.objs.size f cdv)) → sp vs H Q E →
      ∃ t, PSs (cxOf CX P w K mg base N qual scope f cdv A outer s H E) body t ∧ t { nx := fun _ H' => Q .non H', rt := Q } (L2.start N vs) H) : FnOk P w K mg base CX (k + 1) f fd ps sp := by
  obtain ⟨oc, od, dV, kV, doc, pm, an, cdv, ct, osl, rfl, lk, hcd, _, _⟩ := F.ex
  exact fn_of lk hcd S len fun A outer s H vs Q E hr hsp => hbody cdv rfl A outer s H vs Q E hr hsp
/-- THE RULE for a function -/
theorem fn_body {G : Gb} {k f : Nat} {N ps : List PySem.Str} {x qual : PySem.Str} {st : Stmt} {fd : FuncData} {body : Sms} {np : Nat} (Fn : FunD G.T.K x qual (defArgs st) (defBody st) (defScope st) [] [] (G.T.fa f) fd) (S : FnScope N ps (defScope st)) (hd : G.Pr.defs[f]? = some ⟨np, N.length, body⟩) (hnp : np = ps.length)
    (hb : ∀ (cd : Value), fd.code = cd → ∀ (lk : List Nat) (A : Around) (outer : List PySem.Env) (s : Shared) (H : Hp) (E : XK) (hr : Room (5 * k + 4) (A.deeper (envOfC qual (defScope st) s.heap.objs.size (G.T.fa f) cd))), SB (CsOf G k N ps qual (defScope st) S lk (G.T.fa f) cd A outer s H E hr) (defBody st) body) :
    FnOk G.P G.w G.T.K G.mg G.base (L2.CX G.P G.w) (5 * (k + 1)) (G.T.fa f) fd ps (spD G.T (callF G.Pr (k + 1)) (.fn f)) := by
  have run : ∀ {vs : List Vl} {r : Res Vl} {ps' : List (Option Vl)}, callF G.Pr (k + 1) (.fn f) vs = some (r, ps') → runF G.Pr (callF G.Pr k) np N.length body vs = some (r, ps') := fun {vs r ps'} h => by
    have h : (match G.Pr.defs[f]? with | some d => runF G.Pr (callF G.Pr k) d.np d.n d.body vs | none => none) = some (r, ps') := h
    rw [hd] at h
    exact h
  refine FunD.okC Fn S (fun xs H Q E ⟨F, vs, r, ps', hp, ha, hc, _⟩ => ?_) fun cdv ecd A outer s H xs Q E hr ⟨F, vs, r, ps', hp, ha, hc, q⟩ => ?_
  · rw [Paired.length ha.all, (runF_some (run hc)).1, hnp]
  · obtain ⟨h1, r0, ρ', e, h2, h3⟩ := runF_some (run hc)
    have hpl : ps.length ≤ N.length := by have := congrArg List.length S.pre; rw [List.length_take] at this; omega
    have hl : vs.length ≤ N.length := by omega
    refine ⟨_, hb cdv ecd (ownIx vs 0) A outer s H E hr, F, _, PostS.refl (SR.start hp ha hl), r0, ρ', by rw [h1]; exact e, ?_⟩
    subst h2
    rw [← h1] at q
    cases r0 with
    | err c =>
      have h3 : r = .err c := h3
      subst h3
      exact fun F' H' σ' d hd P => q F' H' d hd (P.c ha)
    | ok fl =>
      cases fl with
      | nx =>
        have h3 : r = .ok (.frz .non) := h3
        subst h3
        exact fun F' H' σ' P => q .non F' H' (P.c ha) .non
      | ret v =>
        have h3 : r = .ok v := h3
        subst h3
        exact fun y F' H' σ' P rt => q y F' H' (P.c ha) rt.c
theorem fn_zero {G : Gb} {f : Nat} {fd : FuncData} {ps : List PySem.Str} : FnOk G.P G.w G.T.K G.mg G.base (L2.CX G.P G.w) 0 (G.T.fa f) fd ps (spD G.T (callF G.Pr 0) (.fn f)) :=
  ⟨fun xs H Q E ⟨F, vs, r, ps', hp, ha, hc, _⟩ => (nomatch hc), fun A outer s H args us xs Q E hr he hb hv ⟨F, vs, r, ps', hp, ha, hc, _⟩ => (nomatch hc)⟩
/-- all functions at a depth -/
def FnAll (G : Gb) (names : List PySem.Str) (k : Nat) : Prop := ∀ (f : Nat) (nm : PySem.Str), names[f]? = some nm → (∃ fd ps, FnOk G.P G.w G.T.K G.mg G.base (L2.CX G.P G.w) (5 * k) (G.T.fa f) fd ps (spD G.T (callF G.Pr k) (.fn f)) ∧ Binds G.T.K fd ps []) ∧ G.mg nm = some (.ref (G.T.fa f)) ∧ PySem.W.keepIn G.T.K (.ref (G.T.fa f)) = true
theorem feC {G : Gb} {names : List PySem.Str} {k : Nat} (fe : FnAll G names k) {N ps : List PySem.Str} {qual : PySem.Str} {sc : Scope} {S : FnScope N ps sc} {lk : List Nat} {fA : Addr} {cd : Value} {A : Around} {outer : List PySem.Env} {s : Shared} {H : Hp} {E : XK} {hr : Room (5 * k + 4) (A.deeper (envOfC qual sc s.heap.objs.size fA cd))} {f : Nat} {nm : PySem.Str} (h : names[f]? = some nm) :
    FnE (CsOf G k N ps qual sc S lk fA cd A outer s H E hr).toCc f nm := by
  obtain ⟨⟨fd, qs, F, B⟩, m, kp⟩ := fe f nm h
  exact ⟨⟨5 * k, fd, qs, F, hr.mono (by omega), B⟩, m, kp⟩
theorem FnE.blk {C : Cc} {f : Nat} {nm : PySem.Str} (h : FnE C f nm) {s : Shared} {H : Hp} {scope : Scope} {A : Addr} {cl : List (PySem.Str × Addr)} {fp : List Addr} : FnE (C.blk s H scope A cl fp) f nm := ⟨h.fn, h.mg, h.kp⟩
end Dp
end
section
set_option Elab.async false
set_option linter.all false
set_option maxRecDepth 100000
set_option maxHeartbeats 2000000
/-! S18: a place of an own thing is stored to. -/
namespace Dp
open PySem PySem.Spec PyProof.Rows L2
section
variable {C : Cs} {e k : Expr} {x y : Ex} {pos : Pos}
theorem set_D : PSet C.X fun o i v H Q => rSetL o i v H Q ∨ rSetD o i v H Q := by
  intro pins s σ H o i v ov iv u Q I ro ri rv h
  rcases h with h | h
  · exact set_list pins s σ H o i v ov iv u Q I ro ri rv h
  · exact set_dict (by have := C.hu; omega) pins s σ H o i v ov iv u Q I ro ri rv h
theorem ps_put {o i value : Expr} {to ti tv : TE} {pos' : Pos} {rs : TSet} (ho : PE C.X o to) (hi : PE C.X i ti) (hv : PE C.X value tv) (hr : PSet C.X rs) (hs : swapsWith value (some (.Subscript o i pos')) pos.line C.X.env = pure false) :
    PS C.X (.Assign [.Subscript o i pos'] value pos) (fun D σ H => tv σ H fun v H1 => to σ H1 fun z H2 => ti σ H2 fun w H3 => rs z w v H3 fun H4 => D.nx σ H4) := by
  refine ⟨fun pins s σ H D I h => ?_⟩
  refine wpAny_Assign_Subscript (thn (hv.run pins s σ H _ I h) fun r s1 ⟨v, H1, I1, rv, q1⟩ => thn (ho.run pins s1 σ H1 _ I1 q1) fun u s2 ⟨z, H2, I2, rx, q2⟩ => thn (hi.run pins s2 σ H2 _ I2 q2) fun iv s3 ⟨w, H3, I3, ry, q3⟩ => ?_) hs
  exact thn (hr pins s3 σ H3 z w v u iv r _ I3 rx ry rv q3) fun _ s4 ⟨H4, I4, q4⟩ => ⟨σ, H4, I4, q4⟩
theorem chk_rd {T : Kt} {lk : List Nat} {W : WX} {F0 H0 F H : Hp} {ρ0 ρ : Dp.Env} {σ0 σ : L2.St} {D : Ends} {i : Nat} {g : Unit → M Fl} (h : tSa T lk W F0 H0 ρ0 σ0 F ρ (M.bind (chkOwn i) g) D σ H) :
    ∃ p, σ[i]? = some (some (.ref p)) ∧ tSa T lk W F0 H0 ρ0 σ0 F ρ (g ()) D σ H := by
  obtain ⟨P, r, ρ', e, q⟩ := h
  cases c : getS i ρ with
  | none => rw [M.bind_none (by unfold chkOwn; rw [c])] at e; cases e
  | some v =>
    cases v with
    | own d =>
      obtain ⟨p, o, e1, _⟩ := P.sr.slot i _ c
      rw [M.bind_ok (a := ()) (ρ' := ρ) (by unfold chkOwn; rw [c])] at e
      exact ⟨p, e1, P, r, ρ', e, q⟩
    | frz _ => rw [M.bind_none (by unfold chkOwn; rw [c])] at e; cases e
    | clo _ _ => rw [M.bind_none (by unfold chkOwn; rw [c])] at e; cases e
    | lam _ => rw [M.bind_none (by unfold chkOwn; rw [c])] at e; cases e
theorem setAt_rd {T : Kt} {lk : List Nat} {W : WX} {F0 H0 F H : Hp} {ρ0 ρ : Dp.Env} {σ0 σ : L2.St} {D : Ends} {i : Nat} {kd d : Dp.D} {p : Addr} {w v : V} (h : tSa T lk W F0 H0 ρ0 σ0 F ρ (M.bind (setAt i kd d) fun _ => M.pure .nx) D σ H) (hx : σ[i]? = some (some (.ref p)))
    (rk : RdR T F H w kd) (rv : Rep T F v d) : (fun o i v H Q => rSetL o i v H Q ∨ rSetD o i v H Q) (.ref p) w v H fun H4 => D.nx σ H4 := by
  obtain ⟨P, r, ρ', e, q⟩ := h
  cases c : getS i ρ with
  | none => rw [M.bind_none (by unfold setAt; rw [c])] at e; cases e
  | some u =>
    cases u with
    | frz _ => rw [M.bind_none (by unfold setAt; rw [c])] at e; cases e
    | clo _ _ => rw [M.bind_none (by unfold setAt; rw [c])] at e; cases e
    | lam _ => rw [M.bind_none (by unfold setAt; rw [c])] at e; cases e
    | own dd =>
      cases hs : setD dd kd d with
      | none => rw [M.bind_none (by unfold setAt; rw [c]; dsimp only; rw [hs])] at e; cases e
      | some d2 =>
        rw [M.bind_ok (a := ()) (ρ' := ρ.set i (some (.own d2))) (by unfold setAt; rw [c]; dsimp only; rw [hs])] at e
        cases e
        obtain ⟨p', o, e1, e2, e3, ro⟩ := P.sr.slot i _ c
        rw [hx] at e1
        cases e1
        have fin : ∀ o', OwnR T F o' d2 → D.nx σ (upd H p o') := fun o' r' => q F _ σ (P.trans (Post.change P.sr c hx e2 e3 ro r').s)
        cases ro with
        | @lst us l r1 =>
          cases kd with
          | int j =>
            obtain rfl := rk.int
            obtain ⟨n, hn, rfl⟩ := Option.map_eq_some_iff.mp (show (place l.length j).map (fun n => Dp.D.lst (l.set n d)) = some d2 from hs)
            rw [place_ixN, ← r1.length] at hn
            exact .inl ⟨p, us, j, n, rfl, rfl, e3, hn, fin _ (.lst (r1.set rv n))⟩
          | _ => cases hs
        | @dct kvs ks vs r1 r2 =>
          obtain ⟨pq, hn, rfl⟩ := Option.map_eq_some_iff.mp (show (Dp.putK ks vs kd d).map (fun p => Dp.D.dct p.1 p.2) = some d2 from hs)
          have hk : isKey kd = true := by
            unfold Dp.putK at hn
            split at hn
            · rename_i z; exact z.1
            · cases hn
          obtain ⟨key, rfl, rfl⟩ := key_of rk hk
          have rkey : Rep T F (kV key) (kD key) := by
            rcases rk with rk | ⟨p', o', e', _⟩
            · exact rk
            · cases key <;> cases e'
          obtain ⟨ks', vs'⟩ := pq
          obtain ⟨k1, k2, k3⟩ := put_rep2 rkey rv r1 r2 hn
          exact .inr ⟨p, _, rfl, DPut.k e3 k3, fin _ (.dct k1 k2)⟩
theorem ss_seti {nm : PySem.Str} {p pos' : Pos} (i : Nat) (hn : C.X.N[i]? = some nm) (hv : Vis C.X.env.scope nm) (hd : (nm == ("__debug__" : PySem.Str)) = false) (hcd : (nm == ("__classdict__" : PySem.Str)) = false) (hk : SX C.toCc k x) (he : SX C.toCc e y)
    (hs : swapsWith e (some (.Subscript (.Name nm p) k pos')) pos.line C.X.env = pure false) : SS C (.Assign [.Subscript (.Name nm p) k pos'] e pos) (.seti i x y) :=
  PS.imp (ps_put (pe_var hn hv hd hcd) hk.o he.v set_D hs) fun D σ H ⟨F, ρ, h⟩ => by
    have h : tSa C.T C.lk C.W F H ρ σ F ρ (M.bind (evB C.Pr C.cal y).1 fun v => M.bind (frzV v) fun d => M.bind (chkOwn i) fun _ => M.bind (opA x (evB C.Pr C.cal x).1) fun z => M.bind z.d fun kd => M.bind (setAt i kd d) fun _ => M.pure .nx) D σ H := h
    refine tG.imp (h.ex (R := RV C.T)) fun v H1 ⟨F1, ρ1, u, P, r, h1⟩ => ?_
    obtain ⟨d, F2, s, rp, P2, h2⟩ := h1.shr P r
    obtain ⟨p, hp, h3⟩ := chk_rd (h2 (PostS.refl h.1.sr))
    refine ⟨_, hp, tG.imp (h3.ex (R := RA C.T)) fun w H3 ⟨F3, ρ3, a, P3, r3, h4⟩ => ?_⟩
    obtain ⟨v1, kd, e1, e2, h5⟩ := h4.dd
    exact setAt_rd h5 hp (r3.rd h5.1.sr e1 e2) (rp.mono P3.gr)
end
end Dp
end
section
set_option Elab.async false
set_option linter.all false
set_option maxRecDepth 100000
set_option maxHeartbeats 2000000
/-! S19: dict displays; min, max of two. -/
namespace Dp
open PySem PySem.Spec PyProof.Rows L2
section
variable {C : Cc} {a b : Expr} {x y : Ex} {pos : Pos}
/-- of two ints -/
def BiR2 (C : Cc) (f : Value) (b : Bi) : Prop := CallR C.X f fun vs H Q => vs.length = 2 ∧ ∃ F ds v, Same F H ∧ Paired (RdR C.T F H) vs ds ∧ biD C.Pr.sub b ds = some v ∧ ∀ z F' H', Grow F H F' H' → VOk C.T H F' H' z v → Q z H'
theorem bi2_min : BiR2 C (.builtin "min") .min := by
  intro pins s σ H xs us Q I r ⟨hl, F, ds, v, e, rp, hw, k⟩
  cases rp with
  | nil => cases hl
  | @cons _ p _ _ h1 rp =>
    cases rp with
    | nil => cases hl
    | @cons _ q _ _ h2 rp =>
      cases rp with
      | cons _ _ => simp at hl
      | nil =>
        cases p with
        | int i =>
          cases q with
          | int j =>
            cases hw
            obtain rfl := h1.int
            obtain rfl := h2.int
            exact call_min2 C.calm pins s σ H _ us Q I r ⟨i, j, rfl, k _ F H (Grow.refl e) (.int _)⟩
          | _ => cases hw
        | lst l => cases l <;> cases hw
        | _ => cases hw
theorem bi2_max : BiR2 C (.builtin "max") .max := by
  intro pins s σ H xs us Q I r ⟨hl, F, ds, v, e, rp, hw, k⟩
  cases rp with
  | nil => cases hl
  | @cons _ p _ _ h1 rp =>
    cases rp with
    | nil => cases hl
    | @cons _ q _ _ h2 rp =>
      cases rp with
      | cons _ _ => simp at hl
      | nil =>
        cases p with
        | int i =>
          cases q with
          | int j =>
            cases hw
            obtain rfl := h1.int
            obtain rfl := h2.int
            exact call_max2 C.calm pins s σ H _ us Q I r ⟨i, j, rfl, k _ F H (Grow.refl e) (.int _)⟩
          | _ => cases hw
        | lst l => cases l <;> cases hw
        | _ => cases hw
theorem sx_bi2 {e : Expr} {es : List Expr} {xs : Exs} {b : Bi} {nm : PySem.Str} {id : String} {p : Pos} (hc : BiR2 C (.builtin id) b) (hg : Gl C.X nm) (hm : C.X.mg nm = none) (hv : bootBuiltins nm = some (.builtin id)) (ha : SAs C 2 (e :: es) xs) (hn : nm ≠ "__name__") (hdb : (nm == ("__debug__" : PySem.Str)) = false)
    (he : starEach (e :: es) C.X.env = (false, eval e C.X.env) :: starEach es C.X.env) (hpl : (backTo pos (starEach es C.X.env)).any (·.1) = false) : SX C (.Call (.Name nm p) (e :: es) [] pos) (.bi b xs) :=
  SX.mk' rfl (PE.imp (pe_callB hc hg hm hv ha hn hdb he hpl) fun σ H Q ⟨F, ρ, h⟩ => by
    have h : tGa C.T F H ρ F ρ (RV C.T) C.W (M.bind (evalAs C.Pr C.cal xs) fun as => M.bind (A.ds as) fun ds => M.opt (biD C.Pr.sub b ds)) σ H Q := h
    refine tG.imp h.bind fun vs H1 ⟨F1, ρ1, as, P, r, h1⟩ => ⟨r.2, ?_⟩
    obtain ⟨ds, r1, h2⟩ := h1.ds r.1
    obtain ⟨v, e, h3⟩ := h2.optEnd
    exact ⟨F1, ds, v, h3.1.sr.sub, r1, e, fun z F' H' g r => h3.val g r⟩) rfl fun _ => rfl

/-! ### a dict of one entry -/
/-- the first part's run from another heap -/
theorem tGa.at {ι α β κ : Type} {T : Kt} {F0 H0 F H H' : Hp} {ρ0 ρ : Dp.Env} {σ : L2.St} {W : WX} {R1 : Rl κ α} {R : Rl ι β} {f : M α} {g : α → M β} {Q : ι → Hp → Prop} (h : tGa T F0 H0 ρ0 F ρ R W (M.bind f g) σ H Q) (s' : SR T F H' ρ σ) (hP : ∀ F2 H2 ρ2, Post T F H' ρ σ F2 H2 ρ2 → Post T F H ρ σ F2 H2 ρ2) :
    tGa T F H' ρ F ρ R1 W f σ H' fun x H2 => ∃ F2 ρ2 a, Post T F H' ρ σ F2 H2 ρ2 ∧ R1 H' F2 H2 σ x a ∧ tGa T F0 H0 ρ0 F2 ρ2 R W (g a) σ H2 Q := by
  obtain ⟨P0, r, ρ', e, q⟩ := h
  refine ⟨Post.refl s', ?_⟩
  cases ef : f ρ with
  | none => rw [M.bind_none ef] at e; cases e
  | some p =>
    obtain ⟨r1, ρ1⟩ := p
    refine ⟨r1, ρ1, rfl, ?_⟩
    cases r1 with
    | err c =>
      rw [M.bind_err ef] at e
      cases e
      exact fun F2 H2 d hd P => q F2 H2 d hd (P0.trans (hP _ _ _ P))
    | ok a =>
      rw [M.bind_ok ef] at e
      exact fun x F2 H2 P r1 => ⟨F2, ρ1, a, P, r1, P0.trans (hP _ _ _ P), r, ρ', e, q⟩
abbrev Rp (T : Kt) : Rl (V × V) (List Dp.D × List Dp.D) := fun _ F _ _ x p => ∃ kd vd, p = ([kd], [vd]) ∧ Rep T F x.1 kd ∧ Rep T F x.2 vd
theorem sx_dct1 (ha : SX C a x) (hb : SX C b y) : SX C (.Dict [some a] [b] pos) (.dct (.cons x y .nil)) :=
  SX.mk' rfl (PE.imp (pe_disp (pps_cons ha.v hb.v pps_nil) rfl rfl (by simp) (by show 1 ≤ 15; decide)) fun σ H Q ⟨F, ρ, h⟩ => by
    intro p np
    have h : tGa C.T F H ρ F ρ (RV C.T) C.W (M.bind (evalKV C.Pr C.cal (.cons x y .nil)) fun p => M.bind (M.opt (putAll [] [] p.1 p.2)) fun q => M.pure (.own (.dct q.1 q.2))) σ H Q := h
    have s0 := h.1.sr
    have P0 : Post C.T F H ρ σ F (upd H p (.dK [])) ρ := Post.newOwn s0 np
    have h1 := h.at (R1 := Rp C.T) P0.sr fun _ _ _ P => P0.trans P
    have h1 : tGa C.T F (upd H p (.dK [])) ρ F ρ (Rp C.T) C.W (M.bind (evB C.Pr C.cal x).1 fun kv => M.bind (frzV kv) fun kd => M.bind (evB C.Pr C.cal y).1 fun vv => M.bind (frzV vv) fun vd => M.pure ([kd], [vd])) σ (upd H p (.dK [])) _ := h1
    refine tG.imp h1.bind fun kx H1 ⟨F1, ρ1, kv, P1, r1, h2⟩ => ?_
    obtain ⟨kd, F2, s2, rk, h3⟩ := h2.shr (r1.pre fun _ e => e)
    refine tG.imp h3.bind fun vx H3 ⟨F3, ρ3, vv, P3, r3, h4⟩ => ?_
    obtain ⟨vd, F4, s4, rv, h5⟩ := h4.shr (r3.pre h3.1.th)
    obtain ⟨F5, ρ5, pq, P5, ⟨kd', vd', e1, rk', rv'⟩, h6⟩ := h5.ret0 (x := (kx, vx)) (a := ([kd], [vd])) ⟨kd, vd, rfl, (rk.mono P3.gr).mono s4, rv⟩
    subst e1
    obtain ⟨ks, e2, h7⟩ := h6.opt
    obtain ⟨c1, c2⟩ := P5.fr p (.dK []) (s0.sub.free np) upd_same (fun ps z => nomatch z) ((Post.refl s0).notOwn np)
    have hk : isKey kd' = true ∧ ks = ([kd'], [vd']) := by
      have e2 : (match Dp.putK [] [] kd' vd' with | some (k', v') => putAll k' v' [] [] | none => none) = some ks := e2
      unfold Dp.putK at e2
      by_cases q : isKey kd' = true ∧ ([] : List Dp.D).length < LIM
      · rw [if_pos q] at e2
        cases e2
        exact ⟨q.1, rfl⟩
      · rw [if_neg q] at e2
        cases e2
    obtain ⟨hk, rfl⟩ := hk
    obtain ⟨key, rfl, rfl⟩ := key_of (.inl rk' : RdR C.T F5 H3 kx kd') hk
    refine ⟨c2, [(key, vx)], rfl, by show 1 ≤ 15; decide, ?_⟩
    obtain ⟨P7, r7, ρ7, e7, q7⟩ := h7
    cases e7
    exact q7 _ F5 _ (P7.priv np c1 c2 (fun ps z => nomatch z) (fun c nm z => nomatch z)) ⟨p, _, rfl, np, c1, upd_same, .dct (.cons rk' .nil) (.cons rv' .nil)⟩) rfl fun _ => rfl
end
end Dp
end
section
set_option Elab.async false
set_option linter.all false
set_option maxRecDepth 100000
set_option maxHeartbeats 2000000
/-! S20: sorted; min, max of a list. -/
namespace Dp
open PySem PySem.Spec PyProof.Rows L2
mutual
theorem tok_py : ∀ d : D, tokD d = PySem.W.keyToks (py d)
  | .non => by simp [tokD, py, PySem.W.keyToks]
  | .bl b => by simp [tokD, py, PySem.W.keyToks]
  | .int i => by simp [tokD, py, PySem.W.keyToks]
  | .str s => by simp [tokD, py, PySem.W.keyToks]
  | .tup l => by simp only [tokD, py, PySem.W.keyToks]; exact tok_pyL l
  | .lst l => by simp only [tokD, py, PySem.W.keyToks]; exact tok_pyL l
  | .dct _ _ => by simp [tokD, py, PySem.W.keyToks]
  | .scr _ => by simp [tokD, py, PySem.W.keyToks]
  | .obj _ _ _ => by simp [tokD, py, PySem.W.keyToks]
  | .exc _ => by simp [tokD, py, PySem.W.keyToks]
  | .fn _ => by simp [tokD, py, PySem.W.keyToks]
theorem tok_pyL : ∀ l : List D, tokL l = PySem.W.keyToksAll (pyL l)
  | [] => by simp [tokL, pyL, PySem.W.keyToksAll]
  | d :: r => by simp only [tokL, pyL, PySem.W.keyToksAll]; rw [tok_py d, tok_pyL r]
end
mutual
theorem alike_py : ∀ d e : D, alikeD d e = true → PySem.W.alike (py d) (py e) = true
  | .non, e, h => by cases e <;> simp [alikeD, py, PySem.W.alike] at h ⊢
  | .bl b, e, h => by cases e <;> simp [alikeD, py, PySem.W.alike] at h ⊢
  | .int i, e, h => by cases e <;> simp [alikeD, py, PySem.W.alike] at h ⊢
  | .str s, e, h => by cases e <;> simp [alikeD, py, PySem.W.alike] at h ⊢
  | .tup l, e, h => by
    cases e with
    | tup m => simp only [py, PySem.W.alike]; exact alike_pyL l m (by simpa [alikeD] using h)
    | _ => simp [alikeD] at h
  | .lst l, e, h => by
    cases e with
    | lst m => simp only [py, PySem.W.alike]; exact alike_pyL l m (by simpa [alikeD] using h)
    | _ => simp [alikeD] at h
  | .dct _ _, e, h => by cases e <;> simp [alikeD] at h
  | .scr _, e, h => by cases e <;> simp [alikeD] at h
  | .obj _ _ _, e, h => by cases e <;> simp [alikeD] at h
  | .exc _, e, h => by cases e <;> simp [alikeD] at h
  | .fn _, e, h => by cases e <;> simp [alikeD] at h
theorem alike_pyL : ∀ l m : List D, alikeL l m = true → PySem.W.alikeAll (pyL l) (pyL m) = true
  | [], m, _ => by simp [pyL, PySem.W.alikeAll]
  | _ :: _, [], _ => by simp [pyL, PySem.W.alikeAll]
  | x :: l, y :: m, h => by
    have h : (alikeD x y && alikeL l m) = true := by simpa [alikeL] using h
    rw [Bool.and_eq_true] at h
    simp only [pyL, PySem.W.alikeAll, alike_py x y h.1, alike_pyL l m h.2, Bool.and_self]
end
theorem ltTok_eq (a b : Int ⊕ List Nat) : ltTok a b = PyProof.Rows.itemLt a b := by
  cases a <;> cases b <;> rfl
theorem lexT_eq : ∀ l m : List (Int ⊕ List Nat), lexT l m = PyProof.Rows.lexLt PyProof.Rows.itemOrd l m
  | [], [] => rfl
  | [], _ :: _ => rfl
  | _ :: _, [] => rfl
  | x :: r, y :: t => by
    show (ltTok x y || (!ltTok y x && lexT r t)) = (PyProof.Rows.itemLt x y || (!PyProof.Rows.itemLt y x && PyProof.Rows.lexLt PyProof.Rows.itemOrd r t))
    rw [ltTok_eq, ltTok_eq, lexT_eq r t]
theorem ltT_py (a b : D) : ltT a b = PySem.W.dataLt (py a) (py b) := by
  unfold ltT PySem.W.dataLt
  rw [lexT_eq, tok_py, tok_py]
theorem pyL_map : ∀ l : List D, pyL l = l.map py
  | [] => rfl
  | d :: r => by show py d :: pyL r = _; rw [pyL_map r] <;> rfl
theorem depL_mem {d : D} : ∀ {l : List D}, d ∈ l → dep d ≤ depL l
  | _ :: _, h => by
    rcases List.mem_cons.mp h with rfl | h
    · exact Nat.le_max_left _ _
    · exact Nat.le_trans (depL_mem h) (Nat.le_max_right _ _)
mutual
theorem py_inj : ∀ d e : D, dep d ≤ 900 → dep e ≤ 900 → noNon d = true → noNon e = true → alikeD d e = true → py d = py e → d = e
  | .non, e, _, _, h, _, _, _ => by cases h
  | .bl b, e, _, he, _, _, ha, h => by cases e <;> simp [alikeD, py] at ha h ⊢; exact h
  | .int b, e, _, he, _, _, ha, h => by cases e <;> simp [alikeD, py] at ha h ⊢; exact h
  | .str b, e, _, he, _, _, ha, h => by cases e <;> simp [alikeD, py] at ha h ⊢; exact h
  | .tup l, e, hd, he, _, _, ha, h => by
    cases e with
    | tup m =>
      have h1 : depL l + 1 ≤ 900 := hd
      have h2 : depL m + 1 ≤ 900 := he
      rw [py_injL l m (by omega) (by omega) (by simpa [alikeD] using ha) (by simpa [py] using h)]
    | _ => simp [alikeD] at ha
  | .lst l, e, hd, he, _, _, ha, h => by
    cases e with
    | lst m =>
      have h1 : depL l + 1 ≤ 900 := hd
      have h2 : depL m + 1 ≤ 900 := he
      rw [py_injL l m (by omega) (by omega) (by simpa [alikeD] using ha) (by simpa [py] using h)]
    | _ => simp [alikeD] at ha
  | .dct _ _, e, hd, _, _, _, ha, _ => by cases e <;> simp [alikeD] at ha
  | .scr _, e, hd, _, _, _, ha, _ => by cases e <;> simp [alikeD] at ha
  | .obj _ _ _, e, hd, _, _, _, ha, _ => by cases e <;> simp [alikeD] at ha
  | .exc _, e, hd, _, _, _, ha, _ => by cases e <;> simp [alikeD] at ha
  | .fn _, e, hd, _, _, _, ha, _ => by cases e <;> simp [alikeD] at ha
theorem py_injL : ∀ l m : List D, depL l ≤ 900 → depL m ≤ 900 → alikeL l m = true → pyL l = pyL m → l = m
  | [], [], _, _, _, _ => rfl
  | [], _ :: _, _, _, _, h => by simp [pyL] at h
  | _ :: _, [], _, _, _, h => by simp [pyL] at h
  | x :: l, y :: m, hd, he, ha, h => by
    have ha : (alikeD x y && alikeL l m) = true := by simpa [alikeL] using ha
    rw [Bool.and_eq_true] at ha
    obtain ⟨d1, d2⟩ := depL_le hd
    obtain ⟨e1, e2⟩ := depL_le he
    have h : py x :: pyL l = py y :: pyL m := h
    obtain ⟨h1, h2⟩ := List.cons.inj h
    have hx : x = y := by
      cases x with
      | non => cases y <;> simp [alikeD] at ha <;> rfl
      | _ => exact py_inj _ y d1 e1 rfl (by cases y <;> simp [alikeD, noNon] at ha ⊢) ha.1 h1
    rw [hx, py_injL l m d2 e2 ha.2 h2]
end
section
variable {C : Cc}
theorem each_rel {T : Kt} {F : Hp} : ∀ {vs : List V} {ds : List D} {us : List Value}, RepL T F vs ds → Vals vs us → PySem.W.EachIs (fun v d => ∃ x, RelV x v ∧ Rep T F x d) us ds
  | _, _, _, .nil, .nil => .nil
  | _, _, _, .cons h r, .cons q t => .cons ⟨_, q, h⟩ (each_rel r t)
theorem of_each {T : Kt} {F : Hp} : ∀ {ds : List D} {us : List Value}, PySem.W.EachIs (fun v d => ∃ x, RelV x v ∧ Rep T F x d) us ds → ∃ vs, RepL T F vs ds ∧ Vals vs us
  | _, _, .nil => ⟨[], .nil, .nil⟩
  | _, _, .cons ⟨x, q, h⟩ t => by
    obtain ⟨vs, r, v⟩ := of_each t
    exact ⟨x :: vs, .cons h r, .cons q v⟩
theorem bi_sorted : BiR C (.builtin "sorted") .sorted := by
  intro pins s σ H xs us Q I r ⟨F, ds, v, e, rp, hw, k⟩
  cases rp with
  | nil => cases hw
  | @cons _ p _ _ hp rp =>
    cases rp with
    | cons _ _ => cases p <;> cases hw
    | nil =>
      cases p with
      | lst l =>
        obtain ⟨m, e1, rfl⟩ := Option.map_eq_some_iff.mp (show (sortD l).map (fun s => Vl.own (.lst s)) = some v from hw)
        unfold sortD at e1
        split at e1
        · rename_i ok
          cases e1
          unfold sortOk at ok
          rw [Bool.and_eq_true, Bool.and_eq_true] at ok
          obtain ⟨⟨o1, o2⟩, o3⟩ := ok
          have o1 := of_decide_eq_true o1
          obtain ⟨a, vs, rfl, t1, r1⟩ := hp.lst e
          obtain ⟨its, rv, hl, hz⟩ := I.list (.inl (.inl t1))
          rw [Vals.ref1 r]
          have hal : PySem.W.AllAlike (l.map py) := fun d hd d' hd' => by
            obtain ⟨x, hx, rfl⟩ := List.mem_map.mp hd
            obtain ⟨y, hy, rfl⟩ := List.mem_map.mp hd'
            exact alike_py x y (List.all_eq_true.mp (List.all_eq_true.mp o2 x hx) y hy)
          have hk : PySem.W.Sortable (l.map py) := by
            rw [Bool.or_eq_true] at o3
            rcases o3 with o3 | o3
            · refine .inl fun d hd => ?_
              obtain ⟨x, hx, rfl⟩ := List.mem_map.mp hd
              have q := List.all_eq_true.mp o3 x hx
              cases x with
              | tup m =>
                cases m with
                | nil => cases q
                | cons y ys => exact ⟨py y, pyL ys, by simp [py, pyL]⟩
              | _ => cases q
            · refine .inr fun d hd => ?_
              obtain ⟨x, hx, rfl⟩ := List.mem_map.mp hd
              have q := List.all_eq_true.mp o3 x hx
              have q2 := depL_mem hx
              have big : ∀ n : Nat, 1000 ≤ depL l → False := fun _ z => by omega
              cases x with
              | non => cases q
              | tup m => cases q
              | bl b => exact ⟨by simp [py], fun xs => by simp [py]⟩
              | int b => exact ⟨by simp [py], fun xs => by simp [py]⟩
              | str b => exact ⟨by simp [py], fun xs => by simp [py]⟩
              | lst b => exact ⟨by simp [py], fun xs => by simp [py]⟩
              | dct _ _ => exact (big 0 q2).elim
              | scr _ => exact (big 0 q2).elim
              | obj _ _ _ => exact (big 0 q2).elim
              | exc _ => exact (big 0 q2).elim
              | fn _ => exact (big 0 q2).elim
          have er : PySem.W.EachIs (fun v b => ∃ as, Reads s.heap v (py b) as) its l := by
            have key : ∀ {vs : List V} {ds : List D} {us : List Value}, RepL C.T F vs ds → Vals vs us → depL ds ≤ 60 → PySem.W.EachIs (fun v b => ∃ as, Reads s.heap v (py b) as) us ds := by
              intro vs ds us h
              induction h using RepL.rec (motive_1 := fun _ _ _ => True) generalizing us with
              | nil => intro q _; cases q; exact .nil
              | cons h r _ ih =>
                intro q hd
                cases q with
                | cons q t =>
                  obtain ⟨d1, d2⟩ := depL_le hd
                  obtain ⟨c1, _, _⟩ := py_rep (h.mono e) (by omega)
                  exact .cons (Dp.reads I _ _ _ (C.hK ▸ c1) q) (ih t d2)
              | _ => trivial
            exact key r1 rv o1
          have hlen : l.length ≤ sizeLine := by rw [← r1.length]; exact hz
          refine PySem.W.sorted_data (enc := py) (bs := l) hl.isList (each_rel r1 rv) er hal hk hlen (fun b hb => ?_) fun out ho he => ?_
          · have h1 := depL_mem hb
            have h2 : (py b).depth = dep b := by
              obtain ⟨i, hi⟩ := List.getElem?_of_mem hb
              obtain ⟨x, _, rx⟩ := (r1.mono e).get hi
              exact (py_rep rx (by omega)).2.2
            have := C.hu
            omega
          · have hle : PySem.W.dataLe false py = fun a b => !ltT b a := by
              funext a b
              show (!PyProof.Rows.lexLt PyProof.Rows.itemOrd (PySem.W.keyToks (py b)) (PySem.W.keyToks (py a))) = _
              rw [ltT_py] <;> rfl
            rw [hle] at he
            obtain ⟨ws, rw', vw⟩ := of_each he
            obtain ⟨ep, he'⟩ := PyProof.Rows.sortedAll_at s.heap its out.toArray
            have hlw : ws.length ≤ sizeLine := by rw [vw.length, ho]; exact hlen
            refine ⟨.ref _, upd H (s.heap.objs.size + 1) (.lst ws), I.laid (t' := s.toks) (fun _ _ => PyProof.Rows.sortedAll_old) (Nat.le_succ _) ⟨hlw, out, ep, vw, he'⟩, rfl, ?_⟩
            exact k _ F _ (Grow.own e (I.hok.fresh (Nat.le_succ _))) ⟨_, _, rfl, I.hok.fresh (Nat.le_succ _), e.free (I.hok.fresh (Nat.le_succ _)), upd_same, .lst rw'⟩
        · cases e1
      | _ => cases hw
theorem minT_py (x : D) : ∀ l : List D, PySem.W.minD (py x) (pyL l) = py (minT x l) := by
  intro l
  induction l generalizing x with
  | nil => rfl
  | cons y r ih =>
    show PySem.W.minD (if PySem.W.dataLt (py y) (py x) then py y else py x) (pyL r) = py (minT (if ltT y x then y else x) r)
    rw [← ltT_py]
    cases ltT y x with
    | true => exact ih y
    | false => exact ih x
theorem minT_mem (x : D) : ∀ l : List D, minT x l ∈ x :: l := by
  intro l
  induction l generalizing x with
  | nil => exact List.mem_cons_self
  | cons y r ih =>
    show minT (if ltT y x then y else x) r ∈ _
    cases ltT y x with
    | true => exact List.mem_cons_of_mem _ (ih y)
    | false =>
      rcases List.mem_cons.mp (ih x) with h | h
      · show minT x r ∈ _
        rw [h]
        exact List.mem_cons_self
      · exact List.mem_cons_of_mem _ (List.mem_cons_of_mem _ h)
theorem bi_min : BiR C (.builtin "min") .min := by
  intro pins s σ H xs us Q I r ⟨F, ds, v, e, rp, hw, k⟩
  cases rp with
  | nil => cases hw
  | @cons _ p _ _ hp rp =>
    cases rp with
    | @cons _ q _ _ hq rp =>
      cases rp with
      | cons _ _ => cases p <;> first | cases hw | (rename_i l; cases l <;> cases hw) | (cases q <;> cases hw)
      | nil =>
        cases p with
        | int i =>
          cases q with
          | int j =>
            cases hw
            obtain rfl := hp.int
            obtain rfl := hq.int
            exact call_min2 C.calm pins s σ H _ us Q I r ⟨i, j, rfl, k _ F H (Grow.refl e) (.int _)⟩
          | _ => cases hw
        | lst l => cases l <;> cases hw
        | _ => cases hw
    | nil =>
      cases p with
      | lst l =>
        cases l with
        | nil => cases hw
        | cons d0 l =>
          have hw : (if cmpOk (d0 :: l) = true then some (Vl.frz (minT d0 l)) else none) = some v := hw
          split at hw
          · rename_i ok
            cases hw
            unfold cmpOk at ok
            rw [Bool.and_eq_true, Bool.and_eq_true] at ok
            obtain ⟨⟨o1, o2⟩, o3⟩ := ok
            have o1 := of_decide_eq_true o1
            obtain ⟨a, vs, rfl, t1, r1⟩ := hp.lst e
            obtain ⟨its, rv, hl, hz⟩ := I.list (.inl (.inl t1))
            rw [Vals.ref1 r]
            obtain ⟨c1, c2, c3⟩ := py_repL (r1.mono e) (by omega)
            obtain ⟨as, hr⟩ := Dp.readsAll I _ _ its (C.hK ▸ c1) rv
            have al : ∀ x ∈ d0 :: l, ∀ y ∈ d0 :: l, alikeD x y = true := fun x hx y hy => List.all_eq_true.mp (List.all_eq_true.mp o2 x hx) y hy
            have hal : PySem.W.AlikeAll (py d0 :: pyL l) := by
              have e1 : py d0 :: pyL l = (d0 :: l).map py := by rw [pyL_map] <;> rfl
              rw [e1]
              refine ⟨fun x' hx' y' hy' => ?_, fun x' hx' => ?_⟩
              · obtain ⟨x, hx, rfl⟩ := List.mem_map.mp hx'
                obtain ⟨y, hy, rfl⟩ := List.mem_map.mp hy'
                exact alike_py x y (al x hx y hy)
              · obtain ⟨x, hx, rfl⟩ := List.mem_map.mp hx'
                have q := List.all_eq_true.mp o3 x hx
                have q2 := depL_mem hx
                have big : ∀ n : Nat, 1000 ≤ depL (d0 :: l) → False := fun _ z => by omega
                cases x with
                | non => cases q
                | dct _ _ => exact (big 0 q2).elim
                | scr _ => exact (big 0 q2).elim
                | obj _ _ _ => exact (big 0 q2).elim
                | exc _ => exact (big 0 q2).elim
                | fn _ => exact (big 0 q2).elim
                | _ => simp [py]
            refine PySem.W.min_list_data (vs := its.toArray) (x := py d0) (xs := pyL l) (as := as) (I.ok.hd C.calm) hl.isList (by simpa [pyL] using hr) hal ?_ fun i w h' tk bs hi hrd hk => ?_
            · have q3 : PyData.depthAll (py d0 :: pyL l) = depL (d0 :: l) := c3
              have := C.hu
              omega
            · have hi : its[i]? = some w := by simpa using hi
              obtain ⟨x, hx⟩ := pair_some rv hi
              have rw' : RelV x w := pair_get rv hx hi
              obtain ⟨d, hd, rd⟩ := r1.getV hx
              have md := List.mem_of_getElem? hd
              have mm := minT_mem d0 l
              have dd := depL_mem md
              have dm := depL_mem mm
              obtain ⟨b1, _, _⟩ := py_rep (rd.mono e) (by omega)
              obtain ⟨bs', hr'⟩ := Dp.reads I _ _ _ (C.hK ▸ b1) rw'
              rw [minT_py] at hrd
              have pe := PySem.W.alike_unique _ _ _ _ _ (alike_py _ _ (al _ md _ mm)) (PySem.W.reads_keeps hk hr') hrd
              have ed := py_inj d (minT d0 l) (by omega) (by omega) (List.all_eq_true.mp o3 _ md) (List.all_eq_true.mp o3 _ mm) (al _ md _ mm) pe
              subst ed
              exact ⟨x, H, I.kept (t' := tk) hk, rw', k _ F H (Grow.refl e) rd⟩
          · cases hw
      | _ => cases hw
end
end Dp
end
section
set_option Elab.async false
set_option linter.all false
set_option maxRecDepth 100000
set_option maxHeartbeats 4000000
/-! S21: sorted by a key: the shell. -/
namespace Dk
open PySem PySem.Spec PyProof.Rows L2 PySem.W PySem.Calls
section
variable {prog : Program} {w : World} {A : Around} {E : Value → Shared → Prop} {s : Shared}
theorem collect_tup {l : Addr} {vs : List Value} {Q : List Value → Shared → Prop} (hl : s.heap.IsTuple l vs.toArray)
    (h : Q vs { s with heap := (s.heap.push (seqObj "list" #[] 0)).update s.heap.objs.size (Obj.mapSeq (· ++ vs.toArray)) }) (hsz : vs.length ≤ sizeLine) :
    wpAny (model prog w) A (collect (.ref l)) Q E s := by
  obtain ⟨o, ho, hc, n, hd⟩ := id hl
  unfold collect
  refine wpAny_bind (wpAny_runValue (codeAny_builtin entry_proto_collect' ?_))
  show wpAny _ _ (do again (.builtin "list.__iadd__" ⟨[← newList [], .ref l], []⟩)) _ _ s
  refine wpAny_bind (wpAny_newList (wpAny_pure ⟨Code.quiet_builtin _ (by decide +kernel), codeAny_builtin entry_list_iadd' ?_⟩))
  show wpAny _ _ (Builtin.List.listExtendWith (.ref s.heap.objs.size) (.ref l) (.ref s.heap.objs.size)) _ _ { s with heap := s.heap.push (seqObj "list" #[] 0) }
  unfold Builtin.List.listExtendWith
  have ho' : (s.heap.push (seqObj "list" #[] 0)).get? l = some o := Heap.get?_push_of_some _ ho
  refine wpAny_bind (wpAny_typeOf (T := "tuple") ⟨o, ho', hc⟩ ?_)
  have ht : (Value.type "tuple" == Value.type "tuple") = true := by rfl
  rw [if_pos (by rw [ht]; simp)]
  refine wpAny_bind (listItems_at ho' hd ?_)
  refine wpAny_bind (listItems_at (xs := #[]) (n := 0) (Heap.get?_push_size _ rfl) rfl ?_)
  rw [if_neg (by simp)]
  refine wpAny_bind (listUpdate_at (xs := #[]) (n := 0) (Heap.get?_push_size _ rfl) rfl ?_ (Nat.zero_le _) (by show (#[] ++ vs.toArray).size ≤ sizeLine + 1; simp only [Array.size_append, List.size_toArray, List.length_nil]; omega))
  refine wpAny_pure ?_
  show wpAny (model prog w) A (do
      let o ← load s.heap.objs.size
      match o.data with
      | .seq xs _ => pure xs.toList
      | _ => unsupported "internal:collect") Q E { s with heap := (s.heap.push (seqObj "list" #[] 0)).update s.heap.objs.size (Obj.mapSeq (· ++ vs.toArray)) }
  refine wpAny_bind (wpAny_load (get?_update_seq (Heap.get?_push_size _ rfl) _) ?_)
  show wpAny _ _ (pure ((#[] : Array Value) ++ vs.toArray).toList) Q E _
  rw [show ((#[] : Array Value) ++ vs.toArray).toList = vs by simp]
  exact wpAny_pure h
/-- sorted(t, ..) of a tuple -/
theorem sorted_of_sortT {l : Addr} {vs : List Value} {kw : List (Str × Value)} {Q : Value → Shared → Prop} (hl : s.heap.IsTuple l vs.toArray) (hL : vs.length ≤ sizeLine) (ha1 : argsOk "sorted" ⟨[.ref l], kw⟩) (ha2 : ∀ x, argsOk "list.sort" ⟨[.ref x], kw⟩)
    (body : ∀ E' : Value → Shared → Prop, wpAny (model prog w) A.in1.in1 (Builtin.«list.sort» ⟨[.ref (s.heap.objs.size + 1)], kw⟩) (fun f s' => f = .done (.ret .none) ∧ Q (.ref (s.heap.objs.size + 1)) s') E' { s with heap := copyHeap s.heap vs }) :
    wpAny (model prog w) A (call (.builtin "sorted") [.ref l] kw) Q E s := by
  refine call_function_entry_kw kind_sorted plain_sorted entry_sorted ha1 ?_
  unfold Builtin.«sorted»
  refine wpAny_bind (m := checkCount "sorted" 1 1 _) (wpAny_pure ?_)
  refine wpAny_bind (collect_tup hl ?_ hL)
  refine wpAny_bind (wpAny_newList ?_ hL)
  have hsz : ((s.heap.push (seqObj "list" #[] 0)).update s.heap.objs.size (Obj.mapSeq (· ++ vs.toArray))).objs.size = s.heap.objs.size + 1 := by
    rw [Heap.size_update, size_push']
  show wpAny _ _ _ _ _ { s with heap := copyHeap s.heap vs }
  rw [hsz]
  refine wpAny_bind (wpAny_holding (wpAny_call_entry_kw slot_list_sort ⟨_, copyHeap_at s.heap vs, rfl⟩ entry_list_sort ?body (ha2 _)))
  case body =>
    show wpAny (model prog w) A.in1.in1 (Builtin.«list.sort» ⟨[.ref (s.heap.objs.size + 1)], kw⟩) _ _ _
    refine wpAny_mono (body _) (fun f s' hf => ?_) fun _ _ e => e
    obtain ⟨rfl, hq⟩ := hf
    exact ⟨_, rfl, wpAny_pure ⟨_, rfl, hq⟩⟩
variable {a kS : Addr} {vs : List Value} {keys : Array Value} {e1 : Nat} {P : PySem.Fin → Shared → Prop}
/-- the sorting itself; the tail's rule is given -/
theorem keyX_end {κ : PyProof.Rows.KeyKind} (S : SortsAt prog w A s κ keys.toList) (hsz : keys.size = vs.length) (hZ : vs.length ≤ sizeLine)
    (tail : ∀ st : SortSt, failedOf st = none → (arrOf st).map (·.2) = (sortVals κ false keys.toList vs).toArray → wpAny (model prog w) A (ksk_tail a false e1 (.ref kS) st) P E s) :
    wpAny (model prog w) A (ksk_end a false vs.toArray e1 (.ref kS) keys) P E s := by
  obtain ⟨kd, h1, h2⟩ := S.kind
  have hkl : keys.toList.length = vs.length := by
    rw [Array.length_toList]
    exact hsz
  have hK : PyProof.Rows.KeysOf κ (keys.zip vs.toArray) := keysOf_zip S.keys
  have hss : (keys.zip vs.toArray).size = vs.length := by rw [Array.size_zip, hsz, List.size_toArray, Nat.min_self]
  have fin : ∀ st' : SortSt, (arrOf st').Perm (keys.zip vs.toArray) → SortedToK κ (arrOf st') (keys.zip vs.toArray).size →
      Stable κ (arrOf st') (keys.zip vs.toArray) → (arrOf st').map (·.2) = (sortVals κ false keys.toList vs).toArray := by
    intro st' hp hs ht
    have e := sort_out (rev := false) (keys := keys) (items := vs.toArray) (xs := arrOf st') (κ := κ) hK hp hs ht
    have e' := congrArg List.toArray e
    rw [Array.toArray_toList] at e'
    exact e'
  unfold ksk_end
  try dsimp only
  rw [if_neg (by simp)]
  by_cases hl2 : vs.toArray.size < 2
  · rw [if_pos hl2, if_pos hl2]
    refine wpAny_bind (wpAny_pure ?_)
    rw [StateT.run_pure]
    refine wpAny_bind (wpAny_pure ?_)
    try dsimp only
    refine tail (SortSt.mk' general' (keys.zip vs.toArray) #[] 7 none) rfl (fin _ (Array.Perm.refl _) ?_ (Stable.refl _))
    intro i j hij hj
    rw [hss] at hj
    rw [List.size_toArray] at hl2
    have : i = j := by omega
    subst this
    exact KeyOrd.kle_refl _
  · rw [if_neg hl2, if_neg hl2]
    rw [List.size_toArray] at hl2
    refine wpAny_bind (h2 (by omega) _ ?_)
    refine wpAny_bind (wpAny_mono (H.wpS_sortRunsSt (κ := κ) (kd := kd) (a₀ := keys.zip vs.toArray)
      (st := SortSt.mk' kd (keys.zip vs.toArray) #[] 7 none)
      (Q := fun _ st' => failedOf st' = none ∧ (arrOf st').map (·.2) = (sortVals κ false keys.toList vs).toArray)
      h1 hK ⟨Array.Perm.refl _, rfl, rfl⟩ rfl (Stable.refl _) (by rw [hss]; omega) fun st' a1 a2 a3 a4 => ⟨a2, fin st' a1 a3 a4⟩) ?_ fun _ _ e => e)
    rintro ⟨⟨⟩, st'⟩ s' ⟨rfl, hf, ho⟩
    try dsimp only at ho ⊢
    exact tail st' hf ho
end
end Dk
end
section
set_option Elab.async false
set_option linter.all false
set_option maxRecDepth 100000
set_option maxHeartbeats 4000000
/-! S22: a lambda of no captures, made and called. -/
namespace Dk
open PySem PySem.Spec PyProof.Rows L2 NdefX LamX
structure LF where
  qual : Str
  params : Arguments
  body : Expr
  scope : Scope
  c : Addr
abbrev LF.nf (F : LF) : NF := ⟨"<lambda>", F.qual, F.params, [], F.scope, [], F.c⟩
/-- the object at f is the lambda F -/
def LamO (f : Addr) (F : LF) : HO := .ext fun h => ∃ (pm ctv : Value), h.get? f = some (PySem.W.kla_obj "<lambda>" F.qual F.params F.body F.scope [] pm F.c ctv)
theorem lamO_at {P : Program} {w : World} {H : Hp} {h : Heap} {f : Addr} {F : LF} (hok : HOk P w H h) (e : H f = some (LamO f F)) : ∃ (pm ctv : Value), h.get? f = some (PySem.W.kla_obj "<lambda>" F.qual F.params F.body F.scope [] pm F.c ctv) := by
  obtain ⟨z, _, _⟩ := hok f _ e
  exact z
theorem cloFrom_none {cells : List (Str × Addr)} {names : List (Str × NameKind)} (h : ∀ y ∈ names, y.2 ≠ .free) : cloFrom cells names [] = [] := by
  cases e : cloFrom cells names [] with
  | nil => rfl
  | cons p r =>
    have hm : p ∈ cloFrom cells names [] := by rw [e]; exact List.mem_cons_self
    rcases cloFrom_mem (n := p.1) (c := p.2) hm with z | ⟨z, _⟩
    · cases z
    · exact absurd rfl (h _ z)
section
variable {X : Cx} {pins : List (Addr × Obj)} {σ : L2.St} {H : Hp} {s : Shared}
theorem inv_lam {F : LF} {o : Obj} {t' : Nat} {pm ctv : Value} (I : Inv X pins σ H s) (ho : o = PySem.W.kla_obj "<lambda>" F.qual F.params F.body F.scope [] pm F.c ctv) :
    Inv X pins σ (upd H s.heap.objs.size (LamO s.heap.objs.size F)) { s with heap := s.heap.push o, toks := t' } := by
  subst ho
  refine I.laid (a := s.heap.objs.size) (fun b u e => Heap.get?_push_of_some _ e) (Nat.le_refl _) ?_
  have e : (s.heap.push (PySem.W.kla_obj "<lambda>" F.qual F.params F.body F.scope [] pm F.c ctv)).get? s.heap.objs.size = some (PySem.W.kla_obj "<lambda>" F.qual F.params F.body F.scope [] pm F.c ctv) := Heap.get?_push_size _ rfl
  exact ⟨⟨pm, ctv, e⟩, ⟨_, e⟩, fun h1 h2 ⟨p, t, z⟩ st => ⟨p, t, st _ z⟩⟩
theorem lam_makeN {T : List NTab} {nm : Nat → Nat → Str} {c P : Addr} {params : Arguments} {body : Expr} {scope : Scope} {pos : Pos} {E : Value → Shared → Prop} {Q : Value → Shared → Prop} (I : Inv X pins σ H s) (TB : TabB X.base X.mg c P) (hcode : X.env.code = .ref c)
    (hm : (P, nm) ∈ T) (hn : nm pos.line pos.col = X.env.qual ++ "<lambda>") (hu : ∀ p ∈ T, p.1 = P → p.2 = nm) (hT : TabsN T H) (hnf : ∀ y ∈ scope.names, y.2 ≠ .free) (hdef : defaultsOf params X.env = ([], []))
    (h : ∀ (f c' : Addr) (H1 : Hp) (s' : Shared), Inv X pins σ H1 s' → (∀ b o, b ≠ P → H b = some o → H1 b = some o) → (∀ b, H1 b = Option.none → H b = Option.none) → TabsN T H1 → H f = none → H1 f = some (LamO f ⟨X.env.qual ++ "<lambda>", params, body, scope, c'⟩) → H1 c' = some (CodeO c' (X.env.qual ++ "<lambda>")) → Q (.ref f) s') :
    wpAny (model X.prog X.w) X.A (eval (.Lambda params body scope pos) X.env) Q E s := by
  obtain ⟨ps, hP, ht, ha⟩ := (show TabN H P nm from hT _ hm)
  have bP : s.heap.BuiltinsAt X.mg P := TB.bm.keeps I.bk
  have hP' : s.heap.get? P = some { cls := .none, data := .fields ps } := I.hok P _ hP
  have ecl : cloFrom X.env.cells scope.names [] = [] := cloFrom_none hnf
  have hfree : ∀ y ∈ scope.names, y.2 = .free → ∃ c, X.env.cells.lookup y.1 = some c := fun y hy e => absurd e (hnf y hy)
  have hclo : closureFor scope X.env = pure [] := by rw [closure_ok hfree, ecl]
  refine PySem.W.kla_eval hdef ?_
  cases hc : codeAmong pos ps.toList with
  | none =>
    refine PySem.W.kla_makeFunction (mg := X.mg) (c := c) (P := P) (ps := ps) hclo I.ok.glob (I.mod.glob.keeps I.bk) hcode (TB.code.keeps I.bk) hP' ht hc TB.gP bP fun c' ctv h' tk hx hge hlt hrec htb => ?_
    obtain ⟨c2, oc, vs, t, e2, hoc, hd, hv⟩ := hrec
    cases e2
    have nC : H c' = none := I.hok.fresh hge
    have I1 := inv_table (t' := tk) (more := #[rawInt pos.line, rawInt pos.col, .ref c']) (h' := h') I hP (fun b o hb e => hx b o hb e) htb hge ⟨oc, vs, t, hoc, hd, hv⟩
    have hE : ∀ b o, b ≠ P → H b = some o → upd (upd H P (.tbl (ps ++ #[rawInt pos.line, rawInt pos.col, .ref c']))) c' (CodeO c' (X.env.qual ++ "<lambda>")) b = some o := fun b o n e => by
      rw [upd_ne (ne_of_none e nC), upd_ne n]
      exact e
    have nt : ∀ b o, H b = some o → (∀ q, o ≠ .tbl q) → b ≠ P := fun b o e q z => by
      rw [z, hP] at e
      exact q ps (Option.some.inj e).symm
    have eL : (ps ++ #[rawInt pos.line, rawInt pos.col, .ref c']).toList = ps.toList ++ [rawInt pos.line, rawInt pos.col, .ref c'] := by simp
    have T1 : TabsN T (upd (upd H P (.tbl (ps ++ #[rawInt pos.line, rawInt pos.col, .ref c']))) c' (CodeO c' (X.env.qual ++ "<lambda>"))) := fun p hp => by
      by_cases hb : p.1 = P
      · rw [hu p hp hb, hb]
        refine ⟨_, by rw [upd_ne (ne_of_none hP nC), upd_same], by rw [eL]; exact PySem.TriplesOk_snoc _ _ _ _ ht, fun p' cv hcv => ?_⟩
        rw [eL] at hcv
        rcases among_app2 _ ht hcv with z | ⟨z, z1, z2⟩
        · obtain ⟨c0, e1, e2⟩ := ha p' cv z
          exact ⟨c0, e1, hE _ _ (nt _ _ e2 codeO_ne) e2⟩
        · refine ⟨c', z, ?_⟩
          rw [← z1, ← z2, hn]
          exact upd_same
      · obtain ⟨ps', a1, a2, a3⟩ := hT p hp
        refine ⟨ps', by rw [upd_ne (ne_of_none a1 nC), upd_ne hb]; exact a1, a2, fun p' cv hcv => ?_⟩
        obtain ⟨c0, e1, e2⟩ := a3 p' cv hcv
        exact ⟨c0, e1, hE _ _ (nt _ _ e2 codeO_ne) e2⟩
    have nF := I1.hok.fresh (Nat.le_refl _)
    have I2 := inv_lam (F := ⟨X.env.qual ++ "<lambda>", params, body, scope, c'⟩) (t' := tk) (pm := (X.mg "__name__").getD .none) (ctv := ctv) I1 rfl
    refine h h'.objs.size c' _ _ I2 (fun b o n e => ?_) (fun b e => upd_none (upd_none (upd_none e))) (T1.ext fun b o e => ?_) (I.hok.fresh (Nat.le_trans hge (Nat.le_of_lt hlt))) upd_same ?_
    · have e1 := hE b o n e
      exact (upd_ne (ne_of_none e1 nF)).trans e1
    · exact (upd_ne (ne_of_none e nF)).trans e
    · exact (upd_ne (Nat.ne_of_lt hlt)).trans upd_same
  | some cv =>
    obtain ⟨c', e, hco⟩ := ha pos cv hc
    subst e
    rw [hn] at hco
    refine PySem.W.kla_makeFunctionHit (mg := X.mg) (c := c) (P := P) (ps := ps) hclo I.ok.glob (I.mod.glob.keeps I.bk) hcode (TB.code.keeps I.bk) hP' ht hc bP fun ctv h' tk hx hsz => ?_
    have I1 : Inv X pins σ H { s with heap := h', toks := tk } := I.kept hx
    have nF : H h'.objs.size = none := I1.hok.fresh (Nat.le_refl _)
    have I2 := inv_lam (F := ⟨X.env.qual ++ "<lambda>", params, body, scope, c'⟩) (t' := tk) (pm := (X.mg "__name__").getD .none) (ctv := ctv) I1 rfl
    refine h h'.objs.size c' _ _ I2 (fun b o n e => ?_) (fun b e => upd_none e) (hT.ext fun b o e => ?_) nF upd_same ?_
    · exact (upd_ne (ne_of_none e nF)).trans e
    · exact (upd_ne (ne_of_none e nF)).trans e
    · exact (upd_ne (ne_of_none hco nF)).trans hco
end
section
variable {CX : CXT} {P : Program} {w : World} {K : PySem.W.Frag} {mg : Str → Option Value} {base : Heap} {N ps : List Str} {F : LF} {f : Addr} {k : Nat}
/-- its call, by its body -/
theorem lam_run (S : NScope N ps [] F.scope) (hb : ∀ (pm cv ctv : Value) (us : List Value), us.length = ps.length → bindArgs (PySem.W.kla_fn "<lambda>" F.qual F.params F.body F.scope [] pm cv ctv) ⟨us, []⟩ = pure (ps.zip us))
    {A : Around} {outer : List Env} {s : Shared} {H : Hp} {us : List Value} {vs : List V} {Q : VK} {E : XK} (hr : Room (k + 1) A) (e0 : Env0 P w K mg base A outer s H) (hf : H f = some (LamO f F)) (hc : H F.c = some (CodeO F.c F.qual)) (r : Vals vs us) (hl : vs.length = ps.length)
    (hbody : Room k (A.deeper (envF F.nf f s.heap.objs.size)) → ∃ t, PE (ncx CX P w K mg base N F.nf f A outer s H E) F.body t ∧ t (startF N vs []) H Q) :
    codeAny (model P w) A (.call (.ref f) ⟨us, []⟩) (CR CX outer P w H s Q E) s := by
  have lim : s.heap.NoLimit := e0.mod.nolimit.keeps fun b o e => (e0.bs b o e).1
  obtain ⟨pm, ctv, ho⟩ := lamO_at e0.hok hf
  have C0 : CellsAt F.nf.cl [] ([] : List (Option V)) s.heap H := ⟨rfl, fun y c e => by simp at e, fun x y c e => by simp at e, fun i y e => by simp at e⟩
  refine PySem.W.kla_callFunE hr.depth ho rfl S.co S.gen rfl (codeO_at e0.hok hc) ?_
  rw [hb _ _ _ us (by rw [← r.length]; exact hl)]
  refine wpAny_pure (wpAny_newFunctionEnv S.nocell (fun ⟨n, _⟩ hy => S.par n (List.of_mem_zip hy).1) (fun h₁ hns hsb => ⟨lim.fresh _ hsb, ?_⟩) S.kind)
  show codeAny _ _ (.expr F.body (envF F.nf f s.heap.objs.size)) _ _
  have kp : ∀ b o, s.heap.get? b = some o → h₁.get? b = some o := fun b o e => hsb.extBut b o (Nat.ne_of_lt (Heap.lt_size e)) (Heap.get?_push_of_some _ e)
  obtain ⟨t, ht, hq⟩ := hbody (hr.deeper _)
  have I : Inv (ncx CX P w K mg base N F.nf f A outer s H E) [] (startF N vs []) H { s with heap := h₁, toks := s.toks + (ps.zip us).length } := inv_startN (F := F.nf) S hr.hd e0 hl r C0 hns kp
  refine PySem.W.kla_codeExpr (wpAny_mono (ht.run [] _ (startF N vs []) H _ I hq) (fun v s' hs => ?_) fun e s' hs => hs)
  obtain ⟨x, H', J, rv, q⟩ := hs
  exact ⟨x, H', J.os, J.bare, J.base, J.hok, rv, q⟩
end
end Dk
end
section
set_option Elab.async false
set_option linter.all false
set_option maxRecDepth 100000
set_option maxHeartbeats 4000000
/-! S23: a lambda as a key: its promise. -/
namespace Dp
open PySem PySem.Spec PyProof.Rows L2 NdefX LamX Dk
structure LamD where
  qual : PySem.Str
  params : Arguments
  body : Expr
  scope : Scope
abbrev LamD.lf (L : LamD) (c : Addr) : LF := ⟨L.qual, L.params, L.body, L.scope, c⟩
/-- what a key's call promises -/
def spK (T : Kt) (cal : Callee) (key : Nat) : Sp := fun xs H Q E => ∃ F x d kd ps, xs = [x] ∧ HpOk T F H ∧ Rep T F x d ∧ cal (.lam key) [.frz d] = some (.ok (.frz kd), ps) ∧ ∀ y F' H', Post T F H [] [] F' H' [] → Rep T F' y kd → Q y H'
theorem sr0 {T : Kt} {F H : Hp} (h : HpOk T F H) : SR T F H [] [] := ⟨h.sub, rfl, fun i v e => by simp [getS] at e, fun i j d e p h1 => by simp [getS] at h1, h.tabs, h.ft⟩
theorem Post.drop {T : Kt} {F H F' H' : Hp} {ρ ρ' : Dp.Env} {σ : L2.St} (P : Post T F H ρ σ F' H' ρ') (n : ∀ i d, getS i ρ ≠ some (.own d)) : Post T F H [] [] F' H' [] :=
  ⟨sr0 P.s0.hp, sr0 P.sr.hp, P.gr, fun p o h1 h2 h3 _ => P.fr p o h1 h2 h3 fun ⟨i, d, e, _⟩ => n i d e, fun i d e => by simp [getS] at e, P.th⟩
theorem Post.lift {T : Kt} {F H F' H' : Hp} {ρ : Dp.Env} {σ : L2.St} (s : SR T F H ρ σ) (P : Post T F H [] [] F' H' []) : Post T F H ρ σ F' H' ρ where
  s0 := s
  sr := {
    sub := P.sr.sub
    len := s.len
    slot := fun i v e => by
      have q := s.slot i v e
      cases v with
      | frz d => obtain ⟨x, a, b⟩ := q; exact ⟨x, a, b.mono P.gr⟩
      | own d =>
        obtain ⟨p, u, a, b, c, r⟩ := q
        obtain ⟨k1, k2⟩ := P.fr p u b c r.noTbl fun ⟨i, d, e, _⟩ => by simp [getS] at e
        exact ⟨p, u, a, k1, k2, r.mono P.gr⟩
      | clo _ _ => exact q
      | lam _ => exact q
    apart := s.apart
    tabs := P.sr.tabs
    ft := P.sr.ft }
  gr := P.gr
  fr := fun p o h1 h2 h3 _ => P.fr p o h1 h2 h3 fun ⟨i, d, e, _⟩ => by simp [getS] at e
  os := fun i d e => ⟨d, e⟩
  th := P.th
/-- anything known is kept -/
theorem Post.keep {T : Kt} {F H F' H' : Hp} (P : Post T F H [] [] F' H' []) {p : Addr} {o : HO} (h : H p = some o) (n : ∀ ps, o ≠ .tbl ps) : H' p = some o := by
  cases e : F p with
  | none => exact (P.fr p o e h n fun ⟨i, d, e, _⟩ => by simp [getS] at e).2
  | some u =>
    have q := P.s0.sub p u e
    rw [h] at q
    cases q
    exact P.sr.sub p _ (P.gr p _ e)
theorem Post.priv0 {T : Kt} {F H F' H' : Hp} (P : Post T F H [] [] F' H' []) {p : Addr} {o : HO} (e : F p = none) (h : H p = some o) (n : ∀ ps, o ≠ .tbl ps) : F' p = none ∧ H' p = some o := P.fr p o e h n fun ⟨i, d, e, _⟩ => by simp [getS] at e
/-- the promise of the lambda i of the text, at the depth k -/
def LamOk (P : Program) (w : World) (K : PySem.W.Frag) (mg : PySem.Str → Option Value) (base : Heap) (k : Nat) (L : LamD) (sp : Sp) : Prop :=
  ∀ (A : Around) (outer : List PySem.Env) (s : Shared) (H : Hp) (f c : Addr) (us : List Value) (vs : List V) (Q : VK) (E : XK), Room k A → Env0 P w K mg base A outer s H → H f = some (LamO f (L.lf c)) → H c = some (CodeO c L.qual) → Vals vs us → sp vs H Q E →
    codeAny (model P w) A (.call (.ref f) ⟨us, []⟩) (CR (L2.CX P w) outer P w H s Q E) s
/-- a lambda of the text, as it may be called here -/
structure LamE (C : Cc) (key : Nat) (L : LamD) : Prop where
  go : ∃ k, Room (k + 2) C.X.A ∧ LamOk C.X.prog C.X.w C.X.K C.X.mg C.X.base k L (spK C.T C.cal key)
/-- the context of its body -/
def CcL (G : Gb) (k : Nat) (N : List PySem.Str) (L : LamD) (c f : Addr) (A : Around) (outer : List PySem.Env) (s : Shared) (H : Hp) (E : XK) (hN : N.Nodup) (hr : Room (5 * k + 4) (A.deeper (envF (L.lf c).nf f s.heap.objs.size))) : Cc where
  T := G.T
  Pr := G.Pr
  cal := callF G.Pr k
  W := fun cls d _ H => E cls d H
  X := ncx (L2.CX G.P G.w) G.P G.w G.T.K G.mg G.base N (L.lf c).nf f A outer s H E
  hK := rfl
  hu := by have := hr.un; show (A.deeper (envF (L.lf c).nf f s.heap.objs.size)).units + 200 < cLine; omega
  calm := rfl
  hN := hN
theorem takes_lam {G : Gb} {k : Nat} {N : List PySem.Str} {L : LamD} {c f : Addr} {A : Around} {outer : List PySem.Env} {s : Shared} {H : Hp} {E : XK} {hN : N.Nodup} {hr : Room (5 * k + 4) (A.deeper (envF (L.lf c).nf f s.heap.objs.size))} :
    Takes (CcL G k N L c f A outer s H E hN hr).X (CcL G k N L c f A outer s H E hN hr).W := takes_of rfl rfl rfl rfl
/-- THE RULE for a lambda -/
theorem lam_body {G : Gb} {k key : Nat} {N : List PySem.Str} {a : PySem.Str} {L : LamD} {x : Ex} {caps : List D} (S : NScope N [a] [] L.scope) (hd : G.Pr.lams[key]? = some ⟨1, [], N.length, .e x, caps⟩)
    (hb : ∀ (pm cv ctv : Value) (us : List Value), us.length = [a].length → bindArgs (PySem.W.kla_fn "<lambda>" L.qual L.params L.body L.scope [] pm cv ctv) ⟨us, []⟩ = pure ([a].zip us))
    (body : ∀ (c f : Addr) (A : Around) (outer : List PySem.Env) (s : Shared) (H : Hp) (E : XK) (hr : Room (5 * k + 4) (A.deeper (envF (L.lf c).nf f s.heap.objs.size))), SX (CcL G k N L c f A outer s H E S.nd hr) L.body x) :
    LamOk G.P G.w G.T.K G.mg G.base (5 * (k + 1)) L (spK G.T (callF G.Pr (k + 1)) key) := by
  intro A outer s H f c us vs Q E hr e0 hf hc r ⟨F, y, d, kd, ps, ev, hp, ry, hcal, q⟩
  subst ev
  refine lam_run (F := L.lf c) (ps := [a]) S hb hr e0 hf hc r rfl fun hr' => ?_
  refine ⟨_, (body c f A outer s H E hr').v, ?_⟩
  have hcal : (match G.Pr.lams[key]? with
    | some L => match L.body with
      | .e x => runX G.Pr (callF G.Pr k) (L.np + L.caps.length) L.n x [.frz d]
      | .s b => runF G.Pr (callF G.Pr k) (L.np + L.caps.length) L.n b [.frz d]
    | none => none) = some (.ok (.frz kd), ps) := hcal
  rw [hd] at hcal
  have hcal : runX G.Pr (callF G.Pr k) 1 N.length x [.frz d] = some (.ok (.frz kd), ps) := hcal
  unfold runX at hcal
  rw [if_pos (by rfl)] at hcal
  have ha : ArgsR G.T F H [y] [.frz d] := ⟨.cons ry .nil, fun i j d1 e1 p h1 h2 => by
    cases i with
    | zero => simp at h1
    | succ n => simp at h1⟩
  have hN : ([.frz d] : List Vl).length ≤ N.length := by
    have q := congrArg List.length S.pre
    rw [List.length_take] at q
    simp at q ⊢
    omega
  have sr := SR.start hp ha hN
  refine ⟨F, ([.frz d] : List Vl).map some ++ List.replicate (N.length - ([.frz d] : List Vl).length) none, ?_⟩
  have est : startF N [y] [] = L2.start N [y] := by
    unfold startF L2.start
    simp
  rw [est]
  cases e : evalE G.Pr (callF G.Pr k) x (([.frz d] : List Vl).map some ++ List.replicate (N.length - 1) none) with
  | none => rw [e] at hcal; cases hcal
  | some p =>
    obtain ⟨r0, ρ'⟩ := p
    rw [e] at hcal
    cases r0 with
    | err _ => cases hcal
    | ok v =>
      cases hcal
      refine ⟨Post.refl sr, .ok (.frz kd), ρ', e, fun z F' H' P rz => q z F' H' (Post.drop P fun i d' e' => ?_) rz⟩
      have := getS_start e'
      cases i with
      | zero => simp at this
      | succ n => simp at this
end Dp
end
section
set_option Elab.async false
set_option linter.all false
set_option maxRecDepth 100000
set_option maxHeartbeats 4000000
/-! S24: sorted by a lambda. -/
namespace Dp
open PySem PySem.Spec PyProof.Rows L2 NdefX LamX Dk
section
variable {C : Cc} {key : Nat} {L : LamD}
theorem lam_turn (LE : LamE C key L) {pins : List (Addr × Obj)} {σ : L2.St} {H : Hp} {s : Shared} {f c : Addr} {u : Value} {x : V} {Q : VK} (I : Inv C.X pins σ H s) (hf : H f = some (LamO f (L.lf c))) (hc : H c = some (CodeO c L.qual)) (r : RelV x u)
    (h : spK C.T C.cal key [x] H Q (fun _ _ _ => False)) : wpAny (model C.X.prog C.X.w) C.X.A.in1.in1 (call (.ref f) [u]) (EP C.X pins σ Q) (fun _ _ => False) s := by
  obtain ⟨k, hr, go⟩ := LE.go
  refine wpAny_call (codeAny_mono (go C.X.A.in1.in1 C.X.stack s H f c [u] [x] Q (fun _ _ _ => False) hr.in1.in1 I.env0.in1.in1 hf hc (.cons r .nil) h) fun r s' hq => ?_)
  cases r with
  | error e =>
    obtain ⟨_, _, _, _, _, _, _, _, _, _, _, _, _, _, _, _, z⟩ := hq
  | ok fl =>
    cases fl with
    | ret u => exact I.after hq
    | next => exact False.elim hq
    | brk => exact False.elim hq
    | cont => exact False.elim hq
theorem keysBy_len {cal : Dp.Callee} {key : Nat} : ∀ {ds ks : List D}, keysBy cal key ds = some ks → ks.length = ds.length
  | [], ks, h => by cases h; rfl
  | d :: ds, ks, h => by
    unfold keysBy at h
    split at h
    · split at h
      · rename_i e
        cases h
        rw [List.length_cons, List.length_cons, keysBy_len e]
      · cases h
    · cases h
theorem keysBy_get {cal : Dp.Callee} {key : Nat} : ∀ {ds ks : List D} {i : Nat} {d k : D}, keysBy cal key ds = some ks → ds[i]? = some d → ks[i]? = some k → ∃ ps, cal (.lam key) [.frz d] = some (.ok (.frz k), ps)
  | [], ks, i, d, k, h, h1, h2 => by simp at h1
  | x :: ds, ks, i, d, k, h, h1, h2 => by
    unfold keysBy at h
    split at h
    · rename_i k0 ps e0
      split at h
      · rename_i e
        cases h
        cases i with
        | zero => simp at h1 h2; subst h1 h2; exact ⟨ps, e0⟩
        | succ n => exact keysBy_get (i := n) e (by simpa using h1) (by simpa using h2)
      · cases h
    · cases h
theorem sortOk_py {l : List D} (ok : sortOk l = true) : depL l ≤ 60 ∧ PySem.W.AllAlike (l.map py) ∧ PySem.W.Sortable (l.map py) := by
  unfold sortOk at ok
  rw [Bool.and_eq_true, Bool.and_eq_true] at ok
  obtain ⟨⟨o1, o2⟩, o3⟩ := ok
  have o1 := of_decide_eq_true o1
  refine ⟨o1, fun d hd d' hd' => ?_, ?_⟩
  · obtain ⟨x, hx, rfl⟩ := List.mem_map.mp hd
    obtain ⟨y, hy, rfl⟩ := List.mem_map.mp hd'
    exact alike_py x y (List.all_eq_true.mp (List.all_eq_true.mp o2 x hx) y hy)
  · rw [Bool.or_eq_true] at o3
    rcases o3 with o3 | o3
    · refine .inl fun d hd => ?_
      obtain ⟨x, hx, rfl⟩ := List.mem_map.mp hd
      have q := List.all_eq_true.mp o3 x hx
      cases x with
      | tup m =>
        cases m with
        | nil => cases q
        | cons y ys => exact ⟨py y, pyL ys, by simp [py, pyL]⟩
      | _ => cases q
    · refine .inr fun d hd => ?_
      obtain ⟨x, hx, rfl⟩ := List.mem_map.mp hd
      have q := List.all_eq_true.mp o3 x hx
      have q2 := depL_mem hx
      have big : ∀ n : Nat, 1000 ≤ depL l → False := fun _ z => by omega
      cases x with
      | non => cases q
      | tup m => cases q
      | bl b => exact ⟨by simp [py], fun xs => by simp [py]⟩
      | int b => exact ⟨by simp [py], fun xs => by simp [py]⟩
      | str b => exact ⟨by simp [py], fun xs => by simp [py]⟩
      | lst b => exact ⟨by simp [py], fun xs => by simp [py]⟩
      | dct _ _ => exact (big 0 q2).elim
      | scr _ => exact (big 0 q2).elim
      | obj _ _ _ => exact (big 0 q2).elim
      | exc _ => exact (big 0 q2).elim
      | fn _ => exact (big 0 q2).elim
theorem each_reads {pins : List (Addr × Obj)} {σ : L2.St} {H F : Hp} {s : Shared} (I : Inv C.X pins σ H s) (e : Same F H) : ∀ {vs : List V} {ds : List D} {us : List Value}, RepL C.T F vs ds → Vals vs us → depL ds ≤ 60 → PySem.W.EachIs (fun v k => ∃ as, Reads s.heap v k as) us (ds.map py)
  | _, _, _, .nil, .nil, _ => .nil
  | _, _, _, .cons h r, .cons q t, hd => by
    obtain ⟨d1, d2⟩ := depL_le hd
    obtain ⟨c1, _, _⟩ := py_rep (h.mono e) (by omega)
    exact .cons (Dp.reads I _ _ _ (C.hK ▸ c1) q) (each_reads I e r t d2)
theorem each_relZ {T : Kt} {F : Hp} : ∀ {vs : List V} {ds ks : List D} {us : List Value}, RepL T F vs ds → Vals vs us → ks.length = ds.length → PySem.W.EachIs (fun v (b : D × D) => ∃ x, RelV x v ∧ Rep T F x b.1) us (ds.zip ks)
  | _, _, [], _, .nil, .nil, _ => .nil
  | _, _, k :: ks, _, .cons h r, .cons q t, hl => .cons ⟨_, q, h⟩ (each_relZ r t (by simpa using hl))
theorem of_eachZ {T : Kt} {F : Hp} : ∀ {bs : List (D × D)} {us : List Value}, PySem.W.EachIs (fun v (b : D × D) => ∃ x, RelV x v ∧ Rep T F x b.1) us bs → ∃ vs, RepL T F vs (bs.map (·.1)) ∧ Vals vs us
  | _, _, .nil => ⟨[], .nil, .nil⟩
  | _, _, .cons ⟨x, q, h⟩ t => by
    obtain ⟨vs, r, v⟩ := of_eachZ t
    exact ⟨x :: vs, .cons h r, .cons q v⟩
theorem lamO_ne {f : Addr} {F : LF} (ps : Array Value) : LamO f F ≠ .tbl ps := fun z => by
  unfold LamO at z
  cases z
theorem key_sort (LE : LamE C key L) {pins : List (Addr × Obj)} {σ : L2.St} {H F : Hp} {s : Shared} {f c : Addr} {its : List Value} {vs : List V} {ds ks : List D} {Q : VK} {E' : Value → Shared → Prop} (I : Inv C.X pins σ H s) (hp : HpOk C.T F H) (rv : Vals vs its) (rr : RepL C.T F vs ds)
    (hk : keysBy C.cal key ds = some ks) (ok : sortOk ks = true) (hf : H f = some (LamO f (L.lf c))) (hc : H c = some (CodeO c L.qual)) (hZ : its.length ≤ sizeLine)
    (q : ∀ p F' H', Post C.T F H [] [] F' H' [] → H p = none → F' p = none → (∃ ws, H' p = some (.lst ws) ∧ RepL C.T F' ws ((sortP (ds.zip ks)).map (·.1))) → Q (.ref p) H') :
    wpAny (model C.X.prog C.X.w) C.X.A.in1.in1 (Builtin.«list.sort» ⟨[.ref (s.heap.objs.size + 1)], [(Str.ofString "key", .ref f)]⟩) (fun r s' => r = .done (.ret .none) ∧ EP C.X pins σ Q (.ref (s.heap.objs.size + 1)) s') E' { s with heap := PySem.W.copyHeap s.heap its } := by
  rw [ksk_t1]
  have ho := PySem.W.copyHeap_at s.heap its
  have hkl := keysBy_len hk
  have hvl : vs.length = its.length := rv.length
  have hdl : vs.length = ds.length := rr.length
  obtain ⟨e1, ho1⟩ : ∃ e1, ((PySem.W.copyHeap s.heap its).update (s.heap.objs.size + 1) (Obj.mapSeq fun _ => (#[] : Array Value))).get? (s.heap.objs.size + 1) = some (seqObj "list" #[] e1) := ⟨_, get?_update_seq ho fun _ => #[]⟩
  unfold ksk_tree
  refine wpAny_bind (listItems_at ho rfl ?_)
  refine wpAny_bind (listUpdate_at ho rfl ?_ (by rw [List.size_toArray]; exact hZ) (Nat.zero_le _))
  refine wpAny_bind (seqEpoch_at ho1 rfl ?_)
  refine wpAny_bind (wpAny_newTuple ?_ (by show its.length ≤ _; exact hZ))
  refine wpAny_bind (wpAny_newList ?_ (Nat.zero_le _))
  refine wpAny_holding ?_
  have hA : H (s.heap.objs.size + 1) = none := I.hok.fresh (Nat.le_succ _)
  have I1 : Inv C.X pins σ (upd H (s.heap.objs.size + 1) (.ext fun h => h.get? (s.heap.objs.size + 1) = some (seqObj "list" #[] e1))) { s with heap := ((PySem.W.copyHeap s.heap its).update (s.heap.objs.size + 1) (Obj.mapSeq fun _ => (#[] : Array Value))).push (seqObj "tuple" its.toArray 0), toks := s.toks } := by
    refine I.laid (fun b u e => ?_) (Nat.le_succ _) ⟨Heap.get?_push_of_some _ ho1, ⟨_, Heap.get?_push_of_some _ ho1⟩, fun h1 h2 a b => b _ a⟩
    refine Heap.get?_push_of_some _ ?_
    rw [Heap.get?_update_ne _ _ _ _ (Nat.ne_of_lt (Nat.lt_succ_of_lt (Heap.lt_size e)))]
    exact PySem.W.copyHeap_old e
  generalize eh3 : ((PySem.W.copyHeap s.heap its).update (s.heap.objs.size + 1) (Obj.mapSeq fun _ => (#[] : Array Value))).push (seqObj "tuple" its.toArray 0) = h3 at I1
  have I2 := I1.lnew (its := []) (ys := []) (t' := s.toks) .nil (Nat.zero_le _)
  have hK1 : upd H (s.heap.objs.size + 1) (.ext fun h => h.get? (s.heap.objs.size + 1) = some (seqObj "list" #[] e1)) h3.objs.size = none := I1.hok.fresh (Nat.le_refl _)
  have hAK : s.heap.objs.size + 1 ≠ h3.objs.size := fun z => by
    rw [← z, upd_same] at hK1
    cases hK1
  have hK0 : H h3.objs.size = none := by
    rw [upd_ne hAK.symm] at hK1
    exact hK1
  have P1 : Post C.T F H [] [] F (upd H (s.heap.objs.size + 1) (.ext fun h => h.get? (s.heap.objs.size + 1) = some (seqObj "list" #[] e1))) [] := Post.newOwn (sr0 hp) hA
  have P2 := P1.trans (Post.newOwn (o := .lst []) P1.sr hK1)
  have fA : F (s.heap.objs.size + 1) = none := hp.sub.free hA
  have fK : F h3.objs.size = none := hp.sub.free hK0
  have hA2 : upd (upd H (s.heap.objs.size + 1) (.ext fun h => h.get? (s.heap.objs.size + 1) = some (seqObj "list" #[] e1))) h3.objs.size (.lst []) (s.heap.objs.size + 1) = some (.ext fun h => h.get? (s.heap.objs.size + 1) = some (seqObj "list" #[] e1)) := by rw [upd_ne hAK, upd_same]
  generalize eφ : (HO.ext fun h => h.get? (s.heap.objs.size + 1) = some (seqObj "list" #[] e1)) = φ at *
  have nφt : ∀ ps, φ ≠ .tbl ps := fun ps z => by rw [← eφ] at z; cases z
  unfold ksk_rest
  refine wpAny_bind (wpAny_rule ?_)
  first
    | rw [List.forIn_toArray]
    | (rw [← Array.forIn_toList]; simp only [List.toList_toArray])
    | rw [← Array.forIn_toList]
  refine wpAny_bind (ksk_fold (fun i s' => ∃ (H' F' : Hp) (kvs : List V), Inv C.X pins σ H' s' ∧ Post C.T F H [] [] F' H' [] ∧ F' (s.heap.objs.size + 1) = none ∧ H' (s.heap.objs.size + 1) = some φ ∧ F' h3.objs.size = none ∧ H' h3.objs.size = some (.lst kvs) ∧ RepL C.T F' kvs (ks.take i)) its 0 _
    ⟨_, F, [], I2, P2, fA, hA2, fK, upd_same, by rw [List.take_zero]; exact .nil⟩ ?step ?done)
  case step =>
    rintro j x s' hx ⟨H', F', kvs, I', P', a1, a2, k1, k2, rk⟩
    simp only [Nat.zero_add] at rk ⊢
    have hj : j < its.length := (List.getElem?_eq_some_iff.mp hx).1
    have hdj : ds[j]? = some (ds[j]'(by omega)) := List.getElem?_eq_getElem (by omega)
    have hkj : ks[j]? = some (ks[j]'(by omega)) := List.getElem?_eq_getElem (by omega)
    generalize ds[j]'(by omega) = d at hdj
    generalize ks[j]'(by omega) = kd at hkj
    obtain ⟨ps, hcal⟩ := keysBy_get hk hdj hkj
    obtain ⟨v, hv, rvd⟩ := rr.get hdj
    obtain ⟨u, hu, ru⟩ := rv.get hv
    rw [hx] at hu
    cases hu
    refine wpAny_bind (wpAny_attempt (wpAny_mono (lam_turn LE (Q := fun y H'' => ∃ F'', Post C.T F' H' [] [] F'' H'' [] ∧ Rep C.T F'' y kd) I' (P'.keep hf lamO_ne) (P'.keep hc codeO_ne) ru
      ⟨F', v, d, kd, ps, rfl, P'.sr.hp, rvd.mono P'.gr, hcal, fun y F'' H'' P'' ry => ⟨F'', P'', ry⟩⟩) (fun r s'' he => ?_) fun _ _ hF => hF.elim))
    obtain ⟨y, H'', I'', ry, F'', P'', rep⟩ := he
    try dsimp only
    obtain ⟨b1, b2⟩ := P''.priv0 a1 a2 nφt
    obtain ⟨m1, m2⟩ := P''.priv0 k1 k2 (fun ps z => nomatch z)
    obtain ⟨hz, kits, n, kv, kl, nk⟩ := I''.lstM m2
    have klen : kvs.length = j := by
      rw [rk.length, List.length_take]
      omega
    refine wpAny_bind (listUpdate_at nk rfl ?_ (by rw [List.size_toArray]; omega) (by rw [Array.size_push, List.size_toArray]; omega))
    have I3 := I''.lset (f := (·.push r)) (its' := kits ++ [r]) (ys := kvs ++ [y]) (t' := s''.toks) m2 nk (by simp) (kv.append (.cons ry .nil)) (by rw [List.length_append, List.length_singleton]; omega)
    have ek : ks.take (j + 1) = ks.take j ++ [kd] := by rw [List.take_add_one, hkj]; simp
    refine wpAny_pure ⟨rfl, _, F'', kvs ++ [y], I3, (P'.trans P'').priv hK0 m1 m2 (fun ps z => nomatch z) (fun c nm z => nomatch z), b1, by rw [upd_ne hAK]; exact b2, m1, upd_same, ?_⟩
    rw [ek]
    exact (rk.mono P''.gr).append (.cons rep .nil)
  case done =>
    rintro s' ⟨H', F', kvs, I', P', a1, a2, k1, k2, rk⟩
    rw [List.take_of_length_le (by omega)] at rk
    obtain ⟨hz, kits, n, kv, kl, nk⟩ := I'.lstM k2
    obtain ⟨o1, hal, hsk⟩ := sortOk_py ok
    try dsimp only
    refine wpAny_bind (listItems_at nk rfl ?_)
    have er := each_reads I' P'.sr.sub rk kv o1
    have hkeys : kits.length = its.length := by rw [← kl, rk.length]; omega
    refine keyX_end (κ := PySem.W.dataKind s'.heap (ks.map py)) (keys := kits.toArray) (PySem.W.SortsAt.data (s := s') er hal hsk fun d hd => ?_) (by rw [List.size_toArray]; exact hkeys) hZ fun st hfl hout => ?_
    · obtain ⟨b, hb, rfl⟩ := List.mem_map.mp hd
      have h1 := depL_mem hb
      have h2 : (py b).depth = dep b := by
        obtain ⟨i, hi⟩ := List.getElem?_of_mem hb
        obtain ⟨x, _, rx⟩ := rk.get hi
        exact (py_rep rx (by omega)).2.2
      have := C.hu
      show C.X.A.units + 1 + 1 + _ < _
      omega
    · have ezip : (ds.zip ks).map (fun p : D × D => py p.2) = ks.map py := by
        have h1 : (ds.zip ks).map Prod.snd = ks := List.map_snd_zip (by omega)
        have h2 : (ds.zip ks).map (fun p : D × D => py p.2) = ((ds.zip ks).map Prod.snd).map py := by rw [List.map_map] <;> rfl
        rw [h2, h1]
      have ko : PySem.W.KeyedOut false ((ds.zip ks).map (fun p : D × D => py p.2)) its (PySem.W.sortVals (PySem.W.dataKind s'.heap (ks.map py)) false kits.toArray.toList its) := by
        rw [ezip]
        exact ⟨s'.heap, kits.toArray.toList, hal, rfl, er⟩
      have he := PySem.W.keyedOut_each (fun p : D × D => py p.2) ko (each_relZ (rr.mono P'.gr) rv hkl)
      have hle : PySem.W.dataLe false (fun p : D × D => py p.2) = fun a b => !ltT b.2 a.2 := by
        funext a b
        show (!PyProof.Rows.lexLt PyProof.Rows.itemOrd (PySem.W.keyToks (py b.2)) (PySem.W.keyToks (py a.2))) = _
        rw [ltT_py] <;> rfl
      rw [hle] at he
      have hol : (PySem.W.sortVals (PySem.W.dataKind s'.heap (ks.map py)) false kits.toArray.toList its).length = its.length := PySem.W.sortVals_length false (by simpa using hkeys)
      generalize PySem.W.sortVals (PySem.W.dataKind s'.heap (ks.map py)) false kits.toArray.toList its = out at hout he hol
      obtain ⟨ws, rw', vw⟩ := of_eachZ he
      have hwl : ws.length ≤ sizeLine := by rw [vw.length, hol]; exact hZ
      have hφ : s'.heap.get? (s.heap.objs.size + 1) = some (seqObj "list" #[] e1) := by
        have z := I'.hok _ _ a2
        rw [← eφ] at z
        exact z.1
      have I3 := I'.lset (f := fun _ => (#[] : Array Value)) (its' := []) (ys := []) (t' := s'.toks) k2 nk rfl .nil (Nat.zero_le _)
      have na1 : (s'.heap.update h3.objs.size (Obj.mapSeq fun _ => (#[] : Array Value))).get? (s.heap.objs.size + 1) = some (seqObj "list" #[] e1) := (Heap.get?_update_other s'.heap _ hAK.symm).trans hφ
      have a3 : upd H' h3.objs.size (.lst []) (s.heap.objs.size + 1) = some φ := by rw [upd_ne hAK]; exact a2
      have qo := PySem.IsL.update na1 (fun _ => out.toArray)
      have I4 : Inv C.X pins σ (upd (upd H' h3.objs.size (.lst [])) (s.heap.objs.size + 1) (.lst ws)) { s' with heap := (s'.heap.update h3.objs.size (Obj.mapSeq fun _ => (#[] : Array Value))).update (s.heap.objs.size + 1) (Obj.mapSeq fun _ => out.toArray), toks := s'.toks } := by
        refine I3.write (x := s.heap.objs.size + 1) (e := s.heap.objs.size + 1) (by rw [a3, ← eφ]; exact trivial) (.inl rfl) (fun b' u hb hu => (Heap.get?_update_other _ (Obj.mapSeq fun _ => out.toArray) (Ne.symm hb)).trans hu) ⟨_, qo⟩ ?_
        exact ⟨hwl, out, _, vw, qo⟩
      unfold ksk_tail
      try dsimp only
      simp only [Bool.false_eq_true, if_false]
      rw [hout]
      refine wpAny_bind (listUpdate_at nk rfl ?_ (by rw [List.size_toArray]; omega) (Nat.zero_le _))
      refine wpAny_bind (wpAny_letGo ?_)
      refine wpAny_bind (seqEpoch_at na1 rfl ?_)
      refine wpAny_bind (listUpdate_at na1 rfl ?_ (Nat.zero_le _) (by rw [List.size_toArray]; omega))
      rw [hfl]
      simp only [bne_self_eq_false, Bool.false_eq_true, if_false]
      have nφc : ∀ c nm, φ ≠ CodeO c nm := fun c nm z => by
        rw [← eφ] at z
        unfold CodeO at z
        have z := HO.ext.inj z
        obtain ⟨G, g1, g2⟩ := restrict s'.heap fun b => decide (b = s.heap.objs.size + 1)
        have h1 : G.get? (s.heap.objs.size + 1) = some (seqObj "list" #[] e1) := by
          rw [g1 _ (decide_eq_true rfl)]
          exact hφ
        obtain ⟨oc, fs, t, e2, e3, _⟩ := (congrFun z G).mp h1
        by_cases hb : c = s.heap.objs.size + 1
        · subst hb
          rw [h1] at e2
          cases e2
          cases e3
        · rw [g2 c (decide_eq_false hb)] at e2
          cases e2
      have PA := P'.priv (o' := .lst []) hK0 k1 k2 (fun ps z => nomatch z) (fun c nm z => nomatch z)
      have PB := PA.priv (o' := .lst ws) hA a1 a3 nφt nφc
      exact wpAny_pure ⟨rfl, .ref _, _, I4, rfl, q _ F' _ PB hA a1 ⟨ws, upd_same, rw'⟩⟩
end
end Dp
end
section
set_option Elab.async false
set_option linter.all false
set_option maxRecDepth 100000
set_option maxHeartbeats 4000000
/-! S25: sorted(xs, key=lambda ..). -/
namespace Dp
open PySem PySem.Spec PyProof.Rows L2 NdefX LamX Dk
/-- a lambda is made here -/
structure LamMk (C : Cc) (L : LamD) (lpos : Pos) : Prop where
  ex : ∃ (c P : Addr) (nm : Nat → Nat → PySem.Str), TabB C.X.base C.X.mg c P ∧ C.X.env.code = .ref c ∧ (P, nm) ∈ C.T.tb ∧ nm lpos.line lpos.col = C.X.env.qual ++ "<lambda>" ∧ (∀ p ∈ C.T.tb, p.1 = P → p.2 = nm)
  nf : ∀ y ∈ L.scope.names, y.2 ≠ .free
  df : defaultsOf L.params C.X.env = ([], [])
  ql : L.qual = C.X.env.qual ++ "<lambda>"
def tLam (T : Kt) (L : LamD) : TE := fun σ H Q => TabsN T.tb H ∧ ∀ (f c P : Addr) (H1 : Hp), (∃ nm, (P, nm) ∈ T.tb) → (∀ b o, b ≠ P → H b = some o → H1 b = some o) → (∀ b, H1 b = Option.none → H b = Option.none) → TabsN T.tb H1 → H f = none → H1 f = some (LamO f (L.lf c)) → H1 c = some (CodeO c L.qual) → Q (.ref f) H1
theorem pe_lam {C : Cc} {L : LamD} {lpos : Pos} (M : LamMk C L lpos) : PE C.X (.Lambda L.params L.body L.scope lpos) (tLam C.T L) := by
  refine ⟨fun pins s σ H Q I ⟨hT, h⟩ => ?_⟩
  obtain ⟨c, P, nm, m1, m2, m3, m4, m5⟩ := M.ex
  refine lam_makeN I m1 m2 m3 m4 m5 hT M.nf M.df fun f c' H1 s' I1 k1 k2 k3 k4 k5 k6 => ?_
  refine ⟨.ref f, H1, I1, rfl, h f c' P H1 ⟨nm, m3⟩ k1 k2 k3 k4 ?_ ?_⟩
  · rw [k5, ← M.ql]
  · rw [k6, ← M.ql]
/-- what sorted asks of the list and the lambda -/
def rSrt (C : Cc) (key : Nat) (L : LamD) : List V → List V → Hp → VK → Prop := fun vs zs H Q => ∃ F x d l f c ks, vs = [x] ∧ zs = [.ref f] ∧ HpOk C.T F H ∧ RdR C.T F H x d ∧ seqK d = some l ∧ keysBy C.cal key l = some ks ∧ sortOk ks = true ∧
  H f = some (LamO f (L.lf c)) ∧ H c = some (CodeO c L.qual) ∧ ∀ p F' H', Post C.T F H [] [] F' H' [] → H p = none → F' p = none → (∃ ws, H' p = some (.lst ws) ∧ RepL C.T F' ws ((sortP (l.zip ks)).map (·.1))) → Q (.ref p) H'
theorem cr_srt {C : Cc} {key : Nat} {L : LamD} (LE : LamE C key L) : CallRK C.X (.builtin "sorted") [Str.ofString "key"] (rSrt C key L) := by
  intro pins s σ H vs zs us ws Q I r rz ⟨F, x, d, l, f, c, ks, ev, ez, hp, rd, hd, hk, ok, hf, hc, q⟩
  subst ev ez
  obtain ⟨w1, rfl, e1⟩ := vals1 rz
  obtain rfl : w1 = Value.ref f := e1
  cases d with
  | lst l' =>
    cases hd
    obtain ⟨a, vs, rfl, t1, r1⟩ := rd.lst hp.sub
    obtain ⟨its, rv, hl, hz⟩ := I.list (.inl (.inl t1))
    have hz : its.length ≤ sizeLine := by rw [← rv.length]; exact hz
    rw [Vals.ref1 r]
    exact PySem.W.sorted_of_sort hl.isList hz (ksk_s1 _ _) (fun _ => ksk_l1 _ _) fun E' => key_sort LE I hp rv r1 hk ok hf hc hz q
  | tup l' =>
    cases hd
    obtain ⟨a, vs, rfl, t1, t1', r1⟩ := rd.tup hp.sub
    obtain ⟨its, rv, hl, hz⟩ := I.tuple (C.hK ▸ t1)
    have hz : its.length ≤ sizeLine := by rw [← rv.length]; exact hz
    rw [Vals.ref1 r]
    exact sorted_of_sortT (show s.heap.IsTuple a its.toArray from hl) hz (ksk_s1 _ _) (fun _ => ksk_l1 _ _) fun E' => key_sort LE I hp rv r1 hk ok hf hc hz q
  | _ => cases hd
theorem sx_srtk {C : Cc} {key : Nat} {L : LamD} {lpos p pos kp : Pos} {e : Expr} {x : Ex} (LE : LamE C key L) (mk : LamMk C L lpos) (hg : Gl C.X "sorted") (hm : C.X.mg "sorted" = none) (he : SX C e x)
    (h0 : starEach [e] C.X.env = (false, eval e C.X.env) :: starEach [] C.X.env) (h1 : backTo pos (starEach [e] C.X.env) = (false, eval e C.X.env) :: backTo pos (starEach [] C.X.env)) (h2 : (backTo pos (starEach [e] C.X.env)).any (·.1) = false) :
    SX C (.Call (.Name "sorted" p) [e] [⟨some "key", .Lambda L.params L.body L.scope lpos, kp⟩] pos) (.srtk x (.lam key)) := by
  refine SX.mk' rfl (PE.imp (pe_callBK (ks := [Str.ofString "key"]) (cr_srt LE) hg hm rfl (pa_cons he.o pa_nil h0) (pk_cons (pe_lam mk) pk_nil) (by decide) (by decide) h1 h2) fun σ H Q ⟨F, ρ, h⟩ => ?_) rfl fun _ => rfl
  have h : tGa C.T F H ρ F ρ (RV C.T) C.W (M.bind (opA x (evB C.Pr C.cal x).1) fun a => M.bind a.d fun p => M.opt (srtKD C.cal key p)) σ H Q := h
  refine tG.imp h.bind fun v H1 ⟨F1, ρ1, a, P, r, h1⟩ => ?_
  show tLam C.T L σ H1 fun z H2 => rSrt C key L [v] [z] H2 Q
  refine ⟨P.sr.tabs, fun f c Pt H2 ⟨nm, hPt⟩ k1 k2 k3 k4 k5 k6 => ?_⟩
  have Pl : Post C.T F1 H1 [] [] F1 H2 [] := by
    have hp := P.sr.hp
    have nP : ∀ b o, F1 b = some o → b ≠ Pt := fun b o e z => by
      rw [z, hp.ft _ hPt] at e
      cases e
    obtain ⟨tps, tP, _⟩ := hp.tabs _ hPt
    refine ⟨sr0 hp, sr0 ⟨fun b o e => k1 b o (nP b o e) (hp.sub b o e), k3, hp.ft⟩, Same.refl _, fun b o e1 e2 e3 _ => ⟨e1, k1 b o (fun z => ?_) e2⟩, fun i d e => by simp [getS] at e, k2⟩
    rw [z] at e2
    exact e3 tps (Option.some.inj (e2.symm.trans tP))
  have P2 := Post.lift P.sr Pl
  obtain ⟨P0, r0, ρ', e0, q0⟩ := h1
  have h2 : tGa C.T F H ρ F1 ρ1 (RV C.T) C.W (M.bind a.d fun p => M.opt (srtKD C.cal key p)) σ H2 Q := ⟨P0.trans P2, r0, ρ', e0, q0⟩
  obtain ⟨v1, d, e1, e2, h3⟩ := h2.dd
  have rd := AOk.rd r P2.sr e1 e2
  obtain ⟨v', ev, h4⟩ := h3.optEnd
  unfold srtKD at ev
  split at ev
  · rename_i l hl
    split at ev
    · rename_i ks hk
      split at ev
      · rename_i ok
        cases ev
        refine ⟨F1, v, d, l, f, c, ks, rfl, rfl, P2.sr.hp, rd, hl, hk, ok, k5, k6, fun p F' H' P3 n1 n2 ⟨ws, w1, w2⟩ => ?_⟩
        exact h4.ret (Post.lift P2.sr P3) ⟨p, .lst ws, rfl, P0.th _ (P2.th _ n1), n2, w1, .lst w2⟩
      · cases ev
    · cases ev
  · cases ev
end Dp
end
section
set_option Elab.async false
set_option linter.all false
set_option maxRecDepth 100000
set_option maxHeartbeats 4000000
/-! S26: lambdas of the text in the contexts of bodies. -/
namespace Dp
open PySem PySem.Spec PyProof.Rows L2 NdefX LamX Dk
/-- all lambdas at a depth -/
def LamAll (G : Gb) (lams : List LamD) (k : Nat) : Prop := ∀ (key : Nat) (L : LamD), lams[key]? = some L → LamOk G.P G.w G.T.K G.mg G.base (5 * k) L (spK G.T (callF G.Pr k) key)
theorem lam_zero {G : Gb} {lams : List LamD} : LamAll G lams 0 := fun key L _ A outer s H f c us vs Q E _ _ _ _ _ ⟨F, x, d, kd, ps, _, _, _, h, _⟩ => (nomatch h)
/-- the code object of a def that makes lambdas -/
def TbAt (G : Gb) (cd : Value) (q : PySem.Str) : Prop := ∃ c P, TabB G.base G.mg c P ∧ cd = .ref c ∧ (P, fun _ _ => q) ∈ G.T.tb ∧ ∀ p ∈ G.T.tb, p.1 = P → p.2 = fun _ _ => q
section
variable {G : Gb} {names : List PySem.Str} {lams : List LamD} {k : Nat} {N ps : List PySem.Str} {qual : PySem.Str} {sc : Scope} {S : FnScope N ps sc} {lk : List Nat} {fA : Addr} {cd : Value} {A : Around} {outer : List PySem.Env} {s : Shared} {H : Hp} {E : XK}
theorem leC {hr : Room (5 * k + 4) (A.deeper (envOfC qual sc s.heap.objs.size fA cd))} (le : LamAll G lams k) {key : Nat} {L : LamD} (h : lams[key]? = some L) : LamE (CsOf G k N ps qual sc S lk fA cd A outer s H E hr).toCc key L := ⟨⟨5 * k, hr.mono (by omega), le key L h⟩⟩
theorem mkC {hr : Room (5 * k + 4) (A.deeper (envOfC qual sc s.heap.objs.size fA cd))} {L : LamD} {lpos : Pos} (tb : TbAt G cd L.qual) (ql : L.qual = (CsOf G k N ps qual sc S lk fA cd A outer s H E hr).X.env.qual ++ "<lambda>") (nf : ∀ y ∈ L.scope.names, y.2 ≠ .free)
    (df : defaultsOf L.params (CsOf G k N ps qual sc S lk fA cd A outer s H E hr).X.env = ([], [])) : LamMk (CsOf G k N ps qual sc S lk fA cd A outer s H E hr).toCc L lpos := by
  obtain ⟨c, P, t1, t2, t3, t4⟩ := tb
  exact ⟨⟨c, P, fun _ _ => L.qual, t1, t2, t3, ql, t4⟩, nf, df, ql⟩
theorem feL (fe : FnAll G names k) {L : LamD} {c f : Addr} {hN : N.Nodup} {hr : Room (5 * k + 4) (A.deeper (envF (L.lf c).nf f s.heap.objs.size))} {g : Nat} {nm : PySem.Str} (h : names[g]? = some nm) : FnE (CcL G k N L c f A outer s H E hN hr) g nm := by
  obtain ⟨⟨fd, qs, F, B⟩, m, kp⟩ := fe g nm h
  exact ⟨⟨5 * k, fd, qs, F, hr.mono (by omega), B⟩, m, kp⟩
end
/-! ### places in the text -/
def stBody : Stmt → List Stmt
  | .For _ _ b _ _ => b
  | .If _ b _ _ => b
  | .While _ b _ _ => b
  | _ => []
def stElse : Stmt → List Stmt
  | .For _ _ _ b _ => b
  | .If _ _ b _ => b
  | _ => []
def stAt (l : List Stmt) (n : Nat) : Stmt := l.getD n (.Pass ⟨0, 0, 0, 0⟩)
def exOf : Stmt → Expr
  | .Return (some e) _ => e
  | .Expr e _ => e
  | .Assign _ e _ => e
  | .For _ e _ _ _ => e
  | _ => .Name "?" ⟨0, 0, 0, 0⟩
def exAt : Expr → Nat → Expr
  | .Call f as _ _, n => as.getD n f
  | .Tuple es k p, n => es.getD n (.Tuple es k p)
  | e, _ => e
def exKw : Expr → Expr
  | .Call f _ (k :: _) _ => k.value
  | e => e
def lamOf (q : PySem.Str) : Expr → LamD
  | .Lambda p b sc _ => ⟨q, p, b, sc⟩
  | e => ⟨q, ⟨[], [], none, [], [], none, []⟩, e, default⟩
end Dp
end
section
set_option Elab.async false
set_option linter.all false
set_option maxRecDepth 100000
set_option maxHeartbeats 4000000
/-! S27: what the head tells. -/
namespace Dp
open PySem PySem.Spec PyProof.Rows L2 NdefX LamX Dk
def strsB : List Value → List PySem.Str → Bool
  | [], [] => true
  | .str z _ :: r, y :: t => decide (z = y) && strsB r t
  | _, _ => false
def tupOf (K : PySem.W.Frag) (a : Addr) (ws : List PySem.Str) : Bool := match K.lookup a with
  | some ⟨.type "tuple", _, .seq its _, _⟩ => strsB its.toList ws
  | _ => false
/-- the global x is the tuple of the texts ws -/
def tupStrB (K : PySem.W.Frag) (x : PySem.Str) (ws : List PySem.Str) : Bool := decide (PySem.W.nsIn K mainGlobals x = some (some (.ref (He.ga K x)))) && tupOf K (He.ga K x) ws
theorem strsB_ok {T : Kt} {F : Hp} : ∀ {us : List Value} {ws : List PySem.Str}, strsB us ws = true → (∀ z ∈ ws, z.length ≤ sizeLine ∧ PyData.strOk z = true) → Vals (ws.map V.str) us ∧ RepL T F (ws.map V.str) (ws.map fun z => D.str z.cps.toList)
  | [], [], _, _ => ⟨.nil, .nil⟩
  | .str z t :: r, y :: ws, h, hz => by
    have h : (decide (z = y) && strsB r ws) = true := h
    rw [Bool.and_eq_true] at h
    have e := of_decide_eq_true h.1
    subst e
    obtain ⟨a, b⟩ := strsB_ok (T := T) (F := F) h.2 fun z hz' => hz z (List.mem_cons_of_mem _ hz')
    obtain ⟨h1, h2⟩ := hz z List.mem_cons_self
    exact ⟨.cons ⟨t, rfl⟩ a, .cons (.str z h1 h2) b⟩
  | [], _ :: _, h, _ => by cases h
  | .str _ _ :: _, [], h, _ => by cases h
  | .none :: _, _, h, _ => by cases h
theorem tupStrB_ok {T : Kt} {h : Heap} {mg : PySem.Str → Option Value} {x : PySem.Str} {ws : List PySem.Str} (X : T.K.In h) (G : h.Ns mainGlobals mg) (c : tupStrB T.K x ws = true) (hl : ws.length ≤ sizeLine) (hz : ∀ z ∈ ws, z.length ≤ sizeLine ∧ PyData.strOk z = true) :
    ∃ v u, mg x = some u ∧ RelV v u ∧ ∀ F, Rep T F v (.tup (ws.map fun z => D.str z.cps.toList)) := by
  unfold tupStrB at c
  rw [Bool.and_eq_true] at c
  obtain ⟨c1, c2⟩ := c
  have e := PySem.W.mg_of X G (of_decide_eq_true c1)
  unfold tupOf at c2
  split at c2
  · rename_i od its n sl lk
    refine ⟨.ref (He.ga T.K x), _, e, rfl, fun F => ?_⟩
    obtain ⟨a, b⟩ := strsB_ok (T := T) (F := F) c2 hz
    have q := a.length
    rw [List.length_map] at q
    exact .tup (.inr ⟨_, its, n, lk, rfl, rfl, by rw [← Array.length_toList, ← q]; exact hl, a⟩) b
  · cases c2
/-- the tables of the defs that make lambdas, each with its lambdas' name -/
def htbOf (K : PySem.W.Frag) (tq : List (He.Defn × PySem.Str)) : List NTab := tq.map fun p => ((He.cT K p.1).2, fun _ _ => p.2)
/-- no two are one -/
def tabsNe (K : PySem.W.Frag) (tf : List He.Defn) : Bool := decide (tf.map fun p => (He.cT K p).2).Nodup
theorem tbAt_of {G : Gb} {tq : List (He.Defn × PySem.Str)} {p : He.Defn} {q : PySem.Str} {x qual : PySem.Str} {params : Arguments} {body : List Stmt} {scope : Scope} {fd : FuncData} {cd : Value} (htb : G.T.tb = htbOf G.T.K tq) (hp : (p, q) ∈ tq) (nd : tabsNe G.T.K (tq.map (·.1)) = true)
    (TB : ∀ r ∈ tq.map (fun r => He.cT G.T.K r.1), TabB G.base G.mg r.1 r.2) (F : FunD G.T.K x qual params body scope [] [] (He.fAd G.T.K p) fd) (hc : fd.code = cd) : TbAt G cd q := by
  obtain ⟨oc, od, dV, kV, doc, pm, an, cdv, ct, osl, e, lk, hcd, _, _⟩ := F.ex
  have ec : cdv = cd := by rw [← hc, e]
  subst ec
  obtain ⟨c, rfl⟩ := He.codeIn_ref hcd
  have e1 := He.codeOf_eq lk hc
  refine ⟨c, (He.cT G.T.K p).2, ?_, rfl, ?_, fun r hr hr1 => ?_⟩
  · have z := TB _ (List.mem_map.mpr ⟨(p, q), hp, rfl⟩)
    have e2 : (He.cT G.T.K p).1 = c := e1
    rw [e2] at z
    exact z
  · rw [htb]
    exact List.mem_map.mpr ⟨(p, q), hp, rfl⟩
  · rw [htb] at hr
    obtain ⟨r', hr', rfl⟩ := List.mem_map.mp hr
    have nd := of_decide_eq_true nd
    rw [List.map_map] at nd
    have inj : ∀ {l : List (He.Defn × PySem.Str)} {a b : He.Defn × PySem.Str}, (l.map fun p => (He.cT G.T.K p.1).2).Nodup → a ∈ l → b ∈ l → (He.cT G.T.K a.1).2 = (He.cT G.T.K b.1).2 → a = b := by
      intro l
      induction l with
      | nil => intro a b _ h; cases h
      | cons y l ih =>
        intro a b hn ha hb he
        rw [List.map_cons, List.nodup_cons] at hn
        rcases List.mem_cons.mp ha with h1 | h1
        · rcases List.mem_cons.mp hb with h2 | h2
          · rw [h1, h2]
          · rw [h1] at he
            exact absurd (show (He.cT G.T.K y.1).2 ∈ l.map (fun p => (He.cT G.T.K p.1).2) from List.mem_map.mpr ⟨b, h2, he.symm⟩) hn.1
        · rcases List.mem_cons.mp hb with h2 | h2
          · rw [h2] at he
            exact absurd (show (He.cT G.T.K y.1).2 ∈ l.map (fun p => (He.cT G.T.K p.1).2) from List.mem_map.mpr ⟨a, h1, he⟩) hn.1
          · exact ih hn.2 h1 h2 he
    have := inj nd hr' hp hr1
    rw [this]
end Dp
end
section
set_option Elab.async false
set_option linter.all false
set_option maxRecDepth 100000
set_option maxHeartbeats 1000000
/-! S28: C() of an own exception class whose __init__ stores nothing. -/
namespace Dx
open PySem PySem.Spec PyProof.Rows L2
/-- C(), C's own __init__ keeping sp, nothing stored -/
def tMk0 (C : Addr) (sp : Sp) : L2.St → Hp → XK → Prop := fun _ H Q => ∀ a, H a = none → sp [.ref a] (upd H a (exo a C none)) (fun v H2 => v = .non ∧ H2 a = some (exo a C none) ∧ Q (.ref C) none (L2.del H2 a)) (fun _ _ _ => False)
section
variable {X : Cx}
theorem mk_end2 {pins : List (Addr × Obj)} {σ : L2.St} {H1 H2 : Hp} {hp hp2 h2 : Heap} {g1 g2 : Array GenState} {d1 d2 : Drawn} {t1 t2 : Nat} {os1 os2 : OsState} {a C : Addr} (I1 : Inv X pins σ H1 ⟨hp, g1, d1, t1, os1⟩)
    (ha : hp.objs.size ≤ a) (k : ∀ b o, hp.get? b = some o → hp2.get? b = some o) (un : Un (frs X.stack) [] (upd H1 a (exo a C none)) H2 hp2 h2) (hok : HOk X.prog X.w H2 h2) (ho : os2 = os1) (hb : AllBare g2)
    (ea : H2 a = some (exo a C none)) :
    ∃ (t0 : Addr) (G : Heap), Inv X pins σ (L2.del H2 a) ⟨G, g2, d2, t2, os2⟩ ∧ (∀ b o, G.get? b = some o → h2.get? b = some o) ∧ G.get? a = none ∧
      h2.get? a = some ({ cls := .ref C, dict := none, data := .fields #[.ref t0, .none, .none, .none, .bool false, .none] } : Obj) := by
  obtain ⟨t0, hoe⟩ := exo_at hok ea
  have hn : H1 a = none := I1.hok.fresh ha
  obtain ⟨G, g1', g2'⟩ := restrict h2 fun b => decide (b ≠ a)
  have gk : ∀ b, b ≠ a → G.get? b = h2.get? b := fun b hb => g1' b (decide_eq_true hb)
  have ge : G.get? a = none := g2' a (by simp)
  have nha : ∀ {b : Addr} {o : Obj}, hp.get? b = some o → b ≠ a := fun {b o} z => Nat.ne_of_lt (Nat.lt_of_lt_of_le (Heap.lt_size z) ha)
  have up : ∀ {b : Addr}, b ≠ a → H1 b = none → upd H1 a (exo a C none) b = none := fun {b} hb n => by rw [upd_ne hb]; exact n
  have U : Un (frs X.stack) [] H1 (L2.del H2 a) hp G := {
    keep := fun b o z n hf hx => by
      rw [gk b (nha z)]
      exact un.keep b o (k b o z) (up (nha z) n) hf hx
    slot := fun b o z n hf hx => by
      rw [gk b (nha z)]
      exact un.slot b o (k b o z) (up (nha z) n) hf hx
    free := fun b o z n hx => by
      rw [del_ne (nha z)]
      exact un.free b o (k b o z) (up (nha z) n) hx
    there := fun b o z hx => by
      rw [gk b (nha z)]
      exact un.there b o (k b o z) hx
    tups := fun b xs z => by
      rw [del_ne (ne_of_none z hn)]
      exact un.tups b xs (by rw [upd_ne (ne_of_none z hn)]; exact z)
    frzs := fun b o v z => by
      rw [del_ne (ne_of_none z hn)]
      exact un.frzs b o v (by rw [upd_ne (ne_of_none z hn)]; exact z)
    tbls := fun b ps z => by
      rw [del_ne (ne_of_none z hn)]
      exact un.tbls b ps (by rw [upd_ne (ne_of_none z hn)]; exact z) }
  have hok3 : HOk X.prog X.w (L2.del H2 a) G := fun b o z => by
    have hba : b ≠ a := fun e => by
      rw [e, del_same] at z
      cases z
    rw [del_ne hba] at z
    have noa : ∀ {c : Addr}, H2 c = some (.own b) → c ≠ a := fun {c} hc => at_ne ea hc exo_own
    exact (hok b o z).stay (fun c v hc y => by
        have hca : c ≠ a := by
          rcases hc with hc | hc
          · rw [hc]
            exact hba
          · exact noa hc
        rw [gk c hca]
        exact y)
      (fun c hc => by rw [del_ne (noa hc)]; exact hc) (fun c xs hc => by rw [del_ne (at_ne ea hc exo_tup)]; exact hc)
  exact ⟨t0, G, I1.call' (ch := []) ho U hok3 hb (fun b z => absurd z (by simp)), fun b o z => by
    by_cases hba : b = a
    · rw [hba, ge] at z
      cases z
    · exact (gk b hba).symm.trans z, ge, hoe⟩
theorem pmk_oex0 {CX : CXT} {x : PySem.Str} {p pos : Pos} {C fI : Addr} {k : Nat} {fd : FuncData} {ps : List PySem.Str} {sp : Sp} (T : OexC X.K C) (iC : PySem.W.findIn X.K (.ref C) "__init__" = some (some (.ref fI))) (tI : PySem.W.typeIn X.K (.ref fI) = some (.type "function"))
    (F1 : FnOk X.prog X.w X.K X.mg X.base CX k fI fd ps sp) (hr : Room (k + 1) X.A) (hb : Binds X.K fd ps []) (hx : Passes CX X (fun _ _ _ => False)) (hg : Gl X x) (hm : X.mg x = some (.ref C))
    (hdb : (x == ("__debug__" : PySem.Str)) = false := by decide) :
    PMk X (.Call (.Name x p) [] [] pos) (tMk0 C sp) := by
  intro pins s σ H Q I h
  obtain ⟨nm, q, N, bs, bm, sn, sub, ab, col, dd, k0, k1, k2, k3, k5, hC, hbm⟩ := T.cls
  refine wpAny_Call_Name_kw (ld_glob I hg hm ?_ hdb)
  refine PySem.W.callWith_K0 I.kIn T.kC ?_
  show wpAny _ _ (call (.ref C) []) _ _ _
  obtain ⟨hp, g, dr, tk, os⟩ := s
  have hsz : hp.objs.size ≤ hp.objs.size + 1 := Nat.le_succ _
  have hn : H (hp.objs.size + 1) = none := I.hok.fresh hsz
  have hq := h (hp.objs.size + 1) hn
  have kk : ∀ b o, hp.get? b = some o → ((hp.push (PySem.W.kdv_tup [])).push (PySem.HandSPX.excO C hp.objs.size)).get? b = some o := fun b o e => Heap.get?_push_of_some _ (Heap.get?_push_of_some _ e)
  have hget : ((hp.push (PySem.W.kdv_tup [])).push (PySem.HandSPX.excO C hp.objs.size)).get? (hp.objs.size + 1) = some (PySem.HandSPX.excO C hp.objs.size) := by heap_get
  have I2 : Inv X pins σ (upd H (hp.objs.size + 1) (exo (hp.objs.size + 1) C none)) ⟨(hp.push (PySem.W.kdv_tup [])).push (PySem.HandSPX.excO C hp.objs.size), g, dr, tk, os⟩ :=
    I.laid (t' := tk) (a := hp.objs.size + 1) (o := exo (hp.objs.size + 1) C none) (h' := (hp.push (PySem.W.kdv_tup [])).push (PySem.HandSPX.excO C hp.objs.size)) kk hsz (exo_ok hget)
  have r2 : Vals [V.ref (hp.objs.size + 1)] [Value.ref (hp.objs.size + 1)] := .cons rfl .nil
  have hl : [Value.ref (hp.objs.size + 1)].length = ps.length := by
    have e := r2.length
    rw [F1.len _ _ _ _ hq] at e
    exact e.symm
  refine wpAny_call (PySem.HandSPX.call_own F.excBase_ValueError (fun Y => PySem.HandSPX.refsVE_contains Y bm hbm) (I.kIn _ _ hC) (PySem.W.looks_findIn I.kIn iC) (fun self => PySem.W.bind_fn I.kIn self tI) (Nat.zero_le _)
    (codeAny_mono (F1.run _ X.stack _ _ ⟨[Value.ref (hp.objs.size + 1)], []⟩ [Value.ref (hp.objs.size + 1)] _ _ (fun _ _ _ => False) (hr.make C [] []) (I2.env0.make C [] []) (hb _ [Value.ref (hp.objs.size + 1)] I2.kIn hl) r2 hq) fun r s' hq' => ?_))
  cases r with
  | error er => exact hx pins σ _ _ er s' I2 hq'
  | ok fl =>
    cases fl with
    | ret u =>
      obtain ⟨v, H2, os2, bare2, un2, hok2, rv, ev, ea, q2⟩ := hq'
      subst ev
      obtain ⟨h2, g2, d2, t2, os'⟩ := s'
      obtain ⟨t0, G, J, kG, ge, hoe⟩ := mk_end2 (d2 := d2) (t2 := t2) I hsz kk un2 hok2 os2 bare2 ea
      exact ⟨rv, _, _, _, ⟨G, g2, d2, t2, os'⟩, _, .ref C, none, rfl, J, kG, ge, hoe, ⟨rfl, rfl⟩, rfl, rfl, del_same, rfl, bare2, raises_own T.exC T.tyC, q2⟩
    | next => exact False.elim hq'
    | brk => exact False.elim hq'
    | cont => exact False.elim hq'
end
end Dx
end
section
set_option Elab.async false
set_option linter.all false
set_option maxRecDepth 100000
set_option maxHeartbeats 1000000
/-! S29: raise C(). -/
namespace Dx
open PySem PySem.Spec PyProof.Rows L2 Dp
/-- what an __init__ that only says ValueError.__init__(self) keeps -/
def spI (K : PySem.W.Frag) : Sp := fun xs H Q _ => ∃ a C : Addr, xs = [.ref a] ∧ OexC K C ∧ H a = some (exo a C none) ∧ Q .non H
theorem passF {P : Program} {w : World} {X : Cx} : Passes (L2.CX P w) X (fun _ _ _ => False) := fun _ _ _ _ _ _ _ h => by
  obtain ⟨_, _, _, _, _, _, _, _, _, _, _, _, z⟩ := h
  exact z.elim
/-- an own exception class as it may be raised here -/
structure ExE (C : Cc) (c : Nat) (nm : PySem.Str) : Prop where
  mg : C.X.mg nm = some (.ref (C.T.ca c))
  oex : OexC C.X.K (C.T.ca c)
  dk : C.T.dk c none
  init : ∃ (k : Nat) (fI : Addr) (fd : FuncData) (ps : List PySem.Str), PySem.W.findIn C.X.K (.ref (C.T.ca c)) "__init__" = some (some (.ref fI)) ∧ PySem.W.typeIn C.X.K (.ref fI) = some (.type "function") ∧
    FnOk C.X.prog C.X.w C.X.K C.X.mg C.X.base (L2.CX C.X.prog C.X.w) k fI fd ps (spI C.X.K) ∧ Room (k + 1) C.X.A ∧ Binds C.X.K fd ps []
theorem del_upd {H : Hp} {a : Addr} {o : HO} (h : H a = none) : L2.del (upd H a o) a = H := by
  funext b
  by_cases e : b = a
  · rw [e, del_same, h]
  · rw [del_ne e, upd_ne e]
theorem ss_raise0 {C : Cs} {nm : PySem.Str} {c : Nat} {p pos pos' : Pos} (hx : ExE C.toCc c nm) (tk : Takes C.X C.W) (hg : Gl C.X nm) (hdb : (nm == ("__debug__" : PySem.Str)) = false) : SS C (.Raise (some (.Call (.Name nm p) [] [] pos)) none pos') (.raise c .nil) := by
  obtain ⟨hm, T, dk, k, fI, fd, ps, iC, tI, F, hr, hb⟩ := hx
  refine PS.imp (ps_raise C.calm tk (pmk_oex0 T iC tI F hr hb passF hg hm hdb)) fun D σ H ⟨F, ρ, h⟩ => ?_
  intro a na
  refine ⟨a, C.T.ca c, rfl, T, upd_same, rfl, upd_same, ?_⟩
  rw [del_upd na]
  obtain ⟨P0, r, ρ', e, q⟩ := h
  have e : some (Res.err c, ρ) = some (r, ρ') := e
  cases e
  exact q F H σ none dk P0
/-- such an __init__ -/
theorem fn_init {P : Program} {w : World} {K : PySem.W.Frag} {mg : PySem.Str → Option Value} {base : Heap} {CX : CXT} {x qual : PySem.Str} {st : Stmt} {f : Addr} {fd : FuncData}
    (Fn : FunD K x qual (defArgs st) (defBody st) (defScope st) [] [] f fd) (S : FnScope ["self"] ["self"] (defScope st))
    (hb : ∀ (cdv : Value) (A : Around) (outer : List PySem.Env) (s : Shared) (H : Hp) (E : XK), ∃ t, PSs (cxOf CX P w K mg base ["self"] qual (defScope st) f cdv A outer s H E) (defBody st) t ∧
      ∀ (a C : Addr) (Q : VK), OexC K C → H a = some (exo a C none) → Q .non H → t { nx := fun _ H' => Q .non H', rt := Q } (L2.start ["self"] [.ref a]) H) :
    FnOk P w K mg base CX 1 f fd ["self"] (spI K) := by
  refine FunD.okC Fn S (fun vs H Q E ⟨a, C, e, _⟩ => by rw [e]; rfl) fun cdv ecd A outer s H vs Q E hr hsp => ?_
  obtain ⟨a, C, rfl, T, ea, q⟩ := hsp
  obtain ⟨t, h1, h2⟩ := hb cdv A outer s H E
  exact ⟨t, h1, h2 a C Q T ea q⟩
/-- what it asks, answered -/
theorem init_q {K : PySem.W.Frag} {H : Hp} {a C : Addr} {Q : VK} (T : OexC K C) (ea : H a = some (exo a C none)) (q : Q .non H) : tVeI K (tCons (tVar 0) tNil) (L2.start ["self"] [.ref a]) H fun _ H' => Q .non H' := ⟨.ref a, rfl, a, C, [], rfl, by simp, T, ea, q⟩
end Dx
end
section
set_option Elab.async false
set_option linter.all false
set_option maxRecDepth 100000
set_option maxHeartbeats 4000000
/-! S30: a lambda without parameters, with what it captures, given to a def. -/
namespace Dx
open PySem PySem.Spec PyProof.Rows L2 NdefX LamX Dk
section
variable {X : Cx} {pins : List (Addr × Obj)} {σ : L2.St} {H : Hp} {s : Shared}
theorem no_frame (I : Inv X pins σ H s) {f : Addr} (hf : s.heap.objs.size ≤ f) : f ∉ frs X.stack := fun hm => by
  cases List.mem_cons.mp (I.stkSub _ hm) with
  | inl e =>
    have l := I.lt
    rw [← e] at l
    exact Nat.lt_irrefl _ (Nat.lt_of_lt_of_le l hf)
  | inr e => exact I.nofs hf e
/-- a lambda object that nobody tracks -/
theorem lam_makeC {T : List NTab} {nm : Nat → Nat → PySem.Str} {c P : Addr} {params : Arguments} {body : Expr} {scope : Scope} {pos : Pos} {E : Value → Shared → Prop} {Q : Value → Shared → Prop} (I : Inv X pins σ H s) (TB : TabB X.base X.mg c P) (hcode : X.env.code = .ref c)
    (hm : (P, nm) ∈ T) (hn : nm pos.line pos.col = X.env.qual ++ "<lambda>") (hu : ∀ p ∈ T, p.1 = P → p.2 = nm) (hT : TabsN T H) (hfree : ∀ y ∈ scope.names, y.2 = .free → ∃ c, X.env.cells.lookup y.1 = some c) (hdef : defaultsOf params X.env = ([], []))
    (h : ∀ (f c' : Addr) (pm ctv : Value) (H1 : Hp) (s' : Shared), Inv X pins σ H1 s' → (∀ b o, b ≠ P → H b = some o → H1 b = some o) → (∀ b, H1 b = none → H b = none) → TabsN T H1 →
      s'.heap.get? f = some (PySem.W.kla_obj "<lambda>" (X.env.qual ++ "<lambda>") params body scope (cloFrom X.env.cells scope.names []) pm c' ctv) → H1 f = none → f ∉ frs X.stack → H1 c' = some (CodeO c' (X.env.qual ++ "<lambda>")) → Q (.ref f) s') :
    wpAny (model X.prog X.w) X.A (eval (.Lambda params body scope pos) X.env) Q E s := by
  obtain ⟨ps, hP, ht, ha⟩ := (show TabN H P nm from hT _ hm)
  have bP : s.heap.BuiltinsAt X.mg P := TB.bm.keeps I.bk
  have hP' : s.heap.get? P = some { cls := .none, data := .fields ps } := I.hok P _ hP
  refine PySem.W.kla_eval hdef ?_
  cases hc : codeAmong pos ps.toList with
  | some cv =>
    obtain ⟨c', e, hco⟩ := ha pos cv hc
    subst e
    rw [hn] at hco
    refine PySem.W.kla_makeFunctionHit (mg := X.mg) (c := c) (P := P) (ps := ps) (closure_ok hfree) I.ok.glob (I.mod.glob.keeps I.bk) hcode (TB.code.keeps I.bk) hP' ht hc bP fun ctv h' tk hx hsz => ?_
    exact h h'.objs.size c' _ ctv H _ (I.kept fun b o e => Heap.get?_push_of_some _ (hx b o e)) (fun _ _ _ e => e) (fun _ e => e) hT (Heap.get?_push_size _ rfl) (I.hok.fresh hsz) (no_frame I hsz) hco
  | none =>
    refine PySem.W.kla_makeFunction (mg := X.mg) (c := c) (P := P) (ps := ps) (closure_ok hfree) I.ok.glob (I.mod.glob.keeps I.bk) hcode (TB.code.keeps I.bk) hP' ht hc TB.gP bP fun c' ctv h' tk hx hge hlt hrec htb => ?_
    obtain ⟨c2, oc, vs, t, e2, hoc, hd, hv⟩ := hrec
    cases e2
    have nC : H c' = none := I.hok.fresh hge
    let more : Array Value := #[rawInt pos.line, rawInt pos.col, .ref c']
    let H1 : Hp := upd (upd H P (.tbl (ps ++ more))) c' (CodeO c' (X.env.qual ++ "<lambda>"))
    have I1 : Inv X pins σ H1 { s with heap := h', toks := tk } := inv_table (t' := tk) (more := more) (h' := h') I hP (fun b o hb e => hx b o hb e) htb hge ⟨oc, vs, t, hoc, hd, hv⟩
    have hE : ∀ b o, b ≠ P → H b = some o → H1 b = some o := fun b o n e => by
      show upd (upd H P _) c' _ b = _
      rw [upd_ne (ne_of_none e nC), upd_ne n, e]
    have nt : ∀ b o, H b = some o → (∀ q, o ≠ .tbl q) → b ≠ P := fun b o e q z => by
      subst z
      rw [hP] at e
      injection e with e
      exact q ps e.symm
    have atP : H1 P = some (.tbl (ps ++ more)) := by
      show upd (upd H P _) c' _ P = _
      rw [upd_ne (ne_of_none hP nC), upd_same]
    have eL : (ps ++ more).toList = ps.toList ++ [rawInt pos.line, rawInt pos.col, .ref c'] := by simp [more]
    have T1 : TabsN T H1 := fun p hp => by
      rcases Classical.em (p.1 = P) with hb | hb
      · refine ⟨ps ++ more, by rw [hb]; exact atP, by rw [eL]; exact PySem.TriplesOk_snoc _ _ _ _ ht, fun p' cv hcv => ?_⟩
        rw [hu p hp hb]
        rw [eL] at hcv
        rcases among_app2 _ ht hcv with z | ⟨z, z1, z2⟩
        · obtain ⟨c0, e1, e2⟩ := ha p' cv z
          exact ⟨c0, e1, hE _ _ (nt _ _ e2 codeO_ne) e2⟩
        · exact ⟨c', z, by rw [← z1, ← z2, hn]; exact upd_same⟩
      · obtain ⟨ps', a1, a2, a3⟩ := hT p hp
        refine ⟨ps', hE _ _ hb a1, a2, fun p' cv hcv => ?_⟩
        obtain ⟨c0, e1, e2⟩ := a3 p' cv hcv
        exact ⟨c0, e1, hE _ _ (nt _ _ e2 codeO_ne) e2⟩
    have hsz : s.heap.objs.size ≤ h'.objs.size := by omega
    refine h h'.objs.size c' _ ctv H1 _ (I1.kept fun b o e => Heap.get?_push_of_some _ e) hE (fun b e => ?_) T1 (Heap.get?_push_size _ rfl) (I1.hok.fresh (Nat.le_refl _)) (no_frame I hsz) upd_same
    exact upd_none (upd_none e)
end
/-- the reading of g(lambda: body), T: the tables, P: the maker's own -/
def tGive (T : List NTab) (P : Addr) (TT : (XK → Hp → VK → Prop) → Hp → VK → Prop) (t : XK → TE) : TE := fun σ H Q => TabsN T H ∧ ∀ H1, (∀ b o, b ≠ P → H b = some o → H1 b = some o) → (∀ b, H1 b = none → H b = none) → TabsN T H1 → TT (fun E H' Q' => t E σ H' Q') H1 Q
/-- g(lambda: body) -/
theorem pe_give {X : Cx} {T : List NTab} {nm : Nat → Nat → PySem.Str} {TT : (XK → Hp → VK → Prop) → Hp → VK → Prop} {x a : PySem.Str} {g c P : Addr} {k : Nat} {pg : Arguments} {bg : List Stmt} {sg : Scope} {dV kV doc pm cdv ct oc : Value} {an od : Option Addr} {osl : Array (Option Value)} {Ng : List PySem.Str}
    {params : Arguments} {body : Expr} {scope : Scope} {t : XK → TE} {p lpos pos : Pos} (hg : Gl X x) (hm : X.mg x = some (.ref g)) (hk : PySem.W.keepIn X.K (.ref g) = true)
    (lk : X.K.lookup g = some ⟨oc, od, .func (PySem.W.fnOf x x pg bg sg dV kV doc pm an cdv ct), osl⟩) (hcg : PySem.W.codeIn X.K cdv x = true) (hb : L2.Binds X.K (PySem.W.fnOf x x pg bg sg dV kV doc pm an cdv ct) [a] []) (Sg : FnScope Ng [a] sg) (hNg : Ng[0]? = some a) (hva : Vis sg a)
    (hG : GivesTo X Ng x sg g cdv bg a (X.env.qual ++ "<lambda>") TT)
    (TB : TabB X.base X.mg c P) (hcode : X.env.code = .ref c) (hmT : (P, nm) ∈ T) (hn : nm lpos.line lpos.col = X.env.qual ++ "<lambda>") (hu : ∀ p ∈ T, p.1 = P → p.2 = nm) (hr : Room (k + 2) X.A) (L : LamS X.env.scope scope) (hdef : defaultsOf params X.env = ([], []))
    (hbind : ∀ (q : PySem.Str) (cl : List (PySem.Str × Addr)) (pm cv ctv : Value), bindArgs (PySem.W.kla_fn "<lambda>" q params body scope cl pm cv ctv) ⟨[], []⟩ = pure [])
    (hbody : ∀ (A : Around) (outer : List PySem.Env) (s : Shared) (H : Hp) (E : XK) (f c' : Addr), Room k (A.deeper (lamEnv X scope s.heap.objs.size f c')) → PE (lamCx X A outer s H E scope f c') body (t E))
    (hdb : (x == ("__debug__" : PySem.Str)) = false := by decide) (hd : (a == ("__debug__" : PySem.Str)) = false := by decide) (hcd : (a == ("__classdict__" : PySem.Str)) = false := by decide) :
    PE X (.Call (.Name x p) [.Lambda params body scope lpos] [] pos) (tGive T P TT t) := by
  refine ⟨fun pins s σ H Q I ⟨hT, h⟩ => ?_⟩
  refine wpAny_Call_Name_kw (ld_glob I hg hm (PySem.W.callWith_K (h₀ := X.base) I.ok.mod.kin hk ?_ (by rfl) (by rfl)) hdb)
  show wpAny _ _ (spliced ((false, eval (.Lambda params body scope lpos) X.env) :: backTo pos (starEach [] X.env))) _ _ s
  refine Calls.spliced_cons (lam_makeC I TB hcode hmT hn hu hT (L.has I.ok) hdef fun f c' pm' ctv H1 s' I1 eN th T1 hf hfn hfr hco => Calls.spliced_nil ⟨I1.kIn, ?_⟩)
  have run : codeAny (model X.prog X.w) X.A (.call (.ref g) ⟨[.ref f], []⟩) (CR C8.CX0 X.stack X.prog X.w H1 s' Q C8.E0) s' :=
    run_ofS (N := Ng) (ps := [a]) (us := [.ref f]) (vs := [.ref f]) lk hcg Sg hr I1.env0 (hb s' [.ref f] I1.kIn rfl) (.cons rfl .nil) rfl fun hr' => by
      obtain ⟨t', h1, h2⟩ := hG f c' s' H1 Q (fun E H' Q' => t E σ H' Q') (fun W pn xe E p1 p2 tk hW => pe_act (i := 0) I1 L hf hfn hfr (hbind _ _ _ _ _) tk hW hr' (fun A outer s H hr2 => hbody A outer s H E f c' hr2) hNg hva hd hcd) hco (h H1 eN th T1)
      exact ⟨t', h1.nox, h2⟩
  refine wpAny_call (codeAny_mono run fun r s2 hq => ?_)
  match r, hq with
  | .error e, hq => exact (show False from hq).elim
  | .ok (.ret u), hq => exact I1.after hq
  | .ok .next, hq => exact False.elim hq
  | .ok .brk, hq => exact False.elim hq
  | .ok .cont, hq => exact False.elim hq
end Dx
end
section
set_option Elab.async false
set_option linter.all false
set_option maxRecDepth 100000
set_option maxHeartbeats 2000000
/-! S31: list.count; what a law's own refusal asks. -/
namespace Dx
open PySem PySem.Spec PyProof.Rows L2 NdefX LamX Dk
theorem count_eqU {y : V} : ∀ {xs : List V} {us : List Value}, Vals xs us → xs.all flatV = true → us.countP (eqU y) = xs.countP fun z => eqV z y
  | _, _, .nil, _ => rfl
  | x :: _, _ :: _, .cons r rs, h => by
    have h : (flatV x && _) = true := h
    rw [Bool.and_eq_true] at h
    rw [List.countP_cons, List.countP_cons, count_eqU rs h.2, eqU_of r h.1]
/-- xs.count(y), flat items -/
def rCountV (K : PySem.W.Frag) : V → List V → Hp → VK → Prop := fun x xs H Q => ∃ (p : Addr) (ys : List V) (y : V), x = .ref p ∧ xs = [y] ∧ SqL K H p ys ∧ flatV y = true ∧ ys.all flatV = true ∧ Q (.int ((ys.countP fun z => eqV z y : Nat) : Int)) H
theorem mt_countV {X : Cx} : MtR X "list.count" (rCountV X.K) := by
  intro pins s σ H x xs v us Q I rx rxs h
  obtain ⟨p, ys, y, rfl, rfl, hs, fy, fys, q⟩ := h
  cases rx
  obtain ⟨u, rfl, ru⟩ := rxs.one
  obtain ⟨its, rv, ⟨⟨cls, dd, data, sl⟩, n, ho, hc, hdn, hd⟩, hlen⟩ := I.list hs
  simp only at hc hd
  subst hc hd
  refine call_meets PySem.F.slot_list_count ⟨_, ho, rfl⟩ PySem.F.entry_list_count (PySem.F.args_list_count_2 _ _)
    (SeqAt.list_countAt p its.toArray n dd sl u (eqU y)) ⟨ho, fun w hw => mem_eqAt ru fy rv fys w (by simpa using hw), ?_⟩
  have ec : its.toArray.toList.countP (eqU y) = ys.countP fun z => eqV z y := count_eqU rv fys
  refine ⟨.int ((ys.countP fun z => eqV z y : Nat) : Int), H, I.tok _, ⟨s.toks, ?_⟩, q⟩
  show Value.int ((its.toArray.toList.countP (eqU y) : Nat) : Int) s.toks = Value.int (((ys.countP fun z => eqV z y) : Nat) : Int) s.toks
  rw [ec]
/-- the length of what stands in slots is known of what is in the air -/
theorem Takes.len {X : Cx} {W : WX} (tk : L2.Takes X W) : L2.Takes X fun cls d σ H => σ.length = X.N.length → W cls d σ H := fun u s' x => by
  obtain ⟨a, B, sI, pins, σ, H, cls, d, e, I, nb, up, sky, na, os, ag, w⟩ := x
  exact tk u s' ⟨a, B, sI, pins, σ, H, cls, d, e, I, nb, up, sky, na, os, ag, w I.len⟩
/-- "let", or a word by the error's class -/
def TRef (ca : Nat → Addr) (tab : List (Nat × PySem.Str)) : (XK → Hp → VK → Prop) → Hp → VK → Prop := fun tl H Q =>
  (∀ (E E' : XK) (H : Hp) (Q Q' : VK), (∀ c d H, E c d H → E' c d H) → (∀ v H, Q v H → Q' v H) → tl E H Q → tl E' H Q') ∧
  tl (fun cls d H' => ∃ (i c : Nat) (w : PySem.Str), tab[i]? = some (c, w) ∧ cls = .ref (ca c) ∧ d = none ∧ ∀ H2, (∀ p o, H' p = some o → H2 p = some o) → (∀ p, H2 p = none → H' p = none) → Q (.str w) H2) H fun _ H' => Q (.str "let") H'
end Dx
end
section
set_option Elab.async false
set_option linter.all false
set_option maxRecDepth 100000
set_option maxHeartbeats 2000000
/-! S32: refusals. -/
namespace Dx
open PySem PySem.Spec PyProof.Rows L2 NdefX LamX Dk Dp
/-- the context of a lambda's body that speaks of its maker's names -/
def CcR (C : Cc) (k : Nat) (A : Around) (outer : List PySem.Env) (s : Shared) (H : Hp) (E : XK) (scope : Scope) (f c' : Addr) (hr : Room k (A.deeper (lamEnv C.X scope s.heap.objs.size f c'))) (hk : 2 ≤ k) : Cc where
  T := C.T
  Pr := C.Pr
  cal := C.cal
  W := fun cls d _ H => E cls d H
  X := lamCx C.X A outer s H E scope f c'
  hK := C.hK
  hu := by have := hr.un; show (A.deeper (lamEnv C.X scope s.heap.objs.size f c')).units + 200 < cLine; omega
  calm := rfl
  hN := C.hN
theorem takes_ref {C : Cc} {k : Nat} {A : Around} {outer : List PySem.Env} {s : Shared} {H : Hp} {E : XK} {scope : Scope} {f c' : Addr} {hr : Room k (A.deeper (lamEnv C.X scope s.heap.objs.size f c'))} {hk : 2 ≤ k} : L2.Takes (CcR C k A outer s H E scope f c' hr hk).X (CcR C k A outer s H E scope f c' hr hk).W := takes_of rfl rfl rfl rfl
/-- a new table entry: what is known stays -/
theorem SR.table {T : Kt} {F H H1 : Hp} {ρ : Dp.Env} {σ : L2.St} {P : Addr} {nm : Nat → Nat → PySem.Str} (s : SR T F H ρ σ) (hm : (P, nm) ∈ T.tb) (keep : ∀ b o, b ≠ P → H b = some o → H1 b = some o) (th : ∀ b, H1 b = none → H b = none) (T1 : TabsN T.tb H1) : Post T F H ρ σ F H1 ρ := by
  have hF : F P = none := s.ft _ hm
  obtain ⟨ps, hP, _⟩ := s.tabs _ hm
  have nP : ∀ p o, H p = some o → (∀ ps, o ≠ .tbl ps) → p ≠ P := fun p o e n z => by
    subst z
    rw [hP] at e
    injection e with e
    exact n ps e.symm
  have sr : SR T F H1 ρ σ := {
    sub := fun b o e => keep b o (ne_of_none e hF) (s.sub b o e)
    len := s.len
    slot := fun i v e => by
      have q := s.slot i v e
      cases v with
      | frz d => exact q
      | own d => obtain ⟨p, o, a, b, c, r⟩ := q; exact ⟨p, o, a, b, keep p o (nP p o c r.noTbl) c, r⟩
      | clo _ _ => exact q
      | lam _ => exact q
    apart := s.apart
    tabs := T1
    ft := s.ft }
  exact ⟨s, sr, Same.refl F, fun p o h1 h2 h3 _ => ⟨h1, keep p o (nP p o h2 h3) h2⟩, fun i d e => ⟨d, e⟩, th⟩
theorem lookup_get {c : Nat} {w : List Nat} : ∀ {tab : List (Nat × PySem.Str)}, (tab.map fun p => (p.1, p.2.cps.toList)).lookup c = some w → ∃ (i : Nat) (z : PySem.Str), tab[i]? = some (c, z) ∧ w = z.cps.toList
  | [], h => by cases h
  | p :: r, h => by
    rw [List.map_cons, List.lookup_cons] at h
    cases e : (c == p.1) with
    | true =>
      rw [e] at h
      injection h with h
      have : c = p.1 := by simpa using e
      exact ⟨0, p.2, by rw [this]; rfl, h.symm⟩
    | false =>
      rw [e] at h
      obtain ⟨i, z, h1, h2⟩ := lookup_get h
      exact ⟨i + 1, z, h1, h2⟩
theorem sx_refuse {C : Cc} {nm : Nat → Nat → PySem.Str} {x a : PySem.Str} {g c P : Addr} {k : Nat} {pg : Arguments} {bg : List Stmt} {sg : Scope} {dV kV doc pm cdv ct oc : Value} {an od : Option Addr} {osl : Array (Option Value)} {Ng : List PySem.Str}
    {params : Arguments} {body : Expr} {scope : Scope} {p lpos pos : Pos} {xd : Ex} {tab : List (Nat × PySem.Str)} {tb : List (Nat × List Nat)} (htb : tb = tab.map fun p => (p.1, p.2.cps.toList)) (hok : ∀ p ∈ tab, p.2.length ≤ sizeLine ∧ PyData.strOk p.2 = true) (hdk : ∀ c d, C.T.dk c d → d = none)
    (hg : Gl C.X x) (hm : C.X.mg x = some (.ref g)) (hk : PySem.W.keepIn C.X.K (.ref g) = true)
    (lk : C.X.K.lookup g = some ⟨oc, od, .func (PySem.W.fnOf x x pg bg sg dV kV doc pm an cdv ct), osl⟩) (hcg : PySem.W.codeIn C.X.K cdv x = true) (hb : L2.Binds C.X.K (PySem.W.fnOf x x pg bg sg dV kV doc pm an cdv ct) [a] []) (Sg : FnScope Ng [a] sg) (hNg : Ng[0]? = some a) (hva : Vis sg a)
    (hG : ∀ q, GivesTo C.X Ng x sg g cdv bg a q (TRef C.T.ca tab))
    (TB : TabB C.X.base C.X.mg c P) (hcode : C.X.env.code = .ref c) (hmT : (P, nm) ∈ C.T.tb) (hn : nm lpos.line lpos.col = C.X.env.qual ++ "<lambda>") (hu : ∀ p ∈ C.T.tb, p.1 = P → p.2 = nm) (hr : Room (k + 2) C.X.A) (hk2 : 2 ≤ k) (L : LamS C.X.env.scope scope) (hdef : defaultsOf params C.X.env = ([], []))
    (hbind : ∀ (q : PySem.Str) (cl : List (PySem.Str × Addr)) (pm cv ctv : Value), bindArgs (PySem.W.kla_fn "<lambda>" q params body scope cl pm cv ctv) ⟨[], []⟩ = pure [])
    (hbody : ∀ (A : Around) (outer : List PySem.Env) (s : Shared) (H : Hp) (E : XK) (f c' : Addr) (hr : Room k (A.deeper (lamEnv C.X scope s.heap.objs.size f c'))), SX (CcR C k A outer s H E scope f c' hr hk2) body xd)
    (hdb : (x == ("__debug__" : PySem.Str)) = false) (hd : (a == ("__debug__" : PySem.Str)) = false) (hcd : (a == ("__classdict__" : PySem.Str)) = false) :
    SX C (.Call (.Name x p) [.Lambda params body scope lpos] [] pos) (.refuse xd tb) := by
  refine SX.mk' rfl (PE.imp (pe_give (T := C.T.tb) (t := fun E => tG C.T (RV C.T) (fun cls d _ H => E cls d H) (evB C.Pr C.cal xd).1) hg hm hk lk hcg hb Sg hNg hva (hG _) TB hcode hmT hn hu hr L hdef hbind (fun A outer s H E f c' hr => (hbody A outer s H E f c' hr).v) hdb hd hcd) fun σ H Q ⟨F, ρ, P0, r, ρ', e, q⟩ => ?_) rfl fun _ => rfl
  refine ⟨P0.sr.tabs, fun H1 keep th T1 => ?_⟩
  have Pt := SR.table P0.sr hmT keep th T1
  have e : (match (evB C.Pr C.cal xd).1 ρ with
    | some (.ok _, ρ') => some (Res.ok (Vl.frz (.str [108, 101, 116])), ρ')
    | some (.err c, ρ') => match tb.lookup c with
      | some w => some (.ok (.frz (.str w)), ρ')
      | none => none
    | none => none) = some (r, ρ') := e
  refine ⟨fun E E' H Q Q' hE hQ ⟨F, ρ, P, r, ρ', e, q⟩ => ⟨F, ρ, P, r, ρ', e, ?_⟩, F, ρ, Post.refl Pt.sr, ?_⟩
  · cases r with
    | ok v => exact fun x F' H' P' rx => hQ _ _ (q x F' H' P' rx)
    | err c => exact fun F' H' d hd P' => hE _ _ _ (q F' H' d hd P')
  cases ee : (evB C.Pr C.cal xd).1 ρ with
  | none => rw [ee] at e; cases e
  | some p =>
    obtain ⟨r0, ρ0⟩ := p
    rw [ee] at e
    refine ⟨r0, ρ0, rfl, ?_⟩
    cases r0 with
    | ok v =>
      cases e
      intro y F' H' P' ry
      exact q _ F' H' (Pt.trans P') (Rep.str "let" (by rw [sizeLine_eq]; decide) (by decide +kernel))
    | err c =>
      dsimp only at e
      cases el : tb.lookup c with
      | none => rw [el] at e; cases e
      | some w =>
        rw [el] at e
        cases e
        rw [htb] at el
        obtain ⟨i, z, h1, h2⟩ := lookup_get el
        intro F' H' d hdd P'
        refine ⟨i, c, z, h1, rfl, hdk c d hdd, fun H2 x1 x2 => ?_⟩
        have G : Grow F' H' F' H2 := ⟨x1, Same.refl _, fun b u e => x1 b u (P'.sr.sub b u e), fun _ _ _ e => e⟩
        obtain ⟨k1, k2⟩ := hok _ (List.mem_of_getElem? h1)
        refine q _ F' H2 ((Pt.trans P').trans (Post.of_grow P'.sr G)) ?_
        rw [h2]
        exact Rep.str z k1 k2
/-- the defs of the text, as they may be called here -/
def FnEs (C : Cc) : Prop := ∀ f, f < C.Pr.defs.length → ∃ nm, FnE C f nm
theorem sx_callv {C : Cc} {E : XK} {x : PySem.Str} {n : Nat} {e : Expr} {es : List Expr} {xs : Exs} {p pos : Pos} (i : Nat) (hN : C.X.N[i]? = some x) (hv : Vis C.X.env.scope x) (hW : C.W = fun cls d _ H => E cls d H) (tk : L2.Takes C.X C.W) (hf : FnEs C) (hcal : ∀ f vs r ps, C.cal (.fn f) vs = some (r, ps) → ps.length = vs.length)
    (ha : SAs C n (e :: es) xs) (hd : (x == ("__debug__" : PySem.Str)) = false) (hcd : (x == ("__classdict__" : PySem.Str)) = false) (he : starEach (e :: es) C.X.env = (false, eval e C.X.env) :: starEach es C.X.env) (hpl : (backTo pos (starEach es C.X.env)).any (·.1) = false) :
    SX C (.Call (.Name x p) (e :: es) [] pos) (.callv i xs) := by
  have hp : Passes (L2.CX C.X.prog C.X.w) C.X E := passes_call tk fun cls d σ H h => by rw [hW]; exact h
  refine SX.mk' rfl (PE.imp (t := fun σ H Q => ∃ f, f < C.Pr.defs.length ∧ tCallL i (C.T.fa f) (spD C.T C.cal (.fn f)) [] E (tG C.T (RAn C.T n) C.W (evalAs C.Pr C.cal xs)) σ H Q) ⟨fun pins s σ H Q I ⟨f, hl, h⟩ => ?_⟩ fun σ H Q ⟨F, ρ, P0, r, ρ', ev, q⟩ => ?_) rfl fun _ => rfl
  · obtain ⟨nm, ⟨k, fd, ps, Fk, hr, hb⟩, _, hk⟩ := hf f hl
    exact (pe_callL Fk hr hN hv hk hb .nil hp ha hd hcd he hpl).run pins s σ H Q I h
  · have ev : M.bind (fnAt C.Pr i) (fun f => M.bind (evalAs C.Pr C.cal xs) fun as => goCall C.Pr C.cal (.fn f) as []) ρ = some (r, ρ') := ev
    unfold M.bind at ev
    cases ef : fnAt C.Pr i ρ with
    | none => rw [ef] at ev; cases ev
    | some pr =>
      have hfa := ef
      unfold fnAt at hfa
      cases es : getS i ρ with
      | none => rw [es] at hfa; cases hfa
      | some v =>
        rw [es] at hfa
        match v, es, hfa with
        | .frz (.fn f), es, hfa =>
          dsimp only at hfa
          split at hfa
          · rename_i hl
            injection hfa with hfa
            subst hfa
            rw [ef] at ev
            obtain ⟨y, e1, ry⟩ := P0.sr.slot i _ es
            cases ry
            refine ⟨f, hl, e1, ?_⟩
            have := call_rd (f := f) (n := n) (hcal f) (Q := Q) (σ := σ) (H := H) ⟨F, ρ, P0, r, ρ', ev, q⟩
            refine tG.imp this fun vs H1 h1 => ?_
            rw [List.append_nil]
            have eW : WE C.W σ = E := by
              funext cls d H
              show C.W cls d σ H = E cls d H
              rw [hW]
            rw [eW] at h1
            exact h1
          · cases hfa
theorem sx_dct0 {C : Cc} {pos : Pos} : SX C (.Dict [] [] pos) (.dct .nil) :=
  SX.mk' rfl (PE.imp pe_dnewK fun σ H Q ⟨F, ρ, h⟩ => by
    intro p np
    have h : tGa C.T F H ρ F ρ (RV C.T) C.W (M.pure (.own (.dct [] []))) σ H Q := h
    exact h.ret (Post.newOwn h.1.sr np) ⟨p, .dK [], rfl, np, h.1.sr.sub.free np, upd_same, .dct .nil .nil⟩) rfl fun _ => rfl
/-! ### in the contexts of bodies -/
/-- an own exception class, by the head -/
structure ExG (G : Gb) (c : Nat) (nm : PySem.Str) : Prop where
  mg : G.mg nm = some (.ref (G.T.ca c))
  oex : OexC G.T.K (G.T.ca c)
  dk : G.T.dk c none
  init : ∃ (fI : Addr) (fd : FuncData) (ps : List PySem.Str), PySem.W.findIn G.T.K (.ref (G.T.ca c)) "__init__" = some (some (.ref fI)) ∧ PySem.W.typeIn G.T.K (.ref fI) = some (.type "function") ∧
    FnOk G.P G.w G.T.K G.mg G.base (L2.CX G.P G.w) 1 fI fd ps (spI G.T.K) ∧ Binds G.T.K fd ps []
def ExAll (G : Gb) (cs : List (Nat × PySem.Str)) : Prop := ∀ p ∈ cs, ExG G p.1 p.2
section
variable {G : Gb} {names : List PySem.Str} {k : Nat} {N ps : List PySem.Str} {qual : PySem.Str} {sc : Scope} {S : FnScope N ps sc} {lk : List Nat} {fA : Addr} {cd : Value} {A : Around} {outer : List PySem.Env} {s : Shared} {H : Hp} {E : XK}
theorem exC {hr : Room (5 * k + 4) (A.deeper (envOfC qual sc s.heap.objs.size fA cd))} {cs : List (Nat × PySem.Str)} (xe : ExAll G cs) {i c : Nat} {nm : PySem.Str} (h : cs[i]? = some (c, nm)) : ExE (CsOf G k N ps qual sc S lk fA cd A outer s H E hr).toCc c nm := by
  obtain ⟨m, o, d, fI, fd, qs, a, b, F, B⟩ := xe _ (List.mem_of_getElem? h)
  exact ⟨m, o, d, 1, fI, fd, qs, a, b, F, hr.mono (by omega), B⟩
/-- the law's own refusal, by the head -/
structure RefG (G : Gb) (x a : PySem.Str) (Ng : List PySem.Str) (st : Stmt) (tab : List (Nat × PySem.Str)) : Prop where
  ex : ∃ (g : Addr) (oc dV kV doc pm cdv ct : Value) (an od : Option Addr) (osl : Array (Option Value)), G.mg x = some (.ref g) ∧ PySem.W.keepIn G.T.K (.ref g) = true ∧
    G.T.K.lookup g = some ⟨oc, od, .func (PySem.W.fnOf x x (defArgs st) (defBody st) (defScope st) dV kV doc pm an cdv ct), osl⟩ ∧ PySem.W.codeIn G.T.K cdv x = true ∧ L2.Binds G.T.K (PySem.W.fnOf x x (defArgs st) (defBody st) (defScope st) dV kV doc pm an cdv ct) [a] []
  sg : FnScope Ng [a] (defScope st)
  hN : Ng[0]? = some a
  hva : Vis (defScope st) a
  gives : ∀ (X : Cx) (g : Addr) (cdv : Value) (q : PySem.Str), X.K = G.T.K → X.mg = G.mg → GivesTo X Ng x (defScope st) g cdv (defBody st) a q (TRef G.T.ca tab)
  ok : ∀ p ∈ tab, p.2.length ≤ sizeLine ∧ PyData.strOk p.2 = true
  dk : ∀ c d, G.T.dk c d → d = none
theorem sx_refC {hr : Room (5 * k + 4) (A.deeper (envOfC qual sc s.heap.objs.size fA cd))} {x a : PySem.Str} {Ng : List PySem.Str} {st : Stmt} {tab : List (Nat × PySem.Str)} {tb : List (Nat × List Nat)} (rf : RefG G x a Ng st tab) (htb : tb = tab.map fun p => (p.1, p.2.cps.toList)) {q : PySem.Str} (t0 : TbAt G cd q)
    {params : Arguments} {body : Expr} {scope : Scope} {p lpos pos : Pos} {xd : Ex} (hqe : q = (CsOf G k N ps qual sc S lk fA cd A outer s H E hr).X.env.qual ++ "<lambda>") (hg : Gl (CsOf G k N ps qual sc S lk fA cd A outer s H E hr).X x) (L : LamS sc scope) (hdef : defaultsOf params (CsOf G k N ps qual sc S lk fA cd A outer s H E hr).X.env = ([], []))
    (hbind : ∀ (q : PySem.Str) (cl : List (PySem.Str × Addr)) (pm cv ctv : Value), bindArgs (PySem.W.kla_fn "<lambda>" q params body scope cl pm cv ctv) ⟨[], []⟩ = pure [])
    (hbody : ∀ (A' : Around) (outer' : List PySem.Env) (s' : Shared) (H' : Hp) (E' : XK) (f c' : Addr) (hr' : Room (5 * k + 2) (A'.deeper (lamEnv (CsOf G k N ps qual sc S lk fA cd A outer s H E hr).X scope s'.heap.objs.size f c'))), SX (CcR (CsOf G k N ps qual sc S lk fA cd A outer s H E hr).toCc (5 * k + 2) A' outer' s' H' E' scope f c' hr' (by omega)) body xd)
    (hdb : (x == ("__debug__" : PySem.Str)) = false) (hd : (a == ("__debug__" : PySem.Str)) = false) (hcd : (a == ("__classdict__" : PySem.Str)) = false) :
    SX (CsOf G k N ps qual sc S lk fA cd A outer s H E hr).toCc (.Call (.Name x p) [.Lambda params body scope lpos] [] pos) (.refuse xd tb) := by
  obtain ⟨⟨g, oc, dV, kV, doc, pm, cdv, ct, an, od, osl, e1, e2, e3, e4, e5⟩, sg, hN, hva, gives, ok, dk⟩ := rf
  obtain ⟨c, P, t1, t2, t3, t4⟩ := t0
  exact sx_refuse htb ok dk hg e1 e2 e3 e4 e5 sg hN hva (fun q => gives _ _ _ _ rfl rfl) t1 t2 t3 hqe t4 hr (by omega) L hdef hbind hbody hdb hd hcd
theorem feR {hr : Room (5 * k + 4) (A.deeper (envOfC qual sc s.heap.objs.size fA cd))} {A' : Around} {outer' : List PySem.Env} {s' : Shared} {H' : Hp} {E' : XK} {scope : Scope} {f c' : Addr} {hr' : Room (5 * k + 2) (A'.deeper (lamEnv (CsOf G k N ps qual sc S lk fA cd A outer s H E hr).X scope s'.heap.objs.size f c'))} {h2 : 2 ≤ 5 * k + 2}
    (fe : FnAll G names k) {g : Nat} {nm : PySem.Str} (h : names[g]? = some nm) : FnE (CcR (CsOf G k N ps qual sc S lk fA cd A outer s H E hr).toCc (5 * k + 2) A' outer' s' H' E' scope f c' hr' h2) g nm := by
  obtain ⟨⟨fd, qs, F, B⟩, m, kp⟩ := fe g nm h
  exact ⟨⟨5 * k, fd, qs, F, hr'.mono (by omega), B⟩, m, kp⟩
theorem fesR {hr : Room (5 * k + 4) (A.deeper (envOfC qual sc s.heap.objs.size fA cd))} {A' : Around} {outer' : List PySem.Env} {s' : Shared} {H' : Hp} {E' : XK} {scope : Scope} {f c' : Addr} {hr' : Room (5 * k + 2) (A'.deeper (lamEnv (CsOf G k N ps qual sc S lk fA cd A outer s H E hr).X scope s'.heap.objs.size f c'))} {h2 : 2 ≤ 5 * k + 2}
    (fe : FnAll G names k) (hl : G.Pr.defs.length = names.length) : FnEs (CcR (CsOf G k N ps qual sc S lk fA cd A outer s H E hr).toCc (5 * k + 2) A' outer' s' H' E' scope f c' hr' h2) := fun f hf => by
  have hf : f < names.length := hl ▸ hf
  exact ⟨_, feR fe (List.getElem?_eq_getElem hf)⟩
end
/-- a def that never comes to an end here -/
theorem fn_never {G : Gb} {k f : Nat} {fd : FuncData} {ps : List PySem.Str} (h : ∀ vs, callF G.Pr (k + 1) (.fn f) vs = none) : FnOk G.P G.w G.T.K G.mg G.base (L2.CX G.P G.w) (5 * (k + 1)) (G.T.fa f) fd ps (spD G.T (callF G.Pr (k + 1)) (.fn f)) :=
  ⟨fun xs H Q E ⟨F, vs, r, ps', hp, ha, hc, _⟩ => (nomatch ((h vs).symm.trans hc)), fun A outer s H args us xs Q E hr he hb hv ⟨F, vs, r, ps', hp, ha, hc, _⟩ => (nomatch ((h vs).symm.trans hc))⟩
end Dx
end
section
set_option Elab.async false
set_option linter.all false
set_option maxRecDepth 100000
set_option maxHeartbeats 2000000
/-! S33: the head's facts of own exception classes. -/
namespace Dx
open PySem PySem.Spec PyProof.Rows L2 NdefX LamX Dk Dp
/-- an own exception class over ValueError -/
def oexB (K : PySem.W.Frag) (C : Addr) : Bool := (match K.lookup C with
  | some ⟨.type "type", _, .cls cd, sl⟩ => (match cd.mro, sl.toList with
    | .ref C' :: bm, [_, _, _, _, some (.builtin n), _] => C' == C && n == "ValueError.__new__" && !cd.hasDel && cd.hasDict && PySem.HandSPX.refsVE bm
    | _, _ => false)
  | _ => false) && (He.eqO (PySem.W.findIn K (.ref C) "__setattr__") (some (some (.builtin "object.__setattr__"))) && (decide (PySem.W.subIn K (.ref C) (.type "BaseException") = some true) && (decide (PySem.W.typeIn K (.ref C) = some (.type "type")) && PySem.W.keepIn K (.ref C))))
theorem oexB_ok {K : PySem.W.Frag} {C : Addr} (h : oexB K C = true) : OexC K C := by
  unfold oexB at h
  simp only [Bool.and_eq_true] at h
  obtain ⟨h, a1, a2, a3, a4⟩ := h
  refine ⟨?_, He.eqO_ok a1, of_decide_eq_true a2, of_decide_eq_true a3, a4⟩
  split at h
  · rename_i dd cd sl ho
    split at h
    · rename_i C' bm k0 k1 k2 k3 n k5 hm hs
      simp only [Bool.and_eq_true, beq_iff_eq, Bool.not_eq_true'] at h
      obtain ⟨⟨⟨⟨e1, e2⟩, e3⟩, e4⟩, e5⟩ := h
      obtain ⟨nm, bs, mro, ns, qn, hd, sn, sb, ab, col, del⟩ := cd
      obtain ⟨sll⟩ := sl
      dsimp only at hm hs e3 e4
      subst e1 e2 e3 e4 hm hs
      exact ⟨nm, qn, ns, bs, bm, sn, sb, ab, col, dd, k0, k1, k2, k3, k5, ho, e5⟩
    · cases h
  · cases h
/-- what isinstance asks of its instances -/
def excB (K : PySem.W.Frag) (D : Addr) : Bool := He.eqO (PySem.W.findIn K (.ref D) "__getattribute__") (some (some (.builtin "BaseException.__getattribute__"))) && (He.eqO (PySem.W.findIn K (.ref D) "__getattr__") (some none) &&
  (decide (PySem.W.subIn K (.ref D) (.type "BaseException") = some true) && (PySem.W.hasDictIn K D && (He.eqO (PySem.W.findIn K (.ref D) "__class__") (some (some (.builtin "object.__class__"))) &&
  (He.eqO (PySem.W.specialIn K (.builtin "object.__class__") "__get__") (some (some (.builtin "getset_descriptor.__get__"))) && (decide (PySem.W.takesIn K (.builtin "object.__class__") = some true) && decide (PySem.W.mroIn K D (.type "object") = some true)))))))
theorem excB_ok {K : PySem.W.Frag} {D : Addr} (h : excB K D = true) : ExcC K D := by
  unfold excB at h
  simp only [Bool.and_eq_true] at h
  obtain ⟨a1, a2, a3, a4, a5, a6, a7, a8⟩ := h
  exact ⟨He.eqO_ok a1, He.eqO_ok a2, of_decide_eq_true a3, a4, He.eqO_ok a5, He.eqO_ok a6, of_decide_eq_true a7, of_decide_eq_true a8⟩
/-- its __init__ is the one at fI -/
def initB (K : PySem.W.Frag) (C fI : Addr) : Bool := He.eqO (PySem.W.findIn K (.ref C) "__init__") (some (some (.ref fI))) && decide (PySem.W.typeIn K (.ref fI) = some (.type "function"))
theorem initB_ok {K : PySem.W.Frag} {C fI : Addr} (h : initB K C fI = true) : PySem.W.findIn K (.ref C) "__init__" = some (some (.ref fI)) ∧ PySem.W.typeIn K (.ref fI) = some (.type "function") := by
  unfold initB at h
  rw [Bool.and_eq_true] at h
  exact ⟨He.eqO_ok h.1, of_decide_eq_true h.2⟩
/-- a row of classes that a refusal asks for -/
def kitB (K : PySem.W.Frag) (cs : List Addr) : Bool := cs.zipIdx.all fun p => decide (PySem.W.kitOne K (.ref p.1) (.type "ValueError") = some true) && cs.zipIdx.all fun q => decide (PySem.W.kitOne K (.ref p.1) (.ref q.1) = some (decide (p.2 = q.2)))
theorem kitB_ok {K : PySem.W.Frag} {cs : List Addr} (h : kitB K cs = true) : (∀ (i : Nat) (p : Addr), cs[i]? = some p → PySem.W.kitOne K (.ref p) (.type "ValueError") = some true) ∧ ∀ (i j : Nat) (p q : Addr), cs[i]? = some p → cs[j]? = some q → PySem.W.kitOne K (.ref p) (.ref q) = some (decide (i = j)) := by
  unfold kitB at h
  have mem : ∀ (i : Nat) (p : Addr), cs[i]? = some p → (p, i) ∈ cs.zipIdx := fun i p e => List.mem_zipIdx_iff_getElem?.mpr e
  have key : ∀ (i : Nat) (p : Addr), cs[i]? = some p → _ := fun i p e => List.all_eq_true.mp h _ (mem i p e)
  refine ⟨fun i p e => ?_, fun i j p q e1 e2 => ?_⟩
  · have := key i p e
    rw [Bool.and_eq_true] at this
    exact of_decide_eq_true this.1
  · have := key i p e1
    rw [Bool.and_eq_true] at this
    exact of_decide_eq_true (List.all_eq_true.mp this.2 _ (mem j q e2))
end Dx
end
section
set_option Elab.async false
set_option linter.all false
set_option maxRecDepth 100000
set_option maxHeartbeats 2000000
/-! S34: the keys of a new dict. -/
namespace Dp
open PySem PySem.Spec PyProof.Rows L2
section
variable {C : Cc} {e tg : Expr} {x : Ex}
theorem RepL.keyAt {T : Kt} {F : Hp} {kvs : List (Key × V)} {ks : List D} (r : RepL T F (kvs.map fun p => kV p.1) ks) {i : Nat} {d : D} (h : ks[i]? = some d) : ∃ k v, kvs[i]? = some (k, v) ∧ Rep T F (kV k) d := by
  obtain ⟨x, e1, r1⟩ := r.get h
  rw [List.getElem?_map] at e1
  obtain ⟨⟨k, v⟩, e2, rfl⟩ := Option.map_eq_some_iff.mp e1
  exact ⟨k, v, e2, r1⟩
theorem it_keys {T : Kt} {F : Hp} {p : Addr} {od : Obj} {kvs : List (Key × V)} {ks : List D} (h : F p = some (.frz od (.dK kvs))) (r : RepL T F (kvs.map fun p => kV p.1) ks) : ItOk T (Itk p od kvs) F ks where
  go := fun i d F' H' e s s' => by
    obtain ⟨k, v, e1, r1⟩ := r.keyAt e
    have hi : i < kvs.length := by
      rcases Nat.lt_or_ge i kvs.length with q | q
      · exact q
      · rw [List.getElem?_eq_none q] at e1; cases e1
    refine ⟨⟨s' _ _ (s _ _ h), hi⟩, fun y H'' ⟨eH, k', v', e2, ey⟩ => ⟨F', by subst eH; exact Grow.refl s', ?_⟩⟩
    rw [e1] at e2
    cases e2
    rw [ey]
    exact r1.mono s
  stop := fun F' H' s s' => ⟨s' _ _ (s _ _ h), by have := r.length; rw [List.length_map] at this; rw [this]; exact Nat.le_refl _⟩
theorem si_keys (h : SX C e x) : SI C tg e (.keys x) := ⟨fun pins s σ H R I ⟨F, ρ, hq⟩ => by
  have hq : tGa C.T F H ρ F ρ (RIt C.T) C.W (M.bind (evB C.Pr C.cal x).1 keysM) σ H R := hq
  refine thn (h.v.run pins s σ H _ I hq.bind) fun u s1 ⟨v, H1, I1, r1, F1, ρ1, w, P, r, h1⟩ => ?_
  have r := r
  rcases w with d | d | ⟨_, _⟩ | _
  · exact h1.fail.elim
  · cases d with
    | dct ks vs =>
      obtain ⟨p, o, rfl, e1, e2, e3, ro⟩ := r
      cases ro with
      | @dct kvs _ _ rk rv =>
        obtain rfl : u = Value.ref p := r1
        obtain ⟨od, I2⟩ := I1.lock e3 trivial
        have g : Same F1 (upd F1 p (.frz od (.dK kvs))) := Same.upd e2
        have q : Same (upd F1 p (.frz od (.dK kvs))) (upd H1 p (.frz od (.dK kvs))) := fun b u e => by
          by_cases hb : b = p
          · subst hb; rw [upd_same] at e ⊢; exact e
          · rw [upd_ne hb] at e ⊢; exact P.sr.sub b u e
        have nof : ∀ i d' p', getS i ρ1 = some (.own d') → σ[i]? = some (some (.ref p')) → p' ≠ p := fun i d' p' q1 q2 z => by
          obtain ⟨o', k⟩ := P.s0.ownThere (P.ownBack ⟨i, d', q1, q2⟩)
          rw [z, e1] at k
          cases k
        have nt : ∀ p' ∈ C.T.tb, p'.1 ≠ p := fun p' hp z => by
          obtain ⟨ps, e4, _⟩ := P.sr.tabs p' hp
          rw [z, e3] at e4
          cases e4
        have P2 : Post C.T F H ρ σ (upd F1 p (.frz od (.dK kvs))) (upd H1 p (.frz od (.dK kvs))) ρ1 := ⟨P.s0, ⟨q, P.sr.len, fun i v e => by
          have z := P.sr.slot i v e
          cases v with
          | frz d => obtain ⟨x, e1, r⟩ := z; exact ⟨x, e1, r.mono g⟩
          | own d => obtain ⟨p', o', e1, k2, k3, r⟩ := z; exact ⟨p', o', e1, by rw [upd_ne (nof i d p' e e1)]; exact k2, by rw [upd_ne (nof i d p' e e1)]; exact k3, r.mono g⟩
          | clo _ _ => exact z
          | lam _ => exact z, P.sr.apart, fun p' hp => by
            obtain ⟨ps, e4, e5⟩ := P.sr.tabs p' hp
            exact ⟨ps, by rw [upd_ne (nt p' hp)]; exact e4, e5.1, fun pos cv hcv => by
              obtain ⟨c, e6, e7⟩ := e5.2 pos cv hcv
              exact ⟨c, e6, by rw [upd_ne (fun z => by rw [z, e3] at e7; cases e7)]; exact e7⟩⟩, fun p' hp => by rw [upd_ne (nt p' hp)]; exact P.sr.ft p' hp⟩, P.gr.trans g, fun p' o' h1 h2 h3 h4 => by
            obtain ⟨k1, k2⟩ := P.fr p' o' h1 h2 h3 h4
            have n : p' ≠ p := fun z => by rw [z, e1] at h2; cases h2
            exact ⟨by rw [upd_ne n]; exact k1, by rw [upd_ne n]; exact k2⟩, P.os, fun p' e => by
            by_cases hb : p' = p
            · subst hb; rw [upd_same] at e; cases e
            · rw [upd_ne hb] at e; exact P.th p' e⟩
        obtain ⟨P0, r', ρ', er, qq⟩ := h1
        have er : some (Res.ok ks, ρ1) = some (r', ρ') := er
        cases er
        have fin := qq (Itk p od kvs) _ _ P2 (it_keys upd_same (rk.mono g))
        obtain ⟨hs, hgd, hx, es, ep, vs', hdt, hsz, kv, hm⟩ := I2.frzK (d := p) (o := od) (kvs := kvs) upd_same
        refine iter_keys hs hgd hx hdt (pi_one (tk := s1.toks) I2 _ (turn_keys _ hdt) ⟨_, Heap.get?_push_size _ rfl, rfl, ?_⟩ fin)
        rw [hsz] <;> rfl
    | _ => exact h1.fail.elim
  · exact h1.fail.elim
  · exact h1.fail.elim⟩
end
end Dp
end
section
set_option Elab.async false
set_option linter.all false
set_option maxRecDepth 100000
set_option maxHeartbeats 4000000
namespace Pk90
open Dp PySem PySem.Spec PyProof.Rows L2 NdefX LamX Dk Dx
def top (i : Nat) : Stmt := PySem.Challenge.pw_wordreaders_k90_whole_last_words_of_step.main.body.getD i (.Pass ⟨0, 0, 0, 0⟩)
def fnames0 : List PySem.Str := ["is_tuple", "is_sized", "are_letters", "check_letters", "is_word_of", "check_word", "near", "is_rule", "check_rules", "steps_of", "done", "raw_last"]
def fnames1 : List PySem.Str := ["last_of", "comes_to", "_law_draw", "_law_some", "_law_is", "_law_hand", "_law_deep", "_law_drawn_word", "_law_key", "_law_rules", "_law_stepped", "_law_last"]
def fnames2 : List PySem.Str := ["_law_all_behind", "_law_ends", "_law_refusal", "_law_no_rules", "_law_are_refused", "_law_is_told_right", "law"]
def fnames : List PySem.Str := fnames0 ++ fnames1 ++ fnames2
abbrev gb (P0 : Program) (w : World) (mg : PySem.Str → Option Value) (base : Heap) (T : Kt) : Gb := ⟨P0, w, mg, base, T, P⟩
structure Gm (mg : PySem.Str → Option Value) (T : Kt) : Prop where
  b_len : mg "len" = none
  b_isinstance : mg "isinstance" = none
  b_tuple : mg "tuple" = none
  b_str : mg "str" = none
  b_all : mg "all" = none
  b_range : mg "range" = none
  b_enumerate : mg "enumerate" = none
  b_sorted : mg "sorted" = none
  b_int : mg "int" = none
  b_bool : mg "bool" = none
  b_list : mg "list" = none
  b_zip : mg "zip" = none
  b_abs : mg "abs" = none
  c_ALPHABETS : ∃ v u, mg "ALPHABETS" = some u ∧ RelV v u ∧ ∀ F, Rep T F v (.tup [(.str [97]), (.str [97, 98]), (.str [97, 98, 99])] : Dp.D)
  c_MOST_WORD : ∃ v u, mg "MOST_WORD" = some u ∧ RelV v u ∧ ∀ F, Rep T F v (.int 60 : Dp.D)
  c_MOST_RULES : ∃ v u, mg "MOST_RULES" = some u ∧ RelV v u ∧ ∀ F, Rep T F v (.int 12 : Dp.D)
  c_MOST_LEFT : ∃ v u, mg "MOST_LEFT" = some u ∧ RelV v u ∧ ∀ F, Rep T F v (.int 6 : Dp.D)
  c_MOST_GONE : ∃ v u, mg "MOST_GONE" = some u ∧ RelV v u ∧ ∀ F, Rep T F v (.int 2000 : Dp.D)
def excs : List (Nat × PySem.Str) := [(2, "NoLetters"), (1, "NoWord"), (4, "NoRules")]
def stR : Stmt := top 40
def nR : List PySem.Str := ["asked", "word", "e", "some", "words"]
def tabR : List (Nat × PySem.Str) := [(2, "letters"), (4, "rules"), (1, "word")]
def L0 : LamD := lamOf "comes_to.<locals>.<lambda>" (exKw (exOf (stAt (defBody (top 26)) 4)))
def lamds : List LamD := [L0]
def nl0 : List PySem.Str := ["one"]
theorem scl0 : NScope nl0 ["one"] [] L0.scope := nscope_by (by decide +kernel)
def lx0 : Ex := match l0.body with
  | .e x => x
  | .s _ => .lit .non
theorem dl0 {P0 : Program} {w : World} {mg : PySem.Str → Option Value} {base : Heap} {T : Kt} (gm : Gm mg T) {k : Nat} (fe : FnAll (gb P0 w mg base T) fnames k) {c f : Addr} {A : Around} {outer : List PySem.Env} {s : Shared} {H : Hp} {E : XK} {hr : Room (5 * k + 4) (A.deeper (envF (L0.lf c).nf f s.heap.objs.size))} :
    SX (CcL (gb P0 w mg base T) k nl0 L0 c f A outer s H E scl0.nd hr) L0.body lx0 :=
  (sx_call (feL fe (g := 6) rfl) takes_lam (fun _ _ _ h => callF_len h) rfl (sas_cons (sx_var 0 rfl (by first | exact .inl rfl | exact .inr (.inl rfl) | exact .inr (.inr rfl)) rfl rfl) sas_nil rfl) rfl rfl rfl)
/- is_tuple -/
def n0 : List PySem.Str := ["thing", "size"]
theorem sc0 : FnScope n0 ["thing", "size"] (defScope (top 9)) := ⟨rfl, rfl, rfl, by decide +kernel, rfl, by decide +kernel, by decide +kernel⟩
theorem d0 {P0 : Program} {w : World} {mg : PySem.Str → Option Value} {base : Heap} {T : Kt} (gm : Gm mg T) {k : Nat} (fe : FnAll (gb P0 w mg base T) fnames k) {lk : List Nat} {fA : Addr} {cd : Value} {A : Around} {outer : List PySem.Env} {s : Shared} {H : Hp} {E : XK} {hr : Room (5 * k + 4) (A.deeper (envOfC "is_tuple" (defScope (top 9)) s.heap.objs.size fA cd))} :
    SB (CsOf (gb P0 w mg base T) k n0 ["thing", "size"] "is_tuple" (defScope (top 9)) sc0 lk fA cd A outer s H E hr) (defBody (top 9)) f0.body :=
  (sb_cons (ss_ret (sx_bool (sl_and (sx_isi1 (sx_var 0 rfl (by first | exact .inl rfl | exact .inr (.inl rfl) | exact .inr (.inr rfl)) rfl rfl) rfl rfl gm.b_isinstance rfl gm.b_tuple rfl (by decide) rfl rfl) (sl_and1 (sx_eq (sx_bi bi_len rfl gm.b_len rfl (sas_cons (sx_var 0 rfl (by first | exact .inl rfl | exact .inr (.inl rfl) | exact .inr (.inr rfl)) rfl rfl) sas_nil rfl) (by decide) rfl rfl rfl) (sx_var 1 rfl (by first | exact .inl rfl | exact .inr (.inl rfl) | exact .inr (.inr rfl)) rfl rfl)))) rfl))
  sb_nil)
/- is_sized -/
def n1 : List PySem.Str := ["thing", "least", "most"]
theorem sc1 : FnScope n1 ["thing", "least", "most"] (defScope (top 10)) := ⟨rfl, rfl, rfl, by decide +kernel, rfl, by decide +kernel, by decide +kernel⟩
theorem d1 {P0 : Program} {w : World} {mg : PySem.Str → Option Value} {base : Heap} {T : Kt} (gm : Gm mg T) {k : Nat} (fe : FnAll (gb P0 w mg base T) fnames k) {lk : List Nat} {fA : Addr} {cd : Value} {A : Around} {outer : List PySem.Env} {s : Shared} {H : Hp} {E : XK} {hr : Room (5 * k + 4) (A.deeper (envOfC "is_sized" (defScope (top 10)) s.heap.objs.size fA cd))} :
    SB (CsOf (gb P0 w mg base T) k n1 ["thing", "least", "most"] "is_sized" (defScope (top 10)) sc1 lk fA cd A outer s H E hr) (defBody (top 10)) f1.body :=
  (sb_cons (ss_ret (sx_bool (sl_and (sx_isi1 (sx_var 0 rfl (by first | exact .inl rfl | exact .inr (.inl rfl) | exact .inr (.inr rfl)) rfl rfl) rfl rfl gm.b_isinstance rfl gm.b_tuple rfl (by decide) rfl rfl) (sl_and1 (sx_lele (sx_var 1 rfl (by first | exact .inl rfl | exact .inr (.inl rfl) | exact .inr (.inr rfl)) rfl rfl) (sx_bi bi_len rfl gm.b_len rfl (sas_cons (sx_var 0 rfl (by first | exact .inl rfl | exact .inr (.inl rfl) | exact .inr (.inr rfl)) rfl rfl) sas_nil rfl) (by decide) rfl rfl rfl) (sx_var 2 rfl (by first | exact .inl rfl | exact .inr (.inl rfl) | exact .inr (.inr rfl)) rfl rfl) (by with_unfolding_all rfl)))) rfl))
  sb_nil)
/- are_letters -/
def n2 : List PySem.Str := ["thing"]
theorem sc2 : FnScope n2 ["thing"] (defScope (top 11)) := ⟨rfl, rfl, rfl, by decide +kernel, rfl, by decide +kernel, by decide +kernel⟩
theorem d2 {P0 : Program} {w : World} {mg : PySem.Str → Option Value} {base : Heap} {T : Kt} (gm : Gm mg T) {k : Nat} (fe : FnAll (gb P0 w mg base T) fnames k) {lk : List Nat} {fA : Addr} {cd : Value} {A : Around} {outer : List PySem.Env} {s : Shared} {H : Hp} {E : XK} {hr : Room (5 * k + 4) (A.deeper (envOfC "are_letters" (defScope (top 11)) s.heap.objs.size fA cd))} :
    SB (CsOf (gb P0 w mg base T) k n2 ["thing"] "are_letters" (defScope (top 11)) sc2 lk fA cd A outer s H E hr) (defBody (top 11)) f2.body :=
  (sb_cons (ss_ret (sx_bool (sl_and (sx_isi1 (sx_var 0 rfl (by first | exact .inl rfl | exact .inr (.inl rfl) | exact .inr (.inr rfl)) rfl rfl) rfl rfl gm.b_isinstance rfl gm.b_str rfl (by decide) rfl rfl) (sl_and1 (sx_in (sx_var 0 rfl (by first | exact .inl rfl | exact .inr (.inl rfl) | exact .inr (.inr rfl)) rfl rfl) (sx_gcon (n := 0) rfl gm.c_ALPHABETS.choose_spec.choose_spec.1 gm.c_ALPHABETS.choose_spec.choose_spec.2.1 rfl gm.c_ALPHABETS.choose_spec.choose_spec.2.2 rfl) (by with_unfolding_all rfl)))) rfl))
  sb_nil)
/- check_letters -/
def n3 : List PySem.Str := ["thing"]
theorem sc3 : FnScope n3 ["thing"] (defScope (top 12)) := ⟨rfl, rfl, rfl, by decide +kernel, rfl, by decide +kernel, by decide +kernel⟩
theorem d3 {P0 : Program} {w : World} {mg : PySem.Str → Option Value} {base : Heap} {T : Kt} (gm : Gm mg T) {k : Nat} (fe : FnAll (gb P0 w mg base T) fnames k) {lk : List Nat} {fA : Addr} {cd : Value} (xe : ExAll (gb P0 w mg base T) excs) {A : Around} {outer : List PySem.Env} {s : Shared} {H : Hp} {E : XK} {hr : Room (5 * k + 4) (A.deeper (envOfC "check_letters" (defScope (top 12)) s.heap.objs.size fA cd))} :
    SB (CsOf (gb P0 w mg base T) k n3 ["thing"] "check_letters" (defScope (top 12)) sc3 lk fA cd A outer s H E hr) (defBody (top 12)) f3.body :=
  (sb_cons (ss_if (st_not (SX.t (sx_call (feC fe (f := 2) rfl) takes_body (fun _ _ _ h => callF_len h) rfl (sas_cons (sx_var 0 rfl (by first | exact .inl rfl | exact .inr (.inl rfl) | exact .inr (.inr rfl)) rfl rfl) sas_nil rfl) rfl rfl rfl)))
  (sb_cons (ss_raise0 (exC xe (i := 0) rfl) takes_body rfl rfl)
  sb_nil)
  sb_nil)
  sb_nil)
/- is_word_of -/
def n4 : List PySem.Str := ["letters", "thing", "most", "sign"]
theorem sc4 : FnScope n4 ["letters", "thing", "most"] (defScope (top 13)) := ⟨rfl, rfl, rfl, by decide +kernel, rfl, by decide +kernel, by decide +kernel⟩
theorem d4 {P0 : Program} {w : World} {mg : PySem.Str → Option Value} {base : Heap} {T : Kt} (gm : Gm mg T) {k : Nat} (fe : FnAll (gb P0 w mg base T) fnames k) {lk : List Nat} {fA : Addr} {cd : Value} {A : Around} {outer : List PySem.Env} {s : Shared} {H : Hp} {E : XK} {hr : Room (5 * k + 4) (A.deeper (envOfC "is_word_of" (defScope (top 13)) s.heap.objs.size fA cd))} :
    SB (CsOf (gb P0 w mg base T) k n4 ["letters", "thing", "most"] "is_word_of" (defScope (top 13)) sc4 lk fA cd A outer s H E hr) (defBody (top 13)) f4.body :=
  (sb_cons (ss_ret (sx_bool (sl_and (sx_isi1 (sx_var 1 rfl (by first | exact .inl rfl | exact .inr (.inl rfl) | exact .inr (.inr rfl)) rfl rfl) rfl rfl gm.b_isinstance rfl gm.b_str rfl (by decide) rfl rfl) (sl_and (sx_le (sx_bi bi_len rfl gm.b_len rfl (sas_cons (sx_var 1 rfl (by first | exact .inl rfl | exact .inr (.inl rfl) | exact .inr (.inr rfl)) rfl rfl) sas_nil rfl) (by decide) rfl rfl rfl) (sx_var 2 rfl (by first | exact .inl rfl | exact .inr (.inl rfl) | exact .inr (.inr rfl)) rfl rfl)) (sl_and1 (sx_bi bi_all rfl gm.b_all rfl (sas_cons (sx_comp (own := [("sign", 3)]) (show BlkOk n4 (defScope (top 13)) _ _ from ⟨rfl, by decide +kernel, by decide +kernel, by decide +kernel, by decide +kernel⟩) rfl (by decide) (si_ex (sx_var 1 rfl (by first | exact .inl rfl | exact .inr (.inl rfl) | exact .inr (.inr rfl)) rfl rfl)) (fun _ _ _ _ _ => (stg_name 3 rfl (by first | exact .inl rfl | exact .inr rfl) (by first | exact .inl rfl | exact .inr rfl))) (fun _ _ _ _ _ => sts_none) (fun _ _ _ _ _ => (sx_in (sx_var 3 rfl (by first | exact .inl rfl | exact .inr (.inl rfl) | exact .inr (.inr rfl)) rfl rfl) (sx_var 0 rfl (by first | exact .inl rfl | exact .inr (.inl rfl) | exact .inr (.inr rfl)) rfl rfl) (by with_unfolding_all rfl))) (fun _ => rfl)) sas_nil rfl) (by decide) rfl rfl rfl)))) rfl))
  sb_nil)
/- check_word -/
def n5 : List PySem.Str := ["letters", "thing"]
theorem sc5 : FnScope n5 ["letters", "thing"] (defScope (top 14)) := ⟨rfl, rfl, rfl, by decide +kernel, rfl, by decide +kernel, by decide +kernel⟩
theorem d5 {P0 : Program} {w : World} {mg : PySem.Str → Option Value} {base : Heap} {T : Kt} (gm : Gm mg T) {k : Nat} (fe : FnAll (gb P0 w mg base T) fnames k) {lk : List Nat} {fA : Addr} {cd : Value} (xe : ExAll (gb P0 w mg base T) excs) {A : Around} {outer : List PySem.Env} {s : Shared} {H : Hp} {E : XK} {hr : Room (5 * k + 4) (A.deeper (envOfC "check_word" (defScope (top 14)) s.heap.objs.size fA cd))} :
    SB (CsOf (gb P0 w mg base T) k n5 ["letters", "thing"] "check_word" (defScope (top 14)) sc5 lk fA cd A outer s H E hr) (defBody (top 14)) f5.body :=
  (sb_cons (ss_if (st_not (SX.t (sx_call (feC fe (f := 4) rfl) takes_body (fun _ _ _ h => callF_len h) rfl (sas_cons (sx_var 0 rfl (by first | exact .inl rfl | exact .inr (.inl rfl) | exact .inr (.inr rfl)) rfl rfl) (sas_cons (sx_var 1 rfl (by first | exact .inl rfl | exact .inr (.inl rfl) | exact .inr (.inr rfl)) rfl rfl) (sas_cons (sx_gcon (n := 1) rfl gm.c_MOST_WORD.choose_spec.choose_spec.1 gm.c_MOST_WORD.choose_spec.choose_spec.2.1 rfl gm.c_MOST_WORD.choose_spec.choose_spec.2.2 rfl) sas_nil rfl) rfl) rfl) rfl rfl rfl)))
  (sb_cons (ss_raise0 (exC xe (i := 1) rfl) takes_body rfl rfl)
  sb_nil)
  sb_nil)
  sb_nil)
/- near -/
def n6 : List PySem.Str := ["word"]
theorem sc6 : FnScope n6 ["word"] (defScope (top 15)) := ⟨rfl, rfl, rfl, by decide +kernel, rfl, by decide +kernel, by decide +kernel⟩
theorem d6 {P0 : Program} {w : World} {mg : PySem.Str → Option Value} {base : Heap} {T : Kt} (gm : Gm mg T) {k : Nat} (fe : FnAll (gb P0 w mg base T) fnames k) {lk : List Nat} {fA : Addr} {cd : Value} {A : Around} {outer : List PySem.Env} {s : Shared} {H : Hp} {E : XK} {hr : Room (5 * k + 4) (A.deeper (envOfC "near" (defScope (top 15)) s.heap.objs.size fA cd))} :
    SB (CsOf (gb P0 w mg base T) k n6 ["word"] "near" (defScope (top 15)) sc6 lk fA cd A outer s H E hr) (defBody (top 15)) f6.body :=
  (sb_cons (ss_ret (sx_tup (ses_cons (sx_bi bi_len rfl gm.b_len rfl (sas_cons (sx_var 0 rfl (by first | exact .inl rfl | exact .inr (.inl rfl) | exact .inr (.inr rfl)) rfl rfl) sas_nil rfl) (by decide) rfl rfl rfl) (ses_cons (sx_var 0 rfl (by first | exact .inl rfl | exact .inr (.inl rfl) | exact .inr (.inr rfl)) rfl rfl) ses_nil rfl) rfl) (by decide)))
  sb_nil)
/- is_rule -/
def n7 : List PySem.Str := ["letters", "thing", "word"]
theorem sc7 : FnScope n7 ["letters", "thing"] (defScope (top 20)) := ⟨rfl, rfl, rfl, by decide +kernel, rfl, by decide +kernel, by decide +kernel⟩
theorem d7 {P0 : Program} {w : World} {mg : PySem.Str → Option Value} {base : Heap} {T : Kt} (gm : Gm mg T) {k : Nat} (fe : FnAll (gb P0 w mg base T) fnames k) {lk : List Nat} {fA : Addr} {cd : Value} {A : Around} {outer : List PySem.Env} {s : Shared} {H : Hp} {E : XK} {hr : Room (5 * k + 4) (A.deeper (envOfC "is_rule" (defScope (top 20)) s.heap.objs.size fA cd))} :
    SB (CsOf (gb P0 w mg base T) k n7 ["letters", "thing"] "is_rule" (defScope (top 20)) sc7 lk fA cd A outer s H E hr) (defBody (top 20)) f7.body :=
  (sb_cons (ss_if (SX.t (sx_bool (sl_or (sx_not (sx_call (feC fe (f := 0) rfl) takes_body (fun _ _ _ h => callF_len h) rfl (sas_cons (sx_var 1 rfl (by first | exact .inl rfl | exact .inr (.inl rfl) | exact .inr (.inr rfl)) rfl rfl) (sas_cons sx_int sas_nil rfl) rfl) rfl rfl rfl) rfl) (sl_or1 (sx_not (sx_bi bi_all rfl gm.b_all rfl (sas_cons (sx_comp (own := [("word", 2)]) (show BlkOk n7 (defScope (top 20)) _ _ from ⟨rfl, by decide +kernel, by decide +kernel, by decide +kernel, by decide +kernel⟩) rfl (by decide) (si_ex (sx_var 1 rfl (by first | exact .inl rfl | exact .inr (.inl rfl) | exact .inr (.inr rfl)) rfl rfl)) (fun _ _ _ _ _ => (stg_name 2 rfl (by first | exact .inl rfl | exact .inr rfl) (by first | exact .inl rfl | exact .inr rfl))) (fun _ _ _ _ _ => sts_none) (fun _ _ _ _ _ => (sx_call (FnE.blk (feC fe (f := 4) rfl)) Dp.takes0 (fun _ _ _ h => callF_len h) rfl (sas_cons (sx_var 0 rfl (by first | exact .inl rfl | exact .inr (.inl rfl) | exact .inr (.inr rfl)) rfl rfl) (sas_cons (sx_var 2 rfl (by first | exact .inl rfl | exact .inr (.inl rfl) | exact .inr (.inr rfl)) rfl rfl) (sas_cons (sx_gcon (n := 3) rfl gm.c_MOST_LEFT.choose_spec.choose_spec.1 gm.c_MOST_LEFT.choose_spec.choose_spec.2.1 rfl gm.c_MOST_LEFT.choose_spec.choose_spec.2.2 rfl) sas_nil rfl) rfl) rfl) rfl rfl rfl)) (fun _ => rfl)) sas_nil rfl) (by decide) rfl rfl rfl) rfl))) rfl))
  (sb_cons (ss_ret sx_bl)
  sb_nil)
  sb_nil)
  (sb_cons (ss_ret (sx_lt (sx_call (feC fe (f := 6) rfl) takes_body (fun _ _ _ h => callF_len h) rfl (sas_cons (sx_idx (sx_var 1 rfl (by first | exact .inl rfl | exact .inr (.inl rfl) | exact .inr (.inr rfl)) rfl rfl) sx_int (fun _ _ => rfl)) sas_nil rfl) rfl rfl rfl) (sx_call (feC fe (f := 6) rfl) takes_body (fun _ _ _ h => callF_len h) rfl (sas_cons (sx_idx (sx_var 1 rfl (by first | exact .inl rfl | exact .inr (.inl rfl) | exact .inr (.inr rfl)) rfl rfl) sx_int (fun _ _ => rfl)) sas_nil rfl) rfl rfl rfl)))
  sb_nil))
/- check_rules -/
def n8 : List PySem.Str := ["letters", "rules", "rule", "spot"]
theorem sc8 : FnScope n8 ["letters", "rules"] (defScope (top 21)) := ⟨rfl, rfl, rfl, by decide +kernel, rfl, by decide +kernel, by decide +kernel⟩
theorem d8 {P0 : Program} {w : World} {mg : PySem.Str → Option Value} {base : Heap} {T : Kt} (gm : Gm mg T) {k : Nat} (fe : FnAll (gb P0 w mg base T) fnames k) {lk : List Nat} {fA : Addr} {cd : Value} (xe : ExAll (gb P0 w mg base T) excs) {A : Around} {outer : List PySem.Env} {s : Shared} {H : Hp} {E : XK} {hr : Room (5 * k + 4) (A.deeper (envOfC "check_rules" (defScope (top 21)) s.heap.objs.size fA cd))} :
    SB (CsOf (gb P0 w mg base T) k n8 ["letters", "rules"] "check_rules" (defScope (top 21)) sc8 lk fA cd A outer s H E hr) (defBody (top 21)) f8.body :=
  (sb_cons (ss_exp (sx_call (feC fe (f := 3) rfl) takes_body (fun _ _ _ h => callF_len h) rfl (sas_cons (sx_var 0 rfl (by first | exact .inl rfl | exact .inr (.inl rfl) | exact .inr (.inr rfl)) rfl rfl) sas_nil rfl) rfl rfl rfl) rfl)
  (sb_cons (ss_if (SX.t (sx_bool (sl_or (sx_not (sx_call (feC fe (f := 1) rfl) takes_body (fun _ _ _ h => callF_len h) rfl (sas_cons (sx_var 1 rfl (by first | exact .inl rfl | exact .inr (.inl rfl) | exact .inr (.inr rfl)) rfl rfl) (sas_cons sx_int (sas_cons (sx_gcon (n := 2) rfl gm.c_MOST_RULES.choose_spec.choose_spec.1 gm.c_MOST_RULES.choose_spec.choose_spec.2.1 rfl gm.c_MOST_RULES.choose_spec.choose_spec.2.2 rfl) sas_nil rfl) rfl) rfl) rfl rfl rfl) rfl) (sl_or1 (sx_not (sx_bi bi_all rfl gm.b_all rfl (sas_cons (sx_comp (own := [("rule", 2)]) (show BlkOk n8 (defScope (top 21)) _ _ from ⟨rfl, by decide +kernel, by decide +kernel, by decide +kernel, by decide +kernel⟩) rfl (by decide) (si_ex (sx_var 1 rfl (by first | exact .inl rfl | exact .inr (.inl rfl) | exact .inr (.inr rfl)) rfl rfl)) (fun _ _ _ _ _ => (stg_name 2 rfl (by first | exact .inl rfl | exact .inr rfl) (by first | exact .inl rfl | exact .inr rfl))) (fun _ _ _ _ _ => sts_none) (fun _ _ _ _ _ => (sx_call (FnE.blk (feC fe (f := 7) rfl)) Dp.takes0 (fun _ _ _ h => callF_len h) rfl (sas_cons (sx_var 0 rfl (by first | exact .inl rfl | exact .inr (.inl rfl) | exact .inr (.inr rfl)) rfl rfl) (sas_cons (sx_var 2 rfl (by first | exact .inl rfl | exact .inr (.inl rfl) | exact .inr (.inr rfl)) rfl rfl) sas_nil rfl) rfl) rfl rfl rfl)) (fun _ => rfl)) sas_nil rfl) (by decide) rfl rfl rfl) rfl))) rfl))
  (sb_cons (ss_raise0 (exC xe (i := 2) rfl) takes_body rfl rfl)
  sb_nil)
  sb_nil)
  (sb_cons (ss_if (st_not (SX.t (sx_bi bi_all rfl gm.b_all rfl (sas_cons (sx_comp (own := [("spot", 3)]) (show BlkOk n8 (defScope (top 21)) _ _ from ⟨rfl, by decide +kernel, by decide +kernel, by decide +kernel, by decide +kernel⟩) rfl (by decide) (si_rng2 rfl gm.b_range (sas_cons sx_int (sas_cons (sx_bi bi_len rfl gm.b_len rfl (sas_cons (sx_var 1 rfl (by first | exact .inl rfl | exact .inr (.inl rfl) | exact .inr (.inr rfl)) rfl rfl) sas_nil rfl) (by decide) rfl rfl rfl) sas_nil rfl) rfl) rfl rfl) (fun _ _ _ _ _ => (stg_name 3 rfl (by first | exact .inl rfl | exact .inr rfl) (by first | exact .inl rfl | exact .inr rfl))) (fun _ _ _ _ _ => sts_none) (fun _ _ _ _ _ => (sx_lt (sx_idx (sx_var 1 rfl (by first | exact .inl rfl | exact .inr (.inl rfl) | exact .inr (.inr rfl)) rfl rfl) (sx_sub (sx_var 3 rfl (by first | exact .inl rfl | exact .inr (.inl rfl) | exact .inr (.inr rfl)) rfl rfl) sx_int) (fun _ _ => rfl)) (sx_idx (sx_var 1 rfl (by first | exact .inl rfl | exact .inr (.inl rfl) | exact .inr (.inr rfl)) rfl rfl) (sx_var 3 rfl (by first | exact .inl rfl | exact .inr (.inl rfl) | exact .inr (.inr rfl)) rfl rfl) (fun _ _ => rfl)))) (fun _ => rfl)) sas_nil rfl) (by decide) rfl rfl rfl)))
  (sb_cons (ss_raise0 (exC xe (i := 2) rfl) takes_body rfl rfl)
  sb_nil)
  sb_nil)
  sb_nil)))
/- steps_of -/
def n9 : List PySem.Str := ["rules", "word", "found", "spot", "number", "rule"]
theorem sc9 : FnScope n9 ["rules", "word"] (defScope (top 22)) := ⟨rfl, rfl, rfl, by decide +kernel, rfl, by decide +kernel, by decide +kernel⟩
theorem d9 {P0 : Program} {w : World} {mg : PySem.Str → Option Value} {base : Heap} {T : Kt} (gm : Gm mg T) {k : Nat} (fe : FnAll (gb P0 w mg base T) fnames k) {lk : List Nat} {fA : Addr} {cd : Value} {A : Around} {outer : List PySem.Env} {s : Shared} {H : Hp} {E : XK} {hr : Room (5 * k + 4) (A.deeper (envOfC "steps_of" (defScope (top 22)) s.heap.objs.size fA cd))} :
    SB (CsOf (gb P0 w mg base T) k n9 ["rules", "word"] "steps_of" (defScope (top 22)) sc9 lk fA cd A outer s H E hr) (defBody (top 22)) f9.body :=
  (sb_cons (ss_set 2 rfl (by first | exact .inl rfl | exact .inr rfl) (sx_lst ses_nil (by decide)) rfl (by first | exact .inl rfl | exact .inr rfl))
  (sb_cons (ss_for (si_rng1 rfl gm.b_range (sas_cons (sx_add (sx_bi bi_len rfl gm.b_len rfl (sas_cons (sx_var 1 rfl (by first | exact .inl rfl | exact .inr (.inl rfl) | exact .inr (.inr rfl)) rfl rfl) sas_nil rfl) (by decide) rfl rfl rfl) sx_int) sas_nil rfl) rfl) (stg_name 3 rfl (by first | exact .inl rfl | exact .inr rfl) (by first | exact .inl rfl | exact .inr rfl))
  (sb_cons (ss_exp (sx_extend (i := 2) rfl (by first | exact .inl rfl | exact .inr (.inl rfl) | exact .inr (.inr rfl)) rfl rfl (ses_cons (sx_comp (own := [("number", 4), ("rule", 5)]) (show BlkOk n9 (defScope (top 22)) _ _ from ⟨rfl, by decide +kernel, by decide +kernel, by decide +kernel, by decide +kernel⟩) rfl (by decide) (si_enum rfl gm.b_enumerate (sx_var 0 rfl (by first | exact .inl rfl | exact .inr (.inl rfl) | exact .inr (.inr rfl)) rfl rfl) rfl) (fun _ _ _ _ _ => (stg_tup (sts_cons 4 rfl (by first | exact .inl rfl | exact .inr rfl) (by first | exact .inl rfl | exact .inr rfl) (sts_cons 5 rfl (by first | exact .inl rfl | exact .inr rfl) (by first | exact .inl rfl | exact .inr rfl) sts_nil rfl) rfl) rfl rfl)) (fun _ _ _ _ _ => (sts_one (SX.t (sx_eq (sx_slc (sx_var 1 rfl (by first | exact .inl rfl | exact .inr (.inl rfl) | exact .inr (.inr rfl)) rfl rfl) (sp_some (sx_var 3 rfl (by first | exact .inl rfl | exact .inr (.inl rfl) | exact .inr (.inr rfl)) rfl rfl) fun _ => rfl) (sp_some (sx_add (sx_var 3 rfl (by first | exact .inl rfl | exact .inr (.inl rfl) | exact .inr (.inr rfl)) rfl rfl) (sx_bi bi_len rfl gm.b_len rfl (sas_cons (sx_idx (sx_var 5 rfl (by first | exact .inl rfl | exact .inr (.inl rfl) | exact .inr (.inr rfl)) rfl rfl) sx_int (fun _ _ => rfl)) sas_nil rfl) (by decide) rfl rfl rfl)) fun _ => rfl)) (sx_idx (sx_var 5 rfl (by first | exact .inl rfl | exact .inr (.inl rfl) | exact .inr (.inr rfl)) rfl rfl) sx_int (fun _ _ => rfl)))))) (fun _ _ _ _ _ => (sx_tup (ses_cons (sx_var 3 rfl (by first | exact .inl rfl | exact .inr (.inl rfl) | exact .inr (.inr rfl)) rfl rfl) (ses_cons (sx_var 4 rfl (by first | exact .inl rfl | exact .inr (.inl rfl) | exact .inr (.inr rfl)) rfl rfl) ses_nil rfl) rfl) (by decide))) (fun _ => rfl)) ses_nil rfl) rfl rfl rfl) rfl)
  sb_nil) (fun _ => rfl))
  (sb_cons (ss_retm 2 rfl (by first | exact .inl rfl | exact .inr (.inl rfl) | exact .inr (.inr rfl)) rfl rfl)
  sb_nil)))
/- done -/
def n10 : List PySem.Str := ["rules", "word", "step", "spot", "number", "left", "right"]
theorem sc10 : FnScope n10 ["rules", "word", "step"] (defScope (top 23)) := ⟨rfl, rfl, rfl, by decide +kernel, rfl, by decide +kernel, by decide +kernel⟩
theorem d10 {P0 : Program} {w : World} {mg : PySem.Str → Option Value} {base : Heap} {T : Kt} (gm : Gm mg T) {k : Nat} (fe : FnAll (gb P0 w mg base T) fnames k) {lk : List Nat} {fA : Addr} {cd : Value} {A : Around} {outer : List PySem.Env} {s : Shared} {H : Hp} {E : XK} {hr : Room (5 * k + 4) (A.deeper (envOfC "done" (defScope (top 23)) s.heap.objs.size fA cd))} :
    SB (CsOf (gb P0 w mg base T) k n10 ["rules", "word", "step"] "done" (defScope (top 23)) sc10 lk fA cd A outer s H E hr) (defBody (top 23)) f10.body :=
  (sb_cons (ss_tup (sx_var 2 rfl (by first | exact .inl rfl | exact .inr (.inl rfl) | exact .inr (.inr rfl)) rfl rfl) (stg_tup (sts_cons 3 rfl (by first | exact .inl rfl | exact .inr rfl) (by first | exact .inl rfl | exact .inr rfl) (sts_cons 4 rfl (by first | exact .inl rfl | exact .inr rfl) (by first | exact .inl rfl | exact .inr rfl) sts_nil rfl) rfl) rfl rfl) rfl rfl rfl)
  (sb_cons (ss_tup (sx_idx (sx_var 0 rfl (by first | exact .inl rfl | exact .inr (.inl rfl) | exact .inr (.inr rfl)) rfl rfl) (sx_var 4 rfl (by first | exact .inl rfl | exact .inr (.inl rfl) | exact .inr (.inr rfl)) rfl rfl) (fun _ _ => rfl)) (stg_tup (sts_cons 5 rfl (by first | exact .inl rfl | exact .inr rfl) (by first | exact .inl rfl | exact .inr rfl) (sts_cons 6 rfl (by first | exact .inl rfl | exact .inr rfl) (by first | exact .inl rfl | exact .inr rfl) sts_nil rfl) rfl) rfl rfl) rfl rfl rfl)
  (sb_cons (ss_ret (sx_add (sx_add (sx_slc (sx_var 1 rfl (by first | exact .inl rfl | exact .inr (.inl rfl) | exact .inr (.inr rfl)) rfl rfl) sp_none (sp_some (sx_var 3 rfl (by first | exact .inl rfl | exact .inr (.inl rfl) | exact .inr (.inr rfl)) rfl rfl) fun _ => rfl)) (sx_var 6 rfl (by first | exact .inl rfl | exact .inr (.inl rfl) | exact .inr (.inr rfl)) rfl rfl)) (sx_slc (sx_var 1 rfl (by first | exact .inl rfl | exact .inr (.inl rfl) | exact .inr (.inr rfl)) rfl rfl) (sp_some (sx_add (sx_var 3 rfl (by first | exact .inl rfl | exact .inr (.inl rfl) | exact .inr (.inr rfl)) rfl rfl) (sx_bi bi_len rfl gm.b_len rfl (sas_cons (sx_var 5 rfl (by first | exact .inl rfl | exact .inr (.inl rfl) | exact .inr (.inr rfl)) rfl rfl) sas_nil rfl) (by decide) rfl rfl rfl)) fun _ => rfl) sp_none)))
  sb_nil)))
/- raw_last -/
def n11 : List PySem.Str := ["rules", "word", "steps"]
theorem sc11 : FnScope n11 ["rules", "word"] (defScope (top 24)) := ⟨rfl, rfl, rfl, by decide +kernel, rfl, by decide +kernel, by decide +kernel⟩
theorem d11 {P0 : Program} {w : World} {mg : PySem.Str → Option Value} {base : Heap} {T : Kt} (gm : Gm mg T) {k : Nat} (fe : FnAll (gb P0 w mg base T) fnames k) {lk : List Nat} {fA : Addr} {cd : Value} {A : Around} {outer : List PySem.Env} {s : Shared} {H : Hp} {E : XK} {hr : Room (5 * k + 4) (A.deeper (envOfC "raw_last" (defScope (top 24)) s.heap.objs.size fA cd))} :
    SB (CsOf (gb P0 w mg base T) k n11 ["rules", "word"] "raw_last" (defScope (top 24)) sc11 lk fA cd A outer s H E hr) (defBody (top 24)) f11.body :=
  (sb_cons (ss_set 2 rfl (by first | exact .inl rfl | exact .inr rfl) (sx_call (feC fe (f := 9) rfl) takes_body (fun _ _ _ h => callF_len h) rfl (sas_cons (sx_var 0 rfl (by first | exact .inl rfl | exact .inr (.inl rfl) | exact .inr (.inr rfl)) rfl rfl) (sas_cons (sx_var 1 rfl (by first | exact .inl rfl | exact .inr (.inl rfl) | exact .inr (.inr rfl)) rfl rfl) sas_nil rfl) rfl) rfl rfl rfl) rfl (by first | exact .inl rfl | exact .inr rfl))
  (sb_cons (ss_while (SX.t (sx_gt (sx_bi bi_len rfl gm.b_len rfl (sas_cons (sx_var 2 rfl (by first | exact .inl rfl | exact .inr (.inl rfl) | exact .inr (.inr rfl)) rfl rfl) sas_nil rfl) (by decide) rfl rfl rfl) sx_int))
  (sb_cons (ss_set 1 rfl (by first | exact .inl rfl | exact .inr rfl) (sx_call (feC fe (f := 10) rfl) takes_body (fun _ _ _ h => callF_len h) rfl (sas_cons (sx_var 0 rfl (by first | exact .inl rfl | exact .inr (.inl rfl) | exact .inr (.inr rfl)) rfl rfl) (sas_cons (sx_var 1 rfl (by first | exact .inl rfl | exact .inr (.inl rfl) | exact .inr (.inr rfl)) rfl rfl) (sas_cons (sx_idx (sx_var 2 rfl (by first | exact .inl rfl | exact .inr (.inl rfl) | exact .inr (.inr rfl)) rfl rfl) sx_int (fun _ _ => rfl)) sas_nil rfl) rfl) rfl) rfl rfl rfl) rfl (by first | exact .inl rfl | exact .inr rfl))
  (sb_cons (ss_set 2 rfl (by first | exact .inl rfl | exact .inr rfl) (sx_call (feC fe (f := 9) rfl) takes_body (fun _ _ _ h => callF_len h) rfl (sas_cons (sx_var 0 rfl (by first | exact .inl rfl | exact .inr (.inl rfl) | exact .inr (.inr rfl)) rfl rfl) (sas_cons (sx_var 1 rfl (by first | exact .inl rfl | exact .inr (.inl rfl) | exact .inr (.inr rfl)) rfl rfl) sas_nil rfl) rfl) rfl rfl rfl) rfl (by first | exact .inl rfl | exact .inr rfl))
  sb_nil)))
  (sb_cons (ss_ret (sx_var 1 rfl (by first | exact .inl rfl | exact .inr (.inl rfl) | exact .inr (.inr rfl)) rfl rfl))
  sb_nil)))
/- last_of -/
def n12 : List PySem.Str := ["letters", "rules", "word"]
theorem sc12 : FnScope n12 ["letters", "rules", "word"] (defScope (top 25)) := ⟨rfl, rfl, rfl, by decide +kernel, rfl, by decide +kernel, by decide +kernel⟩
theorem d12 {P0 : Program} {w : World} {mg : PySem.Str → Option Value} {base : Heap} {T : Kt} (gm : Gm mg T) {k : Nat} (fe : FnAll (gb P0 w mg base T) fnames k) {lk : List Nat} {fA : Addr} {cd : Value} {A : Around} {outer : List PySem.Env} {s : Shared} {H : Hp} {E : XK} {hr : Room (5 * k + 4) (A.deeper (envOfC "last_of" (defScope (top 25)) s.heap.objs.size fA cd))} :
    SB (CsOf (gb P0 w mg base T) k n12 ["letters", "rules", "word"] "last_of" (defScope (top 25)) sc12 lk fA cd A outer s H E hr) (defBody (top 25)) f12.body :=
  (sb_cons (ss_exp (sx_call (feC fe (f := 8) rfl) takes_body (fun _ _ _ h => callF_len h) rfl (sas_cons (sx_var 0 rfl (by first | exact .inl rfl | exact .inr (.inl rfl) | exact .inr (.inr rfl)) rfl rfl) (sas_cons (sx_var 1 rfl (by first | exact .inl rfl | exact .inr (.inl rfl) | exact .inr (.inr rfl)) rfl rfl) sas_nil rfl) rfl) rfl rfl rfl) rfl)
  (sb_cons (ss_exp (sx_call (feC fe (f := 5) rfl) takes_body (fun _ _ _ h => callF_len h) rfl (sas_cons (sx_var 0 rfl (by first | exact .inl rfl | exact .inr (.inl rfl) | exact .inr (.inr rfl)) rfl rfl) (sas_cons (sx_var 2 rfl (by first | exact .inl rfl | exact .inr (.inl rfl) | exact .inr (.inr rfl)) rfl rfl) sas_nil rfl) rfl) rfl rfl rfl) rfl)
  (sb_cons (ss_ret (sx_call (feC fe (f := 11) rfl) takes_body (fun _ _ _ h => callF_len h) rfl (sas_cons (sx_var 1 rfl (by first | exact .inl rfl | exact .inr (.inl rfl) | exact .inr (.inr rfl)) rfl rfl) (sas_cons (sx_var 2 rfl (by first | exact .inl rfl | exact .inr (.inl rfl) | exact .inr (.inr rfl)) rfl rfl) sas_nil rfl) rfl) rfl rfl rfl))
  sb_nil)))
/- comes_to -/
def n13 : List PySem.Str := ["letters", "rules", "word", "found", "waiting", "ends", "here", "laters", "step", "later"]
theorem sc13 : FnScope n13 ["letters", "rules", "word"] (defScope (top 26)) := ⟨rfl, rfl, rfl, by decide +kernel, rfl, by decide +kernel, by decide +kernel⟩
theorem d13 {P0 : Program} {w : World} {mg : PySem.Str → Option Value} {base : Heap} {T : Kt} (gm : Gm mg T) {k : Nat} (fe : FnAll (gb P0 w mg base T) fnames k) {lk : List Nat} {fA : Addr} {cd : Value} (le : LamAll (gb P0 w mg base T) lamds k) (tb0 : TbAt (gb P0 w mg base T) cd L0.qual) {A : Around} {outer : List PySem.Env} {s : Shared} {H : Hp} {E : XK} {hr : Room (5 * k + 4) (A.deeper (envOfC "comes_to" (defScope (top 26)) s.heap.objs.size fA cd))} :
    SB (CsOf (gb P0 w mg base T) k n13 ["letters", "rules", "word"] "comes_to" (defScope (top 26)) sc13 lk fA cd A outer s H E hr) (defBody (top 26)) f13.body :=
  (sb_cons (ss_exp (sx_call (feC fe (f := 8) rfl) takes_body (fun _ _ _ h => callF_len h) rfl (sas_cons (sx_var 0 rfl (by first | exact .inl rfl | exact .inr (.inl rfl) | exact .inr (.inr rfl)) rfl rfl) (sas_cons (sx_var 1 rfl (by first | exact .inl rfl | exact .inr (.inl rfl) | exact .inr (.inr rfl)) rfl rfl) sas_nil rfl) rfl) rfl rfl rfl) rfl)
  (sb_cons (ss_exp (sx_call (feC fe (f := 5) rfl) takes_body (fun _ _ _ h => callF_len h) rfl (sas_cons (sx_var 0 rfl (by first | exact .inl rfl | exact .inr (.inl rfl) | exact .inr (.inr rfl)) rfl rfl) (sas_cons (sx_var 2 rfl (by first | exact .inl rfl | exact .inr (.inl rfl) | exact .inr (.inr rfl)) rfl rfl) sas_nil rfl) rfl) rfl rfl rfl) rfl)
  (sb_cons (ss_par3 3 4 5 rfl rfl rfl (by decide) (by decide) (by decide) rfl rfl rfl (svs_cons (sx_dct1 (sx_var 2 rfl (by first | exact .inl rfl | exact .inr (.inl rfl) | exact .inr (.inr rfl)) rfl rfl) sx_bl) (svs_cons (sx_lst (ses_cons (sx_var 2 rfl (by first | exact .inl rfl | exact .inr (.inl rfl) | exact .inr (.inr rfl)) rfl rfl) ses_nil rfl) (by decide)) (svs_cons (sx_lst ses_nil (by decide)) svs_nil rfl) rfl) rfl) (by with_unfolding_all rfl) rfl)
  (sb_cons (ss_while (SX.t (sx_gt (sx_bi bi_len rfl gm.b_len rfl (sas_cons (sx_var 4 rfl (by first | exact .inl rfl | exact .inr (.inl rfl) | exact .inr (.inr rfl)) rfl rfl) sas_nil rfl) (by decide) rfl rfl rfl) sx_int))
  (sb_cons (ss_set 6 rfl (by first | exact .inl rfl | exact .inr rfl) (sx_pop (i := 4) rfl (by first | exact .inl rfl | exact .inr (.inl rfl) | exact .inr (.inr rfl)) rfl rfl rfl) rfl (by first | exact .inl rfl | exact .inr rfl))
  (sb_cons (ss_setC 7 rfl rfl (by with_unfolding_all rfl) (own := [("step", 8)]) (show BlkOk n13 (defScope (top 26)) _ _ from ⟨rfl, by decide +kernel, by decide +kernel, by decide +kernel, by decide +kernel⟩) rfl (by decide) (si_ex (sx_call (feC fe (f := 9) rfl) takes_body (fun _ _ _ h => callF_len h) rfl (sas_cons (sx_var 1 rfl (by first | exact .inl rfl | exact .inr (.inl rfl) | exact .inr (.inr rfl)) rfl rfl) (sas_cons (sx_var 6 rfl (by first | exact .inl rfl | exact .inr (.inl rfl) | exact .inr (.inr rfl)) rfl rfl) sas_nil rfl) rfl) rfl rfl rfl)) (fun _ _ _ _ _ => (stg_name 8 rfl (by first | exact .inl rfl | exact .inr rfl) (by first | exact .inl rfl | exact .inr rfl))) (fun _ _ _ _ _ => sts_none) (fun _ _ _ _ _ => (sx_call (FnE.blk (feC fe (f := 10) rfl)) Dp.takes0 (fun _ _ _ h => callF_len h) rfl (sas_cons (sx_var 1 rfl (by first | exact .inl rfl | exact .inr (.inl rfl) | exact .inr (.inr rfl)) rfl rfl) (sas_cons (sx_var 6 rfl (by first | exact .inl rfl | exact .inr (.inl rfl) | exact .inr (.inr rfl)) rfl rfl) (sas_cons (sx_var 8 rfl (by first | exact .inl rfl | exact .inr (.inl rfl) | exact .inr (.inr rfl)) rfl rfl) sas_nil rfl) rfl) rfl) rfl rfl rfl)) (fun _ => rfl))
  (sb_cons (ss_if (SX.t (sx_eq (sx_bi bi_len rfl gm.b_len rfl (sas_cons (sx_var 7 rfl (by first | exact .inl rfl | exact .inr (.inl rfl) | exact .inr (.inr rfl)) rfl rfl) sas_nil rfl) (by decide) rfl rfl rfl) sx_int))
  (sb_cons (ss_exp (sx_append (i := 5) rfl (by first | exact .inl rfl | exact .inr (.inl rfl) | exact .inr (.inr rfl)) rfl rfl (ses_cons (sx_var 6 rfl (by first | exact .inl rfl | exact .inr (.inl rfl) | exact .inr (.inr rfl)) rfl rfl) ses_nil rfl) rfl rfl rfl) rfl)
  sb_nil)
  sb_nil)
  (sb_cons (ss_for (si_ex (sx_var 7 rfl (by first | exact .inl rfl | exact .inr (.inl rfl) | exact .inr (.inr rfl)) rfl rfl)) (stg_name 9 rfl (by first | exact .inl rfl | exact .inr rfl) (by first | exact .inl rfl | exact .inr rfl))
  (sb_cons (ss_if (SX.t (sx_nin (sx_var 9 rfl (by first | exact .inl rfl | exact .inr (.inl rfl) | exact .inr (.inr rfl)) rfl rfl) (sx_var 3 rfl (by first | exact .inl rfl | exact .inr (.inl rfl) | exact .inr (.inr rfl)) rfl rfl) (by with_unfolding_all rfl)))
  (sb_cons (ss_seti 3 rfl (by first | exact .inl rfl | exact .inr (.inl rfl) | exact .inr (.inr rfl)) rfl rfl (sx_var 9 rfl (by first | exact .inl rfl | exact .inr (.inl rfl) | exact .inr (.inr rfl)) rfl rfl) sx_bl rfl)
  (sb_cons (ss_exp (sx_append (i := 4) rfl (by first | exact .inl rfl | exact .inr (.inl rfl) | exact .inr (.inr rfl)) rfl rfl (ses_cons (sx_var 9 rfl (by first | exact .inl rfl | exact .inr (.inl rfl) | exact .inr (.inr rfl)) rfl rfl) ses_nil rfl) rfl rfl rfl) rfl)
  (sb_cons (ss_if (SX.t (sx_gt (sx_bi bi_len rfl gm.b_len rfl (sas_cons (sx_var 3 rfl (by first | exact .inl rfl | exact .inr (.inl rfl) | exact .inr (.inr rfl)) rfl rfl) sas_nil rfl) (by decide) rfl rfl rfl) (sx_gcon (n := 4) rfl gm.c_MOST_GONE.choose_spec.choose_spec.1 gm.c_MOST_GONE.choose_spec.choose_spec.2.1 rfl gm.c_MOST_GONE.choose_spec.choose_spec.2.2 rfl)))
  (sb_cons ss_bad
  sb_nil)
  sb_nil)
  sb_nil)))
  sb_nil)
  sb_nil) (fun _ => rfl))
  sb_nil)))))
  (sb_cons (ss_ret (sx_srtk (L := L0) (leC le (key := 0) rfl) (mkC tb0 rfl (by decide +kernel) rfl) rfl gm.b_sorted (sx_var 5 rfl (by first | exact .inl rfl | exact .inr (.inl rfl) | exact .inr (.inr rfl)) rfl rfl) rfl rfl rfl))
  sb_nil)))))
/- _law_draw -/
def n14 : List PySem.Str := ["hand", "span", "cell", "digit", "number"]
theorem sc14 : FnScope n14 ["hand", "span"] (defScope (top 28)) := ⟨rfl, rfl, rfl, by decide +kernel, rfl, by decide +kernel, by decide +kernel⟩
theorem d14 {P0 : Program} {w : World} {mg : PySem.Str → Option Value} {base : Heap} {T : Kt} (gm : Gm mg T) {k : Nat} (fe : FnAll (gb P0 w mg base T) fnames k) {lk : List Nat} {fA : Addr} {cd : Value} {A : Around} {outer : List PySem.Env} {s : Shared} {H : Hp} {E : XK} {hr : Room (5 * k + 4) (A.deeper (envOfC "_law_draw" (defScope (top 28)) s.heap.objs.size fA cd))} :
    SB (CsOf (gb P0 w mg base T) k n14 ["hand", "span"] "_law_draw" (defScope (top 28)) sc14 lk fA cd A outer s H E hr) (defBody (top 28)) f14.body :=
  (sb_cons (ss_if (SX.t (sx_bool (sl_and (sx_eq (sx_idx (sx_var 0 rfl (by first | exact .inl rfl | exact .inr (.inl rfl) | exact .inr (.inr rfl)) rfl rfl) sx_int (fun _ _ => rfl)) sx_int) (sl_and1 (sx_lt (sx_idx (sx_var 0 rfl (by first | exact .inl rfl | exact .inr (.inl rfl) | exact .inr (.inr rfl)) rfl rfl) sx_int (fun _ _ => rfl)) (sx_bi bi_len rfl gm.b_len rfl (sas_cons (sx_idx (sx_var 0 rfl (by first | exact .inl rfl | exact .inr (.inl rfl) | exact .inr (.inr rfl)) rfl rfl) sx_int (fun _ _ => rfl)) sas_nil rfl) (by decide) rfl rfl rfl)))) rfl))
  (sb_cons (ss_set 2 rfl (by first | exact .inl rfl | exact .inr rfl) (sx_idx (sx_idx (sx_var 0 rfl (by first | exact .inl rfl | exact .inr (.inl rfl) | exact .inr (.inr rfl)) rfl rfl) sx_int (fun _ _ => rfl)) (sx_idx (sx_var 0 rfl (by first | exact .inl rfl | exact .inr (.inl rfl) | exact .inr (.inr rfl)) rfl rfl) sx_int (fun _ _ => rfl)) (fun _ _ => rfl)) rfl (by first | exact .inl rfl | exact .inr rfl))
  (sb_cons (ss_seti 0 rfl (by first | exact .inl rfl | exact .inr (.inl rfl) | exact .inr (.inr rfl)) rfl rfl sx_int (sx_add (sx_idx (sx_var 0 rfl (by first | exact .inl rfl | exact .inr (.inl rfl) | exact .inr (.inr rfl)) rfl rfl) sx_int (fun _ _ => rfl)) sx_int) rfl)
  (sb_cons (ss_seti 0 rfl (by first | exact .inl rfl | exact .inr (.inl rfl) | exact .inr (.inr rfl)) rfl rfl sx_int (sx_mod (sx_biT bi_int rfl gm.b_int rfl (sas_cons (sx_add (sx_add (sx_mul (sx_idx (sx_var 0 rfl (by first | exact .inl rfl | exact .inr (.inl rfl) | exact .inr (.inr rfl)) rfl rfl) sx_int (fun _ _ => rfl)) sx_int) (sx_var 2 rfl (by first | exact .inl rfl | exact .inr (.inl rfl) | exact .inr (.inr rfl)) rfl rfl)) sx_int) sas_nil rfl) (by decide) rfl rfl rfl) sx_int) rfl)
  (sb_cons (ss_if (SX.t (sx_ge (sx_var 2 rfl (by first | exact .inl rfl | exact .inr (.inl rfl) | exact .inr (.inr rfl)) rfl rfl) (sx_pow sx_int sx_int)))
  (sb_cons (ss_seti 0 rfl (by first | exact .inl rfl | exact .inr (.inl rfl) | exact .inr (.inr rfl)) rfl rfl sx_int (sx_var 2 rfl (by first | exact .inl rfl | exact .inr (.inl rfl) | exact .inr (.inr rfl)) rfl rfl) rfl)
  sb_nil)
  sb_nil)
  sb_nil))))
  sb_nil)
  (sb_cons (ss_if (SX.t (sx_gt (sx_idx (sx_var 0 rfl (by first | exact .inl rfl | exact .inr (.inl rfl) | exact .inr (.inr rfl)) rfl rfl) sx_int (fun _ _ => rfl)) sx_int))
  (sb_cons (ss_set 3 rfl (by first | exact .inl rfl | exact .inr rfl) (sx_mod (sx_biT bi_int rfl gm.b_int rfl (sas_cons (sx_idx (sx_var 0 rfl (by first | exact .inl rfl | exact .inr (.inl rfl) | exact .inr (.inr rfl)) rfl rfl) sx_int (fun _ _ => rfl)) sas_nil rfl) (by decide) rfl rfl rfl) (sx_var 1 rfl (by first | exact .inl rfl | exact .inr (.inl rfl) | exact .inr (.inr rfl)) rfl rfl)) rfl (by first | exact .inl rfl | exact .inr rfl))
  (sb_cons (ss_seti 0 rfl (by first | exact .inl rfl | exact .inr (.inl rfl) | exact .inr (.inr rfl)) rfl rfl sx_int (sx_fdv (sx_idx (sx_var 0 rfl (by first | exact .inl rfl | exact .inr (.inl rfl) | exact .inr (.inr rfl)) rfl rfl) sx_int (fun _ _ => rfl)) (sx_var 1 rfl (by first | exact .inl rfl | exact .inr (.inl rfl) | exact .inr (.inr rfl)) rfl rfl)) rfl)
  (sb_cons (ss_retm 3 rfl (by first | exact .inl rfl | exact .inr (.inl rfl) | exact .inr (.inr rfl)) rfl rfl)
  sb_nil)))
  sb_nil)
  (sb_cons (ss_seti 0 rfl (by first | exact .inl rfl | exact .inr (.inl rfl) | exact .inr (.inr rfl)) rfl rfl sx_int (sx_add (sx_idx (sx_var 0 rfl (by first | exact .inl rfl | exact .inr (.inl rfl) | exact .inr (.inr rfl)) rfl rfl) sx_int (fun _ _ => rfl)) sx_int) rfl)
  (sb_cons (ss_set 4 rfl (by first | exact .inl rfl | exact .inr rfl) (sx_mod (sx_biT bi_int rfl gm.b_int rfl (sas_cons (sx_mul (sx_biT bi_int rfl gm.b_int rfl (sas_cons (sx_add (sx_idx (sx_var 0 rfl (by first | exact .inl rfl | exact .inr (.inl rfl) | exact .inr (.inr rfl)) rfl rfl) sx_int (fun _ _ => rfl)) (sx_mul sx_int (sx_idx (sx_var 0 rfl (by first | exact .inl rfl | exact .inr (.inl rfl) | exact .inr (.inr rfl)) rfl rfl) sx_int (fun _ _ => rfl)))) sas_nil rfl) (by decide) rfl rfl rfl) sx_int) sas_nil rfl) (by decide) rfl rfl rfl) sx_int) rfl (by first | exact .inl rfl | exact .inr rfl))
  (sb_cons (ss_set 4 rfl (by first | exact .inl rfl | exact .inr rfl) (sx_mod (sx_biT bi_int rfl gm.b_int rfl (sas_cons (sx_mul (sx_var 4 rfl (by first | exact .inl rfl | exact .inr (.inl rfl) | exact .inr (.inr rfl)) rfl rfl) (sx_add (sx_fdv (sx_var 4 rfl (by first | exact .inl rfl | exact .inr (.inl rfl) | exact .inr (.inr rfl)) rfl rfl) sx_int) sx_int)) sas_nil rfl) (by decide) rfl rfl rfl) sx_int) rfl (by first | exact .inl rfl | exact .inr rfl))
  (sb_cons (ss_set 4 rfl (by first | exact .inl rfl | exact .inr rfl) (sx_mod (sx_biT bi_int rfl gm.b_int rfl (sas_cons (sx_mul (sx_var 4 rfl (by first | exact .inl rfl | exact .inr (.inl rfl) | exact .inr (.inr rfl)) rfl rfl) (sx_add (sx_fdv (sx_var 4 rfl (by first | exact .inl rfl | exact .inr (.inl rfl) | exact .inr (.inr rfl)) rfl rfl) sx_int) sx_int)) sas_nil rfl) (by decide) rfl rfl rfl) sx_int) rfl (by first | exact .inl rfl | exact .inr rfl))
  (sb_cons (ss_ret (sx_mod (sx_biT bi_int rfl gm.b_int rfl (sas_cons (sx_fdv (sx_var 4 rfl (by first | exact .inl rfl | exact .inr (.inl rfl) | exact .inr (.inr rfl)) rfl rfl) sx_int) sas_nil rfl) (by decide) rfl rfl rfl) (sx_var 1 rfl (by first | exact .inl rfl | exact .inr (.inl rfl) | exact .inr (.inr rfl)) rfl rfl)))
  sb_nil)))))))
/- _law_some -/
def n15 : List PySem.Str := ["hand", "things"]
theorem sc15 : FnScope n15 ["hand", "things"] (defScope (top 29)) := ⟨rfl, rfl, rfl, by decide +kernel, rfl, by decide +kernel, by decide +kernel⟩
theorem d15 {P0 : Program} {w : World} {mg : PySem.Str → Option Value} {base : Heap} {T : Kt} (gm : Gm mg T) {k : Nat} (fe : FnAll (gb P0 w mg base T) fnames k) {lk : List Nat} {fA : Addr} {cd : Value} {A : Around} {outer : List PySem.Env} {s : Shared} {H : Hp} {E : XK} {hr : Room (5 * k + 4) (A.deeper (envOfC "_law_some" (defScope (top 29)) s.heap.objs.size fA cd))} :
    SB (CsOf (gb P0 w mg base T) k n15 ["hand", "things"] "_law_some" (defScope (top 29)) sc15 lk fA cd A outer s H E hr) (defBody (top 29)) f15.body :=
  (sb_cons (ss_ret (sx_idx (sx_var 1 rfl (by first | exact .inl rfl | exact .inr (.inl rfl) | exact .inr (.inr rfl)) rfl rfl) (sx_call (feC fe (f := 14) rfl) takes_body (fun _ _ _ h => callF_len h) rfl (sas_cons (sx_var 0 rfl (by first | exact .inl rfl | exact .inr (.inl rfl) | exact .inr (.inr rfl)) rfl rfl) (sas_cons (sx_bi bi_len rfl gm.b_len rfl (sas_cons (sx_var 1 rfl (by first | exact .inl rfl | exact .inr (.inl rfl) | exact .inr (.inr rfl)) rfl rfl) sas_nil rfl) (by decide) rfl rfl rfl) sas_nil rfl) rfl) rfl rfl rfl) (fun _ _ => rfl)))
  sb_nil)
/- _law_is -/
def n16 : List PySem.Str := ["thing", "due", "one", "other"]
theorem sc16 : FnScope n16 ["thing", "due"] (defScope (top 30)) := ⟨rfl, rfl, rfl, by decide +kernel, rfl, by decide +kernel, by decide +kernel⟩
theorem d16 {P0 : Program} {w : World} {mg : PySem.Str → Option Value} {base : Heap} {T : Kt} (gm : Gm mg T) {k : Nat} (fe : FnAll (gb P0 w mg base T) fnames k) {lk : List Nat} {fA : Addr} {cd : Value} {A : Around} {outer : List PySem.Env} {s : Shared} {H : Hp} {E : XK} {hr : Room (5 * k + 4) (A.deeper (envOfC "_law_is" (defScope (top 30)) s.heap.objs.size fA cd))} :
    SB (CsOf (gb P0 w mg base T) k n16 ["thing", "due"] "_law_is" (defScope (top 30)) sc16 lk fA cd A outer s H E hr) (defBody (top 30)) f16.body :=
  (sb_cons (ss_if (SX.t (sx_isi2 (sx_var 1 rfl (by first | exact .inl rfl | exact .inr (.inl rfl) | exact .inr (.inr rfl)) rfl rfl) rfl rfl rfl gm.b_isinstance rfl gm.b_tuple rfl (by decide) rfl rfl gm.b_list rfl (by decide) rfl rfl))
  (sb_cons (ss_if (SX.t (sx_bool (sl_or (sx_ne (sx_isi1 (sx_var 0 rfl (by first | exact .inl rfl | exact .inr (.inl rfl) | exact .inr (.inr rfl)) rfl rfl) rfl rfl gm.b_isinstance rfl gm.b_tuple rfl (by decide) rfl rfl) (sx_isi1 (sx_var 1 rfl (by first | exact .inl rfl | exact .inr (.inl rfl) | exact .inr (.inr rfl)) rfl rfl) rfl rfl gm.b_isinstance rfl gm.b_tuple rfl (by decide) rfl rfl)) (sl_or1 (sx_ne (sx_isi1 (sx_var 0 rfl (by first | exact .inl rfl | exact .inr (.inl rfl) | exact .inr (.inr rfl)) rfl rfl) rfl rfl gm.b_isinstance rfl gm.b_list rfl (by decide) rfl rfl) (sx_isi1 (sx_var 1 rfl (by first | exact .inl rfl | exact .inr (.inl rfl) | exact .inr (.inr rfl)) rfl rfl) rfl rfl gm.b_isinstance rfl gm.b_list rfl (by decide) rfl rfl)))) rfl))
  (sb_cons (ss_ret sx_bl)
  sb_nil)
  sb_nil)
  (sb_cons (ss_ret (sx_bool (sl_and (sx_eq (sx_bi bi_len rfl gm.b_len rfl (sas_cons (sx_var 0 rfl (by first | exact .inl rfl | exact .inr (.inl rfl) | exact .inr (.inr rfl)) rfl rfl) sas_nil rfl) (by decide) rfl rfl rfl) (sx_bi bi_len rfl gm.b_len rfl (sas_cons (sx_var 1 rfl (by first | exact .inl rfl | exact .inr (.inl rfl) | exact .inr (.inr rfl)) rfl rfl) sas_nil rfl) (by decide) rfl rfl rfl)) (sl_and1 (sx_bi bi_all rfl gm.b_all rfl (sas_cons (sx_comp (own := [("one", 2), ("other", 3)]) (show BlkOk n16 (defScope (top 30)) _ _ from ⟨rfl, by decide +kernel, by decide +kernel, by decide +kernel, by decide +kernel⟩) rfl (by decide) (si_zip rfl gm.b_zip (ses_cons (sx_var 0 rfl (by first | exact .inl rfl | exact .inr (.inl rfl) | exact .inr (.inr rfl)) rfl rfl) (ses_cons (sx_var 1 rfl (by first | exact .inl rfl | exact .inr (.inl rfl) | exact .inr (.inr rfl)) rfl rfl) ses_nil rfl) rfl) rfl rfl) (fun _ _ _ _ _ => (stg_tup (sts_cons 2 rfl (by first | exact .inl rfl | exact .inr rfl) (by first | exact .inl rfl | exact .inr rfl) (sts_cons 3 rfl (by first | exact .inl rfl | exact .inr rfl) (by first | exact .inl rfl | exact .inr rfl) sts_nil rfl) rfl) rfl rfl)) (fun _ _ _ _ _ => sts_none) (fun _ _ _ _ _ => (sx_call (FnE.blk (feC fe (f := 16) rfl)) Dp.takes0 (fun _ _ _ h => callF_len h) rfl (sas_cons (sx_var 2 rfl (by first | exact .inl rfl | exact .inr (.inl rfl) | exact .inr (.inr rfl)) rfl rfl) (sas_cons (sx_var 3 rfl (by first | exact .inl rfl | exact .inr (.inl rfl) | exact .inr (.inr rfl)) rfl rfl) sas_nil rfl) rfl) rfl rfl rfl)) (fun _ => rfl)) sas_nil rfl) (by decide) rfl rfl rfl))) rfl))
  sb_nil))
  sb_nil)
  (sb_cons (ss_if (SX.t (sx_bool (sl_or (sx_is (sx_var 1 rfl (by first | exact .inl rfl | exact .inr (.inl rfl) | exact .inr (.inr rfl)) rfl rfl) sx_non) (sl_or1 (sx_is (sx_var 0 rfl (by first | exact .inl rfl | exact .inr (.inl rfl) | exact .inr (.inr rfl)) rfl rfl) sx_non))) rfl))
  (sb_cons (ss_ret (sx_bool (sl_and (sx_is (sx_var 1 rfl (by first | exact .inl rfl | exact .inr (.inl rfl) | exact .inr (.inr rfl)) rfl rfl) sx_non) (sl_and1 (sx_is (sx_var 0 rfl (by first | exact .inl rfl | exact .inr (.inl rfl) | exact .inr (.inr rfl)) rfl rfl) sx_non))) rfl))
  sb_nil)
  sb_nil)
  (sb_cons (ss_if (SX.t (sx_bool (sl_or (sx_ne (sx_isi1 (sx_var 0 rfl (by first | exact .inl rfl | exact .inr (.inl rfl) | exact .inr (.inr rfl)) rfl rfl) rfl rfl gm.b_isinstance rfl gm.b_bool rfl (by decide) rfl rfl) (sx_isi1 (sx_var 1 rfl (by first | exact .inl rfl | exact .inr (.inl rfl) | exact .inr (.inr rfl)) rfl rfl) rfl rfl gm.b_isinstance rfl gm.b_bool rfl (by decide) rfl rfl)) (sl_or1 (sx_ne (sx_isi1 (sx_var 0 rfl (by first | exact .inl rfl | exact .inr (.inl rfl) | exact .inr (.inr rfl)) rfl rfl) rfl rfl gm.b_isinstance rfl gm.b_int rfl (by decide) rfl rfl) (sx_isi1 (sx_var 1 rfl (by first | exact .inl rfl | exact .inr (.inl rfl) | exact .inr (.inr rfl)) rfl rfl) rfl rfl gm.b_isinstance rfl gm.b_int rfl (by decide) rfl rfl)))) rfl))
  (sb_cons (ss_ret sx_bl)
  sb_nil)
  sb_nil)
  (sb_cons (ss_ret (sx_bool (sl_and (sx_eq (sx_isi1 (sx_var 0 rfl (by first | exact .inl rfl | exact .inr (.inl rfl) | exact .inr (.inr rfl)) rfl rfl) rfl rfl gm.b_isinstance rfl gm.b_str rfl (by decide) rfl rfl) (sx_isi1 (sx_var 1 rfl (by first | exact .inl rfl | exact .inr (.inl rfl) | exact .inr (.inr rfl)) rfl rfl) rfl rfl gm.b_isinstance rfl gm.b_str rfl (by decide) rfl rfl)) (sl_and1 (sx_eq (sx_var 0 rfl (by first | exact .inl rfl | exact .inr (.inl rfl) | exact .inr (.inr rfl)) rfl rfl) (sx_var 1 rfl (by first | exact .inl rfl | exact .inr (.inl rfl) | exact .inr (.inr rfl)) rfl rfl)))) rfl))
  sb_nil))))
/- _law_hand -/
def n17 : List PySem.Str := ["script", "cells", "cell"]
theorem sc17 : FnScope n17 ["script"] (defScope (top 31)) := ⟨rfl, rfl, rfl, by decide +kernel, rfl, by decide +kernel, by decide +kernel⟩
theorem d17 {P0 : Program} {w : World} {mg : PySem.Str → Option Value} {base : Heap} {T : Kt} (gm : Gm mg T) {k : Nat} (fe : FnAll (gb P0 w mg base T) fnames k) {lk : List Nat} {fA : Addr} {cd : Value} {A : Around} {outer : List PySem.Env} {s : Shared} {H : Hp} {E : XK} {hr : Room (5 * k + 4) (A.deeper (envOfC "_law_hand" (defScope (top 31)) s.heap.objs.size fA cd))} :
    SB (CsOf (gb P0 w mg base T) k n17 ["script"] "_law_hand" (defScope (top 31)) sc17 lk fA cd A outer s H E hr) (defBody (top 31)) f17.body :=
  (sb_cons (ss_setC 1 rfl rfl (by with_unfolding_all rfl) (own := [("cell", 2)]) (show BlkOk n17 (defScope (top 31)) _ _ from ⟨rfl, by decide +kernel, by decide +kernel, by decide +kernel, by decide +kernel⟩) rfl (by decide) (si_ex (sx_slc (sx_var 0 rfl (by first | exact .inl rfl | exact .inr (.inl rfl) | exact .inr (.inr rfl)) rfl rfl) sp_none (sp_some sx_int fun _ => rfl))) (fun _ _ _ _ _ => (stg_name 2 rfl (by first | exact .inl rfl | exact .inr rfl) (by first | exact .inl rfl | exact .inr rfl))) (fun _ _ _ _ _ => sts_none) (fun _ _ _ _ _ => (sx_bi bi_abs rfl gm.b_abs rfl (sas_cons (sx_biT bi_int rfl gm.b_int rfl (sas_cons (sx_var 2 rfl (by first | exact .inl rfl | exact .inr (.inl rfl) | exact .inr (.inr rfl)) rfl rfl) sas_nil rfl) (by decide) rfl rfl rfl) sas_nil rfl) (by decide) rfl rfl rfl)) (fun _ => rfl))
  (sb_cons (ss_ret (sx_lst (ses_cons (sx_var 1 rfl (by first | exact .inl rfl | exact .inr (.inl rfl) | exact .inr (.inr rfl)) rfl rfl) (ses_cons sx_int (ses_cons sx_int (ses_cons (sx_add sx_int (sx_mul sx_int (sx_bi bi_len rfl gm.b_len rfl (sas_cons (sx_var 1 rfl (by first | exact .inl rfl | exact .inr (.inl rfl) | exact .inr (.inr rfl)) rfl rfl) sas_nil rfl) (by decide) rfl rfl rfl))) (ses_cons sx_int ses_nil rfl) rfl) rfl) rfl) rfl) (by decide)))
  sb_nil))
/- _law_deep -/
def n18 : List PySem.Str := ["hand", "thing", "turn"]
theorem sc18 : FnScope n18 ["hand"] (defScope (top 32)) := ⟨rfl, rfl, rfl, by decide +kernel, rfl, by decide +kernel, by decide +kernel⟩
theorem d18 {P0 : Program} {w : World} {mg : PySem.Str → Option Value} {base : Heap} {T : Kt} (gm : Gm mg T) {k : Nat} (fe : FnAll (gb P0 w mg base T) fnames k) {lk : List Nat} {fA : Addr} {cd : Value} {A : Around} {outer : List PySem.Env} {s : Shared} {H : Hp} {E : XK} {hr : Room (5 * k + 4) (A.deeper (envOfC "_law_deep" (defScope (top 32)) s.heap.objs.size fA cd))} :
    SB (CsOf (gb P0 w mg base T) k n18 ["hand"] "_law_deep" (defScope (top 32)) sc18 lk fA cd A outer s H E hr) (defBody (top 32)) f18.body :=
  (sb_cons (ss_set 1 rfl (by first | exact .inl rfl | exact .inr rfl) (sx_call (feC fe (f := 15) rfl) takes_body (fun _ _ _ h => callF_len h) rfl (sas_cons (sx_var 0 rfl (by first | exact .inl rfl | exact .inr (.inl rfl) | exact .inr (.inr rfl)) rfl rfl) (sas_cons (sx_lst (ses_cons sx_non (ses_cons (sx_neg sx_int) (ses_cons (sx_str rfl (by decide) (by decide)) ses_nil rfl) rfl) rfl) (by decide)) sas_nil rfl) rfl) rfl rfl rfl) rfl (by first | exact .inl rfl | exact .inr rfl))
  (sb_cons (ss_for (si_rng1 rfl gm.b_range (sas_cons (sx_add sx_int (sx_call (feC fe (f := 14) rfl) takes_body (fun _ _ _ h => callF_len h) rfl (sas_cons (sx_var 0 rfl (by first | exact .inl rfl | exact .inr (.inl rfl) | exact .inr (.inr rfl)) rfl rfl) (sas_cons sx_int sas_nil rfl) rfl) rfl rfl rfl)) sas_nil rfl) rfl) (stg_name 2 rfl (by first | exact .inl rfl | exact .inr rfl) (by first | exact .inl rfl | exact .inr rfl))
  (sb_cons (ss_set 1 rfl (by first | exact .inl rfl | exact .inr rfl) (sx_call (feC fe (f := 15) rfl) takes_body (fun _ _ _ h => callF_len h) rfl (sas_cons (sx_var 0 rfl (by first | exact .inl rfl | exact .inr (.inl rfl) | exact .inr (.inr rfl)) rfl rfl) (sas_cons (sx_lst (ses_cons (sx_tup (ses_cons (sx_var 1 rfl (by first | exact .inl rfl | exact .inr (.inl rfl) | exact .inr (.inr rfl)) rfl rfl) ses_nil rfl) (by decide)) (ses_cons (sx_lst (ses_cons (sx_var 1 rfl (by first | exact .inl rfl | exact .inr (.inl rfl) | exact .inr (.inr rfl)) rfl rfl) ses_nil rfl) (by decide)) ses_nil rfl) rfl) (by decide)) sas_nil rfl) rfl) rfl rfl rfl) rfl (by first | exact .inl rfl | exact .inr rfl))
  sb_nil) (fun _ => rfl))
  (sb_cons (ss_retm 1 rfl (by first | exact .inl rfl | exact .inr (.inl rfl) | exact .inr (.inr rfl)) rfl rfl)
  sb_nil)))
/- _law_drawn_word -/
def n19 : List PySem.Str := ["hand", "letters", "most", "step"]
theorem sc19 : FnScope n19 ["hand", "letters", "most"] (defScope (top 33)) := ⟨rfl, rfl, rfl, by decide +kernel, rfl, by decide +kernel, by decide +kernel⟩
theorem d19 {P0 : Program} {w : World} {mg : PySem.Str → Option Value} {base : Heap} {T : Kt} (gm : Gm mg T) {k : Nat} (fe : FnAll (gb P0 w mg base T) fnames k) {lk : List Nat} {fA : Addr} {cd : Value} {A : Around} {outer : List PySem.Env} {s : Shared} {H : Hp} {E : XK} {hr : Room (5 * k + 4) (A.deeper (envOfC "_law_drawn_word" (defScope (top 33)) s.heap.objs.size fA cd))} :
    SB (CsOf (gb P0 w mg base T) k n19 ["hand", "letters", "most"] "_law_drawn_word" (defScope (top 33)) sc19 lk fA cd A outer s H E hr) (defBody (top 33)) f19.body :=
  (sb_cons (ss_ret (sx_join rfl (by decide) (by decide) (sx_comp (own := [("step", 3)]) (show BlkOk n19 (defScope (top 33)) _ _ from ⟨rfl, by decide +kernel, by decide +kernel, by decide +kernel, by decide +kernel⟩) rfl (by decide) (si_rng1 rfl gm.b_range (sas_cons (sx_call (feC fe (f := 14) rfl) takes_body (fun _ _ _ h => callF_len h) rfl (sas_cons (sx_var 0 rfl (by first | exact .inl rfl | exact .inr (.inl rfl) | exact .inr (.inr rfl)) rfl rfl) (sas_cons (sx_add (sx_var 2 rfl (by first | exact .inl rfl | exact .inr (.inl rfl) | exact .inr (.inr rfl)) rfl rfl) sx_int) sas_nil rfl) rfl) rfl rfl rfl) sas_nil rfl) rfl) (fun _ _ _ _ _ => (stg_name 3 rfl (by first | exact .inl rfl | exact .inr rfl) (by first | exact .inl rfl | exact .inr rfl))) (fun _ _ _ _ _ => sts_none) (fun _ _ _ _ _ => (sx_call (FnE.blk (feC fe (f := 15) rfl)) Dp.takes0 (fun _ _ _ h => callF_len h) rfl (sas_cons (sx_var 0 rfl (by first | exact .inl rfl | exact .inr (.inl rfl) | exact .inr (.inr rfl)) rfl rfl) (sas_cons (sx_var 1 rfl (by first | exact .inl rfl | exact .inr (.inl rfl) | exact .inr (.inr rfl)) rfl rfl) sas_nil rfl) rfl) rfl rfl rfl)) (fun _ => rfl)) rfl rfl))
  sb_nil)
/- _law_key -/
def n20 : List PySem.Str := ["word"]
theorem sc20 : FnScope n20 ["word"] (defScope (top 34)) := ⟨rfl, rfl, rfl, by decide +kernel, rfl, by decide +kernel, by decide +kernel⟩
theorem d20 {P0 : Program} {w : World} {mg : PySem.Str → Option Value} {base : Heap} {T : Kt} (gm : Gm mg T) {k : Nat} (fe : FnAll (gb P0 w mg base T) fnames k) {lk : List Nat} {fA : Addr} {cd : Value} {A : Around} {outer : List PySem.Env} {s : Shared} {H : Hp} {E : XK} {hr : Room (5 * k + 4) (A.deeper (envOfC "_law_key" (defScope (top 34)) s.heap.objs.size fA cd))} :
    SB (CsOf (gb P0 w mg base T) k n20 ["word"] "_law_key" (defScope (top 34)) sc20 lk fA cd A outer s H E hr) (defBody (top 34)) f20.body :=
  (sb_cons (ss_ret (sx_tup (ses_cons (sx_bi bi_len rfl gm.b_len rfl (sas_cons (sx_var 0 rfl (by first | exact .inl rfl | exact .inr (.inl rfl) | exact .inr (.inr rfl)) rfl rfl) sas_nil rfl) (by decide) rfl rfl rfl) (ses_cons (sx_var 0 rfl (by first | exact .inl rfl | exact .inr (.inl rfl) | exact .inr (.inr rfl)) rfl rfl) ses_nil rfl) rfl) (by decide)))
  sb_nil)
/- _law_rules -/
def n21 : List PySem.Str := ["hand", "letters", "most", "long", "short", "found", "lap", "one", "other"]
theorem sc21 : FnScope n21 ["hand", "letters", "most", "long", "short"] (defScope (top 35)) := ⟨rfl, rfl, rfl, by decide +kernel, rfl, by decide +kernel, by decide +kernel⟩
theorem d21 {P0 : Program} {w : World} {mg : PySem.Str → Option Value} {base : Heap} {T : Kt} (gm : Gm mg T) {k : Nat} (fe : FnAll (gb P0 w mg base T) fnames k) {lk : List Nat} {fA : Addr} {cd : Value} {A : Around} {outer : List PySem.Env} {s : Shared} {H : Hp} {E : XK} {hr : Room (5 * k + 4) (A.deeper (envOfC "_law_rules" (defScope (top 35)) s.heap.objs.size fA cd))} :
    SB (CsOf (gb P0 w mg base T) k n21 ["hand", "letters", "most", "long", "short"] "_law_rules" (defScope (top 35)) sc21 lk fA cd A outer s H E hr) (defBody (top 35)) f21.body :=
  (sb_cons (ss_set 5 rfl (by first | exact .inl rfl | exact .inr rfl) (sx_lst ses_nil (by decide)) rfl (by first | exact .inl rfl | exact .inr rfl))
  (sb_cons (ss_for (si_rng1 rfl gm.b_range (sas_cons (sx_call (feC fe (f := 14) rfl) takes_body (fun _ _ _ h => callF_len h) rfl (sas_cons (sx_var 0 rfl (by first | exact .inl rfl | exact .inr (.inl rfl) | exact .inr (.inr rfl)) rfl rfl) (sas_cons (sx_add (sx_var 2 rfl (by first | exact .inl rfl | exact .inr (.inl rfl) | exact .inr (.inr rfl)) rfl rfl) sx_int) sas_nil rfl) rfl) rfl rfl rfl) sas_nil rfl) rfl) (stg_name 6 rfl (by first | exact .inl rfl | exact .inr rfl) (by first | exact .inl rfl | exact .inr rfl))
  (sb_cons (ss_set 7 rfl (by first | exact .inl rfl | exact .inr rfl) (sx_add (sx_call (feC fe (f := 15) rfl) takes_body (fun _ _ _ h => callF_len h) rfl (sas_cons (sx_var 0 rfl (by first | exact .inl rfl | exact .inr (.inl rfl) | exact .inr (.inr rfl)) rfl rfl) (sas_cons (sx_var 1 rfl (by first | exact .inl rfl | exact .inr (.inl rfl) | exact .inr (.inr rfl)) rfl rfl) sas_nil rfl) rfl) rfl rfl rfl) (sx_call (feC fe (f := 19) rfl) takes_body (fun _ _ _ h => callF_len h) rfl (sas_cons (sx_var 0 rfl (by first | exact .inl rfl | exact .inr (.inl rfl) | exact .inr (.inr rfl)) rfl rfl) (sas_cons (sx_var 1 rfl (by first | exact .inl rfl | exact .inr (.inl rfl) | exact .inr (.inr rfl)) rfl rfl) (sas_cons (sx_sub (sx_var 3 rfl (by first | exact .inl rfl | exact .inr (.inl rfl) | exact .inr (.inr rfl)) rfl rfl) sx_int) sas_nil rfl) rfl) rfl) rfl rfl rfl)) rfl (by first | exact .inl rfl | exact .inr rfl))
  (sb_cons (ss_set 8 rfl (by first | exact .inl rfl | exact .inr rfl) (sx_call (feC fe (f := 19) rfl) takes_body (fun _ _ _ h => callF_len h) rfl (sas_cons (sx_var 0 rfl (by first | exact .inl rfl | exact .inr (.inl rfl) | exact .inr (.inr rfl)) rfl rfl) (sas_cons (sx_var 1 rfl (by first | exact .inl rfl | exact .inr (.inl rfl) | exact .inr (.inr rfl)) rfl rfl) (sas_cons (sx_var 4 rfl (by first | exact .inl rfl | exact .inr (.inl rfl) | exact .inr (.inr rfl)) rfl rfl) sas_nil rfl) rfl) rfl) rfl rfl rfl) rfl (by first | exact .inl rfl | exact .inr rfl))
  (sb_cons (ss_if (SX.t (sx_bool (sl_and (sx_lt (sx_call (feC fe (f := 20) rfl) takes_body (fun _ _ _ h => callF_len h) rfl (sas_cons (sx_var 8 rfl (by first | exact .inl rfl | exact .inr (.inl rfl) | exact .inr (.inr rfl)) rfl rfl) sas_nil rfl) rfl rfl rfl) (sx_call (feC fe (f := 20) rfl) takes_body (fun _ _ _ h => callF_len h) rfl (sas_cons (sx_var 7 rfl (by first | exact .inl rfl | exact .inr (.inl rfl) | exact .inr (.inr rfl)) rfl rfl) sas_nil rfl) rfl rfl rfl)) (sl_and1 (sx_nin (sx_tup (ses_cons (sx_var 7 rfl (by first | exact .inl rfl | exact .inr (.inl rfl) | exact .inr (.inr rfl)) rfl rfl) (ses_cons (sx_var 8 rfl (by first | exact .inl rfl | exact .inr (.inl rfl) | exact .inr (.inr rfl)) rfl rfl) ses_nil rfl) rfl) (by decide)) (sx_var 5 rfl (by first | exact .inl rfl | exact .inr (.inl rfl) | exact .inr (.inr rfl)) rfl rfl) (by with_unfolding_all rfl)))) rfl))
  (sb_cons (ss_exp (sx_append (i := 5) rfl (by first | exact .inl rfl | exact .inr (.inl rfl) | exact .inr (.inr rfl)) rfl rfl (ses_cons (sx_tup (ses_cons (sx_var 7 rfl (by first | exact .inl rfl | exact .inr (.inl rfl) | exact .inr (.inr rfl)) rfl rfl) (ses_cons (sx_var 8 rfl (by first | exact .inl rfl | exact .inr (.inl rfl) | exact .inr (.inr rfl)) rfl rfl) ses_nil rfl) rfl) (by decide)) ses_nil rfl) rfl rfl rfl) rfl)
  sb_nil)
  sb_nil)
  sb_nil))) (fun _ => rfl))
  (sb_cons (ss_ret (sx_biT bi_tuple rfl gm.b_tuple rfl (sas_cons (sx_bi bi_sorted rfl gm.b_sorted rfl (sas_cons (sx_var 5 rfl (by first | exact .inl rfl | exact .inr (.inl rfl) | exact .inr (.inr rfl)) rfl rfl) sas_nil rfl) (by decide) rfl rfl rfl) sas_nil rfl) (by decide) rfl rfl rfl))
  sb_nil)))
/- _law_stepped -/
def n22 : List PySem.Str := ["rules", "word", "found", "spot", "some", "one", "other"]
theorem sc22 : FnScope n22 ["rules", "word"] (defScope (top 36)) := ⟨rfl, rfl, rfl, by decide +kernel, rfl, by decide +kernel, by decide +kernel⟩
theorem d22 {P0 : Program} {w : World} {mg : PySem.Str → Option Value} {base : Heap} {T : Kt} (gm : Gm mg T) {k : Nat} (fe : FnAll (gb P0 w mg base T) fnames k) {lk : List Nat} {fA : Addr} {cd : Value} {A : Around} {outer : List PySem.Env} {s : Shared} {H : Hp} {E : XK} {hr : Room (5 * k + 4) (A.deeper (envOfC "_law_stepped" (defScope (top 36)) s.heap.objs.size fA cd))} :
    SB (CsOf (gb P0 w mg base T) k n22 ["rules", "word"] "_law_stepped" (defScope (top 36)) sc22 lk fA cd A outer s H E hr) (defBody (top 36)) f22.body :=
  (sb_cons (ss_set 2 rfl (by first | exact .inl rfl | exact .inr rfl) (sx_lst ses_nil (by decide)) rfl (by first | exact .inl rfl | exact .inr rfl))
  (sb_cons (ss_for (si_rng1 rfl gm.b_range (sas_cons (sx_bi bi_len rfl gm.b_len rfl (sas_cons (sx_var 1 rfl (by first | exact .inl rfl | exact .inr (.inl rfl) | exact .inr (.inr rfl)) rfl rfl) sas_nil rfl) (by decide) rfl rfl rfl) sas_nil rfl) rfl) (stg_name 3 rfl (by first | exact .inl rfl | exact .inr rfl) (by first | exact .inl rfl | exact .inr rfl))
  (sb_cons (ss_setC 4 rfl rfl (by with_unfolding_all rfl) (own := [("one", 5), ("other", 6)]) (show BlkOk n22 (defScope (top 36)) _ _ from ⟨rfl, by decide +kernel, by decide +kernel, by decide +kernel, by decide +kernel⟩) rfl (by decide) (si_ex (sx_var 0 rfl (by first | exact .inl rfl | exact .inr (.inl rfl) | exact .inr (.inr rfl)) rfl rfl)) (fun _ _ _ _ _ => (stg_tup (sts_cons 5 rfl (by first | exact .inl rfl | exact .inr rfl) (by first | exact .inl rfl | exact .inr rfl) (sts_cons 6 rfl (by first | exact .inl rfl | exact .inr rfl) (by first | exact .inl rfl | exact .inr rfl) sts_nil rfl) rfl) rfl rfl)) (fun _ _ _ _ _ => (sts_one (SX.t (sx_eq (sx_slc (sx_var 1 rfl (by first | exact .inl rfl | exact .inr (.inl rfl) | exact .inr (.inr rfl)) rfl rfl) (sp_some (sx_var 3 rfl (by first | exact .inl rfl | exact .inr (.inl rfl) | exact .inr (.inr rfl)) rfl rfl) fun _ => rfl) (sp_some (sx_add (sx_var 3 rfl (by first | exact .inl rfl | exact .inr (.inl rfl) | exact .inr (.inr rfl)) rfl rfl) (sx_bi bi_len rfl gm.b_len rfl (sas_cons (sx_var 5 rfl (by first | exact .inl rfl | exact .inr (.inl rfl) | exact .inr (.inr rfl)) rfl rfl) sas_nil rfl) (by decide) rfl rfl rfl)) fun _ => rfl)) (sx_var 5 rfl (by first | exact .inl rfl | exact .inr (.inl rfl) | exact .inr (.inr rfl)) rfl rfl))))) (fun _ _ _ _ _ => (sx_tup (ses_cons (sx_var 5 rfl (by first | exact .inl rfl | exact .inr (.inl rfl) | exact .inr (.inr rfl)) rfl rfl) (ses_cons (sx_var 6 rfl (by first | exact .inl rfl | exact .inr (.inl rfl) | exact .inr (.inr rfl)) rfl rfl) ses_nil rfl) rfl) (by decide))) (fun _ => rfl))
  (sb_cons (ss_exp (sx_extend (i := 2) rfl (by first | exact .inl rfl | exact .inr (.inl rfl) | exact .inr (.inr rfl)) rfl rfl (ses_cons (sx_comp (own := [("one", 5), ("other", 6)]) (show BlkOk n22 (defScope (top 36)) _ _ from ⟨rfl, by decide +kernel, by decide +kernel, by decide +kernel, by decide +kernel⟩) rfl (by decide) (si_ex (sx_var 4 rfl (by first | exact .inl rfl | exact .inr (.inl rfl) | exact .inr (.inr rfl)) rfl rfl)) (fun _ _ _ _ _ => (stg_tup (sts_cons 5 rfl (by first | exact .inl rfl | exact .inr rfl) (by first | exact .inl rfl | exact .inr rfl) (sts_cons 6 rfl (by first | exact .inl rfl | exact .inr rfl) (by first | exact .inl rfl | exact .inr rfl) sts_nil rfl) rfl) rfl rfl)) (fun _ _ _ _ _ => sts_none) (fun _ _ _ _ _ => (sx_add (sx_add (sx_slc (sx_var 1 rfl (by first | exact .inl rfl | exact .inr (.inl rfl) | exact .inr (.inr rfl)) rfl rfl) sp_none (sp_some (sx_var 3 rfl (by first | exact .inl rfl | exact .inr (.inl rfl) | exact .inr (.inr rfl)) rfl rfl) fun _ => rfl)) (sx_var 6 rfl (by first | exact .inl rfl | exact .inr (.inl rfl) | exact .inr (.inr rfl)) rfl rfl)) (sx_slc (sx_var 1 rfl (by first | exact .inl rfl | exact .inr (.inl rfl) | exact .inr (.inr rfl)) rfl rfl) (sp_some (sx_add (sx_var 3 rfl (by first | exact .inl rfl | exact .inr (.inl rfl) | exact .inr (.inr rfl)) rfl rfl) (sx_bi bi_len rfl gm.b_len rfl (sas_cons (sx_var 5 rfl (by first | exact .inl rfl | exact .inr (.inl rfl) | exact .inr (.inr rfl)) rfl rfl) sas_nil rfl) (by decide) rfl rfl rfl)) fun _ => rfl) sp_none))) (fun _ => rfl)) ses_nil rfl) rfl rfl rfl) rfl)
  sb_nil)) (fun _ => rfl))
  (sb_cons (ss_retm 2 rfl (by first | exact .inl rfl | exact .inr (.inl rfl) | exact .inr (.inr rfl)) rfl rfl)
  sb_nil)))
/- _law_last -/
def n23 : List PySem.Str := ["rules", "word", "here", "later"]
theorem sc23 : FnScope n23 ["rules", "word"] (defScope (top 37)) := ⟨rfl, rfl, rfl, by decide +kernel, rfl, by decide +kernel, by decide +kernel⟩
theorem d23 {P0 : Program} {w : World} {mg : PySem.Str → Option Value} {base : Heap} {T : Kt} (gm : Gm mg T) {k : Nat} (fe : FnAll (gb P0 w mg base T) fnames k) {lk : List Nat} {fA : Addr} {cd : Value} {A : Around} {outer : List PySem.Env} {s : Shared} {H : Hp} {E : XK} {hr : Room (5 * k + 4) (A.deeper (envOfC "_law_last" (defScope (top 37)) s.heap.objs.size fA cd))} :
    SB (CsOf (gb P0 w mg base T) k n23 ["rules", "word"] "_law_last" (defScope (top 37)) sc23 lk fA cd A outer s H E hr) (defBody (top 37)) f23.body :=
  (sb_cons (ss_par2 2 3 rfl rfl (by decide) rfl rfl (svs_cons (sx_var 1 rfl (by first | exact .inl rfl | exact .inr (.inl rfl) | exact .inr (.inr rfl)) rfl rfl) (svs_cons (sx_call (feC fe (f := 22) rfl) takes_body (fun _ _ _ h => callF_len h) rfl (sas_cons (sx_var 0 rfl (by first | exact .inl rfl | exact .inr (.inl rfl) | exact .inr (.inr rfl)) rfl rfl) (sas_cons (sx_var 1 rfl (by first | exact .inl rfl | exact .inr (.inl rfl) | exact .inr (.inr rfl)) rfl rfl) sas_nil rfl) rfl) rfl rfl rfl) svs_nil rfl) rfl) (by with_unfolding_all rfl) rfl)
  (sb_cons (ss_while (SX.t (sx_ne (sx_var 3 rfl (by first | exact .inl rfl | exact .inr (.inl rfl) | exact .inr (.inr rfl)) rfl rfl) (sx_lst ses_nil (by decide))))
  (sb_cons (ss_set 2 rfl (by first | exact .inl rfl | exact .inr rfl) (sx_idx (sx_var 3 rfl (by first | exact .inl rfl | exact .inr (.inl rfl) | exact .inr (.inr rfl)) rfl rfl) sx_int (fun _ _ => rfl)) rfl (by first | exact .inl rfl | exact .inr rfl))
  (sb_cons (ss_set 3 rfl (by first | exact .inl rfl | exact .inr rfl) (sx_call (feC fe (f := 22) rfl) takes_body (fun _ _ _ h => callF_len h) rfl (sas_cons (sx_var 0 rfl (by first | exact .inl rfl | exact .inr (.inl rfl) | exact .inr (.inr rfl)) rfl rfl) (sas_cons (sx_var 2 rfl (by first | exact .inl rfl | exact .inr (.inl rfl) | exact .inr (.inr rfl)) rfl rfl) sas_nil rfl) rfl) rfl rfl rfl) rfl (by first | exact .inl rfl | exact .inr rfl))
  sb_nil)))
  (sb_cons (ss_retm 2 rfl (by first | exact .inl rfl | exact .inr (.inl rfl) | exact .inr (.inr rfl)) rfl rfl)
  sb_nil)))
/- _law_all_behind -/
def n24 : List PySem.Str := ["rules", "word", "found", "front", "later"]
theorem sc24 : FnScope n24 ["rules", "word"] (defScope (top 38)) := ⟨rfl, rfl, rfl, by decide +kernel, rfl, by decide +kernel, by decide +kernel⟩
theorem d24 {P0 : Program} {w : World} {mg : PySem.Str → Option Value} {base : Heap} {T : Kt} (gm : Gm mg T) {k : Nat} (fe : FnAll (gb P0 w mg base T) fnames k) {lk : List Nat} {fA : Addr} {cd : Value} {A : Around} {outer : List PySem.Env} {s : Shared} {H : Hp} {E : XK} {hr : Room (5 * k + 4) (A.deeper (envOfC "_law_all_behind" (defScope (top 38)) s.heap.objs.size fA cd))} :
    SB (CsOf (gb P0 w mg base T) k n24 ["rules", "word"] "_law_all_behind" (defScope (top 38)) sc24 lk fA cd A outer s H E hr) (defBody (top 38)) f24.body :=
  (sb_cons (ss_par2 2 3 rfl rfl (by decide) rfl rfl (svs_cons (sx_dct1 (sx_var 1 rfl (by first | exact .inl rfl | exact .inr (.inl rfl) | exact .inr (.inr rfl)) rfl rfl) sx_bl) (svs_cons (sx_lst (ses_cons (sx_var 1 rfl (by first | exact .inl rfl | exact .inr (.inl rfl) | exact .inr (.inr rfl)) rfl rfl) ses_nil rfl) (by decide)) svs_nil rfl) rfl) (by with_unfolding_all rfl) rfl)
  (sb_cons (ss_while (SX.t (sx_ne (sx_var 3 rfl (by first | exact .inl rfl | exact .inr (.inl rfl) | exact .inr (.inr rfl)) rfl rfl) (sx_lst ses_nil (by decide))))
  (sb_cons (ss_for (si_ex (sx_call (feC fe (f := 22) rfl) takes_body (fun _ _ _ h => callF_len h) rfl (sas_cons (sx_var 0 rfl (by first | exact .inl rfl | exact .inr (.inl rfl) | exact .inr (.inr rfl)) rfl rfl) (sas_cons (sx_pop (i := 3) rfl (by first | exact .inl rfl | exact .inr (.inl rfl) | exact .inr (.inr rfl)) rfl rfl rfl) sas_nil rfl) rfl) rfl rfl rfl)) (stg_name 4 rfl (by first | exact .inl rfl | exact .inr rfl) (by first | exact .inl rfl | exact .inr rfl))
  (sb_cons (ss_if (SX.t (sx_nin (sx_var 4 rfl (by first | exact .inl rfl | exact .inr (.inl rfl) | exact .inr (.inr rfl)) rfl rfl) (sx_var 2 rfl (by first | exact .inl rfl | exact .inr (.inl rfl) | exact .inr (.inr rfl)) rfl rfl) (by with_unfolding_all rfl)))
  (sb_cons (ss_seti 2 rfl (by first | exact .inl rfl | exact .inr (.inl rfl) | exact .inr (.inr rfl)) rfl rfl (sx_var 4 rfl (by first | exact .inl rfl | exact .inr (.inl rfl) | exact .inr (.inr rfl)) rfl rfl) sx_bl rfl)
  (sb_cons (ss_exp (sx_append (i := 3) rfl (by first | exact .inl rfl | exact .inr (.inl rfl) | exact .inr (.inr rfl)) rfl rfl (ses_cons (sx_var 4 rfl (by first | exact .inl rfl | exact .inr (.inl rfl) | exact .inr (.inr rfl)) rfl rfl) ses_nil rfl) rfl rfl rfl) rfl)
  sb_nil))
  sb_nil)
  sb_nil) (fun _ => rfl))
  sb_nil))
  (sb_cons (ss_retm 2 rfl (by first | exact .inl rfl | exact .inr (.inl rfl) | exact .inr (.inr rfl)) rfl rfl)
  sb_nil)))
/- _law_ends -/
def n25 : List PySem.Str := ["rules", "word", "some", "here", "size"]
theorem sc25 : FnScope n25 ["rules", "word"] (defScope (top 39)) := ⟨rfl, rfl, rfl, by decide +kernel, rfl, by decide +kernel, by decide +kernel⟩
theorem d25 {P0 : Program} {w : World} {mg : PySem.Str → Option Value} {base : Heap} {T : Kt} (gm : Gm mg T) {k : Nat} (fe : FnAll (gb P0 w mg base T) fnames k) {lk : List Nat} {fA : Addr} {cd : Value} {A : Around} {outer : List PySem.Env} {s : Shared} {H : Hp} {E : XK} {hr : Room (5 * k + 4) (A.deeper (envOfC "_law_ends" (defScope (top 39)) s.heap.objs.size fA cd))} :
    SB (CsOf (gb P0 w mg base T) k n25 ["rules", "word"] "_law_ends" (defScope (top 39)) sc25 lk fA cd A outer s H E hr) (defBody (top 39)) f25.body :=
  (sb_cons (ss_setC 2 rfl rfl (by with_unfolding_all rfl) (own := [("here", 3)]) (show BlkOk n25 (defScope (top 39)) _ _ from ⟨rfl, by decide +kernel, by decide +kernel, by decide +kernel, by decide +kernel⟩) rfl (by decide) (si_keys (sx_call (feC fe (f := 24) rfl) takes_body (fun _ _ _ h => callF_len h) rfl (sas_cons (sx_var 0 rfl (by first | exact .inl rfl | exact .inr (.inl rfl) | exact .inr (.inr rfl)) rfl rfl) (sas_cons (sx_var 1 rfl (by first | exact .inl rfl | exact .inr (.inl rfl) | exact .inr (.inr rfl)) rfl rfl) sas_nil rfl) rfl) rfl rfl rfl)) (fun _ _ _ _ _ => (stg_name 3 rfl (by first | exact .inl rfl | exact .inr rfl) (by first | exact .inl rfl | exact .inr rfl))) (fun _ _ _ _ _ => (sts_one (SX.t (sx_eq (sx_call (FnE.blk (feC fe (f := 22) rfl)) Dp.takes0 (fun _ _ _ h => callF_len h) rfl (sas_cons (sx_var 0 rfl (by first | exact .inl rfl | exact .inr (.inl rfl) | exact .inr (.inr rfl)) rfl rfl) (sas_cons (sx_var 3 rfl (by first | exact .inl rfl | exact .inr (.inl rfl) | exact .inr (.inr rfl)) rfl rfl) sas_nil rfl) rfl) rfl rfl rfl) (sx_lst ses_nil (by decide)))))) (fun _ _ _ _ _ => (sx_var 3 rfl (by first | exact .inl rfl | exact .inr (.inl rfl) | exact .inr (.inr rfl)) rfl rfl)) (fun _ => rfl))
  (sb_cons (ss_ret (sx_comp (own := [("size", 4), ("word", 1)]) (show BlkOk n25 (defScope (top 39)) _ _ from ⟨rfl, by decide +kernel, by decide +kernel, by decide +kernel, by decide +kernel⟩) rfl (by decide) (si_ex (sx_bi bi_sorted rfl gm.b_sorted rfl (sas_cons (sx_comp (own := [("here", 3)]) (show BlkOk n25 (defScope (top 39)) _ _ from ⟨rfl, by decide +kernel, by decide +kernel, by decide +kernel, by decide +kernel⟩) rfl (by decide) (si_ex (sx_var 2 rfl (by first | exact .inl rfl | exact .inr (.inl rfl) | exact .inr (.inr rfl)) rfl rfl)) (fun _ _ _ _ _ => (stg_name 3 rfl (by first | exact .inl rfl | exact .inr rfl) (by first | exact .inl rfl | exact .inr rfl))) (fun _ _ _ _ _ => sts_none) (fun _ _ _ _ _ => (sx_call (FnE.blk (feC fe (f := 20) rfl)) Dp.takes0 (fun _ _ _ h => callF_len h) rfl (sas_cons (sx_var 3 rfl (by first | exact .inl rfl | exact .inr (.inl rfl) | exact .inr (.inr rfl)) rfl rfl) sas_nil rfl) rfl rfl rfl)) (fun _ => rfl)) sas_nil rfl) (by decide) rfl rfl rfl)) (fun _ _ _ _ _ => (stg_tup (sts_cons 4 rfl (by first | exact .inl rfl | exact .inr rfl) (by first | exact .inl rfl | exact .inr rfl) (sts_cons 1 rfl (by first | exact .inl rfl | exact .inr rfl) (by first | exact .inl rfl | exact .inr rfl) sts_nil rfl) rfl) rfl rfl)) (fun _ _ _ _ _ => sts_none) (fun _ _ _ _ _ => (sx_var 1 rfl (by first | exact .inl rfl | exact .inr (.inl rfl) | exact .inr (.inr rfl)) rfl rfl)) (fun _ => rfl)))
  sb_nil))
/- _law_no_rules -/
def n27 : List PySem.Str := ["hand", "rules", "some"]
theorem sc27 : FnScope n27 ["hand", "rules"] (defScope (top 41)) := ⟨rfl, rfl, rfl, by decide +kernel, rfl, by decide +kernel, by decide +kernel⟩
theorem d27 {P0 : Program} {w : World} {mg : PySem.Str → Option Value} {base : Heap} {T : Kt} (gm : Gm mg T) {k : Nat} (fe : FnAll (gb P0 w mg base T) fnames k) {lk : List Nat} {fA : Addr} {cd : Value} {A : Around} {outer : List PySem.Env} {s : Shared} {H : Hp} {E : XK} {hr : Room (5 * k + 4) (A.deeper (envOfC "_law_no_rules" (defScope (top 41)) s.heap.objs.size fA cd))} :
    SB (CsOf (gb P0 w mg base T) k n27 ["hand", "rules"] "_law_no_rules" (defScope (top 41)) sc27 lk fA cd A outer s H E hr) (defBody (top 41)) f27.body :=
  (sb_cons (ss_set 2 rfl (by first | exact .inl rfl | exact .inr rfl) (sx_lst (ses_cons sx_non (ses_cons sx_int (ses_cons (sx_biT bi_list rfl gm.b_list rfl (sas_cons (sx_var 1 rfl (by first | exact .inl rfl | exact .inr (.inl rfl) | exact .inr (.inr rfl)) rfl rfl) sas_nil rfl) (by decide) rfl rfl rfl) (ses_cons (sx_tup (ses_cons (sx_tup (ses_cons (sx_str rfl (by decide) (by decide)) (ses_cons (sx_str rfl (by decide) (by decide)) ses_nil rfl) rfl) (by decide)) ses_nil rfl) (by decide)) (ses_cons (sx_tup (ses_cons (sx_tup (ses_cons (sx_str rfl (by decide) (by decide)) (ses_cons (sx_str rfl (by decide) (by decide)) ses_nil rfl) rfl) (by decide)) ses_nil rfl) (by decide)) (ses_cons (sx_tup (ses_cons (sx_tup (ses_cons (sx_str rfl (by decide) (by decide)) (ses_cons (sx_str rfl (by decide) (by decide)) ses_nil rfl) rfl) (by decide)) ses_nil rfl) (by decide)) (ses_cons (sx_tup (ses_cons (sx_tup (ses_cons (sx_str rfl (by decide) (by decide)) (ses_cons (sx_str rfl (by decide) (by decide)) ses_nil rfl) rfl) (by decide)) ses_nil rfl) (by decide)) (ses_cons sx_dct0 ses_nil rfl) rfl) rfl) rfl) rfl) rfl) rfl) rfl) (by decide)) rfl (by first | exact .inl rfl | exact .inr rfl))
  (sb_cons (ss_set 2 rfl (by first | exact .inl rfl | exact .inr rfl) (sx_add (sx_var 2 rfl (by first | exact .inl rfl | exact .inr (.inl rfl) | exact .inr (.inr rfl)) rfl rfl) (sx_lst (ses_cons (sx_tup (ses_cons (sx_tup (ses_cons (sx_str rfl (by decide) (by decide)) (ses_cons (sx_str rfl (by decide) (by decide)) ses_nil rfl) rfl) (by decide)) (ses_cons (sx_tup (ses_cons (sx_str rfl (by decide) (by decide)) (ses_cons (sx_str rfl (by decide) (by decide)) ses_nil rfl) rfl) (by decide)) ses_nil rfl) rfl) (by decide)) (ses_cons (sx_tup (ses_cons (sx_tup (ses_cons (sx_str rfl (by decide) (by decide)) (ses_cons (sx_str rfl (by decide) (by decide)) ses_nil rfl) rfl) (by decide)) ses_nil rfl) (by decide)) (ses_cons (sx_tup (ses_cons (sx_tup (ses_cons (sx_str rfl (by decide) (by decide)) ses_nil rfl) (by decide)) ses_nil rfl) (by decide)) (ses_cons (sx_tup (ses_cons (sx_lst (ses_cons (sx_str rfl (by decide) (by decide)) (ses_cons (sx_str rfl (by decide) (by decide)) ses_nil rfl) rfl) (by decide)) ses_nil rfl) (by decide)) (ses_cons (sx_tup (ses_cons (sx_tup (ses_cons (sx_str rfl (by decide) (by decide)) (ses_cons sx_non ses_nil rfl) rfl) (by decide)) ses_nil rfl) (by decide)) (ses_cons (sx_tup (ses_cons (sx_tup (ses_cons (sx_str rfl (by decide) (by decide)) (ses_cons (sx_str rfl (by decide) (by decide)) ses_nil rfl) rfl) (by decide)) ses_nil rfl) (by decide)) ses_nil rfl) rfl) rfl) rfl) rfl) rfl) (by decide))) rfl (by first | exact .inl rfl | exact .inr rfl))
  (sb_cons (ss_exp (sx_append (i := 2) rfl (by first | exact .inl rfl | exact .inr (.inl rfl) | exact .inr (.inr rfl)) rfl rfl (ses_cons (sx_tup (ses_cons (sx_tup (ses_cons (sx_str rfl (by decide) (by decide)) (ses_cons (sx_str rfl (by decide) (by decide)) ses_nil rfl) rfl) (by decide)) (ses_cons (sx_tup (ses_cons (sx_str rfl (by decide) (by decide)) (ses_cons (sx_str rfl (by decide) (by decide)) ses_nil rfl) rfl) (by decide)) ses_nil rfl) rfl) (by decide)) ses_nil rfl) rfl rfl rfl) rfl)
  (sb_cons (ss_ret (sx_call (feC fe (f := 15) rfl) takes_body (fun _ _ _ h => callF_len h) rfl (sas_cons (sx_var 0 rfl (by first | exact .inl rfl | exact .inr (.inl rfl) | exact .inr (.inr rfl)) rfl rfl) (sas_cons (sx_add (sx_var 2 rfl (by first | exact .inl rfl | exact .inr (.inl rfl) | exact .inr (.inr rfl)) rfl rfl) (sx_lst (ses_cons (sx_tup (ses_cons (sx_str rfl (by decide) (by decide)) (ses_cons (sx_str rfl (by decide) (by decide)) ses_nil rfl) rfl) (by decide)) (ses_cons (sx_str rfl (by decide) (by decide)) (ses_cons (sx_call (feC fe (f := 18) rfl) takes_body (fun _ _ _ h => callF_len h) rfl (sas_cons (sx_var 0 rfl (by first | exact .inl rfl | exact .inr (.inl rfl) | exact .inr (.inr rfl)) rfl rfl) sas_nil rfl) rfl rfl rfl) ses_nil rfl) rfl) rfl) (by decide))) sas_nil rfl) rfl) rfl rfl rfl))
  sb_nil))))
/- _law_are_refused -/
def n28 : List PySem.Str := ["hand", "rules", "letters", "bad", "word", "words", "asked"]
theorem sc28 : FnScope n28 ["hand"] (defScope (top 42)) := ⟨rfl, rfl, rfl, by decide +kernel, rfl, by decide +kernel, by decide +kernel⟩
theorem d28 {P0 : Program} {w : World} {mg : PySem.Str → Option Value} {base : Heap} {T : Kt} (gm : Gm mg T) {k : Nat} (fe : FnAll (gb P0 w mg base T) fnames k) {lk : List Nat} {fA : Addr} {cd : Value} (rf : RefG (gb P0 w mg base T) "_law_refusal" "asked" nR stR tabR) (tbR : TbAt (gb P0 w mg base T) cd "_law_are_refused.<locals>.<lambda>") {A : Around} {outer : List PySem.Env} {s : Shared} {H : Hp} {E : XK} {hr : Room (5 * k + 4) (A.deeper (envOfC "_law_are_refused" (defScope (top 42)) s.heap.objs.size fA cd))} :
    SB (CsOf (gb P0 w mg base T) k n28 ["hand"] "_law_are_refused" (defScope (top 42)) sc28 lk fA cd A outer s H E hr) (defBody (top 42)) f28.body :=
  (sb_cons (ss_set 1 rfl (by first | exact .inl rfl | exact .inr rfl) (sx_tup (ses_cons (sx_tup (ses_cons (sx_str rfl (by decide) (by decide)) (ses_cons (sx_str rfl (by decide) (by decide)) ses_nil rfl) rfl) (by decide)) (ses_cons (sx_tup (ses_cons (sx_str rfl (by decide) (by decide)) (ses_cons (sx_str rfl (by decide) (by decide)) ses_nil rfl) rfl) (by decide)) ses_nil rfl) rfl) (by decide)) rfl (by first | exact .inl rfl | exact .inr rfl))
  (sb_cons (ss_set 2 rfl (by first | exact .inl rfl | exact .inr rfl) (sx_call (feC fe (f := 15) rfl) takes_body (fun _ _ _ h => callF_len h) rfl (sas_cons (sx_var 0 rfl (by first | exact .inl rfl | exact .inr (.inl rfl) | exact .inr (.inr rfl)) rfl rfl) (sas_cons (sx_lst (ses_cons sx_non (ses_cons sx_int (ses_cons (sx_str rfl (by decide) (by decide)) (ses_cons (sx_str rfl (by decide) (by decide)) (ses_cons (sx_str rfl (by decide) (by decide)) (ses_cons (sx_str rfl (by decide) (by decide)) (ses_cons (sx_tup (ses_cons (sx_str rfl (by decide) (by decide)) ses_nil rfl) (by decide)) (ses_cons sx_dct0 (ses_cons (sx_str rfl (by decide) (by decide)) (ses_cons (sx_call (feC fe (f := 18) rfl) takes_body (fun _ _ _ h => callF_len h) rfl (sas_cons (sx_var 0 rfl (by first | exact .inl rfl | exact .inr (.inl rfl) | exact .inr (.inr rfl)) rfl rfl) sas_nil rfl) rfl rfl rfl) ses_nil rfl) rfl) rfl) rfl) rfl) rfl) rfl) rfl) rfl) rfl) (by decide)) sas_nil rfl) rfl) rfl rfl rfl) rfl (by first | exact .inl rfl | exact .inr rfl))
  (sb_cons (ss_set 3 rfl (by first | exact .inl rfl | exact .inr rfl) (sx_call (feC fe (f := 27) rfl) takes_body (fun _ _ _ h => callF_len h) rfl (sas_cons (sx_var 0 rfl (by first | exact .inl rfl | exact .inr (.inl rfl) | exact .inr (.inr rfl)) rfl rfl) (sas_cons (sx_var 1 rfl (by first | exact .inl rfl | exact .inr (.inl rfl) | exact .inr (.inr rfl)) rfl rfl) sas_nil rfl) rfl) rfl rfl rfl) rfl (by first | exact .inl rfl | exact .inr rfl))
  (sb_cons (ss_set 4 rfl (by first | exact .inl rfl | exact .inr rfl) (sx_call (feC fe (f := 15) rfl) takes_body (fun _ _ _ h => callF_len h) rfl (sas_cons (sx_var 0 rfl (by first | exact .inl rfl | exact .inr (.inl rfl) | exact .inr (.inr rfl)) rfl rfl) (sas_cons (sx_lst (ses_cons sx_non (ses_cons sx_int (ses_cons (sx_str rfl (by decide) (by decide)) (ses_cons (sx_mul (sx_str rfl (by decide) (by decide)) sx_int) (ses_cons (sx_tup (ses_cons (sx_str rfl (by decide) (by decide)) ses_nil rfl) (by decide)) (ses_cons (sx_lst (ses_cons (sx_str rfl (by decide) (by decide)) ses_nil rfl) (by decide)) (ses_cons sx_dct0 (ses_cons (sx_str rfl (by decide) (by decide)) (ses_cons (sx_call (feC fe (f := 18) rfl) takes_body (fun _ _ _ h => callF_len h) rfl (sas_cons (sx_var 0 rfl (by first | exact .inl rfl | exact .inr (.inl rfl) | exact .inr (.inr rfl)) rfl rfl) sas_nil rfl) rfl rfl rfl) ses_nil rfl) rfl) rfl) rfl) rfl) rfl) rfl) rfl) rfl) (by decide)) sas_nil rfl) rfl) rfl rfl rfl) rfl (by first | exact .inl rfl | exact .inr rfl))
  (sb_cons (ss_set 5 rfl (by first | exact .inl rfl | exact .inr rfl) (sx_lst ses_nil (by decide)) rfl (by first | exact .inl rfl | exact .inr rfl))
  (sb_cons (ss_for (si_ex (sx_tup (ses_cons (sx_gfn rfl (fe 12 _ rfl).2.1 rfl rfl) (ses_cons (sx_gfn rfl (fe 13 _ rfl).2.1 rfl rfl) ses_nil rfl) rfl) (by decide))) (stg_name 6 rfl (by first | exact .inl rfl | exact .inr rfl) (by first | exact .inl rfl | exact .inr rfl))
  (sb_cons (ss_exp (sx_append (i := 5) rfl (by first | exact .inl rfl | exact .inr (.inl rfl) | exact .inr (.inr rfl)) rfl rfl (ses_cons (sx_refC (Ng := nR) (st := stR) (tab := tabR) rf rfl tbR rfl rfl (lamS_by (by decide +kernel)) rfl (fun _ _ _ _ _ => rfl) (fun A' outer' s' H' E' f c' hr' => (sx_callv 6 rfl (by first | exact .inl rfl | exact .inr (.inl rfl) | exact .inr (.inr rfl)) rfl takes_ref (fesR fe rfl) (fun _ _ _ _ h => callF_len h) (sas_cons (sx_var 2 rfl (by first | exact .inl rfl | exact .inr (.inl rfl) | exact .inr (.inr rfl)) rfl rfl) (sas_cons (sx_var 3 rfl (by first | exact .inl rfl | exact .inr (.inl rfl) | exact .inr (.inr rfl)) rfl rfl) (sas_cons (sx_var 4 rfl (by first | exact .inl rfl | exact .inr (.inl rfl) | exact .inr (.inr rfl)) rfl rfl) sas_nil rfl) rfl) rfl) rfl rfl rfl rfl)) rfl rfl rfl) ses_nil rfl) rfl rfl rfl) rfl)
  (sb_cons (ss_exp (sx_append (i := 5) rfl (by first | exact .inl rfl | exact .inr (.inl rfl) | exact .inr (.inr rfl)) rfl rfl (ses_cons (sx_refC (Ng := nR) (st := stR) (tab := tabR) rf rfl tbR rfl rfl (lamS_by (by decide +kernel)) rfl (fun _ _ _ _ _ => rfl) (fun A' outer' s' H' E' f c' hr' => (sx_callv 6 rfl (by first | exact .inl rfl | exact .inr (.inl rfl) | exact .inr (.inr rfl)) rfl takes_ref (fesR fe rfl) (fun _ _ _ _ h => callF_len h) (sas_cons (sx_str rfl (by decide) (by decide)) (sas_cons (sx_var 3 rfl (by first | exact .inl rfl | exact .inr (.inl rfl) | exact .inr (.inr rfl)) rfl rfl) (sas_cons (sx_var 4 rfl (by first | exact .inl rfl | exact .inr (.inl rfl) | exact .inr (.inr rfl)) rfl rfl) sas_nil rfl) rfl) rfl) rfl rfl rfl rfl)) rfl rfl rfl) ses_nil rfl) rfl rfl rfl) rfl)
  (sb_cons (ss_exp (sx_append (i := 5) rfl (by first | exact .inl rfl | exact .inr (.inl rfl) | exact .inr (.inr rfl)) rfl rfl (ses_cons (sx_refC (Ng := nR) (st := stR) (tab := tabR) rf rfl tbR rfl rfl (lamS_by (by decide +kernel)) rfl (fun _ _ _ _ _ => rfl) (fun A' outer' s' H' E' f c' hr' => (sx_callv 6 rfl (by first | exact .inl rfl | exact .inr (.inl rfl) | exact .inr (.inr rfl)) rfl takes_ref (fesR fe rfl) (fun _ _ _ _ h => callF_len h) (sas_cons (sx_str rfl (by decide) (by decide)) (sas_cons (sx_var 1 rfl (by first | exact .inl rfl | exact .inr (.inl rfl) | exact .inr (.inr rfl)) rfl rfl) (sas_cons (sx_var 4 rfl (by first | exact .inl rfl | exact .inr (.inl rfl) | exact .inr (.inr rfl)) rfl rfl) sas_nil rfl) rfl) rfl) rfl rfl rfl rfl)) rfl rfl rfl) ses_nil rfl) rfl rfl rfl) rfl)
  sb_nil))) (fun _ => rfl))
  (sb_cons (ss_ret (sx_eq (sx_var 5 rfl (by first | exact .inl rfl | exact .inr (.inl rfl) | exact .inr (.inr rfl)) rfl rfl) (sx_mul (sx_lst (ses_cons (sx_str rfl (by decide) (by decide)) (ses_cons (sx_str rfl (by decide) (by decide)) (ses_cons (sx_str rfl (by decide) (by decide)) ses_nil rfl) rfl) rfl) (by decide)) sx_int)))
  sb_nil)))))))
/- _law_is_told_right -/
def n29 : List PySem.Str := ["hand", "letters", "rules", "lap", "word", "due", "came"]
theorem sc29 : FnScope n29 ["hand", "letters"] (defScope (top 43)) := ⟨rfl, rfl, rfl, by decide +kernel, rfl, by decide +kernel, by decide +kernel⟩
theorem d29 {P0 : Program} {w : World} {mg : PySem.Str → Option Value} {base : Heap} {T : Kt} (gm : Gm mg T) {k : Nat} (fe : FnAll (gb P0 w mg base T) fnames k) {lk : List Nat} {fA : Addr} {cd : Value} {A : Around} {outer : List PySem.Env} {s : Shared} {H : Hp} {E : XK} {hr : Room (5 * k + 4) (A.deeper (envOfC "_law_is_told_right" (defScope (top 43)) s.heap.objs.size fA cd))} :
    SB (CsOf (gb P0 w mg base T) k n29 ["hand", "letters"] "_law_is_told_right" (defScope (top 43)) sc29 lk fA cd A outer s H E hr) (defBody (top 43)) f29.body :=
  (sb_cons (ss_set 2 rfl (by first | exact .inl rfl | exact .inr rfl) (sx_call (feC fe (f := 21) rfl) takes_body (fun _ _ _ h => callF_len h) rfl (sas_cons (sx_var 0 rfl (by first | exact .inl rfl | exact .inr (.inl rfl) | exact .inr (.inr rfl)) rfl rfl) (sas_cons (sx_var 1 rfl (by first | exact .inl rfl | exact .inr (.inl rfl) | exact .inr (.inr rfl)) rfl rfl) (sas_cons sx_int (sas_cons sx_int (sas_cons sx_int sas_nil rfl) rfl) rfl) rfl) rfl) rfl rfl rfl) rfl (by first | exact .inl rfl | exact .inr rfl))
  (sb_cons (ss_for (si_rng1 rfl gm.b_range (sas_cons sx_int sas_nil rfl) rfl) (stg_name 3 rfl (by first | exact .inl rfl | exact .inr rfl) (by first | exact .inl rfl | exact .inr rfl))
  (sb_cons (ss_set 4 rfl (by first | exact .inl rfl | exact .inr rfl) (sx_call (feC fe (f := 19) rfl) takes_body (fun _ _ _ h => callF_len h) rfl (sas_cons (sx_var 0 rfl (by first | exact .inl rfl | exact .inr (.inl rfl) | exact .inr (.inr rfl)) rfl rfl) (sas_cons (sx_var 1 rfl (by first | exact .inl rfl | exact .inr (.inl rfl) | exact .inr (.inr rfl)) rfl rfl) (sas_cons sx_int sas_nil rfl) rfl) rfl) rfl rfl rfl) rfl (by first | exact .inl rfl | exact .inr rfl))
  (sb_cons (ss_set 5 rfl (by first | exact .inl rfl | exact .inr rfl) (sx_call (feC fe (f := 23) rfl) takes_body (fun _ _ _ h => callF_len h) rfl (sas_cons (sx_var 2 rfl (by first | exact .inl rfl | exact .inr (.inl rfl) | exact .inr (.inr rfl)) rfl rfl) (sas_cons (sx_var 4 rfl (by first | exact .inl rfl | exact .inr (.inl rfl) | exact .inr (.inr rfl)) rfl rfl) sas_nil rfl) rfl) rfl rfl rfl) rfl (by first | exact .inl rfl | exact .inr rfl))
  (sb_cons (ss_if (st_not (SX.t (sx_call (feC fe (f := 16) rfl) takes_body (fun _ _ _ h => callF_len h) rfl (sas_cons (sx_lst (ses_cons (sx_call (feC fe (f := 12) rfl) takes_body (fun _ _ _ h => callF_len h) rfl (sas_cons (sx_var 1 rfl (by first | exact .inl rfl | exact .inr (.inl rfl) | exact .inr (.inr rfl)) rfl rfl) (sas_cons (sx_var 2 rfl (by first | exact .inl rfl | exact .inr (.inl rfl) | exact .inr (.inr rfl)) rfl rfl) (sas_cons (sx_var 4 rfl (by first | exact .inl rfl | exact .inr (.inl rfl) | exact .inr (.inr rfl)) rfl rfl) sas_nil rfl) rfl) rfl) rfl rfl rfl) (ses_cons (sx_call (feC fe (f := 12) rfl) takes_body (fun _ _ _ h => callF_len h) rfl (sas_cons (sx_var 1 rfl (by first | exact .inl rfl | exact .inr (.inl rfl) | exact .inr (.inr rfl)) rfl rfl) (sas_cons (sx_var 2 rfl (by first | exact .inl rfl | exact .inr (.inl rfl) | exact .inr (.inr rfl)) rfl rfl) (sas_cons (sx_var 5 rfl (by first | exact .inl rfl | exact .inr (.inl rfl) | exact .inr (.inr rfl)) rfl rfl) sas_nil rfl) rfl) rfl) rfl rfl rfl) ses_nil rfl) rfl) (by decide)) (sas_cons (sx_lst (ses_cons (sx_var 5 rfl (by first | exact .inl rfl | exact .inr (.inl rfl) | exact .inr (.inr rfl)) rfl rfl) (ses_cons (sx_var 5 rfl (by first | exact .inl rfl | exact .inr (.inl rfl) | exact .inr (.inr rfl)) rfl rfl) ses_nil rfl) rfl) (by decide)) sas_nil rfl) rfl) rfl rfl rfl)))
  (sb_cons (ss_ret sx_bl)
  sb_nil)
  sb_nil)
  (sb_cons (ss_set 6 rfl (by first | exact .inl rfl | exact .inr rfl) (sx_call (feC fe (f := 13) rfl) takes_body (fun _ _ _ h => callF_len h) rfl (sas_cons (sx_var 1 rfl (by first | exact .inl rfl | exact .inr (.inl rfl) | exact .inr (.inr rfl)) rfl rfl) (sas_cons (sx_var 2 rfl (by first | exact .inl rfl | exact .inr (.inl rfl) | exact .inr (.inr rfl)) rfl rfl) (sas_cons (sx_var 4 rfl (by first | exact .inl rfl | exact .inr (.inl rfl) | exact .inr (.inr rfl)) rfl rfl) sas_nil rfl) rfl) rfl) rfl rfl rfl) rfl (by first | exact .inl rfl | exact .inr rfl))
  (sb_cons (ss_if (SX.t (sx_bool (sl_or (sx_not (sx_call (feC fe (f := 16) rfl) takes_body (fun _ _ _ h => callF_len h) rfl (sas_cons (sx_var 6 rfl (by first | exact .inl rfl | exact .inr (.inl rfl) | exact .inr (.inr rfl)) rfl rfl) (sas_cons (sx_call (feC fe (f := 25) rfl) takes_body (fun _ _ _ h => callF_len h) rfl (sas_cons (sx_var 2 rfl (by first | exact .inl rfl | exact .inr (.inl rfl) | exact .inr (.inr rfl)) rfl rfl) (sas_cons (sx_var 4 rfl (by first | exact .inl rfl | exact .inr (.inl rfl) | exact .inr (.inr rfl)) rfl rfl) sas_nil rfl) rfl) rfl rfl rfl) sas_nil rfl) rfl) rfl rfl rfl) rfl) (sl_or1 (sx_nin (sx_var 5 rfl (by first | exact .inl rfl | exact .inr (.inl rfl) | exact .inr (.inr rfl)) rfl rfl) (sx_var 6 rfl (by first | exact .inl rfl | exact .inr (.inl rfl) | exact .inr (.inr rfl)) rfl rfl) (by with_unfolding_all rfl)))) rfl))
  (sb_cons (ss_ret sx_bl)
  sb_nil)
  sb_nil)
  sb_nil))))) (fun _ => rfl))
  (sb_cons (ss_ret sx_bl)
  sb_nil)))
/- law -/
def n30 : List PySem.Str := ["script", "hand", "known", "letters"]
theorem sc30 : FnScope n30 ["script"] (defScope (top 44)) := ⟨rfl, rfl, rfl, by decide +kernel, rfl, by decide +kernel, by decide +kernel⟩
theorem d30 {P0 : Program} {w : World} {mg : PySem.Str → Option Value} {base : Heap} {T : Kt} (gm : Gm mg T) {k : Nat} (fe : FnAll (gb P0 w mg base T) fnames k) {lk : List Nat} {fA : Addr} {cd : Value} {A : Around} {outer : List PySem.Env} {s : Shared} {H : Hp} {E : XK} {hr : Room (5 * k + 4) (A.deeper (envOfC "law" (defScope (top 44)) s.heap.objs.size fA cd))} :
    SB (CsOf (gb P0 w mg base T) k n30 ["script"] "law" (defScope (top 44)) sc30 lk fA cd A outer s H E hr) (defBody (top 44)) f30.body :=
  (sb_cons (ss_set 1 rfl (by first | exact .inl rfl | exact .inr rfl) (sx_call (feC fe (f := 17) rfl) takes_body (fun _ _ _ h => callF_len h) rfl (sas_cons (sx_var 0 rfl (by first | exact .inl rfl | exact .inr (.inl rfl) | exact .inr (.inr rfl)) rfl rfl) sas_nil rfl) rfl rfl rfl) rfl (by first | exact .inl rfl | exact .inr rfl))
  (sb_cons (ss_set 2 rfl (by first | exact .inl rfl | exact .inr rfl) (sx_lst (ses_cons (sx_call (feC fe (f := 12) rfl) takes_body (fun _ _ _ h => callF_len h) rfl (sas_cons (sx_str rfl (by decide) (by decide)) (sas_cons (sx_tup (ses_cons (sx_tup (ses_cons (sx_str rfl (by decide) (by decide)) (ses_cons (sx_str rfl (by decide) (by decide)) ses_nil rfl) rfl) (by decide)) ses_nil rfl) (by decide)) (sas_cons (sx_str rfl (by decide) (by decide)) sas_nil rfl) rfl) rfl) rfl rfl rfl) (ses_cons (sx_call (feC fe (f := 12) rfl) takes_body (fun _ _ _ h => callF_len h) rfl (sas_cons (sx_str rfl (by decide) (by decide)) (sas_cons (sx_tup ses_nil (by decide)) (sas_cons (sx_str rfl (by decide) (by decide)) sas_nil rfl) rfl) rfl) rfl rfl rfl) ses_nil rfl) rfl) (by decide)) rfl (by first | exact .inl rfl | exact .inr rfl))
  (sb_cons (ss_exp (sx_append (i := 2) rfl (by first | exact .inl rfl | exact .inr (.inl rfl) | exact .inr (.inr rfl)) rfl rfl (ses_cons (sx_call (feC fe (f := 13) rfl) takes_body (fun _ _ _ h => callF_len h) rfl (sas_cons (sx_str rfl (by decide) (by decide)) (sas_cons (sx_tup (ses_cons (sx_tup (ses_cons (sx_str rfl (by decide) (by decide)) (ses_cons (sx_str rfl (by decide) (by decide)) ses_nil rfl) rfl) (by decide)) (ses_cons (sx_tup (ses_cons (sx_str rfl (by decide) (by decide)) (ses_cons (sx_str rfl (by decide) (by decide)) ses_nil rfl) rfl) (by decide)) ses_nil rfl) rfl) (by decide)) (sas_cons (sx_str rfl (by decide) (by decide)) sas_nil rfl) rfl) rfl) rfl rfl rfl) ses_nil rfl) rfl rfl rfl) rfl)
  (sb_cons (ss_exp (sx_append (i := 2) rfl (by first | exact .inl rfl | exact .inr (.inl rfl) | exact .inr (.inr rfl)) rfl rfl (ses_cons (sx_call (feC fe (f := 13) rfl) takes_body (fun _ _ _ h => callF_len h) rfl (sas_cons (sx_str rfl (by decide) (by decide)) (sas_cons (sx_tup (ses_cons (sx_tup (ses_cons (sx_str rfl (by decide) (by decide)) (ses_cons (sx_str rfl (by decide) (by decide)) ses_nil rfl) rfl) (by decide)) (ses_cons (sx_tup (ses_cons (sx_str rfl (by decide) (by decide)) (ses_cons (sx_str rfl (by decide) (by decide)) ses_nil rfl) rfl) (by decide)) ses_nil rfl) rfl) (by decide)) (sas_cons (sx_str rfl (by decide) (by decide)) sas_nil rfl) rfl) rfl) rfl rfl rfl) ses_nil rfl) rfl rfl rfl) rfl)
  (sb_cons (ss_if (st_not (SX.t (sx_call (feC fe (f := 16) rfl) takes_body (fun _ _ _ h => callF_len h) rfl (sas_cons (sx_var 2 rfl (by first | exact .inl rfl | exact .inr (.inl rfl) | exact .inr (.inr rfl)) rfl rfl) (sas_cons (sx_lst (ses_cons (sx_str rfl (by decide) (by decide)) (ses_cons (sx_str rfl (by decide) (by decide)) (ses_cons (sx_lst (ses_cons (sx_str rfl (by decide) (by decide)) ses_nil rfl) (by decide)) (ses_cons (sx_lst (ses_cons (sx_str rfl (by decide) (by decide)) (ses_cons (sx_str rfl (by decide) (by decide)) ses_nil rfl) rfl) (by decide)) ses_nil rfl) rfl) rfl) rfl) (by decide)) sas_nil rfl) rfl) rfl rfl rfl)))
  (sb_cons (ss_ret sx_bl)
  sb_nil)
  sb_nil)
  (sb_cons (ss_ret (sx_bi bi_all rfl gm.b_all rfl (sas_cons (sx_comp (own := [("letters", 3)]) (show BlkOk n30 (defScope (top 44)) _ _ from ⟨rfl, by decide +kernel, by decide +kernel, by decide +kernel, by decide +kernel⟩) rfl (by decide) (si_ex (sx_tup (ses_cons (sx_str rfl (by decide) (by decide)) (ses_cons (sx_str rfl (by decide) (by decide)) (ses_cons (sx_str rfl (by decide) (by decide)) (ses_cons (sx_str rfl (by decide) (by decide)) ses_nil rfl) rfl) rfl) rfl) (by decide))) (fun _ _ _ _ _ => (stg_name 3 rfl (by first | exact .inl rfl | exact .inr rfl) (by first | exact .inl rfl | exact .inr rfl))) (fun _ _ _ _ _ => sts_none) (fun _ _ _ _ _ => (sx_bool (sl_and (sx_call (FnE.blk (feC fe (f := 29) rfl)) Dp.takes0 (fun _ _ _ h => callF_len h) rfl (sas_cons (sx_var 1 rfl (by first | exact .inl rfl | exact .inr (.inl rfl) | exact .inr (.inr rfl)) rfl rfl) (sas_cons (sx_var 3 rfl (by first | exact .inl rfl | exact .inr (.inl rfl) | exact .inr (.inr rfl)) rfl rfl) sas_nil rfl) rfl) rfl rfl rfl) (sl_and1 (sx_call (FnE.blk (feC fe (f := 28) rfl)) Dp.takes0 (fun _ _ _ h => callF_len h) rfl (sas_cons (sx_var 1 rfl (by first | exact .inl rfl | exact .inr (.inl rfl) | exact .inr (.inr rfl)) rfl rfl) sas_nil rfl) rfl rfl rfl))) rfl)) (fun _ => rfl)) sas_nil rfl) (by decide) rfl rfl rfl))
  sb_nil))))))
end Pk90
end
section
set_option Elab.async false
set_option linter.all false
set_option maxRecDepth 100000
set_option maxHeartbeats 0
namespace Pk90
open Dp PySem PySem.Spec PyProof.Rows L2
def hd0 : He.DefD := ⟨("is_tuple", none), "is_tuple", "is_tuple", defArgs (top 9), defBody (top 9), defScope (top 9), [], []⟩
def hd1 : He.DefD := ⟨("is_sized", none), "is_sized", "is_sized", defArgs (top 10), defBody (top 10), defScope (top 10), [], []⟩
def hd2 : He.DefD := ⟨("are_letters", none), "are_letters", "are_letters", defArgs (top 11), defBody (top 11), defScope (top 11), [], []⟩
def hd3 : He.DefD := ⟨("check_letters", none), "check_letters", "check_letters", defArgs (top 12), defBody (top 12), defScope (top 12), [], []⟩
def hd4 : He.DefD := ⟨("is_word_of", none), "is_word_of", "is_word_of", defArgs (top 13), defBody (top 13), defScope (top 13), [], []⟩
def hd5 : He.DefD := ⟨("check_word", none), "check_word", "check_word", defArgs (top 14), defBody (top 14), defScope (top 14), [], []⟩
def hd6 : He.DefD := ⟨("near", none), "near", "near", defArgs (top 15), defBody (top 15), defScope (top 15), [], []⟩
def hd7 : He.DefD := ⟨("is_rule", none), "is_rule", "is_rule", defArgs (top 20), defBody (top 20), defScope (top 20), [], []⟩
def hd8 : He.DefD := ⟨("check_rules", none), "check_rules", "check_rules", defArgs (top 21), defBody (top 21), defScope (top 21), [], []⟩
def hd9 : He.DefD := ⟨("steps_of", none), "steps_of", "steps_of", defArgs (top 22), defBody (top 22), defScope (top 22), [], []⟩
def hd10 : He.DefD := ⟨("done", none), "done", "done", defArgs (top 23), defBody (top 23), defScope (top 23), [], []⟩
def hd11 : He.DefD := ⟨("raw_last", none), "raw_last", "raw_last", defArgs (top 24), defBody (top 24), defScope (top 24), [], []⟩
def hd12 : He.DefD := ⟨("last_of", none), "last_of", "last_of", defArgs (top 25), defBody (top 25), defScope (top 25), [], []⟩
def hd13 : He.DefD := ⟨("comes_to", none), "comes_to", "comes_to", defArgs (top 26), defBody (top 26), defScope (top 26), [], []⟩
def hd14 : He.DefD := ⟨("_law_draw", none), "_law_draw", "_law_draw", defArgs (top 28), defBody (top 28), defScope (top 28), [], []⟩
def hd15 : He.DefD := ⟨("_law_some", none), "_law_some", "_law_some", defArgs (top 29), defBody (top 29), defScope (top 29), [], []⟩
def hd16 : He.DefD := ⟨("_law_is", none), "_law_is", "_law_is", defArgs (top 30), defBody (top 30), defScope (top 30), [], []⟩
def hd17 : He.DefD := ⟨("_law_hand", none), "_law_hand", "_law_hand", defArgs (top 31), defBody (top 31), defScope (top 31), [], []⟩
def hd18 : He.DefD := ⟨("_law_deep", none), "_law_deep", "_law_deep", defArgs (top 32), defBody (top 32), defScope (top 32), [], []⟩
def hd19 : He.DefD := ⟨("_law_drawn_word", none), "_law_drawn_word", "_law_drawn_word", defArgs (top 33), defBody (top 33), defScope (top 33), [], []⟩
def hd20 : He.DefD := ⟨("_law_key", none), "_law_key", "_law_key", defArgs (top 34), defBody (top 34), defScope (top 34), [], []⟩
def hd21 : He.DefD := ⟨("_law_rules", none), "_law_rules", "_law_rules", defArgs (top 35), defBody (top 35), defScope (top 35), [], []⟩
def hd22 : He.DefD := ⟨("_law_stepped", none), "_law_stepped", "_law_stepped", defArgs (top 36), defBody (top 36), defScope (top 36), [], []⟩
def hd23 : He.DefD := ⟨("_law_last", none), "_law_last", "_law_last", defArgs (top 37), defBody (top 37), defScope (top 37), [], []⟩
def hd24 : He.DefD := ⟨("_law_all_behind", none), "_law_all_behind", "_law_all_behind", defArgs (top 38), defBody (top 38), defScope (top 38), [], []⟩
def hd25 : He.DefD := ⟨("_law_ends", none), "_law_ends", "_law_ends", defArgs (top 39), defBody (top 39), defScope (top 39), [], []⟩
def hd26 : He.DefD := ⟨("_law_refusal", none), "_law_refusal", "_law_refusal", defArgs (top 40), defBody (top 40), defScope (top 40), [], []⟩
def hd27 : He.DefD := ⟨("_law_no_rules", none), "_law_no_rules", "_law_no_rules", defArgs (top 41), defBody (top 41), defScope (top 41), [], []⟩
def hd28 : He.DefD := ⟨("_law_are_refused", none), "_law_are_refused", "_law_are_refused", defArgs (top 42), defBody (top 42), defScope (top 42), [], []⟩
def hd29 : He.DefD := ⟨("_law_is_told_right", none), "_law_is_told_right", "_law_is_told_right", defArgs (top 43), defBody (top 43), defScope (top 43), [], []⟩
def hd30 : He.DefD := ⟨("law", none), "law", "law", defArgs (top 44), defBody (top 44), defScope (top 44), [], []⟩
def clBody : Stmt → List Stmt
  | .ClassDef (body := b) .. => b
  | _ => []
def stI : Stmt := (clBody (top 1)).getD 0 (.Pass ⟨0, 0, 0, 0⟩)
def hdI : He.DefD := ⟨("ReaderError", some "__init__"), "__init__", "ReaderError.__init__", defArgs stI, defBody stI, defScope stI, [], []⟩
def hfn0 : List He.DefD := [hd0, hd1, hd2, hd3, hd4, hd5, hd6, hd7, hd8, hd9, hd10, hd11, hd12, hd13, hd14]
def hfn1 : List He.DefD := [hd15, hd16, hd17, hd18, hd19, hd20, hd21, hd22, hd23, hd24, hd25, hd26, hd27, hd28, hd29]
def hfn2 : List He.DefD := [hd30, hdI]
def hfn : List He.DefD := hfn0 ++ hfn1 ++ hfn2
def hfa0 : List He.Fa := [.glo "is_tuple", .glo "is_sized", .glo "are_letters", .glo "check_letters", .glo "is_word_of", .glo "check_word", .glo "near", .glo "is_rule", .glo "check_rules", .glo "steps_of", .glo "done", .glo "raw_last", .glo "last_of", .glo "comes_to", .glo "_law_draw"]
def hfa1 : List He.Fa := [.glo "_law_some", .glo "_law_is", .glo "_law_hand", .glo "_law_deep", .glo "_law_drawn_word", .glo "_law_key", .glo "_law_rules", .glo "_law_stepped", .glo "_law_last", .glo "_law_all_behind", .glo "_law_ends", .glo "_law_refusal", .glo "_law_no_rules", .glo "_law_are_refused", .glo "_law_is_told_right"]
def hfa2 : List He.Fa := [.glo "law", .free "len", .free "isinstance", .free "tuple", .free "str", .free "all", .free "range", .free "enumerate", .free "sorted", .free "int", .free "bool", .free "list", .free "zip", .free "abs", .int "MOST_WORD" 60]
def hfa3 : List He.Fa := [.int "MOST_RULES" 12, .int "MOST_LEFT" 6, .int "MOST_GONE" 2000, .glo "ReaderError", .glo "NoLetters", .glo "NoWord", .glo "NoRules", .exm "NoLetters" "ReaderError" true, .exm "NoWord" "ReaderError" true, .exm "NoRules" "ReaderError" true, .free "isinstance", .free "ValueError"]
def hfa : List He.Fa := hfa0 ++ hfa1 ++ hfa2 ++ hfa3
def htf : List He.Defn := [("comes_to", none), ("_law_are_refused", none)]
def hexl (K : PySem.W.Frag) : List Bool := [tupStrB K "ALPHABETS" ["a", "ab", "abc"],
  tabsNe K htf,
  Dx.oexB K (He.ga K "NoLetters"),
  Dx.excB K (He.ga K "NoLetters"),
  Dx.initB K (He.ga K "NoLetters") (He.fAd K ("ReaderError", some "__init__")),
  Dx.oexB K (He.ga K "NoWord"),
  Dx.excB K (He.ga K "NoWord"),
  Dx.initB K (He.ga K "NoWord") (He.fAd K ("ReaderError", some "__init__")),
  Dx.oexB K (He.ga K "NoRules"),
  Dx.excB K (He.ga K "NoRules"),
  Dx.initB K (He.ga K "NoRules") (He.fAd K ("ReaderError", some "__init__")),
  Dx.kitB K [He.ga K "NoLetters", He.ga K "NoRules", He.ga K "NoWord"]]
def hex (K : PySem.W.Frag) : Bool := (hexl K).all id
abbrev R : PySem.W.OpenRow := PySem.W.OpenLaw.row PySem.Challenge.rw_wordreaders_k90_whole_last_words_of_step
abbrev hk : PySem.W.Hook := He.hookX 5 hfa hfn [] htf hex
def ob (s : PySem.W.SharedT) : He.AlX := He.obsX 5 hfa hfn [] htf hex (HandSHeadRun.getT s)
theorem ob_eq (s : PySem.W.SharedT) : ob s = hk.obs s.abs := He.obsX_eq (HandSHeadRun.getT_eq s)
def loose0 : List PySem.Str := ["ReaderError", "NoWord", "NoLetters", "TooMany", "NoRules", "ALPHABETS", "MOST_WORD", "is_tuple", "is_sized", "are_letters", "check_letters", "is_word_of", "check_word", "near", "MOST_RULES"]
def loose1 : List PySem.Str := ["MOST_LEFT", "MOST_GONE", "is_rule", "check_rules", "steps_of", "done", "raw_last", "last_of", "comes_to", "_law_draw", "_law_some", "_law_is", "_law_hand", "_law_deep", "_law_drawn_word"]
def loose2 : List PySem.Str := ["_law_key", "_law_rules", "_law_stepped", "_law_last", "_law_all_behind", "_law_ends", "_law_refusal", "_law_no_rules", "_law_are_refused", "_law_is_told_right"]
theorem run (w : World) : HandSHeadRun.RunEq R (PySem.W.view R.prog [44]) hk ob 4000 (loose0 ++ loose1 ++ loose2) w := by
  intro os
  kernel_rfl
end Pk90
end
section
set_option Elab.async false
set_option linter.all false
set_option maxRecDepth 100000
set_option maxHeartbeats 4000000
namespace Rf90
open Dp Dx PySem PySem.Spec PyProof.Rows L2 NdefX LamX Dk
def stR : Stmt := PySem.Challenge.pw_wordreaders_k90_whole_last_words_of_step.main.body.getD 40 (.Pass ⟨0, 0, 0, 0⟩)
def nR : List PySem.Str := ["asked", "word", "e", "some", "words"]
theorem scR : FnScope nR ["asked"] (defScope stR) := ⟨rfl, rfl, rfl, by decide +kernel, rfl, by decide +kernel, by decide +kernel⟩
def suiteOf : List Stmt → List Stmt
  | [_, .Try _ [.ExceptHandler _ _ b _] _ _ _, _] => b
  | _ => []
/-- what the head says of the classes; cs: the ones that are asked for -/
structure RefF (K : PySem.W.Frag) (mg : PySem.Str → Option Value) (cR : Addr) (cs : List (PySem.Str × Addr)) : Prop where
  hR : mg "ReaderError" = some (.ref cR)
  hi : mg "isinstance" = none
  hv : mg "ValueError" = none
  hc : ∀ p ∈ cs, mg p.1 = some (.ref p.2) ∧ ExcC K p.2 ∧ PySem.W.exmOne K (.ref p.2) (.ref cR) = some true ∧ PySem.W.kitOne K (.ref p.2) (.type "ValueError") = some true
  kit : ∀ (i j : Nat) (p q : PySem.Str × Addr), cs[i]? = some p → cs[j]? = some q → PySem.W.kitOne K (.ref p.2) (.ref q.2) = some (decide (i = j))
theorem boot_i : bootBuiltins "isinstance" = some (.builtin "isinstance") := by decide +kernel
theorem boot_v : bootBuiltins "ValueError" = some (.type "ValueError") := by decide +kernel
section
variable {X : Cx} {g : Addr} {cdg : Value} {s : Shared} {H0 : Hp}
abbrev cxR (X : Cx) (g : Addr) (cdg : Value) (s : Shared) (H0 : Hp) : Cx := (cxOf C8.CX0 X.prog X.w X.K X.mg X.base nR "_law_refusal" (defScope stR) g cdg X.A X.stack s H0 C8.E0).nox
theorem suite_p {c1 c2 c3 cR a D : Addr} {oe : Obj} {pn : List (Addr × Obj)} (R : RefF X.K X.mg cR [("NoLetters", c1), ("NoRules", c2), ("NoWord", c3)]) (C : ExcC X.K D) (hz : Zc (.ref D) none oe) (hf : ∃ vs, oe.data = .fields vs) :
    ∃ t, PSs ((cxR X g cdg s H0).suite a ((a, oe) :: pn)) (suiteOf (defBody stR)) t ∧
      ∀ (b1 b2 b3 : Bool) (i : Nat) (w : PySem.Str) (Dn : Ends) (σ : L2.St) (H : Hp), PySem.W.kitOne X.K (.ref D) (.ref c1) = some b1 → PySem.W.kitOne X.K (.ref D) (.ref c2) = some b2 → PySem.W.kitOne X.K (.ref D) (.ref c3) = some b3 → PySem.W.kitOne X.K (.ref D) (.type "ValueError") = some true →
        ([V.bl b1, .bl b2, .bl b3].countP fun z => eqV z (.bl true)) = 1 → [V.bl b1, .bl b2, .bl b3][i]? = some (.bl true) → (∀ (m : Nat) (z' : V), m < i → [V.bl b1, .bl b2, .bl b3][m]? = some z' → eqV z' (.bl true) = false) →
        atI [V.str "letters", .str "rules", .str "word"] (i : Int) = some (.str w) → σ.length = 5 → σ[2]? = some (some (.ref a)) → H a = none →
        (∀ σ' H', σ'.length = 5 → σ'[1]? = some (some (.str w)) → (∀ p o, H p = some o → H' p = some o) → (∀ p, H' p = none → H p = none) → Dn.nx σ' H') → t Dn σ H := by
  have h1 := (R.hc (("NoLetters" : PySem.Str), c1) (List.mem_of_getElem? (i := 0) rfl)).1
  have h2 := (R.hc (("NoRules" : PySem.Str), c2) (List.mem_of_getElem? (i := 1) rfl)).1
  have h3 := (R.hc (("NoWord" : PySem.Str), c3) (List.mem_of_getElem? (i := 2) rfl)).1
  refine ⟨_, pss_cons (ps_set (i := 3) scR.nd rfl (.inl rfl) (pe_lst (pa_cons (pe_callB (call_isE C hz hf) rfl R.hi boot_i (pa_cons (pv 2) (pa_cons (pe_glob rfl h1 (v := .ref c1) rfl) pa_nil))) (pa_cons (pe_callB (call_isE C hz hf) rfl R.hi boot_i (pa_cons (pv 2) (pa_cons (pe_glob rfl h2 (v := .ref c2) rfl) pa_nil))) (pa_cons (pe_callB (call_isE C hz hf) rfl R.hi boot_i (pa_cons (pv 2) (pa_cons (pe_glob rfl h3 (v := .ref c3) rfl) pa_nil))) pa_nil)))))
    (pss_cons (ps_set (i := 4) scR.nd rfl (.inl rfl) (pe_lst (pa_cons pe_str (pa_cons pe_str (pa_cons pe_str pa_nil)))))
    (pss_one (ps_set (i := 1) scR.nd rfl (.inl rfl) (pe_ifExp (PW.pt (X := (cxR X g cdg s H0).suite a ((a, oe) :: pn)) (pw_and (pt_cmpR op_eq (pe_bm PySem.F.plainAttrs_list PySem.F.slot_list_count PySem.F.type_list_count mt_countV (pv 3) (pa_cons pe_bl pa_nil)) pe_int rfl) (pw_and1 (pt_truth (pe_callB (call_isE (X := cxR X g cdg s H0) C hz hf) rfl R.hi boot_i (pa_cons (pv 2) (pa_cons (pe_bltn (v := .ty "ValueError") rfl R.hv boot_v rfl (by decide) rfl) pa_nil))) (fun _ => rfl)))))
      (pe_ix ix_list (pv 4) (pe_bm PySem.F.plainAttrs_list PySem.F.slot_list_index PySem.F.type_list_index mt_index (pv 3) (pa_cons pe_bl pa_nil)) (fun _ _ => rfl)) pe_str)))), ?_⟩
  intro b1 b2 b3 i w Dn σ H k1 k2 k3 kv hcnt hix hah hw hl h2 na fin
  have rr : ∀ c : Addr, ∀ u, RelV (.ref c) u → u = .ref c := fun c u r => r
  refine ⟨.ref a, h2, .ref c1, .ref c1, b1, rfl, rr c1, k1, .ref a, h2, .ref c2, .ref c2, b2, rfl, rr c2, k2, .ref a, h2, .ref c3, .ref c3, b3, rfl, rr c3, k3, by rw [sizeLine_eq]; simp, fun p np => ?_⟩
  refine ⟨by rw [sizeLine_eq]; decide, fun q nq => ?_⟩
  have hpq : q ≠ p := fun z => by rw [z, upd_same] at nq; cases nq
  have nq' : H q = none := by rw [upd_ne hpq] at nq; exact nq
  have hp : upd (upd H p (.lst [V.bl b1, .bl b2, .bl b3])) q (.lst [V.str "letters", .str "rules", .str "word"]) p = some (.lst [V.bl b1, .bl b2, .bl b3]) := by
    rw [upd_ne (Ne.symm hpq), upd_same]
  have hq : upd (upd H p (.lst [V.bl b1, .bl b2, .bl b3])) q (.lst [V.str "letters", .str "rules", .str "word"]) q = some (.lst [V.str "letters", .str "rules", .str "word"]) := upd_same
  have s3 : ((σ.set 3 (some (.ref p))).set 4 (some (.ref q)))[3]? = some (some (.ref p)) := by
    rw [List.getElem?_set_ne (by decide), List.getElem?_set_self (by omega)]
  have s4 : ((σ.set 3 (some (.ref p))).set 4 (some (.ref q)))[4]? = some (some (.ref q)) := by
    rw [List.getElem?_set_self (by rw [List.length_set]; omega)]
  have s2 : ((σ.set 3 (some (.ref p))).set 4 (some (.ref q)))[2]? = some (some (.ref a)) := by
    rw [List.getElem?_set_ne (by decide), List.getElem?_set_ne (by decide)]
    exact h2
  have fall : flatV (.bl true) = true := rfl
  refine ⟨.ref p, s3, .inl ⟨rfl, _, SqL.of hp⟩, p, _, .bl true, rfl, rfl, SqL.of hp, rfl, rfl, ?_⟩
  rw [hcnt]
  refine ⟨rfl, _, rfl, ?_⟩
  show (if decide (V.int ((1 : Nat) : Int) = V.int 1) = true then _ else _)
  rw [if_pos (by decide)]
  refine ⟨.ref a, s2, .ty "ValueError", .type "ValueError", true, rfl, fun u r => r, kv, true, rfl, ?_⟩
  show (if true = true then _ else _)
  rw [if_pos rfl]
  refine ⟨.ref q, s4, .ref p, s3, .inl ⟨rfl, _, SqL.of hp⟩, p, _, .bl true, i, .bl true, rfl, rfl, SqL.of hp, rfl, rfl, hix, rfl, hah, q, _, _, _, rfl, rfl, SqL.of hq, hw, ?_⟩
  refine fin _ _ (by simp [hl]) (by rw [List.getElem?_set_self (by simp [hl])]) (fun b o e => ?_) fun b e => ?_
  · rw [upd_ne (ne_of_none e nq'), upd_ne (ne_of_none e np)]
    exact e
  · by_cases e1 : b = q
    · rw [e1]; exact nq'
    · rw [upd_ne e1] at e
      by_cases e2 : b = p
      · rw [e2]; exact np
      · rw [upd_ne e2] at e; exact e
end
/-- what the refusal's own def makes of a lambda that it gets -/
theorem ref_gives {X : Cx} {g cR : Addr} {cdg : Value} {q : PySem.Str} {ca : Nat → Addr} {k1 k2 k3 : Nat} (R : RefF X.K X.mg cR [("NoLetters", ca k1), ("NoRules", ca k2), ("NoWord", ca k3)]) :
    GivesTo X nR "_law_refusal" (defScope stR) g cdg (defBody stR) "asked" q (TRef ca [(k1, "letters"), (k2, "rules"), (k3, "word")]) := by
  intro f c' s H Q tl act hc h
  let Y := cxR X g cdg s H
  let ts : Addr → Value → Option Addr → TS := fun a cls d Dn σ Hh => ∃ (i c : Nat) (w : PySem.Str), [(k1, ("letters" : PySem.Str)), (k2, "rules"), (k3, "word")][i]? = some (c, w) ∧ cls = .ref (ca c) ∧ d = none ∧ σ.length = 5 ∧ σ[2]? = some (some (.ref a)) ∧ Hh a = none ∧
    ∀ σ' H', σ'.length = 5 → σ'[1]? = some (some (.str w)) → (∀ p o, Hh p = some o → H' p = some o) → (∀ p, H' p = none → Hh p = none) → Dn.nx σ' H'
  have hsu : ∀ (a : Addr) (oe : Obj) (cls : Value) (d : Option Addr) (pn : List (Addr × Obj)), Zc cls d oe → (∃ vs, oe.data = .fields vs) → PSs (Y.suite a ((a, oe) :: pn)) (suiteOf (defBody stR)) (ts a cls d) := fun a oe cls d pn hz hf => by
    refine ⟨fun pins s' σ Hh D I ht => ?_⟩
    obtain ⟨i, c, w, e1, rfl, rfl, hl, h2, na, fin⟩ := ht
    have hi : i < 3 := by
      have := (List.getElem?_eq_some_iff.mp e1).1
      simpa using this
    have hD : ∃ nm, [(("NoLetters" : PySem.Str), ca k1), ("NoRules", ca k2), ("NoWord", ca k3)][i]? = some (nm, ca c) := by
      match i, hi, e1 with
      | 0, _, e1 => injection e1 with e1; injection e1 with e1 e2; subst e1; exact ⟨_, rfl⟩
      | 1, _, e1 => injection e1 with e1; injection e1 with e1 e2; subst e1; exact ⟨_, rfl⟩
      | 2, _, e1 => injection e1 with e1; injection e1 with e1 e2; subst e1; exact ⟨_, rfl⟩
    obtain ⟨nm, hD⟩ := hD
    obtain ⟨_, C, _, kv⟩ := R.hc _ (List.mem_of_getElem? hD)
    obtain ⟨t, hp, ht⟩ := suite_p (g := g) (cdg := cdg) (s := s) (H0 := H) (pn := pn) R C hz hf
    have kj := fun (j : Nat) (q : PySem.Str × Addr) (hq : [(("NoLetters" : PySem.Str), ca k1), ("NoRules", ca k2), ("NoWord", ca k3)][j]? = some q) => R.kit i j _ q hD hq
    have z1 := kj 0 _ rfl
    have z2 := kj 1 _ rfl
    have z3 := kj 2 _ rfl
    refine hp.run pins s' σ Hh D I (ht (decide (i = 0)) (decide (i = 1)) (decide (i = 2)) i w D σ Hh z1 z2 z3 kv ?_ ?_ ?_ ?_ hl h2 na fin)
    · match i, hi with
      | 0, _ => rfl
      | 1, _ => rfl
      | 2, _ => rfl
    · match i, hi with
      | 0, _ => rfl
      | 1, _ => rfl
      | 2, _ => rfl
    · intro m z' hm hz'
      match i, hi, m, hm with
      | 1, _, 0, _ => injection hz' with hz'; subst hz'; rfl
      | 2, _, 0, _ => injection hz' with hz'; subst hz'; rfl
      | 2, _, 1, _ => injection hz' with hz'; subst hz'; rfl
    · match i, hi, e1 with
      | 0, _, e1 => injection e1 with e1; injection e1 with e1 e2; subst e2; rfl
      | 1, _, e1 => injection e1 with e1; injection e1 with e1 e2; subst e2; rfl
      | 2, _, e1 => injection e1 with e1; injection e1 with e1 e2; subst e2; rfl
  refine ⟨_, pss_cons (ps_set (i := 1) scR.nd rfl (.inl rfl) pe_str) (pss_cons (ps_try_as (X := Y) (i := 2) (c := .ref cR) (ts := ts)
      (tb := fun W D σ H => ∃ Ech : XK, (∀ cls d σ' H', Ech cls d H' → σ'.length = 5 → W cls d σ' H') ∧ σ[0]? = some (some (.ref f)) ∧ H c' = some (CodeO c' q) ∧ tl Ech H fun _ H' => D.nx σ H')
      rfl rfl scR.nd rfl rfl ⟨rfl, rfl, .inl R.hR⟩ L2.takes0 (fun W pn xe tk _ => ?_) hsu) (pss_one (ps_ret (pv 1)))), ?_⟩
  · refine ⟨fun pins s' σ H' D I h' => ?_⟩
    obtain ⟨Ech, hW, h1, h2, h3⟩ := h'
    exact (pss_one (ps_expr (act _ pn xe Ech _ _ (Takes.len tk) fun cls d σ' H' e => hW cls d σ' H' e) rfl)).run pins s' σ H' D I ⟨h1, h2, h3⟩
  · refine ⟨fun cls d H' => ∃ (i c : Nat) (w : PySem.Str), [(k1, ("letters" : PySem.Str)), (k2, "rules"), (k3, "word")][i]? = some (c, w) ∧ cls = .ref (ca c) ∧ d = none ∧ ∀ H2, (∀ p o, H' p = some o → H2 p = some o) → (∀ p, H2 p = none → H' p = none) → Q (.str w) H2,
      fun cls d σ' H' e hl => ?_, rfl, hc, h.1 _ _ _ _ _ (fun _ _ _ x => x) (fun v H' q => ⟨.str "let", rfl, q⟩) h.2⟩
    obtain ⟨i, c, w, e1, rfl, rfl, e4⟩ := e
    have hD : ∃ nm, [(("NoLetters" : PySem.Str), ca k1), ("NoRules", ca k2), ("NoWord", ca k3)][i]? = some (nm, ca c) := by
      have hi : i < 3 := by
        have := (List.getElem?_eq_some_iff.mp e1).1
        simpa using this
      match i, hi, e1 with
      | 0, _, e1 => injection e1 with e1; injection e1 with e1 e2; subst e1; exact ⟨_, rfl⟩
      | 1, _, e1 => injection e1 with e1; injection e1 with e1 e2; subst e1; exact ⟨_, rfl⟩
      | 2, _, e1 => injection e1 with e1; injection e1 with e1 e2; subst e1; exact ⟨_, rfl⟩
    obtain ⟨nm, hD⟩ := hD
    obtain ⟨_, _, em, _⟩ := R.hc _ (List.mem_of_getElem? hD)
    refine ⟨true, em, fun _ a na => ⟨i, c, w, e1, rfl, rfl, by rw [List.length_set]; exact hl, by rw [List.getElem?_set_self (by omega)], na, fun σ2 H2 l2 g2 ext th => ⟨.str w, ?_, e4 H2 ext th⟩⟩, fun z => (nomatch z)⟩
    show (σ2.set 2 none)[1]? = _
    rw [List.getElem?_set_ne (by decide)]
    exact g2
end Rf90
end
section
set_option Elab.async false
set_option linter.all false
set_option maxRecDepth 100000
set_option maxHeartbeats 4000000
namespace Pk90
open Dp PySem PySem.Spec PyProof.Rows L2 NdefX LamX Dk Dx
abbrev tq : List (He.Defn × PySem.Str) := [(("comes_to", none), L0.qual), (("_law_are_refused", none), "_law_are_refused.<locals>.<lambda>")]
abbrev kt (K : PySem.W.Frag) : Kt := ⟨K, fun i => He.ga K (fnames.getD i ""), fun i => He.ga K (match i with | 2 => "NoLetters" | 1 => "NoWord" | 4 => "NoRules" | _ => ""), htbOf K tq, fun _ d => d = none⟩
section
variable {P0 : Program} {w : World} {K : PySem.W.Frag} {h : Heap} {mg : PySem.Str → Option Value}
theorem gmOf (X : K.In h) (G : h.Ns mainGlobals mg) (c : He.SaysX hfa hfn [] htf hex w h K) : Gm mg (kt K) where
  b_len := He.free_ok X G (c.t.d.fact 31 (f := .free "len") rfl)
  b_isinstance := He.free_ok X G (c.t.d.fact 32 (f := .free "isinstance") rfl)
  b_tuple := He.free_ok X G (c.t.d.fact 33 (f := .free "tuple") rfl)
  b_str := He.free_ok X G (c.t.d.fact 34 (f := .free "str") rfl)
  b_all := He.free_ok X G (c.t.d.fact 35 (f := .free "all") rfl)
  b_range := He.free_ok X G (c.t.d.fact 36 (f := .free "range") rfl)
  b_enumerate := He.free_ok X G (c.t.d.fact 37 (f := .free "enumerate") rfl)
  b_sorted := He.free_ok X G (c.t.d.fact 38 (f := .free "sorted") rfl)
  b_int := He.free_ok X G (c.t.d.fact 39 (f := .free "int") rfl)
  b_bool := He.free_ok X G (c.t.d.fact 40 (f := .free "bool") rfl)
  b_list := He.free_ok X G (c.t.d.fact 41 (f := .free "list") rfl)
  b_zip := He.free_ok X G (c.t.d.fact 42 (f := .free "zip") rfl)
  b_abs := He.free_ok X G (c.t.d.fact 43 (f := .free "abs") rfl)
  c_MOST_WORD := by
    obtain ⟨t, e⟩ := He.int_ok X G (c.t.d.fact 44 (f := .int "MOST_WORD" 60) rfl)
    exact ⟨.int 60, _, e, ⟨t, rfl⟩, fun F => .int 60⟩
  c_MOST_RULES := by
    obtain ⟨t, e⟩ := He.int_ok X G (c.t.d.fact 45 (f := .int "MOST_RULES" 12) rfl)
    exact ⟨.int 12, _, e, ⟨t, rfl⟩, fun F => .int 12⟩
  c_MOST_LEFT := by
    obtain ⟨t, e⟩ := He.int_ok X G (c.t.d.fact 46 (f := .int "MOST_LEFT" 6) rfl)
    exact ⟨.int 6, _, e, ⟨t, rfl⟩, fun F => .int 6⟩
  c_MOST_GONE := by
    obtain ⟨t, e⟩ := He.int_ok X G (c.t.d.fact 47 (f := .int "MOST_GONE" 2000) rfl)
    exact ⟨.int 2000, _, e, ⟨t, rfl⟩, fun F => .int 2000⟩
  c_ALPHABETS := tupStrB_ok (T := kt K) X G (List.all_eq_true.mp c.more _ (List.mem_of_getElem? (i := 0) rfl)) (by decide) (by decide +kernel)
theorem tabs_nd (c : He.SaysX hfa hfn [] htf hex w h K) : tabsNe K (tq.map (·.1)) = true := List.all_eq_true.mp c.more _ (List.mem_of_getElem? (i := 1) rfl)
theorem vV : PySem.W.findCls K (.type "ValueError") (.type "type") "__init__" = some (.val (.builtin "ValueError.__init__")) := by rfl
theorem scI : FnScope ["self"] ["self"] (defScope stI) := ⟨rfl, rfl, rfl, by decide +kernel, rfl, by decide +kernel, by decide +kernel⟩
theorem initF {base : Heap} (X : K.In h) (G : h.Ns mainGlobals mg) (c : He.SaysX hfa hfn [] htf hex w h K) : ∃ fd, FnOk P0 w K mg base (L2.CX P0 w) 1 (He.fAd K ("ReaderError", some "__init__")) fd ["self"] (spI K) ∧ Binds K fd ["self"] [] := by
  obtain ⟨fd, F⟩ := c.t.d.def_ 31 (d := hdI) rfl
  refine ⟨fd, fn_init F scI (fun cdv A outer s H E => ⟨_, pss_one (ps_expr (pe_veinit rfl (He.free_ok X G (c.t.d.fact 56 (f := .free "ValueError") rfl)) vV (pa_cons (pe_var (i := 0) rfl (.inl rfl)) pa_nil) rfl rfl rfl) rfl), fun a C Q T ea q => init_q T ea q⟩), F.bindsN fun _ _ _ _ _ _ us hl => match us, hl with | [_], _ => rfl⟩
theorem exAll {base : Heap} (X : K.In h) (G : h.Ns mainGlobals mg) (c : He.SaysX hfa hfn [] htf hex w h K) : ExAll (gb P0 w mg base (kt K)) excs := by
  obtain ⟨fd, F, B⟩ := initF (P0 := P0) (base := base) X G c
  intro p hp
  simp only [excs, List.mem_cons, List.not_mem_nil, or_false] at hp
  rcases hp with rfl | rfl | rfl
  · exact ⟨He.glo_ok X G (c.t.d.fact 49 (f := .glo "NoLetters") rfl), oexB_ok (List.all_eq_true.mp c.more _ (List.mem_of_getElem? (i := 2) rfl)), rfl, _, fd, _, (initB_ok (List.all_eq_true.mp c.more _ (List.mem_of_getElem? (i := 4) rfl))).1, (initB_ok (List.all_eq_true.mp c.more _ (List.mem_of_getElem? (i := 4) rfl))).2, F, B⟩
  · exact ⟨He.glo_ok X G (c.t.d.fact 50 (f := .glo "NoWord") rfl), oexB_ok (List.all_eq_true.mp c.more _ (List.mem_of_getElem? (i := 5) rfl)), rfl, _, fd, _, (initB_ok (List.all_eq_true.mp c.more _ (List.mem_of_getElem? (i := 7) rfl))).1, (initB_ok (List.all_eq_true.mp c.more _ (List.mem_of_getElem? (i := 7) rfl))).2, F, B⟩
  · exact ⟨He.glo_ok X G (c.t.d.fact 51 (f := .glo "NoRules") rfl), oexB_ok (List.all_eq_true.mp c.more _ (List.mem_of_getElem? (i := 8) rfl)), rfl, _, fd, _, (initB_ok (List.all_eq_true.mp c.more _ (List.mem_of_getElem? (i := 10) rfl))).1, (initB_ok (List.all_eq_true.mp c.more _ (List.mem_of_getElem? (i := 10) rfl))).2, F, B⟩
theorem refF (X : K.In h) (G : h.Ns mainGlobals mg) (c : He.SaysX hfa hfn [] htf hex w h K) : Rf90.RefF K mg (He.ga K "ReaderError") [("NoLetters", He.ga K "NoLetters"), ("NoRules", He.ga K "NoRules"), ("NoWord", He.ga K "NoWord")] := by
  obtain ⟨k1, k2⟩ := kitB_ok (List.all_eq_true.mp c.more _ (List.mem_of_getElem? (i := 11) rfl))
  refine ⟨He.glo_ok X G (c.t.d.fact 48 (f := .glo "ReaderError") rfl), He.free_ok X G (c.t.d.fact 55 (f := .free "isinstance") rfl), He.free_ok X G (c.t.d.fact 56 (f := .free "ValueError") rfl), fun p hp => ?_, fun i j p q hi hj => ?_⟩
  · simp only [List.mem_cons, List.not_mem_nil, or_false] at hp
    rcases hp with rfl | rfl | rfl
    · exact ⟨He.glo_ok X G (c.t.d.fact 49 (f := .glo "NoLetters") rfl), excB_ok (List.all_eq_true.mp c.more _ (List.mem_of_getElem? (i := 3) rfl)), He.exm_ok (c.t.d.fact 52 (f := .exm "NoLetters" "ReaderError" true) rfl), k1 0 _ rfl⟩
    · exact ⟨He.glo_ok X G (c.t.d.fact 51 (f := .glo "NoRules") rfl), excB_ok (List.all_eq_true.mp c.more _ (List.mem_of_getElem? (i := 9) rfl)), He.exm_ok (c.t.d.fact 54 (f := .exm "NoRules" "ReaderError" true) rfl), k1 1 _ rfl⟩
    · exact ⟨He.glo_ok X G (c.t.d.fact 50 (f := .glo "NoWord") rfl), excB_ok (List.all_eq_true.mp c.more _ (List.mem_of_getElem? (i := 6) rfl)), He.exm_ok (c.t.d.fact 53 (f := .exm "NoWord" "ReaderError" true) rfl), k1 2 _ rfl⟩
  · have z := k2 i j p.2 q.2
    have e : ([He.ga K "NoLetters", He.ga K "NoRules", He.ga K "NoWord"] : List Addr) = ([("NoLetters", He.ga K "NoLetters"), ("NoRules", He.ga K "NoRules"), ("NoWord", He.ga K "NoWord")] : List (PySem.Str × Addr)).map (·.2) := rfl
    rw [e, List.getElem?_map, List.getElem?_map, hi, hj] at z
    exact z rfl rfl
theorem rfG {base : Heap} (X : K.In h) (G : h.Ns mainGlobals mg) (c : He.SaysX hfa hfn [] htf hex w h K) : RefG (gb P0 w mg base (kt K)) "_law_refusal" "asked" nR stR tabR := by
  obtain ⟨fd, F⟩ := c.t.d.def_ 26 (d := hd26) rfl
  obtain ⟨oc, od, dV, kV, doc, pm, an, cdv, ct, osl, rfl, lk, hcd, _, _⟩ := F.ex
  exact ⟨⟨_, oc, dV, kV, doc, pm, cdv, ct, an, od, osl, He.glo_ok X G (c.t.d.fact 26 (f := .glo "_law_refusal") rfl), F.kp, lk, hcd, F.bindsN fun _ _ _ _ _ _ us hl => match us, hl with | [_], _ => rfl⟩, ⟨rfl, rfl, rfl, by decide +kernel, rfl, by decide +kernel, by decide +kernel⟩, rfl, .inl rfl, fun Y g cdv q eK eM => Rf90.ref_gives (ca := (kt K).ca) (cR := He.ga K "ReaderError") (by rw [eK, eM]; exact refF X G c), by decide +kernel, fun _ _ e => e⟩
theorem e0 {base : Heap} (X : K.In h) (G : h.Ns mainGlobals mg) (c : He.SaysX hfa hfn [] htf hex w h K) (TB : ∀ r ∈ tq.map (fun r => He.cT K r.1), TabB base mg r.1 r.2) : ∃ fd ps, (∀ k, FnAll (gb P0 w mg base (kt K)) fnames k → LamAll (gb P0 w mg base (kt K)) lamds k → FnOk P0 w K mg base (L2.CX P0 w) (5 * (k + 1)) (He.ga K "is_tuple") fd ps (spD (kt K) (callF P (k + 1)) (.fn 0))) ∧ Binds K fd ps [] ∧ mg "is_tuple" = some (.ref (He.ga K "is_tuple")) ∧ PySem.W.keepIn K (.ref (He.ga K "is_tuple")) = true := by
  obtain ⟨fd, F⟩ := c.t.d.def_ 0 (d := hd0) rfl
  refine ⟨fd, ["thing", "size"], fun k fe le => fn_body (G := gb P0 w mg base (kt K)) (f := 0) (N := n0) F sc0 rfl rfl fun cd hcd lk A outer s H E hr => ?_, F.bindsN fun _ _ _ _ _ _ us hl => match us, hl with | [_, _], _ => rfl, He.glo_ok X G (c.t.d.fact 0 (f := .glo "is_tuple") rfl), F.kp⟩
  exact d0 (gmOf X G c) fe
theorem e1 {base : Heap} (X : K.In h) (G : h.Ns mainGlobals mg) (c : He.SaysX hfa hfn [] htf hex w h K) (TB : ∀ r ∈ tq.map (fun r => He.cT K r.1), TabB base mg r.1 r.2) : ∃ fd ps, (∀ k, FnAll (gb P0 w mg base (kt K)) fnames k → LamAll (gb P0 w mg base (kt K)) lamds k → FnOk P0 w K mg base (L2.CX P0 w) (5 * (k + 1)) (He.ga K "is_sized") fd ps (spD (kt K) (callF P (k + 1)) (.fn 1))) ∧ Binds K fd ps [] ∧ mg "is_sized" = some (.ref (He.ga K "is_sized")) ∧ PySem.W.keepIn K (.ref (He.ga K "is_sized")) = true := by
  obtain ⟨fd, F⟩ := c.t.d.def_ 1 (d := hd1) rfl
  refine ⟨fd, ["thing", "least", "most"], fun k fe le => fn_body (G := gb P0 w mg base (kt K)) (f := 1) (N := n1) F sc1 rfl rfl fun cd hcd lk A outer s H E hr => ?_, F.bindsN fun _ _ _ _ _ _ us hl => match us, hl with | [_, _, _], _ => rfl, He.glo_ok X G (c.t.d.fact 1 (f := .glo "is_sized") rfl), F.kp⟩
  exact d1 (gmOf X G c) fe
theorem e2 {base : Heap} (X : K.In h) (G : h.Ns mainGlobals mg) (c : He.SaysX hfa hfn [] htf hex w h K) (TB : ∀ r ∈ tq.map (fun r => He.cT K r.1), TabB base mg r.1 r.2) : ∃ fd ps, (∀ k, FnAll (gb P0 w mg base (kt K)) fnames k → LamAll (gb P0 w mg base (kt K)) lamds k → FnOk P0 w K mg base (L2.CX P0 w) (5 * (k + 1)) (He.ga K "are_letters") fd ps (spD (kt K) (callF P (k + 1)) (.fn 2))) ∧ Binds K fd ps [] ∧ mg "are_letters" = some (.ref (He.ga K "are_letters")) ∧ PySem.W.keepIn K (.ref (He.ga K "are_letters")) = true := by
  obtain ⟨fd, F⟩ := c.t.d.def_ 2 (d := hd2) rfl
  refine ⟨fd, ["thing"], fun k fe le => fn_body (G := gb P0 w mg base (kt K)) (f := 2) (N := n2) F sc2 rfl rfl fun cd hcd lk A outer s H E hr => ?_, F.bindsN fun _ _ _ _ _ _ us hl => match us, hl with | [_], _ => rfl, He.glo_ok X G (c.t.d.fact 2 (f := .glo "are_letters") rfl), F.kp⟩
  exact d2 (gmOf X G c) fe
theorem e3 {base : Heap} (X : K.In h) (G : h.Ns mainGlobals mg) (c : He.SaysX hfa hfn [] htf hex w h K) (TB : ∀ r ∈ tq.map (fun r => He.cT K r.1), TabB base mg r.1 r.2) : ∃ fd ps, (∀ k, FnAll (gb P0 w mg base (kt K)) fnames k → LamAll (gb P0 w mg base (kt K)) lamds k → FnOk P0 w K mg base (L2.CX P0 w) (5 * (k + 1)) (He.ga K "check_letters") fd ps (spD (kt K) (callF P (k + 1)) (.fn 3))) ∧ Binds K fd ps [] ∧ mg "check_letters" = some (.ref (He.ga K "check_letters")) ∧ PySem.W.keepIn K (.ref (He.ga K "check_letters")) = true := by
  obtain ⟨fd, F⟩ := c.t.d.def_ 3 (d := hd3) rfl
  refine ⟨fd, ["thing"], fun k fe le => fn_body (G := gb P0 w mg base (kt K)) (f := 3) (N := n3) F sc3 rfl rfl fun cd hcd lk A outer s H E hr => ?_, F.bindsN fun _ _ _ _ _ _ us hl => match us, hl with | [_], _ => rfl, He.glo_ok X G (c.t.d.fact 3 (f := .glo "check_letters") rfl), F.kp⟩
  exact d3 (gmOf X G c) fe (exAll X G c)
theorem e4 {base : Heap} (X : K.In h) (G : h.Ns mainGlobals mg) (c : He.SaysX hfa hfn [] htf hex w h K) (TB : ∀ r ∈ tq.map (fun r => He.cT K r.1), TabB base mg r.1 r.2) : ∃ fd ps, (∀ k, FnAll (gb P0 w mg base (kt K)) fnames k → LamAll (gb P0 w mg base (kt K)) lamds k → FnOk P0 w K mg base (L2.CX P0 w) (5 * (k + 1)) (He.ga K "is_word_of") fd ps (spD (kt K) (callF P (k + 1)) (.fn 4))) ∧ Binds K fd ps [] ∧ mg "is_word_of" = some (.ref (He.ga K "is_word_of")) ∧ PySem.W.keepIn K (.ref (He.ga K "is_word_of")) = true := by
  obtain ⟨fd, F⟩ := c.t.d.def_ 4 (d := hd4) rfl
  refine ⟨fd, ["letters", "thing", "most"], fun k fe le => fn_body (G := gb P0 w mg base (kt K)) (f := 4) (N := n4) F sc4 rfl rfl fun cd hcd lk A outer s H E hr => ?_, F.bindsN fun _ _ _ _ _ _ us hl => match us, hl with | [_, _, _], _ => rfl, He.glo_ok X G (c.t.d.fact 4 (f := .glo "is_word_of") rfl), F.kp⟩
  exact d4 (gmOf X G c) fe
theorem e5 {base : Heap} (X : K.In h) (G : h.Ns mainGlobals mg) (c : He.SaysX hfa hfn [] htf hex w h K) (TB : ∀ r ∈ tq.map (fun r => He.cT K r.1), TabB base mg r.1 r.2) : ∃ fd ps, (∀ k, FnAll (gb P0 w mg base (kt K)) fnames k → LamAll (gb P0 w mg base (kt K)) lamds k → FnOk P0 w K mg base (L2.CX P0 w) (5 * (k + 1)) (He.ga K "check_word") fd ps (spD (kt K) (callF P (k + 1)) (.fn 5))) ∧ Binds K fd ps [] ∧ mg "check_word" = some (.ref (He.ga K "check_word")) ∧ PySem.W.keepIn K (.ref (He.ga K "check_word")) = true := by
  obtain ⟨fd, F⟩ := c.t.d.def_ 5 (d := hd5) rfl
  refine ⟨fd, ["letters", "thing"], fun k fe le => fn_body (G := gb P0 w mg base (kt K)) (f := 5) (N := n5) F sc5 rfl rfl fun cd hcd lk A outer s H E hr => ?_, F.bindsN fun _ _ _ _ _ _ us hl => match us, hl with | [_, _], _ => rfl, He.glo_ok X G (c.t.d.fact 5 (f := .glo "check_word") rfl), F.kp⟩
  exact d5 (gmOf X G c) fe (exAll X G c)
theorem e6 {base : Heap} (X : K.In h) (G : h.Ns mainGlobals mg) (c : He.SaysX hfa hfn [] htf hex w h K) (TB : ∀ r ∈ tq.map (fun r => He.cT K r.1), TabB base mg r.1 r.2) : ∃ fd ps, (∀ k, FnAll (gb P0 w mg base (kt K)) fnames k → LamAll (gb P0 w mg base (kt K)) lamds k → FnOk P0 w K mg base (L2.CX P0 w) (5 * (k + 1)) (He.ga K "near") fd ps (spD (kt K) (callF P (k + 1)) (.fn 6))) ∧ Binds K fd ps [] ∧ mg "near" = some (.ref (He.ga K "near")) ∧ PySem.W.keepIn K (.ref (He.ga K "near")) = true := by
  obtain ⟨fd, F⟩ := c.t.d.def_ 6 (d := hd6) rfl
  refine ⟨fd, ["word"], fun k fe le => fn_body (G := gb P0 w mg base (kt K)) (f := 6) (N := n6) F sc6 rfl rfl fun cd hcd lk A outer s H E hr => ?_, F.bindsN fun _ _ _ _ _ _ us hl => match us, hl with | [_], _ => rfl, He.glo_ok X G (c.t.d.fact 6 (f := .glo "near") rfl), F.kp⟩
  exact d6 (gmOf X G c) fe
theorem e7 {base : Heap} (X : K.In h) (G : h.Ns mainGlobals mg) (c : He.SaysX hfa hfn [] htf hex w h K) (TB : ∀ r ∈ tq.map (fun r => He.cT K r.1), TabB base mg r.1 r.2) : ∃ fd ps, (∀ k, FnAll (gb P0 w mg base (kt K)) fnames k → LamAll (gb P0 w mg base (kt K)) lamds k → FnOk P0 w K mg base (L2.CX P0 w) (5 * (k + 1)) (He.ga K "is_rule") fd ps (spD (kt K) (callF P (k + 1)) (.fn 7))) ∧ Binds K fd ps [] ∧ mg "is_rule" = some (.ref (He.ga K "is_rule")) ∧ PySem.W.keepIn K (.ref (He.ga K "is_rule")) = true := by
  obtain ⟨fd, F⟩ := c.t.d.def_ 7 (d := hd7) rfl
  refine ⟨fd, ["letters", "thing"], fun k fe le => fn_body (G := gb P0 w mg base (kt K)) (f := 7) (N := n7) F sc7 rfl rfl fun cd hcd lk A outer s H E hr => ?_, F.bindsN fun _ _ _ _ _ _ us hl => match us, hl with | [_, _], _ => rfl, He.glo_ok X G (c.t.d.fact 7 (f := .glo "is_rule") rfl), F.kp⟩
  exact d7 (gmOf X G c) fe
theorem e8 {base : Heap} (X : K.In h) (G : h.Ns mainGlobals mg) (c : He.SaysX hfa hfn [] htf hex w h K) (TB : ∀ r ∈ tq.map (fun r => He.cT K r.1), TabB base mg r.1 r.2) : ∃ fd ps, (∀ k, FnAll (gb P0 w mg base (kt K)) fnames k → LamAll (gb P0 w mg base (kt K)) lamds k → FnOk P0 w K mg base (L2.CX P0 w) (5 * (k + 1)) (He.ga K "check_rules") fd ps (spD (kt K) (callF P (k + 1)) (.fn 8))) ∧ Binds K fd ps [] ∧ mg "check_rules" = some (.ref (He.ga K "check_rules")) ∧ PySem.W.keepIn K (.ref (He.ga K "check_rules")) = true := by
  obtain ⟨fd, F⟩ := c.t.d.def_ 8 (d := hd8) rfl
  refine ⟨fd, ["letters", "rules"], fun k fe le => fn_body (G := gb P0 w mg base (kt K)) (f := 8) (N := n8) F sc8 rfl rfl fun cd hcd lk A outer s H E hr => ?_, F.bindsN fun _ _ _ _ _ _ us hl => match us, hl with | [_, _], _ => rfl, He.glo_ok X G (c.t.d.fact 8 (f := .glo "check_rules") rfl), F.kp⟩
  exact d8 (gmOf X G c) fe (exAll X G c)
theorem e9 {base : Heap} (X : K.In h) (G : h.Ns mainGlobals mg) (c : He.SaysX hfa hfn [] htf hex w h K) (TB : ∀ r ∈ tq.map (fun r => He.cT K r.1), TabB base mg r.1 r.2) : ∃ fd ps, (∀ k, FnAll (gb P0 w mg base (kt K)) fnames k → LamAll (gb P0 w mg base (kt K)) lamds k → FnOk P0 w K mg base (L2.CX P0 w) (5 * (k + 1)) (He.ga K "steps_of") fd ps (spD (kt K) (callF P (k + 1)) (.fn 9))) ∧ Binds K fd ps [] ∧ mg "steps_of" = some (.ref (He.ga K "steps_of")) ∧ PySem.W.keepIn K (.ref (He.ga K "steps_of")) = true := by
  obtain ⟨fd, F⟩ := c.t.d.def_ 9 (d := hd9) rfl
  refine ⟨fd, ["rules", "word"], fun k fe le => fn_body (G := gb P0 w mg base (kt K)) (f := 9) (N := n9) F sc9 rfl rfl fun cd hcd lk A outer s H E hr => ?_, F.bindsN fun _ _ _ _ _ _ us hl => match us, hl with | [_, _], _ => rfl, He.glo_ok X G (c.t.d.fact 9 (f := .glo "steps_of") rfl), F.kp⟩
  exact d9 (gmOf X G c) fe
theorem e10 {base : Heap} (X : K.In h) (G : h.Ns mainGlobals mg) (c : He.SaysX hfa hfn [] htf hex w h K) (TB : ∀ r ∈ tq.map (fun r => He.cT K r.1), TabB base mg r.1 r.2) : ∃ fd ps, (∀ k, FnAll (gb P0 w mg base (kt K)) fnames k → LamAll (gb P0 w mg base (kt K)) lamds k → FnOk P0 w K mg base (L2.CX P0 w) (5 * (k + 1)) (He.ga K "done") fd ps (spD (kt K) (callF P (k + 1)) (.fn 10))) ∧ Binds K fd ps [] ∧ mg "done" = some (.ref (He.ga K "done")) ∧ PySem.W.keepIn K (.ref (He.ga K "done")) = true := by
  obtain ⟨fd, F⟩ := c.t.d.def_ 10 (d := hd10) rfl
  refine ⟨fd, ["rules", "word", "step"], fun k fe le => fn_body (G := gb P0 w mg base (kt K)) (f := 10) (N := n10) F sc10 rfl rfl fun cd hcd lk A outer s H E hr => ?_, F.bindsN fun _ _ _ _ _ _ us hl => match us, hl with | [_, _, _], _ => rfl, He.glo_ok X G (c.t.d.fact 10 (f := .glo "done") rfl), F.kp⟩
  exact d10 (gmOf X G c) fe
theorem e11 {base : Heap} (X : K.In h) (G : h.Ns mainGlobals mg) (c : He.SaysX hfa hfn [] htf hex w h K) (TB : ∀ r ∈ tq.map (fun r => He.cT K r.1), TabB base mg r.1 r.2) : ∃ fd ps, (∀ k, FnAll (gb P0 w mg base (kt K)) fnames k → LamAll (gb P0 w mg base (kt K)) lamds k → FnOk P0 w K mg base (L2.CX P0 w) (5 * (k + 1)) (He.ga K "raw_last") fd ps (spD (kt K) (callF P (k + 1)) (.fn 11))) ∧ Binds K fd ps [] ∧ mg "raw_last" = some (.ref (He.ga K "raw_last")) ∧ PySem.W.keepIn K (.ref (He.ga K "raw_last")) = true := by
  obtain ⟨fd, F⟩ := c.t.d.def_ 11 (d := hd11) rfl
  refine ⟨fd, ["rules", "word"], fun k fe le => fn_body (G := gb P0 w mg base (kt K)) (f := 11) (N := n11) F sc11 rfl rfl fun cd hcd lk A outer s H E hr => ?_, F.bindsN fun _ _ _ _ _ _ us hl => match us, hl with | [_, _], _ => rfl, He.glo_ok X G (c.t.d.fact 11 (f := .glo "raw_last") rfl), F.kp⟩
  exact d11 (gmOf X G c) fe
theorem e12 {base : Heap} (X : K.In h) (G : h.Ns mainGlobals mg) (c : He.SaysX hfa hfn [] htf hex w h K) (TB : ∀ r ∈ tq.map (fun r => He.cT K r.1), TabB base mg r.1 r.2) : ∃ fd ps, (∀ k, FnAll (gb P0 w mg base (kt K)) fnames k → LamAll (gb P0 w mg base (kt K)) lamds k → FnOk P0 w K mg base (L2.CX P0 w) (5 * (k + 1)) (He.ga K "last_of") fd ps (spD (kt K) (callF P (k + 1)) (.fn 12))) ∧ Binds K fd ps [] ∧ mg "last_of" = some (.ref (He.ga K "last_of")) ∧ PySem.W.keepIn K (.ref (He.ga K "last_of")) = true := by
  obtain ⟨fd, F⟩ := c.t.d.def_ 12 (d := hd12) rfl
  refine ⟨fd, ["letters", "rules", "word"], fun k fe le => fn_body (G := gb P0 w mg base (kt K)) (f := 12) (N := n12) F sc12 rfl rfl fun cd hcd lk A outer s H E hr => ?_, F.bindsN fun _ _ _ _ _ _ us hl => match us, hl with | [_, _, _], _ => rfl, He.glo_ok X G (c.t.d.fact 12 (f := .glo "last_of") rfl), F.kp⟩
  exact d12 (gmOf X G c) fe
theorem e13 {base : Heap} (X : K.In h) (G : h.Ns mainGlobals mg) (c : He.SaysX hfa hfn [] htf hex w h K) (TB : ∀ r ∈ tq.map (fun r => He.cT K r.1), TabB base mg r.1 r.2) : ∃ fd ps, (∀ k, FnAll (gb P0 w mg base (kt K)) fnames k → LamAll (gb P0 w mg base (kt K)) lamds k → FnOk P0 w K mg base (L2.CX P0 w) (5 * (k + 1)) (He.ga K "comes_to") fd ps (spD (kt K) (callF P (k + 1)) (.fn 13))) ∧ Binds K fd ps [] ∧ mg "comes_to" = some (.ref (He.ga K "comes_to")) ∧ PySem.W.keepIn K (.ref (He.ga K "comes_to")) = true := by
  obtain ⟨fd, F⟩ := c.t.d.def_ 13 (d := hd13) rfl
  refine ⟨fd, ["letters", "rules", "word"], fun k fe le => fn_body (G := gb P0 w mg base (kt K)) (f := 13) (N := n13) F sc13 rfl rfl fun cd hcd lk A outer s H E hr => ?_, F.bindsN fun _ _ _ _ _ _ us hl => match us, hl with | [_, _, _], _ => rfl, He.glo_ok X G (c.t.d.fact 13 (f := .glo "comes_to") rfl), F.kp⟩
  exact d13 (gmOf X G c) fe le (tbAt_of (G := gb P0 w mg base (kt K)) (tq := tq) (p := ("comes_to", none)) rfl (by simp [tq]) (tabs_nd c) TB F hcd)
theorem e14 {base : Heap} (X : K.In h) (G : h.Ns mainGlobals mg) (c : He.SaysX hfa hfn [] htf hex w h K) (TB : ∀ r ∈ tq.map (fun r => He.cT K r.1), TabB base mg r.1 r.2) : ∃ fd ps, (∀ k, FnAll (gb P0 w mg base (kt K)) fnames k → LamAll (gb P0 w mg base (kt K)) lamds k → FnOk P0 w K mg base (L2.CX P0 w) (5 * (k + 1)) (He.ga K "_law_draw") fd ps (spD (kt K) (callF P (k + 1)) (.fn 14))) ∧ Binds K fd ps [] ∧ mg "_law_draw" = some (.ref (He.ga K "_law_draw")) ∧ PySem.W.keepIn K (.ref (He.ga K "_law_draw")) = true := by
  obtain ⟨fd, F⟩ := c.t.d.def_ 14 (d := hd14) rfl
  refine ⟨fd, ["hand", "span"], fun k fe le => fn_body (G := gb P0 w mg base (kt K)) (f := 14) (N := n14) F sc14 rfl rfl fun cd hcd lk A outer s H E hr => ?_, F.bindsN fun _ _ _ _ _ _ us hl => match us, hl with | [_, _], _ => rfl, He.glo_ok X G (c.t.d.fact 14 (f := .glo "_law_draw") rfl), F.kp⟩
  exact d14 (gmOf X G c) fe
theorem e15 {base : Heap} (X : K.In h) (G : h.Ns mainGlobals mg) (c : He.SaysX hfa hfn [] htf hex w h K) (TB : ∀ r ∈ tq.map (fun r => He.cT K r.1), TabB base mg r.1 r.2) : ∃ fd ps, (∀ k, FnAll (gb P0 w mg base (kt K)) fnames k → LamAll (gb P0 w mg base (kt K)) lamds k → FnOk P0 w K mg base (L2.CX P0 w) (5 * (k + 1)) (He.ga K "_law_some") fd ps (spD (kt K) (callF P (k + 1)) (.fn 15))) ∧ Binds K fd ps [] ∧ mg "_law_some" = some (.ref (He.ga K "_law_some")) ∧ PySem.W.keepIn K (.ref (He.ga K "_law_some")) = true := by
  obtain ⟨fd, F⟩ := c.t.d.def_ 15 (d := hd15) rfl
  refine ⟨fd, ["hand", "things"], fun k fe le => fn_body (G := gb P0 w mg base (kt K)) (f := 15) (N := n15) F sc15 rfl rfl fun cd hcd lk A outer s H E hr => ?_, F.bindsN fun _ _ _ _ _ _ us hl => match us, hl with | [_, _], _ => rfl, He.glo_ok X G (c.t.d.fact 15 (f := .glo "_law_some") rfl), F.kp⟩
  exact d15 (gmOf X G c) fe
theorem e16 {base : Heap} (X : K.In h) (G : h.Ns mainGlobals mg) (c : He.SaysX hfa hfn [] htf hex w h K) (TB : ∀ r ∈ tq.map (fun r => He.cT K r.1), TabB base mg r.1 r.2) : ∃ fd ps, (∀ k, FnAll (gb P0 w mg base (kt K)) fnames k → LamAll (gb P0 w mg base (kt K)) lamds k → FnOk P0 w K mg base (L2.CX P0 w) (5 * (k + 1)) (He.ga K "_law_is") fd ps (spD (kt K) (callF P (k + 1)) (.fn 16))) ∧ Binds K fd ps [] ∧ mg "_law_is" = some (.ref (He.ga K "_law_is")) ∧ PySem.W.keepIn K (.ref (He.ga K "_law_is")) = true := by
  obtain ⟨fd, F⟩ := c.t.d.def_ 16 (d := hd16) rfl
  refine ⟨fd, ["thing", "due"], fun k fe le => fn_body (G := gb P0 w mg base (kt K)) (f := 16) (N := n16) F sc16 rfl rfl fun cd hcd lk A outer s H E hr => ?_, F.bindsN fun _ _ _ _ _ _ us hl => match us, hl with | [_, _], _ => rfl, He.glo_ok X G (c.t.d.fact 16 (f := .glo "_law_is") rfl), F.kp⟩
  exact d16 (gmOf X G c) fe
theorem e17 {base : Heap} (X : K.In h) (G : h.Ns mainGlobals mg) (c : He.SaysX hfa hfn [] htf hex w h K) (TB : ∀ r ∈ tq.map (fun r => He.cT K r.1), TabB base mg r.1 r.2) : ∃ fd ps, (∀ k, FnAll (gb P0 w mg base (kt K)) fnames k → LamAll (gb P0 w mg base (kt K)) lamds k → FnOk P0 w K mg base (L2.CX P0 w) (5 * (k + 1)) (He.ga K "_law_hand") fd ps (spD (kt K) (callF P (k + 1)) (.fn 17))) ∧ Binds K fd ps [] ∧ mg "_law_hand" = some (.ref (He.ga K "_law_hand")) ∧ PySem.W.keepIn K (.ref (He.ga K "_law_hand")) = true := by
  obtain ⟨fd, F⟩ := c.t.d.def_ 17 (d := hd17) rfl
  refine ⟨fd, ["script"], fun k fe le => fn_body (G := gb P0 w mg base (kt K)) (f := 17) (N := n17) F sc17 rfl rfl fun cd hcd lk A outer s H E hr => ?_, F.bindsN fun _ _ _ _ _ _ us hl => match us, hl with | [_], _ => rfl, He.glo_ok X G (c.t.d.fact 17 (f := .glo "_law_hand") rfl), F.kp⟩
  exact d17 (gmOf X G c) fe
theorem e18 {base : Heap} (X : K.In h) (G : h.Ns mainGlobals mg) (c : He.SaysX hfa hfn [] htf hex w h K) (TB : ∀ r ∈ tq.map (fun r => He.cT K r.1), TabB base mg r.1 r.2) : ∃ fd ps, (∀ k, FnAll (gb P0 w mg base (kt K)) fnames k → LamAll (gb P0 w mg base (kt K)) lamds k → FnOk P0 w K mg base (L2.CX P0 w) (5 * (k + 1)) (He.ga K "_law_deep") fd ps (spD (kt K) (callF P (k + 1)) (.fn 18))) ∧ Binds K fd ps [] ∧ mg "_law_deep" = some (.ref (He.ga K "_law_deep")) ∧ PySem.W.keepIn K (.ref (He.ga K "_law_deep")) = true := by
  obtain ⟨fd, F⟩ := c.t.d.def_ 18 (d := hd18) rfl
  refine ⟨fd, ["hand"], fun k fe le => fn_body (G := gb P0 w mg base (kt K)) (f := 18) (N := n18) F sc18 rfl rfl fun cd hcd lk A outer s H E hr => ?_, F.bindsN fun _ _ _ _ _ _ us hl => match us, hl with | [_], _ => rfl, He.glo_ok X G (c.t.d.fact 18 (f := .glo "_law_deep") rfl), F.kp⟩
  exact d18 (gmOf X G c) fe
theorem e19 {base : Heap} (X : K.In h) (G : h.Ns mainGlobals mg) (c : He.SaysX hfa hfn [] htf hex w h K) (TB : ∀ r ∈ tq.map (fun r => He.cT K r.1), TabB base mg r.1 r.2) : ∃ fd ps, (∀ k, FnAll (gb P0 w mg base (kt K)) fnames k → LamAll (gb P0 w mg base (kt K)) lamds k → FnOk P0 w K mg base (L2.CX P0 w) (5 * (k + 1)) (He.ga K "_law_drawn_word") fd ps (spD (kt K) (callF P (k + 1)) (.fn 19))) ∧ Binds K fd ps [] ∧ mg "_law_drawn_word" = some (.ref (He.ga K "_law_drawn_word")) ∧ PySem.W.keepIn K (.ref (He.ga K "_law_drawn_word")) = true := by
  obtain ⟨fd, F⟩ := c.t.d.def_ 19 (d := hd19) rfl
  refine ⟨fd, ["hand", "letters", "most"], fun k fe le => fn_body (G := gb P0 w mg base (kt K)) (f := 19) (N := n19) F sc19 rfl rfl fun cd hcd lk A outer s H E hr => ?_, F.bindsN fun _ _ _ _ _ _ us hl => match us, hl with | [_, _, _], _ => rfl, He.glo_ok X G (c.t.d.fact 19 (f := .glo "_law_drawn_word") rfl), F.kp⟩
  exact d19 (gmOf X G c) fe
theorem e20 {base : Heap} (X : K.In h) (G : h.Ns mainGlobals mg) (c : He.SaysX hfa hfn [] htf hex w h K) (TB : ∀ r ∈ tq.map (fun r => He.cT K r.1), TabB base mg r.1 r.2) : ∃ fd ps, (∀ k, FnAll (gb P0 w mg base (kt K)) fnames k → LamAll (gb P0 w mg base (kt K)) lamds k → FnOk P0 w K mg base (L2.CX P0 w) (5 * (k + 1)) (He.ga K "_law_key") fd ps (spD (kt K) (callF P (k + 1)) (.fn 20))) ∧ Binds K fd ps [] ∧ mg "_law_key" = some (.ref (He.ga K "_law_key")) ∧ PySem.W.keepIn K (.ref (He.ga K "_law_key")) = true := by
  obtain ⟨fd, F⟩ := c.t.d.def_ 20 (d := hd20) rfl
  refine ⟨fd, ["word"], fun k fe le => fn_body (G := gb P0 w mg base (kt K)) (f := 20) (N := n20) F sc20 rfl rfl fun cd hcd lk A outer s H E hr => ?_, F.bindsN fun _ _ _ _ _ _ us hl => match us, hl with | [_], _ => rfl, He.glo_ok X G (c.t.d.fact 20 (f := .glo "_law_key") rfl), F.kp⟩
  exact d20 (gmOf X G c) fe
theorem e21 {base : Heap} (X : K.In h) (G : h.Ns mainGlobals mg) (c : He.SaysX hfa hfn [] htf hex w h K) (TB : ∀ r ∈ tq.map (fun r => He.cT K r.1), TabB base mg r.1 r.2) : ∃ fd ps, (∀ k, FnAll (gb P0 w mg base (kt K)) fnames k → LamAll (gb P0 w mg base (kt K)) lamds k → FnOk P0 w K mg base (L2.CX P0 w) (5 * (k + 1)) (He.ga K "_law_rules") fd ps (spD (kt K) (callF P (k + 1)) (.fn 21))) ∧ Binds K fd ps [] ∧ mg "_law_rules" = some (.ref (He.ga K "_law_rules")) ∧ PySem.W.keepIn K (.ref (He.ga K "_law_rules")) = true := by
  obtain ⟨fd, F⟩ := c.t.d.def_ 21 (d := hd21) rfl
  refine ⟨fd, ["hand", "letters", "most", "long", "short"], fun k fe le => fn_body (G := gb P0 w mg base (kt K)) (f := 21) (N := n21) F sc21 rfl rfl fun cd hcd lk A outer s H E hr => ?_, F.bindsN fun _ _ _ _ _ _ us hl => match us, hl with | [_, _, _, _, _], _ => rfl, He.glo_ok X G (c.t.d.fact 21 (f := .glo "_law_rules") rfl), F.kp⟩
  exact d21 (gmOf X G c) fe
theorem e22 {base : Heap} (X : K.In h) (G : h.Ns mainGlobals mg) (c : He.SaysX hfa hfn [] htf hex w h K) (TB : ∀ r ∈ tq.map (fun r => He.cT K r.1), TabB base mg r.1 r.2) : ∃ fd ps, (∀ k, FnAll (gb P0 w mg base (kt K)) fnames k → LamAll (gb P0 w mg base (kt K)) lamds k → FnOk P0 w K mg base (L2.CX P0 w) (5 * (k + 1)) (He.ga K "_law_stepped") fd ps (spD (kt K) (callF P (k + 1)) (.fn 22))) ∧ Binds K fd ps [] ∧ mg "_law_stepped" = some (.ref (He.ga K "_law_stepped")) ∧ PySem.W.keepIn K (.ref (He.ga K "_law_stepped")) = true := by
  obtain ⟨fd, F⟩ := c.t.d.def_ 22 (d := hd22) rfl
  refine ⟨fd, ["rules", "word"], fun k fe le => fn_body (G := gb P0 w mg base (kt K)) (f := 22) (N := n22) F sc22 rfl rfl fun cd hcd lk A outer s H E hr => ?_, F.bindsN fun _ _ _ _ _ _ us hl => match us, hl with | [_, _], _ => rfl, He.glo_ok X G (c.t.d.fact 22 (f := .glo "_law_stepped") rfl), F.kp⟩
  exact d22 (gmOf X G c) fe
theorem e23 {base : Heap} (X : K.In h) (G : h.Ns mainGlobals mg) (c : He.SaysX hfa hfn [] htf hex w h K) (TB : ∀ r ∈ tq.map (fun r => He.cT K r.1), TabB base mg r.1 r.2) : ∃ fd ps, (∀ k, FnAll (gb P0 w mg base (kt K)) fnames k → LamAll (gb P0 w mg base (kt K)) lamds k → FnOk P0 w K mg base (L2.CX P0 w) (5 * (k + 1)) (He.ga K "_law_last") fd ps (spD (kt K) (callF P (k + 1)) (.fn 23))) ∧ Binds K fd ps [] ∧ mg "_law_last" = some (.ref (He.ga K "_law_last")) ∧ PySem.W.keepIn K (.ref (He.ga K "_law_last")) = true := by
  obtain ⟨fd, F⟩ := c.t.d.def_ 23 (d := hd23) rfl
  refine ⟨fd, ["rules", "word"], fun k fe le => fn_body (G := gb P0 w mg base (kt K)) (f := 23) (N := n23) F sc23 rfl rfl fun cd hcd lk A outer s H E hr => ?_, F.bindsN fun _ _ _ _ _ _ us hl => match us, hl with | [_, _], _ => rfl, He.glo_ok X G (c.t.d.fact 23 (f := .glo "_law_last") rfl), F.kp⟩
  exact d23 (gmOf X G c) fe
theorem e24 {base : Heap} (X : K.In h) (G : h.Ns mainGlobals mg) (c : He.SaysX hfa hfn [] htf hex w h K) (TB : ∀ r ∈ tq.map (fun r => He.cT K r.1), TabB base mg r.1 r.2) : ∃ fd ps, (∀ k, FnAll (gb P0 w mg base (kt K)) fnames k → LamAll (gb P0 w mg base (kt K)) lamds k → FnOk P0 w K mg base (L2.CX P0 w) (5 * (k + 1)) (He.ga K "_law_all_behind") fd ps (spD (kt K) (callF P (k + 1)) (.fn 24))) ∧ Binds K fd ps [] ∧ mg "_law_all_behind" = some (.ref (He.ga K "_law_all_behind")) ∧ PySem.W.keepIn K (.ref (He.ga K "_law_all_behind")) = true := by
  obtain ⟨fd, F⟩ := c.t.d.def_ 24 (d := hd24) rfl
  refine ⟨fd, ["rules", "word"], fun k fe le => fn_body (G := gb P0 w mg base (kt K)) (f := 24) (N := n24) F sc24 rfl rfl fun cd hcd lk A outer s H E hr => ?_, F.bindsN fun _ _ _ _ _ _ us hl => match us, hl with | [_, _], _ => rfl, He.glo_ok X G (c.t.d.fact 24 (f := .glo "_law_all_behind") rfl), F.kp⟩
  exact d24 (gmOf X G c) fe
theorem e25 {base : Heap} (X : K.In h) (G : h.Ns mainGlobals mg) (c : He.SaysX hfa hfn [] htf hex w h K) (TB : ∀ r ∈ tq.map (fun r => He.cT K r.1), TabB base mg r.1 r.2) : ∃ fd ps, (∀ k, FnAll (gb P0 w mg base (kt K)) fnames k → LamAll (gb P0 w mg base (kt K)) lamds k → FnOk P0 w K mg base (L2.CX P0 w) (5 * (k + 1)) (He.ga K "_law_ends") fd ps (spD (kt K) (callF P (k + 1)) (.fn 25))) ∧ Binds K fd ps [] ∧ mg "_law_ends" = some (.ref (He.ga K "_law_ends")) ∧ PySem.W.keepIn K (.ref (He.ga K "_law_ends")) = true := by
  obtain ⟨fd, F⟩ := c.t.d.def_ 25 (d := hd25) rfl
  refine ⟨fd, ["rules", "word"], fun k fe le => fn_body (G := gb P0 w mg base (kt K)) (f := 25) (N := n25) F sc25 rfl rfl fun cd hcd lk A outer s H E hr => ?_, F.bindsN fun _ _ _ _ _ _ us hl => match us, hl with | [_, _], _ => rfl, He.glo_ok X G (c.t.d.fact 25 (f := .glo "_law_ends") rfl), F.kp⟩
  exact d25 (gmOf X G c) fe
theorem e26 {base : Heap} (X : K.In h) (G : h.Ns mainGlobals mg) (c : He.SaysX hfa hfn [] htf hex w h K) (TB : ∀ r ∈ tq.map (fun r => He.cT K r.1), TabB base mg r.1 r.2) : ∃ fd ps, (∀ k, FnAll (gb P0 w mg base (kt K)) fnames k → LamAll (gb P0 w mg base (kt K)) lamds k → FnOk P0 w K mg base (L2.CX P0 w) (5 * (k + 1)) (He.ga K "_law_refusal") fd ps (spD (kt K) (callF P (k + 1)) (.fn 26))) ∧ Binds K fd ps [] ∧ mg "_law_refusal" = some (.ref (He.ga K "_law_refusal")) ∧ PySem.W.keepIn K (.ref (He.ga K "_law_refusal")) = true := by
  obtain ⟨fd, F⟩ := c.t.d.def_ 26 (d := hd26) rfl
  refine ⟨fd, ["asked"], fun k fe le => fn_never (G := gb P0 w mg base (kt K)) (f := 26) fun vs => ?_, F.bindsN fun _ _ _ _ _ _ us hl => match us, hl with | [_], _ => rfl, He.glo_ok X G (c.t.d.fact 26 (f := .glo "_law_refusal") rfl), F.kp⟩
  show runF P (callF P k) f26.np f26.n f26.body vs = none
  unfold runF
  split <;> rfl
theorem e27 {base : Heap} (X : K.In h) (G : h.Ns mainGlobals mg) (c : He.SaysX hfa hfn [] htf hex w h K) (TB : ∀ r ∈ tq.map (fun r => He.cT K r.1), TabB base mg r.1 r.2) : ∃ fd ps, (∀ k, FnAll (gb P0 w mg base (kt K)) fnames k → LamAll (gb P0 w mg base (kt K)) lamds k → FnOk P0 w K mg base (L2.CX P0 w) (5 * (k + 1)) (He.ga K "_law_no_rules") fd ps (spD (kt K) (callF P (k + 1)) (.fn 27))) ∧ Binds K fd ps [] ∧ mg "_law_no_rules" = some (.ref (He.ga K "_law_no_rules")) ∧ PySem.W.keepIn K (.ref (He.ga K "_law_no_rules")) = true := by
  obtain ⟨fd, F⟩ := c.t.d.def_ 27 (d := hd27) rfl
  refine ⟨fd, ["hand", "rules"], fun k fe le => fn_body (G := gb P0 w mg base (kt K)) (f := 27) (N := n27) F sc27 rfl rfl fun cd hcd lk A outer s H E hr => ?_, F.bindsN fun _ _ _ _ _ _ us hl => match us, hl with | [_, _], _ => rfl, He.glo_ok X G (c.t.d.fact 27 (f := .glo "_law_no_rules") rfl), F.kp⟩
  exact d27 (gmOf X G c) fe
theorem e28 {base : Heap} (X : K.In h) (G : h.Ns mainGlobals mg) (c : He.SaysX hfa hfn [] htf hex w h K) (TB : ∀ r ∈ tq.map (fun r => He.cT K r.1), TabB base mg r.1 r.2) : ∃ fd ps, (∀ k, FnAll (gb P0 w mg base (kt K)) fnames k → LamAll (gb P0 w mg base (kt K)) lamds k → FnOk P0 w K mg base (L2.CX P0 w) (5 * (k + 1)) (He.ga K "_law_are_refused") fd ps (spD (kt K) (callF P (k + 1)) (.fn 28))) ∧ Binds K fd ps [] ∧ mg "_law_are_refused" = some (.ref (He.ga K "_law_are_refused")) ∧ PySem.W.keepIn K (.ref (He.ga K "_law_are_refused")) = true := by
  obtain ⟨fd, F⟩ := c.t.d.def_ 28 (d := hd28) rfl
  refine ⟨fd, ["hand"], fun k fe le => fn_body (G := gb P0 w mg base (kt K)) (f := 28) (N := n28) F sc28 rfl rfl fun cd hcd lk A outer s H E hr => ?_, F.bindsN fun _ _ _ _ _ _ us hl => match us, hl with | [_], _ => rfl, He.glo_ok X G (c.t.d.fact 28 (f := .glo "_law_are_refused") rfl), F.kp⟩
  exact d28 (gmOf X G c) fe (rfG X G c) (tbAt_of (G := gb P0 w mg base (kt K)) (tq := tq) (p := ("_law_are_refused", none)) rfl (by simp [tq]) (tabs_nd c) TB F hcd)
theorem e29 {base : Heap} (X : K.In h) (G : h.Ns mainGlobals mg) (c : He.SaysX hfa hfn [] htf hex w h K) (TB : ∀ r ∈ tq.map (fun r => He.cT K r.1), TabB base mg r.1 r.2) : ∃ fd ps, (∀ k, FnAll (gb P0 w mg base (kt K)) fnames k → LamAll (gb P0 w mg base (kt K)) lamds k → FnOk P0 w K mg base (L2.CX P0 w) (5 * (k + 1)) (He.ga K "_law_is_told_right") fd ps (spD (kt K) (callF P (k + 1)) (.fn 29))) ∧ Binds K fd ps [] ∧ mg "_law_is_told_right" = some (.ref (He.ga K "_law_is_told_right")) ∧ PySem.W.keepIn K (.ref (He.ga K "_law_is_told_right")) = true := by
  obtain ⟨fd, F⟩ := c.t.d.def_ 29 (d := hd29) rfl
  refine ⟨fd, ["hand", "letters"], fun k fe le => fn_body (G := gb P0 w mg base (kt K)) (f := 29) (N := n29) F sc29 rfl rfl fun cd hcd lk A outer s H E hr => ?_, F.bindsN fun _ _ _ _ _ _ us hl => match us, hl with | [_, _], _ => rfl, He.glo_ok X G (c.t.d.fact 29 (f := .glo "_law_is_told_right") rfl), F.kp⟩
  exact d29 (gmOf X G c) fe
theorem e30 {base : Heap} (X : K.In h) (G : h.Ns mainGlobals mg) (c : He.SaysX hfa hfn [] htf hex w h K) (TB : ∀ r ∈ tq.map (fun r => He.cT K r.1), TabB base mg r.1 r.2) : ∃ fd ps, (∀ k, FnAll (gb P0 w mg base (kt K)) fnames k → LamAll (gb P0 w mg base (kt K)) lamds k → FnOk P0 w K mg base (L2.CX P0 w) (5 * (k + 1)) (He.ga K "law") fd ps (spD (kt K) (callF P (k + 1)) (.fn 30))) ∧ Binds K fd ps [] ∧ mg "law" = some (.ref (He.ga K "law")) ∧ PySem.W.keepIn K (.ref (He.ga K "law")) = true := by
  obtain ⟨fd, F⟩ := c.t.d.def_ 30 (d := hd30) rfl
  refine ⟨fd, ["script"], fun k fe le => fn_body (G := gb P0 w mg base (kt K)) (f := 30) (N := n30) F sc30 rfl rfl fun cd hcd lk A outer s H E hr => ?_, F.bindsN fun _ _ _ _ _ _ us hl => match us, hl with | [_], _ => rfl, He.glo_ok X G (c.t.d.fact 30 (f := .glo "law") rfl), F.kp⟩
  exact d30 (gmOf X G c) fe
theorem lams_step {base : Heap} (gm : Gm mg (kt K)) {k : Nat} (fe : FnAll (gb P0 w mg base (kt K)) fnames k) : LamAll (gb P0 w mg base (kt K)) lamds (k + 1)
  | 0, L, hL => by
    cases hL
    exact lam_body (G := gb P0 w mg base (kt K)) (N := nl0) (x := lx0) scl0 rfl (fun _ _ _ us hl => match us, hl with | [_], _ => rfl) fun c f A outer s H E hr => dl0 gm fe
  | _ + 1, L, hL => by cases hL
theorem all {base : Heap} (X : K.In h) (G : h.Ns mainGlobals mg) (c : He.SaysX hfa hfn [] htf hex w h K) (TB : ∀ r ∈ tq.map (fun r => He.cT K r.1), TabB base mg r.1 r.2) : ∀ k, FnAll (gb P0 w mg base (kt K)) fnames k ∧ LamAll (gb P0 w mg base (kt K)) lamds k := by
  intro k
  induction k with
  | zero =>
    refine ⟨fun f nm hf => ?_, lam_zero⟩
    match f, hf with
    | 0, hf =>
      cases hf
      obtain ⟨fd, ps, _, b, m, kp⟩ := e0 (P0 := P0) X G c TB
      exact ⟨⟨fd, ps, fn_zero, b⟩, m, kp⟩
    | 1, hf =>
      cases hf
      obtain ⟨fd, ps, _, b, m, kp⟩ := e1 (P0 := P0) X G c TB
      exact ⟨⟨fd, ps, fn_zero, b⟩, m, kp⟩
    | 2, hf =>
      cases hf
      obtain ⟨fd, ps, _, b, m, kp⟩ := e2 (P0 := P0) X G c TB
      exact ⟨⟨fd, ps, fn_zero, b⟩, m, kp⟩
    | 3, hf =>
      cases hf
      obtain ⟨fd, ps, _, b, m, kp⟩ := e3 (P0 := P0) X G c TB
      exact ⟨⟨fd, ps, fn_zero, b⟩, m, kp⟩
    | 4, hf =>
      cases hf
      obtain ⟨fd, ps, _, b, m, kp⟩ := e4 (P0 := P0) X G c TB
      exact ⟨⟨fd, ps, fn_zero, b⟩, m, kp⟩
    | 5, hf =>
      cases hf
      obtain ⟨fd, ps, _, b, m, kp⟩ := e5 (P0 := P0) X G c TB
      exact ⟨⟨fd, ps, fn_zero, b⟩, m, kp⟩
    | 6, hf =>
      cases hf
      obtain ⟨fd, ps, _, b, m, kp⟩ := e6 (P0 := P0) X G c TB
      exact ⟨⟨fd, ps, fn_zero, b⟩, m, kp⟩
    | 7, hf =>
      cases hf
      obtain ⟨fd, ps, _, b, m, kp⟩ := e7 (P0 := P0) X G c TB
      exact ⟨⟨fd, ps, fn_zero, b⟩, m, kp⟩
    | 8, hf =>
      cases hf
      obtain ⟨fd, ps, _, b, m, kp⟩ := e8 (P0 := P0) X G c TB
      exact ⟨⟨fd, ps, fn_zero, b⟩, m, kp⟩
    | 9, hf =>
      cases hf
      obtain ⟨fd, ps, _, b, m, kp⟩ := e9 (P0 := P0) X G c TB
      exact ⟨⟨fd, ps, fn_zero, b⟩, m, kp⟩
    | 10, hf =>
      cases hf
      obtain ⟨fd, ps, _, b, m, kp⟩ := e10 (P0 := P0) X G c TB
      exact ⟨⟨fd, ps, fn_zero, b⟩, m, kp⟩
    | 11, hf =>
      cases hf
      obtain ⟨fd, ps, _, b, m, kp⟩ := e11 (P0 := P0) X G c TB
      exact ⟨⟨fd, ps, fn_zero, b⟩, m, kp⟩
    | 12, hf =>
      cases hf
      obtain ⟨fd, ps, _, b, m, kp⟩ := e12 (P0 := P0) X G c TB
      exact ⟨⟨fd, ps, fn_zero, b⟩, m, kp⟩
    | 13, hf =>
      cases hf
      obtain ⟨fd, ps, _, b, m, kp⟩ := e13 (P0 := P0) X G c TB
      exact ⟨⟨fd, ps, fn_zero, b⟩, m, kp⟩
    | 14, hf =>
      cases hf
      obtain ⟨fd, ps, _, b, m, kp⟩ := e14 (P0 := P0) X G c TB
      exact ⟨⟨fd, ps, fn_zero, b⟩, m, kp⟩
    | 15, hf =>
      cases hf
      obtain ⟨fd, ps, _, b, m, kp⟩ := e15 (P0 := P0) X G c TB
      exact ⟨⟨fd, ps, fn_zero, b⟩, m, kp⟩
    | 16, hf =>
      cases hf
      obtain ⟨fd, ps, _, b, m, kp⟩ := e16 (P0 := P0) X G c TB
      exact ⟨⟨fd, ps, fn_zero, b⟩, m, kp⟩
    | 17, hf =>
      cases hf
      obtain ⟨fd, ps, _, b, m, kp⟩ := e17 (P0 := P0) X G c TB
      exact ⟨⟨fd, ps, fn_zero, b⟩, m, kp⟩
    | 18, hf =>
      cases hf
      obtain ⟨fd, ps, _, b, m, kp⟩ := e18 (P0 := P0) X G c TB
      exact ⟨⟨fd, ps, fn_zero, b⟩, m, kp⟩
    | 19, hf =>
      cases hf
      obtain ⟨fd, ps, _, b, m, kp⟩ := e19 (P0 := P0) X G c TB
      exact ⟨⟨fd, ps, fn_zero, b⟩, m, kp⟩
    | 20, hf =>
      cases hf
      obtain ⟨fd, ps, _, b, m, kp⟩ := e20 (P0 := P0) X G c TB
      exact ⟨⟨fd, ps, fn_zero, b⟩, m, kp⟩
    | 21, hf =>
      cases hf
      obtain ⟨fd, ps, _, b, m, kp⟩ := e21 (P0 := P0) X G c TB
      exact ⟨⟨fd, ps, fn_zero, b⟩, m, kp⟩
    | 22, hf =>
      cases hf
      obtain ⟨fd, ps, _, b, m, kp⟩ := e22 (P0 := P0) X G c TB
      exact ⟨⟨fd, ps, fn_zero, b⟩, m, kp⟩
    | 23, hf =>
      cases hf
      obtain ⟨fd, ps, _, b, m, kp⟩ := e23 (P0 := P0) X G c TB
      exact ⟨⟨fd, ps, fn_zero, b⟩, m, kp⟩
    | 24, hf =>
      cases hf
      obtain ⟨fd, ps, _, b, m, kp⟩ := e24 (P0 := P0) X G c TB
      exact ⟨⟨fd, ps, fn_zero, b⟩, m, kp⟩
    | 25, hf =>
      cases hf
      obtain ⟨fd, ps, _, b, m, kp⟩ := e25 (P0 := P0) X G c TB
      exact ⟨⟨fd, ps, fn_zero, b⟩, m, kp⟩
    | 26, hf =>
      cases hf
      obtain ⟨fd, ps, _, b, m, kp⟩ := e26 (P0 := P0) X G c TB
      exact ⟨⟨fd, ps, fn_zero, b⟩, m, kp⟩
    | 27, hf =>
      cases hf
      obtain ⟨fd, ps, _, b, m, kp⟩ := e27 (P0 := P0) X G c TB
      exact ⟨⟨fd, ps, fn_zero, b⟩, m, kp⟩
    | 28, hf =>
      cases hf
      obtain ⟨fd, ps, _, b, m, kp⟩ := e28 (P0 := P0) X G c TB
      exact ⟨⟨fd, ps, fn_zero, b⟩, m, kp⟩
    | 29, hf =>
      cases hf
      obtain ⟨fd, ps, _, b, m, kp⟩ := e29 (P0 := P0) X G c TB
      exact ⟨⟨fd, ps, fn_zero, b⟩, m, kp⟩
    | 30, hf =>
      cases hf
      obtain ⟨fd, ps, _, b, m, kp⟩ := e30 (P0 := P0) X G c TB
      exact ⟨⟨fd, ps, fn_zero, b⟩, m, kp⟩
    | _ + 31, hf => cases hf
  | succ k ih =>
    refine ⟨fun f nm hf => ?_, lams_step (gmOf X G c) ih.1⟩
    match f, hf with
    | 0, hf =>
      cases hf
      obtain ⟨fd, ps, q, b, m, kp⟩ := e0 (P0 := P0) X G c TB
      exact ⟨⟨fd, ps, q k ih.1 ih.2, b⟩, m, kp⟩
    | 1, hf =>
      cases hf
      obtain ⟨fd, ps, q, b, m, kp⟩ := e1 (P0 := P0) X G c TB
      exact ⟨⟨fd, ps, q k ih.1 ih.2, b⟩, m, kp⟩
    | 2, hf =>
      cases hf
      obtain ⟨fd, ps, q, b, m, kp⟩ := e2 (P0 := P0) X G c TB
      exact ⟨⟨fd, ps, q k ih.1 ih.2, b⟩, m, kp⟩
    | 3, hf =>
      cases hf
      obtain ⟨fd, ps, q, b, m, kp⟩ := e3 (P0 := P0) X G c TB
      exact ⟨⟨fd, ps, q k ih.1 ih.2, b⟩, m, kp⟩
    | 4, hf =>
      cases hf
      obtain ⟨fd, ps, q, b, m, kp⟩ := e4 (P0 := P0) X G c TB
      exact ⟨⟨fd, ps, q k ih.1 ih.2, b⟩, m, kp⟩
    | 5, hf =>
      cases hf
      obtain ⟨fd, ps, q, b, m, kp⟩ := e5 (P0 := P0) X G c TB
      exact ⟨⟨fd, ps, q k ih.1 ih.2, b⟩, m, kp⟩
    | 6, hf =>
      cases hf
      obtain ⟨fd, ps, q, b, m, kp⟩ := e6 (P0 := P0) X G c TB
      exact ⟨⟨fd, ps, q k ih.1 ih.2, b⟩, m, kp⟩
    | 7, hf =>
      cases hf
      obtain ⟨fd, ps, q, b, m, kp⟩ := e7 (P0 := P0) X G c TB
      exact ⟨⟨fd, ps, q k ih.1 ih.2, b⟩, m, kp⟩
    | 8, hf =>
      cases hf
      obtain ⟨fd, ps, q, b, m, kp⟩ := e8 (P0 := P0) X G c TB
      exact ⟨⟨fd, ps, q k ih.1 ih.2, b⟩, m, kp⟩
    | 9, hf =>
      cases hf
      obtain ⟨fd, ps, q, b, m, kp⟩ := e9 (P0 := P0) X G c TB
      exact ⟨⟨fd, ps, q k ih.1 ih.2, b⟩, m, kp⟩
    | 10, hf =>
      cases hf
      obtain ⟨fd, ps, q, b, m, kp⟩ := e10 (P0 := P0) X G c TB
      exact ⟨⟨fd, ps, q k ih.1 ih.2, b⟩, m, kp⟩
    | 11, hf =>
      cases hf
      obtain ⟨fd, ps, q, b, m, kp⟩ := e11 (P0 := P0) X G c TB
      exact ⟨⟨fd, ps, q k ih.1 ih.2, b⟩, m, kp⟩
    | 12, hf =>
      cases hf
      obtain ⟨fd, ps, q, b, m, kp⟩ := e12 (P0 := P0) X G c TB
      exact ⟨⟨fd, ps, q k ih.1 ih.2, b⟩, m, kp⟩
    | 13, hf =>
      cases hf
      obtain ⟨fd, ps, q, b, m, kp⟩ := e13 (P0 := P0) X G c TB
      exact ⟨⟨fd, ps, q k ih.1 ih.2, b⟩, m, kp⟩
    | 14, hf =>
      cases hf
      obtain ⟨fd, ps, q, b, m, kp⟩ := e14 (P0 := P0) X G c TB
      exact ⟨⟨fd, ps, q k ih.1 ih.2, b⟩, m, kp⟩
    | 15, hf =>
      cases hf
      obtain ⟨fd, ps, q, b, m, kp⟩ := e15 (P0 := P0) X G c TB
      exact ⟨⟨fd, ps, q k ih.1 ih.2, b⟩, m, kp⟩
    | 16, hf =>
      cases hf
      obtain ⟨fd, ps, q, b, m, kp⟩ := e16 (P0 := P0) X G c TB
      exact ⟨⟨fd, ps, q k ih.1 ih.2, b⟩, m, kp⟩
    | 17, hf =>
      cases hf
      obtain ⟨fd, ps, q, b, m, kp⟩ := e17 (P0 := P0) X G c TB
      exact ⟨⟨fd, ps, q k ih.1 ih.2, b⟩, m, kp⟩
    | 18, hf =>
      cases hf
      obtain ⟨fd, ps, q, b, m, kp⟩ := e18 (P0 := P0) X G c TB
      exact ⟨⟨fd, ps, q k ih.1 ih.2, b⟩, m, kp⟩
    | 19, hf =>
      cases hf
      obtain ⟨fd, ps, q, b, m, kp⟩ := e19 (P0 := P0) X G c TB
      exact ⟨⟨fd, ps, q k ih.1 ih.2, b⟩, m, kp⟩
    | 20, hf =>
      cases hf
      obtain ⟨fd, ps, q, b, m, kp⟩ := e20 (P0 := P0) X G c TB
      exact ⟨⟨fd, ps, q k ih.1 ih.2, b⟩, m, kp⟩
    | 21, hf =>
      cases hf
      obtain ⟨fd, ps, q, b, m, kp⟩ := e21 (P0 := P0) X G c TB
      exact ⟨⟨fd, ps, q k ih.1 ih.2, b⟩, m, kp⟩
    | 22, hf =>
      cases hf
      obtain ⟨fd, ps, q, b, m, kp⟩ := e22 (P0 := P0) X G c TB
      exact ⟨⟨fd, ps, q k ih.1 ih.2, b⟩, m, kp⟩
    | 23, hf =>
      cases hf
      obtain ⟨fd, ps, q, b, m, kp⟩ := e23 (P0 := P0) X G c TB
      exact ⟨⟨fd, ps, q k ih.1 ih.2, b⟩, m, kp⟩
    | 24, hf =>
      cases hf
      obtain ⟨fd, ps, q, b, m, kp⟩ := e24 (P0 := P0) X G c TB
      exact ⟨⟨fd, ps, q k ih.1 ih.2, b⟩, m, kp⟩
    | 25, hf =>
      cases hf
      obtain ⟨fd, ps, q, b, m, kp⟩ := e25 (P0 := P0) X G c TB
      exact ⟨⟨fd, ps, q k ih.1 ih.2, b⟩, m, kp⟩
    | 26, hf =>
      cases hf
      obtain ⟨fd, ps, q, b, m, kp⟩ := e26 (P0 := P0) X G c TB
      exact ⟨⟨fd, ps, q k ih.1 ih.2, b⟩, m, kp⟩
    | 27, hf =>
      cases hf
      obtain ⟨fd, ps, q, b, m, kp⟩ := e27 (P0 := P0) X G c TB
      exact ⟨⟨fd, ps, q k ih.1 ih.2, b⟩, m, kp⟩
    | 28, hf =>
      cases hf
      obtain ⟨fd, ps, q, b, m, kp⟩ := e28 (P0 := P0) X G c TB
      exact ⟨⟨fd, ps, q k ih.1 ih.2, b⟩, m, kp⟩
    | 29, hf =>
      cases hf
      obtain ⟨fd, ps, q, b, m, kp⟩ := e29 (P0 := P0) X G c TB
      exact ⟨⟨fd, ps, q k ih.1 ih.2, b⟩, m, kp⟩
    | 30, hf =>
      cases hf
      obtain ⟨fd, ps, q, b, m, kp⟩ := e30 (P0 := P0) X G c TB
      exact ⟨⟨fd, ps, q k ih.1 ih.2, b⟩, m, kp⟩
    | _ + 31, hf => cases hf
end
end Pk90
end
section
set_option Elab.async false
set_option linter.all false
set_option maxRecDepth 100000
set_option maxHeartbeats 4000000
namespace Pk90
open Dp PySem PySem.Spec PyProof.Rows L2 NdefX LamX Dk
/-- the plain law -/
def Plain : Prop := ∀ ns : List Int, ns.length ≤ 63 → ∃ ps, callF P 20 (.fn 30) [.frz (.scr (ns.map D.int))] = some (.ok (.frz (.bl true)), ps)
/-- what never changes: all but the tables -/
def frz0 (H : Hp) : Hp := fun p => match H p with
  | some (.tbl _) => none
  | x => x
theorem frz0_same (H : Hp) : Same (frz0 H) H := fun p o e => by
  unfold frz0 at e
  split at e
  · cases e
  · exact e
theorem frz0_of {H : Hp} {p : Addr} {o : HO} (h : H p = some o) (n : ∀ ps, o ≠ .tbl ps) : frz0 H p = some o := by
  unfold frz0
  rw [h]
  cases o with
  | tbl ps => exact absurd rfl (n ps)
  | _ => rfl
theorem rep_ints {T : Kt} {F : Hp} : ∀ ns : List Int, RepL T F (ns.map V.int) (ns.map D.int)
  | [] => .nil
  | _ :: r => .cons (.int _) (rep_ints r)
theorem facts {l : PySem.W.OpenLaw} {w : World} {K : PySem.W.Frag} {h : Heap} {mg : PySem.Str → Option Value} {fa : Addr} (pl : Plain) (X : K.In h) (G : h.Ns mainGlobals mg) (hlaw : mg ("law" : PySem.Str) = some (.ref fa)) (c : He.SaysX hfa hfn [] htf hex w h K) :
    LawAtS l w K (L2.CX l.prog w) 100 63 "script" mg fa h := by
  obtain ⟨fd, F⟩ := c.t.d.def_ 30 (d := hd30) rfl
  have e := hlaw.symm.trans (He.glo_ok X G (c.t.d.fact 30 (f := .glo "law") rfl))
  cases e
  have b := FunD.bindsA (ps := ["script"]) F fun _ _ _ _ _ _ us hl => match us, hl with | [_], _ => rfl
  have mem : ∀ p ∈ tq.map (fun r => He.cT K r.1), ∃ d ∈ htf, p = He.cT K d := fun p hp => by
    obtain ⟨r, hr, rfl⟩ := List.mem_map.mp hp
    refine ⟨r.1, ?_, rfl⟩
    have z : tq.map (·.1) = htf := rfl
    rw [← z]
    exact List.mem_map.mpr ⟨r, hr, rfl⟩
  refine ⟨fd, tq.map (fun r => He.cT K r.1), spD (kt K) (callF P 20) (.fn 30), fun p hp => ?_, fun p hp => ?_, fun p hp => ?_, fun s u => b s [u] rfl, fun H a ns hl _ hT hS => ?_, fun base XB GB TB => ?_⟩
  · obtain ⟨d, hd, rfl⟩ := mem p hp
    exact c.empty d hd
  · obtain ⟨d, hd, rfl⟩ := mem p hp
    exact c.out d hd
  · obtain ⟨d, hd, rfl⟩ := mem p hp
    exact PySem.W.codeHd_of_K X (c.hd d hd)
  · obtain ⟨ps, hc⟩ := pl ns hl
    have sq : SqL K (frz0 H) a (ns.map V.int) := by
      rcases hS with (hS | ⟨o, hS⟩) | hS
      · exact .inl (.inl (frz0_of hS fun ps z => nomatch z))
      · exact .inl (.inr ⟨o, frz0_of hS fun ps z => nomatch z⟩)
      · exact .inr hS
    have tb : ∀ p ∈ (kt K).tb, H p.1 = some (.tbl #[]) := fun p hp => by
      obtain ⟨r, hr, rfl⟩ := List.mem_map.mp (show p ∈ htbOf K tq from hp)
      exact hT _ (List.mem_map.mpr ⟨r, hr, rfl⟩)
    refine ⟨frz0 H, [.frz (.scr (ns.map D.int))], .ok (.frz (.bl true)), ps, ⟨frz0_same H, fun p hp => TabN.nil (tb p hp), fun p hp => ?_⟩, ⟨.cons (.scr sq (rep_ints ns)) .nil, fun i j d e p h1 => ?_⟩, hc, fun x F' H' _ rx => ?_⟩
    · unfold frz0
      rw [tb p hp]
    · cases i with
      | zero => simp at h1
      | succ n => simp at h1
    · cases rx
      rfl
  · obtain ⟨a1, a2⟩ := all (P0 := l.prog) (w := w) X G c TB 19
    exact fn_body (G := gb l.prog w mg base (kt K)) (k := 19) (f := 30) (N := n30) F sc30 rfl rfl fun cd hcd lk A outer s H E hr => d30 (gmOf X G c) a1
end Pk90
end
section
set_option Elab.async false
set_option linter.all false
set_option maxRecDepth 100000
set_option maxHeartbeats 0
open PySem PySem.W PySem.Calls PyProof.Rows
theorem k90_holds (pl : Pk90.Plain) : PySem.Challenge.rw_wordreaders_k90_whole_last_words_of_step.Holds := by
  w_on; o_law
  refine HandSHeadRun.head_any (r := OpenLaw.row PySem.Challenge.rw_wordreaders_k90_whole_last_words_of_step) (q := view (OpenLaw.row PySem.Challenge.rw_wordreaders_k90_whole_last_words_of_step).prog [44]) (H := Pk90.hk) (ob := Pk90.ob) (M := 4000) (loose := (Pk90.loose0 ++ Pk90.loose1 ++ Pk90.loose2)) (d := HandSHeadRun.topDef (OpenLaw.row PySem.Challenge.rw_wordreaders_k90_whole_last_words_of_step).prog 44) (kwd := []) Pk90.ob_eq
    (by kernel_rfl) (fun s => by kernel_rfl) Pk90.run (by kernel_rfl) (by kernel_rfl) (by kernel_rfl) (by rfl) (by first | assumption | decide +kernel) (by decide +kernel) ⟨rfl, rfl, rfl, rfl, rfl, by decide +kernel⟩ ?hw ?hc
  case hw => w_witness2
  case hc =>
    refine LamX.walk_ofTsE (l := PySem.Challenge.rw_wordreaders_k90_whole_last_words_of_step) (n := 63) (k := 100) (x := "script") (CX := fun w => L2.CX (PySem.Challenge.rw_wordreaders_k90_whole_last_words_of_step).prog w) rfl (by decide) (by kernel_rfl) ⟨rfl, by decide, by decide⟩ ?F (fun w H s e s' z => ?X)
    case X =>
      obtain ⟨_, _, _, _, _, _, _, _, _, _, _, _, _, _, _, _, z⟩ := z
    intro w mg fa h Y G hmg0
    obtain ⟨K, KX, c⟩ := Y
    have hmg : mg ("law" : PySem.Str) = some (.ref fa) := by
      have e : (HandSHeadRun.topDef (OpenLaw.row PySem.Challenge.rw_wordreaders_k90_whole_last_words_of_step).prog 44).name = ("law" : PySem.Str) := by kernel_rfl
      rw [← e]
      exact hmg0
    exact ⟨K, KX, Pk90.facts pl KX G hmg c⟩
end
open PySem PySem.W PyProof.Rows
set_option maxRecDepth 100000 in
set_option maxHeartbeats 0 in
theorem PySem.Challenge.cw_wordreaders_k90_whole_last_words_of_step_holds : PySem.Challenge.rw_wordreaders_k90_whole_last_words_of_step.Holds := by
  exact k90_holds Rk90.plain
