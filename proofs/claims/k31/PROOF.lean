import PyProof.Rows.All
import KE.OsRunLaw
import Wide.All
import OpenK.AllK
import Wide.FinOn
import HandS.ForMost
import HandS.TupAny
import HandS.TupMul
import HandS.TupLe
import HandS.Deep
import HandS.IsInst
import HandS.CallSlots
import HandS.Property
import HandS.TryOnly
import HandS.Exc
import HandS.Dict
import HandS.Flow
import OpenK.KOps
import HandS.List
import HandS.Style
import HandS.WordsExc
import HandS.ExcOwn
import HandS.SortInts
import HandS.Rev
import HandS.Zip
import HandS.More
import HandS.TupLen
import PyProof.EnumMake
import PyProof.Draws
import KE.GoesMore
import HandS.Conv
import HandS.RevRange
import HandS.Iter
import HandS.Small
import HandS.Defaults
import HandS.MakeKwOnly
import HandS.Words
import HandS.Comp
import KE.KExcInit
import HandS.ExcInit
import HandS.ExcField
import HandS.TryMany
import HandS.Ends
import KE.KExcLine
import HandS.ExcIs
import PySem.Challenge.RW_methodworlds_k31_strings_accepted
set_option Elab.async false
set_option linter.all false
set_option maxRecDepth 100000
/-! Mi1: a small interpreter over plain data. -/
namespace Mi
open PySem

/-- plain data; ref n: the mutable thing number n of the memory -/
inductive D where
  | non | bl (b : Bool) | int (i : Int) | str (s : Str) | tup (ds : List D) | ref (n : Nat)
  deriving Inhabited

mutual
def D.eqb : D → D → Bool
  | .non, .non => true
  | .bl a, .bl b => a == b
  | .int a, .int b => a == b
  | .str a, .str b => decide (a = b)
  | .tup a, .tup b => D.eqbs a b
  | .ref a, .ref b => a == b
  | _, _ => false
def D.eqbs : List D → List D → Bool
  | [], [] => true
  | x :: xs, y :: ys => D.eqb x y && D.eqbs xs ys
  | _, _ => false
end
mutual
theorem D.eqb_iff : ∀ a b : D, D.eqb a b = true ↔ a = b
  | .non, b => by cases b <;> simp [D.eqb]
  | .bl x, b => by cases b <;> simp [D.eqb]
  | .int x, b => by cases b <;> simp [D.eqb]
  | .str x, b => by cases b <;> simp [D.eqb]
  | .ref x, b => by cases b <;> simp [D.eqb]
  | .tup x, b => by
    cases b <;> simp [D.eqb]
    exact D.eqbs_iff x _
theorem D.eqbs_iff : ∀ a b : List D, D.eqbs a b = true ↔ a = b
  | [], b => by cases b <;> simp [D.eqbs]
  | x :: xs, b => by
    cases b with
    | nil => simp [D.eqbs]
    | cons y ys =>
      simp only [D.eqbs, Bool.and_eq_true, List.cons.injEq]
      rw [D.eqb_iff x y, D.eqbs_iff xs ys]
end
instance : DecidableEq D := fun a b => decidable_of_iff _ (D.eqb_iff a b)

/-- == of Python; what holds a ref is not asked (pureD) -/
def b2i (b : Bool) : Int := if b then 1 else 0
mutual
def eqD : D → D → Bool
  | .non, .non => true
  | .bl a, .bl b => a == b
  | .bl a, .int b => b2i a == b
  | .int a, .bl b => a == b2i b
  | .int a, .int b => a == b
  | .str a, .str b => decide (a = b)
  | .tup a, .tup b => eqDs a b
  | _, _ => false
def eqDs : List D → List D → Bool
  | [], [] => true
  | x :: xs, y :: ys => eqD x y && eqDs xs ys
  | _, _ => false
end
mutual
/-- no ref within; at most k levels -/
def pureD : Nat → D → Bool
  | 0, _ => false
  | k + 1, .tup ds => pureDs k ds
  | _ + 1, .ref _ => false
  | _ + 1, .str s => s.cps.all (· < 0x110000)
  | _ + 1, _ => true
def pureDs : Nat → List D → Bool
  | _, [] => true
  | k, d :: ds => pureD k d && pureDs k ds
end

/-- what may stand in the memory -/
inductive Cell where
  | lst (ds : List D)
  | rol (ds : List D)
  | ins (C : Str) (fs : List (Str × D))
  | dic (kvs : List (D × D))
  | dct (lk : Bool) (kvs : List (D × D))
abbrev Mem := List Cell
abbrev Env' := List (Option D)

inductive Res (α : Type) where
  | ok (a : α) (μ : Mem)
  | ex (C : Str) (fs : List (Str × D)) (μ : Mem)
  | bad
def Res.bind {α β : Type} (r : Res α) (f : α → Mem → Res β) : Res β :=
  match r with
  | .ok a μ => f a μ
  | .ex C fs μ => .ex C fs μ
  | .bad => .bad
@[simp] theorem Res.bind_ok {α β : Type} (a : α) (μ : Mem) (f : α → Mem → Res β) : (Res.ok a μ).bind f = f a μ := rfl
@[simp] theorem Res.bind_ex {α β : Type} (C : Str) (fs : List (Str × D)) (μ : Mem) (f : α → Mem → Res β) : (Res.ex C fs μ : Res α).bind f = .ex C fs μ := rfl
@[simp] theorem Res.bind_bad {α β : Type} (f : α → Mem → Res β) : (Res.bad : Res α).bind f = .bad := rfl
def Res.ofO {α : Type} (o : Option α) (μ : Mem) : Res α := match o with
  | some a => .ok a μ
  | none => .bad
@[simp] theorem Res.ofO_some {α : Type} (a : α) (μ : Mem) : Res.ofO (some a) μ = .ok a μ := rfl
@[simp] theorem Res.ofO_none {α : Type} (μ : Mem) : (Res.ofO none μ : Res α) = .bad := rfl

def Res.noex {α : Type} (r : Res α) : Res α := match r with
  | .ok a μ => .ok a μ
  | _ => .bad
@[simp] theorem Res.noex_ok {α : Type} (a : α) (μ : Mem) : (Res.ok a μ).noex = .ok a μ := rfl
def lim : Nat := 16777216
/-- a new thing -/
def alloc (c : Cell) (μ : Mem) : Res D := .ok (.ref μ.length) (μ ++ [c])

/-! ### operators -/
inductive BOp where
  | add | sub | mul | fdiv | mod | pow | shl | shr | band | bor
  deriving DecidableEq
inductive COp where
  | eq | ne | lt | le | gt | ge | isN | notN | isIn | notIn
  deriving DecidableEq

def small64 (i : Int) : Bool := decide (-(2 ^ 64) < i) && decide (i < 2 ^ 64)
/-- the items of a list or a tuple -/
def seqOf (d : D) (μ : Mem) : Option (List D) := match d with
  | .tup ds => some ds
  | .ref n => match μ[n]? with
    | some (.lst ds) => some ds
    | some (.rol ds) => some ds
    | _ => none
  | _ => none
def binI (op : BOp) (i j : Int) : Option Int := match op with
  | .add => some (i + j)
  | .sub => some (i - j)
  | .mul => if small64 i || small64 j then some (i * j) else none
  | .fdiv => if 0 < j ∧ j < 1073741824 then some (i / j) else none
  | .mod => if 0 < j then some (i % j) else none
  | .pow => if 0 ≤ j ∧ j ≤ 1000000 ∧ i.natAbs < 2 ^ 64 then some (i ^ j.toNat) else none
  | .shl => if 0 ≤ j ∧ j ≤ 1000000 ∧ i.natAbs < 2 ^ 64 then some (i * 2 ^ j.toNat) else none
  | .shr => if 0 ≤ j then some (i / 2 ^ j.toNat) else none
  | .band => some (Builtin.bitAnd i j)
  | .bor => some (Builtin.bitOr i j)
def binD (op : BOp) (x y : D) (μ : Mem) : Res D := match x, y with
  | .int i, .int j => Res.ofO ((binI op i j).map D.int) μ
  | .tup a, .tup b => match op with
    | .add => if a.length + b.length ≤ lim then .ok (.tup (a ++ b)) μ else .bad
    | _ => .bad
  | .str a, .str b => match op with
    | .add => if a.length + b.length ≤ lim then .ok (.str (a ++ b)) μ else .bad
    | _ => .bad
  | .ref m, .ref n => match op, μ[m]?, μ[n]? with
    | .add, some (.lst a), some (.lst b) => if a.length + b.length ≤ lim then alloc (.lst (a ++ b)) μ else .bad
    | _, _, _ => .bad
  | .ref m, .int k => match op, μ[m]? with
    | .mul, some (.lst a) => if -(2 ^ 63) ≤ k ∧ k < 2 ^ 63 ∧ a.length * k.toNat ≤ lim then alloc (.lst (List.replicate k.toNat a).flatten) μ else .bad
    | _, _ => .bad
  | .tup a, .int k => match op with
    | .mul => if a ≠ [] ∧ 2 ≤ k ∧ k ≤ 1000 ∧ a.length ≤ 1000 then .ok (.tup (List.replicate k.toNat a).flatten) μ else .bad
    | _ => .bad
  | _, _ => .bad
def lexLe : List Int → List Int → Bool
  | [], _ => true
  | _ :: _, [] => false
  | x :: xs, y :: ys => if x = y then lexLe xs ys else decide (x < y)
def lexLt : List Int → List Int → Bool
  | [], [] => false
  | [], _ :: _ => true
  | _ :: _, [] => false
  | x :: xs, y :: ys => if x = y then lexLt xs ys else decide (x < y)
def intsOf : List D → Option (List Int)
  | [] => some []
  | .int i :: r => (intsOf r).map (i :: ·)
  | _ :: _ => none
def lev : Nat := 60
/-- what may be a key -/
def isKey : D → Bool
  | .int _ => true
  | .str _ => true
  | _ => false
def isKeyT : D → Bool
  | .tup (d :: r) => (d :: r).all isKey
  | _ => false
/-- x in y -/
def inD (x y : D) (μ : Mem) : Option Bool := match y with
  | .tup ds => if pureD lev x && pureDs lev ds then some (ds.any fun z => eqD z x) else none
  | .ref n => match μ[n]? with
    | some (.lst ds) => if pureD lev x && pureDs lev ds then some (ds.any fun z => eqD z x) else none
    | some (.rol ds) => if pureD lev x && pureDs lev ds then some (ds.any fun z => eqD z x) else none
    | some (.dic kvs) => if isKey x then some (kvs.any fun p => decide (p.1 = x)) else none
    | some (.dct _ kvs) => if isKeyT x then some (kvs.any fun p => decide (p.1 = x)) else none
    | _ => none
  | _ => none
def cmpD (op : COp) (x y : D) (μ : Mem) : Option Bool := match op with
  | .eq => match x, y with
    | .str a, .str b => some (decide (a = b))
    | x, y => if pureD lev x && pureD lev y then some (eqD x y) else none
  | .ne => match x, y with
    | .str a, .str b => some (!decide (a = b))
    | x, y => if pureD lev x && pureD lev y then some (!eqD x y) else none
  | .lt => match x, y with
    | .int i, .int j => some (decide (i < j))
    | .tup a, .tup b => match intsOf a, intsOf b with
      | some i, some j => some (lexLt i j)
      | _, _ => none
    | _, _ => none
  | .le => match x, y with
    | .int i, .int j => some (decide (i ≤ j))
    | .tup a, .tup b => match intsOf a, intsOf b with
      | some i, some j => some (lexLe i j)
      | _, _ => none
    | _, _ => none
  | .gt => match x, y with
    | .int i, .int j => some (decide (j < i))
    | _, _ => none
  | .ge => match x, y with
    | .int i, .int j => some (decide (j ≤ i))
    | _, _ => none
  | .isN => match y with
    | .non => some (decide (x = .non))
    | _ => none
  | .notN => match y with
    | .non => some (!decide (x = .non))
    | _ => none
  | .isIn => inD x y μ
  | .notIn => (inD x y μ).map (!·)
def truthD (d : D) (μ : Mem) : Option Bool := match d with
  | .non => some false
  | .bl b => some b
  | .int i => some (decide (i ≠ 0))
  | .str s => if s.length ≤ lim then some (decide (s.length ≠ 0)) else none
  | .tup ds => some (!ds.isEmpty)
  | .ref n => match μ[n]? with
    | some (.lst ds) => some (!ds.isEmpty)
    | some (.rol ds) => some (!ds.isEmpty)
    | _ => none
def lenD (d : D) (μ : Mem) : Option Nat := match d with
  | .tup ds => some ds.length
  | .str s => if s.length ≤ lim then some s.length else none
  | .ref n => match μ[n]? with
    | some (.lst ds) => some ds.length
    | some (.rol ds) => some ds.length
    | some (.dct false kvs) => some kvs.length
    | _ => none
  | _ => none
/-- the place that an index names -/
def ixOf (n : Nat) (i : Int) : Option Nat := if 0 ≤ i then (if i < n then some i.toNat else none) else if -(n : Int) ≤ i then some (i + n).toNat else none
def atD (ds : List D) (i : Int) : Option D := (ixOf ds.length i).bind fun j => ds[j]?
def findK (kvs : List (D × D)) (k : D) : Option D := match kvs with
  | [] => none
  | (x, v) :: r => if x = k then some v else findK r k
def putK (kvs : List (D × D)) (k v : D) : List (D × D) := if (kvs.any fun p => decide (p.1 = k)) = true then kvs.map (fun p => if p.1 = k then (p.1, v) else p) else kvs ++ [(k, v)]
/-- x[i] -/
def subD (x i : D) (μ : Mem) : Option D := match x, i with
  | .tup ds, .int k => atD ds k
  | .str s, .int k => if s.length ≤ lim then (ixOf s.cps.toList.length k).bind fun j => (s.cps.toList[j]?).map fun c => .str ⟨#[c]⟩ else none
  | .ref n, k => match μ[n]? with
    | some (.lst ds) => match k with
      | .int j => atD ds j
      | _ => none
    | some (.rol ds) => match k with
      | .int j => atD ds j
      | _ => none
    | some (.dic kvs) => if isKey k then findK kvs k else none
    | some (.dct _ kvs) => if isKeyT k then findK kvs k else none
    | _ => none
  | _, _ => none
def cutIx (n d : Nat) : Option Int → Nat
  | none => d
  | some v => if v < 0 then (v + (n : Int)).toNat else min v.toNat n
def cut {α : Type} (xs : List α) (lo hi : Option Int) : List α := (xs.drop (cutIx xs.length 0 lo)).take (cutIx xs.length xs.length hi - cutIx xs.length 0 lo)
def slD (x : D) (lo hi : Option Int) (μ : Mem) : Res D := match x with
  | .tup ds => .ok (.tup (cut ds lo hi)) μ
  | .ref n => match μ[n]? with
    | some (.lst ds) => alloc (.lst (cut ds lo hi)) μ
    | some (.rol ds) => alloc (.lst (cut ds lo hi)) μ
    | _ => .bad
  | _ => .bad
/-- the value of an attribute that is a plain field -/
def fldD (fs : List (Str × D)) (f : Str) : Option D := match fs with
  | [] => none
  | (g, v) :: r => if f = g then some v else fldD r f
def putFld (fs : List (Str × D)) (f : Str) (v : D) : List (Str × D) := match fs with
  | [] => [(f, v)]
  | (g, u) :: r => if f = g then (g, v) :: r else (g, u) :: putFld r f v

/-- kinds that isinstance asks for -/
inductive Ty where
  | int | bool | str | list | tuple | own (C : Str)
/-- a dict that a loop walks -/
def lockD (d : D) (μ : Mem) : Bool := match d with
  | .ref n => match μ[n]? with
    | some (.dct true _) => true
    | _ => false
  | _ => false
def isTy (d : D) (μ : Mem) : Ty → Option Bool
  | .int => some (match d with | .int _ => true | .bl _ => true | _ => false)
  | .bool => some (match d with | .bl _ => true | _ => false)
  | .str => some (match d with | .str _ => true | _ => false)
  | .tuple => some (match d with | .tup _ => true | _ => false)
  | .list => match d with
    | .ref n => match μ[n]? with
      | some (.lst _) => some true
      | some (.rol _) => some true
      | some _ => some false
      | none => none
    | _ => some false
  | .own C => match d with
    | .ref n => match μ[n]? with
      | some (.ins C' _) => some (decide (C = C'))
      | some _ => some false
      | none => none
    | _ => some false
def isTys (d : D) (μ : Mem) : List Ty → Option Bool
  | [] => some false
  | t :: ts => match isTy d μ t with
    | some true => some true
    | some false => isTys d μ ts
    | none => none

/-! ### the text -/
inductive Tg where
  | nm (i : Nat) | tp (is : List Nat)
/-- built-in functions of one value -/
inductive Bi where
  | len | int
/-- methods of built-in kinds -/
inductive Mt where
  | append | pop | index | extend
mutual
inductive ME where
  | var (i : Nat)
  | con (d : D)
  | glob (x : Str)
  | bin (op : BOp) (a b : ME)
  | neg (a : ME)
  | cmp (op : COp) (a b : ME)
  | eqo (a b : ME)
  | chain (o1 o2 : COp) (a b c : ME)
  | and (a b : ME)
  | or (a b : ME)
  | not (a : ME)
  | ite (c a b : ME)
  | tup (es : MEs)
  | dnew
  | dnewT
  | lst (m : MM)
  | tupOf (l : ML)
  | sub (a i : ME)
  | subL (l : ML) (i : ME)
  | inL (neg : Bool) (a : ME) (l : ML)
  | sumL (l : ML)
  | anyL (l : ML)
  | allL (l : ML)
  | lenL (l : ML)
  | sl (a : ME) (lo hi : MEo)
  | rev (a : ME)
  | att (a : ME) (f : Str)
  | call (f : Str) (es : MEs)
  | ocall (o : ME) (m : Str) (es : MEs)
  | new (C : Str) (es : MEs)
  | bi (b : Bi) (a : ME)
  | isi (a : ME) (ts : List Ty)
  | mt (m : Mt) (o : ME) (es : MEs)
inductive MEs where
  | nil | cons (e : ME) (es : MEs)
inductive MEo where
  | no | so (e : ME)
/-- what makes a list that nothing else holds; that, or a value that is a list or a tuple -/
inductive MM where
  | disp (es : MEs)
  | comp (own : List Nat) (tg : Tg) (it : MI) (c : MEo) (elt : ME)
  | copy (l : ML)
  | sorted (l : ML)
  | sortedD (e : ME)
inductive ML where
  | mk' (m : MM)
  | val (e : ME)
/-- what a loop walks -/
inductive MI where
  | l (l : ML)
  | rng1 (a : ME)
  | rng2 (a b : ME)
  | rrng (a : ME)
  | enum (l : ML)
  | zip (a b : ML)
  | revd (l : ML)
  | keys (e : ME)
  | items (e : ME)
  | signs (e : ME)
end
mutual
inductive MS where
  | ex (e : ME)
  | asg (tg : Tg) (e : ME)
  | asgSub (o i e : ME)
  | asgFld (o : ME) (f : Str) (e : ME)
  | aug (i : Nat) (op : BOp) (e : ME)
  | augSub (o i : ME) (op : BOp) (e : ME)
  | ret (e : ME)
  | retN
  | ife (c : ME) (a b : MSs)
  | whl (c : ME) (b : MSs)
  | forE (tg : Tg) (it : MI) (b : MSs)
  | forD (tg : Tg) (i : Nat) (b : MSs)
  | brk
  | cnt
  | pas
  | rse (C : Str) (es : MEs)
  | tri (b : MSs) (hs : MHs)
inductive MSs where
  | nil | cons (s : MS) (ss : MSs)
/-- except C as slot: return of a written tuple of texts and of fields of what was caught -/
inductive MHs where
  | nil | cons (C : Str) (i : Nat) (es : List (Str ⊕ Str)) (tuple : Bool) (r : MHs)
end

/-! ### the evaluator -/
structure Gam where
  fn : Str → List D → Mem → Res D
  cst : Str → Option D
  /-- a property of a class: its getter -/
  prop : Str → Str → Option Str
  /-- a method of a class -/
  meth : Str → Str → Option Str
  /-- no class has the name: a field -/
  fld : Str → Str → Bool
  init : Str → Option Str
  /-- an exception class: the fields that it stores -/
  xinit : Str → Option (List Str)
  /-- a class and the classes above it, for except -/
  isa : Str → Str → Bool
  w : Nat

def setE (ρ : Env') (i : Nat) (d : D) : Env' := ρ.set i (some d)
def wipeE (ρ : Env') : List Nat → Env'
  | [] => ρ
  | v :: vs => (wipeE ρ vs).set v none
def setEs (ρ : Env') : List Nat → List D → Option Env'
  | [], [] => some ρ
  | i :: is, d :: ds => setEs (setE ρ i d) is ds
  | _, _ => none
def asgn (tg : Tg) (d : D) (ρ : Env') (μ : Mem) : Option Env' := match tg with
  | .nm i => some (setE ρ i d)
  | .tp is => match seqOf d μ with
    | some ds => setEs ρ is ds
    | none => none
/-- items, and the list in the memory from which they come: it must stand so at each turn -/
structure Its where
  ds : List D
  own : List (Nat × Cell)
  tup : Bool := false
def chk (own : List (Nat × Cell)) (μ : Mem) : Bool := own.all fun p => match p.2, μ[p.1]? with
  | .lst a, some (.lst b) => decide (a = b)
  | .rol a, some (.rol b) => decide (a = b)
  | .dic a, some (.dic b) => decide (a = b)
  | .dct k a, some (.dct l b) => decide (k = l) && decide (a = b)
  | _, _ => false
def itsOf (d : D) (μ : Mem) : Option Its := match d with
  | .tup ds => some ⟨ds, [], true⟩
  | .ref n => match μ[n]? with
    | some (.lst ds) => some ⟨ds, [(n, .lst ds)], false⟩
    | some (.rol ds) => some ⟨ds, [(n, .rol ds)], false⟩
    | _ => none
  | _ => none
def enumD : Nat → List D → List D
  | _, [] => []
  | k, d :: ds => .tup [.int (k : Nat), d] :: enumD (k + 1) ds
def zipD : List D → List D → List D
  | x :: xs, y :: ys => .tup [x, y] :: zipD xs ys
  | _, _ => []
def rngD (lo : Int) (n : Nat) : List D := (List.range n).map fun k => .int (lo + (k : Nat))
def insI (i : Int) : List Int → List Int
  | [] => [i]
  | j :: r => if i ≤ j then i :: j :: r else j :: insI i r
def sortI : List Int → List Int
  | [] => []
  | i :: r => insI i (sortI r)
def blsOf : List D → Option (List Bool)
  | [] => some []
  | .bl b :: r => (blsOf r).map (b :: ·)
  | _ :: _ => none
def sum1 : List Int → Int
  | [] => 0
  | i :: r => i + sum1 r

/-- the items of a comprehension, one after the other; n: how many are made -/
def compL (step : D → Mem → Res (Option D)) (own : List (Nat × Cell)) : Nat → List D → Mem → Res (List D)
  | _, [], μ => if chk own μ then .ok [] μ else .bad
  | n, d :: ds, μ => if chk own μ then (step d μ).bind fun o μ1 => match o with
      | some x => if n < lim then (compL step own (n + 1) ds μ1).bind fun r μ2 => .ok (x :: r) μ2 else .bad
      | none => compL step own n ds μ1
    else .bad

/-- a list of the memory -/
def isLst (d : D) (μ : Mem) : Bool := match d with
  | .ref n => match μ[n]? with
    | some (.lst _) => true
    | _ => false
  | _ => false
def mtD (m : Mt) (o : D) (as : List D) (μ : Mem) : Res D := match m, o, as with
  | .append, .ref n, [x] => match μ[n]? with
    | some (.lst ds) => if ds.length < lim then .ok .non (μ.set n (.lst (ds ++ [x]))) else .bad
    | _ => .bad
  | .pop, .ref n, [] => match μ[n]? with
    | some (.lst ds) => match ds[ds.length - 1]? with
      | some y => .ok y (μ.set n (.lst ds.dropLast))
      | none => .bad
    | _ => .bad
  | .index, .ref n, [x] => match μ[n]? with
    | some (.lst ds) => if pureD lev x && pureDs lev ds then Res.ofO ((ds.findIdx? fun z => eqD z x).map fun (j : Nat) => D.int (j : Nat)) μ else .bad
    | _ => .bad
  | .extend, .ref n, [.ref m] => match μ[n]?, μ[m]? with
    | some (.lst a), some (.lst b) => if a.length + b.length ≤ lim then .ok .non (μ.set n (.lst (a ++ b))) else .bad
    | _, _ => .bad
  | _, _, _ => .bad
def biD (b : Bi) (d : D) (μ : Mem) : Option D := match b with
  | .len => (lenD d μ).map fun (n : Nat) => D.int (n : Nat)
  | .int => match d with
    | .int i => some (.int i)
    | .bl c => some (.int (b2i c))
    | _ => none

/-- the class of an instance -/
def insOf (x : D) (μ : Mem) : Option Str := match x with
  | .ref n => match μ[n]? with
    | some (.ins C _) => some C
    | _ => none
  | _ => none
/-- len of an instance -/
def lenI (Γ : Gam) (x : D) (μ : Mem) : Res D := match insOf x μ with
  | some C => match Γ.meth C "__len__" with
    | some g => (Γ.fn g [x] μ).noex.bind fun d μ2 => match d with
      | .int i => if 0 ≤ i ∧ i.natAbs ≤ 1000000 then .ok (.int i) μ2 else .bad
      | _ => .bad
    | none => .bad
  | none => .bad
/-- sorted(d), d a dict with whole numbers for keys -/
def sortD (x : D) (μ : Mem) : Res (List D) := match x with
  | .ref n => match μ[n]? with
    | some (.dic kvs) => match intsOf (kvs.map (·.1)) with
      | some is => if is.length < 64 then .ok ((sortI is).map D.int) μ else .bad
      | none => .bad
    | _ => .bad
  | _ => .bad
/-- == where an instance with an own __eq__ may stand on the left -/
def eqI (Γ : Gam) (x y : D) (μ : Mem) : Res D := match cmpD .eq x y μ with
  | some t => .ok (.bl t) μ
  | none => match insOf x μ with
    | some C => match Γ.meth C "__eq__" with
      | some g => (Γ.fn g [x, y] μ).noex.bind fun d μ2 => match d with
        | .bl t => .ok (.bl t) μ2
        | _ => .bad
      | none => .bad
    | none => .bad
def biE (Γ : Gam) (b : Bi) (x : D) (μ : Mem) : Res D := match biD b x μ with
  | some d => .ok d μ
  | none => match b with
    | .len => lenI Γ x μ
    | .int => .bad
section
variable (Γ : Gam)
mutual
def evE : ME → Env' → Mem → Res D
  | .var i, ρ, μ => match ρ[i]? with
    | some (some d) => .ok d μ
    | _ => .bad
  | .con d, _, μ => .ok d μ
  | .glob x, _, μ => Res.ofO (Γ.cst x) μ
  | .bin op a b, ρ, μ => (evE a ρ μ).bind fun x μ1 => (evE b ρ μ1).bind fun y μ2 => binD op x y μ2
  | .neg a, ρ, μ => (evE a ρ μ).bind fun x μ1 => match x with
    | .int i => .ok (.int (-i)) μ1
    | _ => .bad
  | .cmp op a b, ρ, μ => (evE a ρ μ).bind fun x μ1 => (evE b ρ μ1).bind fun y μ2 => Res.ofO ((cmpD op x y μ2).map D.bl) μ2
  | .eqo a b, ρ, μ => (evE a ρ μ).bind fun x μ1 => (evE b ρ μ1).bind fun y μ2 => eqI Γ x y μ2
  | .chain o1 o2 a b c, ρ, μ => (evE a ρ μ).bind fun x μ1 => (evE b ρ μ1).bind fun y μ2 => (Res.ofO (cmpD o1 x y μ2) μ2).bind fun t μ3 =>
      if t then (evE c ρ μ3).bind fun z μ4 => Res.ofO ((cmpD o2 y z μ4).map D.bl) μ4 else .ok (.bl false) μ3
  | .and a b, ρ, μ => (evE a ρ μ).bind fun x μ1 => (Res.ofO (truthD x μ1) μ1).bind fun t μ2 => if t then evE b ρ μ2 else .ok x μ2
  | .or a b, ρ, μ => (evE a ρ μ).bind fun x μ1 => (Res.ofO (truthD x μ1) μ1).bind fun t μ2 => if t then .ok x μ2 else evE b ρ μ2
  | .not a, ρ, μ => (evE a ρ μ).bind fun x μ1 => (Res.ofO (truthD x μ1) μ1).bind fun t μ2 => .ok (.bl (!t)) μ2
  | .ite c a b, ρ, μ => (evE c ρ μ).bind fun x μ1 => (Res.ofO (truthD x μ1) μ1).bind fun t μ2 => if t then evE a ρ μ2 else evE b ρ μ2
  | .tup es, ρ, μ => (evEs es ρ μ).bind fun ds μ1 => if ds.length ≤ lim then .ok (.tup ds) μ1 else .bad
  | .dnew, _, μ => alloc (.dic []) μ
  | .dnewT, _, μ => alloc (.dct false []) μ
  | .lst m, ρ, μ => (evM m ρ μ).bind fun ds μ1 => alloc (.lst ds) μ1
  | .tupOf l, ρ, μ => (evL l ρ μ).bind fun r μ1 => .ok (.tup r.ds) μ1
  | .sub a i, ρ, μ => (evE a ρ μ).bind fun x μ1 => (evE i ρ μ1).bind fun y μ2 => Res.ofO (subD x y μ2) μ2
  | .subL l i, ρ, μ => (evL l ρ μ).bind fun r μ1 => (evE i ρ μ1).bind fun y μ2 => match r.own, y with
    | [], .int k => Res.ofO (atD r.ds k) μ2
    | _, _ => .bad
  | .inL neg a l, ρ, μ => (evE a ρ μ).bind fun x μ1 => (evL l ρ μ1).bind fun r μ2 =>
      if pureD lev x && pureDs lev r.ds then .ok (.bl (xor neg (r.ds.any fun z => eqD z x))) μ2 else .bad
  | .sumL l, ρ, μ => (evL l ρ μ).bind fun r μ1 => if r.tup then .bad else Res.ofO ((intsOf r.ds).map fun is => D.int (sum1 is)) μ1
  | .anyL l, ρ, μ => (evL l ρ μ).bind fun r μ1 => if r.tup then .bad else Res.ofO ((blsOf r.ds).map fun bs => D.bl (bs.any id)) μ1
  | .allL l, ρ, μ => (evL l ρ μ).bind fun r μ1 => if r.tup then .bad else Res.ofO ((blsOf r.ds).map fun bs => D.bl (bs.all id)) μ1
  | .lenL l, ρ, μ => (evL l ρ μ).bind fun r μ1 => .ok (.int r.ds.length) μ1
  | .sl a lo hi, ρ, μ => (evE a ρ μ).bind fun x μ1 => (evO lo ρ μ1).bind fun l μ2 => (evO hi ρ μ2).bind fun h μ3 => slD x l h μ3
  | .rev a, ρ, μ => (evE a ρ μ).bind fun x μ1 => match x with
    | .ref n => match μ1[n]? with
      | some (.lst ds) => alloc (.lst ds.reverse) μ1
      | _ => .bad
    | .tup ds => .ok (.tup ds.reverse) μ1
    | _ => .bad
  | .att a f, ρ, μ => (evE a ρ μ).bind fun x μ1 => match x with
    | .ref n => match μ1[n]? with
      | some (.ins C fs) => match Γ.prop C f with
        | some g => (Γ.fn g [.ref n] μ1).noex
        | none => if Γ.fld C f then Res.ofO (fldD fs f) μ1 else .bad
      | _ => .bad
    | _ => .bad
  | .call f es, ρ, μ => (evEs es ρ μ).bind fun ds μ1 => Γ.fn f ds μ1
  | .ocall o m es, ρ, μ => (evE o ρ μ).bind fun x μ1 => match x with
    | .ref n => match μ1[n]? with
      | some (.ins C fs) => match Γ.meth C m, fldD fs m with
        | some g, none => (evEs es ρ μ1).bind fun ds μ2 => Γ.fn g (.ref n :: ds) μ2
        | _, _ => .bad
      | _ => .bad
    | _ => .bad
  | .new C es, ρ, μ => (evEs es ρ μ).bind fun ds μ1 => match Γ.init C with
    | some g => (Γ.fn g (.ref μ1.length :: ds) (μ1 ++ [.ins C []])).bind fun d μ2 => if d = .non then .ok (.ref μ1.length) μ2 else .bad
    | none => .bad
  | .bi b a, ρ, μ => (evE a ρ μ).bind fun x μ1 => biE Γ b x μ1
  | .isi a ts, ρ, μ => (evE a ρ μ).bind fun x μ1 => Res.ofO ((isTys x μ1 ts).map D.bl) μ1
  | .mt m o es, ρ, μ => (evE o ρ μ).bind fun x μ1 => if isLst x μ1 then (evEs es ρ μ1).bind fun ds μ2 => mtD m x ds μ2 else .bad
  termination_by structural x => x
def evEs : MEs → Env' → Mem → Res (List D)
  | .nil, _, μ => .ok [] μ
  | .cons e es, ρ, μ => (evE e ρ μ).bind fun x μ1 => (evEs es ρ μ1).bind fun xs μ2 => .ok (x :: xs) μ2
  termination_by structural x => x
def evO : MEo → Env' → Mem → Res (Option Int)
  | .no, _, μ => .ok none μ
  | .so e, ρ, μ => (evE e ρ μ).bind fun x μ1 => match x with
    | .int i => .ok (some i) μ1
    | _ => .bad
  termination_by structural x => x
def evM : MM → Env' → Mem → Res (List D)
  | .disp es, ρ, μ => (evEs es ρ μ).bind fun ds μ1 => if ds.length ≤ lim then .ok ds μ1 else .bad
  | .comp own tg it c elt, ρ, μ => (evI it ρ μ).bind fun r μ1 =>
      compL (fun d μ2 => match asgn tg d (wipeE ρ own) μ2 with
        | none => .bad
        | some ρ1 => ((evC c ρ1 μ2).bind fun t μ3 => if t then (evE elt ρ1 μ3).bind fun x μ4 => .ok (some x) μ4 else .ok none μ3).noex) r.own 0 r.ds μ1
  | .copy l, ρ, μ => (evL l ρ μ).bind fun r μ1 => .ok r.ds μ1
  | .sorted l, ρ, μ => (evL l ρ μ).bind fun r μ1 => if r.tup then .bad else match intsOf r.ds with
    | some is => .ok ((sortI is).map D.int) μ1
    | none => .bad
  | .sortedD e, ρ, μ => (evE e ρ μ).bind fun x μ1 => sortD x μ1
  termination_by structural x => x
def evL : ML → Env' → Mem → Res Its
  | .mk' m, ρ, μ => (evM m ρ μ).bind fun ds μ1 => .ok ⟨ds, [], false⟩ μ1
  | .val e, ρ, μ => (evE e ρ μ).bind fun x μ1 => Res.ofO (itsOf x μ1) μ1
  termination_by structural x => x
/-- a clause's test -/
def evC : MEo → Env' → Mem → Res Bool
  | .no, _, μ => .ok true μ
  | .so e, ρ, μ => (evE e ρ μ).bind fun x μ1 => Res.ofO (truthD x μ1) μ1
  termination_by structural x => x
def evI : MI → Env' → Mem → Res Its
  | .l l, ρ, μ => evL l ρ μ
  | .rng1 a, ρ, μ => (evE a ρ μ).bind fun x μ1 => match x with
    | .int j => if -(2 ^ 62) ≤ j ∧ j < 2 ^ 62 then .ok ⟨rngD 0 j.toNat, [], false⟩ μ1 else .bad
    | _ => .bad
  | .rng2 a b, ρ, μ => (evE a ρ μ).bind fun x μ1 => (evE b ρ μ1).bind fun y μ2 => match x, y with
    | .int i, .int j => if -(2 ^ 62) ≤ i ∧ i < 2 ^ 62 ∧ -(2 ^ 62) ≤ j ∧ j < 2 ^ 62 then .ok ⟨rngD i (j - i).toNat, [], false⟩ μ2 else .bad
    | _, _ => .bad
  | .rrng a, ρ, μ => (evE a ρ μ).bind fun x μ1 => match x with
    | .int j => if -(2 ^ 62) ≤ j ∧ j < 2 ^ 62 then .ok ⟨(rngD 0 j.toNat).reverse, [], false⟩ μ1 else .bad
    | _ => .bad
  | .enum l, ρ, μ => (evL l ρ μ).bind fun r μ1 => .ok ⟨enumD 0 r.ds, r.own, false⟩ μ1
  | .zip a b, ρ, μ => (evL a ρ μ).bind fun r μ1 => (evL b ρ μ1).bind fun t μ2 => if (r.tup == t.tup) && chk r.own μ2 then .ok ⟨zipD r.ds t.ds, r.own ++ t.own, false⟩ μ2 else .bad
  | .revd l, ρ, μ => (evL l ρ μ).bind fun r μ1 => .ok ⟨r.ds.reverse, r.own, false⟩ μ1
  | .keys e, ρ, μ => (evE e ρ μ).bind fun x μ1 => match x with
    | .ref n => match μ1[n]? with
      | some (.dic kvs) => .ok ⟨kvs.map (·.1), [(n, .dic kvs)], false⟩ μ1
      | _ => .bad
    | _ => .bad
  | .items e, ρ, μ => (evE e ρ μ).bind fun x μ1 => match x with
    | .ref n => match μ1[n]? with
      | some (.dic kvs) => .ok ⟨kvs.map fun p => .tup [p.1, p.2], [(n, .dic kvs)], false⟩ μ1
      | _ => .bad
    | _ => .bad
  | .signs e, ρ, μ => (evE e ρ μ).bind fun x μ1 => match x with
    | .str s => .ok ⟨s.cps.toList.map fun c => .str ⟨#[c]⟩, [], false⟩ μ1
    | _ => .bad
  termination_by structural x => x
end

/-! ### statements -/
inductive Out where
  | nx (ρ : Env') (μ : Mem)
  | rt (d : D) (μ : Mem)
  | br (ρ : Env') (μ : Mem)
  | ct (ρ : Env') (μ : Mem)
  | ex (C : Str) (fs : List (Str × D)) (ρ : Env') (μ : Mem)
  | bad
def Res.to {α : Type} (r : Res α) (ρ : Env') (f : α → Mem → Out) : Out := match r with
  | .ok a μ => f a μ
  | .ex C fs μ => .ex C fs ρ μ
  | .bad => .bad
@[simp] theorem Res.to_ok {α : Type} (a : α) (μ : Mem) (ρ : Env') (f : α → Mem → Out) : (Res.ok a μ).to ρ f = f a μ := rfl
@[simp] theorem Res.to_ex {α : Type} (C : Str) (fs : List (Str × D)) (μ : Mem) (ρ : Env') (f : α → Mem → Out) : (Res.ex C fs μ : Res α).to ρ f = .ex C fs ρ μ := rfl
@[simp] theorem Res.to_bad {α : Type} (ρ : Env') (f : α → Mem → Out) : (Res.bad : Res α).to ρ f = .bad := rfl
def Out.thn (o : Out) (f : Env' → Mem → Out) : Out := match o with
  | .nx ρ μ => f ρ μ
  | o => o
def setD (o i v : D) (μ : Mem) : Option Mem := match o with
  | .ref n => match μ[n]? with
    | some (.lst ds) => match i with
      | .int k => (ixOf ds.length k).map fun j => μ.set n (.lst (ds.set j v))
      | _ => none
    | some (.dic kvs) => if isKey i = true ∧ kvs.length < lim then some (μ.set n (.dic (putK kvs i v))) else none
    | some (.dct false kvs) => if isKeyT i = true ∧ kvs.length < lim then some (μ.set n (.dct false (putK kvs i v))) else none
    | _ => none
  | _ => none
def forL (body : Env' → Mem → Out) (tg : Tg) (own : List (Nat × Cell)) : List D → Env' → Mem → Out
  | [], ρ, μ => if chk own μ then .nx ρ μ else .bad
  | d :: ds, ρ, μ => if chk own μ then match asgn tg d ρ μ with
      | none => .bad
      | some ρ1 => match body ρ1 μ with
        | .nx ρ2 μ2 => forL body tg own ds ρ2 μ2
        | .ct ρ2 μ2 => forL body tg own ds ρ2 μ2
        | .br ρ2 μ2 => .nx ρ2 μ2
        | o => o
    else .bad
/-- a run's end, the dict open again -/
def unlockO (n : Nat) : Out → Out
  | .nx ρ μ => match μ[n]? with
    | some (.dct true kvs) => .nx ρ (μ.set n (.dct false kvs))
    | _ => .bad
  | .rt d μ => match μ[n]? with
    | some (.dct true kvs) => .rt d (μ.set n (.dct false kvs))
    | _ => .bad
  | _ => .bad
/-- for k in d -/
def rForD (i : Nat) (tg : Tg) (rs : Env' → Mem → Out) : Env' → Mem → Out := fun ρ μ => match ρ[i]? with
  | some (some (.ref n)) => match μ[n]? with
    | some (.dct false kvs) => unlockO n (forL rs tg [(n, .dct true kvs)] (kvs.map (·.1)) ρ (μ.set n (.dct true kvs)))
    | _ => .bad
  | _ => .bad
def whileL (test : Env' → Mem → Res Bool) (body : Env' → Mem → Out) : Nat → Env' → Mem → Out
  | 0, _, _ => .bad
  | n + 1, ρ, μ => (test ρ μ).to ρ fun t μ1 => if t then match body ρ μ1 with
      | .nx ρ2 μ2 => whileL test body n ρ2 μ2
      | .ct ρ2 μ2 => whileL test body n ρ2 μ2
      | .br ρ2 μ2 => .nx ρ2 μ2
      | o => o
    else .nx ρ μ1
def partD (fs : List (Str × D)) : Str ⊕ Str → Option D
  | .inl x => some (.str x)
  | .inr f => fldD fs f
def partsD (fs : List (Str × D)) : List (Str ⊕ Str) → Option (List D)
  | [] => some []
  | p :: ps => match partD fs p, partsD fs ps with
    | some d, some ds => some (d :: ds)
    | _, _ => none
def hands : MHs → Str → List (Str × D) → Env' → Mem → Out
  | .nil, C, fs, ρ, μ => Out.ex C fs ρ μ
  | .cons X i es tuple r, C, fs, ρ, μ => if Γ.isa C X then (if i < ρ.length then (match partsD fs es with
      | some ds => if tuple then .rt (.tup ds) μ else match ds with
        | [d] => .rt d μ
        | _ => .bad
      | none => .bad) else .bad)
    else hands r C fs ρ μ
mutual
def exS : MS → Env' → Mem → Out
  | .ex e, ρ, μ => (evE Γ e ρ μ).to ρ fun _ μ1 => .nx ρ μ1
  | .asg tg e, ρ, μ => (evE Γ e ρ μ).to ρ fun d μ1 => match asgn tg d ρ μ1 with
    | some ρ1 => .nx ρ1 μ1
    | none => .bad
  | .asgSub o i e, ρ, μ => (evE Γ e ρ μ).to ρ fun v μ1 => (evE Γ o ρ μ1).to ρ fun x μ2 => (evE Γ i ρ μ2).to ρ fun y μ3 => match setD x y v μ3 with
    | some μ4 => .nx ρ μ4
    | none => .bad
  | .asgFld o f e, ρ, μ => (evE Γ e ρ μ).to ρ fun v μ1 => (evE Γ o ρ μ1).to ρ fun x μ2 => match x with
    | .ref n => match μ2[n]? with
      | some (.ins C fs) => if Γ.fld C f ∧ fs.length < 900 then .nx ρ (μ2.set n (.ins C (putFld fs f v))) else .bad
      | _ => .bad
    | _ => .bad
  | .aug i op e, ρ, μ => match ρ[i]? with
    | some (some x) => (evE Γ e ρ μ).to ρ fun y μ1 => (match x, y with
      | .int a, .int b => Res.ofO ((binI op a b).map D.int) μ1
      | _, _ => .bad).to ρ fun z μ2 => .nx (setE ρ i z) μ2
    | _ => .bad
  | .augSub o i op e, ρ, μ => (evE Γ o ρ μ).to ρ fun x μ1 => (evE Γ i ρ μ1).to ρ fun y μ2 => (Res.ofO (subD x y μ2) μ2).to ρ fun u μ3 => (evE Γ e ρ μ3).to ρ fun z μ4 =>
      (match u, z with
      | .int a, .int b => Res.ofO ((binI op a b).map D.int) μ4
      | _, _ => .bad).to ρ fun v μ5 => match setD x y v μ5 with
      | some μ6 => .nx ρ μ6
      | none => .bad
  | .ret e, ρ, μ => (evE Γ e ρ μ).to ρ fun d μ1 => .rt d μ1
  | .retN, _, μ => .rt .non μ
  | .ife c a b, ρ, μ => (evE Γ c ρ μ).to ρ fun x μ1 => (Res.ofO (truthD x μ1) μ1).to ρ fun t μ2 => if t then exSs a ρ μ2 else exSs b ρ μ2
  | .forD tg i b, ρ, μ => rForD i tg (fun ρ μ => exSs b ρ μ) ρ μ
  | .whl c b, ρ, μ => whileL (fun ρ μ => (evE Γ c ρ μ).bind fun x μ1 => Res.ofO (truthD x μ1) μ1) (fun ρ μ => exSs b ρ μ) Γ.w ρ μ
  | .forE tg it b, ρ, μ => (evI Γ it ρ μ).to ρ fun r μ1 => forL (fun ρ μ => exSs b ρ μ) tg r.own r.ds ρ μ1
  | .brk, ρ, μ => .br ρ μ
  | .cnt, ρ, μ => .ct ρ μ
  | .pas, ρ, μ => .nx ρ μ
  | .rse C es, ρ, μ => (evEs Γ es ρ μ).to ρ fun ds μ1 => match Γ.xinit C with
    | some fs => if fs.length = ds.length then .ex C (fs.zip ds) ρ μ1 else .bad
    | none => .bad
  | .tri b hs, ρ, μ => match exSs b ρ μ with
    | .ex C fs ρ1 μ1 => hands Γ hs C fs ρ1 μ1
    | o => o
  termination_by structural x => x
def exSs : MSs → Env' → Mem → Out
  | .nil, ρ, μ => .nx ρ μ
  | .cons s ss, ρ, μ => (exS s ρ μ).thn fun ρ1 μ1 => exSs ss ρ1 μ1
  termination_by structural x => x
end
end
/-- a def: its slots, its parameters, its body -/
structure FDef where
  np : Nat
  ns : Nat
  body : MSs
def runD (Γ : Gam) (f : FDef) (ds : List D) (μ : Mem) : Res D :=
  if ds.length = f.np then match exSs Γ f.body (ds.map some ++ List.replicate (f.ns - ds.length) none) μ with
    | .rt d μ1 => .ok d μ1
    | .nx _ μ1 => .ok .non μ1
    | .ex C fs _ μ1 => .ex C fs μ1
    | _ => .bad
  else .bad
end Mi
/-! Mi2: how plain data lies in the tracked heap; the readings. -/
namespace Mi
open PySem L2

section
variable (K : PySem.W.Frag) (mg : Str × Bool → Option Value)
/-- a tuple that stands as one, or the empty one -/
def SqS (K : PySem.W.Frag) (H : Hp) (a : Addr) (vs : List V) : Prop := H a = some (.tup vs) ∨ (vs = [] ∧ SqT K H a vs)
theorem SqS.sq {K : PySem.W.Frag} {H : Hp} {a : Addr} {vs : List V} (h : SqS K H a vs) : SqT K H a vs := h.elim (fun e => SqT.of e) (·.2)
mutual
/-- v is the datum d -/
def Rep (α : List Addr) (H : Hp) : D → V → Prop
  | .non, v => v = .non
  | .bl b, v => v = .bl b
  | .int i, v => v = .int i
  | .str s, v => v = .str s
  | .tup ds, v => ∃ a vs, v = .ref a ∧ SqS K H a vs ∧ Reps α H ds vs
  | .ref n, v => ∃ a, α[n]? = some a ∧ v = .ref a
def Reps (α : List Addr) (H : Hp) : List D → List V → Prop
  | [], vs => vs = []
  | d :: ds, vs => ∃ v r, vs = v :: r ∧ Rep α H d v ∧ Reps α H ds r
end
/-- fields, in order -/
def RepF (α : List Addr) (H : Hp) : List (Str × D) → List (Str × V) → Prop
  | [], ws => ws = []
  | (f, d) :: r, ws => ∃ v ws', ws = (f, v) :: ws' ∧ Rep K α H d v ∧ RepF α H r ws'
/-- a key of a dict -/
def keyOf : D → Option Key
  | .int i => some (.inl i)
  | .str s => some (.inr s)
  | _ => none
def keysOf : List D → Option (List Key)
  | [] => some []
  | d :: r => (keyOf d).bind fun k => (keysOf r).map fun ks => k :: ks
/-- a key of a dict whose keys are tuples -/
def keyTOf : D → Option (List Key)
  | .tup (d :: r) => keysOf (d :: r)
  | _ => none
/-- keys and values of a dict, in order -/
def RepG {κ : Type} (ko : D → Option κ) (α : List Addr) (H : Hp) : List (D × D) → List (κ × V) → Prop
  | [], ws => ws = []
  | (x, d) :: r, ws => ∃ k v ws', ws = (k, v) :: ws' ∧ ko x = some k ∧ Rep K α H d v ∧ RepG ko α H r ws'
/-- a thing of the memory, at its address -/
def CellOk (α : List Addr) (H : Hp) (a : Addr) : Cell → Prop
  | .lst ds => ∃ vs, H a = some (.lst vs) ∧ Reps K α H ds vs
  | .rol ds => ∃ o vs, H a = some (.frz o (.lst vs)) ∧ Reps K α H ds vs
  | .ins C fs => ∃ Ca dx ws, mg (C, true) = some (.ref Ca) ∧ H a = some (.ins Ca dx ws) ∧ RepF K α H fs ws
  | .dic kvs => ∃ ws, H a = some (.dK ws) ∧ RepG K keyOf α H kvs ws
  | .dct false kvs => ∃ ws, H a = some (.dT ws) ∧ RepG K keyTOf α H kvs ws
  | .dct true kvs => ∃ o ws, H a = some (.frz o (.dT ws)) ∧ RepG K keyTOf α H kvs ws
structure Sim (α : List Addr) (μ : Mem) (H : Hp) : Prop where
  len : α.length = μ.length
  nd : α.Nodup
  cell : ∀ (n : Nat) (c : Cell) (a : Addr), μ[n]? = some c → α[n]? = some a → CellOk K mg α H a c
/-- what a run may have done: new things, things of the memory changed, all else kept -/
structure Later (α : List Addr) (H : Hp) (α' : List Addr) (H' : Hp) : Prop where
  ext : ∃ ex, α' = α ++ ex
  new : ∀ x o, x ∉ α → H x = some o → x ∉ α'
  keep : ∀ x o, x ∉ α → H x = some o → H' x = some o
  frz : ∀ x o u, H x = some (.frz o u) → H' x = some (.frz o u)
structure RepE (α : List Addr) (H : Hp) (ρ : Env') (σ : St) : Prop where
  len : ρ.length = σ.length
  val : ∀ (i : Nat) (d : D), ρ[i]? = some (some d) → ∃ v, σ[i]? = some (some v) ∧ Rep K α H d v
end

section
variable {K : PySem.W.Frag} {mg : Str × Bool → Option Value} {α α' α'' : List Addr} {H H' H'' : Hp} {μ μ' : Mem}
theorem Later.refl (α : List Addr) (H : Hp) : Later α H α H := ⟨⟨[], by simp⟩, fun _ _ h _ => h, fun _ _ _ h => h, fun _ _ _ h => h⟩
theorem Later.trans (a : Later α H α' H') (b : Later α' H' α'' H'') : Later α H α'' H'' := by
  obtain ⟨ex, e1⟩ := a.ext
  obtain ⟨ex', e2⟩ := b.ext
  exact ⟨⟨ex ++ ex', by rw [e2, e1, List.append_assoc]⟩, fun x o hx ho => b.new x o (a.new x o hx ho) (a.keep x o hx ho), fun x o hx ho => b.keep x o (a.new x o hx ho) (a.keep x o hx ho), fun x o u h => b.frz x o u (a.frz x o u h)⟩
theorem Later.get (a : Later α H α' H') {n : Nat} {x : Addr} (h : α[n]? = some x) : α'[n]? = some x := by
  obtain ⟨ex, e1⟩ := a.ext
  rw [e1, List.getElem?_append_left (List.getElem?_eq_some_iff.mp h).1]
  exact h
/-- what stands at an address of the memory is no tuple -/
theorem CellOk.not_tup {a : Addr} {c : Cell} (h : CellOk K mg α H a c) : (∀ xs, H a ≠ some (.tup xs)) ∧ ∀ o xs, H a ≠ some (.frz o (.tup xs)) := by
  cases c with
  | lst ds =>
    obtain ⟨vs, e, _⟩ := h
    exact ⟨fun xs q => (by rw [e] at q; cases q), fun o xs q => (by rw [e] at q; cases q)⟩
  | rol ds =>
    obtain ⟨o', vs, e, _⟩ := h
    exact ⟨fun xs q => (by rw [e] at q; cases q), fun o xs q => (by rw [e] at q; cases q)⟩
  | ins C fs =>
    obtain ⟨Ca, dx, ws, _, e, _⟩ := h
    exact ⟨fun xs q => (by rw [e] at q; cases q), fun o xs q => (by rw [e] at q; cases q)⟩
  | dic kvs =>
    obtain ⟨ws, e, _⟩ := h
    exact ⟨fun xs q => (by rw [e] at q; cases q), fun o xs q => (by rw [e] at q; cases q)⟩
  | dct lk kvs =>
    cases lk with
    | false =>
      obtain ⟨ws, e, _⟩ := h
      exact ⟨fun xs q => (by rw [e] at q; cases q), fun o xs q => (by rw [e] at q; cases q)⟩
    | true =>
      obtain ⟨o', ws, e, _⟩ := h
      exact ⟨fun xs q => (by rw [e] at q; cases q), fun o xs q => (by rw [e] at q; cases q)⟩
theorem Sim.at (S : Sim K mg α μ H) {a : Addr} (h : a ∈ α) : ∃ (n : Nat) (c : Cell), α[n]? = some a ∧ μ[n]? = some c ∧ CellOk K mg α H a c := by
  obtain ⟨n, hn⟩ := List.mem_iff_getElem?.mp h
  have hl : n < μ.length := by rw [← S.len]; exact (List.getElem?_eq_some_iff.mp hn).1
  exact ⟨n, μ[n], hn, List.getElem?_eq_getElem hl, S.cell n _ a (List.getElem?_eq_getElem hl) hn⟩
theorem Sim.get (S : Sim K mg α μ H) {n : Nat} {c : Cell} (h : μ[n]? = some c) : ∃ a, α[n]? = some a ∧ CellOk K mg α H a c := by
  have hl : n < α.length := by rw [S.len]; exact (List.getElem?_eq_some_iff.mp h).1
  exact ⟨α[n], List.getElem?_eq_getElem hl, S.cell n c _ h (List.getElem?_eq_getElem hl)⟩
theorem Sim.tupKeep (S : Sim K mg α μ H) (L : Later α H α' H') {a : Addr} {xs : List V} (h : SqT K H a xs) : SqT K H' a xs := by
  rcases h with (h | ⟨o, h⟩) | h
  · refine .inl (.inl (L.keep a _ (fun hm => ?_) h))
    obtain ⟨n, c, _, _, q⟩ := S.at hm
    exact q.not_tup.1 _ h
  · refine .inl (.inr ⟨o, L.keep a _ (fun hm => ?_) h⟩)
    obtain ⟨n, c, _, _, q⟩ := S.at hm
    exact q.not_tup.2 _ _ h
  · exact .inr h
theorem Sim.tupKeepS (S : Sim K mg α μ H) (L : Later α H α' H') {a : Addr} {xs : List V} (h : SqS K H a xs) : SqS K H' a xs := by
  rcases h with h | ⟨e, h⟩
  · refine .inl (L.keep a _ (fun hm => ?_) h)
    obtain ⟨n, c, _, _, q⟩ := S.at hm
    exact q.not_tup.1 _ h
  · exact .inr ⟨e, S.tupKeep L h⟩
mutual
theorem Rep.mono (hx : ∀ (n : Nat) (x : Addr), α[n]? = some x → α'[n]? = some x) (ht : ∀ a xs, SqS K H a xs → SqS K H' a xs) : ∀ (d : D) (v : V), Rep K α H d v → Rep K α' H' d v
  | .non, _, h => h
  | .bl _, _, h => h
  | .int _, _, h => h
  | .str _, _, h => h
  | .tup ds, _, h => by
    simp only [Rep] at h ⊢
    obtain ⟨a, vs, e, t, r⟩ := h
    exact ⟨a, vs, e, ht a vs t, Reps.mono hx ht ds vs r⟩
  | .ref n, _, h => by
    simp only [Rep] at h ⊢
    obtain ⟨a, e, q⟩ := h
    exact ⟨a, hx n a e, q⟩
theorem Reps.mono (hx : ∀ (n : Nat) (x : Addr), α[n]? = some x → α'[n]? = some x) (ht : ∀ a xs, SqS K H a xs → SqS K H' a xs) : ∀ (ds : List D) (vs : List V), Reps K α H ds vs → Reps K α' H' ds vs
  | [], _, h => by simp only [Reps] at h ⊢; exact h
  | d :: ds, _, h => by
    simp only [Reps] at h ⊢
    obtain ⟨v, r, e, h1, h2⟩ := h
    exact ⟨v, r, e, Rep.mono hx ht d v h1, Reps.mono hx ht ds r h2⟩
end
theorem RepF.mono (hx : ∀ (n : Nat) (x : Addr), α[n]? = some x → α'[n]? = some x) (ht : ∀ a xs, SqS K H a xs → SqS K H' a xs) : ∀ (fs : List (Str × D)) (ws : List (Str × V)), RepF K α H fs ws → RepF K α' H' fs ws
  | [], _, h => by simp only [RepF] at h ⊢; exact h
  | (f, d) :: r, _, h => by
    simp only [RepF] at h ⊢
    obtain ⟨v, ws', e, h1, h2⟩ := h
    exact ⟨v, ws', e, Rep.mono hx ht d v h1, RepF.mono hx ht r ws' h2⟩
theorem RepG.mono {κ : Type} {ko : D → Option κ} (hx : ∀ (n : Nat) (x : Addr), α[n]? = some x → α'[n]? = some x) (ht : ∀ a xs, SqS K H a xs → SqS K H' a xs) : ∀ (fs : List (D × D)) (ws : List (κ × V)), RepG K ko α H fs ws → RepG K ko α' H' fs ws
  | [], _, h => by simp only [RepG] at h ⊢; exact h
  | (x, d) :: r, _, h => by
    simp only [RepG] at h ⊢
    obtain ⟨k, v, ws', e, h0, h1, h2⟩ := h
    exact ⟨k, v, ws', e, h0, Rep.mono hx ht d v h1, RepG.mono hx ht r ws' h2⟩
theorem Rep.later (S : Sim K mg α μ H) (L : Later α H α' H') {d : D} {v : V} (h : Rep K α H d v) : Rep K α' H' d v := Rep.mono (fun _ _ => L.get) (fun _ _ => S.tupKeepS L) d v h
theorem Reps.later (S : Sim K mg α μ H) (L : Later α H α' H') {ds : List D} {vs : List V} (h : Reps K α H ds vs) : Reps K α' H' ds vs := Reps.mono (fun _ _ => L.get) (fun _ _ => S.tupKeepS L) ds vs h
theorem RepF.later (S : Sim K mg α μ H) (L : Later α H α' H') {fs : List (Str × D)} {ws : List (Str × V)} (h : RepF K α H fs ws) : RepF K α' H' fs ws := RepF.mono (fun _ _ => L.get) (fun _ _ => S.tupKeepS L) fs ws h
theorem RepG.later {κ : Type} {ko : D → Option κ} (S : Sim K mg α μ H) (L : Later α H α' H') {fs : List (D × D)} {ws : List (κ × V)} (h : RepG K ko α H fs ws) : RepG K ko α' H' fs ws := RepG.mono (fun _ _ => L.get) (fun _ _ => S.tupKeepS L) fs ws h
theorem RepE.later (S : Sim K mg α μ H) (L : Later α H α' H') {ρ : Env'} {σ : St} (h : RepE K α H ρ σ) : RepE K α' H' ρ σ :=
  ⟨h.len, fun i d e => let ⟨v, e1, r⟩ := h.val i d e; ⟨v, e1, r.later S L⟩⟩
theorem Reps.len : ∀ {ds : List D} {vs : List V}, Reps K α H ds vs → ds.length = vs.length
  | [], _, h => by simp only [Reps] at h; subst h; rfl
  | d :: ds, _, h => by
    simp only [Reps] at h
    obtain ⟨v, r, e, _, h2⟩ := h
    subst e
    simp [Reps.len h2]
theorem Reps.get : ∀ {ds : List D} {vs : List V} {i : Nat} {d : D}, Reps K α H ds vs → ds[i]? = some d → ∃ v, vs[i]? = some v ∧ Rep K α H d v
  | [], _, i, _, h, e => by simp at e
  | d :: ds, _, 0, x, h, e => by
    simp only [Reps] at h
    obtain ⟨v, r, q, h1, _⟩ := h
    subst q
    simp at e; subst e
    exact ⟨v, rfl, h1⟩
  | d :: ds, _, i + 1, x, h, e => by
    simp only [Reps] at h
    obtain ⟨v, r, q, _, h2⟩ := h
    subst q
    simpa using Reps.get h2 (by simpa using e)
theorem Reps.at : ∀ {ds : List D} {vs : List V} {i : Nat} {v : V}, Reps K α H ds vs → vs[i]? = some v → ∃ d, ds[i]? = some d ∧ Rep K α H d v
  | [], _, i, _, h, e => by simp only [Reps] at h; subst h; simp at e
  | d :: ds, _, 0, x, h, e => by
    simp only [Reps] at h
    obtain ⟨v, r, q, h1, _⟩ := h
    subst q
    simp at e; subst e
    exact ⟨d, rfl, h1⟩
  | d :: ds, _, i + 1, x, h, e => by
    simp only [Reps] at h
    obtain ⟨v, r, q, _, h2⟩ := h
    subst q
    simpa using Reps.at h2 (by simpa using e)
theorem Reps.append : ∀ {ds es : List D} {vs ws : List V}, Reps K α H ds vs → Reps K α H es ws → Reps K α H (ds ++ es) (vs ++ ws)
  | [], _, _, _, h, g => by simp only [Reps] at h; subst h; exact g
  | d :: ds, es, _, _, h, g => by
    simp only [Reps] at h
    obtain ⟨v, r, q, h1, h2⟩ := h
    subst q
    simp only [List.cons_append, Reps]
    exact ⟨v, _, rfl, h1, Reps.append h2 g⟩
theorem Reps.of_get : ∀ {ds : List D} {vs : List V}, ds.length = vs.length → (∀ (i : Nat) (d : D) (v : V), ds[i]? = some d → vs[i]? = some v → Rep K α H d v) → Reps K α H ds vs
  | [], [], _, _ => by simp [Reps]
  | [], _ :: _, h, _ => by simp at h
  | _ :: _, [], h, _ => by simp at h
  | d :: ds, v :: vs, h, g => by
    simp only [Reps]
    exact ⟨v, vs, rfl, g 0 d v rfl rfl, Reps.of_get (by simpa using h) fun i x y h1 h2 => g (i + 1) x y (by simpa using h1) (by simpa using h2)⟩
theorem Reps.sub {ds es : List D} {vs ws : List V} (h : Reps K α H ds vs) (hl : es.length = ws.length) (f : ∀ (i : Nat) (x : D) (y : V), es[i]? = some x → ws[i]? = some y → ∃ (j : Nat), ds[j]? = some x ∧ vs[j]? = some y) : Reps K α H es ws :=
  Reps.of_get hl fun i x y h1 h2 => by
    obtain ⟨j, e1, e2⟩ := f i x y h1 h2
    obtain ⟨v, e3, r⟩ := h.get e1
    rw [e2] at e3; cases e3
    exact r
theorem Reps.drop {ds : List D} {vs : List V} (h : Reps K α H ds vs) (n : Nat) : Reps K α H (ds.drop n) (vs.drop n) :=
  h.sub (by simp [h.len]) fun i x y h1 h2 => ⟨n + i, by simpa using h1, by simpa using h2⟩
theorem Reps.take {ds : List D} {vs : List V} (h : Reps K α H ds vs) (n : Nat) : Reps K α H (ds.take n) (vs.take n) :=
  h.sub (by simp [h.len]) fun i x y h1 h2 => by
    rw [List.getElem?_take] at h1 h2
    by_cases hi : i < n
    · rw [if_pos hi] at h1 h2; exact ⟨i, h1, h2⟩
    · rw [if_neg hi] at h1; cases h1
theorem Reps.reverse {ds : List D} {vs : List V} (h : Reps K α H ds vs) : Reps K α H ds.reverse vs.reverse :=
  h.sub (by simp [h.len]) fun i x y h1 h2 => by
    have hi : i < ds.length := by have := (List.getElem?_eq_some_iff.mp h1).1; simpa using this
    rw [List.getElem?_reverse hi] at h1
    rw [List.getElem?_reverse (by rw [← h.len]; exact hi), ← h.len] at h2
    exact ⟨_, h1, h2⟩
theorem Reps.set {ds : List D} {vs : List V} {d : D} {v : V} (h : Reps K α H ds vs) (r : Rep K α H d v) (j : Nat) : Reps K α H (ds.set j d) (vs.set j v) :=
  Reps.of_get (by simp [h.len]) fun i x y h1 h2 => by
    have hl := h.len
    by_cases hj : j = i
    · subst hj
      by_cases hd : j < ds.length
      · rw [List.getElem?_set_self hd] at h1
        rw [List.getElem?_set_self (by omega)] at h2
        cases h1; cases h2; exact r
      · rw [List.getElem?_eq_none (by simp; omega)] at h1; cases h1
    · rw [List.getElem?_set_ne hj] at h1 h2
      obtain ⟨w, e, q⟩ := h.get h1
      rw [h2] at e; cases e; exact q
theorem Reps.rep : ∀ {ds : List D} {vs : List V} (n : Nat), Reps K α H ds vs → Reps K α H (List.replicate n ds).flatten (List.replicate n vs).flatten
  | _, _, 0, _ => by simp [Reps]
  | _, _, n + 1, h => by
    simp only [List.replicate_succ, List.flatten_cons]
    exact h.append (Reps.rep n h)
theorem Reps.one {d : D} {v : V} (h : Rep K α H d v) : Reps K α H [d] [v] := by simp only [Reps]; exact ⟨v, [], rfl, h, rfl⟩
theorem Reps.ints : ∀ {ds : List D} {vs : List V} {ns : List Int}, Reps K α H ds vs → intsOf ds = some ns → vs = ns.map V.int
  | [], _, ns, h, e => by simp only [Reps] at h; simp only [intsOf] at e; cases e; exact h
  | .int i :: ds, _, ns, h, e => by
    simp only [Reps] at h
    obtain ⟨v, r, q, h1, h2⟩ := h
    simp only [intsOf] at e
    cases q2 : intsOf ds with
    | none => rw [q2] at e; cases e
    | some ms =>
      rw [q2] at e; cases e
      subst q
      simp only [Rep] at h1
      rw [h1, Reps.ints h2 q2]; rfl
  | .non :: _, _, _, _, e => by simp [intsOf] at e
  | .bl _ :: _, _, _, _, e => by simp [intsOf] at e
  | .str _ :: _, _, _, _, e => by simp [intsOf] at e
  | .tup _ :: _, _, _, _, e => by simp [intsOf] at e
  | .ref _ :: _, _, _, _, e => by simp [intsOf] at e
theorem Reps.bls : ∀ {ds : List D} {vs : List V} {ns : List Bool}, Reps K α H ds vs → blsOf ds = some ns → vs = ns.map V.bl
  | [], _, ns, h, e => by simp only [Reps] at h; simp only [blsOf] at e; cases e; exact h
  | .bl i :: ds, _, ns, h, e => by
    simp only [Reps] at h
    obtain ⟨v, r, q, h1, h2⟩ := h
    simp only [blsOf] at e
    cases q2 : blsOf ds with
    | none => rw [q2] at e; cases e
    | some ms =>
      rw [q2] at e; cases e
      subst q
      simp only [Rep] at h1
      rw [h1, Reps.bls h2 q2]; rfl
  | .non :: _, _, _, _, e => by simp [blsOf] at e
  | .int _ :: _, _, _, _, e => by simp [blsOf] at e
  | .str _ :: _, _, _, _, e => by simp [blsOf] at e
  | .tup _ :: _, _, _, _, e => by simp [blsOf] at e
  | .ref _ :: _, _, _, _, e => by simp [blsOf] at e
theorem Reps.ofInts : ∀ (ns : List Int), Reps K α H (ns.map D.int) (ns.map V.int)
  | [] => by simp [Reps]
  | n :: ns => by
    simp only [List.map_cons, Reps]
    exact ⟨_, _, rfl, rfl, Reps.ofInts ns⟩

/-! ### a new thing, a changed one -/
theorem upd_tup {p : Addr} {o : HO} (hp : H p = none) {a : Addr} {xs : List V} (h : SqT K H a xs) : SqT K (upd H p o) a xs := by
  rcases h with (h | ⟨ob, h⟩) | h
  · exact .inl (.inl (by rw [upd_ne (ne_of_none h hp)]; exact h))
  · exact .inl (.inr ⟨ob, by rw [upd_ne (ne_of_none h hp)]; exact h⟩)
  · exact .inr h
/-- an object laid that is no thing of the memory -/
theorem Sim.lay (S : Sim K mg α μ H) {p : Addr} {o : HO} (hp : H p = none) : Sim K mg α μ (upd H p o) ∧ Later α H α (upd H p o) := by
  have np : p ∉ α := fun hm => by
    obtain ⟨n, c, _, _, q⟩ := S.at hm
    cases c with
    | lst ds => obtain ⟨vs, e, _⟩ := q; rw [hp] at e; cases e
    | rol ds => obtain ⟨o', vs, e, _⟩ := q; rw [hp] at e; cases e
    | ins C fs => obtain ⟨Ca, dx, ws, _, e, _⟩ := q; rw [hp] at e; cases e
    | dic kvs => obtain ⟨ws, e, _⟩ := q; rw [hp] at e; cases e
    | dct lk kvs =>
      cases lk with
      | false => obtain ⟨ws, e, _⟩ := q; rw [hp] at e; cases e
      | true => obtain ⟨o', ws, e, _⟩ := q; rw [hp] at e; cases e
  have L : Later α H α (upd H p o) := ⟨⟨[], by simp⟩, fun _ _ h _ => h, fun x u _ hu => (by rw [upd_ne (ne_of_none hu hp)]; exact hu), fun x _ u hu => (by rw [upd_ne (ne_of_none hu hp)]; exact hu)⟩
  refine ⟨⟨S.len, S.nd, fun n c a h1 h2 => ?_⟩, L⟩
  have q := S.cell n c a h1 h2
  have ne : a ≠ p := fun e => np (e ▸ List.mem_of_getElem? h2)
  cases c with
  | lst ds => obtain ⟨vs, e, r⟩ := q; exact ⟨vs, by rw [upd_ne ne]; exact e, r.later S L⟩
  | rol ds => obtain ⟨o', vs, e, r⟩ := q; exact ⟨o', vs, by rw [upd_ne ne]; exact e, r.later S L⟩
  | ins C fs => obtain ⟨Ca, dx, ws, m, e, r⟩ := q; exact ⟨Ca, dx, ws, m, by rw [upd_ne ne]; exact e, r.later S L⟩
  | dic kvs => obtain ⟨ws, e, r⟩ := q; exact ⟨ws, by rw [upd_ne ne]; exact e, r.later S L⟩
  | dct lk kvs =>
    cases lk with
    | false => obtain ⟨ws, e, r⟩ := q; exact ⟨ws, by rw [upd_ne ne]; exact e, r.later S L⟩
    | true => obtain ⟨o', ws, e, r⟩ := q; exact ⟨o', ws, by rw [upd_ne ne]; exact e, r.later S L⟩
theorem Sim.fresh (S : Sim K mg α μ H) {p : Addr} (hp : H p = none) : p ∉ α := fun hm => by
  obtain ⟨n, c, _, _, q⟩ := S.at hm
  cases c with
  | lst ds => obtain ⟨vs, e, _⟩ := q; rw [hp] at e; cases e
  | rol ds => obtain ⟨o', vs, e, _⟩ := q; rw [hp] at e; cases e
  | ins C fs => obtain ⟨Ca, dx, ws, _, e, _⟩ := q; rw [hp] at e; cases e
  | dic kvs => obtain ⟨ws, e, _⟩ := q; rw [hp] at e; cases e
  | dct lk kvs =>
    cases lk with
    | false => obtain ⟨ws, e, _⟩ := q; rw [hp] at e; cases e
    | true => obtain ⟨o', ws, e, _⟩ := q; rw [hp] at e; cases e
/-- an object that is no thing of the memory becomes one -/
theorem Sim.take (S : Sim K mg α μ H) {p : Addr} {c : Cell} (np : p ∉ α) (h : CellOk K mg α H p c) : Sim K mg (α ++ [p]) (μ ++ [c]) H := by
  have hx : ∀ (n : Nat) (x : Addr), α[n]? = some x → (α ++ [p])[n]? = some x := fun n x e => by rw [List.getElem?_append_left (List.getElem?_eq_some_iff.mp e).1]; exact e
  have up : ∀ {a : Addr} {c : Cell}, CellOk K mg α H a c → CellOk K mg (α ++ [p]) H a c := fun {a c} q => by
    cases c with
    | lst ds => obtain ⟨vs, e, r⟩ := q; exact ⟨vs, e, Reps.mono hx (fun _ _ z => z) ds vs r⟩
    | rol ds => obtain ⟨o', vs, e, r⟩ := q; exact ⟨o', vs, e, Reps.mono hx (fun _ _ z => z) ds vs r⟩
    | ins C fs => obtain ⟨Ca, dx, ws, m, e, r⟩ := q; exact ⟨Ca, dx, ws, m, e, RepF.mono hx (fun _ _ z => z) fs ws r⟩
    | dic kvs => obtain ⟨ws, e, r⟩ := q; exact ⟨ws, e, RepG.mono hx (fun _ _ z => z) kvs ws r⟩
    | dct lk kvs =>
      cases lk with
      | false => obtain ⟨ws, e, r⟩ := q; exact ⟨ws, e, RepG.mono hx (fun _ _ z => z) kvs ws r⟩
      | true => obtain ⟨o', ws, e, r⟩ := q; exact ⟨o', ws, e, RepG.mono hx (fun _ _ z => z) kvs ws r⟩
  refine ⟨by simp [S.len], ?_, fun n c' a h1 h2 => ?_⟩
  · rw [List.nodup_append]
    refine ⟨S.nd, by simp, fun a ha b hb e => ?_⟩
    simp at hb
    exact np (by rw [← hb, ← e]; exact ha)
  · by_cases hn : n < α.length
    · rw [List.getElem?_append_left (by rw [← S.len]; exact hn)] at h1
      rw [List.getElem?_append_left hn] at h2
      exact up (S.cell n c' a h1 h2)
    · have hn' : n = α.length := by
        have := (List.getElem?_eq_some_iff.mp h2).1
        simp at this; omega
      subst hn'
      rw [List.getElem?_append_right (by rw [S.len]; exact Nat.le_refl _), S.len] at h1
      rw [List.getElem?_append_right (Nat.le_refl _)] at h2
      simp at h1 h2
      subst h1; subst h2
      exact up h
theorem Later.taken {p : Addr} {o : HO} (S : Sim K mg α μ H) (hp : H p = none) : Later α H (α ++ [p]) (upd H p o) := by
  refine ⟨⟨[p], rfl⟩, fun x u hx hu hm => ?_, fun x u _ hu => (by rw [upd_ne (ne_of_none hu hp)]; exact hu), fun x _ u hu => (by rw [upd_ne (ne_of_none hu hp)]; exact hu)⟩
  rcases List.mem_append.mp hm with q | q
  · exact hx q
  · simp at q; subst q; rw [hp] at hu; cases hu
/-- a thing of the memory is changed -/
theorem Sim.put (S : Sim K mg α μ H) {n : Nat} {a : Addr} {c : Cell} {o : HO} (ha : α[n]? = some a) (hf : ∀ o u, H a ≠ some (.frz o u)) (h : ∀ L : Later α H α (upd H a o), CellOk K mg α (upd H a o) a c) : Sim K mg α (μ.set n c) (upd H a o) ∧ Later α H α (upd H a o) := by
  have hm : a ∈ α := List.mem_of_getElem? ha
  have L : Later α H α (upd H a o) := ⟨⟨[], by simp⟩, fun _ _ h _ => h, fun x u hx hu => (by rw [upd_ne (fun e => hx (by rw [e]; exact hm))]; exact hu), fun x o' u hu => (by rw [upd_ne (fun e => hf o' u (by rw [← e]; exact hu))]; exact hu)⟩
  have hn : n < μ.length := by rw [← S.len]; exact (List.getElem?_eq_some_iff.mp ha).1
  refine ⟨⟨by simp [S.len], S.nd, fun m c' b h1 h2 => ?_⟩, L⟩
  by_cases hmn : m = n
  · subst hmn
    rw [List.getElem?_set_self hn] at h1
    rw [ha] at h2
    cases h1; cases h2
    exact h L
  · rw [List.getElem?_set_ne (Ne.symm hmn)] at h1
    have ne : b ≠ a := fun e => by
      subst e
      obtain ⟨q1, e1⟩ := List.getElem?_eq_some_iff.mp h2
      obtain ⟨q2, e2⟩ := List.getElem?_eq_some_iff.mp ha
      exact hmn ((List.getElem_inj S.nd).mp (e1.trans e2.symm))
    have q := S.cell m c' b h1 h2
    cases c' with
    | lst ds => obtain ⟨vs, e, r⟩ := q; exact ⟨vs, by rw [upd_ne ne]; exact e, r.later S L⟩
    | rol ds => obtain ⟨o', vs, e, r⟩ := q; exact ⟨o', vs, by rw [upd_ne ne]; exact e, r.later S L⟩
    | ins C fs => obtain ⟨Ca, dx, ws, mm, e, r⟩ := q; exact ⟨Ca, dx, ws, mm, by rw [upd_ne ne]; exact e, r.later S L⟩
    | dic kvs => obtain ⟨ws, e, r⟩ := q; exact ⟨ws, by rw [upd_ne ne]; exact e, r.later S L⟩
    | dct lk kvs =>
      cases lk with
      | false => obtain ⟨ws, e, r⟩ := q; exact ⟨ws, by rw [upd_ne ne]; exact e, r.later S L⟩
      | true => obtain ⟨o', ws, e, r⟩ := q; exact ⟨o', ws, by rw [upd_ne ne]; exact e, r.later S L⟩
end
end Mi
/-! Mi3: the readings of data, one lemma a construct. -/
namespace Mi
open PySem L2

/-! ### weakening a reading -/
theorem _root_.L2.PE.imp {X : Cx} {e : Expr} {t t' : TE} (h : PE X e t) (f : ∀ σ H Q, t' σ H Q → t σ H Q) : PE X e t' := ⟨fun pins s σ H Q I q => h.run pins s σ H Q I (f σ H Q q)⟩
theorem _root_.L2.PT.imp {X : Cx} {e : Expr} {t t' : TT} (h : PT X e t) (f : ∀ σ H Q, t' σ H Q → t σ H Q) : PT X e t' := ⟨fun pins s σ H Q I q => h.run pins s σ H Q I (f σ H Q q)⟩
theorem _root_.L2.PW.imp {X : Cx} {e : Expr} {t t' : TT} (h : PW X e t) (f : ∀ σ H Q, t' σ H Q → t σ H Q) : PW X e t' := ⟨fun wh pins s σ H Q I q => h.run wh pins s σ H Q I (f σ H Q q)⟩
theorem _root_.L2.PA.imp {X : Cx} {e : List Expr} {t t' : TA} (h : PA X e t) (f : ∀ σ H Q, t' σ H Q → t σ H Q) : PA X e t' := ⟨fun pos pins s σ H Q I q => h.run pos pins s σ H Q I (f σ H Q q)⟩
theorem _root_.L2.PO.imp {X : Cx} {e : Option Expr} {t t' : TO} (h : PO X e t) (f : ∀ σ H Q, t' σ H Q → t σ H Q) : PO X e t' := ⟨fun pins s σ H Q I q => h.run pins s σ H Q I (f σ H Q q)⟩
theorem _root_.L2.PS.imp {X : Cx} {e : Stmt} {t t' : TS} (h : PS X e t) (f : ∀ D σ H, t' D σ H → t D σ H) : PS X e t' := ⟨fun pins s σ H D I q => h.run pins s σ H D I (f D σ H q)⟩
theorem _root_.L2.PSs.imp {X : Cx} {e : List Stmt} {t t' : TS} (h : PSs X e t) (f : ∀ D σ H, t' D σ H → t D σ H) : PSs X e t' := ⟨fun pins s σ H D I q => h.run pins s σ H D I (f D σ H q)⟩
theorem _root_.L2.PG.imp {X : Cx} {e : Expr} {t t' : TG} (h : PG X e t) (f : ∀ v σ H Q, t' v σ H Q → t v σ H Q) : PG X e t' := ⟨fun pins s σ H v u Q I r q => h.run pins s σ H v u Q I r (f v σ H Q q)⟩
theorem _root_.L2.PG.orr {X : Cx} {e : Expr} {t t' : TG} (h : PG X e t) (h' : PG X e t') : PG X e (fun v σ H Q => t v σ H Q ∨ t' v σ H Q) :=
  ⟨fun pins s σ H v u Q I r q => q.elim (h.run pins s σ H v u Q I r) (h'.run pins s σ H v u Q I r)⟩
theorem _root_.L2.PI.imp {X : Cx} {tg e : Expr} {t t' : TI} (h : PI X tg e t) (f : ∀ σ H R, t' σ H R → t σ H R) : PI X tg e t' := ⟨fun pins s σ H R I q => h.run pins s σ H R I (f σ H R q)⟩
theorem _root_.L2.PI.orr {X : Cx} {tg e : Expr} {t t' : TI} (h : PI X tg e t) (h' : PI X tg e t') : PI X tg e (fun σ H R => t σ H R ∨ t' σ H R) :=
  ⟨fun pins s σ H R I q => q.elim (h.run pins s σ H R I) (h'.run pins s σ H R I)⟩

section
variable (K : PySem.W.Frag) (mg : Str × Bool → Option Value)
/-- the fields of a caught exception's dict -/
def ExOk (α : List Addr) (H : Hp) (C : Str) (fs : List (Str × D)) (cls : Value) (d : Option Addr) : Prop :=
  ∃ Ca da ws, mg (C, false) = some (.ref Ca) ∧ cls = .ref Ca ∧ d = some da ∧ H da = some (.xd ws) ∧ ∀ f x, fldD fs f = some x → ∃ v, ws.lookup f = some v ∧ Rep K α H x v ∧ PySem.W.findIn K (.ref Ca) f = some none
/-- the end of a run -/
def Post {β : Type} (α : List Addr) (H : Hp) (q : β → Mem → List Addr → Hp → Prop) (w : Value → Option Addr → Hp → Prop) : Res β → Prop
  | .ok b μ => ∀ α' H', Later α H α' H' → Sim K mg α' μ H' → q b μ α' H'
  | .ex C fs μ => ∀ α' H' cls d, Later α H α' H' → Sim K mg α' μ H' → ExOk K mg α' H' C fs cls d → w cls d H'
  | .bad => False
/-- a run's good end, as a wish of values -/
abbrev okV (K : PySem.W.Frag) (Q : VK) : D → Mem → List Addr → Hp → Prop := fun d _ α' H' => ∀ v, Rep K α' H' d v → Q v H'
/-- the readings of data -/
def tE (r : Env' → Mem → Res D) (W : WX) : TE := fun σ H Q => ∃ α μ ρ, Sim K mg α μ H ∧ RepE K α H ρ σ ∧ Post K mg α H (okV K Q) (fun c d H' => W c d σ H') (r ρ μ)
def tB (r : Env' → Mem → Res Bool) (W : WX) : TT := fun σ H Q => ∃ α μ ρ, Sim K mg α μ H ∧ RepE K α H ρ σ ∧ Post K mg α H (fun b _ _ H' => Q b H') (fun c d H' => W c d σ H') (r ρ μ)
def tAs (r : Env' → Mem → Res (List D)) (W : WX) : TA := fun σ H Q => ∃ α μ ρ, Sim K mg α μ H ∧ RepE K α H ρ σ ∧ Post K mg α H (fun ds _ α' H' => ∀ vs, Reps K α' H' ds vs → Q vs H') (fun c d H' => W c d σ H') (r ρ μ)
def tOp' (r : Env' → Mem → Res (Option Int)) (W : WX) : TO := fun σ H Q => ∃ α μ ρ, Sim K mg α μ H ∧ RepE K α H ρ σ ∧ Post K mg α H (fun o _ _ H' => Q o H') (fun c d H' => W c d σ H') (r ρ μ)
/-- where the items of an Its lie: an address, what is read there -/
def LstAt (α : List Addr) (H : Hp) (it : Its) (a : Addr) (vs : List V) : Prop :=
  Reps K α H it.ds vs ∧ ((SqS K H a vs ∧ it.own = [] ∧ it.tup = true) ∨ (H a = some (.lst vs) ∧ a ∉ α ∧ it.own = [] ∧ it.tup = false) ∨ (SqL K H a vs ∧ it.tup = false ∧ ∃ n c, α[n]? = some a ∧ it.own = [(n, c)] ∧ (c = .lst it.ds ∨ c = .rol it.ds)))
def tL (r : Env' → Mem → Res Its) (W : WX) : TE := fun σ H Q => ∃ α μ ρ, Sim K mg α μ H ∧ RepE K α H ρ σ ∧ Post K mg α H (fun it _ α' H' => ∀ a vs, LstAt K α' H' it a vs → Q (.ref a) H') (fun c d H' => W c d σ H') (r ρ μ)
/-- a list that was just made, that nothing holds -/
def tM (r : Env' → Mem → Res (List D)) (W : WX) : TE := fun σ H Q => ∃ α μ ρ, Sim K mg α μ H ∧ RepE K α H ρ σ ∧ Post K mg α H (fun ds _ α' H' => ∀ a vs, Reps K α' H' ds vs → H' a = some (.lst vs) → a ∉ α' → H a = none → Q (.ref a) H') (fun c d H' => W c d σ H') (r ρ μ)
end

section
variable {K : PySem.W.Frag} {mg : Str × Bool → Option Value} {α α' : List Addr} {H H' : Hp} {μ : Mem} {β γ : Type}
  {q q' : β → Mem → List Addr → Hp → Prop} {w : Value → Option Addr → Hp → Prop}
theorem Post.mono {r : Res β} (h : Post K mg α H q w r) (f : ∀ b μ' α' H', Later α H α' H' → Sim K mg α' μ' H' → q b μ' α' H' → q' b μ' α' H') : Post K mg α H q' w r := by
  cases r with
  | ok b μ => exact fun α' H' L S => f b μ α' H' L S (h α' H' L S)
  | ex C fs μ => exact h
  | bad => exact h
theorem Post.later {r : Res β} (h : Post K mg α H q w r) (L : Later α H α' H') : Post K mg α' H' q w r := by
  cases r with
  | ok b μ => exact fun α'' H'' L' S => h α'' H'' (L.trans L') S
  | ex C fs μ => exact fun α'' H'' cls d L' S => h α'' H'' cls d (L.trans L') S
  | bad => exact h
theorem Post.bind {r : Res β} {f : β → Mem → Res γ} {q : γ → Mem → List Addr → Hp → Prop} (h : Post K mg α H q w (r.bind f)) : Post K mg α H (fun b μ' α' H' => Post K mg α' H' q w (f b μ')) w r := by
  cases r with
  | ok b μ => exact fun α' H' L S => Post.later h L
  | ex C fs μ => exact h
  | bad => exact h
/-- run r, go on with what came -/
theorem Post.then {r : Res β} {f : β → Mem → Res γ} {q : γ → Mem → List Addr → Hp → Prop} (h : Post K mg α H q w (r.bind f))
    (g : ∀ b μ' α' H', Later α H α' H' → Sim K mg α' μ' H' → Post K mg α' H' q w (f b μ') → q' b μ' α' H') : Post K mg α H q' w r := h.bind.mono g
theorem Post.here {b : β} (h : Post K mg α H q w (.ok b μ)) (S : Sim K mg α μ H) : q b μ α H := h α H (Later.refl _ _) S
theorem Post.ofO {o : Option β} (h : Post K mg α H q w (Res.ofO o μ)) (S : Sim K mg α μ H) : ∃ b, o = some b ∧ q b μ α H := by
  cases o with
  | none => exact h.elim
  | some b => exact ⟨b, rfl, Post.here h S⟩
theorem Post.ofOb {o : Option β} {f : β → Mem → Res γ} {q : γ → Mem → List Addr → Hp → Prop} (h : Post K mg α H q w ((Res.ofO o μ).bind f)) : ∃ b, o = some b ∧ Post K mg α H q w (f b μ) := by
  cases o with
  | none => exact h.elim
  | some b => exact ⟨b, rfl, h⟩
theorem Post.mapO {o : Option β} {f : β → γ} {q : γ → Mem → List Addr → Hp → Prop} (h : Post K mg α H q w (Res.ofO (o.map f) μ)) (S : Sim K mg α μ H) : ∃ b, o = some b ∧ q (f b) μ α H := by
  cases o with
  | none => exact h.elim
  | some b => exact ⟨b, rfl, Post.here h S⟩
theorem Post.guard {c : Prop} [Decidable c] {r : Res β} (h : Post K mg α H q w (if c then r else .bad)) : c ∧ Post K mg α H q w r := by
  by_cases hc : c
  · rw [if_pos hc] at h; exact ⟨hc, h⟩
  · rw [if_neg hc] at h; exact h.elim
/-- a new tuple -/
theorem Post.tup {Q : VK} {ds : List D} {vs : List V} (h : Post K mg α H (okV K Q) w (.ok (.tup ds) μ)) (S : Sim K mg α μ H) (r : Reps K α H ds vs) : ∀ p, H p = none → Q (.ref p) (upd H p (.tup vs)) := fun p hp => by
  obtain ⟨S', L⟩ := S.lay (o := .tup vs) hp
  refine h α _ L S' _ ?_
  simp only [Rep]
  exact ⟨p, vs, rfl, .inl upd_same, r.later S L⟩
/-- a tuple that stands already -/
theorem Post.tupAt {Q : VK} {ds : List D} {vs : List V} {a : Addr} (h : Post K mg α H (okV K Q) w (.ok (.tup ds) μ)) (S : Sim K mg α μ H) (r : Reps K α H ds vs) (t : SqS K H a vs) : Q (.ref a) H := by
  refine Post.here h S _ ?_
  simp only [Rep]
  exact ⟨a, vs, rfl, t, r⟩
/-- a new list of the memory -/
theorem Post.lst {Q : VK} {ds : List D} {vs : List V} (h : Post K mg α H (okV K Q) w (alloc (.lst ds) μ)) (S : Sim K mg α μ H) (r : Reps K α H ds vs) : ∀ p, H p = none → Q (.ref p) (upd H p (.lst vs)) := fun p hp => by
  obtain ⟨S', L⟩ := S.lay (o := .lst vs) hp
  have np := S.fresh hp
  have S2 := S'.take (p := p) (c := .lst ds) np ⟨vs, upd_same, r.later S L⟩
  refine h (α ++ [p]) _ (Later.taken S hp) S2 _ ?_
  simp only [Rep]
  exact ⟨p, by rw [List.getElem?_append_right (by rw [S.len]; exact Nat.le_refl _), S.len]; simp, rfl⟩
theorem Post.dic {Q : VK} {kvs : List (D × D)} {ws : List (Key × V)} (h : Post K mg α H (okV K Q) w (alloc (.dic kvs) μ)) (S : Sim K mg α μ H) (r : RepG K keyOf α H kvs ws) : ∀ p, H p = none → Q (.ref p) (upd H p (.dK ws)) := fun p hp => by
  obtain ⟨S', L⟩ := S.lay (o := .dK ws) hp
  have np := S.fresh hp
  have S2 := S'.take (p := p) (c := .dic kvs) np ⟨ws, upd_same, r.later S L⟩
  refine h (α ++ [p]) _ (Later.taken S hp) S2 _ ?_
  simp only [Rep]
  exact ⟨p, by rw [List.getElem?_append_right (by rw [S.len]; exact Nat.le_refl _), S.len]; simp, rfl⟩
theorem Post.dct {Q : VK} {kvs : List (D × D)} {ws : List (List Key × V)} (h : Post K mg α H (okV K Q) w (alloc (.dct false kvs) μ)) (S : Sim K mg α μ H) (r : RepG K keyTOf α H kvs ws) : ∀ p, H p = none → Q (.ref p) (upd H p (.dT ws)) := fun p hp => by
  obtain ⟨S', L⟩ := S.lay (o := .dT ws) hp
  have np := S.fresh hp
  have S2 := S'.take (p := p) (c := .dct false kvs) np ⟨ws, upd_same, r.later S L⟩
  refine h (α ++ [p]) _ (Later.taken S hp) S2 _ ?_
  simp only [Rep]
  exact ⟨p, by rw [List.getElem?_append_right (by rw [S.len]; exact Nat.le_refl _), S.len]; simp, rfl⟩
/-- a list that was made becomes one of the memory -/
theorem Post.own {Q : VK} {ds : List D} {vs : List V} {p : Addr} {α0 : List Addr} {H0 : Hp} (h : Post K mg α0 H0 (okV K Q) w (alloc (.lst ds) μ)) (L : Later α0 H0 α H) (S : Sim K mg α μ H) (r : Reps K α H ds vs) (hp : H p = some (.lst vs)) (np : p ∉ α) (hn : H0 p = none) : Q (.ref p) H := by
  have S2 := S.take (p := p) (c := .lst ds) np ⟨vs, hp, r⟩
  have L2 : Later α0 H0 (α ++ [p]) H := by
    obtain ⟨ex, e⟩ := L.ext
    refine ⟨⟨ex ++ [p], by rw [e, List.append_assoc]⟩, fun x o hx ho hm => ?_, L.keep, L.frz⟩
    rcases List.mem_append.mp hm with q | q
    · exact L.new x o hx ho q
    · simp at q; subst q; rw [hn] at ho; cases ho
  refine h (α ++ [p]) H L2 S2 _ ?_
  simp only [Rep]
  exact ⟨p, by rw [List.getElem?_append_right (by rw [S.len]; exact Nat.le_refl _), S.len]; simp, rfl⟩
end

/-! ### data and PyData -/
mutual
def toPy : D → PyData
  | .non => .none
  | .bl b => .bool b
  | .int i => .int i
  | .str s => .str s
  | .tup ds => .tuple (toPys ds)
  | .ref _ => .none
def toPys : List D → List PyData
  | [] => []
  | d :: ds => toPy d :: toPys ds
end
mutual
theorem eqv_toPy : ∀ (k : Nat) (a b : D) (l : Nat), pureD k a = true → pureD l b = true → PyData.eqv (toPy a) (toPy b) = eqD a b
  | 0, _, _, _, h, _ => by simp [pureD] at h
  | k + 1, a, b, 0, _, h => by simp [pureD] at h
  | k + 1, .tup x, b, l + 1, h, g => by
    cases b with
    | tup y =>
      simp only [pureD] at h g
      simp only [toPy, eqD, PyData.eqv]
      exact eqv_toPys k x y l h g
    | ref n => simp [pureD] at g
    | _ => simp [toPy, eqD, PyData.eqv]
  | k + 1, .ref n, _, _ + 1, h, _ => by simp [pureD] at h
  | k + 1, .non, b, l + 1, _, g => by cases b <;> simp_all [pureD, toPy, eqD, PyData.eqv]
  | k + 1, .bl x, b, l + 1, _, g => by cases b <;> simp_all [pureD, toPy, eqD, PyData.eqv, b2i]
  | k + 1, .int x, b, l + 1, _, g => by cases b <;> simp_all [pureD, toPy, eqD, PyData.eqv, b2i]
  | k + 1, .str x, b, l + 1, _, g => by
    cases b with
    | str y =>
      simp only [toPy, eqD, PyData.eqv]
      by_cases e : x = y
      · subst e; simp
      · rw [decide_eq_false e]; exact beq_eq_false_iff_ne.mpr e
    | ref n => simp [pureD] at g
    | _ => simp [toPy, eqD, PyData.eqv]
theorem eqv_toPys : ∀ (k : Nat) (a b : List D) (l : Nat), pureDs k a = true → pureDs l b = true → PyData.eqvAll (toPys a) (toPys b) = eqDs a b
  | _, [], [], _, _, _ => rfl
  | _, [], _ :: _, _, _, _ => rfl
  | _, _ :: _, [], _, _, _ => rfl
  | k, x :: xs, y :: ys, l, h, g => by
    simp only [pureDs, Bool.and_eq_true] at h g
    simp only [toPys, eqDs, PyData.eqvAll]
    rw [eqv_toPy k x y l h.1 g.1, eqv_toPys k xs ys l h.2 g.2]
end
mutual
theorem lay_toPy : ∀ (k : Nat) (d : D), pureD k d = true → (toPy d).canLay0 = true ∧ (toPy d).depth ≤ k
  | 0, _, h => by simp [pureD] at h
  | k + 1, .tup ds, h => by
    simp only [pureD] at h
    obtain ⟨h1, h2⟩ := lay_toPys k ds h
    simp only [toPy, PyData.canLay0, PyData.depth]
    exact ⟨h1, by omega⟩
  | k + 1, .ref n, h => by simp [pureD] at h
  | k + 1, .non, _ => by simp [toPy, PyData.canLay0, PyData.depth]
  | k + 1, .bl _, _ => by simp [toPy, PyData.canLay0, PyData.depth]
  | k + 1, .int _, _ => by simp [toPy, PyData.canLay0, PyData.depth]
  | k + 1, .str _, h => by
    simp only [pureD] at h
    simp only [toPy, PyData.canLay0, PyData.depth]
    exact ⟨h, Nat.zero_le _⟩
theorem lay_toPys : ∀ (k : Nat) (ds : List D), pureDs k ds = true → PyData.canLayAll0 (toPys ds) = true ∧ PyData.depthAll (toPys ds) ≤ k
  | k, [], _ => by simp [toPys, PyData.canLayAll0, PyData.depthAll]
  | k, d :: ds, h => by
    simp only [pureDs, Bool.and_eq_true] at h
    obtain ⟨a1, a2⟩ := lay_toPy k d h.1
    obtain ⟨b1, b2⟩ := lay_toPys k ds h.2
    simp only [toPys, PyData.canLayAll0, PyData.depthAll, a1, b1]
    exact ⟨rfl, by omega⟩
end
theorem shaped_toPy {d : D} (h : pureD lev d = true) : SeqAt.shaped (toPy d) = true := by
  obtain ⟨h1, h2⟩ := lay_toPy lev d h
  show ((toPy d).canLay0 && decide ((toPy d).depth ≤ 64)) = true
  rw [h1, Bool.true_and, decide_eq_true_eq]
  exact Nat.le_trans h2 (by decide)
theorem shaped_toPys {ds : List D} (h : pureDs lev ds = true) : SeqAt.shaped (.list (toPys ds)) = true ∧ SeqAt.shaped (.tuple (toPys ds)) = true := by
  obtain ⟨h1, h2⟩ := lay_toPys lev ds h
  have h3 : PyData.depthAll (toPys ds) + 1 ≤ 64 := by have : lev = 60 := rfl; omega
  have e1 : PyData.depth (.list (toPys ds)) = PyData.depthAll (toPys ds) + 1 := by simp only [PyData.depth]
  have e2 : PyData.depth (.tuple (toPys ds)) = PyData.depthAll (toPys ds) + 1 := by simp only [PyData.depth]
  have c1 : PyData.canLay0 (.list (toPys ds)) = true := by simp only [PyData.canLay0]; exact h1
  have c2 : PyData.canLay0 (.tuple (toPys ds)) = true := by simp only [PyData.canLay0]; exact h1
  constructor
  · show (PyData.canLay0 (.list (toPys ds)) && decide (PyData.depth (.list (toPys ds)) ≤ 64)) = true
    rw [c1, e1, Bool.true_and, decide_eq_true_eq]; exact h3
  · show (PyData.canLay0 (.tuple (toPys ds)) && decide (PyData.depth (.tuple (toPys ds)) ≤ 64)) = true
    rw [c2, e2, Bool.true_and, decide_eq_true_eq]; exact h3
section
variable {K : PySem.W.Frag} {α : List Addr} {H : Hp}
mutual
theorem dp_of : ∀ (k : Nat) (d : D) (v : V), pureD k d = true → Rep K α H d v → Dp K H v (toPy d)
  | 0, _, _, h, _ => by simp [pureD] at h
  | k + 1, .tup ds, v, h, r => by
    simp only [pureD] at h
    simp only [Rep] at r
    obtain ⟨a, vs, e, t, q⟩ := r
    subst e
    simp only [toPy]
    exact .tup t.sq (dps_of k ds vs h q)
  | k + 1, .ref n, _, h, _ => by simp [pureD] at h
  | k + 1, .non, v, _, r => by simp only [Rep] at r; subst r; exact .non
  | k + 1, .bl b, v, _, r => by simp only [Rep] at r; subst r; exact .bl b
  | k + 1, .int i, v, _, r => by simp only [Rep] at r; subst r; exact .int i
  | k + 1, .str s, v, _, r => by simp only [Rep] at r; subst r; exact .str s
theorem dps_of : ∀ (k : Nat) (ds : List D) (vs : List V), pureDs k ds = true → Reps K α H ds vs → DpAll K H vs (toPys ds)
  | _, [], vs, _, r => by simp only [Reps] at r; subst r; exact .nil
  | k, d :: ds, vs, h, r => by
    simp only [pureDs, Bool.and_eq_true] at h
    simp only [Reps] at r
    obtain ⟨v, rr, e, r1, r2⟩ := r
    subst e
    exact .cons (dp_of k d v h.1 r1) (dps_of k ds rr h.2 r2)
end
end
theorem any_toPys {d : D} (hd : pureD lev d = true) : ∀ {ds : List D}, pureDs lev ds = true → ((toPys ds).any fun z => PyData.eqv z (toPy d)) = ds.any fun z => eqD z d
  | [], _ => rfl
  | x :: xs, h => by
    simp only [pureDs, Bool.and_eq_true] at h
    simp only [toPys, List.any_cons]
    rw [eqv_toPy lev x d lev h.1 hd, any_toPys hd h.2]
theorem toPys_eq : ∀ ds : List D, toPys ds = ds.map toPy
  | [] => rfl
  | d :: ds => by simp only [toPys, List.map_cons, toPys_eq ds]

/-! ### expressions -/
section
variable {X : Cx} {W : WX} {cm : Str × Bool → Option Value} {pos : Pos} {a b c : Expr} {ra rb rc : Env' → Mem → Res D}
theorem me_var {i : Nat} {x : Str} (h : PE X (.Name x pos) (tVar i)) : PE X (.Name x pos) (tE X.K cm (fun ρ μ => match ρ[i]? with
    | some (some d) => .ok d μ
    | _ => .bad) W) := h.imp fun σ H Q ⟨α, μ, ρ, S, R, p⟩ => by
  cases e : ρ[i]? with
  | none => simp only [e] at p; exact p.elim
  | some o =>
    cases o with
    | none => simp only [e] at p; exact p.elim
    | some d =>
      simp only [e] at p
      obtain ⟨v, e1, r⟩ := R.val i d e
      exact ⟨v, e1, Post.here p S v r⟩
theorem me_con {d : D} {v : V} (hr : ∀ α H, Rep X.K α H d v) (h : PE X a (tC v)) : PE X a (tE X.K cm (fun _ μ => .ok d μ) W) := h.imp fun σ H Q ⟨α, μ, ρ, S, R, p⟩ => Post.here p S v (hr α H)
theorem me_glob {o : Option D} {v : V} (hr : ∀ d, o = some d → ∀ α H, Rep X.K α H d v) (h : PE X a (tC v)) : PE X a (tE X.K cm (fun _ μ => Res.ofO o μ) W) := h.imp fun σ H Q ⟨α, μ, ρ, S, R, p⟩ => by
  obtain ⟨d, e, q⟩ := Post.ofO p S
  exact q v (hr d e α H)

/-- two values, then an operation of two values -/
theorem me_op2 {f : D → D → Mem → Res D} {r : R2} {e : Expr} (h : ∀ {ta tb : TE}, PE X a ta → PE X b tb → PE X e (tOp r ta tb))
    (ha : PE X a (tE X.K cm ra W)) (hb : PE X b (tE X.K cm rb W))
    (op : ∀ (α : List Addr) (μ : Mem) (H : Hp) (x y : D) (v u : V) (Q : VK) (w : Value → Option Addr → Hp → Prop), Sim X.K cm α μ H → Rep X.K α H x v → Rep X.K α H y u →
      Post X.K cm α H (okV X.K Q) w (f x y μ) → r v u H Q) :
    PE X e (tE X.K cm (fun ρ μ => (ra ρ μ).bind fun x μ1 => (rb ρ μ1).bind fun y μ2 => f x y μ2) W) :=
  (h ha hb).imp fun σ H Q ⟨α, μ, ρ, S, R, p⟩ =>
    ⟨α, μ, ρ, S, R, p.then fun x μ1 α1 H1 L1 S1 p1 v rv => ⟨α1, μ1, ρ, S1, R.later S L1, p1.then fun y μ2 α2 H2 L2 S2 p2 u ru => op α2 μ2 H2 x y v u Q _ S2 (rv.later S1 L2) ru p2⟩⟩
/-- a value, then an operation of it -/
theorem me_op1 {f : D → Mem → Res D} {r : V → Hp → VK → Prop} {e : Expr} (h : ∀ {ta : TE}, PE X a ta → PE X e (tUn r ta))
    (ha : PE X a (tE X.K cm ra W))
    (op : ∀ (α : List Addr) (μ : Mem) (H : Hp) (x : D) (v : V) (Q : VK) (w : Value → Option Addr → Hp → Prop), Sim X.K cm α μ H → Rep X.K α H x v →
      Post X.K cm α H (okV X.K Q) w (f x μ) → r v H Q) :
    PE X e (tE X.K cm (fun ρ μ => (ra ρ μ).bind fun x μ1 => f x μ1) W) :=
  (h ha).imp fun σ H Q ⟨α, μ, ρ, S, R, p⟩ => ⟨α, μ, ρ, S, R, p.then fun x μ1 α1 H1 L1 S1 p1 v rv => op α1 μ1 H1 x v Q _ S1 rv p1⟩

/-! operators -/
/-- the answer of a rule for a binary operator -/
abbrev BinOk (X : Cx) (cm : Str × Bool → Option Value) (pyop : Operator) (op : BOp) : Prop := ∃ r, OpR X (binaryOp pyop) r ∧ ∀ (α : List Addr) (μ : Mem) (H : Hp) (x y : D) (v u : V) (Q : VK) (w : Value → Option Addr → Hp → Prop), Sim X.K cm α μ H → Rep X.K α H x v → Rep X.K α H y u →
  Post X.K cm α H (okV X.K Q) w (binD op x y μ) → r v u H Q
theorem rep_int {K : PySem.W.Frag} {α : List Addr} {H : Hp} {i : Int} {v : V} (h : Rep K α H (.int i) v) : v = .int i := by simpa only [Rep] using h
theorem rep_str {K : PySem.W.Frag} {α : List Addr} {H : Hp} {i : Str} {v : V} (h : Rep K α H (.str i) v) : v = .str i := by simpa only [Rep] using h
theorem rep_bl {K : PySem.W.Frag} {α : List Addr} {H : Hp} {i : Bool} {v : V} (h : Rep K α H (.bl i) v) : v = .bl i := by simpa only [Rep] using h
theorem rep_tupS {K : PySem.W.Frag} {α : List Addr} {H : Hp} {ds : List D} {v : V} (h : Rep K α H (.tup ds) v) : ∃ a vs, v = .ref a ∧ SqS K H a vs ∧ Reps K α H ds vs := by simpa only [Rep] using h
theorem rep_tup {K : PySem.W.Frag} {α : List Addr} {H : Hp} {ds : List D} {v : V} (h : Rep K α H (.tup ds) v) : ∃ a vs, v = .ref a ∧ SqT K H a vs ∧ Reps K α H ds vs := by
  obtain ⟨a, vs, e, t, r⟩ := rep_tupS h
  exact ⟨a, vs, e, t.sq, r⟩
theorem rep_ref {K : PySem.W.Frag} {α : List Addr} {H : Hp} {n : Nat} {v : V} (h : Rep K α H (.ref n) v) : ∃ a, α[n]? = some a ∧ v = .ref a := by simpa only [Rep] using h
theorem rep_mkI {K : PySem.W.Frag} {α : List Addr} {H : Hp} {i : Int} : Rep K α H (.int i) (.int i) := by simp only [Rep]
theorem rep_mkB {K : PySem.W.Frag} {α : List Addr} {H : Hp} {i : Bool} : Rep K α H (.bl i) (.bl i) := by simp only [Rep]
theorem rep_mkS {K : PySem.W.Frag} {α : List Addr} {H : Hp} {i : Str} : Rep K α H (.str i) (.str i) := by simp only [Rep]
theorem rep_mkN {K : PySem.W.Frag} {α : List Addr} {H : Hp} : Rep K α H .non .non := by simp only [Rep]
theorem Sim.lstAt {K : PySem.W.Frag} {mg : Str × Bool → Option Value} {α : List Addr} {μ : Mem} {H : Hp} (S : Sim K mg α μ H) {n : Nat} {ds : List D} {a : Addr} (h : μ[n]? = some (.lst ds)) (ha : α[n]? = some a) : ∃ vs, H a = some (.lst vs) ∧ Reps K α H ds vs := S.cell n _ a h ha
theorem Sim.rolAt {K : PySem.W.Frag} {mg : Str × Bool → Option Value} {α : List Addr} {μ : Mem} {H : Hp} (S : Sim K mg α μ H) {n : Nat} {ds : List D} {a : Addr} (h : μ[n]? = some (.rol ds)) (ha : α[n]? = some a) : ∃ o vs, H a = some (.frz o (.lst vs)) ∧ Reps K α H ds vs := S.cell n _ a h ha
theorem Sim.insAt {K : PySem.W.Frag} {mg : Str × Bool → Option Value} {α : List Addr} {μ : Mem} {H : Hp} (S : Sim K mg α μ H) {n : Nat} {C : Str} {fs : List (Str × D)} {a : Addr} (h : μ[n]? = some (.ins C fs)) (ha : α[n]? = some a) :
    ∃ Ca dx ws, mg (C, true) = some (.ref Ca) ∧ H a = some (.ins Ca dx ws) ∧ RepF K α H fs ws := S.cell n _ a h ha
theorem lim_eq : lim = sizeLine := by rw [sizeLine_eq]; rfl
theorem small64_of {i : Int} (h : small64 i = true) : -(2 ^ 64) < i ∧ i < 2 ^ 64 := by
  unfold small64 at h
  rw [Bool.and_eq_true, decide_eq_true_eq, decide_eq_true_eq] at h
  exact h
theorem bin_add : BinOk X cm .Add .add := by
  refine ⟨_, op_add.or (op_catA.or (op_add_str.or op_cat)), fun α μ H x y v u Q w S rx ry p => ?_⟩
  cases x with
  | int i =>
    cases y with
    | int j => exact .inl ⟨i, j, rep_int rx, rep_int ry, Post.here p S _ rep_mkI⟩
    | _ => exact p.elim
  | tup ds =>
    cases y with
    | tup es =>
      obtain ⟨hl, p⟩ := Post.guard p
      obtain ⟨a, vs, e1, t1, r1⟩ := rep_tupS rx
      obtain ⟨b, us, e2, t2, r2⟩ := rep_tupS ry
      subst e1; subst e2
      refine .inr (.inl ⟨a, b, vs, us, rfl, rfl, t1.sq, t2.sq, by rw [← r1.len, ← r2.len, ← lim_eq]; exact hl, fun h => ?_, fun h1 h2 => ?_, fun h1 h2 => ?_⟩)
      · subst h
        have : ds = [] := by have := r1.len; simpa using this
        subst this
        exact Post.tupAt p S r2 t2
      · subst h2
        have : es = [] := by have := r2.len; simpa using this
        subst this
        rw [List.append_nil] at p
        exact Post.tupAt p S r1 t1
      · exact Post.tup p S (r1.append r2)
    | _ => exact p.elim
  | str i =>
    cases y with
    | str j =>
      obtain ⟨hl, p⟩ := Post.guard p
      exact .inr (.inr (.inl ⟨i, j, rep_str rx, rep_str ry, by rw [← lim_eq]; exact hl, Post.here p S _ rep_mkS⟩))
    | _ => exact p.elim
  | ref m =>
    cases y with
    | ref n =>
      cases e1 : μ[m]? with
      | none => simp only [binD, e1] at p; exact p.elim
      | some c1 =>
        cases e2 : μ[n]? with
        | none => cases c1 <;> (simp only [binD, e1, e2] at p; exact p.elim)
        | some c2 =>
          cases c1 with
          | lst ds =>
            cases c2 with
            | lst es =>
              simp only [binD, e1, e2] at p
              obtain ⟨hl, p⟩ := Post.guard p
              obtain ⟨a, ha, q1⟩ := rep_ref rx
              obtain ⟨b, hb, q2⟩ := rep_ref ry
              obtain ⟨vs, h1, r1⟩ := S.lstAt e1 ha
              obtain ⟨us, h2, r2⟩ := S.lstAt e2 hb
              exact .inr (.inr (.inr ⟨a, b, vs, us, q1, q2, h1, h2, by rw [← r1.len, ← r2.len, ← lim_eq]; exact hl, Post.lst p S (r1.append r2)⟩))
            | _ => simp only [binD, e1, e2] at p; exact p.elim
          | _ => simp only [binD, e1, e2] at p; exact p.elim
    | int k => cases e1 : μ[m]? <;> (simp only [binD, e1] at p; exact p.elim)
    | _ => exact p.elim
  | _ => cases y <;> exact p.elim
/-- an operator of two ints alone -/
theorem bin_int {pyop : Operator} {op : BOp} {C : Int → Int → Prop} {g : Int → Int → Int} (ho : OpR X (binaryOp pyop) (rI C fun i j => .int (g i j))) (h1 : op ≠ .add) (h2 : op ≠ .mul)
    (hc : ∀ i j k, binI op i j = some k → C i j ∧ k = g i j) : BinOk X cm pyop op := by
  refine ⟨_, ho, fun α μ H x y v u Q w S rx ry p => ?_⟩
  cases x with
  | int i =>
    cases y with
    | int j =>
      obtain ⟨k, e, q⟩ := Post.mapO p S
      obtain ⟨c, hk⟩ := hc i j k e
      subst hk
      exact ⟨i, j, rep_int rx, rep_int ry, c, q _ rep_mkI⟩
    | _ => exact p.elim
  | tup ds =>
    cases y with
    | tup es => cases op <;> first | exact absurd rfl h1 | exact p.elim
    | int k => cases op <;> first | exact absurd rfl h2 | exact p.elim
    | _ => exact p.elim
  | str i =>
    cases y with
    | str es => cases op <;> first | exact absurd rfl h1 | exact p.elim
    | _ => exact p.elim
  | ref m =>
    cases y with
    | ref n =>
      have q : binD op (.ref m) (.ref n) μ = .bad := by
        unfold binD
        cases op <;> first | exact absurd rfl h1 | rfl
      rw [q] at p; exact p.elim
    | int n =>
      have q : binD op (.ref m) (.int n) μ = .bad := by
        unfold binD
        cases op <;> first | exact absurd rfl h2 | rfl
      rw [q] at p; exact p.elim
    | _ => exact p.elim
  | _ => cases y <;> exact p.elim
theorem opR_true {f : Value → Value → Sem Value} {g : Int → Int → V} (h : OpR X f (rI0 g)) : OpR X f (rI (fun _ _ => True) g) := fun pins s σ H x y v u Q I r1 r2 ⟨i, j, e1, e2, _, q⟩ => h pins s σ H x y v u Q I r1 r2 ⟨i, j, e1, e2, q⟩
theorem bin_sub : BinOk X cm .Sub .sub := bin_int (opR_true op_sub) (by decide) (by decide) fun i j k e => ⟨trivial, by simp only [binI] at e; exact (Option.some.inj e).symm⟩
theorem bin_mod : BinOk X cm .Mod .mod := bin_int op_mod (by decide) (by decide) fun i j k e => by
  simp only [binI] at e
  split at e
  · rename_i h; exact ⟨h, (Option.some.inj e).symm⟩
  · cases e
theorem bin_fdiv : BinOk X cm .FloorDiv .fdiv := bin_int op_fdiv (by decide) (by decide) fun i j k e => by
  simp only [binI] at e
  split at e
  · rename_i h; exact ⟨h, (Option.some.inj e).symm⟩
  · cases e
theorem bin_pow : BinOk X cm .Pow .pow := bin_int op_pow (by decide) (by decide) fun i j k e => by
  simp only [binI] at e
  split at e
  · rename_i h; exact ⟨h, (Option.some.inj e).symm⟩
  · cases e
theorem bin_shl : BinOk X cm .LShift .shl := bin_int op_shl (by decide) (by decide) fun i j k e => by
  simp only [binI] at e
  split at e
  · rename_i h; exact ⟨h, (Option.some.inj e).symm⟩
  · cases e
theorem bin_shr : BinOk X cm .RShift .shr := bin_int op_shr (by decide) (by decide) fun i j k e => by
  simp only [binI] at e
  split at e
  · rename_i h; exact ⟨h, (Option.some.inj e).symm⟩
  · cases e
theorem bin_band : BinOk X cm .BitAnd .band := bin_int (opR_true op_and) (by decide) (by decide) fun i j k e => ⟨trivial, by simp only [binI] at e; exact (Option.some.inj e).symm⟩
theorem bin_bor : BinOk X cm .BitOr .bor := bin_int (opR_true op_or) (by decide) (by decide) fun i j k e => ⟨trivial, by simp only [binI] at e; exact (Option.some.inj e).symm⟩
theorem bin_mul : BinOk X cm .Mult .mul := by
  refine ⟨_, op_mul.or (op_rep.or op_repT), fun α μ H x y v u Q w S rx ry p => ?_⟩
  cases x with
  | int i =>
    cases y with
    | int j =>
      obtain ⟨k, e, q⟩ := Post.mapO p S
      simp only [binI] at e
      split at e
      · rename_i hs
        rw [← Option.some.inj e] at q
        rw [Bool.or_eq_true] at hs
        refine .inl ⟨i, j, rep_int rx, rep_int ry, hs.elim (fun z => .inl (small64_of z)) (fun z => .inr (small64_of z)), q _ rep_mkI⟩
      · cases e
    | _ => exact p.elim
  | tup ds =>
    cases y with
    | int k =>
      obtain ⟨⟨h1, h2, h3, h4⟩, p⟩ := Post.guard p
      obtain ⟨a, vs, e1, t1, r1⟩ := rep_tup rx
      have hl := r1.len
      refine .inr (.inr ⟨a, k, vs, e1, rep_int ry, t1, fun e => h1 (by subst e; simpa using hl), h2, h3, by omega, Post.tup p S (r1.rep _)⟩)
    | _ => exact p.elim
  | ref m =>
    cases y with
    | int k =>
      cases e1 : μ[m]? with
      | none => simp only [binD, e1] at p; exact p.elim
      | some c1 =>
        cases c1 with
        | lst ds =>
          simp only [binD, e1] at p
          obtain ⟨⟨h1, h2, h3⟩, p⟩ := Post.guard p
          obtain ⟨a, ha, q1⟩ := rep_ref rx
          obtain ⟨vs, hv, r1⟩ := S.lstAt e1 ha
          exact .inr (.inl ⟨a, k, vs, q1, rep_int ry, hv, h1, h2, by rw [← r1.len, ← lim_eq]; exact h3, Post.lst p S (r1.rep _)⟩)
        | _ => simp only [binD, e1] at p; exact p.elim
    | ref n =>
      simp only [binD] at p; exact p.elim
    | _ => exact p.elim
  | str i => cases y <;> exact p.elim
  | _ => cases y <;> exact p.elim
theorem me_bin {pyop : Operator} {op : BOp} (h : BinOk X cm pyop op) (ha : PE X a (tE X.K cm ra W)) (hb : PE X b (tE X.K cm rb W)) :
    PE X (.BinOp a pyop b pos) (tE X.K cm (fun ρ μ => (ra ρ μ).bind fun x μ1 => (rb ρ μ1).bind fun y μ2 => binD op x y μ2) W) := by
  obtain ⟨r, ho, g⟩ := h
  exact me_op2 (r := r) (fun h1 h2 => pe_op ho h1 h2) ha hb g
theorem me_neg (ha : PE X a (tE X.K cm ra W)) : PE X (.UnaryOp .USub a pos) (tE X.K cm (fun ρ μ => (ra ρ μ).bind fun x μ1 => match x with
    | .int i => .ok (.int (-i)) μ1
    | _ => .bad) W) :=
  me_op1 (f := fun x μ1 => match x with
    | .int i => .ok (.int (-i)) μ1
    | _ => .bad) (fun h => pe_un un_neg h) ha fun α μ H x v Q w S rx p => by
    cases x with
    | int i => exact ⟨i, rep_int rx, Post.here p S _ rep_mkI⟩
    | _ => exact p.elim
end
end Mi
/-! Mi4: comparisons, tests, displays, subscripts. -/
namespace Mi
open PySem L2

section
variable {α β γ : Type}
theorem Res.bind_assoc (r : Res α) (f : α → Mem → Res β) (g : β → Mem → Res γ) : (r.bind f).bind g = r.bind fun a μ => (f a μ).bind g := by
  cases r <;> rfl
end
/-- the truth of what comes -/
def rT (r : Env' → Mem → Res D) : Env' → Mem → Res Bool := fun ρ μ => (r ρ μ).bind fun x μ1 => Res.ofO (truthD x μ1) μ1
theorem isEmpty_len {α β : Type} {xs : List α} {ys : List β} (h : xs.length = ys.length) : (!xs.isEmpty) = !ys.isEmpty := by
  cases xs <;> cases ys <;> simp at h ⊢
theorem truth_of {K : PySem.W.Frag} {mg : Str × Bool → Option Value} {α : List Addr} {μ : Mem} {H : Hp} {d : D} {v : V} {t : Bool} (S : Sim K mg α μ H) (r : Rep K α H d v) (h : truthD d μ = some t) : TruV K v H t := by
  cases d with
  | non => simp only [Rep] at r; subst r; simp only [truthD] at h; cases h; rfl
  | bl b => rw [rep_bl r]; simp only [truthD] at h; cases h; rfl
  | int i =>
    rw [rep_int r]; simp only [truthD] at h; cases h
    show decide (i ≠ 0) = (i != 0)
    by_cases e : i = 0
    · subst e; rfl
    · rw [decide_eq_true e, bne_iff_ne.mpr e]
  | str s =>
    rw [rep_str r]; simp only [truthD] at h
    split at h
    · rename_i hl
      cases h
      refine ⟨by rw [← lim_eq]; exact hl, ?_⟩
      by_cases e : s.length = 0
      · rw [e]; rfl
      · rw [decide_eq_true e, Eq.comm, bne_iff_ne]; omega
    · cases h
  | tup ds =>
    obtain ⟨a, vs, e, q, rr⟩ := rep_tup r
    subst e
    simp only [truthD] at h; cases h
    exact .inr (.inl ⟨vs, q, isEmpty_len rr.len⟩)
  | ref n =>
    obtain ⟨a, ha, e⟩ := rep_ref r
    subst e
    simp only [truthD] at h
    cases q : μ[n]? with
    | none => rw [q] at h; cases h
    | some c =>
      rw [q] at h
      cases c with
      | lst ds =>
        cases h
        obtain ⟨vs, h1, r1⟩ := S.lstAt q ha
        exact .inl ⟨vs, SqL.of h1, isEmpty_len r1.len⟩
      | rol ds =>
        cases h
        obtain ⟨o, vs, h1, r1⟩ := S.rolAt q ha
        exact .inl ⟨vs, .inl (.inr ⟨o, h1⟩), isEmpty_len r1.len⟩
      | ins C fs => cases h
      | dic kvs => cases h
      | dct lk kvs => cases h

section
variable {X : Cx} {W : WX} {cm : Str × Bool → Option Value} {pos : Pos} {a b c e : Expr} {es : List Expr} {ra rb rc : Env' → Mem → Res D}
/-- a test by its value's truth -/
theorem mt_val (ha : PE X a (tE X.K cm ra W)) (he : ∀ whole, isTrue a X.env whole = (do let v ← whole; standAt a.pos; holding [v] (truthy v))) : PT X a (tB X.K cm (rT ra) W) :=
  (pt_truth ha he).imp fun σ H Q ⟨α, μ, ρ, S, R, p⟩ => ⟨α, μ, ρ, S, R, p.then fun x μ1 α1 H1 L1 S1 p1 v rv => by
    obtain ⟨t, e, q⟩ := Post.ofO p1 S1
    exact ⟨t, truth_of S1 rv e, q⟩⟩

/-! ### comparisons -/
abbrev CmpOk (X : Cx) (cm : Str × Bool → Option Value) (pyop : CmpOp) (op : COp) : Prop := ∃ r, OpR X (compareOp pyop) r ∧ ∀ (α : List Addr) (μ : Mem) (H : Hp) (x y : D) (v u : V) (Q : VK) (t : Bool), Sim X.K cm α μ H → Rep X.K α H x v → Rep X.K α H y u →
  cmpD op x y μ = some t → Q (.bl t) H → r v u H Q
theorem scal_str {s t : Str} : scal (.str s) (.str t) = true := rfl
theorem eq_pure {α : List Addr} {H : Hp} {x y : D} {v u : V} {K : PySem.W.Frag} (rx : Rep K α H x v) (ry : Rep K α H y u) (h : (pureD lev x && pureD lev y) = true) :
    ∃ d e, Dp K H v d ∧ Dp K H u e ∧ SeqAt.shaped d = true ∧ SeqAt.shaped e = true ∧ PyData.eqv d e = eqD x y := by
  rw [Bool.and_eq_true] at h
  exact ⟨toPy x, toPy y, dp_of lev x v h.1 rx, dp_of lev y u h.2 ry, shaped_toPy h.1, shaped_toPy h.2, eqv_toPy lev x y lev h.1 h.2⟩
theorem cmp_eq (hu : X.A.units + 65 < cLine) : CmpOk X cm .Eq .eq := by
  refine ⟨_, op_eq.or (op_eqD (by omega)), fun α μ H x y v u Q t S rx ry h q => ?_⟩
  have gen : (if (pureD lev x && pureD lev y) = true then some (eqD x y) else none) = some t → rEq v u H Q ∨ rEqD X.K v u H Q := fun h => by
    split at h
    · rename_i hp
      cases h
      obtain ⟨d, e, h1, h2, h3, h4, h5⟩ := eq_pure rx ry hp
      exact .inr ⟨d, e, h1, h2, h3, h4, by rw [h5]; exact q⟩
    · cases h
  cases x with
  | str a =>
    cases y with
    | str b =>
      simp only [cmpD] at h
      cases h
      rw [rep_str rx, rep_str ry]
      refine .inl ⟨rfl, ?_⟩
      have e : decide (V.str a = V.str b) = decide (a = b) := by
        by_cases e : a = b
        · subst e; simp
        · rw [decide_eq_false e, decide_eq_false (fun z => e (V.str.inj z))]
      rw [e]; exact q
    | _ => exact gen h
  | _ => exact gen (by cases y <;> exact h)
theorem cmp_ne (hu : X.A.units + 65 < cLine) : CmpOk X cm .NotEq .ne := by
  refine ⟨_, op_ne.or (op_neD (by omega)), fun α μ H x y v u Q t S rx ry h q => ?_⟩
  have gen : (if (pureD lev x && pureD lev y) = true then some (!eqD x y) else none) = some t → rNe v u H Q ∨ rNeD X.K v u H Q := fun h => by
    split at h
    · rename_i hp
      cases h
      obtain ⟨d, e, h1, h2, h3, h4, h5⟩ := eq_pure rx ry hp
      exact .inr ⟨d, e, h1, h2, h3, h4, by rw [h5]; exact q⟩
    · cases h
  cases x with
  | str a =>
    cases y with
    | str b =>
      simp only [cmpD] at h
      cases h
      rw [rep_str rx, rep_str ry]
      refine .inl ⟨rfl, ?_⟩
      have e : decide (V.str a = V.str b) = decide (a = b) := by
        by_cases e : a = b
        · subst e; simp
        · rw [decide_eq_false e, decide_eq_false (fun z => e (V.str.inj z))]
      rw [e]; exact q
    | _ => exact gen h
  | _ => exact gen (by cases y <;> exact h)
theorem lexLt_eq : ∀ a b : List Int, lexLt a b = HT.lexLt a b
  | [], [] => rfl
  | [], _ :: _ => rfl
  | _ :: _, [] => rfl
  | x :: xs, y :: ys => by simp only [lexLt, HT.lexLt, lexLt_eq xs ys]
/-- <= of int tuples, by places -/
theorem lexAt_shift (e r : Nat → Bool) (z : Bool) : ∀ (k i : Nat), Ob.lexAt e r z (i + 1) k = Ob.lexAt (fun j => e (j + 1)) (fun j => r (j + 1)) z i k
  | 0, _ => rfl
  | k + 1, i => by rw [Ob.lexAt_succ, Ob.lexAt_succ, lexAt_shift e r z k (i + 1)]
theorem lexLe_eq : ∀ a b : List Int, Ob.lexAt (fun j => decide (a.getD j 0 = b.getD j 0)) (fun j => decide (a.getD j 0 ≤ b.getD j 0)) (decide (a.length ≤ b.length)) 0 (min a.length b.length) = lexLe a b
  | [], b => by simp [lexLe, Ob.lexAt_zero]
  | x :: xs, [] => by simp [lexLe, Ob.lexAt_zero]
  | x :: xs, y :: ys => by
    have h := lexLe_eq xs ys
    have e : min (x :: xs).length (y :: ys).length = min xs.length ys.length + 1 := by simp only [List.length_cons]; omega
    rw [e, Ob.lexAt_succ, lexAt_shift]
    have e2 : decide ((x :: xs).length ≤ (y :: ys).length) = decide (xs.length ≤ ys.length) := by simp
    rw [e2]
    simp only [List.getD_cons_zero, List.getD_cons_succ, lexLe]
    rw [h]
    by_cases q : x = y
    · simp [q]
    · simp only [q, decide_false, if_false, Bool.false_eq_true]
      by_cases l : x < y
      · rw [decide_eq_true l, decide_eq_true (by omega)]
      · rw [decide_eq_false l, decide_eq_false (by omega)]
theorem tup_ints {α : List Addr} {H : Hp} {ds : List D} {v : V} {ns : List Int} {K : PySem.W.Frag} (r : Rep K α H (.tup ds) v) (h : intsOf ds = some ns) : ∃ a, v = .ref a ∧ SqT K H a (ns.map V.int) := by
  obtain ⟨a, vs, e, t, q⟩ := rep_tup r
  rw [q.ints h] at t
  exact ⟨a, e, t⟩
theorem cmp_lt (hu : X.A.units + 65 < cLine) : CmpOk X cm .Lt .lt := by
  refine ⟨_, op_lt.or (op_ltT (by omega)), fun α μ H x y v u Q t S rx ry h q => ?_⟩
  cases x with
  | int i =>
    cases y with
    | int j => simp only [cmpD] at h; cases h; exact .inl ⟨i, j, rep_int rx, rep_int ry, q⟩
    | _ => simp [cmpD] at h
  | tup a =>
    cases y with
    | tup b =>
      simp only [cmpD] at h
      cases e1 : intsOf a with
      | none => rw [e1] at h; cases h
      | some m =>
        cases e2 : intsOf b with
        | none => rw [e1, e2] at h; cases h
        | some n =>
          rw [e1, e2] at h; cases h
          obtain ⟨p, q1, t1⟩ := tup_ints rx e1
          obtain ⟨p2, q2, t2⟩ := tup_ints ry e2
          exact .inr ⟨p, p2, m, n, q1, q2, t1, t2, by rw [← lexLt_eq]; exact q⟩
    | _ => simp [cmpD] at h
  | _ => cases y <;> simp [cmpD] at h
theorem cmp_le (hu : X.A.units + 65 < cLine) : CmpOk X cm .LtE .le := by
  refine ⟨_, op_le.or (op_leT (by omega)), fun α μ H x y v u Q t S rx ry h q => ?_⟩
  cases x with
  | int i =>
    cases y with
    | int j => simp only [cmpD] at h; cases h; exact .inl ⟨i, j, rep_int rx, rep_int ry, q⟩
    | _ => simp [cmpD] at h
  | tup a =>
    cases y with
    | tup b =>
      simp only [cmpD] at h
      cases e1 : intsOf a with
      | none => rw [e1] at h; cases h
      | some m =>
        cases e2 : intsOf b with
        | none => rw [e1, e2] at h; cases h
        | some n =>
          rw [e1, e2] at h; cases h
          obtain ⟨p, q1, t1⟩ := tup_ints rx e1
          obtain ⟨p2, q2, t2⟩ := tup_ints ry e2
          exact .inr ⟨p, p2, m, n, q1, q2, t1, t2, by rw [lexLe_eq]; exact q⟩
    | _ => simp [cmpD] at h
  | _ => cases y <;> simp [cmpD] at h
theorem cmp_gt : CmpOk X cm .Gt .gt := by
  refine ⟨_, op_gt, fun α μ H x y v u Q t S rx ry h q => ?_⟩
  cases x with
  | int i =>
    cases y with
    | int j => simp only [cmpD] at h; cases h; exact ⟨i, j, rep_int rx, rep_int ry, q⟩
    | _ => simp [cmpD] at h
  | _ => cases y <;> simp [cmpD] at h
theorem cmp_ge : CmpOk X cm .GtE .ge := by
  refine ⟨_, op_ge, fun α μ H x y v u Q t S rx ry h q => ?_⟩
  cases x with
  | int i =>
    cases y with
    | int j => simp only [cmpD] at h; cases h; exact ⟨i, j, rep_int rx, rep_int ry, q⟩
    | _ => simp [cmpD] at h
  | _ => cases y <;> simp [cmpD] at h
theorem rep_non {α : List Addr} {H : Hp} {x : D} {v : V} {K : PySem.W.Frag} (r : Rep K α H x v) : decide (v = .non) = decide (x = .non) := by
  cases x with
  | non => simp only [Rep] at r; subst r; rfl
  | bl b => rw [rep_bl r]; rw [decide_eq_false (by intro z; cases z), decide_eq_false (by intro z; cases z)]
  | int b => rw [rep_int r]; rw [decide_eq_false (by intro z; cases z), decide_eq_false (by intro z; cases z)]
  | str b => rw [rep_str r]; rw [decide_eq_false (by intro z; cases z), decide_eq_false (by intro z; cases z)]
  | tup ds =>
    obtain ⟨a, vs, e, _⟩ := rep_tup r
    rw [e, decide_eq_false (by intro z; cases z), decide_eq_false (by intro z; cases z)]
  | ref n =>
    obtain ⟨a, _, e⟩ := rep_ref r
    rw [e, decide_eq_false (by intro z; cases z), decide_eq_false (by intro z; cases z)]
theorem cmp_isN : CmpOk X cm .Is .isN := by
  refine ⟨_, op_isN, fun α μ H x y v u Q t S rx ry h q => ?_⟩
  cases y with
  | non =>
    simp only [cmpD] at h; cases h
    simp only [Rep] at ry
    exact ⟨ry, by rw [rep_non rx]; exact q⟩
  | _ => simp [cmpD] at h
theorem cmp_notN : CmpOk X cm .IsNot .notN := by
  refine ⟨_, op_notN, fun α μ H x y v u Q t S rx ry h q => ?_⟩
  cases y with
  | non =>
    simp only [cmpD] at h; cases h
    simp only [Rep] at ry
    exact ⟨ry, by rw [rep_non rx]; exact q⟩
  | _ => simp [cmpD] at h
/-- x in a tuple of data -/
def rInTD (K : PySem.W.Frag) : R2 := fun x y H Q => ∃ d ds, Dp K H x d ∧ Dp K H y (.tuple ds) ∧ SeqAt.shaped d = true ∧ SeqAt.shaped (.tuple ds) = true ∧ Q (.bl (ds.any fun z => PyData.eqv z d)) H
theorem op_inTD (hu : X.A.units + 65 < cLine) : OpR X (compareOp .In) (rInTD X.K) := fun pins s σ H x y v u Q I rx ry h => by
  obtain ⟨d, ds, hd, he, sd, se, q⟩ := h
  obtain ⟨as, q1⟩ := Dp.reads I d x v hd rx
  obtain ⟨bs, q2⟩ := Dp.reads I (.tuple ds) y u he ry
  refine SeqAt.in_tuple_reads q2 q1 (SeqAt.canLay_of_shaped se) (SeqAt.canLay_of_shaped sd) ?_ ⟨.bl _, H, I, rfl, q⟩
  exact PyProof.Rows.room_in_shaped sd hu
def rNotInTD (K : PySem.W.Frag) : R2 := fun x y H Q => ∃ d ds, Dp K H x d ∧ Dp K H y (.tuple ds) ∧ SeqAt.shaped d = true ∧ SeqAt.shaped (.tuple ds) = true ∧ Q (.bl (!ds.any fun z => PyData.eqv z d)) H
theorem op_notInTD (hu : X.A.units + 65 < cLine) : OpR X (compareOp .NotIn) (rNotInTD X.K) := fun pins s σ H x y v u Q I rx ry h => by
  obtain ⟨d, ds, hd, he, sd, se, q⟩ := h
  obtain ⟨as, q1⟩ := Dp.reads I d x v hd rx
  obtain ⟨bs, q2⟩ := Dp.reads I (.tuple ds) y u he ry
  refine SeqAt.notIn_tuple_reads q2 q1 (SeqAt.canLay_of_shaped se) (SeqAt.canLay_of_shaped sd) ?_ ⟨.bl _, H, I, rfl, q⟩
  exact PyProof.Rows.room_in_shaped sd hu
/-! ### in, of a dict -/
/-- y in d, d a dict -/
def rDIn : R2 := fun y x H Q => ∃ a o, x = .ref a ∧ DGet H a y o ∧ Q (.bl o.isSome) H
def rDNotIn : R2 := fun y x H Q => ∃ a o, x = .ref a ∧ DGet H a y o ∧ Q (.bl (!o.isSome)) H
theorem op_dIn (hu : X.A.units + 1 < cLine) : OpR X (compareOp .In) rDIn := by
  intro pins s σ H y x u v Q I ry rx h
  obtain ⟨a, o, e, g, q⟩ := h
  subst e
  obtain rfl : v = Value.ref a := rx
  exact d_in hu I g ry fun s3 I3 => ⟨.bl o.isSome, H, I3, rfl, q⟩
theorem op_dNotIn (hu : X.A.units + 1 < cLine) : OpR X (compareOp .NotIn) rDNotIn := by
  intro pins s σ H y x u v Q I ry rx h
  obtain ⟨a, o, e, g, q⟩ := h
  subst e
  obtain rfl : v = Value.ref a := rx
  exact d_notIn hu I g ry fun s3 I3 => ⟨.bl (!o.isSome), H, I3, rfl, q⟩
theorem key_inj {a b : D} {k k' : Key} (h : keyOf a = some k) (g : keyOf b = some k') : (a = b) ↔ (k = k') := by
  cases a <;> cases h <;> cases b <;> cases g <;> simp
theorem keys_inj : ∀ {a b : List D} {k k' : List Key}, keysOf a = some k → keysOf b = some k' → ((a = b) ↔ (k = k'))
  | [], [], k, k', h, g => by cases h; cases g; simp
  | [], y :: b, k, k', h, g => by
    cases h
    simp only [keysOf] at g
    obtain ⟨k1, _, g⟩ := Option.bind_eq_some_iff.mp g
    obtain ⟨k2, _, g⟩ := Option.map_eq_some_iff.mp g
    subst g; simp
  | x :: a, [], k, k', h, g => by
    cases g
    simp only [keysOf] at h
    obtain ⟨k1, _, h⟩ := Option.bind_eq_some_iff.mp h
    obtain ⟨k2, _, h⟩ := Option.map_eq_some_iff.mp h
    subst h; simp
  | x :: a, y :: b, k, k', h, g => by
    simp only [keysOf] at h g
    obtain ⟨k1, h1, h⟩ := Option.bind_eq_some_iff.mp h
    obtain ⟨k2, h2, h⟩ := Option.map_eq_some_iff.mp h
    obtain ⟨l1, g1, g⟩ := Option.bind_eq_some_iff.mp g
    obtain ⟨l2, g2, g⟩ := Option.map_eq_some_iff.mp g
    subst h; subst g
    simp only [List.cons.injEq, key_inj h1 g1, keys_inj h2 g2]
theorem keyT_inj {a b : D} {k k' : List Key} (h : keyTOf a = some k) (g : keyTOf b = some k') : (a = b) ↔ (k = k') := by
  cases a with
  | tup x => cases x with
    | nil => cases h
    | cons x xs => cases b with
      | tup y => cases y with
        | nil => cases g
        | cons y ys => rw [D.tup.injEq]; exact keys_inj h g
      | _ => cases g
  | _ => cases h
theorem isKey_of {x : D} (h : isKey x = true) : ∃ k, keyOf x = some k := by
  cases x <;> first | exact ⟨_, rfl⟩ | cases h
theorem isKeys_of : ∀ {ds : List D}, ds.all isKey = true → ∃ k, keysOf ds = some k
  | [], _ => ⟨[], rfl⟩
  | d :: r, h => by
    rw [List.all_cons, Bool.and_eq_true] at h
    obtain ⟨k, e⟩ := isKey_of h.1
    obtain ⟨ks, e2⟩ := isKeys_of h.2
    exact ⟨k :: ks, by simp only [keysOf, e, e2]; rfl⟩
theorem isKeyT_of {x : D} (h : isKeyT x = true) : ∃ k, keyTOf x = some k := by
  cases x with
  | tup ds => cases ds with
    | nil => cases h
    | cons d r => exact isKeys_of h
  | _ => cases h
theorem rep_key {K : PySem.W.Frag} {α : List Addr} {H : Hp} {x : D} {k : Key} {v : V} (h : keyOf x = some k) (r : Rep K α H x v) : v = kV k := by
  cases x <;> cases h
  · rw [rep_int r]; rfl
  · rw [rep_str r]; rfl
theorem reps_key {K : PySem.W.Frag} {α : List Addr} {H : Hp} : ∀ {ds : List D} {ks : List Key} {vs : List V}, keysOf ds = some ks → Reps K α H ds vs → vs = ks.map kV
  | [], ks, vs, h, r => by cases h; simp only [Reps] at r; subst r; rfl
  | d :: ds, ks, vs, h, r => by
    simp only [keysOf] at h
    obtain ⟨k1, h1, h⟩ := Option.bind_eq_some_iff.mp h
    obtain ⟨k2, h2, h⟩ := Option.map_eq_some_iff.mp h
    subst h
    simp only [Reps] at r
    obtain ⟨v, vs', e, r1, r2⟩ := r
    subst e
    rw [List.map_cons, rep_key h1 r1, reps_key h2 r2]
theorem rep_keyT {K : PySem.W.Frag} {α : List Addr} {H : Hp} {x : D} {k : List Key} {v : V} (h : keyTOf x = some k) (r : Rep K α H x v) : ∃ b, v = .ref b ∧ H b = some (.tup (k.map kV)) := by
  cases x with
  | tup ds => cases ds with
    | nil => cases h
    | cons d ds =>
      obtain ⟨a, vs, e, t, q⟩ := rep_tupS r
      have e2 := reps_key (show keysOf (d :: ds) = some k from h) q
      rcases t with t | ⟨t, _⟩
      · exact ⟨a, e, by rw [← e2]; exact t⟩
      · subst t
        have := q.len
        simp at this
  | _ => cases h
section
variable {κ : Type} [DecidableEq κ] {ko : D → Option κ} {K : PySem.W.Frag} {α : List Addr} {H : Hp} {x d : D} {k : κ} {v : V}
theorem RepG.any (inj : ∀ {a b : D} {k k' : κ}, ko a = some k → ko b = some k' → ((a = b) ↔ (k = k'))) (h : ko x = some k) : ∀ {kvs : List (D × D)} {ws : List (κ × V)}, RepG K ko α H kvs ws → (kvs.any fun p => decide (p.1 = x)) = ws.any fun p => decide (p.1 = k)
  | [], ws, r => by simp only [RepG] at r; subst r; rfl
  | (y, d) :: r, ws, q => by
    simp only [RepG] at q
    obtain ⟨k', v, ws', e, h0, h1, h2⟩ := q
    subst e
    rw [List.any_cons, List.any_cons, RepG.any inj h h2]
    congr 1
    have := inj h0 h
    by_cases z : y = x
    · simp [z, this.mp z]
    · have z' : ¬ k' = k := fun t => z (this.mpr t)
      simp [z, z']
theorem RepG.find (inj : ∀ {a b : D} {k k' : κ}, ko a = some k → ko b = some k' → ((a = b) ↔ (k = k'))) (h : ko x = some k) : ∀ {kvs : List (D × D)} {ws : List (κ × V)} {e : D}, RepG K ko α H kvs ws → findK kvs x = some e → ∃ v, valV ws k = some v ∧ Rep K α H e v
  | [], ws, e, r, g => by cases g
  | (y, d) :: r, ws, e, q, g => by
    simp only [RepG] at q
    obtain ⟨k', v, ws', e1, h0, h1, h2⟩ := q
    subst e1
    have := inj h0 h
    simp only [findK] at g
    by_cases z : y = x
    · rw [if_pos z] at g
      cases g
      exact ⟨v, valV_pos (this.mp z), h1⟩
    · rw [if_neg z] at g
      obtain ⟨v', g1, g2⟩ := RepG.find inj h h2 g
      exact ⟨v', by rw [valV_neg (fun t => z (this.mpr t))]; exact g1, g2⟩
theorem RepG.snoc (h : ko x = some k) (rv : Rep K α H d v) : ∀ {kvs : List (D × D)} {ws : List (κ × V)}, RepG K ko α H kvs ws → RepG K ko α H (kvs ++ [(x, d)]) (ws ++ [(k, v)])
  | [], ws, r => by simp only [RepG] at r; subst r; simp only [List.nil_append, RepG]; exact ⟨k, v, [], rfl, h, rv, rfl⟩
  | (y, e) :: r, ws, q => by
    simp only [RepG] at q
    obtain ⟨k', v', ws', e, h0, h1, h2⟩ := q
    subst e
    simp only [List.cons_append, RepG]
    exact ⟨k', v', _, rfl, h0, h1, RepG.snoc h rv h2⟩
theorem RepG.repl (inj : ∀ {a b : D} {k k' : κ}, ko a = some k → ko b = some k' → ((a = b) ↔ (k = k'))) (h : ko x = some k) (rv : Rep K α H d v) : ∀ {kvs : List (D × D)} {ws : List (κ × V)}, RepG K ko α H kvs ws → RepG K ko α H (kvs.map fun p => if p.1 = x then (p.1, d) else p) (ws.map fun p => if p.1 = k then (p.1, v) else p)
  | [], ws, r => by simp only [RepG] at r; subst r; simp only [List.map_nil, RepG]
  | (y, e) :: r, ws, q => by
    simp only [RepG] at q
    obtain ⟨k', v', ws', e1, h0, h1, h2⟩ := q
    subst e1
    have := inj h0 h
    simp only [List.map_cons]
    by_cases z : y = x
    · rw [if_pos z, if_pos (this.mp z)]
      simp only [RepG]
      exact ⟨k', v, _, rfl, h0, rv, RepG.repl inj h rv h2⟩
    · rw [if_neg z, if_neg fun t => z (this.mpr t)]
      simp only [RepG]
      exact ⟨k', v', _, rfl, h0, h1, RepG.repl inj h rv h2⟩
theorem RepG.put (inj : ∀ {a b : D} {k k' : κ}, ko a = some k → ko b = some k' → ((a = b) ↔ (k = k'))) {kvs : List (D × D)} {ws : List (κ × V)} (h : ko x = some k) (rv : Rep K α H d v) (r : RepG K ko α H kvs ws) : RepG K ko α H (putK kvs x d) (L2.putK ws k v) := by
  unfold putK L2.putK
  rw [r.any inj h]
  split
  · exact r.repl inj h rv
  · exact r.snoc h rv
theorem RepG.len : ∀ {kvs : List (D × D)} {ws : List (κ × V)}, RepG K ko α H kvs ws → kvs.length = ws.length
  | [], ws, r => by simp only [RepG] at r; subst r; rfl
  | (y, e) :: r, ws, q => by
    simp only [RepG] at q
    obtain ⟨k', v', ws', e1, h0, h1, h2⟩ := q
    subst e1
    simp [RepG.len h2]
end
theorem RepG.ints {K : PySem.W.Frag} {α : List Addr} {H : Hp} : ∀ {kvs : List (D × D)} {ws : List (Key × V)} {is : List Int}, RepG K keyOf α H kvs ws → intsOf (kvs.map (·.1)) = some is → ws.map (·.1) = is.map Sum.inl
  | [], ws, is, r, h => by simp only [RepG] at r; subst r; cases h; rfl
  | (y, e) :: r, ws, is, q, h => by
    simp only [RepG] at q
    obtain ⟨k', v', ws', e1, h0, h1, h2⟩ := q
    subst e1
    cases y with
    | int i =>
      simp only [List.map_cons, intsOf] at h
      cases hi : intsOf (r.map (·.1)) with
      | none => rw [hi] at h; cases h
      | some js =>
        rw [hi] at h
        cases h; cases h0
        simp only [List.map_cons]
        rw [RepG.ints h2 hi]
    | _ => simp [intsOf] at h
theorem in_parts {K : PySem.W.Frag} {mg : Str × Bool → Option Value} {α : List Addr} {μ : Mem} {H : Hp} {x y : D} {v u : V} {t : Bool} (S : Sim K mg α μ H) (rx : Rep K α H x v) (ry : Rep K α H y u) (h : inD x y μ = some t) :
    (∃ ds, Dp K H v (toPy x) ∧ SeqAt.shaped (toPy x) = true ∧ (t = ds.any fun z => PyData.eqv z (toPy x)) ∧ ((Dp K H u (.list ds) ∧ SeqAt.shaped (.list ds) = true) ∨ (Dp K H u (.tuple ds) ∧ SeqAt.shaped (.tuple ds) = true))) ∨ ∃ a o, u = .ref a ∧ DGet H a v o ∧ t = o.isSome := by
  have key : ∀ {ds : List D}, (if (pureD lev x && pureDs lev ds) = true then some (ds.any fun z => eqD z x) else none) = some t → pureD lev x = true ∧ pureDs lev ds = true ∧ t = (toPys ds).any fun z => PyData.eqv z (toPy x) := fun {ds} h => by
    split at h
    · rename_i hp
      rw [Bool.and_eq_true] at hp
      cases h
      exact ⟨hp.1, hp.2, (any_toPys hp.1 hp.2).symm⟩
    · cases h
  cases y with
  | tup ds =>
    obtain ⟨h1, h2, h3⟩ := key h
    obtain ⟨a, vs, e, q, rr⟩ := rep_tup ry
    subst e
    exact .inl ⟨toPys ds, dp_of lev x v h1 rx, shaped_toPy h1, h3, .inr ⟨.tup q (dps_of lev ds vs h2 rr), (shaped_toPys h2).2⟩⟩
  | ref n =>
    obtain ⟨a, ha, e⟩ := rep_ref ry
    subst e
    simp only [inD] at h
    cases q : μ[n]? with
    | none => rw [q] at h; cases h
    | some c =>
      rw [q] at h
      cases c with
      | lst ds =>
        obtain ⟨h1, h2, h3⟩ := key h
        obtain ⟨vs, g1, r1⟩ := S.lstAt q ha
        exact .inl ⟨toPys ds, dp_of lev x v h1 rx, shaped_toPy h1, h3, .inl ⟨.lst (SqL.of g1) (dps_of lev ds vs h2 r1), (shaped_toPys h2).1⟩⟩
      | rol ds =>
        obtain ⟨h1, h2, h3⟩ := key h
        obtain ⟨o, vs, g1, r1⟩ := S.rolAt q ha
        exact .inl ⟨toPys ds, dp_of lev x v h1 rx, shaped_toPy h1, h3, .inl ⟨.lst (.inl (.inr ⟨o, g1⟩)) (dps_of lev ds vs h2 r1), (shaped_toPys h2).1⟩⟩
      | ins C fs => cases h
      | dic kvs =>
        dsimp only at h
        split at h
        · rename_i hk
          cases h
          obtain ⟨k, ek⟩ := isKey_of hk
          obtain ⟨ws, g1, r1⟩ := S.cell n _ a q ha
          refine .inr ⟨a, valV ws k, rfl, ?_, by rw [r1.any key_inj ek]; exact valV_any k ws⟩
          rw [rep_key ek rx]
          exact DGet.k g1
        · cases h
      | dct lk kvs =>
        dsimp only at h
        split at h
        · rename_i hk
          cases h
          obtain ⟨k, ek⟩ := isKeyT_of hk
          obtain ⟨b, ev, eb⟩ := rep_keyT ek rx
          cases lk with
          | false =>
            obtain ⟨ws, g1, r1⟩ := S.cell n _ a q ha
            exact .inr ⟨a, valV ws k, rfl, .inr ⟨ws, k, b, .inl g1, ev, eb, rfl⟩, by rw [r1.any keyT_inj ek]; exact valV_any k ws⟩
          | true =>
            obtain ⟨o, ws, g1, r1⟩ := S.cell n _ a q ha
            exact .inr ⟨a, valV ws k, rfl, .inr ⟨ws, k, b, .inr ⟨o, g1⟩, ev, eb, rfl⟩, by rw [r1.any keyT_inj ek]; exact valV_any k ws⟩
        · cases h
  | _ => cases h
theorem cmp_in (hu : X.A.units + 65 < cLine) : CmpOk X cm .In .isIn := by
  refine ⟨_, (op_dIn (by omega)).or ((op_inD hu).or (op_inTD hu)), fun α μ H x y v u Q t S rx ry h q => ?_⟩
  rcases in_parts S rx ry h with ⟨ds, h1, h2, h3, h4⟩ | ⟨a, o, e, g, ht⟩
  case inr => exact .inl ⟨a, o, e, g, by rw [← ht]; exact q⟩
  rw [h3] at q
  rcases h4 with ⟨h4, h5⟩ | ⟨h4, h5⟩
  · exact .inr (.inl ⟨_, ds, h1, h4, h2, h5, q⟩)
  · exact .inr (.inr ⟨_, ds, h1, h4, h2, h5, q⟩)
theorem cmp_notIn (hu : X.A.units + 65 < cLine) : CmpOk X cm .NotIn .notIn := by
  refine ⟨_, (op_dNotIn (by omega)).or ((op_notInD hu).or (op_notInTD hu)), fun α μ H x y v u Q t S rx ry h q => ?_⟩
  simp only [cmpD] at h
  cases e : inD x y μ with
  | none => rw [e] at h; cases h
  | some t' =>
    rw [e] at h; cases h
    rcases in_parts S rx ry e with ⟨ds, h1, h2, h3, h4⟩ | ⟨a, o, e, g, ht⟩
    case inr => exact .inl ⟨a, o, e, g, by rw [← ht]; exact q⟩
    rw [h3] at q
    rcases h4 with ⟨h4, h5⟩ | ⟨h4, h5⟩
    · exact .inr (.inl ⟨_, ds, h1, h4, h2, h5, q⟩)
    · exact .inr (.inr ⟨_, ds, h1, h4, h2, h5, q⟩)
theorem me_cmp {pyop : CmpOp} {op : COp} (h : CmpOk X cm pyop op) (ha : PE X a (tE X.K cm ra W)) (hb : PE X b (tE X.K cm rb W)) (hm : behindInMarks pyop b = false) :
    PE X (.Compare a [pyop] [b] pos) (tE X.K cm (fun ρ μ => (ra ρ μ).bind fun x μ1 => (rb ρ μ1).bind fun y μ2 => Res.ofO ((cmpD op x y μ2).map D.bl) μ2) W) := by
  obtain ⟨r, ho, g⟩ := h
  refine me_op2 (r := r) (fun h1 h2 => pe_cmpR ho h1 h2 hm) ha hb fun α μ H x y v u Q w S rx ry p => ?_
  obtain ⟨t, e, q⟩ := Post.mapO p S
  exact g α μ H x y v u Q t S rx ry e (q _ rep_mkB)
theorem mt_cmp {pyop : CmpOp} {op : COp} (h : CmpOk X cm pyop op) (ha : PE X a (tE X.K cm ra W)) (hb : PE X b (tE X.K cm rb W)) (hm : behindInMarks pyop b = false) :
    PT X (.Compare a [pyop] [b] pos) (tB X.K cm (rT (fun ρ μ => (ra ρ μ).bind fun x μ1 => (rb ρ μ1).bind fun y μ2 => Res.ofO ((cmpD op x y μ2).map D.bl) μ2)) W) := by
  obtain ⟨r, ho, g⟩ := h
  refine (pt_cmpR ho ha hb hm).imp fun σ H Q ⟨α, μ, ρ, S, R, p⟩ => ?_
  unfold rT at p
  simp only [Res.bind_assoc] at p
  refine ⟨α, μ, ρ, S, R, p.then fun x μ1 α1 H1 L1 S1 p1 v rv => ⟨α1, μ1, ρ, S1, R.later S L1, p1.then fun y μ2 α2 H2 L2 S2 p2 u ru => ?_⟩⟩
  cases e : cmpD op x y μ2 with
  | none => rw [e] at p2; exact p2.elim
  | some t =>
    rw [e] at p2
    exact g α2 μ2 H2 x y v u _ t S2 (rv.later S1 L2) ru e ⟨t, rfl, Post.here p2 S2⟩
/-- a op1 b op2 c -/
def rChB (o1 o2 : COp) (ra rb rc : Env' → Mem → Res D) : Env' → Mem → Res Bool := fun ρ μ => (ra ρ μ).bind fun x μ1 => (rb ρ μ1).bind fun y μ2 => (Res.ofO (cmpD o1 x y μ2) μ2).bind fun t μ3 =>
      if t then (rc ρ μ3).bind fun z μ4 => Res.ofO (cmpD o2 y z μ4) μ4 else .ok false μ3
def rCh (o1 o2 : COp) (ra rb rc : Env' → Mem → Res D) : Env' → Mem → Res D := fun ρ μ => (ra ρ μ).bind fun x μ1 => (rb ρ μ1).bind fun y μ2 => (Res.ofO (cmpD o1 x y μ2) μ2).bind fun t μ3 =>
      if t then (rc ρ μ3).bind fun z μ4 => Res.ofO ((cmpD o2 y z μ4).map D.bl) μ4 else .ok (.bl false) μ3
theorem Res.ofO_map {α β : Type} (o : Option α) (f : α → β) (μ : Mem) : Res.ofO (o.map f) μ = (Res.ofO o μ).bind fun a μ => .ok (f a) μ := by cases o <;> rfl
theorem rCh_eq (o1 o2 : COp) (ra rb rc : Env' → Mem → Res D) (ρ : Env') (μ : Mem) : rCh o1 o2 ra rb rc ρ μ = (rChB o1 o2 ra rb rc ρ μ).bind fun t μ => .ok (.bl t) μ := by
  unfold rCh rChB
  simp only [Res.bind_assoc]
  congr 1; funext x μ1; congr 1; funext y μ2; congr 1; funext t μ3
  cases t with
  | true =>
    simp only [if_true, Res.bind_assoc]
    congr 1; funext z μ4
    exact Res.ofO_map _ _ _
  | false => rfl
theorem ch_go {o1 o2 : COp} {r1 r2 : R2} {Q : VK} {σ : St} {H : Hp} {α : List Addr} {μ : Mem} {ρ : Env'}
    (g1 : ∀ (α : List Addr) (μ : Mem) (H : Hp) (x y : D) (v u : V) (Q : VK) (t : Bool), Sim X.K cm α μ H → Rep X.K α H x v → Rep X.K α H y u → cmpD o1 x y μ = some t → Q (.bl t) H → r1 v u H Q)
    (g2 : ∀ (α : List Addr) (μ : Mem) (H : Hp) (x y : D) (v u : V) (Q : VK) (t : Bool), Sim X.K cm α μ H → Rep X.K α H x v → Rep X.K α H y u → cmpD o2 x y μ = some t → Q (.bl t) H → r2 v u H Q)
    (S : Sim X.K cm α μ H) (R : RepE X.K α H ρ σ)
    (p : Post X.K cm α H (fun b _ _ H' => Q (.bl b) H') (fun c d H' => W c d σ H') (rChB o1 o2 ra rb rc ρ μ)) : tChain r1 r2 (tE X.K cm ra W) (tE X.K cm rb W) (tE X.K cm rc W) σ H Q := by
  unfold rChB at p
  refine ⟨α, μ, ρ, S, R, p.then fun x μ1 α1 H1 L1 S1 p1 v rv => ⟨α1, μ1, ρ, S1, R.later S L1, p1.then fun y μ2 α2 H2 L2 S2 p2 u ru => ?_⟩⟩
  obtain ⟨t, e, p3⟩ := Post.ofOb p2
  refine g1 α2 μ2 H2 x y v u _ t S2 (rv.later S1 L2) ru e ⟨t, rfl, ?_⟩
  cases t with
  | true =>
    rw [if_pos rfl]
    rw [if_pos rfl] at p3
    refine ⟨α2, μ2, ρ, S2, (R.later S L1).later S1 L2, p3.then fun z μ4 α4 H4 L4 S4 p4 w' rw' => ?_⟩
    obtain ⟨t2, e2, q2⟩ := Post.ofO p4 S4
    exact g2 α4 μ4 H4 y z u w' Q t2 S4 (ru.later S2 L4) rw' e2 q2
  | false =>
    rw [if_neg Bool.false_ne_true]
    rw [if_neg Bool.false_ne_true] at p3
    exact Post.here p3 S2
theorem me_chain {p1 p2 : CmpOp} {o1 o2 : COp} (h1 : CmpOk X cm p1 o1) (h2 : CmpOk X cm p2 o2) (ha : PE X a (tE X.K cm ra W)) (hb : PE X b (tE X.K cm rb W)) (hc : PE X c (tE X.K cm rc W)) (hm : lastMarks [p1, p2] [b, c] = false) :
    PE X (.Compare a [p1, p2] [b, c] pos) (tE X.K cm (rCh o1 o2 ra rb rc) W) := by
  obtain ⟨r1, ho1, g1⟩ := h1
  obtain ⟨r2, ho2, g2⟩ := h2
  refine (pe_chain ho1 ho2 ha hb hc hm).imp fun σ H Q ⟨α, μ, ρ, S, R, p⟩ => ch_go g1 g2 S R ?_
  rw [rCh_eq] at p
  exact p.then fun t μ1 α1 H1 L1 S1 p1 => Post.here p1 S1 _ rep_mkB
theorem mt_chain {p1 p2 : CmpOp} {o1 o2 : COp} (h1 : CmpOk X cm p1 o1) (h2 : CmpOk X cm p2 o2) (ha : PE X a (tE X.K cm ra W)) (hb : PE X b (tE X.K cm rb W)) (hc : PE X c (tE X.K cm rc W)) (hm : lastMarks [p1, p2] [b, c] = false) :
    PT X (.Compare a [p1, p2] [b, c] pos) (tB X.K cm (rT (rCh o1 o2 ra rb rc)) W) := by
  obtain ⟨r1, ho1, g1⟩ := h1
  obtain ⟨r2, ho2, g2⟩ := h2
  refine (pt_chain ho1 ho2 ha hb hc hm).imp fun σ H Q ⟨α, μ, ρ, S, R, p⟩ => ch_go g1 g2 S R ?_
  unfold rT at p
  rw [rCh_eq, Res.bind_assoc] at p
  exact p.then fun t μ1 α1 H1 L1 S1 p1 => ⟨t, rfl, Post.here p1 S1⟩

/-! ### and, or, not -/
def rAnd (ra rb : Env' → Mem → Res D) : Env' → Mem → Res D := fun ρ μ => (ra ρ μ).bind fun x μ1 => (Res.ofO (truthD x μ1) μ1).bind fun t μ2 => if t then rb ρ μ2 else .ok x μ2
def rOr (ra rb : Env' → Mem → Res D) : Env' → Mem → Res D := fun ρ μ => (ra ρ μ).bind fun x μ1 => (Res.ofO (truthD x μ1) μ1).bind fun t μ2 => if t then .ok x μ2 else rb ρ μ2
def rNot (ra : Env' → Mem → Res D) : Env' → Mem → Res D := fun ρ μ => (ra ρ μ).bind fun x μ1 => (Res.ofO (truthD x μ1) μ1).bind fun t μ2 => .ok (.bl (!t)) μ2
def rIte (rc ra rb : Env' → Mem → Res D) : Env' → Mem → Res D := fun ρ μ => (rc ρ μ).bind fun x μ1 => (Res.ofO (truthD x μ1) μ1).bind fun t μ2 => if t then ra ρ μ2 else rb ρ μ2
theorem me_one {op : BoolOp} (ha : PE X a (tE X.K cm ra W)) : PE X (.BoolOp op [a] pos) (tE X.K cm ra W) := pe_one ha
theorem me_and (ha : PE X a (tE X.K cm ra W)) (hb : PE X (.BoolOp .And (b :: es) pos) (tE X.K cm rb W)) : PE X (.BoolOp .And (a :: b :: es) pos) (tE X.K cm (rAnd ra rb) W) :=
  (pe_andT ha hb).imp fun σ H Q ⟨α, μ, ρ, S, R, p⟩ => ⟨α, μ, ρ, S, R, p.then fun x μ1 α1 H1 L1 S1 p1 v rv => by
    obtain ⟨t, e, p2⟩ := Post.ofOb p1
    refine ⟨t, truth_of S1 rv e, ?_⟩
    cases t with
    | true => rw [if_pos rfl]; rw [if_pos rfl] at p2; exact ⟨α1, μ1, ρ, S1, R.later S L1, p2⟩
    | false => rw [if_neg Bool.false_ne_true]; rw [if_neg Bool.false_ne_true] at p2; exact Post.here p2 S1 v rv⟩
theorem me_or (ha : PE X a (tE X.K cm ra W)) (hb : PE X (.BoolOp .Or (b :: es) pos) (tE X.K cm rb W)) : PE X (.BoolOp .Or (a :: b :: es) pos) (tE X.K cm (rOr ra rb) W) :=
  (pe_orT ha hb).imp fun σ H Q ⟨α, μ, ρ, S, R, p⟩ => ⟨α, μ, ρ, S, R, p.then fun x μ1 α1 H1 L1 S1 p1 v rv => by
    obtain ⟨t, e, p2⟩ := Post.ofOb p1
    refine ⟨t, truth_of S1 rv e, ?_⟩
    cases t with
    | true => rw [if_pos rfl]; rw [if_pos rfl] at p2; exact Post.here p2 S1 v rv
    | false => rw [if_neg Bool.false_ne_true]; rw [if_neg Bool.false_ne_true] at p2; exact ⟨α1, μ1, ρ, S1, R.later S L1, p2⟩⟩
theorem me_not (ha : PE X a (tE X.K cm ra W)) : PE X (.UnaryOp .Not a pos) (tE X.K cm (rNot ra) W) :=
  (pe_notT ha).imp fun σ H Q ⟨α, μ, ρ, S, R, p⟩ => ⟨α, μ, ρ, S, R, p.then fun x μ1 α1 H1 L1 S1 p1 v rv => by
    obtain ⟨t, e, p2⟩ := Post.ofOb p1
    exact ⟨t, truth_of S1 rv e, Post.here p2 S1 _ rep_mkB⟩⟩
theorem mt_not (ha : PT X a (tB X.K cm (rT ra) W)) : PT X (.UnaryOp .Not a pos) (tB X.K cm (rT (rNot ra)) W) :=
  (pt_not ha).imp fun σ H Q ⟨α, μ, ρ, S, R, p⟩ => ⟨α, μ, ρ, S, R, by
    have e : rT (rNot ra) ρ μ = (rT ra ρ μ).bind fun t μ2 => .ok (!t) μ2 := by
      unfold rT rNot
      simp only [Res.bind_assoc]
      rfl
    rw [e] at p
    exact p.then fun t μ1 α1 H1 L1 S1 p1 => Post.here p1 S1⟩
theorem truth_and (ra rb : Env' → Mem → Res D) (ρ : Env') (μ : Mem) : rT (rAnd ra rb) ρ μ = (rT ra ρ μ).bind fun t μ2 => if t then rT rb ρ μ2 else .ok false μ2 := by
  unfold rT rAnd
  simp only [Res.bind_assoc]
  congr 1; funext x μ1
  cases e : truthD x μ1 with
  | none => rfl
  | some t => cases t <;> simp [e]
theorem truth_or (ra rb : Env' → Mem → Res D) (ρ : Env') (μ : Mem) : rT (rOr ra rb) ρ μ = (rT ra ρ μ).bind fun t μ2 => if t then .ok true μ2 else rT rb ρ μ2 := by
  unfold rT rOr
  simp only [Res.bind_assoc]
  congr 1; funext x μ1
  cases e : truthD x μ1 with
  | none => rfl
  | some t => cases t <;> simp [e]
theorem mw_and1 (ha : PT X a (tB X.K cm (rT ra) W)) : PW X (.BoolOp .And [a] pos) (tB X.K cm (rT ra) W) := pw_and1 ha
theorem mw_or1 (ha : PT X a (tB X.K cm (rT ra) W)) : PW X (.BoolOp .Or [a] pos) (tB X.K cm (rT ra) W) := pw_or1 ha
theorem mw_and (ha : PT X a (tB X.K cm (rT ra) W)) (hb : PW X (.BoolOp .And (b :: es) pos) (tB X.K cm (rT rb) W)) : PW X (.BoolOp .And (a :: b :: es) pos) (tB X.K cm (rT (rAnd ra rb)) W) :=
  (pw_and ha hb).imp fun σ H Q ⟨α, μ, ρ, S, R, p⟩ => by
    rw [truth_and] at p
    refine ⟨α, μ, ρ, S, R, p.then fun t μ1 α1 H1 L1 S1 p1 => ?_⟩
    cases t with
    | true => rw [if_pos rfl]; rw [if_pos rfl] at p1; exact ⟨α1, μ1, ρ, S1, R.later S L1, p1⟩
    | false => rw [if_neg Bool.false_ne_true]; rw [if_neg Bool.false_ne_true] at p1; exact Post.here p1 S1
theorem mw_or (ha : PT X a (tB X.K cm (rT ra) W)) (hb : PW X (.BoolOp .Or (b :: es) pos) (tB X.K cm (rT rb) W)) : PW X (.BoolOp .Or (a :: b :: es) pos) (tB X.K cm (rT (rOr ra rb)) W) :=
  (pw_or ha hb).imp fun σ H Q ⟨α, μ, ρ, S, R, p⟩ => by
    rw [truth_or] at p
    refine ⟨α, μ, ρ, S, R, p.then fun t μ1 α1 H1 L1 S1 p1 => ?_⟩
    cases t with
    | true => rw [if_pos rfl]; rw [if_pos rfl] at p1; exact Post.here p1 S1
    | false => rw [if_neg Bool.false_ne_true]; rw [if_neg Bool.false_ne_true] at p1; exact ⟨α1, μ1, ρ, S1, R.later S L1, p1⟩
theorem me_ite (hc : PT X c (tB X.K cm (rT rc) W)) (ha : PE X a (tE X.K cm ra W)) (hb : PE X b (tE X.K cm rb W)) : PE X (.IfExp c a b pos) (tE X.K cm (rIte rc ra rb) W) :=
  (pe_ifExp hc ha hb).imp fun σ H Q ⟨α, μ, ρ, S, R, p⟩ => by
    have e : rIte rc ra rb ρ μ = (rT rc ρ μ).bind fun t μ2 => if t then ra ρ μ2 else rb ρ μ2 := by unfold rIte rT; simp only [Res.bind_assoc]
    rw [e] at p
    refine ⟨α, μ, ρ, S, R, p.then fun t μ1 α1 H1 L1 S1 p1 => ?_⟩
    cases t with
    | true => rw [if_pos rfl]; rw [if_pos rfl] at p1; exact ⟨α1, μ1, ρ, S1, R.later S L1, p1⟩
    | false => rw [if_neg Bool.false_ne_true]; rw [if_neg Bool.false_ne_true] at p1; exact ⟨α1, μ1, ρ, S1, R.later S L1, p1⟩

/-! ### displays, subscripts -/
variable {rs : Env' → Mem → Res (List D)}
theorem mas_nil : PA X [] (tAs X.K cm (fun _ μ => .ok [] μ) W) := pa_nil.imp fun σ H Q ⟨α, μ, ρ, S, R, p⟩ => Post.here p S [] (by simp only [Reps])
theorem mas_cons (ha : PE X a (tE X.K cm ra W)) (hr : PA X es (tAs X.K cm rs W)) (hs : starEach (a :: es) X.env = (false, eval a X.env) :: starEach es X.env) :
    PA X (a :: es) (tAs X.K cm (fun ρ μ => (ra ρ μ).bind fun x μ1 => (rs ρ μ1).bind fun xs μ2 => .ok (x :: xs) μ2) W) :=
  (pa_cons ha hr hs).imp fun σ H Q ⟨α, μ, ρ, S, R, p⟩ => ⟨α, μ, ρ, S, R, p.then fun x μ1 α1 H1 L1 S1 p1 v rv => ⟨α1, μ1, ρ, S1, R.later S L1, p1.then fun xs μ2 α2 H2 L2 S2 p2 vs rvs => by
    refine Post.here p2 S2 _ ?_
    simp only [Reps]
    exact ⟨v, vs, rfl, rv.later S1 L2, rvs⟩⟩⟩
theorem me_tup {k : Nat} (hs : PA X es (tAs X.K cm rs W)) : PE X (.Tuple es k pos) (tE X.K cm (fun ρ μ => (rs ρ μ).bind fun ds μ1 => if ds.length ≤ lim then .ok (.tup ds) μ1 else .bad) W) :=
  (pe_tup hs).imp fun σ H Q ⟨α, μ, ρ, S, R, p⟩ => ⟨α, μ, ρ, S, R, p.then fun ds μ1 α1 H1 L1 S1 p1 vs rvs => by
    obtain ⟨hl, p2⟩ := Post.guard p1
    exact ⟨by rw [← rvs.len, ← lim_eq]; exact hl, Post.tup p2 S1 rvs⟩⟩
/-- a list display: a new list -/
theorem mm_disp (hs : PA X es (tAs X.K cm rs W)) : PE X (.List es pos) (tM X.K cm (fun ρ μ => (rs ρ μ).bind fun ds μ1 => if ds.length ≤ lim then .ok ds μ1 else .bad) W) :=
  (pe_lst hs).imp fun σ H Q ⟨α, μ, ρ, S, R, p⟩ => ⟨α, μ, ρ, S, R, p.then fun ds μ1 α1 H1 L1 S1 p1 vs rvs => by
    obtain ⟨hl, p2⟩ := Post.guard p1
    refine ⟨by rw [← rvs.len, ← lim_eq]; exact hl, fun q hq => ?_⟩
    obtain ⟨S2, L2⟩ := S1.lay (o := .lst vs) hq
    refine p2 α1 _ L2 S2 q vs (rvs.later S1 L2) upd_same (S1.fresh hq) ?_
    cases e : H q with
    | none => rfl
    | some o =>
      by_cases hm : q ∈ α
      · obtain ⟨ex, e2⟩ := L1.ext
        exact absurd (by rw [e2]; exact List.mem_append_left _ hm) (S1.fresh hq)
      · rw [L1.keep q o hm e] at hq; cases hq⟩
/-- a list that was made, as a value of the memory -/
theorem me_lst (h : PE X e (tM X.K cm rs W)) : PE X e (tE X.K cm (fun ρ μ => (rs ρ μ).bind fun ds μ1 => alloc (.lst ds) μ1) W) :=
  h.imp fun σ H Q ⟨α, μ, ρ, S, R, p⟩ => ⟨α, μ, ρ, S, R, by
    dsimp only at p
    cases er : rs ρ μ with
    | ok ds μ1 =>
      rw [er] at p
      exact fun α1 H1 L1 S1 a vs r hp np hn => Post.own (show Post X.K cm α H (okV X.K Q) _ (alloc (.lst ds) μ1) from p) L1 S1 r hp np hn
    | ex C fs μ1 => rw [er] at p; exact p
    | bad => rw [er] at p; exact p⟩
/-- .. for one use -/
theorem ml_mk (h : PE X e (tM X.K cm rs W)) : PE X e (tL X.K cm (fun ρ μ => (rs ρ μ).bind fun ds μ1 => .ok ⟨ds, [], false⟩ μ1) W) :=
  h.imp fun σ H Q ⟨α, μ, ρ, S, R, p⟩ => ⟨α, μ, ρ, S, R, p.then fun ds μ1 α1 H1 L1 S1 p1 a vs r hp np _ => Post.here p1 S1 a vs ⟨r, .inr (.inl ⟨hp, np, rfl, rfl⟩)⟩⟩
theorem its_at {K : PySem.W.Frag} {mg : Str × Bool → Option Value} {α : List Addr} {μ : Mem} {H : Hp} {d : D} {v : V} {it : Its} (S : Sim K mg α μ H) (r : Rep K α H d v) (h : itsOf d μ = some it) : ∃ a vs, v = .ref a ∧ LstAt K α H it a vs := by
  cases d with
  | tup ds =>
    simp only [itsOf] at h; cases h
    obtain ⟨a, vs, e, t, q⟩ := rep_tupS r
    exact ⟨a, vs, e, q, .inl ⟨t, rfl, rfl⟩⟩
  | ref n =>
    obtain ⟨a, ha, e⟩ := rep_ref r
    simp only [itsOf] at h
    cases q : μ[n]? with
    | none => rw [q] at h; cases h
    | some c =>
      rw [q] at h
      cases c with
      | lst ds =>
        cases h
        obtain ⟨vs, h1, r1⟩ := S.lstAt q ha
        exact ⟨a, vs, e, r1, .inr (.inr ⟨SqL.of h1, rfl, n, _, ha, rfl, .inl rfl⟩)⟩
      | rol ds =>
        cases h
        obtain ⟨o, vs, h1, r1⟩ := S.rolAt q ha
        exact ⟨a, vs, e, r1, .inr (.inr ⟨.inl (.inr ⟨o, h1⟩), rfl, n, _, ha, rfl, .inr rfl⟩)⟩
      | _ => cases h
  | _ => cases h
theorem ml_val (ha : PE X a (tE X.K cm ra W)) : PE X a (tL X.K cm (fun ρ μ => (ra ρ μ).bind fun x μ1 => Res.ofO (itsOf x μ1) μ1) W) :=
  ha.imp fun σ H Q ⟨α, μ, ρ, S, R, p⟩ => ⟨α, μ, ρ, S, R, p.then fun x μ1 α1 H1 L1 S1 p1 v rv => by
    obtain ⟨it, e, q⟩ := Post.ofO p1 S1
    obtain ⟨p0, vs, e1, l⟩ := its_at S1 rv e
    subst e1
    exact q p0 vs l⟩
end
end Mi
/-! MiR: t[::-1] of a tuple. -/
namespace HT
open PySem PySem.Spec PyProof.Rows
section
variable {prog : Program} {w : World} {A : Around} {E : Value → Shared → Prop} {s : Shared}
theorem adjust_rev (n : Nat) : Builtin.Slice.sliceAdjust none none (-1) (n : Int) = ((n : Int) - 1, -1) := by
  unfold Builtin.Slice.sliceAdjust
  simp
theorem places_rev (n : Nat) : Builtin.Slice.slicePlaces ((n : Int) - 1) (-1) (-1) = n := by
  unfold Builtin.Slice.slicePlaces
  simp
  omega
theorem sliceApplied_rev {sl : Addr} {vs : Value} {n : Nat} {Q : Int × Int × Nat → Shared → Prop} (hs : s.heap.IsSliceOf sl .none .none vs) (ps : IsPart vs (some (-1)))
    (h : Q ((n : Int) - 1, -1, n) s) : wpAny (model prog w) A (Builtin.Slice.sliceApplied (.ref sl) (pure (n : Int))) Q E s := by
  obtain ⟨os, hos, hcs, hds⟩ := id hs
  unfold Builtin.Slice.sliceApplied Builtin.Slice.sliceFields
  refine wpAny_bind (wpAny_bind (wpAny_field hos hds (x := .none) rfl (wpAny_bind (wpAny_field hos hds (x := .none) rfl (wpAny_bind (wpAny_field hos hds (x := vs) rfl (wpAny_pure ?_)))))))
  refine wpAny_bind (slicePart_ ps ?_)
  show wpAny _ _ (if ((-1 : Int) == 0) = true then _ else _) _ _ s
  rw [if_neg (by decide)]
  refine wpAny_bind (slicePart_ .none (wpAny_bind (slicePart_ .none (wpAny_bind (wpAny_pure ?_)))))
  show wpAny _ _ (match Builtin.Slice.sliceAdjust none none (-1) (n : Int) with | (lo, hi) => pure (lo, (-1 : Int), Builtin.Slice.slicePlaces lo hi (-1))) _ _ s
  rw [adjust_rev n]
  show wpAny _ _ (pure ((n : Int) - 1, (-1 : Int), Builtin.Slice.slicePlaces ((n : Int) - 1) (-1) (-1))) _ _ s
  rw [places_rev]
  exact wpAny_pure h
theorem fm_congr {α β : Type} {f g : α → Option β} : ∀ {l : List α}, (∀ x ∈ l, f x = g x) → l.filterMap f = l.filterMap g
  | [], _ => rfl
  | a :: l, h => by
    rw [List.filterMap_cons, List.filterMap_cons, h a List.mem_cons_self, fm_congr fun x hx => h x (List.mem_cons_of_mem _ hx)]
theorem pick_rev (xs : Array Value) : ((List.range xs.size).filterMap fun (m : Nat) => xs[(((xs.size : Nat) : Int) - 1 + (m : Int) * (-1)).toNat]?).toArray = xs.toList.reverse.toArray := by
  have e : ∀ m ∈ List.range xs.size, xs[(((xs.size : Nat) : Int) - 1 + (m : Int) * (-1)).toNat]? = xs.toList.reverse.toArray[0 + m]? := fun m hm => by
    have hm := List.mem_range.mp hm
    have i1 : (((xs.size : Nat) : Int) - 1 + (m : Int) * (-1)).toNat = xs.size - 1 - m := by omega
    rw [i1, Nat.zero_add]
    have q := List.getElem?_reverse (l := xs.toList) (i := m) (by simpa using hm)
    simp only [List.getElem?_toArray]
    rw [q]
    simp
  rw [fm_congr e]
  have := pick_run xs.toList.reverse.toArray 0 xs.size
  rw [List.filterMap_map] at this
  have e2 : ((fun x => xs.toList.reverse.toArray[x]?) ∘ fun x => 0 + x) = fun m => xs.toList.reverse.toArray[0 + m]? := rfl
  rw [e2] at this
  rw [this, List.drop_zero, List.take_of_length_le (by simp)]
theorem getItem_tuple_rev {t sl : Addr} {items : Array Value} {vs : Value} {Q : Value → Shared → Prop} (ht : IsTup s.heap t items) (hs : s.heap.IsSliceOf sl .none .none vs) (ps : IsPart vs (some (-1)))
    (h : Q (.ref s.heap.objs.size) { s with heap := s.heap.push { cls := .type "tuple", data := .seq items.toList.reverse.toArray } })
    (hsz : items.size ≤ sizeLine) : wpAny (model prog w) A (getItem (.ref t) (.ref sl)) Q E s := by
  have htake : sizeOk (.seq items.toList.reverse.toArray) := by
    show items.toList.reverse.toArray.size ≤ sizeLine
    simpa using hsz
  obtain ⟨os, hos, hcs, hds⟩ := id hs
  have hTs : s.TypeIs (.ref sl) "slice" := ⟨os, hos, hcs⟩
  unfold getItem
  try with_reducible refine wpAny_holding ?_
  first | refine wpAny_bind (wpAny_pure ?_) | skip
  refine wpAny_bind (wpAny_sequenceKey ht.typeIs (by decide) ?_)
  refine wpAny_bind (wpAny_callSpecial?_slot (name := Str.ofString "__getitem__") ht.typeIs PyProof.Rows.slot_tuple_getitem
    (wpAny_call_entry PyProof.Rows.slot_tuple_getitem ht.typeIs entry_tuple_getitem ?_ (args_tuple_getitem _ _)))
  show wpAny _ _ (Builtin.Tuple.tupleItemsOf (.ref t) >>= _) _ _ s
  refine wpAny_bind (tupleItemsOf_ ht ?_)
  refine wpAny_bind (wpAny_typeOf hTs ?_)
  rw [if_pos (by decide)]
  refine wpAny_bind (sliceApplied_rev hs ps ?_)
  have hno : ¬ ((((items.size : Nat) : Int) - 1 == 0 && (-1 : Int) == 1 && items.size == items.size) = true) := by
    intro q
    rw [Bool.and_eq_true, Bool.and_eq_true] at q
    exact absurd q.1.2 (by decide)
  show wpAny _ _ (if (((items.size : Nat) : Int) - 1 == 0 && (-1 : Int) == 1 && items.size == items.size) = true then _ else _) _ _ s
  rw [if_neg hno, pick_rev]
  first
    | exact wpAny_bind (m := Builtin.Tuple.tupleExact _) (wpAny_newObj_type (wpAny_pure ⟨_, rfl, wpAny_pure h⟩) htake)
    | exact wpAny_bind (m := Builtin.Tuple.tupleExact _) (wpAny_newObj_type (wpAny_bind (wpAny_pure (wpAny_pure ⟨_, rfl, wpAny_pure h⟩))) htake)
    | exact wpAny_bind (wpAny_bind (m := Builtin.Tuple.tupleExact _) (wpAny_newObj_type (wpAny_pure (wpAny_pure ⟨_, rfl, wpAny_pure h⟩)) htake))
    | exact wpAny_bind (wpAny_bind (m := Builtin.Tuple.tupleExact _) (wpAny_newObj_type (wpAny_pure ⟨_, rfl, wpAny_pure h⟩) htake))
end
end HT
namespace L2
open PySem PySem.Spec PyProof.Rows
section
variable {X : Cx}
/-- xs[::-1] of a list or of a tuple -/
def tRevA (K : PySem.W.Frag) (te : TE) : TE := fun σ H Q => te σ H fun x H1 => ∃ a xs, x = .ref a ∧ ((SqL K H1 a xs ∧ ∀ p, H1 p = none → Q (.ref p) (upd H1 p (.lst xs.reverse))) ∨ (SqT K H1 a xs ∧ ∀ p, H1 p = none → Q (.ref p) (upd H1 p (.tup xs.reverse))))
theorem pe_revA {e : Expr} {te : TE} {k : Nat} {p1 p2 p3 pos : Pos} (he : PE X e te) : PE X (.Subscript e (.Slice none none (some (.UnaryOp .USub (.Constant (.int 1) k p1) p2)) p3) pos) (tRevA X.K te) := by
  refine ⟨fun pins s σ H Q I h => ?_⟩
  refine Subscript_ (thn (he.run pins s σ H _ I h) fun v s1 ⟨x, H1, I1, r1, q1⟩ => ?_)
  obtain ⟨a, xs, ex, q1⟩ := q1
  subst ex
  cases r1
  have hst : PO X (some (.UnaryOp .USub (.Constant (.int 1) k p1) p2)) (tPart (tUn (rU fun i => .int (-i)) (tC (.int 1)))) := po_some (pe_un un_neg pe_int)
  refine wpAny_Slice (thn (po_none.run pins s1 σ H1 (fun o H2 => o = none ∧ H2 = H1) I1 ⟨rfl, rfl⟩) fun vl s2 ⟨l, H2, I2, pl, el, e2⟩ => ?_)
  subst el e2
  refine thn (po_none.run pins s2 σ H2 (fun o H3 => o = none ∧ H3 = H2) I2 ⟨rfl, rfl⟩) fun vu s3 ⟨u, H3, I3, pu, eu, e3⟩ => ?_
  subst eu e3
  refine thn (hst.run pins s3 σ H3 (fun o H4 => o = some (-1) ∧ H4 = H3) I3 ⟨1, rfl, -1, rfl, rfl, rfl⟩) fun vs s4 ⟨o, H4, I4, ps, eo, e4⟩ => ?_
  subst eo e4
  have I5 : Inv X pins σ H4 { s4 with heap := s4.heap.push { cls := .type "slice", data := .fields #[vl, vu, vs] } } := I4.kept (t' := s4.toks) fun b ob q => Heap.get?_push_of_some _ q
  show wpAny (model X.prog X.w) X.A (subscriptTail e (.Slice none none (some (.UnaryOp .USub (.Constant (.int 1) k p1) p2)) p3) (.ref a) (.ref s4.heap.objs.size)) (EP X pins σ Q) X.xe { s4 with heap := s4.heap.push { cls := .type "slice", data := .fields #[vl, vu, vs] } }
  rcases q1 with ⟨hx, q⟩ | ⟨hx, q⟩
  · obtain ⟨its, r, ht, hz⟩ := I5.list hx
    have hlen := r.length
    refine tail_any (ops := [.ref a, .ref s4.heap.objs.size]) ht.isList.typeIs (PySem.slot_list_getitem.lookup) ?_ (by with_unfolding_all rfl)
    refine wpAny_getItem_list_slice ht.isList (Heap.IsSliceOf.new _ vl vu vs) pl pu ps (by decide) ?_ (by rw [List.size_toArray]; omega)
    rw [PySem.W.krv_pick]
    refine ⟨.ref _, _, I5.laid (t' := s4.toks) (o := .lst xs.reverse) (fun b ob q => Heap.get?_push_of_some _ q) (Nat.le_refl _) ?_, rfl, q _ (I5.hok.fresh (Nat.le_refl _))⟩
    exact ⟨by rw [List.length_reverse]; exact hz, _, 0, r.reverse, Heap.get?_push_size _ rfl⟩
  · obtain ⟨its, r, ht, hz⟩ := I5.tuple hx
    have hlen := r.length
    cases pl
    cases pu
    refine tail_any (ops := [.ref a, .ref s4.heap.objs.size]) ht.typeIs (PyProof.Rows.slot_tuple_getitem.lookup) ?_ (by with_unfolding_all rfl)
    refine HT.getItem_tuple_rev ht (Heap.IsSliceOf.new _ .none .none vs) ps ?_ (by rw [List.size_toArray]; omega)
    refine ⟨.ref _, _, I5.laid (t' := s4.toks) (o := .tup xs.reverse) (fun b ob q => Heap.get?_push_of_some _ q) (Nat.le_refl _) ?_, rfl, q _ (I5.hok.fresh (Nat.le_refl _))⟩
    exact ⟨by rw [List.length_reverse]; exact hz, _, r.reverse, IsTup.new _ _⟩
end
end L2
/-! Mi5: built-in functions, subscripts, slices, methods of lists. -/
namespace Mi
open PySem L2

/-- a written argument without a star -/
def noStar (e : Expr) : Bool := match e with
  | .Starred _ _ => false
  | _ => true
theorem star_cons {e : Expr} {es : List Expr} {env : Env} (h : noStar e = true) : starEach (e :: es) env = (false, eval e env) :: starEach es env := by
  cases e <;> first | rfl | cases h
theorem star_none {env : Env} {pos : Pos} : ∀ {es : List Expr}, es.all noStar = true → (backTo pos (starEach es env)).any (·.1) = false
  | [], _ => rfl
  | e :: es, h => by
    rw [List.all_cons, Bool.and_eq_true] at h
    rw [star_cons h.1]
    have q := star_none (env := env) (pos := pos) h.2
    unfold backTo at q ⊢
    rw [List.map_cons, List.any_cons, q]
    rfl
theorem star_all {env : Env} {pos : Pos} : ∀ {es : List Expr}, es.all noStar = true → (backTo pos (starEach es env)).all (fun x => !x.1) = true
  | [], _ => rfl
  | e :: es, h => by
    rw [List.all_cons, Bool.and_eq_true] at h
    rw [star_cons h.1]
    have q := star_all (env := env) (pos := pos) h.2
    unfold backTo at q ⊢
    rw [List.map_cons, List.all_cons, q]
    rfl

section
variable {X : Cx} {W : WX} {cm : Str × Bool → Option Value} {pos p : Pos} {a b c e : Expr} {es : List Expr} {ra rb rc : Env' → Mem → Res D} {rl : Env' → Mem → Res Its}
/-- a built-in function of one value -/
theorem me_b1 {f : D → Mem → Res D} {x : Str} {id : String} {r : List V → Hp → VK → Prop} (hc : CallR X (.builtin id) r) (hg : Gl X x) (hm : X.mg x = none) (hv : bootBuiltins x = some (.builtin id)) (hn : x ≠ "__name__") (hdb : (x == ("__debug__" : Str)) = false)
    (ns : noStar a = true) (ha : PE X a (tE X.K cm ra W))
    (op : ∀ (α : List Addr) (μ : Mem) (H : Hp) (x : D) (v : V) (Q : VK) (w : Value → Option Addr → Hp → Prop), Sim X.K cm α μ H → Rep X.K α H x v → Post X.K cm α H (okV X.K Q) w (f x μ) → r [v] H Q) :
    PE X (.Call (.Name x p) [a] [] pos) (tE X.K cm (fun ρ μ => (ra ρ μ).bind fun x μ1 => f x μ1) W) :=
  (pe_callB hc hg hm hv (pa_cons ha pa_nil (star_cons ns)) hn hdb (star_cons ns) rfl).imp fun σ H Q ⟨α, μ, ρ, S, R, q⟩ =>
    ⟨α, μ, ρ, S, R, q.then fun x μ1 α1 H1 L1 S1 p1 v rv => op α1 μ1 H1 x v Q _ S1 rv p1⟩
theorem me_t1 {f : D → Mem → Res D} {x : Str} {T : String} {r : List V → Hp → VK → Prop} (hc : CallR X (.type T) r) (hg : Gl X x) (hm : X.mg x = none) (hv : bootBuiltins x = some (.type T)) (hn : x ≠ "__name__") (hdb : (x == ("__debug__" : Str)) = false)
    (ns : noStar a = true) (ha : PE X a (tE X.K cm ra W))
    (op : ∀ (α : List Addr) (μ : Mem) (H : Hp) (x : D) (v : V) (Q : VK) (w : Value → Option Addr → Hp → Prop), Sim X.K cm α μ H → Rep X.K α H x v → Post X.K cm α H (okV X.K Q) w (f x μ) → r [v] H Q) :
    PE X (.Call (.Name x p) [a] [] pos) (tE X.K cm (fun ρ μ => (ra ρ μ).bind fun x μ1 => f x μ1) W) :=
  (pe_callTy hc hg hm hv (pa_cons ha pa_nil (star_cons ns)) hn hdb (star_cons ns) rfl).imp fun σ H Q ⟨α, μ, ρ, S, R, q⟩ =>
    ⟨α, μ, ρ, S, R, q.then fun x μ1 α1 H1 L1 S1 p1 v rv => op α1 μ1 H1 x v Q _ S1 rv p1⟩
theorem len_of {K : PySem.W.Frag} {mg : Str × Bool → Option Value} {α : List Addr} {μ : Mem} {H : Hp} {d : D} {v : V} {n : Nat} (S : Sim K mg α μ H) (r : Rep K α H d v) (hnd : ∀ m kvs, d = .ref m → μ[m]? ≠ some (.dct false kvs)) (h : lenD d μ = some n) : LenV K v H n := by
  cases d with
  | tup ds =>
    simp only [lenD] at h; cases h
    obtain ⟨a, vs, e, t, q⟩ := rep_tup r
    subst e
    exact .inr ⟨vs, t, q.len⟩
  | str s =>
    rw [rep_str r]
    simp only [lenD] at h
    split at h
    · rename_i hl; cases h; exact ⟨by rw [← lim_eq]; exact hl, rfl⟩
    · cases h
  | ref m =>
    obtain ⟨a, ha, e⟩ := rep_ref r
    subst e
    simp only [lenD] at h
    cases q : μ[m]? with
    | none => rw [q] at h; cases h
    | some c =>
      rw [q] at h
      cases c with
      | lst ds => cases h; obtain ⟨vs, h1, r1⟩ := S.lstAt q ha; exact .inl ⟨vs, SqL.of h1, r1.len⟩
      | rol ds => cases h; obtain ⟨o, vs, h1, r1⟩ := S.rolAt q ha; exact .inl ⟨vs, .inl (.inr ⟨o, h1⟩), r1.len⟩
      | ins C fs => cases h
      | dic kvs => cases h
      | dct lk kvs =>
        cases lk with
        | false => exact absurd q (hnd m kvs rfl)
        | true => cases h
  | _ => cases h
theorem len_any {K : PySem.W.Frag} {mg : Str × Bool → Option Value} {α : List Addr} {μ : Mem} {H : Hp} {x : D} {v : V} {n : Nat} {Q : VK} (S : Sim K mg α μ H) (rv : Rep K α H x v) (e : lenD x μ = some n) (q : Q (.int (n : Nat)) H) : (∃ x n, [v] = [x] ∧ LenV K x H n ∧ Q (.int n) H) ∨ rLenT [v] H Q := by
  by_cases hnd : ∀ m kvs, x = .ref m → μ[m]? ≠ some (.dct false kvs)
  · exact .inl ⟨v, n, rfl, len_of S rv hnd e, q⟩
  · refine .inr ?_
    cases x with
    | ref m =>
      obtain ⟨a, ha, ev⟩ := rep_ref rv
      subst ev
      cases em : μ[m]? with
      | none => simp only [lenD, em] at e; cases e
      | some c =>
        cases c with
        | dct lk kvs =>
          cases lk with
          | false =>
            simp only [lenD, em] at e
            cases e
            obtain ⟨ws, h1, r1⟩ := S.cell m _ a em ha
            exact ⟨a, ws, rfl, h1, by rw [← r1.len]; exact q⟩
          | true => exact absurd (fun m' kvs' h => by cases h; rw [em]; exact fun z => (nomatch z)) hnd
        | _ => exact absurd (fun m' kvs' h => by cases h; rw [em]; exact fun z => (nomatch z)) hnd
    | _ => exact absurd (fun m' kvs' h => (nomatch h)) hnd
theorem me_len (hg : Gl X "len") (hm : X.mg "len" = none) (ns : noStar a = true) (ha : PE X a (tE X.K cm ra W)) :
    PE X (.Call (.Name "len" p) [a] [] pos) (tE X.K cm (fun ρ μ => (ra ρ μ).bind fun x μ1 => Res.ofO (biD .len x μ1) μ1) W) :=
  me_b1 (call_len.or call_len_dT) hg hm PySem.boot_len (by decide) (by decide) ns ha fun α μ H x v Q w S rv q => by
    obtain ⟨n, e, q⟩ := Post.mapO (f := fun (n : Nat) => D.int (n : Nat)) q S
    exact len_any S rv e (q _ rep_mkI)
theorem me_int (hg : Gl X "int") (hm : X.mg "int" = none) (ns : noStar a = true) (ha : PE X a (tE X.K cm ra W)) :
    PE X (.Call (.Name "int" p) [a] [] pos) (tE X.K cm (fun ρ μ => (ra ρ μ).bind fun x μ1 => Res.ofO (biD .int x μ1) μ1) W) :=
  me_t1 call_int1 hg hm PyProof.Rows.boot_int (by decide) (by decide) ns ha fun α μ H x v Q w S rv q => by
    cases x with
    | int i => rw [rep_int rv]; exact .inl ⟨i, rfl, Post.here (show Post X.K cm α H (okV X.K Q) w (.ok (.int i) μ) from q) S _ rep_mkI⟩
    | bl c => rw [rep_bl rv]; exact .inr ⟨c, rfl, Post.here (show Post X.K cm α H (okV X.K Q) w (.ok (.int (b2i c)) μ) from q) S _ rep_mkI⟩
    | _ => exact q.elim

/-! lists for one use -/
/-- a built-in function of a list or tuple -/
theorem mel_b1 {f : Its → Mem → Res D} {x : Str} {id : String} {r : List V → Hp → VK → Prop} (hc : CallR X (.builtin id) r) (hg : Gl X x) (hm : X.mg x = none) (hv : bootBuiltins x = some (.builtin id)) (hn : x ≠ "__name__") (hdb : (x == ("__debug__" : Str)) = false)
    (ns : noStar a = true) (ha : PE X a (tL X.K cm rl W))
    (op : ∀ (α : List Addr) (μ : Mem) (H : Hp) (x : Its) (a : Addr) (vs : List V) (Q : VK) (w : Value → Option Addr → Hp → Prop), Sim X.K cm α μ H → LstAt X.K α H x a vs → Post X.K cm α H (okV X.K Q) w (f x μ) → r [.ref a] H Q) :
    PE X (.Call (.Name x p) [a] [] pos) (tE X.K cm (fun ρ μ => (rl ρ μ).bind fun x μ1 => f x μ1) W) :=
  (pe_callB hc hg hm hv (pa_cons ha pa_nil (star_cons ns)) hn hdb (star_cons ns) rfl).imp fun σ H Q ⟨α, μ, ρ, S, R, q⟩ =>
    ⟨α, μ, ρ, S, R, q.then fun x μ1 α1 H1 L1 S1 p1 a vs l => op α1 μ1 H1 x a vs Q _ S1 l p1⟩
theorem LstAt.lst {K : PySem.W.Frag} {α : List Addr} {H : Hp} {it : Its} {a : Addr} {vs : List V} (l : LstAt K α H it a vs) (h : it.tup = false) : SqL K H a vs := by
  obtain ⟨_, ⟨_, _, q⟩ | ⟨q, _⟩ | ⟨q, _⟩⟩ := l
  · rw [h] at q; cases q
  · exact SqL.of q
  · exact q
theorem LstAt.tupS {K : PySem.W.Frag} {α : List Addr} {H : Hp} {it : Its} {a : Addr} {vs : List V} (l : LstAt K α H it a vs) (h : it.tup = true) : SqS K H a vs := by
  obtain ⟨_, ⟨q, _, _⟩ | ⟨_, _, _, q⟩ | ⟨_, q, _⟩⟩ := l
  · exact q
  · rw [h] at q; cases q
  · rw [h] at q; cases q
theorem LstAt.seq {K : PySem.W.Frag} {α : List Addr} {H : Hp} {it : Its} {a : Addr} {vs : List V} (l : LstAt K α H it a vs) : (it.tup = false ∧ SqL K H a vs) ∨ (it.tup = true ∧ SqT K H a vs) := by
  cases h : it.tup with
  | false => exact .inl ⟨rfl, l.lst h⟩
  | true =>
    obtain ⟨_, ⟨q, _, _⟩ | ⟨_, _, _, q⟩ | ⟨_, q, _⟩⟩ := l
    · exact .inr ⟨rfl, q.sq⟩
    · rw [h] at q; cases q
    · rw [h] at q; cases q
theorem sum1_eq : ∀ ns : List Int, sum1 ns = ns.sum
  | [] => rfl
  | n :: ns => by rw [sum1, sum1_eq ns, List.sum_cons]
theorem Post.iteF {β : Type} {K : PySem.W.Frag} {mg : Str × Bool → Option Value} {α : List Addr} {H : Hp} {q : β → Mem → List Addr → Hp → Prop} {w : Value → Option Addr → Hp → Prop} {t : Bool} {r : Res β}
    (h : Post K mg α H q w (if t then .bad else r)) : t = false ∧ Post K mg α H q w r := by
  cases t with
  | true => exact h.elim
  | false => exact ⟨rfl, h⟩
theorem me_sum (hc : X.calm = true) (hg : Gl X "sum") (hm : X.mg "sum" = none) (ns : noStar a = true) (ha : PE X a (tL X.K cm rl W)) :
    PE X (.Call (.Name "sum" p) [a] [] pos) (tE X.K cm (fun ρ μ => (rl ρ μ).bind fun r μ1 => if r.tup then .bad else Res.ofO ((intsOf r.ds).map fun is => D.int (sum1 is)) μ1) W) :=
  mel_b1 (cr_sum hc) hg hm (by decide +kernel) (by decide) (by decide) ns ha fun α μ H x a vs Q w S l q => by
    obtain ⟨ht, q⟩ := Post.iteF q
    obtain ⟨is, e, q⟩ := Post.mapO q S
    exact ⟨a, is, rfl, by rw [← l.1.ints e]; exact l.lst ht, by rw [← sum1_eq]; exact q _ rep_mkI⟩
theorem me_any (hc : X.calm = true) (hg : Gl X "any") (hm : X.mg "any" = none) (ns : noStar a = true) (ha : PE X a (tL X.K cm rl W)) :
    PE X (.Call (.Name "any" p) [a] [] pos) (tE X.K cm (fun ρ μ => (rl ρ μ).bind fun r μ1 => if r.tup then .bad else Res.ofO ((blsOf r.ds).map fun bs => D.bl (bs.any id)) μ1) W) :=
  mel_b1 (cr_any hc) hg hm (by decide +kernel) (by decide) (by decide) ns ha fun α μ H x a vs Q w S l q => by
    obtain ⟨ht, q⟩ := Post.iteF q
    obtain ⟨is, e, q⟩ := Post.mapO q S
    exact ⟨a, is, rfl, by rw [← l.1.bls e]; exact l.lst ht, q _ rep_mkB⟩
theorem me_all (hc : X.calm = true) (hg : Gl X "all") (hm : X.mg "all" = none) (ns : noStar a = true) (ha : PE X a (tL X.K cm rl W)) :
    PE X (.Call (.Name "all" p) [a] [] pos) (tE X.K cm (fun ρ μ => (rl ρ μ).bind fun r μ1 => if r.tup then .bad else Res.ofO ((blsOf r.ds).map fun bs => D.bl (bs.all id)) μ1) W) :=
  mel_b1 (cr_all hc) hg hm (by decide +kernel) (by decide) (by decide) ns ha fun α μ H x a vs Q w S l q => by
    obtain ⟨ht, q⟩ := Post.iteF q
    obtain ⟨is, e, q⟩ := Post.mapO q S
    exact ⟨a, is, rfl, by rw [← l.1.bls e]; exact l.lst ht, q _ rep_mkB⟩
theorem me_lenL (hg : Gl X "len") (hm : X.mg "len" = none) (ns : noStar a = true) (ha : PE X a (tL X.K cm rl W)) :
    PE X (.Call (.Name "len" p) [a] [] pos) (tE X.K cm (fun ρ μ => (rl ρ μ).bind fun r μ1 => .ok (.int r.ds.length) μ1) W) :=
  mel_b1 call_len_seq hg hm PySem.boot_len (by decide) (by decide) ns ha fun α μ H x a vs Q w S l q =>
    ⟨a, vs, rfl, (l.seq).elim (fun z => .inl z.2) (fun z => .inr z.2), by rw [← l.1.len]; exact Post.here q S _ rep_mkI⟩
/-- tuple(l) -/
theorem me_tupOf (hg : Gl X "tuple") (hm : X.mg "tuple" = none) (ns : noStar a = true) (ha : PE X a (tL X.K cm rl W)) :
    PE X (.Call (.Name "tuple" p) [a] [] pos) (tE X.K cm (fun ρ μ => (rl ρ μ).bind fun r μ1 => .ok (.tup r.ds) μ1) W) :=
  (pe_callTy call_tuple_of hg hm PyProof.Rows.boot_tuple (pa_cons ha pa_nil (star_cons ns)) (by decide) (by decide) (star_cons ns) rfl).imp fun σ H Q ⟨α, μ, ρ, S, R, q⟩ =>
    ⟨α, μ, ρ, S, R, q.then fun x μ1 α1 H1 L1 S1 p1 a vs l => ⟨a, vs, rfl, l.seq.elim (fun z => .inl ⟨z.2, Post.tup p1 S1 l.1⟩) (fun z => .inr ⟨z.2, Post.tupAt p1 S1 l.1 (l.tupS z.1)⟩)⟩⟩
/-- a fresh address stays fresh in what was there before -/
theorem Later.fresh {K : PySem.W.Frag} {mg : Str × Bool → Option Value} {α α1 : List Addr} {μ : Mem} {H H1 : Hp} {q : Addr} (L : Later α H α1 H1) (S1 : Sim K mg α1 μ H1) (hq : H1 q = none) : H q = none := by
  cases e : H q with
  | none => rfl
  | some o =>
    by_cases hm : q ∈ α
    · obtain ⟨ex, e2⟩ := L.ext
      exact absurd (by rw [e2]; exact List.mem_append_left _ hm) (S1.fresh hq)
    · rw [L.keep q o hm e] at hq; cases hq
/-- a new list -/
theorem Post.mk {K : PySem.W.Frag} {mg : Str × Bool → Option Value} {α0 α : List Addr} {H0 H : Hp} {μ : Mem} {w : Value → Option Addr → Hp → Prop} {Q : VK} {ds : List D} {vs : List V}
    (h : Post K mg α H (fun ds _ α' H' => ∀ a vs, Reps K α' H' ds vs → H' a = some (.lst vs) → a ∉ α' → H0 a = none → Q (.ref a) H') w (.ok ds μ)) (L : Later α0 H0 α H) (S : Sim K mg α μ H) (r : Reps K α H ds vs) : ∀ q, H q = none → Q (.ref q) (upd H q (.lst vs)) := fun q hq => by
  obtain ⟨S2, L2⟩ := S.lay (o := .lst vs) hq
  exact h α _ L2 S2 q vs (r.later S L2) upd_same (S.fresh hq) (L.fresh S hq)
/-- list(l) -/
theorem mm_copy (hg : Gl X "list") (hm : X.mg "list" = none) (ns : noStar a = true) (ha : PE X a (tL X.K cm rl W)) :
    PE X (.Call (.Name "list" p) [a] [] pos) (tM X.K cm (fun ρ μ => (rl ρ μ).bind fun r μ1 => .ok r.ds μ1) W) :=
  (pe_callTy call_list_of hg hm PyProof.Rows.boot_list (pa_cons ha pa_nil (star_cons ns)) (by decide) (by decide) (star_cons ns) rfl).imp fun σ H Q ⟨α, μ, ρ, S, R, q⟩ =>
    ⟨α, μ, ρ, S, R, q.then fun x μ1 α1 H1 L1 S1 p1 a vs l => ⟨a, vs, rfl, l.seq.elim (fun z => .inl z.2) (fun z => .inr z.2), Post.mk p1 L1 S1 l.1⟩⟩
theorem sortI_perm : ∀ ns : List Int, (sortI ns).Perm ns
  | [] => .refl _
  | n :: ns => by
    have ins : ∀ (i : Int) (l : List Int), (insI i l).Perm (i :: l) := fun i l => by
      induction l with
      | nil => exact .refl _
      | cons j r ih =>
        unfold insI
        split
        · exact .refl _
        · exact (List.Perm.cons j ih).trans (List.Perm.swap i j r)
    exact (ins n (sortI ns)).trans ((sortI_perm ns).cons n)
theorem sortI_up : ∀ ns : List Int, (sortI ns).Pairwise (· ≤ ·)
  | [] => .nil
  | n :: ns => by
    have mem : ∀ (i : Int) (l : List Int) (x : Int), x ∈ insI i l → x = i ∨ x ∈ l := fun i l => by
      induction l with
      | nil => intro x h; simp [insI] at h; exact .inl h
      | cons j r ih =>
        intro x h
        unfold insI at h
        split at h
        · rcases List.mem_cons.mp h with q | q
          · exact .inl q
          · exact .inr q
        · rcases List.mem_cons.mp h with q | q
          · exact .inr (by rw [q]; exact List.mem_cons_self)
          · rcases ih x q with z | z
            · exact .inl z
            · exact .inr (List.mem_cons_of_mem _ z)
    have ins : ∀ (i : Int) (l : List Int), l.Pairwise (· ≤ ·) → (insI i l).Pairwise (· ≤ ·) := fun i l => by
      induction l with
      | nil => intro _; simp [insI]
      | cons j r ih =>
        intro h
        unfold insI
        rw [List.pairwise_cons] at h
        split
        · rename_i hij
          rw [List.pairwise_cons, List.pairwise_cons]
          refine ⟨fun x hx => ?_, h⟩
          rcases List.mem_cons.mp hx with q | q
          · rw [q]; exact hij
          · exact Int.le_trans hij (h.1 x q)
        · rename_i hij
          rw [List.pairwise_cons]
          refine ⟨fun x hx => ?_, ih h.2⟩
          rcases mem i r x hx with q | q
          · omega
          · exact h.1 x q
    exact ins n _ (sortI_up ns)
theorem perm_up_eq : ∀ {a b : List Int}, a.Perm b → a.Pairwise (· ≤ ·) → b.Pairwise (· ≤ ·) → a = b
  | [], b, p, _, _ => by rw [List.nil_perm.mp p]
  | x :: xs, [], p, _, _ => by exact absurd p.length_eq (by simp)
  | x :: xs, y :: ys, p, h, g => by
    rw [List.pairwise_cons] at h g
    have e : x = y := by
      have h1 : y ∈ x :: xs := p.mem_iff.mpr List.mem_cons_self
      have h2 : x ∈ y :: ys := p.mem_iff.mp List.mem_cons_self
      rcases List.mem_cons.mp h1 with q | q
      · exact q.symm
      · rcases List.mem_cons.mp h2 with z | z
        · exact z
        · have := h.1 y q; have := g.1 x z; omega
    subst e
    rw [perm_up_eq (List.Perm.cons_inv p) h.2 g.2]
/-- sorted(l) of ints -/
theorem mm_sorted (hg : Gl X "sorted") (hm : X.mg "sorted" = none) (ns : noStar a = true) (ha : PE X a (tL X.K cm rl W)) :
    PE X (.Call (.Name "sorted" p) [a] [] pos) (tM X.K cm (fun ρ μ => (rl ρ μ).bind fun r μ1 => if r.tup then .bad else match intsOf r.ds with
      | some is => .ok ((sortI is).map D.int) μ1
      | none => .bad) W) :=
  (pe_callB cr_sortedI hg hm (by decide +kernel) (pa_cons ha pa_nil (star_cons ns)) (by decide) (by decide) (star_cons ns) rfl).imp fun σ H Q ⟨α, μ, ρ, S, R, q⟩ =>
    ⟨α, μ, ρ, S, R, q.then fun x μ1 α1 H1 L1 S1 p1 a vs l => by
      obtain ⟨ht, p2⟩ := Post.iteF p1
      cases e : intsOf x.ds with
      | none => rw [e] at p2; exact p2.elim
      | some is =>
        rw [e] at p2
        refine ⟨a, is, rfl, by rw [← l.1.ints e]; exact l.lst ht, fun ns' p0 hp hs hn => ?_⟩
        rw [perm_up_eq (hp.trans (sortI_perm is).symm) hs (sortI_up is)]
        exact Post.mk p2 L1 S1 (Reps.ofInts _) p0 hn⟩

/-- sorted(d), d a dict with whole numbers for keys -/
theorem mm_sortedD (hc : X.calm = true) (hg : Gl X "sorted") (hm : X.mg "sorted" = none) (ns : noStar a = true) (ha : PE X a (tE X.K cm ra W)) :
    PE X (.Call (.Name "sorted" p) [a] [] pos) (tM X.K cm (fun ρ μ => (ra ρ μ).bind fun x μ1 => sortD x μ1) W) :=
  (pe_callB (call_sortedDI hc) hg hm (by decide +kernel) (pa_cons ha pa_nil (star_cons ns)) (by decide) (by decide) (star_cons ns) rfl).imp fun σ H Q ⟨α, μ, ρ, S, R, q⟩ =>
    ⟨α, μ, ρ, S, R, q.then fun x μ1 α1 H1 L1 S1 p1 v rv => by
      cases x with
      | ref n =>
        obtain ⟨a, ha, e⟩ := rep_ref rv
        subst e
        simp only [sortD] at p1
        cases em : μ1[n]? with
        | none => rw [em] at p1; exact p1.elim
        | some c =>
          rw [em] at p1
          cases c with
          | dic kvs =>
            dsimp only at p1
            cases e : intsOf (kvs.map (·.1)) with
            | none => rw [e] at p1; exact p1.elim
            | some is =>
              rw [e] at p1
              dsimp only at p1
              by_cases hl : is.length < 64
              · rw [if_pos hl] at p1
                obtain ⟨ws, g1, r1⟩ := S1.cell n _ a em ha
                refine ⟨a, ws, is, rfl, .inl g1, r1.ints e, hl, fun ys p0 hp hs hn => ?_⟩
                rw [perm_up_eq (hp.trans (sortI_perm is).symm) hs (sortI_up is)]
                exact Post.mk p1 L1 S1 (Reps.ofInts _) p0 hn
              · rw [if_neg hl] at p1; exact p1.elim
          | _ => exact p1.elim
      | _ => exact p1.elim⟩
/-- {} -/
theorem me_dnew : PE X (.Dict [] [] pos) (tE X.K cm (fun _ μ => alloc (.dic []) μ) W) :=
  pe_dnewK.imp fun σ H Q ⟨α, μ, ρ, S, R, q⟩ => Post.dic q S (by simp only [RepG])

theorem me_dnewT : PE X (.Dict [] [] pos) (tE X.K cm (fun _ μ => alloc (.dct false []) μ) W) :=
  pe_dnewT.imp fun σ H Q ⟨α, μ, ρ, S, R, q⟩ => Post.dct q S (by simp only [RepG])

/-! ### subscripts -/
def noSlice (e : Expr) : Bool := match e with
  | .Slice _ _ _ _ => false
  | _ => true
theorem plainIx {b : Expr} (h : noSlice b = true) : PlainIx b := by
  intro o i
  cases b <;> first | rfl | cases h
theorem ixOf_eq (n : Nat) (i : Int) : ixOf n i = ixN n i := rfl
theorem at_reps {K : PySem.W.Frag} {α : List Addr} {H : Hp} {ds : List D} {vs : List V} {i : Int} {d : D} (r : Reps K α H ds vs) (h : atD ds i = some d) : ∃ v, atI vs i = some v ∧ Rep K α H d v := by
  unfold atD at h
  unfold atI
  rw [← r.len]
  show ∃ v, (ixOf ds.length i).bind (fun j => vs[j]?) = some v ∧ _
  cases e : ixOf ds.length i with
  | none => rw [e] at h; cases h
  | some j =>
    rw [e] at h
    exact r.get h
theorem ix_ok0 {K : PySem.W.Frag} {mg : Str × Bool → Option Value} {α : List Addr} {μ : Mem} {H : Hp} {x y d : D} {v u : V} {Q : VK} (S : Sim K mg α μ H) (rx : Rep K α H x v) (ry : Rep K α H y u) (hnd : ∀ n, x = .ref n → (∀ kvs, μ[n]? ≠ some (.dic kvs)) ∧ ∀ lk kvs, μ[n]? ≠ some (.dct lk kvs)) (h : subD x y μ = some d) (q : ∀ w, Rep K α H d w → Q w H) : rIx K v u H Q := by
  cases x with
  | tup ds =>
    cases y with
    | int k =>
      obtain ⟨a, vs, e, t, r⟩ := rep_tup rx
      obtain ⟨w, e2, r2⟩ := at_reps r h
      exact .inr (.inl ⟨a, vs, k, w, e, rep_int ry, t, e2, q w r2⟩)
    | _ => cases h
  | str s =>
    cases y with
    | int k =>
      simp only [subD] at h
      split at h
      · rename_i hl
        rw [rep_str rx, rep_int ry]
        cases e : ixOf s.cps.toList.length k with
        | none => rw [e] at h; cases h
        | some j =>
          rw [e] at h
          simp only [Option.bind_some] at h
          cases e2 : s.cps.toList[j]? with
          | none => rw [e2] at h; cases h
          | some c =>
            rw [e2] at h; cases h
            refine .inr (.inr ⟨s, k, c, rfl, rfl, by rw [← lim_eq]; exact hl, ?_, q _ rep_mkS⟩)
            show (ixOf s.cps.toList.length k).bind (fun j => s.cps.toList[j]?) = some c
            rw [e]; exact e2
      · cases h
    | _ => cases h
  | ref n =>
    obtain ⟨a, ha, e⟩ := rep_ref rx
    subst e
    have lk : ∀ {k : Int}, subD (.ref n) (.int k) μ = some d → rIx K (.ref a) (.int k) H Q := fun {k} h => by
      simp only [subD] at h
      cases e1 : μ[n]? with
      | none => rw [e1] at h; cases h
      | some c =>
        rw [e1] at h
        cases c with
        | lst ds =>
          obtain ⟨vs, h1, r1⟩ := S.lstAt e1 ha
          obtain ⟨w, e2, r2⟩ := at_reps r1 h
          exact .inl ⟨a, vs, k, w, rfl, rfl, SqL.of h1, e2, q w r2⟩
        | rol ds =>
          obtain ⟨o, vs, h1, r1⟩ := S.rolAt e1 ha
          obtain ⟨w, e2, r2⟩ := at_reps r1 h
          exact .inl ⟨a, vs, k, w, rfl, rfl, .inl (.inr ⟨o, h1⟩), e2, q w r2⟩
        | ins C fs => cases h
        | dic kvs => exact absurd e1 ((hnd n rfl).1 kvs)
        | dct lk kvs => exact absurd e1 ((hnd n rfl).2 lk kvs)
    cases y with
    | int k => rw [rep_int ry]; exact lk h
    | _ =>
      exfalso
      simp only [subD] at h
      cases e1 : μ[n]? with
      | none => rw [e1] at h; cases h
      | some c =>
        rw [e1] at h
        cases c with
        | dic kvs => exact absurd e1 ((hnd n rfl).1 kvs)
        | dct lk kvs => exact absurd e1 ((hnd n rfl).2 lk kvs)
        | _ => cases h
  | _ => cases h
/-- d[k] of a dict, by values -/
def rDG : R2 := fun x y H Q => ∃ a z, x = .ref a ∧ DGet H a y (some z) ∧ Q z H
open PySem.Spec PyProof.Rows in
theorem ix_dget {X : Cx} (hu : X.A.units + 1 < cLine) : IxR X rDG := by
  intro value slice pins s σ H x y v u Q I rx ry h hs
  obtain ⟨a, z, ex, g, q⟩ := h
  subst ex
  obtain rfl : v = Value.ref a := rx
  have hT := dict_typeIs I g
  unfold subscriptTail
  refine wpAny_bind ?_
  rw [getitemInPython_of_ne hT.not_modules]
  refine wpAny_bind (wpAny_specialOf hT PySem.F.slot_dict_getitem.lookup ?_)
  have fin : wpAny (model X.prog X.w) X.A (subscripted slice false (.ref a) u) (fun r s₃ => wpAny (model X.prog X.w) X.A (letTemporaryGo value (.ref a) r >>= fun _ => pure r) (EP X pins σ Q) X.xe s₃) X.xe s := by
    rw [hs]
    exact wpAny_operating (wpAny_mono (d_getItem hu I g ry fun w' s3 I3 rw' => (⟨z, H, I3, rw', q⟩ : EP X pins σ Q w' s3)) (fun r s₃ h₃ => wpAny_bind (wpAny_letTemporaryGo (wpAny_pure h₃))) fun _ _ x => x)
  first
    | exact wpAny_pure (wpAny_bind fin)
    | exact wpAny_bind (wpAny_pure (wpAny_bind fin))
    | exact wpAny_bind fin
theorem ix_ok {K : PySem.W.Frag} {mg : Str × Bool → Option Value} {α : List Addr} {μ : Mem} {H : Hp} {x y d : D} {v u : V} {Q : VK} (S : Sim K mg α μ H) (rx : Rep K α H x v) (ry : Rep K α H y u) (h : subD x y μ = some d) (q : ∀ w, Rep K α H d w → Q w H) : rIx K v u H Q ∨ rDG v u H Q := by
  by_cases hnd : ∀ n, x = .ref n → (∀ kvs, μ[n]? ≠ some (.dic kvs)) ∧ ∀ lk kvs, μ[n]? ≠ some (.dct lk kvs)
  · exact .inl (ix_ok0 S rx ry hnd h q)
  · refine .inr ?_
    cases x with
    | ref n =>
      obtain ⟨a, ha, e⟩ := rep_ref rx
      simp only [subD] at h
      cases e1 : μ[n]? with
      | none => rw [e1] at h; cases h
      | some c =>
        rw [e1] at h
        cases c with
        | dic kvs =>
          dsimp only at h
          split at h
          · rename_i hk
            obtain ⟨k, ek⟩ := isKey_of hk
            obtain ⟨ws, g1, r1⟩ := S.cell n _ a e1 ha
            obtain ⟨z, g2, g3⟩ := r1.find key_inj ek h
            refine ⟨a, z, e, ?_, q z g3⟩
            rw [rep_key ek ry, ← g2]
            exact DGet.k g1
          · cases h
        | dct lk kvs =>
          dsimp only at h
          split at h
          · rename_i hk
            obtain ⟨k, ek⟩ := isKeyT_of hk
            obtain ⟨b, ev, eb⟩ := rep_keyT ek ry
            cases lk with
            | false =>
              obtain ⟨ws, g1, r1⟩ := S.cell n _ a e1 ha
              obtain ⟨z, g2, g3⟩ := r1.find keyT_inj ek h
              exact ⟨a, z, e, .inr ⟨ws, k, b, .inl g1, ev, eb, g2.symm⟩, q z g3⟩
            | true =>
              obtain ⟨o, ws, g1, r1⟩ := S.cell n _ a e1 ha
              obtain ⟨z, g2, g3⟩ := r1.find keyT_inj ek h
              exact ⟨a, z, e, .inr ⟨ws, k, b, .inr ⟨o, g1⟩, ev, eb, g2.symm⟩, q z g3⟩
          · cases h
        | _ =>
          refine absurd (fun m hm => ?_) hnd
          cases hm
          rw [e1]
          exact ⟨fun _ z => (nomatch z), fun _ _ z => (nomatch z)⟩
    | _ => exact absurd (fun m hm => nomatch hm) hnd
theorem me_sub (hu : X.A.units + 65 < cLine) (hs : noSlice b = true) (ha : PE X a (tE X.K cm ra W)) (hb : PE X b (tE X.K cm rb W)) :
    PE X (.Subscript a b pos) (tE X.K cm (fun ρ μ => (ra ρ μ).bind fun x μ1 => (rb ρ μ1).bind fun y μ2 => Res.ofO (subD x y μ2) μ2) W) :=
  me_op2 (f := fun x y μ2 => Res.ofO (subD x y μ2) μ2) (fun h1 h2 => pe_ix (ix_seq.or (ix_dget (by omega))) h1 h2 (plainIx hs)) ha hb fun α μ H x y v u Q w S rx ry q => by
    obtain ⟨d, e, q⟩ := Post.ofO q S
    exact ix_ok S rx ry e q
/-- l[i] of a list for one use -/
theorem LstAt.later {K : PySem.W.Frag} {mg : Str × Bool → Option Value} {α α' : List Addr} {μ : Mem} {H H' : Hp} {it : Its} {a : Addr} {vs : List V} (S : Sim K mg α μ H) (L : Later α H α' H') (l : LstAt K α H it a vs) (ho : it.own = []) : LstAt K α' H' it a vs := by
  obtain ⟨r, ⟨q, h1, h2⟩ | ⟨q, h1, h2, h3⟩ | ⟨q, h1, n, c, _, h2, _⟩⟩ := l
  · exact ⟨r.later S L, .inl ⟨S.tupKeepS L q, h1, h2⟩⟩
  · exact ⟨r.later S L, .inr (.inl ⟨L.keep a _ h1 q, L.new a _ h1 q, h2, h3⟩)⟩
  · rw [ho] at h2; cases h2
theorem me_subL (hs : noSlice b = true) (ha : PE X a (tL X.K cm rl W)) (hb : PE X b (tE X.K cm rb W)) :
    PE X (.Subscript a b pos) (tE X.K cm (fun ρ μ => (rl ρ μ).bind fun r μ1 => (rb ρ μ1).bind fun y μ2 => match r.own, y with
      | [], .int k => Res.ofO (atD r.ds k) μ2
      | _, _ => .bad) W) :=
  (pe_ix ix_seq ha hb (plainIx hs)).imp fun σ H Q ⟨α, μ, ρ, S, R, q⟩ => ⟨α, μ, ρ, S, R, q.then fun it μ1 α1 H1 L1 S1 p1 a vs l => ⟨α1, μ1, ρ, S1, R.later S L1, p1.then fun y μ2 α2 H2 L2 S2 p2 u ru => by
    cases ho : it.own with
    | cons c cs => rw [ho] at p2; exact p2.elim
    | nil =>
      rw [ho] at p2
      cases y with
      | int k =>
        obtain ⟨d, e, q2⟩ := Post.ofO (show Post X.K cm α2 H2 (okV X.K Q) _ (Res.ofO (atD it.ds k) μ2) from p2) S2
        have l2 := l.later S1 L2 ho
        obtain ⟨w, e2, r2⟩ := at_reps l2.1 e
        rw [rep_int ru]
        rcases l2.seq with ⟨_, z⟩ | ⟨_, z⟩
        · exact .inl ⟨a, vs, k, w, rfl, rfl, z, e2, q2 w r2⟩
        · exact .inr (.inl ⟨a, vs, k, w, rfl, rfl, z, e2, q2 w r2⟩)
      | _ => exact p2.elim⟩⟩
/-- x in l, l for one use -/
theorem in_lst {K : PySem.W.Frag} {α : List Addr} {H : Hp} {x : D} {v : V} {it : Its} {a : Addr} {vs : List V} (rx : Rep K α H x v) (l : LstAt K α H it a vs) (h : (pureD lev x && pureDs lev it.ds) = true) :
    Dp K H v (toPy x) ∧ SeqAt.shaped (toPy x) = true ∧ ((it.ds.any fun z => eqD z x) = (toPys it.ds).any fun z => PyData.eqv z (toPy x)) ∧ ((Dp K H (.ref a) (.list (toPys it.ds)) ∧ SeqAt.shaped (.list (toPys it.ds)) = true) ∨ (Dp K H (.ref a) (.tuple (toPys it.ds)) ∧ SeqAt.shaped (.tuple (toPys it.ds)) = true)) := by
  rw [Bool.and_eq_true] at h
  refine ⟨dp_of lev x v h.1 rx, shaped_toPy h.1, (any_toPys h.1 h.2).symm, ?_⟩
  rcases l.seq with ⟨_, z⟩ | ⟨_, z⟩
  · exact .inl ⟨.lst z (dps_of lev _ vs h.2 l.1), (shaped_toPys h.2).1⟩
  · exact .inr ⟨.tup z (dps_of lev _ vs h.2 l.1), (shaped_toPys h.2).2⟩
def rInL (neg : Bool) (ra : Env' → Mem → Res D) (rl : Env' → Mem → Res Its) : Env' → Mem → Res D := fun ρ μ => (ra ρ μ).bind fun x μ1 => (rl ρ μ1).bind fun r μ2 =>
      if pureD lev x && pureDs lev r.ds then .ok (.bl (xor neg (r.ds.any fun z => eqD z x))) μ2 else .bad
def inOp (neg : Bool) : CmpOp := if neg then .NotIn else .In
theorem inL_go {neg : Bool} (hu : X.A.units + 65 < cLine) : ∃ r, OpR X (compareOp (inOp neg)) r ∧ ∀ {α : List Addr} {H : Hp} {x : D} {v : V} {it : Its} {a : Addr} {vs : List V} {Q : VK}, Rep X.K α H x v → LstAt X.K α H it a vs → (pureD lev x && pureDs lev it.ds) = true →
    Q (.bl (xor neg (it.ds.any fun z => eqD z x))) H → r v (.ref a) H Q := by
  cases neg with
  | false =>
    refine ⟨_, (op_inD hu).or (op_inTD hu), fun rx l h q => ?_⟩
    obtain ⟨h1, h2, h3, h4⟩ := in_lst rx l h
    rw [h3, Bool.false_xor] at q
    rcases h4 with ⟨h4, h5⟩ | ⟨h4, h5⟩
    · exact .inl ⟨_, _, h1, h4, h2, h5, q⟩
    · exact .inr ⟨_, _, h1, h4, h2, h5, q⟩
  | true =>
    refine ⟨_, (op_notInD hu).or (op_notInTD hu), fun rx l h q => ?_⟩
    obtain ⟨h1, h2, h3, h4⟩ := in_lst rx l h
    rw [h3, Bool.true_xor] at q
    rcases h4 with ⟨h4, h5⟩ | ⟨h4, h5⟩
    · exact .inl ⟨_, _, h1, h4, h2, h5, q⟩
    · exact .inr ⟨_, _, h1, h4, h2, h5, q⟩
theorem me_inL {neg : Bool} (hu : X.A.units + 65 < cLine) (ha : PE X a (tE X.K cm ra W)) (hb : PE X b (tL X.K cm rl W)) (hm : behindInMarks (inOp neg) b = false) :
    PE X (.Compare a [inOp neg] [b] pos) (tE X.K cm (rInL neg ra rl) W) := by
  obtain ⟨r, ho, g⟩ := inL_go (neg := neg) hu
  refine (pe_cmpR ho ha hb hm).imp fun σ H Q ⟨α, μ, ρ, S, R, q⟩ => ?_
  unfold rInL at q
  exact ⟨α, μ, ρ, S, R, q.then fun x μ1 α1 H1 L1 S1 p1 v rv => ⟨α1, μ1, ρ, S1, R.later S L1, p1.then fun it μ2 α2 H2 L2 S2 p2 a vs l => by
    obtain ⟨hp, p3⟩ := Post.guard p2
    exact g (rv.later S1 L2) l hp (Post.here p3 S2 _ rep_mkB)⟩⟩
theorem mt_inL {neg : Bool} (hu : X.A.units + 65 < cLine) (ha : PE X a (tE X.K cm ra W)) (hb : PE X b (tL X.K cm rl W)) (hm : behindInMarks (inOp neg) b = false) :
    PT X (.Compare a [inOp neg] [b] pos) (tB X.K cm (rT (rInL neg ra rl)) W) := by
  obtain ⟨r, ho, g⟩ := inL_go (neg := neg) hu
  refine (pt_cmpR ho ha hb hm).imp fun σ H Q ⟨α, μ, ρ, S, R, q⟩ => ?_
  unfold rT rInL at q
  simp only [Res.bind_assoc] at q
  exact ⟨α, μ, ρ, S, R, q.then fun x μ1 α1 H1 L1 S1 p1 v rv => ⟨α1, μ1, ρ, S1, R.later S L1, p1.then fun it μ2 α2 H2 L2 S2 p2 a vs l => by
    by_cases hp : (pureD lev x && pureDs lev it.ds) = true
    · rw [if_pos hp] at p2
      exact g (rv.later S1 L2) l hp ⟨_, rfl, Post.here (show Post X.K cm α2 H2 _ _ (.ok _ μ2) from p2) S2⟩
    · rw [if_neg hp] at p2; exact p2.elim⟩⟩

/-! ### slices -/
theorem mo_no : PO X none (tOp' X.K cm (fun _ μ => .ok none μ) W) := po_none.imp fun σ H Q ⟨α, μ, ρ, S, R, q⟩ => Post.here q S
theorem mo_so (ha : PE X a (tE X.K cm ra W)) : PO X (some a) (tOp' X.K cm (fun ρ μ => (ra ρ μ).bind fun x μ1 => match x with
    | .int i => .ok (some i) μ1
    | _ => .bad) W) :=
  (po_some ha).imp fun σ H Q ⟨α, μ, ρ, S, R, q⟩ => ⟨α, μ, ρ, S, R, q.then fun x μ1 α1 H1 L1 S1 p1 v rv => by
    cases x with
    | int j => exact ⟨j, rep_int rv, Post.here p1 S1⟩
    | _ => exact p1.elim⟩
theorem cutIx_eq (n d : Nat) (o : Option Int) : cutIx n d o = HT.sIx n d o := by cases o <;> rfl
theorem cut_reps {K : PySem.W.Frag} {α : List Addr} {H : Hp} {ds : List D} {vs : List V} (r : Reps K α H ds vs) (lo hi : Option Int) : Reps K α H (cut ds lo hi) (cutV vs lo hi) := by
  unfold cut cutV
  rw [cutIx_eq, cutIx_eq, r.len]
  exact (r.drop _).take _
theorem cut_whole {ds : List D} {lo hi : Option Int} (h : HT.sIx ds.length 0 lo = 0 ∧ HT.sIx ds.length ds.length hi = ds.length) : cut ds lo hi = ds := by
  unfold cut
  rw [cutIx_eq, cutIx_eq, h.1, h.2]
  simp
variable {lo hi : Option Expr} {rlo rhi : Env' → Mem → Res (Option Int)}
theorem me_sl {p2 : Pos} (ha : PE X a (tE X.K cm ra W)) (hl : PO X lo (tOp' X.K cm rlo W)) (hh : PO X hi (tOp' X.K cm rhi W)) :
    PE X (.Subscript a (.Slice lo hi none p2) pos) (tE X.K cm (fun ρ μ => (ra ρ μ).bind fun x μ1 => (rlo ρ μ1).bind fun l μ2 => (rhi ρ μ2).bind fun h μ3 => slD x l h μ3) W) :=
  (pe_slice (sl_list.or sl_tupA) ha hl hh).imp fun σ H Q ⟨α, μ, ρ, S, R, q⟩ => ⟨α, μ, ρ, S, R, q.then fun x μ1 α1 H1 L1 S1 p1 v rv => ⟨α1, μ1, ρ, S1, R.later S L1, p1.then fun i μ2 α2 H2 L2 S2 p2 => ⟨α2, μ2, ρ, S2, (R.later S L1).later S1 L2, p2.then fun j μ3 α3 H3 L3 S3 p3 => by
    have rv3 := (rv.later S1 L2).later S2 L3
    cases x with
    | tup ds =>
      obtain ⟨a, vs, e, t, r⟩ := rep_tupS rv3
      subst e
      refine .inr ⟨a, vs, rfl, t.sq, fun hw => ?_, fun hw => ?_⟩
      · have p4 : Post X.K cm α3 H3 (okV X.K Q) _ (.ok (.tup (cut ds i j)) μ3) := p3
        rw [cut_whole (by rw [r.len]; exact hw)] at p4
        exact Post.tupAt p4 S3 r t
      · exact Post.tup (show Post X.K cm α3 H3 (okV X.K Q) _ (.ok (.tup (cut ds i j)) μ3) from p3) S3 (cut_reps r i j)
    | ref n =>
      obtain ⟨a, ha, e⟩ := rep_ref rv3
      subst e
      simp only [slD] at p3
      cases e3 : μ3[n]? with
      | none => rw [e3] at p3; exact p3.elim
      | some c =>
        rw [e3] at p3
        cases c with
        | lst ds =>
          obtain ⟨vs, h1, r1⟩ := S3.lstAt e3 ha
          exact .inl ⟨a, vs, rfl, SqL.of h1, Post.lst p3 S3 (cut_reps r1 i j)⟩
        | rol ds =>
          obtain ⟨o, vs, h1, r1⟩ := S3.rolAt e3 ha
          exact .inl ⟨a, vs, rfl, .inl (.inr ⟨o, h1⟩), Post.lst p3 S3 (cut_reps r1 i j)⟩
        | ins C fs => exact p3.elim
        | dic kvs => exact p3.elim
        | dct lk kvs => exact p3.elim
    | _ => exact p3.elim⟩⟩⟩
theorem me_rev {k : Nat} {p1 p2 p3 : Pos} (ha : PE X a (tE X.K cm ra W)) : PE X (.Subscript a (.Slice none none (some (.UnaryOp .USub (.Constant (.int 1) k p1) p2)) p3) pos) (tE X.K cm (fun ρ μ => (ra ρ μ).bind fun x μ1 => match x with
    | .ref n => match μ1[n]? with
      | some (.lst ds) => alloc (.lst ds.reverse) μ1
      | _ => .bad
    | .tup ds => .ok (.tup ds.reverse) μ1
    | _ => .bad) W) :=
  (pe_revA ha).imp fun σ H Q ⟨α, μ, ρ, S, R, q⟩ => ⟨α, μ, ρ, S, R, q.then fun x μ1 α1 H1 L1 S1 p1 v rv => by
    cases x with
    | ref n =>
      obtain ⟨a, ha, e⟩ := rep_ref rv
      cases e3 : μ1[n]? with
      | none => simp only [e3] at p1; exact p1.elim
      | some c =>
        simp only [e3] at p1
        cases c with
        | lst ds =>
          obtain ⟨vs, h1, r1⟩ := S1.lstAt e3 ha
          exact ⟨a, vs, e, .inl ⟨SqL.of h1, Post.lst p1 S1 r1.reverse⟩⟩
        | _ => exact p1.elim
    | tup ds =>
      obtain ⟨a, vs, e, t, r1⟩ := rep_tup rv
      exact ⟨a, vs, e, .inr ⟨t, Post.tup p1 S1 r1.reverse⟩⟩
    | _ => exact p1.elim⟩
end
end Mi
/-! MiE: enumerate of a tuple. -/
namespace PySem
open Sem (wp)
open AutoSeq1 (wpAny_loadPart')
theorem mi_enum_newT (l : Addr) (items : Array Value) (n : Nat) (dct : Option Addr) (sl : Array (Option Value)) :
    Meets (Builtin.«enumerate.__new__» ⟨[.type "enumerate", .ref l], []⟩) (fun _ R s => s.heap.get? l = some { cls := .type "tuple", dict := dct, data := .seq items n, slots := sl } ∧
      R (.ok (.ret (.ref (s.heap.push { cls := .type "tuple_iterator", data := .fields #[.ref l, .int 0 0] }).objs.size)))
        { s with heap := (s.heap.push { cls := .type "tuple_iterator", data := .fields #[.ref l, .int 0 0] }).push { cls := .type "enumerate", data := .fields #[.none, .bool false, .ref s.heap.objs.size, rawInt 0, .none, .none] } }) :=
  .of_wp fun prog w A R s h => by
    obtain ⟨hp, g, d, tk, os⟩ := s; obtain ⟨hl, h⟩ := h
    have hsub := sub_enumerate
    have hT : Heap.IsTuple (Shared.heap ⟨hp, g, d, tk, os⟩) l items := ⟨_, hl, rfl, n, rfl⟩
    wp_walk using wpAny_loadPart' hl
    refine wpAny_stack_any fun st => wpAny_pure ?_
    split
    · rename_i c _ _ _ _ _
      cases (c == Value.type "enumerate") <;>
      · wp_walk using wpAny_loadPart' hl, wpAny_pyIter_tuple hT
        exact ⟨_, rfl, h⟩
    · wp_walk using wpAny_loadPart' hl, wpAny_pyIter_tuple hT
      exact ⟨_, rfl, h⟩
section
variable {prog : Program} {w : World} {A : Around} {E : Value → Shared → Prop} {s : Shared}
theorem mi_call_enumT {l : Addr} {items : Array Value} {Q : Value → Shared → Prop} (hL : s.heap.IsTuple l items)
    (h : ∀ h', IsEnum h' (s.heap.objs.size + 1) s.heap.objs.size 0 .none → h'.IsTupleIter s.heap.objs.size l 0 → (∀ b o, s.heap.get? b = some o → h'.get? b = some o) → Q (.ref (s.heap.objs.size + 1)) { s with heap := h' }) :
    wpAny (model prog w) A (call (.type "enumerate") [.ref l]) Q E s := by
  obtain ⟨⟨c, dct, dt, sl⟩, hl, hc, n, hd⟩ := hL
  obtain rfl : c = .type "tuple" := hc
  obtain rfl : dt = .seq items n := hd
  refine callType_new F.called_enumerate (by decide) (F.typeCall_enumerate_1 _) (F.newCall_enumerate_1 _) (fun obj => F.args_object_init_2 obj _) F.entry_enumerate_new (mi_enum_newT l items n dct sl) ⟨hl, ?_⟩
  have hz : (s.heap.push { cls := .type "tuple_iterator", data := .fields #[.ref l, .int 0 0] }).objs.size = s.heap.objs.size + 1 := Heap.size_push ..
  show _ ∧ _
  rw [hz]
  have he : IsEnum ((s.heap.push { cls := .type "tuple_iterator", data := .fields #[.ref l, .int 0 0] }).push
      { cls := .type "enumerate", data := .fields #[.none, .bool false, .ref s.heap.objs.size, rawInt 0, .none, .none] }) (s.heap.objs.size + 1) s.heap.objs.size 0 .none := by
    have q := Heap.get?_push_size (s.heap.push { cls := .type "tuple_iterator", data := .fields #[.ref l, .int 0 0] }) (o := { cls := .type "enumerate", data := .fields #[.none, .bool false, .ref s.heap.objs.size, rawInt 0, .none, .none] }) rfl
    rw [hz] at q; exact q
  exact ⟨⟨_, he, rfl⟩, h _ he ⟨_, Heap.get?_push_of_some _ (Heap.get?_push_size _ rfl), rfl, rfl⟩ fun b o x => Heap.get?_push_of_some _ (Heap.get?_push_of_some _ x)⟩
theorem mi_enum_endT {e it t : Addr} {i : Nat} {items : Array Value} {old : Value} {Q : Option Value → Shared → Prop} (hh : A.handled = none) (he : IsEnum s.heap e it ((i : Nat) : Int) old) (hit : s.heap.IsTupleIter it t i) (ht : s.heap.IsTuple t items) (hx : items[i]? = none)
    (hQ : ∀ h', Heap.ExtBut it s.heap h' → Q none { s with heap := h' }) : wpAny (model prog w) A (pyNext (.ref e)) Q E s := by
  have hT : s.TypeIs (.ref e) "enumerate" := ⟨_, he, rfl⟩
  unfold pyNext
  refine wpAny_bind (wpAny_attempt (wpAny_callSpecial?_slot (name := Str.ofString "__next__") hT F.slot_enumerate_next (wpAny_call_entry F.slot_enumerate_next hT F.entry_enumerate_next ?_ (F.args_enumerate_next_1 _))))
  show wpAny _ _ (field (.ref e) 2 >>= _) _ _ _
  refine wpAny_bind (wpAny_field he rfl (x := .ref it) rfl (wpAny_bind (wpAny_nextOf_tuple_end hh hit ht hx fun h' x k hx' => ?_)))
  obtain ⟨o, ho, hc⟩ := hx'
  exact wpAny_bind (wpAny_isInstance (T := "StopIteration") (b := true) ⟨o, ho, hc⟩ isSubtype_stop (wpAny_pure (hQ _ k)))
end
end PySem
namespace Mi
open PySem PySem.Spec PyProof.Rows L2
/-- the tuple at a, each item in a new pair -/
def IteT (K : PySem.W.Frag) (a : Addr) : It :=
  ⟨fun i H => ∃ (xs : List V) (x : V), SqT K H a xs ∧ xs[i]? = some x, fun i H v H' => ∃ T x, v = .ref T ∧ H T = none ∧ H' = upd H T (.tup [.int (i : Nat), x]) ∧ ∀ xs, SqT K H a xs → xs[i]? = some x, fun i H => ∃ xs : List V, SqT K H a xs ∧ xs.length ≤ i⟩
theorem turn_enumT {P : Program} {w : World} {K : PySem.W.Frag} {elts : List Expr} {kk : Nat} {tpos : Pos} (a e it : Addr) :
    Turn P w K (.Tuple elts kk tpos) (IteT K a) [e, it] e (fun i h => (∃ old, IsEnum h e it ((i : Nat) : Int) old) ∧ h.IsTupleIter it a i ∧ e ≠ it ∧ a ≠ it ∧ e ≠ a) where
  mem := by simp
  obj := fun i h st b hb => by
    obtain ⟨⟨old, he⟩, ⟨o, ho, hc, hd⟩, _⟩ := st
    have e' : b = e ∨ b = it := by simpa using hb
    rcases e' with z | z
    · rw [z]; exact ⟨_, he, fun v q => nomatch q⟩
    · rw [z]; exact ⟨o, ho, fun v q => by rw [hd] at q; cases q⟩
  keep := fun i h h' st k => let ⟨⟨old, he⟩, hi, hne⟩ := st; ⟨⟨old, k e (by simp) _ he⟩, hi.at fun o q => k it (by simp) o q, hne⟩
  item := by
    intro X hP hw hK hc i pins s σ H E I hf st hg
    subst hP hw hK
    obtain ⟨⟨old, he⟩, hit, hne, hai, hea⟩ := st
    obtain ⟨xs, x, hq, hx⟩ := hg
    obtain ⟨its, rv, p, hz⟩ := I.tuple hq
    obtain ⟨u, hu, ru⟩ := rv.get hx
    have hel : e < s.heap.objs.size := Heap.lt_size he
    have hil : it < s.heap.objs.size := by obtain ⟨_, q, _⟩ := hit; exact Heap.lt_size q
    have hlt : i < its.toArray.size := by
      rw [List.size_toArray]
      exact (List.getElem?_eq_some_iff.mp hu).1
    have hcalm : X.A.in1.handled = none := I.ok.hd hc
    refine wpAny_pyNext_enum_itemD (Draws.tuple hcalm it a hai its.toArray) he ⟨hit, (show s.heap.IsTuple a its.toArray from p)⟩ hlt hne (by simp [hne, hea]) fun y h' tk hy ho hst' hT hsz hk => ?_
    have ey : y = u := by
      have hy' : its.toArray[i]? = some y := hy
      rw [List.getElem?_toArray, hu] at hy'
      exact (Option.some.inj hy').symm
    subst ey
    refine ⟨_, rfl, wpAny_letOwnedTupleGo_enum (s := { s with heap := h', toks := tk + 1 }) ho fun h'' he' sb => ?_⟩
    have hT2 : h''.get? s.heap.objs.size = some { cls := .type "tuple", data := .seq #[.int i tk, y] } := (sb.2 _ (Nat.ne_of_gt hel)).trans hT
    have new : ObjOk X.prog X.w (upd H s.heap.objs.size (.tup [.int (i : Nat), x])) h'' s.heap.objs.size (.tup [.int (i : Nat), x]) :=
      ⟨by show 2 ≤ sizeLine; decide, [.int i tk, y], .cons ⟨_, rfl⟩ (.cons ru .nil), ⟨_, hT2, rfl, _, rfl⟩⟩
    have I1 : Inv X pins σ (upd H s.heap.objs.size (.tup [.int (i : Nat), x])) { s with heap := h'', toks := tk + 1 } :=
      I.turnedNew (ch := [e, it]) (fun b ob hb q => (sb.2 b (fun z => hb (by simp [z]))).trans (hk b ob (fun z => hb (by simp [z])) (fun z => hb (by simp [z])) q)) hf (Nat.le_refl _) new
    refine ⟨.ref s.heap.objs.size, _, I1, rfl, ⟨_, x, rfl, I.hok.fresh (Nat.le_refl _), rfl, fun ys hys => by rw [I.tuple_inj hys hq]; exact hx⟩, ⟨⟨y, ?_⟩, hst'.1.at fun o q => (sb.2 it (Ne.symm hne)).trans q, hne, hai, hea⟩, fun b hb => ?_⟩
    · have e1 : ((i + 1 : Nat) : Int) = (i : Int) + 1 := by omega
      rw [e1]; exact he'
    · have hb' : b < s.heap.objs.size := by
        have e' : b = e ∨ b = it := by simpa using hb
        rcases e' with z | z
        · rw [z]; exact hel
        · rw [z]; exact hil
      rw [upd_ne (Nat.ne_of_lt hb')]
      exact (hf b hb).1
  done := by
    intro X hP hw hK hc i pins s σ H E I hf st hg
    subst hP hw hK
    obtain ⟨⟨old, he⟩, hit, hne, hai, hea⟩ := st
    obtain ⟨xs, hq, hx⟩ := hg
    obtain ⟨its, rv, p, hz⟩ := I.tuple hq
    obtain ⟨f0, f1, f2, f3, f4, f5⟩ := hf it (by simp)
    have hcalm : X.A.in1.handled = none := I.ok.hd hc
    have hl := rv.length
    exact mi_enum_endT hcalm he hit (show s.heap.IsTuple a its.toArray from p) (by rw [List.getElem?_toArray]; exact List.getElem?_eq_none (by omega)) fun h' eb => ⟨rfl, I.turned (t' := s.toks) (fun b o hb q => eb b o hb q) f0 f1 f3 f4 f5⟩
  self := fun A i s Q E st h => let ⟨⟨_, he⟩, _⟩ := st; wpAny_pyIter_enum he h
def iEnumT (K : PySem.W.Frag) (ta : TA) : TI := fun σ H R => ta σ H fun vs H1 => ∃ a xs, vs = [.ref a] ∧ SqT K H1 a xs ∧ R (IteT K a) H1
theorem pi_enumT {X : Cx} {e : Expr} {ta : TA} {p pos tpos : Pos} {elts : List Expr} {kk : Nat} (hg : Gl X "enumerate") (hm : X.mg "enumerate" = none) (ha : PA X [e] ta) (hs : starEach [e] X.env = [(false, eval e X.env)]) :
    PI X (.Tuple elts kk tpos) (.Call (.Name "enumerate" p) [e] [] pos) (iEnumT X.K ta) := by
  refine ⟨fun pins s σ H R I h => ?_⟩
  refine Call_ (ld_blt I hg hm boot_enumerate (callWith_type1 (thn (ha.run pos pins s σ H _ I h) fun us s1 ⟨vs, H1, I1, r1, q1⟩ => ?_) hs rfl))
  obtain ⟨a, xs, ex, hq, q⟩ := q1
  subst ex
  cases r1 with
  | cons r rr =>
    cases rr
    cases r
    obtain ⟨its, rv, p', hz⟩ := I1.tuple hq
    have hal : a < s1.heap.objs.size := (show IsTup s1.heap a its.toArray from p').lt
    refine mi_call_enumT (show s1.heap.IsTuple a its.toArray from p') fun h' he hit hk => wpAny_pyIter_enum he ?_
    have I2 : Inv X pins σ H1 { s1 with heap := h' } := I1.kept (t' := s1.toks) hk
    refine ⟨s1.heap.objs.size + 1, [s1.heap.objs.size + 1, s1.heap.objs.size], _, _, H1, rfl, I2, turn_enumT a (s1.heap.objs.size + 1) s1.heap.objs.size, ⟨⟨.none, he⟩, hit, Nat.succ_ne_self _, Nat.ne_of_lt hal, Nat.ne_of_gt (Nat.lt_succ_of_lt hal)⟩, fun b hb => ?_, q⟩
    have e' : b = s1.heap.objs.size + 1 ∨ b = s1.heap.objs.size := by simpa using hb
    have hle : s1.heap.objs.size ≤ b := by
      rcases e' with z | z
      · exact z ▸ Nat.le_succ _
      · exact z ▸ Nat.le_refl _
    exact I1.fpOk hle (I1.hok.fresh hle)
end Mi
/-! Mi6: targets, what is walked, comprehensions, statements. -/
namespace Mi
open PySem L2

section
variable {K : PySem.W.Frag} {cm : Str × Bool → Option Value} {α α' : List Addr} {H H' : Hp} {μ : Mem}

/-! ### targets -/
theorem RepE.set {ρ : Env'} {σ : St} {d : D} {v : V} (R : RepE K α H ρ σ) (r : Rep K α H d v) (i : Nat) : RepE K α H (setE ρ i d) (σ.set i (some v)) := by
  refine ⟨by simp [setE, R.len], fun j x h => ?_⟩
  unfold setE at h
  by_cases e : i = j
  · subst e
    have hl : i < ρ.length := by
      by_cases hl : i < ρ.length
      · exact hl
      · rw [List.getElem?_eq_none (by simp; omega)] at h; cases h
    rw [List.getElem?_set_self hl] at h
    cases h
    exact ⟨v, by rw [List.getElem?_set_self (by rw [← R.len]; exact hl)], r⟩
  · rw [List.getElem?_set_ne e] at h
    rw [List.getElem?_set_ne e]
    exact R.val j x h
theorem RepE.wipe {ρ : Env'} {σ : St} (R : RepE K α H ρ σ) : ∀ vs : List Nat, RepE K α H (wipeE ρ vs) (wipe σ vs)
  | [] => R
  | v :: vs => by
    have q := RepE.wipe R vs
    refine ⟨by simp [wipeE, L2.wipe, q.len], fun j x h => ?_⟩
    unfold wipeE at h
    unfold L2.wipe
    by_cases e : v = j
    · subst e
      exfalso
      by_cases hl : v < (wipeE ρ vs).length
      · rw [List.getElem?_set_self hl] at h; cases h
      · rw [List.getElem?_eq_none (by simp; omega)] at h; cases h
    · rw [List.getElem?_set_ne e] at h
      rw [List.getElem?_set_ne e]
      exact q.val j x h
theorem seq_of {d : D} {v : V} {ds : List D} (S : Sim K cm α μ H) (r : Rep K α H d v) (h : seqOf d μ = some ds) : ∃ a vs, v = .ref a ∧ Reps K α H ds vs ∧ (SqL K H a vs ∨ SqT K H a vs) := by
  cases d with
  | tup es =>
    simp only [seqOf] at h; cases h
    obtain ⟨a, vs, e, t, q⟩ := rep_tup r
    exact ⟨a, vs, e, q, .inr t⟩
  | ref n =>
    obtain ⟨a, ha, e⟩ := rep_ref r
    simp only [seqOf] at h
    cases q : μ[n]? with
    | none => rw [q] at h; cases h
    | some c =>
      rw [q] at h
      cases c with
      | lst es => cases h; obtain ⟨vs, h1, r1⟩ := S.lstAt q ha; exact ⟨a, vs, e, r1, .inl (SqL.of h1)⟩
      | rol es => cases h; obtain ⟨o, vs, h1, r1⟩ := S.rolAt q ha; exact ⟨a, vs, e, r1, .inl (.inl (.inr ⟨o, h1⟩))⟩
      | _ => cases h
  | _ => cases h
end

/-- the reading of a target -/
def gNames : List Nat → TGs
  | [] => gNil
  | i :: is => gCons (gName i) (gNames is)
def gTg (K : PySem.W.Frag) : Tg → TG
  | .nm i => gName i
  | .tp is => fun v σ H Q => gTup K is.length (gNames is) v σ H Q ∨ gLst K is.length (gNames is) v σ H Q
/-- the store into a target keeps all but its names -/
theorem wipe_set {σ : St} {o : Option V} {i : Nat} : ∀ {vs : List Nat}, i ∈ vs → wipe (σ.set i o) vs = wipe σ vs
  | [], h => by cases h
  | v :: vs, h => by
    unfold wipe
    by_cases e : i ∈ vs
    · rw [wipe_set e]
    · rcases List.mem_cons.mp h with q | q
      · subst q
        have key : ∀ {ws : List Nat}, i ∉ ws → wipe (σ.set i o) ws = (wipe σ ws).set i o := fun {ws} => by
          induction ws with
          | nil => intro _; rfl
          | cons w ws ih =>
            intro hn
            unfold wipe
            rw [ih (fun z => hn (List.mem_cons_of_mem _ z)), List.set_comm]
            intro e; exact hn (by rw [e]; exact List.mem_cons_self)
        rw [key e, List.set_set]
      · exact absurd q e

def Tg.is : Tg → List Nat
  | .nm i => [i]
  | .tp is => is
/-- all but the names at vs is as it was -/
def SameBut' (is : List Nat) (σ σ' : St) : Prop := ∀ vs : List Nat, (∀ i ∈ is, i ∈ vs) → wipe σ' vs = wipe σ vs
theorem names_go {K : PySem.W.Frag} {α : List Addr} {H : Hp} {Q : St → Hp → Prop} : ∀ {is : List Nat} {ds : List D} {vs : List V} {ρ ρ' : Env'} {σ : St}, setEs ρ is ds = some ρ' → RepE K α H ρ σ → Reps K α H ds vs →
    (∀ σ', RepE K α H ρ' σ' → SameBut' is σ σ' → Q σ' H) → gNames is vs σ H Q ∧ vs.length = is.length
  | [], [], vs, ρ, ρ', σ, h, R, r, q => by
    simp only [setEs] at h; cases h
    simp only [Reps] at r; subst r
    exact ⟨⟨rfl, q σ R fun _ _ => rfl⟩, rfl⟩
  | [], d :: ds, _, _, _, _, h, _, _, _ => by simp [setEs] at h
  | i :: is, [], _, _, _, _, h, _, _, _ => by simp [setEs] at h
  | i :: is, d :: ds, vs, ρ, ρ', σ, h, R, r, q => by
    simp only [setEs] at h
    simp only [Reps] at r
    obtain ⟨v, rr, e, r1, r2⟩ := r
    subst e
    obtain ⟨h1, h2⟩ := names_go (Q := Q) h (R.set r1 i) r2 fun σ' R' sb => q σ' R' fun vs hv => by
      rw [sb vs fun j hj => hv j (List.mem_cons_of_mem _ hj), wipe_set (hv i List.mem_cons_self)]
    exact ⟨⟨v, rr, rfl, h1⟩, by simp [h2]⟩
theorem tg_go {K : PySem.W.Frag} {cm : Str × Bool → Option Value} {α : List Addr} {μ : Mem} {H : Hp} {Q : St → Hp → Prop} {tg : Tg} {d : D} {v : V} {ρ ρ' : Env'} {σ : St} (S : Sim K cm α μ H) (h : asgn tg d ρ μ = some ρ') (R : RepE K α H ρ σ) (r : Rep K α H d v)
    (q : ∀ σ', RepE K α H ρ' σ' → SameBut' tg.is σ σ' → Q σ' H) : gTg K tg v σ H Q := by
  cases tg with
  | nm i =>
    simp only [asgn] at h; cases h
    exact q _ (R.set r i) fun vs hv => wipe_set (hv i (by simp [Tg.is]))
  | tp is =>
    simp only [asgn] at h
    cases e : seqOf d μ with
    | none => rw [e] at h; cases h
    | some ds =>
      rw [e] at h
      obtain ⟨a, vs, e1, r1, t⟩ := seq_of S r e
      obtain ⟨h1, h2⟩ := names_go (Q := Q) h R r1 q
      rcases t with t | t
      · exact .inr ⟨a, vs, e1, t, h2, h1⟩
      · exact .inl ⟨a, vs, e1, t, h2, h1⟩
/-! ### what is walked -/
/-- J walks the items of it, from where it stood at α₀, H₀ on -/
structure WalkM (K : PySem.W.Frag) (cm : Str × Bool → Option Value) (α₀ : List Addr) (H₀ : Hp) (it : Its) (J : It) : Prop where
  go : ∀ i α μ H, Later α₀ H₀ α H → Sim K cm α μ H → chk it.own μ = true → i < it.ds.length → J.go i H
  yld : ∀ i α μ H x H', Later α₀ H₀ α H → Sim K cm α μ H → chk it.own μ = true → i < it.ds.length → J.yld i H x H' → ∃ d, it.ds[i]? = some d ∧ Later α H α H' ∧ Sim K cm α μ H' ∧ Rep K α H' d x
  stop : ∀ i α μ H, Later α₀ H₀ α H → Sim K cm α μ H → chk it.own μ = true → it.ds.length ≤ i → J.stop i H
def tI (K : PySem.W.Frag) (cm : Str × Bool → Option Value) (r : Env' → Mem → Res Its) (W : WX) : TI := fun σ H R => ∃ α μ ρ, Sim K cm α μ H ∧ RepE K α H ρ σ ∧ Post K cm α H (fun it _ α' H' => ∀ J, WalkM K cm α' H' it J → R J H') (fun c d H' => W c d σ H') (r ρ μ)
theorem chk_one {n : Nat} {c : Cell} {μ : Mem} (h : chk [(n, c)] μ = true) : (∀ ds, c = .lst ds → μ[n]? = some (.lst ds)) ∧ (∀ ds, c = .rol ds → μ[n]? = some (.rol ds)) := by
  unfold chk at h
  simp only [List.all_cons, List.all_nil, Bool.and_true] at h
  refine ⟨fun ds e => ?_, fun ds e => ?_⟩
  · subst e
    cases q : μ[n]? with
    | none => rw [q] at h; cases h
    | some c => rw [q] at h; cases c <;> simp at h; rw [h]
  · subst e
    cases q : μ[n]? with
    | none => rw [q] at h; cases h
    | some c => rw [q] at h; cases c <;> simp at h; rw [h]
/-- what stands where a list is walked, at any later time -/
theorem lst_later {K : PySem.W.Frag} {cm : Str × Bool → Option Value} {α₀ α : List Addr} {H₀ H : Hp} {μ₀ μ : Mem} {it : Its} {a : Addr} {vs : List V} (S₀ : Sim K cm α₀ μ₀ H₀) (l : LstAt K α₀ H₀ it a vs) (ht : it.tup = false) (L : Later α₀ H₀ α H) (S : Sim K cm α μ H) (hc : chk it.own μ = true) :
    ∃ ws, SqL K H a ws ∧ Reps K α H it.ds ws := by
  obtain ⟨r, ⟨_, _, q⟩ | ⟨q, h1, h2, h3⟩ | ⟨q, h1, n, c, ha, h2, h3⟩⟩ := l
  · rw [ht] at q; cases q
  · exact ⟨vs, SqL.of (L.keep a _ h1 q), r.later S₀ L⟩
  · rw [h2] at hc
    obtain ⟨c1, c2⟩ := chk_one hc
    rcases h3 with e | e
    · obtain ⟨ws, g1, g2⟩ := S.lstAt (c1 _ e) (L.get ha)
      exact ⟨ws, SqL.of g1, g2⟩
    · obtain ⟨o, ws, g1, g2⟩ := S.rolAt (c2 _ e) (L.get ha)
      exact ⟨ws, .inl (.inr ⟨o, g1⟩), g2⟩
theorem get_at {α : Type} {xs : List α} {i : Nat} (h : i < xs.length) : ∃ x, xs[i]? = some x := ⟨xs[i], List.getElem?_eq_getElem h⟩
theorem walkM_list {K : PySem.W.Frag} {cm : Str × Bool → Option Value} {α₀ : List Addr} {H₀ : Hp} {μ₀ : Mem} {it : Its} {a : Addr} {vs : List V} (S₀ : Sim K cm α₀ μ₀ H₀) (l : LstAt K α₀ H₀ it a vs) (ht : it.tup = false) : WalkM K cm α₀ H₀ it (Itl K a) where
  go := fun i α μ H L S hc hi => by
    obtain ⟨ws, h1, h2⟩ := lst_later S₀ l ht L S hc
    obtain ⟨x, hx⟩ := get_at (xs := ws) (by rw [← h2.len]; exact hi)
    exact ⟨ws, x, h1, hx⟩
  yld := fun i α μ H x H' L S hc hi y => by
    obtain ⟨ws, h1, h2⟩ := lst_later S₀ l ht L S hc
    obtain ⟨e, y⟩ := y
    subst e
    obtain ⟨d, e1, r⟩ := h2.at (y ws h1)
    exact ⟨d, e1, Later.refl _ _, S, r⟩
  stop := fun i α μ H L S hc hi => by
    obtain ⟨ws, h1, h2⟩ := lst_later S₀ l ht L S hc
    exact ⟨ws, h1, by rw [← h2.len]; exact hi⟩
theorem LstAt.tup {K : PySem.W.Frag} {α : List Addr} {H : Hp} {it : Its} {a : Addr} {vs : List V} (l : LstAt K α H it a vs) (h : it.tup = true) : SqT K H a vs := by
  rcases l.seq with ⟨q, _⟩ | ⟨_, q⟩
  · rw [h] at q; cases q
  · exact q
/-- two readings of one tuple place agree as data lists do: only Inv tells; here the tuple itself is carried -/
theorem walkM_tup {K : PySem.W.Frag} {cm : Str × Bool → Option Value} {α₀ : List Addr} {H₀ : Hp} {μ₀ : Mem} {it : Its} {a : Addr} {vs : List V} (S₀ : Sim K cm α₀ μ₀ H₀) (l : LstAt K α₀ H₀ it a vs) (ht : it.tup = true) : WalkM K cm α₀ H₀ it (Itt K a) where
  go := fun i α μ H L S hc hi => by
    obtain ⟨x, hx⟩ := get_at (xs := vs) (by rw [← l.1.len]; exact hi)
    exact ⟨vs, x, S₀.tupKeep L (l.tup ht), hx⟩
  yld := fun i α μ H x H' L S hc hi y => by
    obtain ⟨e, y⟩ := y
    subst e
    have r := l.1.later S₀ L
    obtain ⟨d, e1, r1⟩ := r.at (y vs (S₀.tupKeep L (l.tup ht)))
    exact ⟨d, e1, Later.refl _ _, S, r1⟩
  stop := fun i α μ H L S hc hi => ⟨vs, S₀.tupKeep L (l.tup ht), by rw [← l.1.len]; exact hi⟩
theorem rngD_get {lo : Int} {n i : Nat} (h : i < n) : (rngD lo n)[i]? = some (.int (lo + (i : Nat))) := by
  unfold rngD
  rw [List.getElem?_map, List.getElem?_range h]; rfl
theorem rngD_len (lo : Int) (n : Nat) : (rngD lo n).length = n := by simp [rngD]
theorem walkM_range {K : PySem.W.Frag} {cm : Str × Bool → Option Value} {α₀ : List Addr} {H₀ : Hp} (lo : Int) (n : Nat) : WalkM K cm α₀ H₀ ⟨rngD lo n, [], false⟩ (Itr lo n) where
  go := fun i α μ H L S hc hi => by
    have hi : i < (rngD lo n).length := hi
    rw [rngD_len] at hi
    exact hi
  yld := fun i α μ H x H' L S hc hi y => by
    have hi : i < (rngD lo n).length := hi
    rw [rngD_len] at hi
    obtain ⟨e, y⟩ := y
    subst e; subst y
    exact ⟨_, rngD_get hi, Later.refl _ _, S, rep_mkI⟩
  stop := fun i α μ H L S hc hi => by
    have hi : (rngD lo n).length ≤ i := hi
    rw [rngD_len] at hi
    exact hi
theorem enumD_get : ∀ (k : Nat) (ds : List D) (i : Nat), (enumD k ds)[i]? = (ds[i]?).map fun d => .tup [.int ((k + i : Nat) : Int), d]
  | _, [], i => by simp [enumD]
  | k, d :: ds, 0 => by simp [enumD]
  | k, d :: ds, i + 1 => by
    simp only [enumD, List.getElem?_cons_succ]
    rw [enumD_get (k + 1) ds i]
    have e : k + 1 + i = k + (i + 1) := by omega
    rw [e]
theorem enumD_len : ∀ (k : Nat) (ds : List D), (enumD k ds).length = ds.length
  | _, [] => rfl
  | k, d :: ds => by simp [enumD, enumD_len (k + 1) ds]
/-- a new pair -/
theorem pair_rep {K : PySem.W.Frag} {cm : Str × Bool → Option Value} {α : List Addr} {H : Hp} {μ : Mem} {T : Addr} {x y : D} {v u : V} (S : Sim K cm α μ H) (hT : H T = none) (r1 : Rep K α H x v) (r2 : Rep K α H y u) :
    Later α H α (upd H T (.tup [v, u])) ∧ Sim K cm α μ (upd H T (.tup [v, u])) ∧ Rep K α (upd H T (.tup [v, u])) (.tup [x, y]) (.ref T) := by
  obtain ⟨S', L⟩ := S.lay (o := .tup [v, u]) hT
  refine ⟨L, S', ?_⟩
  simp only [Rep]
  refine ⟨T, [v, u], rfl, .inl upd_same, ?_⟩
  simp only [Reps]
  exact ⟨v, [u], rfl, r1.later S L, u, [], rfl, r2.later S L, rfl⟩
theorem walkM_enum {K : PySem.W.Frag} {cm : Str × Bool → Option Value} {α₀ : List Addr} {H₀ : Hp} {μ₀ : Mem} {it : Its} {a : Addr} {vs : List V} (S₀ : Sim K cm α₀ μ₀ H₀) (l : LstAt K α₀ H₀ it a vs) (ht : it.tup = false) : WalkM K cm α₀ H₀ ⟨enumD 0 it.ds, it.own, false⟩ (Ite K a) where
  go := fun i α μ H L S hc hi => by
    obtain ⟨ws, h1, h2⟩ := lst_later S₀ l ht L S hc
    have hi : i < (enumD 0 it.ds).length := hi
    rw [enumD_len] at hi
    obtain ⟨x, hx⟩ := get_at (xs := ws) (by rw [← h2.len]; exact hi)
    exact ⟨ws, x, h1, hx⟩
  yld := fun i α μ H x H' L S hc hi y => by
    obtain ⟨ws, h1, h2⟩ := lst_later S₀ l ht L S hc
    obtain ⟨T, x1, e, hT, e2, y⟩ := y
    subst e; subst e2
    obtain ⟨d, e1, r⟩ := h2.at (y ws h1)
    obtain ⟨L2, S2, R2⟩ := pair_rep (x := .int (i : Nat)) S hT rep_mkI r
    exact ⟨_, (by show (enumD 0 it.ds)[i]? = _; rw [enumD_get, e1]; simp), L2, S2, R2⟩
  stop := fun i α μ H L S hc hi => by
    obtain ⟨ws, h1, h2⟩ := lst_later S₀ l ht L S hc
    have hi : (enumD 0 it.ds).length ≤ i := hi
    rw [enumD_len] at hi
    exact ⟨ws, h1, by rw [← h2.len]; exact hi⟩
theorem walkM_rev {K : PySem.W.Frag} {cm : Str × Bool → Option Value} {α₀ : List Addr} {H₀ : Hp} {μ₀ : Mem} {it : Its} {a : Addr} {vs : List V} (S₀ : Sim K cm α₀ μ₀ H₀) (l : LstAt K α₀ H₀ it a vs) (ht : it.tup = false) : WalkM K cm α₀ H₀ ⟨it.ds.reverse, it.own, false⟩ (Itv K a vs.length) where
  go := fun i α μ H L S hc hi => by
    obtain ⟨ws, h1, h2⟩ := lst_later S₀ l ht L S hc
    have hi : i < it.ds.reverse.length := hi
    rw [List.length_reverse, l.1.len] at hi
    have hl : ws.length = vs.length := by rw [← h2.len, l.1.len]
    obtain ⟨x, hx⟩ := get_at (xs := ws) (i := vs.length - 1 - i) (by omega)
    exact ⟨hi, ws, x, h1, hx⟩
  yld := fun i α μ H x H' L S hc hi y => by
    obtain ⟨ws, h1, h2⟩ := lst_later S₀ l ht L S hc
    have hi : i < it.ds.reverse.length := hi
    rw [List.length_reverse] at hi
    obtain ⟨e, y⟩ := y
    subst e
    obtain ⟨d, e1, r⟩ := h2.at (y ws h1)
    refine ⟨d, ?_, Later.refl _ _, S, r⟩
    show it.ds.reverse[i]? = _
    rw [List.getElem?_reverse hi, l.1.len]
    exact e1
  stop := fun i α μ H L S hc hi => by
    have hi : it.ds.reverse.length ≤ i := hi
    rw [List.length_reverse, l.1.len] at hi
    exact hi
theorem walkM_revT {K : PySem.W.Frag} {cm : Str × Bool → Option Value} {α₀ : List Addr} {H₀ : Hp} {μ₀ : Mem} {it : Its} {a : Addr} {vs : List V} (S₀ : Sim K cm α₀ μ₀ H₀) (l : LstAt K α₀ H₀ it a vs) (ht : it.tup = true) : WalkM K cm α₀ H₀ ⟨it.ds.reverse, it.own, false⟩ (RT.ItvT K a vs.length) where
  go := fun i α μ H L S hc hi => by
    have hi : i < it.ds.reverse.length := hi
    rw [List.length_reverse, l.1.len] at hi
    obtain ⟨x, hx⟩ := get_at (xs := vs) (i := vs.length - 1 - i) (by omega)
    exact ⟨hi, vs, x, S₀.tupKeep L (l.tup ht), hx⟩
  yld := fun i α μ H x H' L S hc hi y => by
    have hi : i < it.ds.reverse.length := hi
    rw [List.length_reverse] at hi
    obtain ⟨e, y⟩ := y
    subst e
    obtain ⟨d, e1, r⟩ := (l.1.later S₀ L).at (y vs (S₀.tupKeep L (l.tup ht)))
    refine ⟨d, ?_, Later.refl _ _, S, r⟩
    show it.ds.reverse[i]? = _
    rw [List.getElem?_reverse hi, l.1.len]
    exact e1
  stop := fun i α μ H L S hc hi => by
    have hi : it.ds.reverse.length ≤ i := hi
    rw [List.length_reverse, l.1.len] at hi
    exact hi
theorem zipD_get : ∀ (xs ys : List D) (i : Nat), (zipD xs ys)[i]? = match xs[i]?, ys[i]? with
    | some x, some y => some (.tup [x, y])
    | _, _ => none
  | [], _, i => by simp [zipD]
  | x :: xs, [], i => by
    cases i with
    | zero => simp [zipD]
    | succ j =>
      simp only [zipD, List.getElem?_cons_succ, List.getElem?_nil]
      cases xs[j]? <;> rfl
  | x :: xs, y :: ys, 0 => by simp [zipD]
  | x :: xs, y :: ys, i + 1 => by simp only [zipD, List.getElem?_cons_succ]; exact zipD_get xs ys i
theorem zipD_len : ∀ (xs ys : List D), (zipD xs ys).length = min xs.length ys.length
  | [], _ => by simp [zipD]
  | x :: xs, [] => by simp [zipD]
  | x :: xs, y :: ys => by simp only [zipD, List.length_cons, zipD_len xs ys]; omega
theorem chk_append {a b : List (Nat × Cell)} {μ : Mem} (h : chk (a ++ b) μ = true) : chk a μ = true ∧ chk b μ = true := by
  unfold chk at h ⊢
  rw [List.all_append, Bool.and_eq_true] at h
  exact h
theorem walkM_zip {K : PySem.W.Frag} {cm : Str × Bool → Option Value} {α₀ α₁ : List Addr} {H₀ H₁ : Hp} {μ₀ μ₁ : Mem} {it it2 : Its} {a b : Addr} {vs us : List V} (S₀ : Sim K cm α₀ μ₀ H₀) (l : LstAt K α₀ H₀ it a vs) (L01 : Later α₀ H₀ α₁ H₁) (S₁ : Sim K cm α₁ μ₁ H₁) (l2 : LstAt K α₁ H₁ it2 b us) (ht : it.tup = false) (ht2 : it2.tup = false) :
    WalkM K cm α₁ H₁ ⟨zipD it.ds it2.ds, it.own ++ it2.own, false⟩ (Itz K a b) where
  go := fun i α μ H L S hc hi => by
    obtain ⟨c1, c2⟩ := chk_append hc
    obtain ⟨ws, h1, h2⟩ := lst_later S₀ l ht (L01.trans L) S c1
    obtain ⟨ts, g1, g2⟩ := lst_later S₁ l2 ht2 L S c2
    have hi : i < (zipD it.ds it2.ds).length := hi
    rw [zipD_len] at hi
    have := h2.len; have := g2.len
    obtain ⟨x, hx⟩ := get_at (xs := ws) (i := i) (by omega)
    obtain ⟨y, hy⟩ := get_at (xs := ts) (i := i) (by omega)
    exact ⟨ws, ts, x, y, h1, g1, hx, hy⟩
  yld := fun i α μ H x H' L S hc hi y => by
    obtain ⟨c1, c2⟩ := chk_append hc
    obtain ⟨ws, h1, h2⟩ := lst_later S₀ l ht (L01.trans L) S c1
    obtain ⟨ts, g1, g2⟩ := lst_later S₁ l2 ht2 L S c2
    obtain ⟨T, x1, y1, e, hT, e2, q1, q2⟩ := y
    subst e; subst e2
    obtain ⟨d, e1, r⟩ := h2.at (q1 ws h1)
    obtain ⟨d2, e3, r3⟩ := g2.at (q2 ts g1)
    obtain ⟨L2, S2, R2⟩ := pair_rep S hT r r3
    exact ⟨_, (by show (zipD it.ds it2.ds)[i]? = _; rw [zipD_get, e1, e3]), L2, S2, R2⟩
  stop := fun i α μ H L S hc hi => by
    obtain ⟨c1, c2⟩ := chk_append hc
    obtain ⟨ws, h1, h2⟩ := lst_later S₀ l ht (L01.trans L) S c1
    obtain ⟨ts, g1, g2⟩ := lst_later S₁ l2 ht2 L S c2
    have hi : (zipD it.ds it2.ds).length ≤ i := hi
    rw [zipD_len] at hi
    have := h2.len; have := g2.len
    exact ⟨ws, ts, h1, g1, by omega⟩
theorem walkM_zipT {K : PySem.W.Frag} {cm : Str × Bool → Option Value} {α₀ α₁ : List Addr} {H₀ H₁ : Hp} {μ₀ μ₁ : Mem} {it it2 : Its} {a b : Addr} {vs us : List V} (S₀ : Sim K cm α₀ μ₀ H₀) (l : LstAt K α₀ H₀ it a vs) (L01 : Later α₀ H₀ α₁ H₁) (S₁ : Sim K cm α₁ μ₁ H₁) (l2 : LstAt K α₁ H₁ it2 b us) (ht : it.tup = true) (ht2 : it2.tup = true) :
    WalkM K cm α₁ H₁ ⟨zipD it.ds it2.ds, it.own ++ it2.own, false⟩ (RZ.ItzT K a b) where
  go := fun i α μ H L S hc hi => by
    have hi : i < (zipD it.ds it2.ds).length := hi
    rw [zipD_len] at hi
    have := l.1.len; have := l2.1.len
    obtain ⟨x, hx⟩ := get_at (xs := vs) (i := i) (by omega)
    obtain ⟨y, hy⟩ := get_at (xs := us) (i := i) (by omega)
    exact ⟨vs, us, x, y, S₀.tupKeep (L01.trans L) (l.tup ht), S₁.tupKeep L (l2.tup ht2), hx, hy⟩
  yld := fun i α μ H x H' L S hc hi y => by
    obtain ⟨T, x1, y1, e, hT, e2, q1, q2⟩ := y
    subst e; subst e2
    obtain ⟨d, e1, r⟩ := (l.1.later S₀ (L01.trans L)).at (q1 vs (S₀.tupKeep (L01.trans L) (l.tup ht)))
    obtain ⟨d2, e3, r3⟩ := (l2.1.later S₁ L).at (q2 us (S₁.tupKeep L (l2.tup ht2)))
    obtain ⟨L2, S2, R2⟩ := pair_rep S hT r r3
    exact ⟨_, (by show (zipD it.ds it2.ds)[i]? = _; rw [zipD_get, e1, e3]), L2, S2, R2⟩
  stop := fun i α μ H L S hc hi => by
    have hi : (zipD it.ds it2.ds).length ≤ i := hi
    rw [zipD_len] at hi
    have := l.1.len; have := l2.1.len
    exact ⟨vs, us, S₀.tupKeep (L01.trans L) (l.tup ht), S₁.tupKeep L (l2.tup ht2), by omega⟩
theorem walkM_str {K : PySem.W.Frag} {cm : Str × Bool → Option Value} {α₀ : List Addr} {H₀ : Hp} (s : Str) : WalkM K cm α₀ H₀ ⟨s.cps.toList.map fun c => .str ⟨#[c]⟩, [], false⟩ (L2.Its s) where
  go := fun i α μ H L S hc hi => by
    have hi : i < (s.cps.toList.map fun c => D.str ⟨#[c]⟩).length := hi
    rw [List.length_map, Array.length_toList] at hi
    exact hi
  yld := fun i α μ H x H' L S hc hi y => by
    obtain ⟨e, c, h, e2⟩ := y
    subst e; subst e2
    refine ⟨.str ⟨#[c]⟩, ?_, Later.refl _ _, S, rep_mkS⟩
    show (s.cps.toList.map fun c => D.str ⟨#[c]⟩)[i]? = _
    rw [List.getElem?_map, Array.getElem?_toList, h]; rfl
  stop := fun i α μ H L S hc hi => by
    have hi : (s.cps.toList.map fun c => D.str ⟨#[c]⟩).length ≤ i := hi
    rw [List.length_map, Array.length_toList] at hi
    exact hi

section
variable {X : Cx} {W : WX} {cm : Str × Bool → Option Value} {pos p : Pos} {tg a b c e : Expr} {es : List Expr} {ra rb rc : Env' → Mem → Res D} {rl rl2 : Env' → Mem → Res Its}
theorem mi_l (ha : PE X a (tL X.K cm rl W)) : PI X tg a (tI X.K cm rl W) :=
  ((pi_list ha).orr (pi_tup (PE.imp ha fun _ _ _ h => h))).imp fun σ H R ⟨α, μ, ρ, S, E, q⟩ => by
    by_cases hb : rl ρ μ = .bad
    · rw [hb] at q; exact q.elim
    cases er : rl ρ μ with
    | bad => exact absurd er hb
    | ex C fs μ1 =>
      rw [er] at q
      refine .inl ⟨α, μ, ρ, S, E, ?_⟩
      rw [er]; exact q
    | ok it μ1 =>
      rw [er] at q
      cases ht : it.tup with
      | false =>
        refine .inl ⟨α, μ, ρ, S, E, ?_⟩
        rw [er]
        exact fun α1 H1 L1 S1 a vs l => ⟨a, rfl, ⟨vs, l.lst ht⟩, q α1 H1 L1 S1 _ (walkM_list S1 l ht)⟩
      | true =>
        refine .inr ⟨α, μ, ρ, S, E, ?_⟩
        rw [er]
        exact fun α1 H1 L1 S1 a vs l => ⟨a, rfl, ⟨vs, l.tup ht⟩, q α1 H1 L1 S1 _ (walkM_tup S1 l ht)⟩
theorem mi_rng1 (hg : Gl X "range") (hm : X.mg "range" = none) (ns : noStar a = true) (ha : PE X a (tE X.K cm ra W)) : PI X tg (.Call (.Name "range" p) [a] [] pos) (tI X.K cm (fun ρ μ => (ra ρ μ).bind fun x μ1 => match x with
    | .int j => if -(2 ^ 62) ≤ j ∧ j < 2 ^ 62 then .ok ⟨rngD 0 j.toNat, [], false⟩ μ1 else .bad
    | _ => .bad) W) :=
  (pi_range1 hg hm (pa_cons ha pa_nil (star_cons ns)) (star_cons ns)).imp fun σ H R ⟨α, μ, ρ, S, E, q⟩ => ⟨α, μ, ρ, S, E, q.then fun x μ1 α1 H1 L1 S1 p1 v rv => by
    cases x with
    | int j =>
      obtain ⟨⟨h1, h2⟩, p2⟩ := Post.guard p1
      exact ⟨j, by rw [rep_int rv], h1, h2, Post.here p2 S1 _ (walkM_range 0 j.toNat)⟩
    | _ => exact p1.elim⟩
theorem mi_rng2 (hg : Gl X "range") (hm : X.mg "range" = none) (ns : noStar a = true) (ns2 : noStar b = true) (ha : PE X a (tE X.K cm ra W)) (hb : PE X b (tE X.K cm rb W)) : PI X tg (.Call (.Name "range" p) [a, b] [] pos) (tI X.K cm (fun ρ μ => (ra ρ μ).bind fun x μ1 => (rb ρ μ1).bind fun y μ2 => match x, y with
    | .int i, .int j => if -(2 ^ 62) ≤ i ∧ i < 2 ^ 62 ∧ -(2 ^ 62) ≤ j ∧ j < 2 ^ 62 then .ok ⟨rngD i (j - i).toNat, [], false⟩ μ2 else .bad
    | _, _ => .bad) W) :=
  (pi_range2 hg hm (pa_cons ha (pa_cons hb pa_nil (star_cons ns2)) (star_cons ns)) (by rw [star_cons ns, star_cons ns2]; rfl) (star_cons ns2)).imp fun σ H R ⟨α, μ, ρ, S, E, q⟩ => ⟨α, μ, ρ, S, E, q.then fun x μ1 α1 H1 L1 S1 p1 v rv => ⟨α1, μ1, ρ, S1, E.later S L1, p1.then fun y μ2 α2 H2 L2 S2 p2 u ru => by
    cases x with
    | int i =>
      cases y with
      | int j =>
        obtain ⟨h, p3⟩ := Post.guard p2
        exact ⟨i, j, by rw [rep_int rv, rep_int ru], h, Post.here p3 S2 _ (walkM_range i (j - i).toNat)⟩
      | _ => exact p2.elim
    | _ => exact p2.elim⟩⟩
theorem mi_rev (hg : Gl X "reversed") (hm : X.mg "reversed" = none) (ns : noStar a = true) (ha : PE X a (tL X.K cm rl W)) : PI X tg (.Call (.Name "reversed" p) [a] [] pos) (tI X.K cm (fun ρ μ => (rl ρ μ).bind fun r μ1 => .ok ⟨r.ds.reverse, r.own, false⟩ μ1) W) :=
  (RT.pi_revA hg hm ha (star_cons ns)).imp fun σ H R ⟨α, μ, ρ, S, E, q⟩ => ⟨α, μ, ρ, S, E, q.then fun it μ1 α1 H1 L1 S1 p1 a vs l => by
    cases ht : it.tup with
    | false => exact ⟨a, vs, rfl, .inl ⟨l.lst ht, Post.here p1 S1 _ (walkM_rev S1 l ht)⟩⟩
    | true => exact ⟨a, vs, rfl, .inr ⟨l.tup ht, Post.here p1 S1 _ (walkM_revT S1 l ht)⟩⟩⟩
theorem mi_zip {elts : List Expr} {kk : Nat} {tpos : Pos} (hg : Gl X "zip") (hm : X.mg "zip" = none) (ns : noStar a = true) (ns2 : noStar b = true) (ha : PE X a (tL X.K cm rl W)) (hb : PE X b (tL X.K cm rl2 W)) :
    PI X (.Tuple elts kk tpos) (.Call (.Name "zip" p) [a, b] [] pos) (tI X.K cm (fun ρ μ => (rl ρ μ).bind fun r μ1 => (rl2 ρ μ1).bind fun t μ2 => if (r.tup == t.tup) && chk r.own μ2 then .ok ⟨zipD r.ds t.ds, r.own ++ t.own, false⟩ μ2 else .bad) W) :=
  (RZ.pi_zipA hg hm (pa_cons ha (pa_cons hb pa_nil (star_cons ns2)) (star_cons ns)) (star_cons ns) (star_none (by simp [ns2]))).imp fun σ H R ⟨α, μ, ρ, S, E, q⟩ => ⟨α, μ, ρ, S, E, q.then fun it μ1 α1 H1 L1 S1 p1 a vs l => ⟨α1, μ1, ρ, S1, E.later S L1, p1.then fun it2 μ2 α2 H2 L2 S2 p2 b us l2 => by
    obtain ⟨ht, p3⟩ := Post.guard p2
    rw [Bool.and_eq_true, beq_iff_eq] at ht
    obtain ⟨ht, hk⟩ := ht
    cases h1 : it.tup with
    | false =>
      have h2 : it2.tup = false := by rw [← ht, h1]
      obtain ⟨ws, g1, _⟩ := lst_later S1 l h1 L2 S2 hk
      exact ⟨a, b, ws, us, rfl, .inl ⟨g1, l2.lst h2, Post.here p3 S2 _ (walkM_zip S1 l L2 S2 l2 h1 h2)⟩⟩
    | true =>
      have h2 : it2.tup = true := by rw [← ht, h1]
      exact ⟨a, b, vs, us, rfl, .inr ⟨S1.tupKeep L2 (l.tup h1), l2.tup h2, Post.here p3 S2 _ (walkM_zipT S1 l L2 S2 l2 h1 h2)⟩⟩⟩⟩
theorem walkM_enumT {K : PySem.W.Frag} {cm : Str × Bool → Option Value} {α₀ : List Addr} {H₀ : Hp} {μ₀ : Mem} {it : Its} {a : Addr} {vs : List V} (S₀ : Sim K cm α₀ μ₀ H₀) (l : LstAt K α₀ H₀ it a vs) (ht : it.tup = true) : WalkM K cm α₀ H₀ ⟨enumD 0 it.ds, it.own, false⟩ (IteT K a) where
  go := fun i α μ H L S hc hi => by
    have hi : i < (enumD 0 it.ds).length := hi
    rw [enumD_len] at hi
    obtain ⟨x, hx⟩ := get_at (xs := vs) (by rw [← l.1.len]; exact hi)
    exact ⟨vs, x, S₀.tupKeep L (l.tup ht), hx⟩
  yld := fun i α μ H x H' L S hc hi y => by
    obtain ⟨T, x1, e, hT, e2, y⟩ := y
    subst e; subst e2
    obtain ⟨d, e1, r⟩ := (l.1.later S₀ L).at (y vs (S₀.tupKeep L (l.tup ht)))
    obtain ⟨L2, S2, R2⟩ := pair_rep (x := .int (i : Nat)) S hT rep_mkI r
    exact ⟨_, (by show (enumD 0 it.ds)[i]? = _; rw [enumD_get, e1]; simp), L2, S2, R2⟩
  stop := fun i α μ H L S hc hi => by
    have hi : (enumD 0 it.ds).length ≤ i := hi
    rw [enumD_len] at hi
    exact ⟨vs, S₀.tupKeep L (l.tup ht), by rw [← l.1.len]; exact hi⟩
theorem mi_enum {elts : List Expr} {kk : Nat} {tpos : Pos} (hg : Gl X "enumerate") (hm : X.mg "enumerate" = none) (ns : noStar a = true) (ha : PE X a (tL X.K cm rl W)) :
    PI X (.Tuple elts kk tpos) (.Call (.Name "enumerate" p) [a] [] pos) (tI X.K cm (fun ρ μ => (rl ρ μ).bind fun r μ1 => .ok ⟨enumD 0 r.ds, r.own, false⟩ μ1) W) :=
  ((pi_enum hg hm (pa_cons ha pa_nil (star_cons ns)) (star_cons ns)).orr (pi_enumT hg hm (pa_cons ha pa_nil (star_cons ns)) (star_cons ns))).imp fun σ H R ⟨α, μ, ρ, S, E, q⟩ => by
    dsimp only at q
    cases er : rl ρ μ with
    | bad => rw [er] at q; exact q.elim
    | ex C fs μ1 =>
      rw [er] at q
      refine .inl ⟨α, μ, ρ, S, E, ?_⟩
      rw [er]; exact q
    | ok it μ1 =>
      rw [er] at q
      have q' : Post X.K cm α H (fun it _ α' H' => ∀ J, WalkM X.K cm α' H' it J → R J H') (fun c d H' => W c d σ H') (.ok ⟨enumD 0 it.ds, it.own, false⟩ μ1) := q
      cases ht : it.tup with
      | false =>
        refine .inl ⟨α, μ, ρ, S, E, ?_⟩
        rw [er]
        exact fun α1 H1 L1 S1 a vs l => ⟨a, vs, rfl, l.lst ht, q' α1 H1 L1 S1 _ (walkM_enum S1 l ht)⟩
      | true =>
        refine .inr ⟨α, μ, ρ, S, E, ?_⟩
        rw [er]
        exact fun α1 H1 L1 S1 a vs l => ⟨a, vs, rfl, l.tup ht, q' α1 H1 L1 S1 _ (walkM_enumT S1 l ht)⟩
theorem mi_signs (ha : PE X a (tE X.K cm ra W)) : PI X tg a (tI X.K cm (fun ρ μ => (ra ρ μ).bind fun x μ1 => match x with
    | .str s => .ok ⟨s.cps.toList.map fun c => .str ⟨#[c]⟩, [], false⟩ μ1
    | _ => .bad) W) :=
  (pi_str ha).imp fun σ H R ⟨α, μ, ρ, S, E, q⟩ => ⟨α, μ, ρ, S, E, q.then fun x μ1 α1 H1 L1 S1 p1 v rv => by
    cases x with
    | str s => exact ⟨s, rep_str rv, Post.here p1 S1 _ (walkM_str s)⟩
    | _ => exact p1.elim⟩
end
end Mi
/-! MiV: for i in reversed(range(n)). -/
namespace Mi
open PySem L2
theorem walkM_rrng {K : PySem.W.Frag} {cm : Str × Bool → Option Value} {α₀ : List Addr} {H₀ : Hp} (n : Nat) (lo : Int) (hlo : lo = (n : Int) - 1) : WalkM K cm α₀ H₀ ⟨(rngD 0 n).reverse, [], false⟩ (Itc lo (-1) n) where
  go := fun i α μ H L S hc hi => by
    have hi : i < (rngD 0 n).reverse.length := hi
    rw [List.length_reverse, rngD_len] at hi
    exact hi
  yld := fun i α μ H x H' L S hc hi y => by
    have hi : i < (rngD 0 n).reverse.length := hi
    rw [List.length_reverse, rngD_len] at hi
    obtain ⟨e, y⟩ := y
    subst e; subst y
    refine ⟨.int (lo + (i : Nat) * (-1)), ?_, Later.refl _ _, S, rep_mkI⟩
    show (rngD 0 n).reverse[i]? = _
    rw [List.getElem?_reverse (by rw [rngD_len]; exact hi), rngD_len, rngD_get (by omega)]
    congr 2
    omega
  stop := fun i α μ H L S hc hi => by
    have hi : (rngD 0 n).reverse.length ≤ i := hi
    rw [List.length_reverse, rngD_len] at hi
    exact hi
section
variable {X : Cx} {W : WX} {cm : Str × Bool → Option Value} {pos p p2 pos2 : Pos} {tg a : Expr} {ra : Env' → Mem → Res D}
theorem mi_rrng (hg : Gl X "reversed") (hm : X.mg "reversed" = none) (hg2 : Gl X "range") (hm2 : X.mg "range" = none) (ns : noStar a = true) (ha : PE X a (tE X.K cm ra W)) :
    PI X tg (.Call (.Name "reversed" p) [.Call (.Name "range" p2) [a] [] pos2] [] pos) (tI X.K cm (fun ρ μ => (ra ρ μ).bind fun x μ1 => match x with
    | .int j => if -(2 ^ 62) ≤ j ∧ j < 2 ^ 62 then .ok ⟨(rngD 0 j.toNat).reverse, [], false⟩ μ1 else .bad
    | _ => .bad) W) :=
  (pi_revR hg hm (prg_1 hg2 hm2 ha (star_cons ns)) (star_cons rfl)).imp fun σ H R ⟨α, μ, ρ, S, E, q⟩ => ⟨α, μ, ρ, S, E, q.then fun x μ1 α1 H1 L1 S1 p1 v rv => by
    cases x with
    | int j =>
      obtain ⟨⟨h1, h2⟩, p2⟩ := Post.guard p1
      refine ⟨j, by rw [rep_int rv], by decide, by decide, h1, h2, ?_⟩
      rw [Int.sub_zero]
      exact Post.here p2 S1 _ (walkM_rrng j.toNat _ (by omega))
    | _ => exact p1.elim⟩
end
end Mi
/-! Mi7: comprehensions, statements. -/
namespace Mi
open PySem L2
section
variable {K : PySem.W.Frag} {cm : Str × Bool → Option Value} {α α' α₀ : List Addr} {H H' H₀ : Hp} {μ : Mem} {β γ : Type} {q : β → Mem → List Addr → Hp → Prop} {w w' : Value → Option Addr → Hp → Prop}
theorem Post.noex {r : Res β} (h : Post K cm α H q w r.noex) : Post K cm α H q w' r := by
  cases r with
  | ok b μ => exact h
  | ex C fs μ => exact h.elim
  | bad => exact h
/-- the same, what comes behind told at the outset -/
theorem Post.bind0 {r : Res β} {f : β → Mem → Res γ} {q : γ → Mem → List Addr → Hp → Prop} (h : Post K cm α H q w (r.bind f)) : Post K cm α H (fun b μ' _ _ => Post K cm α H q w (f b μ')) w r := by
  cases r with
  | ok b μ => exact fun _ _ _ _ => h
  | ex C fs μ => exact h
  | bad => exact h
theorem Res.noex_bind {r : Res β} {f : β → Mem → Res γ} : (r.bind f).noex = r.noex.bind fun b μ => (f b μ).noex := by cases r <;> rfl
/-- a list outside the memory changes -/
theorem Sim.out (S : Sim K cm α μ H) {p : Addr} {xs ys : List V} (np : p ∉ α) (hp : H p = some (.lst xs)) : Sim K cm α μ (upd H p (.lst ys)) ∧ (∀ a zs, SqS K H a zs → SqS K (upd H p (.lst ys)) a zs) := by
  have ht0 : ∀ a zs, SqT K H a zs → SqT K (upd H p (.lst ys)) a zs := fun a zs h => by
    rcases h with (h | ⟨o, h⟩) | h
    · exact .inl (.inl (by rw [upd_ne (fun e => by rw [e, hp] at h; cases h)]; exact h))
    · exact .inl (.inr ⟨o, by rw [upd_ne (fun e => by rw [e, hp] at h; cases h)]; exact h⟩)
    · exact .inr h
  have ht : ∀ a zs, SqS K H a zs → SqS K (upd H p (.lst ys)) a zs := fun a zs h => by
    rcases h with h | ⟨e, h⟩
    · exact .inl (by rw [upd_ne (fun e => by rw [e, hp] at h; cases h)]; exact h)
    · exact .inr ⟨e, ht0 a zs h⟩
  refine ⟨⟨S.len, S.nd, fun n c a h1 h2 => ?_⟩, ht⟩
  have q := S.cell n c a h1 h2
  have ne : a ≠ p := fun e => np (e ▸ List.mem_of_getElem? h2)
  cases c with
  | lst ds => obtain ⟨vs, e, r⟩ := q; exact ⟨vs, by rw [upd_ne ne]; exact e, Reps.mono (fun _ _ z => z) ht _ _ r⟩
  | rol ds => obtain ⟨o', vs, e, r⟩ := q; exact ⟨o', vs, by rw [upd_ne ne]; exact e, Reps.mono (fun _ _ z => z) ht _ _ r⟩
  | ins C fs => obtain ⟨Ca, dx, ws, m, e, r⟩ := q; exact ⟨Ca, dx, ws, m, by rw [upd_ne ne]; exact e, RepF.mono (fun _ _ z => z) ht _ _ r⟩
  | dic kvs => obtain ⟨ws, e, r⟩ := q; exact ⟨ws, by rw [upd_ne ne]; exact e, RepG.mono (fun _ _ z => z) ht _ _ r⟩
  | dct lk kvs =>
    cases lk with
    | false => obtain ⟨ws, e, r⟩ := q; exact ⟨ws, by rw [upd_ne ne]; exact e, RepG.mono (fun _ _ z => z) ht _ _ r⟩
    | true => obtain ⟨o', ws, e, r⟩ := q; exact ⟨o', ws, by rw [upd_ne ne]; exact e, RepG.mono (fun _ _ z => z) ht _ _ r⟩
theorem Later.out (L : Later α₀ H₀ α H) {p : Addr} {o : HO} (hp : H₀ p = none) : Later α₀ H₀ α (upd H p o) :=
  ⟨L.ext, L.new, fun x u hx hu => (by rw [upd_ne (ne_of_none hu hp)]; exact L.keep x u hx hu), fun x o u hu => (by rw [upd_ne (ne_of_none hu hp)]; exact L.frz x o u hu)⟩
end
theorem wipe_idem (σ : St) : ∀ vs : List Nat, wipe (wipe σ vs) vs = wipe σ vs := by
  have key : ∀ (ws : List Nat) (τ : St), (∀ i ∈ ws, τ[i]? = none ∨ τ[i]? = some none) → wipe τ ws = τ := fun ws => by
    induction ws with
    | nil => intro τ _; rfl
    | cons w ws ih =>
      intro τ h
      unfold wipe
      rw [ih τ fun i hi => h i (List.mem_cons_of_mem _ hi)]
      rcases h w List.mem_cons_self with e | e
      · exact List.set_eq_of_length_le (List.getElem?_eq_none_iff.mp e)
      · apply List.ext_getElem?
        intro j
        by_cases hj : w = j
        · subst hj
          rw [List.getElem?_set_self (List.getElem?_eq_some_iff.mp e).1, e]
        · rw [List.getElem?_set_ne hj]
  intro vs
  refine key vs _ fun i hi => ?_
  cases e : (wipe σ vs)[i]? with
  | none => exact .inl rfl
  | some o =>
    cases o with
    | none => exact .inr rfl
    | some x => exact absurd hi (wipe_some e).2

def stepOf (own : List Nat) (tg : Tg) (rc : Env' → Mem → Res Bool) (re : Env' → Mem → Res D) (ρ : Env') : D → Mem → Res (Option D) := fun d μ2 => match asgn tg d (wipeE ρ own) μ2 with
        | none => .bad
        | some ρ1 => ((rc ρ1 μ2).bind fun t μ3 => if t then (re ρ1 μ3).bind fun x μ4 => .ok (some x) μ4 else .ok none μ3).noex
abbrev WF : WX := fun _ _ _ _ => False
section
variable {X : Cx} {W : WX} {cm : Str × Bool → Option Value} {pos : Pos} {tg iter elt : Expr} {ifs : List Expr} {scope : Scope} {own : List (Str × Nat)} {rit : Env' → Mem → Res Its} {rc : Env' → Mem → Res Bool} {re : Env' → Mem → Res D} {tgm : Tg}
/-- the loop of a comprehension, by its items -/
theorem comp_go (htg : ∀ i ∈ tgm.is, i ∈ own.map (·.2)) {σ : St} {H : Hp} {Q : VK}
    (h : tM X.K cm (fun ρ μ => (rit ρ μ).bind fun r μ1 => compL (stepOf (own.map (·.2)) tgm rc re ρ) r.own 0 r.ds μ1) W σ H Q) :
    tLc (tI X.K cm rit W) (gTg X.K tgm) (tB X.K cm rc WF) (tE X.K cm re WF) (own.map (·.2)) σ H Q := by
  obtain ⟨α, μ, ρ, S, R, p⟩ := h
  refine ⟨α, μ, ρ, S, R, p.then fun it μ1 α1 H1 L1 S1 p1 J wk D hD => ?_⟩
  have nD : D ∉ α1 := S1.fresh hD
  have hD0 : H D = none := L1.fresh S1 hD
  generalize hvs : own.map (·.2) = vs at *
  -- the word of the loop
  refine ⟨fun i m H2 => m = it.ds.length - i ∧ i ≤ it.ds.length ∧ ∃ α2 μ2 dacc vacc, Later α1 H1 α2 H2 ∧ Sim X.K cm α2 μ2 H2 ∧ H2 D = some (.lst vacc) ∧ D ∉ α2 ∧ Reps X.K α2 H2 dacc vacc ∧
    Post X.K cm α1 H1 (fun r _ α' H' => ∀ a vs, Reps X.K α' H' (dacc ++ r) vs → H' a = some (.lst vs) → a ∉ α' → H a = none → Q (.ref a) H') (fun c d H' => W c d σ H') (compL (stepOf vs tgm rc re ρ) it.own dacc.length (it.ds.drop i) μ2),
    ⟨_, rfl, Nat.zero_le _, ?_⟩, ?_⟩
  · obtain ⟨S2, L2⟩ := S1.lay (o := .lst []) hD
    exact ⟨α1, μ1, [], [], L2, S2, upd_same, nD, by simp only [Reps], by simpa using p1⟩
  · rintro i m H2 ⟨rfl, hil, α2, μ2, dacc, vacc, L2, S2, hD2, nD2, ra, p2⟩
    by_cases hlt : i < it.ds.length
    · -- one more item
      rw [List.drop_eq_getElem_cons hlt] at p2
      simp only [compL] at p2
      obtain ⟨hk, p2⟩ := Post.guard p2
      refine .inr ⟨wk.go i α2 μ2 H2 L2 S2 hk hlt, _, fun H' nx => ⟨it.ds.length - (i + 1), by omega, rfl, hlt, nx⟩, fun x H3 y => ?_⟩
      obtain ⟨d, e1, L3, S3, rd⟩ := wk.yld i α2 μ2 H2 x H3 L2 S2 hk hlt y
      rw [List.getElem?_eq_getElem hlt] at e1
      cases e1
      have p3 := p2
      have est : stepOf vs tgm rc re ρ it.ds[i] μ2 = match asgn tgm it.ds[i] (wipeE ρ vs) μ2 with
        | none => .bad
        | some ρ1 => ((rc ρ1 μ2).bind fun t μ3 => if t then (re ρ1 μ3).bind fun x μ4 => .ok (some x) μ4 else .ok none μ3).noex := rfl
      rw [est] at p3
      cases ea : asgn tgm it.ds[i] (wipeE ρ vs) μ2 with
      | none => rw [ea] at p3; exact p3.elim
      | some ρ1 =>
        rw [ea] at p3
        simp only [Res.noex_bind, Res.bind_assoc] at p3
        have L13 : Later α1 H1 α2 H3 := L2.trans L3
        have R3 : RepE X.K α2 H3 (wipeE ρ vs) (wipe σ vs) := ((R.later S L1).later S1 L13).wipe vs
        refine tg_go S3 ea R3 rd fun σ2 R4 sb => ⟨by rw [sb vs htg, wipe_idem], ?_⟩
        refine ⟨α2, μ2, ρ1, S3, R4, Post.noex (w := fun c d H' => W c d σ H') ?_⟩
        refine (p3.bind0.later L13).mono fun t μ4 α4 H4 L4 S4 p4 => ?_
        have hD3 : H3 D = some (.lst vacc) := L3.keep D _ nD2 hD2
        cases t with
        | true =>
          refine iteT ?_
          rw [if_pos rfl] at p4
          simp only [Res.noex_bind, Res.bind_assoc] at p4
          refine ⟨α4, μ4, ρ1, S4, R4.later S3 L4, Post.noex (w := fun c d H' => W c d σ H') ?_⟩
          refine (p4.bind0.later (L13.trans L4)).mono fun y μ5 α5 H5 L5 S5 p5 v rv => ?_
          simp only [Res.noex_ok, Res.bind_ok] at p5
          obtain ⟨hn, p5⟩ := Post.guard p5
          have hD5 : H5 D = some (.lst vacc) := L5.keep D _ (L4.new D _ nD2 hD3) (L4.keep D _ nD2 hD3)
          have nD5 : D ∉ α5 := L5.new D _ (L4.new D _ nD2 hD3) (L4.keep D _ nD2 hD3)
          have hal := ra.len
          refine ⟨vacc, hD5, by rw [← hal, ← lim_eq]; exact hn, ?_⟩
          obtain ⟨S6, t6⟩ := S5.out (ys := vacc ++ [v]) nD5 hD5
          have L15 : Later α1 H1 α5 (upd H5 D (.lst (vacc ++ [v]))) := ((L13.trans L4).trans L5).out hD
          have ra5 : Reps X.K α5 H5 dacc vacc := ((ra.later S2 L3).later S3 L4).later S4 L5
          have ra6 : Reps X.K α5 (upd H5 D (.lst (vacc ++ [v]))) (dacc ++ [y]) (vacc ++ [v]) := Reps.mono (fun _ _ z => z) t6 _ _ (ra5.append (Reps.one rv))
          refine ⟨α5, μ5, dacc ++ [y], vacc ++ [v], L15, S6, upd_same, nD5, ra6, ?_⟩
          have el : (dacc ++ [y]).length = dacc.length + 1 := by simp
          rw [el]
          cases er : compL (stepOf vs tgm rc re ρ) it.own (dacc.length + 1) (it.ds.drop (i + 1)) μ5 with
          | bad => rw [er] at p5; exact p5
          | ex C fs μ6 => rw [er] at p5; exact p5
          | ok r μ6 =>
            rw [er] at p5
            intro α6 H6 L6 S6 a ws hr
            exact p5 α6 H6 L6 S6 a ws (by rw [List.append_assoc] at hr; exact hr)
        | false =>
          refine iteF ?_
          rw [if_neg Bool.false_ne_true] at p4
          simp only [Res.noex_ok, Res.bind_ok] at p4
          exact ⟨α4, μ4, dacc, vacc, L13.trans L4, S4, L4.keep D _ nD2 hD3, L4.new D _ nD2 hD3, (ra.later S2 L3).later S3 L4, p4⟩
    · -- no item is left
      have e : i = it.ds.length := by omega
      subst e
      rw [List.drop_length] at p2
      simp only [compL] at p2
      obtain ⟨hk, p2⟩ := Post.guard p2
      refine .inl ⟨wk.stop _ α2 μ2 H2 L2 S2 hk (Nat.le_refl _), ?_⟩
      exact p2 α2 H2 L2 S2 D vacc (by rw [List.append_nil]; exact ra) hD2 nD2 hD0
theorem mm_comp (hc : X.calm = true) (hN : X.N.Nodup) (hi : PI X tg iter (tI X.K cm rit W)) (ok : BlkOk X.N X.env.scope scope own)
    (hg : ∀ (s : Shared) (H : Hp) (C : Addr) (cl : List (Str × Addr)) (fp : List Addr), PG (X.blk s H scope (compEnvC scope cl C X.env) fp) tg (gTg X.K tgm))
    (ht : ∀ (s : Shared) (H : Hp) (C : Addr) (cl : List (Str × Addr)) (fp : List Addr), PTs (X.blk s H scope (compEnvC scope cl C X.env) fp) ifs (tB X.K cm rc WF))
    (he : ∀ (s : Shared) (H : Hp) (C : Addr) (cl : List (Str × Addr)) (fp : List Addr), PE (X.blk s H scope (compEnvC scope cl C X.env) fp) elt (tE X.K cm re WF))
    (htg : ∀ i ∈ tgm.is, i ∈ own.map (·.2)) (hs : ∀ x, foldedSetIterable iter X.env x = pure x) :
    PE X (.ListComp elt [⟨tg, iter, ifs, 0⟩] scope pos) (tM X.K cm (fun ρ μ => (rit ρ μ).bind fun r μ1 => compL (stepOf (own.map (·.2)) tgm rc re ρ) r.own 0 r.ds μ1) W) :=
  (pe_lc hc hN hi ok hg ht he hs).imp fun σ H Q h => comp_go htg h
end
end Mi
/-! Mi8: targets' rules, statements. -/
namespace Mi
open PySem L2

/-! ### targets -/
section
variable {X : Cx} {pos : Pos}
/-- the names of a written tuple, with their slots -/
inductive NamesAt (X : Cx) : List Expr → List Nat → Prop where
  | nil : NamesAt X [] []
  | cons {x : Str} {p : Pos} {i : Nat} {es : List Expr} {is : List Nat} : X.N[i]? = some x → Loc X.env.scope x → (X.fn x = true ∨ X.env.scope.names.lookup x = some .local) → NamesAt X es is → NamesAt X (.Name x p :: es) (i :: is)
theorem pgs_names (hN : X.N.Nodup) : ∀ {es : List Expr} {is : List Nat}, NamesAt X es is → PGs X es (gNames is)
  | _, _, .nil => pgs_nil
  | _, _, .cons h1 h2 h3 r => pgs_cons (pg_name hN h1 h2 h3) (pgs_names hN r) rfl
theorem names_len : ∀ {es : List Expr} {is : List Nat}, NamesAt X es is → (assignEach es X.env).length = is.length
  | _, _, .nil => rfl
  | _, _, .cons _ _ _ r => by
    show (_ :: assignEach _ X.env).length = _
    rw [List.length_cons, names_len r]; rfl
theorem names_star : ∀ {es : List Expr} {is : List Nat}, NamesAt X es is → (assignEach es X.env).findIdx? (·.1) = none
  | _, _, .nil => rfl
  | _, _, .cons (x := x) (p := p) (es := es) _ _ _ r => by
    show List.findIdx? (·.1) ((false, assign (.Name x p) X.env) :: assignEach es X.env) = none
    rw [List.findIdx?_cons, names_star r]; rfl
theorem mg_tup {es : List Expr} {is : List Nat} {k : Nat} (hc : X.calm = true) (hN : X.N.Nodup) (h : NamesAt X es is) : PG X (.Tuple es k pos) (gTg X.K (.tp is)) :=
  (pg_tup hc (pgs_names hN h) (names_len h) (names_star h)).orr (pg_lst hc (pgs_names hN h) (names_len h) (names_star h))
theorem mg_name {i : Nat} {x : Str} (hN : X.N.Nodup) (hi : X.N[i]? = some x) (hx : Loc X.env.scope x) (hf : X.fn x = true ∨ X.env.scope.names.lookup x = some .local) : PG X (.Name x pos) (gTg X.K (.nm i)) := pg_name hN hi hx hf
end

/-! ### statements -/
section
variable (K : PySem.W.Frag) (cm : Str × Bool → Option Value)
/-- the end of a statement's run -/
def PostS (α : List Addr) (H : Hp) (D : Ends) (W : WX) : Out → Prop
  | .nx ρ μ => ∀ σ' α' H', Later α H α' H' → Sim K cm α' μ H' → RepE K α' H' ρ σ' → D.nx σ' H'
  | .rt d μ => ∀ α' H' v, Later α H α' H' → Sim K cm α' μ H' → Rep K α' H' d v → D.rt v H'
  | .br ρ μ => ∀ σ' α' H', Later α H α' H' → Sim K cm α' μ H' → RepE K α' H' ρ σ' → D.bk σ' H'
  | .ct ρ μ => ∀ σ' α' H', Later α H α' H' → Sim K cm α' μ H' → RepE K α' H' ρ σ' → D.ct σ' H'
  | .ex C fs ρ μ => ∀ σ' α' H' cls d, Later α H α' H' → Sim K cm α' μ H' → RepE K α' H' ρ σ' → ExOk K cm α' H' C fs cls d → W cls d σ' H'
  | .bad => False
/-- a statement's reading -/
def tSm (r : Env' → Mem → Out) (W : WX) : TS := fun D σ H => ∃ α μ ρ, Sim K cm α μ H ∧ RepE K α H ρ σ ∧ PostS K cm α H D W (r ρ μ)
end
section
variable {K : PySem.W.Frag} {cm : Str × Bool → Option Value} {α α' : List Addr} {H H' : Hp} {μ μ' : Mem} {ρ ρ' : Env'} {σ : St} {D D' : Ends} {W : WX} {β : Type}
theorem PostS.later {o : Out} (h : PostS K cm α H D W o) (L : Later α H α' H') : PostS K cm α' H' D W o := by
  cases o with
  | nx ρ μ => exact fun σ' α'' H'' L' => h σ' α'' H'' (L.trans L')
  | rt d μ => exact fun α'' H'' v L' => h α'' H'' v (L.trans L')
  | br ρ μ => exact fun σ' α'' H'' L' => h σ' α'' H'' (L.trans L')
  | ct ρ μ => exact fun σ' α'' H'' L' => h σ' α'' H'' (L.trans L')
  | ex C fs ρ μ => exact fun σ' α'' H'' cls d L' => h σ' α'' H'' cls d (L.trans L')
  | bad => exact h
theorem PostS.to {r : Res β} {f : β → Mem → Out} (S : Sim K cm α μ H) (R : RepE K α H ρ σ) (h : PostS K cm α H D W (r.to ρ f)) : Post K cm α H (fun b μ' α' H' => PostS K cm α' H' D W (f b μ')) (fun c d H' => W c d σ H') r := by
  cases r with
  | ok b μ => exact fun α' H' L S' => PostS.later h L
  | ex C fs μ => exact fun α' H' cls d L S' x => h σ α' H' cls d L S' (R.later S L) x
  | bad => exact h
theorem PostS.nx (h : PostS K cm α H D W (.nx ρ μ)) (S : Sim K cm α μ H) (R : RepE K α H ρ σ) : D.nx σ H := h σ α H (Later.refl _ _) S R
theorem PostS.ends {o : Out} (h : PostS K cm α H D W o) (hn : ∀ ρ μ σ' α' H', o = .nx ρ μ → PostS K cm α H D W (.nx ρ μ) → Later α H α' H' → Sim K cm α' μ H' → RepE K α' H' ρ σ' → D'.nx σ' H')
    (hr : D'.rt = D.rt) (hb : ∀ ρ μ σ' α' H', o = .br ρ μ → PostS K cm α H D W (.br ρ μ) → Later α H α' H' → Sim K cm α' μ H' → RepE K α' H' ρ σ' → D'.bk σ' H')
    (hc : ∀ ρ μ σ' α' H', o = .ct ρ μ → PostS K cm α H D W (.ct ρ μ) → Later α H α' H' → Sim K cm α' μ H' → RepE K α' H' ρ σ' → D'.ct σ' H') : PostS K cm α H D' W o := by
  cases o with
  | nx ρ μ => exact fun σ' α'' H'' L' S' R' => hn ρ μ σ' α'' H'' rfl h L' S' R'
  | rt d μ => exact fun α'' H'' v L' S' r => by rw [hr]; exact h α'' H'' v L' S' r
  | br ρ μ => exact fun σ' α'' H'' L' S' R' => hb ρ μ σ' α'' H'' rfl h L' S' R'
  | ct ρ μ => exact fun σ' α'' H'' L' S' R' => hc ρ μ σ' α'' H'' rfl h L' S' R'
  | ex C fs ρ μ => exact h
  | bad => exact h
end

section
variable {X : Cx} {W : WX} {cm : Str × Bool → Option Value} {pos pos' : Pos} {a b c e : Expr} {re ra rb rc : Env' → Mem → Res D} {tg : Expr} {tgm : Tg} {st : Stmt} {sts s2 : List Stmt} {rs rs2 : Env' → Mem → Out}
theorem ms_doc {x : Str} {j : Nat} : PS X (.Expr (.Constant (.str x) j pos) pos') (tSm X.K cm (fun ρ μ => .nx ρ μ) W) := ps_doc.imp fun D σ H ⟨α, μ, ρ, S, R, p⟩ => p.nx S R
theorem ms_pass : PS X (.Pass pos) (tSm X.K cm (fun ρ μ => .nx ρ μ) W) := ps_pass.imp fun D σ H ⟨α, μ, ρ, S, R, p⟩ => p.nx S R
theorem ms_break : PS X (.Break pos) (tSm X.K cm (fun ρ μ => .br ρ μ) W) := ps_break.imp fun D σ H ⟨α, μ, ρ, S, R, p⟩ => p σ α H (Later.refl _ _) S R
theorem ms_continue : PS X (.Continue pos) (tSm X.K cm (fun ρ μ => .ct ρ μ) W) := ps_continue.imp fun D σ H ⟨α, μ, ρ, S, R, p⟩ => p σ α H (Later.refl _ _) S R
theorem ms_retN : PS X (.Return none pos) (tSm X.K cm (fun ρ μ => .rt .non μ) W) := ps_retN.imp fun D σ H ⟨α, μ, ρ, S, R, p⟩ => p α H .non (Later.refl _ _) S rep_mkN
theorem ms_ret (he : PE X e (tE X.K cm re W)) : PS X (.Return (some e) pos) (tSm X.K cm (fun ρ μ => (re ρ μ).to ρ fun d μ1 => .rt d μ1) W) :=
  (ps_ret he).imp fun D σ H ⟨α, μ, ρ, S, R, p⟩ => ⟨α, μ, ρ, S, R, (p.to S R).mono fun d μ1 α1 H1 L1 S1 p1 v r => p1 α1 H1 v (Later.refl _ _) S1 r⟩
theorem ms_expr (he : PE X e (tE X.K cm re W)) (hs : swapsWith e none pos.line X.env = pure false) : PS X (.Expr e pos) (tSm X.K cm (fun ρ μ => (re ρ μ).to ρ fun _ μ1 => .nx ρ μ1) W) :=
  (ps_expr he hs).imp fun D σ H ⟨α, μ, ρ, S, R, p⟩ => ⟨α, μ, ρ, S, R, (p.to S R).mono fun d μ1 α1 H1 L1 S1 p1 v r => p1.nx S1 (R.later S L1)⟩
def rAsg (tgm : Tg) (re : Env' → Mem → Res D) : Env' → Mem → Out := fun ρ μ => (re ρ μ).to ρ fun d μ1 => match asgn tgm d ρ μ1 with
    | some ρ1 => .nx ρ1 μ1
    | none => .bad
/-- what a store asks -/
theorem asg_go {σ : St} {α : List Addr} {μ1 : Mem} {H1 : Hp} {ρ : Env'} {Z : Ends} {d : D} {v : V} (S1 : Sim X.K cm α μ1 H1) (R : RepE X.K α H1 ρ σ) (r : Rep X.K α H1 d v)
    (p : PostS X.K cm α H1 Z W (match asgn tgm d ρ μ1 with
    | some ρ1 => .nx ρ1 μ1
    | none => .bad)) : gTg X.K tgm v σ H1 Z.nx := by
  cases ea : asgn tgm d ρ μ1 with
  | none => rw [ea] at p; exact p.elim
  | some ρ1 =>
    rw [ea] at p
    exact tg_go S1 ea R r fun σ' R' _ => p.nx S1 R'
theorem ms_asg (hg : PG X tg (gTg X.K tgm)) (he : PE X e (tE X.K cm re W)) (hs : swapsWithSole [tg] e pos.line X.env = pure false) (hw : swappedStores [tg] e X.env = pure none)
    (h1 : (assignEach [tg] X.env).map (·.2) = [assign tg X.env]) : PS X (.Assign [tg] e pos) (tSm X.K cm (rAsg tgm re) W) :=
  (ps_asg he hg hs hw h1).imp fun D σ H ⟨α, μ, ρ, S, R, p⟩ => ⟨α, μ, ρ, S, R, (p.to S R).mono fun d μ1 α1 H1 L1 S1 p1 v r => asg_go S1 (R.later S L1) r p1⟩
theorem ms_set {i : Nat} {x : Str} (hN : X.N.Nodup) (hi : X.N[i]? = some x) (hx : Loc X.env.scope x) (hf : X.fn x = true ∨ X.env.scope.names.lookup x = some .local) (he : PE X e (tE X.K cm re W)) (hs : swapsWith e (some (.Name x pos')) pos.line X.env = pure false) :
    PS X (.Assign [.Name x pos'] e pos) (tSm X.K cm (rAsg (.nm i) re) W) :=
  (ps_set hN hi hx he hs hf).imp fun D σ H ⟨α, μ, ρ, S, R, p⟩ => ⟨α, μ, ρ, S, R, (p.to S R).mono fun d μ1 α1 H1 L1 S1 p1 v r => asg_go (tgm := .nm i) S1 (R.later S L1) r p1⟩
/-- name = [..] on one line -/
theorem ms_setLc {i : Nat} {y : Str} {py spos : Pos} {elt iter : Expr} {ifs : List Expr} {scope : Scope} {own : List (Str × Nat)} {rit : Env' → Mem → Res Its} {rcl : Env' → Mem → Res Bool} {rel : Env' → Mem → Res D} (hc : X.calm = true) (hN : X.N.Nodup) (hy : X.N[i]? = some y) (hyl : X.env.scope.names.lookup y = some .local)
    (hsw : swapsWith (.ListComp elt [⟨tg, iter, ifs, 0⟩] scope pos) (some (.Name y py)) spos.line X.env = pure true) (hi : PI X tg iter (tI X.K cm rit W)) (ok : BlkOk X.N X.env.scope scope own)
    (hg : ∀ (s : Shared) (H : Hp) (C : Addr) (cl : List (Str × Addr)) (fp : List Addr), PG (X.blk s H scope (compEnvC scope cl C X.env) fp) tg (gTg X.K tgm))
    (ht : ∀ (s : Shared) (H : Hp) (C : Addr) (cl : List (Str × Addr)) (fp : List Addr), PTs (X.blk s H scope (compEnvC scope cl C X.env) fp) ifs (tB X.K cm rcl WF))
    (he : ∀ (s : Shared) (H : Hp) (C : Addr) (cl : List (Str × Addr)) (fp : List Addr), PE (X.blk s H scope (compEnvC scope cl C X.env) fp) elt (tE X.K cm rel WF))
    (htg : ∀ i ∈ tgm.is, i ∈ own.map (·.2)) (hs : ∀ x, foldedSetIterable iter X.env x = pure x) :
    PS X (.Assign [.Name y py] (.ListComp elt [⟨tg, iter, ifs, 0⟩] scope pos) spos) (tSm X.K cm (rAsg (.nm i) (fun ρ μ => ((rit ρ μ).bind fun r μ1 => compL (stepOf (own.map (·.2)) tgm rcl rel ρ) r.own 0 r.ds μ1).bind fun ds μ1 => alloc (.lst ds) μ1)) W) :=
  (ps_setLc hc hN hy hyl hsw hi ok hg ht he hs).imp fun D σ H ⟨α, μ, ρ, S, R, p⟩ => by
    refine comp_go (W := W) htg (Q := fun x H1 => gName i x σ H1 D.nx) ⟨α, μ, ρ, S, R, ?_⟩
    have p1 := p.to S R
    dsimp only
    have p1' := Post.bind0 (r := (rit ρ μ).bind fun r μ1 => compL (stepOf (own.map (·.2)) tgm rcl rel ρ) r.own 0 r.ds μ1) (f := fun ds μ1 => alloc (.lst ds) μ1) p1
    refine Post.mono p1' ?_
    intro ds μ1 α1 H1 L1 S1 p2 a vs hr ha hna hn
    have p3 : Post X.K cm α H (okV X.K fun x H1 => gName i x σ H1 D.nx) (fun c d H' => W c d σ H') (alloc (.lst ds) μ1) :=
      fun α' H' L' S' v r => asg_go (tgm := .nm i) S' (R.later S L') r (p2 α' H' L' S')
    exact Post.own p3 L1 S1 hr ha hna hn
theorem truth_to {σ : St} {α : List Addr} {μ : Mem} {H : Hp} {ρ : Env'} {Z : Ends} {f : Bool → Mem → Out} {ra : Env' → Mem → Res D} (S : Sim X.K cm α μ H) (R : RepE X.K α H ρ σ)
    (p : PostS X.K cm α H Z W ((ra ρ μ).to ρ fun x μ1 => (Res.ofO (truthD x μ1) μ1).to ρ f)) : PostS X.K cm α H Z W ((rT ra ρ μ).to ρ f) := by
  unfold rT
  cases e : ra ρ μ with
  | ok x μ1 =>
    rw [e] at p
    have p' : PostS X.K cm α H Z W ((Res.ofO (truthD x μ1) μ1).to ρ f) := p
    exact p'
  | ex C fs μ1 => rw [e] at p; exact p
  | bad => rw [e] at p; exact p
theorem ms_if (hc : PT X c (tB X.K cm (rT rc) W)) (ha : PSs X sts (tSm X.K cm rs W)) (hb : PSs X s2 (tSm X.K cm rs2 W)) :
    PS X (.If c sts s2 pos) (tSm X.K cm (fun ρ μ => (rc ρ μ).to ρ fun x μ1 => (Res.ofO (truthD x μ1) μ1).to ρ fun t μ2 => if t then rs ρ μ2 else rs2 ρ μ2) W) :=
  (ps_if hc ha hb).imp fun D σ H ⟨α, μ, ρ, S, R, p⟩ => ⟨α, μ, ρ, S, R, ((truth_to S R p).to S R).mono fun t μ1 α1 H1 L1 S1 p1 => by
    cases t with
    | true => exact iteT ⟨α1, μ1, ρ, S1, R.later S L1, p1⟩
    | false => exact iteF ⟨α1, μ1, ρ, S1, R.later S L1, p1⟩⟩
theorem mss_nil : PSs X [] (tSm X.K cm (fun ρ μ => .nx ρ μ) W) := pss_nil.imp fun D σ H ⟨α, μ, ρ, S, R, p⟩ => p.nx S R
theorem mss_cons (h1 : PS X st (tSm X.K cm rs W)) (h2 : PSs X sts (tSm X.K cm rs2 W)) : PSs X (st :: sts) (tSm X.K cm (fun ρ μ => (rs ρ μ).thn fun ρ1 μ1 => rs2 ρ1 μ1) W) :=
  (pss_cons h1 h2).imp fun D σ H ⟨α, μ, ρ, S, R, p⟩ => ⟨α, μ, ρ, S, R, by
    dsimp only at p
    cases e : rs ρ μ with
    | nx ρ1 μ1 =>
      rw [e] at p
      exact fun σ' α' H' L' S' R' => ⟨α', μ1, ρ1, S', R', PostS.later (o := rs2 ρ1 μ1) p L'⟩
    | rt d μ1 => rw [e] at p; exact p
    | br ρ1 μ1 => rw [e] at p; exact p
    | ct ρ1 μ1 => rw [e] at p; exact p
    | ex C fs ρ1 μ1 => rw [e] at p; exact p
    | bad => rw [e] at p; exact p⟩
theorem ms_while {n : Nat} {rcb : Env' → Mem → Res Bool} (hp : PassesOwn (model X.prog X.w) X.A X.env X.xe) (hc : PT X c (tB X.K cm rcb W)) (hb : PSs X sts (tSm X.K cm rs W)) :
    PS X (.While c sts [] pos) (tSm X.K cm (fun ρ μ => whileL rcb rs n ρ μ) W) :=
  (ps_while hp hc hb).imp fun D σ H ⟨α, μ, ρ, S, R, p⟩ => by
    refine ⟨fun m σ H => ∃ α μ ρ, Sim X.K cm α μ H ∧ RepE X.K α H ρ σ ∧ PostS X.K cm α H D W (whileL rcb rs m ρ μ), ⟨n, α, μ, ρ, S, R, p⟩, ?_⟩
    rintro m σ1 H1 ⟨α1, μ1, ρ1, S1, R1, p1⟩
    cases m with
    | zero => exact p1.elim
    | succ m =>
      simp only [whileL] at p1
      refine ⟨α1, μ1, ρ1, S1, R1, (p1.to S1 R1).mono fun t μ2 α2 H2 L2 S2 p2 => ?_⟩
      have R2 := R1.later S1 L2
      cases t with
      | false => exact iteF (p2.nx S2 R2)
      | true =>
        refine iteT ⟨fun σ3 H3 => ∃ α μ ρ, Sim X.K cm α μ H3 ∧ RepE X.K α H3 ρ σ3 ∧ PostS X.K cm α H3 D W (whileL rcb rs m ρ μ), fun σ' H' w => ⟨m, Nat.lt_succ_self m, w⟩, α2, μ2, ρ1, S2, R2, ?_⟩
        rw [if_pos rfl] at p2
        cases e : rs ρ1 μ2 with
        | nx ρ3 μ3 => rw [e] at p2; exact fun σ' α' H' L' S' R' => ⟨α', μ3, ρ3, S', R', PostS.later (o := whileL rcb rs m ρ3 μ3) p2 L'⟩
        | ct ρ3 μ3 => rw [e] at p2; exact fun σ' α' H' L' S' R' => ⟨α', μ3, ρ3, S', R', PostS.later (o := whileL rcb rs m ρ3 μ3) p2 L'⟩
        | br ρ3 μ3 => rw [e] at p2; exact p2
        | rt d μ3 => rw [e] at p2; exact p2
        | ex C fs ρ3 μ3 => rw [e] at p2; exact p2
        | bad => rw [e] at p2; exact p2
theorem ms_for {iter : Expr} {rit : Env' → Mem → Res Its} (hp : PassesOwn (model X.prog X.w) X.A X.env X.xe) (hc : X.calm = true) (hi : PI X tg iter (tI X.K cm rit W)) (hg : PG X tg (gTg X.K tgm)) (hb : PSs X sts (tSm X.K cm rs W))
    (hs : ∀ x, foldedSetIterable iter X.env x = pure x) : PS X (.For tg iter sts [] pos) (tSm X.K cm (fun ρ μ => (rit ρ μ).to ρ fun r μ1 => forL rs tgm r.own r.ds ρ μ1) W) :=
  (ps_for hp hc hi hg hb hs).imp fun D σ H ⟨α, μ, ρ, S, R, p⟩ => by
    refine ⟨α, μ, ρ, S, R, (p.to S R).mono fun it μ1 α1 H1 L1 S1 p1 J wk => ?_⟩
    refine ⟨fun i m σ2 H2 => m = it.ds.length - i ∧ i ≤ it.ds.length ∧ ∃ α2 μ2 ρ2, Later α1 H1 α2 H2 ∧ Sim X.K cm α2 μ2 H2 ∧ RepE X.K α2 H2 ρ2 σ2 ∧ PostS X.K cm α2 H2 D W (forL rs tgm it.own (it.ds.drop i) ρ2 μ2),
      ⟨_, rfl, Nat.zero_le _, α1, μ1, ρ, Later.refl _ _, S1, R.later S L1, by simpa using p1⟩, ?_⟩
    rintro i m σ2 H2 ⟨rfl, hil, α2, μ2, ρ2, L2, S2, R2, p2⟩
    by_cases hlt : i < it.ds.length
    · rw [List.drop_eq_getElem_cons hlt] at p2
      simp only [forL] at p2
      cases hk : chk it.own μ2 with
      | false => rw [hk] at p2; exact p2.elim
      | true =>
        rw [hk, if_pos rfl] at p2
        cases ea : asgn tgm it.ds[i] ρ2 μ2 with
        | none => rw [ea] at p2; exact p2.elim
        | some ρ3 =>
          rw [ea] at p2
          dsimp only at p2
          refine .inr ⟨wk.go i α2 μ2 H2 L2 S2 hk hlt, fun σ' H' => i + 1 ≤ it.ds.length ∧ ∃ α2 μ2 ρ2, Later α1 H1 α2 H' ∧ Sim X.K cm α2 μ2 H' ∧ RepE X.K α2 H' ρ2 σ' ∧ PostS X.K cm α2 H' D W (forL rs tgm it.own (it.ds.drop (i + 1)) ρ2 μ2),
            fun σ' H' w => ⟨it.ds.length - (i + 1), by omega, rfl, w.1, w.2⟩, fun x H3 y => ?_⟩
          obtain ⟨d, e1, L3, S3, rd⟩ := wk.yld i α2 μ2 H2 x H3 L2 S2 hk hlt y
          rw [List.getElem?_eq_getElem hlt] at e1
          cases e1
          refine tg_go S3 ea (R2.later S2 L3) rd fun σ4 R4 _ => ⟨α2, μ2, ρ3, S3, R4, ?_⟩
          cases e : rs ρ3 μ2 with
          | nx ρ5 μ5 => rw [e] at p2; exact fun σ' α' H' L' S' R' => ⟨hlt, α', μ5, ρ5, (L2.trans L3).trans L', S', R', PostS.later (o := forL rs tgm it.own (it.ds.drop (i + 1)) ρ5 μ5) p2 (L3.trans L')⟩
          | ct ρ5 μ5 => rw [e] at p2; exact fun σ' α' H' L' S' R' => ⟨hlt, α', μ5, ρ5, (L2.trans L3).trans L', S', R', PostS.later (o := forL rs tgm it.own (it.ds.drop (i + 1)) ρ5 μ5) p2 (L3.trans L')⟩
          | br ρ5 μ5 => rw [e] at p2; exact PostS.later (o := .nx ρ5 μ5) p2 L3
          | rt d μ5 => rw [e] at p2; exact PostS.later (o := .rt d μ5) p2 L3
          | ex C fs ρ5 μ5 => rw [e] at p2; exact PostS.later (o := .ex C fs ρ5 μ5) p2 L3
          | bad => rw [e] at p2; exact p2.elim
    · have e : i = it.ds.length := by omega
      subst e
      rw [List.drop_length] at p2
      simp only [forL] at p2
      cases hk : chk it.own μ2 with
      | false => rw [hk] at p2; exact p2.elim
      | true =>
        rw [hk, if_pos rfl] at p2
        exact .inl ⟨wk.stop _ α2 μ2 H2 L2 S2 hk (Nat.le_refl _), p2.nx S2 R2⟩
end
end Mi
/-! MiD: for k in d, d a dict with tuple keys; the dict is locked meanwhile. -/
namespace Mi
open PySem L2
section
variable {K : PySem.W.Frag} {cm : Str × Bool → Option Value} {α α' α₀ : List Addr} {H H' H₀ : Hp} {μ μ' : Mem}
theorem rep_ofKey {x : D} {k : Key} (h : keyOf x = some k) : Rep K α H x (kV k) := by
  cases x <;> cases h
  · exact rep_mkI
  · exact rep_mkS
theorem reps_ofKeys : ∀ {ds : List D} {ks : List Key}, keysOf ds = some ks → Reps K α H ds (ks.map kV)
  | [], ks, h => by cases h; simp only [List.map_nil, Reps]
  | d :: ds, ks, h => by
    simp only [keysOf] at h
    obtain ⟨k1, h1, h⟩ := Option.bind_eq_some_iff.mp h
    obtain ⟨k2, h2, h⟩ := Option.map_eq_some_iff.mp h
    subst h
    simp only [List.map_cons, Reps]
    exact ⟨_, _, rfl, rep_ofKey h1, reps_ofKeys h2⟩
theorem rep_ofKeyT {x : D} {k : List Key} {q : Addr} (h : keyTOf x = some k) (e : H q = some (.tup (k.map kV))) : Rep K α H x (.ref q) := by
  cases x with
  | tup ds => cases ds with
    | nil => cases h
    | cons d ds =>
      simp only [Rep]
      exact ⟨q, k.map kV, rfl, .inl e, reps_ofKeys (show keysOf (d :: ds) = some k from h)⟩
  | _ => cases h
theorem RepG.get {κ : Type} {ko : D → Option κ} : ∀ {kvs : List (D × D)} {ws : List (κ × V)} {i : Nat} {k : κ} {v : V}, RepG K ko α H kvs ws → ws[i]? = some (k, v) → ∃ x d, kvs[i]? = some (x, d) ∧ ko x = some k ∧ Rep K α H d v
  | [], ws, i, k, v, r, h => by simp only [RepG] at r; subst r; simp at h
  | (y, e) :: r, ws, i, k, v, q, h => by
    simp only [RepG] at q
    obtain ⟨k', v', ws', e1, h0, h1, h2⟩ := q
    subst e1
    cases i with
    | zero => simp at h; obtain ⟨h3, h4⟩ := h; subst h3; subst h4; exact ⟨y, e, rfl, h0, h1⟩
    | succ i => simp at h; obtain ⟨x, d, g⟩ := RepG.get h2 h; exact ⟨x, d, by simpa using g.1, g.2⟩
theorem walkM_keysT {a : Addr} {o : Obj} {ws : List (List Key × V)} {kvs : List (D × D)} {own : List (Nat × Cell)} (e : H₀ a = some (.frz o (.dT ws))) (r : RepG K keyTOf α₀ H₀ kvs ws) : WalkM K cm α₀ H₀ ⟨kvs.map (·.1), own, false⟩ (Itkt a o ws) where
  go := fun i α μ H L S hc hi => ⟨L.frz _ _ _ e, by rw [← r.len]; simpa using hi⟩
  yld := fun i α μ H x H' L S hc hi y => by
    obtain ⟨eH, k, v, q, h1, ex, h2⟩ := y
    subst eH; subst ex
    obtain ⟨x, d, g1, g2, _⟩ := r.get h1
    exact ⟨x, by rw [List.getElem?_map, g1]; rfl, Later.refl _ _, S, rep_ofKeyT g2 h2⟩
  stop := fun i α μ H L S hc hi => ⟨L.frz _ _ _ e, by rw [← r.len]; simpa using hi⟩
/-- the dict that a loop walked may be written again -/
theorem Sim.unlock (S : Sim K cm α μ H) {n : Nat} {a : Addr} {kvs : List (D × D)} {o : Obj} {ws : List (List Key × V)} (ha : α[n]? = some a) (hc : μ[n]? = some (.dct true kvs)) (hp : H a = some (.frz o (.dT ws))) :
    Sim K cm α (μ.set n (.dct false kvs)) (upd H a (.dT ws)) ∧ ∀ b zs, SqS K H b zs → SqS K (upd H a (.dT ws)) b zs := by
  have ht0 : ∀ b zs, SqT K H b zs → SqT K (upd H a (.dT ws)) b zs := fun b zs h => by
    rcases h with (h | ⟨o', h⟩) | h
    · exact .inl (.inl (by rw [upd_ne (fun e => by rw [e, hp] at h; cases h)]; exact h))
    · exact .inl (.inr ⟨o', by rw [upd_ne (fun e => by rw [e, hp] at h; cases h)]; exact h⟩)
    · exact .inr h
  have ht : ∀ b zs, SqS K H b zs → SqS K (upd H a (.dT ws)) b zs := fun b zs h => by
    rcases h with h | ⟨e, h⟩
    · exact .inl (by rw [upd_ne (fun e => by rw [e, hp] at h; cases h)]; exact h)
    · exact .inr ⟨e, ht0 b zs h⟩
  have hx : ∀ (m : Nat) (x : Addr), α[m]? = some x → α[m]? = some x := fun _ _ h => h
  have hn : n < μ.length := (List.getElem?_eq_some_iff.mp hc).1
  refine ⟨⟨by simp [S.len], S.nd, fun m c' b h1 h2 => ?_⟩, ht⟩
  by_cases hmn : m = n
  · subst hmn
    rw [List.getElem?_set_self hn] at h1
    rw [ha] at h2
    cases h1; cases h2
    obtain ⟨o', ws', e, r⟩ := S.cell m _ a hc ha
    rw [hp] at e
    cases e
    exact ⟨ws, upd_same, RepG.mono hx ht _ _ r⟩
  · rw [List.getElem?_set_ne (Ne.symm hmn)] at h1
    have ne : b ≠ a := fun e => by
      subst e
      obtain ⟨q1, e1⟩ := List.getElem?_eq_some_iff.mp h2
      obtain ⟨q2, e2⟩ := List.getElem?_eq_some_iff.mp ha
      exact hmn ((List.getElem_inj S.nd).mp (e1.trans e2.symm))
    have q := S.cell m c' b h1 h2
    cases c' with
    | lst ds => obtain ⟨vs, e, r⟩ := q; exact ⟨vs, by rw [upd_ne ne]; exact e, Reps.mono hx ht _ _ r⟩
    | rol ds => obtain ⟨o', vs, e, r⟩ := q; exact ⟨o', vs, by rw [upd_ne ne]; exact e, Reps.mono hx ht _ _ r⟩
    | ins C fs => obtain ⟨Ca, dx, ws', mm, e, r⟩ := q; exact ⟨Ca, dx, ws', mm, by rw [upd_ne ne]; exact e, RepF.mono hx ht _ _ r⟩
    | dic kvs => obtain ⟨ws', e, r⟩ := q; exact ⟨ws', by rw [upd_ne ne]; exact e, RepG.mono hx ht _ _ r⟩
    | dct lk kvs =>
      cases lk with
      | false => obtain ⟨ws', e, r⟩ := q; exact ⟨ws', by rw [upd_ne ne]; exact e, RepG.mono hx ht _ _ r⟩
      | true => obtain ⟨o', ws', e, r⟩ := q; exact ⟨o', ws', by rw [upd_ne ne]; exact e, RepG.mono hx ht _ _ r⟩
end
/-- the keys of the locked dict that the name i holds -/
def rKeysL (i : Nat) : Env' → Mem → Res Its := fun ρ μ => match ρ[i]? with
  | some (some (.ref n)) => match μ[n]? with
    | some (.dct true kvs) => .ok ⟨kvs.map (·.1), [(n, .dct true kvs)], false⟩ μ
    | _ => .bad
  | _ => .bad
section
variable {X : Cx} {W : WX} {cm : Str × Bool → Option Value} {tg : Expr} {tgm : Tg} {pos p1 : Pos} {x : Str} {i : Nat} {sts : List Stmt} {rs : Env' → Mem → Out}
theorem mi_keysL (h : PE X (.Name x p1) (tVar i)) : PI X tg (.Name x p1) (tI X.K cm (rKeysL i) W) :=
  (pi_keys h).imp fun σ H R ⟨α, μ, ρ, S, RE, p⟩ => by
    unfold rKeysL at p
    cases e : ρ[i]? with
    | none => rw [e] at p; exact p.elim
    | some od =>
      cases od with
      | none => rw [e] at p; exact p.elim
      | some d =>
        cases d with
        | ref n =>
          rw [e] at p
          dsimp only at p
          obtain ⟨v, e2, r⟩ := RE.val i _ e
          obtain ⟨a, ha, ev⟩ := rep_ref r
          subst ev
          cases em : μ[n]? with
          | none => rw [em] at p; exact p.elim
          | some c =>
            rw [em] at p
            cases c with
            | dct lk kvs =>
              cases lk with
              | true =>
                obtain ⟨o, ws, h1, r1⟩ := S.cell n _ a em ha
                exact ⟨_, e2, a, o, rfl, .inr ⟨ws, h1, Post.here p S _ (walkM_keysT h1 r1)⟩⟩
              | false => exact p.elim
            | _ => exact p.elim
        | _ => rw [e] at p; exact p.elim
theorem ms_forD (hp : PassesOwn (model X.prog X.w) X.A X.env X.xe) (hc : X.calm = true) (h : PE X (.Name x p1) (tVar i)) (hg : PG X tg (gTg X.K tgm)) (hb : PSs X sts (tSm X.K cm rs W))
    (hs : ∀ y, foldedSetIterable (.Name x p1) X.env y = pure y) : PS X (.For tg (.Name x p1) sts [] pos) (tSm X.K cm (rForD i tgm rs) W) :=
  (ps_lock (ms_for (cm := cm) (W := W) hp hc (mi_keysL h) hg hb hs)).imp fun D σ H ⟨α, μ, ρ, S, RE, p⟩ => by
    unfold rForD at p
    cases e : ρ[i]? with
    | none => rw [e] at p; exact p.elim
    | some od =>
      cases od with
      | none => rw [e] at p; exact p.elim
      | some d =>
        cases d with
        | ref n =>
          rw [e] at p
          dsimp only at p
          obtain ⟨v, e2, r⟩ := RE.val i _ e
          obtain ⟨a, ha, ev⟩ := rep_ref r
          subst ev
          cases em : μ[n]? with
          | none => rw [em] at p; exact p.elim
          | some c =>
            rw [em] at p
            cases c with
            | dct lk kvs =>
              cases lk with
              | true => exact p.elim
              | false =>
                replace p : PostS X.K cm α H D W (unlockO n (forL rs tgm [(n, .dct true kvs)] (kvs.map (·.1)) ρ (μ.set n (.dct true kvs)))) := p
                obtain ⟨ws, h1, r1⟩ := S.cell n _ a em ha
                refine ⟨a, .dT ws, h1, True.intro, fun od => ?_⟩
                obtain ⟨S1, L1⟩ := S.put (c := .dct true kvs) (o := .frz od (.dT ws)) ha (fun _ _ z => (by rw [h1] at z; cases z)) fun L => ⟨od, ws, upd_same, r1.later S L⟩
                have hn : n < μ.length := (List.getElem?_eq_some_iff.mp em).1
                refine ⟨α, μ.set n (.dct true kvs), ρ, S1, RE.later S L1, ?_⟩
                have ek : rKeysL i ρ (μ.set n (.dct true kvs)) = .ok ⟨kvs.map (·.1), [(n, .dct true kvs)], false⟩ (μ.set n (.dct true kvs)) := by
                  unfold rKeysL
                  rw [e]
                  dsimp only
                  rw [List.getElem?_set_self hn]
                dsimp only; rw [ek]
                show PostS X.K cm α _ _ W (forL rs tgm [(n, .dct true kvs)] (kvs.map (·.1)) ρ (μ.set n (.dct true kvs)))
                have back : ∀ {α' : List Addr} {H' : Hp}, Later α (upd H a (.frz od (.dT ws))) α' H' → H' a = some (.frz od (.dT ws)) ∧ Later α H α' (upd H' a (.dT ws)) := fun {α' H'} L => by
                  have hf := L.frz a od (.dT ws) upd_same
                  have am : a ∈ α := List.mem_of_getElem? ha
                  refine ⟨hf, L.ext, fun y o hy ho => L.new y o hy (by rw [upd_ne (fun z => hy (by rw [z]; exact am))]; exact ho), fun y o hy ho => ?_, fun y o u hu => ?_⟩
                  · have ne : y ≠ a := fun z => hy (by rw [z]; exact am)
                    rw [upd_ne ne]
                    exact L.keep y o hy (by rw [upd_ne ne]; exact ho)
                  · have ne : y ≠ a := fun z => by rw [z, h1] at hu; cases hu
                    rw [upd_ne ne]
                    exact L.frz y o u (by rw [upd_ne ne]; exact hu)
                cases eo : forL rs tgm [(n, .dct true kvs)] (kvs.map (·.1)) ρ (μ.set n (.dct true kvs)) with
                | nx ρ' μ' =>
                  rw [eo] at p
                  simp only [unlockO] at p
                  intro σ' α' H' L' S' R'
                  obtain ⟨hf, Lb⟩ := back L'
                  cases ec : μ'[n]? with
                  | none => rw [ec] at p; exact p.elim
                  | some c2 =>
                    rw [ec] at p
                    cases c2 with
                    | dct lk2 kvs2 =>
                      cases lk2 with
                      | false => exact p.elim
                      | true =>
                        obtain ⟨S2, ht⟩ := S'.unlock (L'.get ha) ec hf
                        exact ⟨hf, p σ' α' _ Lb S2 ⟨R'.len, fun j d ej => let ⟨v, g1, g2⟩ := R'.val j d ej; ⟨v, g1, Rep.mono (fun _ _ h => h) ht d v g2⟩⟩⟩
                    | _ => exact p.elim
                | rt d' μ' =>
                  rw [eo] at p
                  simp only [unlockO] at p
                  intro α' H' v' L' S' rv'
                  obtain ⟨hf, Lb⟩ := back L'
                  cases ec : μ'[n]? with
                  | none => rw [ec] at p; exact p.elim
                  | some c2 =>
                    rw [ec] at p
                    cases c2 with
                    | dct lk2 kvs2 =>
                      cases lk2 with
                      | false => exact p.elim
                      | true =>
                        obtain ⟨S2, ht⟩ := S'.unlock (L'.get ha) ec hf
                        exact ⟨hf, p α' _ v' Lb S2 (Rep.mono (fun _ _ h => h) ht d' v' rv')⟩
                    | _ => exact p.elim
                | _ => rw [eo] at p; exact p.elim
            | _ => exact p.elim
        | _ => rw [e] at p; exact p.elim
end
end Mi
/-! Mi9: stores into lists and fields, op=, own calls, attributes, isinstance, methods of lists. -/
namespace Mi
open PySem L2

section
variable {K : PySem.W.Frag} {cm : Str × Bool → Option Value} {α α' : List Addr} {H H' : Hp} {μ μ' : Mem}
theorem fld_some {f : Str} {d : D} : ∀ {fs : List (Str × D)} {ws : List (Str × V)}, RepF K α H fs ws → fldD fs f = some d → ∃ v, ws.lookup f = some v ∧ Rep K α H d v
  | [], _, _, h => by simp [fldD] at h
  | (g, x) :: r, _, q, h => by
    simp only [RepF] at q
    obtain ⟨v, ws', e, h1, h2⟩ := q
    subst e
    simp only [fldD] at h
    by_cases e : f = g
    · rw [if_pos e] at h; cases h
      exact ⟨v, by simp [List.lookup_cons, e], h1⟩
    · rw [if_neg e] at h
      obtain ⟨v', q1, q2⟩ := fld_some h2 h
      exact ⟨v', by rw [List.lookup_cons, beq_eq_false_iff_ne.mpr e]; exact q1, q2⟩
theorem fld_none {f : Str} : ∀ {fs : List (Str × D)} {ws : List (Str × V)}, RepF K α H fs ws → fldD fs f = none → ws.lookup f = none
  | [], _, q, _ => by simp only [RepF] at q; subst q; rfl
  | (g, x) :: r, _, q, h => by
    simp only [RepF] at q
    obtain ⟨v, ws', e, h1, h2⟩ := q
    subst e
    simp only [fldD] at h
    by_cases e : f = g
    · rw [if_pos e] at h; cases h
    · rw [if_neg e] at h
      rw [List.lookup_cons, beq_eq_false_iff_ne.mpr e]
      exact fld_none h2 h
theorem fld_put {f : Str} {d : D} {v : V} (r : Rep K α H d v) : ∀ {fs : List (Str × D)} {ws : List (Str × V)}, RepF K α H fs ws → RepF K α H (putFld fs f d) (putF f v ws)
  | [], _, q => by
    simp only [RepF] at q; subst q
    simp only [putFld, putF, RepF]
    exact ⟨v, [], rfl, r, rfl⟩
  | (g, x) :: rr, _, q => by
    simp only [RepF] at q
    obtain ⟨u, ws', e, h1, h2⟩ := q
    subst e
    simp only [putFld, putF]
    by_cases e : f = g
    · rw [if_pos e, if_pos e.symm]
      simp only [RepF]
      exact ⟨v, ws', rfl, r, h2⟩
    · rw [if_neg e, if_neg (fun z => e z.symm)]
      simp only [RepF]
      exact ⟨u, _, rfl, h1, fld_put r h2⟩
theorem fld_len : ∀ {fs : List (Str × D)} {ws : List (Str × V)}, RepF K α H fs ws → fs.length = ws.length
  | [], _, q => by simp only [RepF] at q; subst q; rfl
  | (g, x) :: rr, _, q => by
    simp only [RepF] at q
    obtain ⟨u, ws', e, h1, h2⟩ := q
    subst e
    simp [fld_len h2]
/-- x[i] = v within the memory -/
theorem set_ok {x y d : D} {o i v : V} {μ' : Mem} {Q : Hp → Prop} (S : Sim K cm α μ H) (rx : Rep K α H x o) (ry : Rep K α H y i) (rv : Rep K α H d v) (h : setD x y d μ = some μ')
    (q : ∀ H', Later α H α H' → Sim K cm α μ' H' → Q H') : rSetL o i v H Q ∨ rSetD o i v H Q := by
  cases x with
  | ref n =>
    obtain ⟨a, ha, e⟩ := rep_ref rx
    simp only [setD] at h
    cases em : μ[n]? with
    | none => rw [em] at h; cases h
    | some c =>
      rw [em] at h
      cases c with
      | lst ds =>
        cases y with
        | int k =>
          simp only at h
          cases ej : ixOf ds.length k with
          | none => rw [ej] at h; cases h
          | some j =>
            rw [ej] at h
            cases h
            obtain ⟨vs, h1, r1⟩ := S.lstAt em ha
            obtain ⟨S', L'⟩ := S.put (c := .lst (ds.set j d)) (o := .lst (vs.set j v)) ha (fun _ _ z => (by rw [h1] at z; cases z)) fun L => ⟨_, upd_same, (r1.later S L).set (rv.later S L) j⟩
            exact .inl ⟨a, vs, k, j, e, rep_int ry, h1, by rw [← r1.len, ← ixOf_eq]; exact ej, q _ L' S'⟩
        | _ => cases h
      | dic kvs =>
        dsimp only at h
        split at h
        · rename_i hk
          cases h
          obtain ⟨k, ek⟩ := isKey_of hk.1
          obtain ⟨ws, h1, r1⟩ := S.cell n _ a em ha
          obtain ⟨S', L'⟩ := S.put (c := .dic (putK kvs y d)) (o := .dK (L2.putK ws k v)) ha (fun _ _ z => (by rw [h1] at z; cases z)) fun L => ⟨_, upd_same, (r1.later S L).put key_inj ek (rv.later S L)⟩
          refine .inr ⟨a, _, e, ?_, q _ L' S'⟩
          rw [rep_key ek ry]
          exact DPut.k h1 (by rw [← r1.len, ← lim_eq]; exact hk.2)
        · cases h
      | dct lk kvs =>
        cases lk with
        | true => cases h
        | false =>
          dsimp only at h
          split at h
          · rename_i hk
            cases h
            obtain ⟨k, ek⟩ := isKeyT_of hk.1
            obtain ⟨b, ev, eb⟩ := rep_keyT ek ry
            obtain ⟨ws, h1, r1⟩ := S.cell n _ a em ha
            obtain ⟨S', L'⟩ := S.put (c := .dct false (putK kvs y d)) (o := .dT (L2.putK ws k v)) ha (fun _ _ z => (by rw [h1] at z; cases z)) fun L => ⟨_, upd_same, (r1.later S L).put keyT_inj ek (rv.later S L)⟩
            refine .inr ⟨a, _, e, ?_, q _ L' S'⟩
            rw [ev]
            exact DPut.t h1 eb (by rw [← r1.len, ← lim_eq]; exact hk.2)
          · cases h
      | _ => cases h
  | _ => cases h
end

/-! ### the classes and the defs that a body may ask -/
section
variable (K : PySem.W.Frag) (cm : Str × Bool → Option Value)
/-- a def's promise: it computes r -/
def spM (np : Nat) (r : List D → Mem → Res D) : Sp := fun vs H Q E => ∃ α μ ds, Sim K cm α μ H ∧ Reps K α H ds vs ∧ ds.length = np ∧ Post K cm α H (okV K Q) (fun c d H' => E c d H') (r ds μ)
structure Callee (P : Program) (w : World) (mg : Str → Option Value) (base : Heap) (k : Nat) (r : List D → Mem → Res D) (ga : Addr) (fd : FuncData) (ps : List Str) : Prop where
  ok : FnOk P w K mg base (L2.CX P w) k ga fd ps (spM K cm ps.length r)
  bind : Binds K fd ps []
  len : ∀ ds μ, ds.length ≠ ps.length → r ds μ = .bad
structure GamOk (P : Program) (w : World) (mg : Str → Option Value) (base : Heap) (k : Nat) (Γ : Gam) : Prop where
  fld : ∀ C f Ca, cm (C, true) = some (.ref Ca) → Γ.fld C f = true → Cls K Ca ∧ NoAttr K Ca f
  prop : ∀ C f g Ca, cm (C, true) = some (.ref Ca) → Γ.prop C f = some g → Cls K Ca ∧ ∃ p ga fd ps, PropOf K Ca f p ga ∧ Callee K cm P w mg base k (Γ.fn g) ga fd ps
  meth : ∀ C m g Ca, cm (C, true) = some (.ref Ca) → Γ.meth C m = some g → Cls K Ca ∧ ∃ ga fd ps, Meth K Ca m ga ∧ Callee K cm P w mg base k (Γ.fn g) ga fd ps
  init : ∀ C g, Γ.init C = some g → ∃ Ca ga fd ps, cm (C, true) = some (.ref Ca) ∧ mg C = some (.ref Ca) ∧ Mk K Ca ga ∧ Callee K cm P w mg base k (Γ.fn g) ga fd ps
end

section
variable {X : Cx} {W : WX} {cm : Str × Bool → Option Value} {pos p1 p2 : Pos} {a b c e o i : Expr} {re ra rb rc ro ri : Env' → Mem → Res D} {st : Stmt} {rs : Env' → Mem → Res (List D)} {es : List Expr} {Γ : Gam} {k : Nat}
def rAsgSub (re ro ri : Env' → Mem → Res D) : Env' → Mem → Out := fun ρ μ => (re ρ μ).to ρ fun v μ1 => (ro ρ μ1).to ρ fun x μ2 => (ri ρ μ2).to ρ fun y μ3 => match setD x y v μ3 with
    | some μ4 => .nx ρ μ4
    | none => .bad
theorem PSet.or {X : Cx} {r r' : TSet} (h : PSet X r) (h' : PSet X r') : PSet X (fun o i v H Q => r o i v H Q ∨ r' o i v H Q) := by
  intro pins s σ H o i v ov iv u Q I ro ri rv q
  rcases q with q | q
  · exact h pins s σ H o i v ov iv u Q I ro ri rv q
  · exact h' pins s σ H o i v ov iv u Q I ro ri rv q
theorem ms_asgSub (hu : X.A.units + 65 < cLine) (he : PE X e (tE X.K cm re W)) (ho : PE X o (tE X.K cm ro W)) (hi : PE X i (tE X.K cm ri W)) (hn : noSlice i = true) (hs : swapsWithSole [.Subscript o i p1] e pos.line X.env = pure false) (hw : swappedStores [.Subscript o i p1] e X.env = pure none) :
    PS X (.Assign [.Subscript o i p1] e pos) (tSm X.K cm (rAsgSub re ro ri) W) := by
  refine (ps_asg he (pg_sub ho hi (PSet.or set_list (set_dict (by omega))) (by cases i <;> first | (intro _; rfl) | cases hn)) hs hw rfl).imp fun D σ H ⟨α, μ, ρ, S, R, p⟩ => ?_
  refine ⟨α, μ, ρ, S, R, (p.to S R).mono fun d μ1 α1 H1 L1 S1 p1 v rv => ?_⟩
  have R1 := R.later S L1
  refine ⟨α1, μ1, ρ, S1, R1, (p1.to S1 R1).mono fun x μ2 α2 H2 L2 S2 p2 ov rx => ?_⟩
  have R2 := R1.later S1 L2
  refine ⟨α2, μ2, ρ, S2, R2, (p2.to S2 R2).mono fun y μ3 α3 H3 L3 S3 p3 iv ry => ?_⟩
  have R3 := R2.later S2 L3
  cases em : setD x y d μ3 with
  | none => rw [em] at p3; exact p3.elim
  | some μ4 =>
    rw [em] at p3
    exact set_ok S3 (rx.later S2 L3) ry ((rv.later S1 L2).later S2 L3) em fun H' L' S' => p3 σ α3 H' L' S' (R3.later S3 L')
/-- o.f = e -/
def rAsgFld (Γ : Gam) (f : Str) (re ro : Env' → Mem → Res D) : Env' → Mem → Out := fun ρ μ => (re ρ μ).to ρ fun v μ1 => (ro ρ μ1).to ρ fun x μ2 => match x with
    | .ref n => match μ2[n]? with
      | some (.ins C fs) => if Γ.fld C f ∧ fs.length < 900 then .nx ρ (μ2.set n (.ins C (putFld fs f v))) else .bad
      | _ => .bad
    | _ => .bad
theorem ms_asgFld {f : Str} (G : GamOk X.K cm X.prog X.w X.mg X.base k Γ) (he : PE X e (tE X.K cm re W)) (ho : PE X o (tE X.K cm ro W)) (hs : swapsWith e (some (.Attribute o f p1)) pos.line X.env = pure false) :
    PS X (.Assign [.Attribute o f p1] e pos) (tSm X.K cm (rAsgFld Γ f re ro) W) := by
  refine (ps_fld ho he hs).imp fun D σ H ⟨α, μ, ρ, S, R, p⟩ => ?_
  refine ⟨α, μ, ρ, S, R, (p.to S R).mono fun d μ1 α1 H1 L1 S1 p1 v rv => ?_⟩
  have R1 := R.later S L1
  refine ⟨α1, μ1, ρ, S1, R1, (p1.to S1 R1).mono fun x μ2 α2 H2 L2 S2 p2 ov rx => ?_⟩
  have R2 := R1.later S1 L2
  cases x with
  | ref n =>
    obtain ⟨a, ha, ev⟩ := rep_ref rx
    cases em : μ2[n]? with
    | none => simp only [em] at p2; exact p2.elim
    | some cl =>
      cases cl with
      | ins C fs =>
        simp only [em] at p2
        by_cases hc : Γ.fld C f = true ∧ fs.length < 900
        · rw [if_pos hc] at p2
          obtain ⟨Ca, dx, ws, h1, h2, h3⟩ := S2.insAt em ha
          obtain ⟨cl, na⟩ := G.fld C f Ca h1 hc.1
          obtain ⟨S', L'⟩ := S2.put (c := .ins C (putFld fs f d)) (o := .ins Ca dx (putF f v ws)) ha (fun _ _ z => (by rw [h2] at z; cases z)) fun L => ⟨Ca, dx, _, h1, upd_same, fld_put ((rv.later S1 L2).later S2 L) (h3.later S2 L)⟩
          refine ⟨a, Ca, dx, ws, ev, h2, cl, na, by rw [← fld_len h3]; omega, p2 σ α2 _ L' S' (R2.later S2 L')⟩
        · rw [if_neg hc] at p2; exact p2.elim
      | _ => simp only [em] at p2; exact p2.elim
  | _ => exact p2.elim
/-! ### op= -/
abbrev AugOk (X : Cx) (pyop : Operator) (op : BOp) : Prop := ∃ r, OpR X (inplaceOp pyop) r ∧ ∀ (i j z : Int) (H : Hp) (Q : VK), binI op i j = some z → Q (.int z) H → r (.int i) (.int j) H Q
theorem aug_add : AugOk X .Add .add := ⟨_, iop_add, fun i j z H Q e q => ⟨i, j, rfl, rfl, by simp only [binI] at e; cases e; exact q⟩⟩
theorem aug_sub : AugOk X .Sub .sub := ⟨_, iop_sub, fun i j z H Q e q => ⟨i, j, rfl, rfl, by simp only [binI] at e; cases e; exact q⟩⟩
theorem aug_mul : AugOk X .Mult .mul := ⟨_, iop_mul, fun i j z H Q e q => by
  simp only [binI] at e
  split at e
  · rename_i hs
    cases e
    rw [Bool.or_eq_true] at hs
    exact ⟨i, j, rfl, rfl, hs.elim (fun z => .inl (small64_of z)) (fun z => .inr (small64_of z)), q⟩
  · cases e⟩
theorem aug_fdiv : AugOk X .FloorDiv .fdiv := ⟨_, iop_fdiv, fun i j z H Q e q => by
  simp only [binI] at e
  split at e
  · rename_i hs; cases e; exact ⟨i, j, rfl, rfl, hs, q⟩
  · cases e⟩
theorem aug_mod : AugOk X .Mod .mod := ⟨_, iop_mod, fun i j z H Q e q => by
  simp only [binI] at e
  split at e
  · rename_i hs; cases e; exact ⟨i, j, rfl, rfl, hs, q⟩
  · cases e⟩
theorem aug_shr : AugOk X .RShift .shr := ⟨_, iop_shr, fun i j z H Q e q => by
  simp only [binI] at e
  split at e
  · rename_i hs; cases e; exact ⟨i, j, rfl, rfl, hs, q⟩
  · cases e⟩
theorem aug_bor : AugOk X .BitOr .bor := ⟨_, iop_or, fun i j z H Q e q => ⟨i, j, rfl, rfl, by simp only [binI] at e; cases e; exact q⟩⟩
def augV (op : BOp) (x y : D) (μ : Mem) : Res D := match x, y with
  | .int a, .int b => Res.ofO ((binI op a b).map D.int) μ
  | _, _ => .bad
theorem aug_go {op : BOp} {x y : D} {μ1 : Mem} {α1 : List Addr} {H1 : Hp} {ρ : Env'} {f : D → Mem → Out} {Z : Ends} (p : PostS X.K cm α1 H1 Z W ((augV op x y μ1).to ρ f)) : ∃ i j z, x = .int i ∧ y = .int j ∧ binI op i j = some z ∧ PostS X.K cm α1 H1 Z W (f (.int z) μ1) := by
  cases x with
  | int i =>
    cases y with
    | int j =>
      cases e : binI op i j with
      | none => simp only [augV, e] at p; exact p.elim
      | some z =>
        simp only [augV, e] at p
        exact ⟨i, j, z, rfl, rfl, e, p⟩
    | _ => exact p.elim
  | _ => cases y <;> exact p.elim
theorem ms_aug {n : Nat} {x : Str} {pyop : Operator} {op : BOp} (hN : X.N.Nodup) (hi : X.N[n]? = some x) (hx : Loc X.env.scope x) (hf : X.fn x = true ∨ X.env.scope.names.lookup x = some .local) (h : AugOk X pyop op) (he : PE X e (tE X.K cm re W)) :
    PS X (.AugAssign (.Name x p1) pyop e pos) (tSm X.K cm (fun ρ μ => match ρ[n]? with
    | some (some x) => (re ρ μ).to ρ fun y μ1 => (augV op x y μ1).to ρ fun z μ2 => .nx (setE ρ n z) μ2
    | _ => .bad) W) := by
  obtain ⟨r, ho, g⟩ := h
  refine (ps_aug (ti := r) hN hi hx he (fun pins s σ H x y v u Q I r1 r2 q => ho pins s σ H x y v u Q I r1 r2 q) hf).imp fun D σ H ⟨α, μ, ρ, S, R, p⟩ => ?_
  dsimp only at p
  cases en : ρ[n]? with
  | none => rw [en] at p; exact p.elim
  | some od =>
    rw [en] at p
    cases od with
    | none => exact p.elim
    | some d =>
      obtain ⟨v, e1, rv⟩ := R.val n d en
      refine ⟨v, e1, α, μ, ρ, S, R, (p.to S R).mono fun y μ1 α1 H1 L1 S1 p1 u ru => ?_⟩
      obtain ⟨i, j, z, e2, e3, e4, p2⟩ := aug_go p1
      subst e2; subst e3
      rw [rep_int rv, rep_int ru]
      exact g i j z _ _ e4 (p2 _ _ _ (Later.refl _ _) S1 ((R.later S L1).set rep_mkI n))
end
end Mi
/-! Mi10: calls of own defs, attributes, methods, makers. -/
namespace Mi
open PySem PySem.Spec PyProof.Rows L2

def plainBase (e : Expr) : Bool := match e with
  | .Call (.Name _ _) [] [] _ => false
  | _ => true
theorem base_plain {o : Expr} {f : Str} {env : Env} {w : Sem Value} (h : plainBase o = true) : attributeBase o f env w = w := by
  unfold attributeBase
  split
  · cases h
  · rfl
theorem call_form {o : Expr} {name : Str} {apos pos : Pos} {args : List Expr} {env : Env} (hb : plainBase o = true) (hl : (apos.endLine == pos.line) = true) (hs : args.all noStar = true) (hn : args.length < 30) :
    eval (.Call (.Attribute o name apos) args [] pos) env = (do
      let ov ← eval o env
      standAt apos.atName
      let (f, first) ← holding [ov] (getMethod ov name (do return (← importBound o env).getD true))
      callWith pos f first (backTo pos (starEach args env)) (backToKw pos (keywordEach [] env))) := by
  rw [arm_eval_Call, base_plain hb]
  have hform : methodCallForm (args.length + ([] : List Keyword).length) (backTo pos (starEach args env)) (backToKw pos (keywordEach [] env)) = true := by
    unfold methodCallForm
    rw [star_all hs]
    have e1 : (backToKw pos (keywordEach [] env)).all (fun x => x.1.isSome) = true := rfl
    have e2 : (backToKw pos (keywordEach [] env)).isEmpty = true := rfl
    rw [e1, e2]
    simp only [Bool.true_and, if_true, List.length_nil, Nat.add_zero, decide_eq_true_eq]
    exact hn
  have hpos : methodCallPos true o env apos pos = pure pos := by unfold methodCallPos; simp [hl]
  unfold methodCall
  rw [hform, hpos]
  rfl

section
variable {X : Cx} {W : WX} {cm : Str × Bool → Option Value} {pos p1 p2 apos : Pos} {a b c e o i : Expr} {re ra rb rc ro ri : Env' → Mem → Res D} {st : Stmt} {rs : Env' → Mem → Res (List D)} {es : List Expr} {Γ : Gam} {k : Nat}
  {r : List D → Mem → Res D} {ga : Addr} {fd : FuncData} {ps : List Str}
/-- the callee runs -/
theorem run_fnM {pins : List (Addr × Obj)} {σ : L2.St} {H : Hp} {s : Shared} {Q : VK} {us : List Value} {vs : List V} {α : List Addr} {μ : Mem} {ds : List D} (C : Callee X.K cm X.prog X.w X.mg X.base k r ga fd ps) (hr : Room k X.A) (tk : Takes X W)
    (I : Inv X pins σ H s) (rv : Vals vs us) (S : Sim X.K cm α μ H) (rd : Reps X.K α H ds vs) (p : Post X.K cm α H (okV X.K Q) (fun c d H' => W c d σ H') (r ds μ)) : wpAny (model X.prog X.w) X.A (call (.ref ga) us) (EP X pins σ Q) X.xe s := by
  have hl : ds.length = ps.length := Classical.byContradiction fun h => by rw [C.len ds μ h] at p; exact p.elim
  exact run_fnS C.ok hr C.bind (E := WE W) (passAt tk σ) I rv ⟨α, μ, ds, S, rd, hl, p⟩
/-- the arguments, then what comes of them -/
theorem args_go {σ : L2.St} {H : Hp} {Q : VK} {f : List D → Mem → Res D} (h : tE X.K cm (fun ρ μ => (rs ρ μ).bind fun ds μ1 => f ds μ1) W σ H Q) :
    tAs X.K cm rs W σ H fun vs H1 => ∃ α1 μ1 ds, Sim X.K cm α1 μ1 H1 ∧ Reps X.K α1 H1 ds vs ∧ Post X.K cm α1 H1 (okV X.K Q) (fun c d H' => W c d σ H') (f ds μ1) := by
  obtain ⟨α, μ, ρ, S, R, p⟩ := h
  exact ⟨α, μ, ρ, S, R, p.then fun ds μ1 α1 H1 L1 S1 p1 vs rd => ⟨α1, μ1, ds, S1, rd, p1⟩⟩
theorem me_call {x : Str} (C : Callee X.K cm X.prog X.w X.mg X.base k r ga fd ps) (hr : Room k X.A) (tk : Takes X W) (hg : Gl X x) (hm : X.mg x = some (.ref ga)) (hk : PySem.W.keepIn X.K (.ref ga) = true) (hdb : (x == ("__debug__" : Str)) = false)
    (ha : PA X es (tAs X.K cm rs W)) (hs : es.all noStar = true) : PE X (.Call (.Name x p1) es [] pos) (tE X.K cm (fun ρ μ => (rs ρ μ).bind fun ds μ1 => r ds μ1) W) := by
  refine ⟨fun pins s σ H Q I h => ?_⟩
  have h2 := args_go h
  refine wpAny_Call_Name_kw (ld_glob I hg hm ?_ hdb)
  cases es with
  | nil =>
    refine PySem.W.callWith_K0 I.kIn hk ?_
    have key := ha.run pos pins s σ H _ I h2
    have e : spliced (backTo pos (starEach [] X.env)) = pure [] := rfl
    rw [e] at key
    obtain ⟨α, μ, ρ, S, R, p⟩ := h
    have q := wpAny_bind (f := fun us => call (.ref ga) us) (thn key fun us s1 ⟨vs, H1, I1, rv, α1, μ1, ds, S1, rd, p1⟩ => run_fnM C hr tk I1 rv S1 rd p1)
    exact q
  | cons e1 es1 =>
    rw [List.all_cons, Bool.and_eq_true] at hs
    refine PySem.W.callWith_K (h₀ := X.base) I.ok.mod.kin hk (thn (ha.run pos pins s σ H _ I h2) fun us s1 ⟨vs, H1, I1, rv, α1, μ1, ds, S1, rd, p1⟩ => ⟨I1.kIn, ?_⟩) (star_cons hs.1) (star_none hs.2)
    exact run_fnM C hr tk I1 rv S1 rd p1
/-- o.f -/
def rAtt (Γ : Gam) (f : Str) (ra : Env' → Mem → Res D) : Env' → Mem → Res D := fun ρ μ => (ra ρ μ).bind fun x μ1 => match x with
    | .ref n => match μ1[n]? with
      | some (.ins C fs) => match Γ.prop C f with
        | some g => (Γ.fn g [.ref n] μ1).noex
        | none => if Γ.fld C f then Res.ofO (fldD fs f) μ1 else .bad
      | _ => .bad
    | _ => .bad
theorem Reps.cons {K : PySem.W.Frag} {α : List Addr} {H : Hp} {d : D} {v : V} {ds : List D} {vs : List V} (h : Rep K α H d v) (r : Reps K α H ds vs) : Reps K α H (d :: ds) (v :: vs) := by
  simp only [Reps]
  exact ⟨v, vs, rfl, h, r⟩
theorem Reps.nil' {K : PySem.W.Frag} {α : List Addr} {H : Hp} : Reps K α H [] [] := by simp only [Reps]
theorem me_att {f : Str} (G : GamOk X.K cm X.prog X.w X.mg X.base k Γ) (hr : Room (k + 1) X.A) (hb : plainBase a = true) (ha : PE X a (tE X.K cm ra W)) : PE X (.Attribute a f pos) (tE X.K cm (rAtt Γ f ra) W) := by
  refine ⟨fun pins s σ H Q I h => ?_⟩
  obtain ⟨α, μ, ρ, S, R, p⟩ := h
  refine attr_of (base_plain hb) (thn (ha.run pins s σ H (fun v H1 => ∃ α1 μ1 x, Sim X.K cm α1 μ1 H1 ∧ Rep X.K α1 H1 x v ∧ Post X.K cm α1 H1 (okV X.K Q) (fun c d H' => W c d σ H') (match x with
    | .ref n => match μ1[n]? with
      | some (.ins C fs) => match Γ.prop C f with
        | some g => (Γ.fn g [.ref n] μ1).noex
        | none => if Γ.fld C f then Res.ofO (fldD fs f) μ1 else .bad
      | _ => .bad
    | _ => .bad)) I ⟨α, μ, ρ, S, R, p.then fun x μ1 α1 H1 L1 S1 p1 v rv => ⟨α1, μ1, x, S1, rv, p1⟩⟩) fun u s1 ⟨v, H1, I1, ru, α1, μ1, x, S1, rx, p1⟩ => ?_)
  cases x with
  | ref n =>
    obtain ⟨ad, had, ev⟩ := rep_ref rx
    subst ev
    obtain rfl : u = Value.ref ad := ru
    cases em : μ1[n]? with
    | none => simp only [em] at p1; exact p1.elim
    | some cl =>
      cases cl with
      | ins C fs =>
        simp only [em] at p1
        obtain ⟨Ca, dx, ws, h1, h2, h3⟩ := S1.insAt em had
        cases ep : Γ.prop C f with
        | none =>
          simp only [ep] at p1
          cases ef : Γ.fld C f with
          | false => rw [ef] at p1; exact p1.elim
          | true =>
            rw [ef, if_pos rfl] at p1
            obtain ⟨d, e1, q⟩ := Post.ofO p1 S1
            obtain ⟨c, na⟩ := G.fld C f Ca h1 ef
            obtain ⟨v, lk, rd⟩ := fld_some h3 e1
            exact getattr_ok I1 h2 c na lk fun u' s2 I2 ru' => ⟨v, H1, I2, ru', q v rd⟩
        | some g =>
          simp only [ep] at p1
          obtain ⟨c, pa, ga, fd, ps, hp, Cl⟩ := G.prop C f g Ca h1 ep
          have p2 : Post X.K cm α1 H1 (okV X.K Q) (fun _ _ _ => False) (Γ.fn g [.ref n] μ1) := Post.noex p1
          have hl : [D.ref n].length = ps.length := Classical.byContradiction fun h => by rw [Cl.len _ μ1 h] at p2; exact p2.elim
          exact getprop_ok (E := E0) I1 h2 c hp Cl.ok hr Cl.bind .nil passL ⟨α1, μ1, [.ref n], S1, Reps.one rx, hl, p2⟩
      | _ => simp only [em] at p1; exact p1.elim
  | _ => exact p1.elim
/-- o.m(..) -/
def rOcall (Γ : Gam) (m : Str) (ro : Env' → Mem → Res D) (rs : Env' → Mem → Res (List D)) : Env' → Mem → Res D := fun ρ μ => (ro ρ μ).bind fun x μ1 => match x with
    | .ref n => match μ1[n]? with
      | some (.ins C fs) => match Γ.meth C m, fldD fs m with
        | some g, none => (rs ρ μ1).bind fun ds μ2 => Γ.fn g (.ref n :: ds) μ2
        | _, _ => .bad
      | _ => .bad
    | _ => .bad
theorem me_ocall {m : Str} (G : GamOk X.K cm X.prog X.w X.mg X.base k Γ) (hr : Room k X.A) (tk : Takes X W) (hb : plainBase o = true) (hl : (apos.endLine == pos.line) = true) (hs : es.all noStar = true) (hn : es.length < 30)
    (ho : PE X o (tE X.K cm ro W)) (ha : PA X es (tAs X.K cm rs W)) : PE X (.Call (.Attribute o m apos) es [] pos) (tE X.K cm (rOcall Γ m ro rs) W) := by
  refine ⟨fun pins s σ H Q I h => ?_⟩
  obtain ⟨α, μ, ρ, S, R, p⟩ := h
  refine PySem.W.methodCall_KW (thn (ho.run pins s σ H (fun v H1 => ∃ α1 μ1 x, Sim X.K cm α1 μ1 H1 ∧ RepE X.K α1 H1 ρ σ ∧ Rep X.K α1 H1 x v ∧ Post X.K cm α1 H1 (okV X.K Q) (fun c d H' => W c d σ H') (match x with
    | .ref n => match μ1[n]? with
      | some (.ins C fs) => match Γ.meth C m, fldD fs m with
        | some g, none => (rs ρ μ1).bind fun ds μ2 => Γ.fn g (.ref n :: ds) μ2
        | _, _ => .bad
      | _ => .bad
    | _ => .bad)) I ⟨α, μ, ρ, S, R, p.then fun x μ1 α1 H1 L1 S1 p1 v rv => ⟨α1, μ1, x, S1, R.later S L1, rv, p1⟩⟩) fun u s1 ⟨v, H1, I1, ru, α1, μ1, x, S1, R1, rx, p1⟩ => ?_) (call_form hb hl hs hn)
  cases x with
  | ref n =>
    have rx' := rx
    obtain ⟨ad, had, ev⟩ := rep_ref rx
    subst ev
    obtain rfl : u = Value.ref ad := ru
    cases em : μ1[n]? with
    | none => simp only [em] at p1; exact p1.elim
    | some cl =>
      cases cl with
      | ins C fs =>
        simp only [em] at p1
        obtain ⟨Ca, dx, ws, h1, h2, h3⟩ := S1.insAt em had
        cases ep : Γ.meth C m with
        | none => simp only [ep] at p1; exact p1.elim
        | some g =>
          cases ef : fldD fs m with
          | some z => simp only [ep, ef] at p1; exact p1.elim
          | none =>
            simp only [ep, ef] at p1
            obtain ⟨c, ga, fd, ps, hm, Cl⟩ := G.meth C m g Ca h1 ep
            refine getmeth_ok I1 h2 c hm (fld_none h3 ef) ?_
            have h4 : tE X.K cm (fun ρ μ => (rs ρ μ).bind fun ds μ2 => Γ.fn g (.ref n :: ds) μ2) W σ H1 Q := ⟨α1, μ1, ρ, S1, R1, p1⟩
            have h5 : tAs X.K cm rs W σ H1 fun vs H2 => ∃ α2 μ2 ds, Sim X.K cm α2 μ2 H2 ∧ Reps X.K α2 H2 (.ref n :: ds) (.ref ad :: vs) ∧ Post X.K cm α2 H2 (okV X.K Q) (fun c d H' => W c d σ H') (Γ.fn g (.ref n :: ds) μ2) :=
              ⟨α1, μ1, ρ, S1, R1, p1.then fun ds μ2 α2 H2 L2 S2 p2 vs rd => ⟨α2, μ2, ds, S2, Reps.cons (rx'.later S1 L2) rd, p2⟩⟩
            cases es with
            | nil =>
              refine PySem.W.callWith_K0 (first := [.ref ad]) I1.kIn hm.kp ?_
              have key := ha.run pos pins s1 σ H1 _ I1 h5
              have e : spliced (backTo pos (starEach [] X.env)) = pure [] := rfl
              rw [e] at key
              exact wpAny_bind (f := fun us => call (.ref ga) (.ref ad :: us)) (thn key fun us s2 ⟨vs, H2, I2, rv, α2, μ2, ds, S2, rd, p2⟩ => run_fnM (us := .ref ad :: us) (vs := .ref ad :: vs) Cl hr tk I2 (.cons rfl rv) S2 rd p2)
            | cons e1 es1 =>
              rw [List.all_cons, Bool.and_eq_true] at hs
              refine PySem.W.callWith_K (first := [.ref ad]) (h₀ := X.base) I.ok.mod.kin hm.kp (thn (ha.run pos pins s1 σ H1 _ I1 h5) fun us s2 ⟨vs, H2, I2, rv, α2, μ2, ds, S2, rd, p2⟩ => ⟨I2.kIn, ?_⟩) (star_cons hs.1) (star_none hs.2)
              exact run_fnM (us := .ref ad :: us) (vs := .ref ad :: vs) Cl hr tk I2 (.cons rfl rv) S2 rd p2
      | _ => simp only [em] at p1; exact p1.elim
  | _ => exact p1.elim
/-- C(..) -/
def rNew (Γ : Gam) (C : Str) (rs : Env' → Mem → Res (List D)) : Env' → Mem → Res D := fun ρ μ => (rs ρ μ).bind fun ds μ1 => match Γ.init C with
    | some g => (Γ.fn g (.ref μ1.length :: ds) (μ1 ++ [.ins C []])).bind fun d μ2 => if d = .non then .ok (.ref μ1.length) μ2 else .bad
    | none => .bad
theorem run_makeM {pins : List (Addr × Obj)} {σ : L2.St} {H : Hp} {s : Shared} {Q : VK} {us : List Value} {vs : List V} {α : List Addr} {μ : Mem} {ds : List D} {C : Str} {Ca : Addr} (hC : cm (C, true) = some (.ref Ca)) (M : Mk X.K Ca ga) (Cl : Callee X.K cm X.prog X.w X.mg X.base k r ga fd ps) (hr : Room (k + 1) X.A) (tk : Takes X W)
    (I : Inv X pins σ H s) (rv : Vals vs us) (S : Sim X.K cm α μ H) (rd : Reps X.K α H ds vs)
    (p : Post X.K cm α H (okV X.K Q) (fun c d H' => W c d σ H') ((r (.ref μ.length :: ds) (μ ++ [.ins C []])).bind fun d μ2 => if d = .non then .ok (.ref μ.length) μ2 else .bad)) : wpAny (model X.prog X.w) X.A (call (.ref Ca) us) (EP X pins σ Q) X.xe s := by
  have hx : H (s.heap.objs.size + 1) = none := I.hok.fresh (Nat.le_succ _)
  have hdx : H s.heap.objs.size = none := I.hok.fresh (Nat.le_refl _)
  have ne : s.heap.objs.size ≠ s.heap.objs.size + 1 := Nat.ne_of_lt (Nat.lt_succ_self _)
  have I2 := Inv.made (C := Ca) I
  obtain ⟨S1, L1⟩ := S.lay (o := .own (s.heap.objs.size + 1)) hdx
  have hx1 : upd H s.heap.objs.size (.own (s.heap.objs.size + 1)) (s.heap.objs.size + 1) = none := by rw [upd_ne (Ne.symm ne)]; exact hx
  obtain ⟨S2, L2⟩ := S1.lay (o := .ins Ca s.heap.objs.size []) hx1
  have S3 := S2.take (p := s.heap.objs.size + 1) (c := .ins C []) (S1.fresh hx1) ⟨Ca, s.heap.objs.size, [], hC, upd_same, by simp only [RepF]⟩
  have L3 : Later α H (α ++ [s.heap.objs.size + 1]) (upd (upd H s.heap.objs.size (.own (s.heap.objs.size + 1))) (s.heap.objs.size + 1) (.ins Ca s.heap.objs.size [])) := L1.trans (Later.taken S1 hx1)
  have rn : Rep X.K (α ++ [s.heap.objs.size + 1]) (upd (upd H s.heap.objs.size (.own (s.heap.objs.size + 1))) (s.heap.objs.size + 1) (.ins Ca s.heap.objs.size [])) (.ref μ.length) (.ref (s.heap.objs.size + 1)) := by
    simp only [Rep]
    exact ⟨_, by rw [List.getElem?_append_right (by rw [S.len]; exact Nat.le_refl _), S.len]; simp, rfl⟩
  have rd3 : Reps X.K (α ++ [s.heap.objs.size + 1]) (upd (upd H s.heap.objs.size (.own (s.heap.objs.size + 1))) (s.heap.objs.size + 1) (.ins Ca s.heap.objs.size [])) (.ref μ.length :: ds) (.ref (s.heap.objs.size + 1) :: vs) := Reps.cons rn (rd.later S L3)
  have hl : (D.ref μ.length :: ds).length = ps.length := Classical.byContradiction fun h => by rw [Cl.len _ _ h] at p; exact p.elim
  have hlu : (Value.ref (s.heap.objs.size + 1) :: us ++ []).length = ps.length := by
    rw [List.append_nil, ← hl]
    show us.length + 1 = ds.length + 1
    rw [← rv.length, ← rd.len]
  have q := (p.later L3).bind
  have key := Cl.ok.run _ X.stack _ _ ⟨Value.ref (s.heap.objs.size + 1) :: us, []⟩ (Value.ref (s.heap.objs.size + 1) :: us) (V.ref (s.heap.objs.size + 1) :: vs) (fun v H2 => v = .non ∧ Q (.ref (s.heap.objs.size + 1)) H2) (WE W σ) (hr.make Ca us [])
    (I2.env0.make Ca us []) (by
      have b := Cl.bind _ (Value.ref (s.heap.objs.size + 1) :: us) I2.kIn hlu
      rw [List.append_nil] at b
      exact b) (.cons rfl rv) ⟨_, _, _, S3, rd3, hl, q.mono fun d μ2 α4 H4 L4 S4 p4 v r4 => by
        by_cases e : d = .non
        · subst e
          rw [if_pos rfl] at p4
          refine ⟨by simpa only [Rep] using r4, Post.here p4 S4 _ ?_⟩
          simp only [Rep]
          exact ⟨_, L4.get (by rw [List.getElem?_append_right (by rw [S.len]; exact Nat.le_refl _), S.len]; simp), rfl⟩
        · rw [if_neg e] at p4; exact p4.elim⟩
  refine wpAny_call (make_map (f := ga) I.kIn M.makes M.init (beq_iff_eq.mp M.fn) (codeAny_mono key fun r s' hq' => ?_))
  cases r with
  | error e => exact passAt tk σ pins _ _ e s' I2 hq'
  | ok fl =>
    cases fl with
    | ret u =>
      obtain ⟨v, H', I3, rv, ev, q3⟩ := I2.after hq'
      subst ev
      exact ⟨rv, ⟨V.ref (s.heap.objs.size + 1), H', I3, rfl, q3⟩⟩
    | next => exact False.elim hq'
    | brk => exact False.elim hq'
    | cont => exact False.elim hq'
theorem me_new {C : Str} (G : GamOk X.K cm X.prog X.w X.mg X.base k Γ) (hr : Room (k + 1) X.A) (tk : Takes X W) (hg : Gl X C) (hi : (Γ.init C).isSome = true) (hdb : (C == ("__debug__" : Str)) = false)
    (ha : PA X es (tAs X.K cm rs W)) (hs : es.all noStar = true) : PE X (.Call (.Name C p1) es [] pos) (tE X.K cm (rNew Γ C rs) W) := by
  cases ei : Γ.init C with
  | none => rw [ei] at hi; cases hi
  | some g =>
    obtain ⟨Ca, ga, fd, ps, hC, hm, M, Cl⟩ := G.init C g ei
    refine ⟨fun pins s σ H Q I h => ?_⟩
    have h2 := args_go h
    refine wpAny_Call_Name_kw (ld_glob I hg hm ?_ hdb)
    simp only [ei] at h2
    cases es with
    | nil =>
      refine PySem.W.callWith_K0 I.kIn M.kp ?_
      have key := ha.run pos pins s σ H _ I h2
      have e : spliced (backTo pos (starEach [] X.env)) = pure [] := rfl
      rw [e] at key
      exact wpAny_bind (f := fun us => call (.ref Ca) us) (thn key fun us s1 ⟨vs, H1, I1, rv, α1, μ1, ds, S1, rd, p1⟩ => run_makeM hC M Cl hr tk I1 rv S1 rd p1)
    | cons e1 es1 =>
      rw [List.all_cons, Bool.and_eq_true] at hs
      refine PySem.W.callWith_K (h₀ := X.base) I.ok.mod.kin M.kp (thn (ha.run pos pins s σ H _ I h2) fun us s1 ⟨vs, H1, I1, rv, α1, μ1, ds, S1, rd, p1⟩ => ⟨I1.kIn, ?_⟩) (star_cons hs.1) (star_none hs.2)
      exact run_makeM hC M Cl hr tk I1 rv S1 rd p1
end
end Mi
/-! MiK: C(k = v, ..) with all values by keywords, in the order of the parameters. -/
namespace Mi
open PySem PySem.Spec PyProof.Rows L2

/-- the text of a maker binds keywords, too -/
def BindK (x qual : Str) (st : Stmt) (ps : List Str) : Prop := ∀ (kV doc pm : Value) (an : Option Addr) (cdv ct : Value) (us ws : List Value), us.length = 1 → ws.length = (ps.drop 1).length → bindArgs (PySem.W.fnOf x qual (defArgs st) (defBody st) (defScope st) .none kV doc pm an cdv ct) ⟨us, (ps.drop 1).zip ws⟩ = pure (ps.zip (us ++ ws))
theorem kbn_of {K : PySem.W.Frag} {x qual : Str} {st : Stmt} {f : Addr} {fd : FuncData} {ps : List Str} (F : L2.Fun K x qual st f fd) (B : BindK x qual st ps) : KBn K fd ps 1 (ps.drop 1) (fun us ws => us ++ ws) (fun vs zs => vs ++ zs) := by
  obtain ⟨oc, od, kV, doc, pm, an, cdv, ct, osl, rfl, lk, hcd⟩ := F.ex
  exact ⟨fun s us ws X l1 l2 => BindsTo.of_looks fun M => by rw [B kV doc pm an cdv ct us ws l1 l2]; exact PySem.W.Looks.of_pure rfl, fun r1 r2 => r1.append r2⟩
theorem kw_names {env : Env} {pos : Pos} : ∀ {kws : List Keyword} {ks : List Str}, kws.map (·.arg) = ks.map some → (backToKw pos (keywordEach kws env)).map (·.1) = ks.map some
  | [], ks, h => by simpa [keywordEach, backToKw] using h
  | ⟨nm, e, kp⟩ :: kws, [], h => by simp at h
  | ⟨nm, e, kp⟩ :: kws, k :: ks, h => by
    simp only [List.map_cons, List.cons.injEq] at h
    have ih := kw_names (env := env) (pos := pos) h.2
    simp only [keywordEach, backToKw, List.map_cons, List.map_map] at ih ⊢
    rw [h.1]
    congr 1
theorem kw_all {l : List (Option Str × Sem Value)} {ks : List Str} (h : l.map (·.1) = ks.map some) : l.all (·.1.isSome) = true ∧ l.filterMap (·.1) = ks ∧ l.any (·.1.isNone) = false := by
  induction l generalizing ks with
  | nil => cases ks with
    | nil => exact ⟨rfl, rfl, rfl⟩
    | cons k ks => simp at h
  | cons a l ih =>
    cases ks with
    | nil => simp at h
    | cons k ks =>
      simp only [List.map_cons, List.cons.injEq] at h
      obtain ⟨h1, h2, h3⟩ := ih h.2
      exact ⟨by rw [List.all_cons, h.1, h1]; rfl, by rw [List.filterMap_cons, h.1]; simp only; rw [h2], by rw [List.any_cons, h.1, h3]; rfl⟩
section
variable {X : Cx} {W : WX} {cm : Str × Bool → Option Value} {pos p1 p2 apos : Pos} {a b c e o i : Expr} {re ra rb rc ro ri : Env' → Mem → Res D} {st : Stmt} {rs : Env' → Mem → Res (List D)} {es : List Expr} {Γ : Gam} {k : Nat}
theorem run_makeMK {pins : List (Addr × Obj)} {σ : L2.St} {H : Hp} {s : Shared} {Q : VK} {us : List Value} {vs : List V} {α : List Addr} {μ : Mem} {ds : List D} {C : Str} {Ca : Addr} (hC : cm (C, true) = some (.ref Ca)) (M : Mk X.K Ca ga) (Cl : Callee X.K cm X.prog X.w X.mg X.base k r ga fd ps) {ks : List Str} (hb : KBn X.K fd ps 1 ks (fun us ws => us ++ ws) (fun vs zs => vs ++ zs)) (hr : Room (k + 1) X.A) (tk : Takes X W)
    (I : Inv X pins σ H s) (rv : Vals vs us) (S : Sim X.K cm α μ H) (rd : Reps X.K α H ds vs) (lks : us.length = ks.length)
    (p : Post X.K cm α H (okV X.K Q) (fun c d H' => W c d σ H') ((r (.ref μ.length :: ds) (μ ++ [.ins C []])).bind fun d μ2 => if d = .non then .ok (.ref μ.length) μ2 else .bad)) : wpAny (model X.prog X.w) X.A (call (.ref Ca) [] (ks.zip us)) (EP X pins σ Q) X.xe s := by
  have hx : H (s.heap.objs.size + 1) = none := I.hok.fresh (Nat.le_succ _)
  have hdx : H s.heap.objs.size = none := I.hok.fresh (Nat.le_refl _)
  have ne : s.heap.objs.size ≠ s.heap.objs.size + 1 := Nat.ne_of_lt (Nat.lt_succ_self _)
  have I2 := Inv.made (C := Ca) I
  obtain ⟨S1, L1⟩ := S.lay (o := .own (s.heap.objs.size + 1)) hdx
  have hx1 : upd H s.heap.objs.size (.own (s.heap.objs.size + 1)) (s.heap.objs.size + 1) = none := by rw [upd_ne (Ne.symm ne)]; exact hx
  obtain ⟨S2, L2⟩ := S1.lay (o := .ins Ca s.heap.objs.size []) hx1
  have S3 := S2.take (p := s.heap.objs.size + 1) (c := .ins C []) (S1.fresh hx1) ⟨Ca, s.heap.objs.size, [], hC, upd_same, by simp only [RepF]⟩
  have L3 : Later α H (α ++ [s.heap.objs.size + 1]) (upd (upd H s.heap.objs.size (.own (s.heap.objs.size + 1))) (s.heap.objs.size + 1) (.ins Ca s.heap.objs.size [])) := L1.trans (Later.taken S1 hx1)
  have rn : Rep X.K (α ++ [s.heap.objs.size + 1]) (upd (upd H s.heap.objs.size (.own (s.heap.objs.size + 1))) (s.heap.objs.size + 1) (.ins Ca s.heap.objs.size [])) (.ref μ.length) (.ref (s.heap.objs.size + 1)) := by
    simp only [Rep]
    exact ⟨_, by rw [List.getElem?_append_right (by rw [S.len]; exact Nat.le_refl _), S.len]; simp, rfl⟩
  have rd3 : Reps X.K (α ++ [s.heap.objs.size + 1]) (upd (upd H s.heap.objs.size (.own (s.heap.objs.size + 1))) (s.heap.objs.size + 1) (.ins Ca s.heap.objs.size [])) (.ref μ.length :: ds) (.ref (s.heap.objs.size + 1) :: vs) := Reps.cons rn (rd.later S L3)
  have hl : (D.ref μ.length :: ds).length = ps.length := Classical.byContradiction fun h => by rw [Cl.len _ _ h] at p; exact p.elim
  have q := (p.later L3).bind
  have key := Cl.ok.run _ X.stack _ _ ⟨[Value.ref (s.heap.objs.size + 1)], ks.zip us⟩ (Value.ref (s.heap.objs.size + 1) :: us) (V.ref (s.heap.objs.size + 1) :: vs) (fun v H2 => v = .non ∧ Q (.ref (s.heap.objs.size + 1)) H2) (WE W σ) (hr.make Ca [] (ks.zip us))
    (I2.env0.make Ca [] (ks.zip us)) (hb.to _ [Value.ref (s.heap.objs.size + 1)] us I2.kIn rfl lks) (.cons rfl rv) ⟨_, _, _, S3, rd3, hl, q.mono fun d μ2 α4 H4 L4 S4 p4 v r4 => by
        by_cases e : d = .non
        · subst e
          rw [if_pos rfl] at p4
          refine ⟨by simpa only [Rep] using r4, Post.here p4 S4 _ ?_⟩
          simp only [Rep]
          exact ⟨_, L4.get (by rw [List.getElem?_append_right (by rw [S.len]; exact Nat.le_refl _), S.len]; simp), rfl⟩
        · rw [if_neg e] at p4; exact p4.elim⟩
  refine wpAny_call (make_map (f := ga) I.kIn M.makes M.init (beq_iff_eq.mp M.fn) (codeAny_mono key fun r s' hq' => ?_))
  cases r with
  | error e => exact passAt tk σ pins _ _ e s' I2 hq'
  | ok fl =>
    cases fl with
    | ret u =>
      obtain ⟨v, H', I3, rv, ev, q3⟩ := I2.after hq'
      subst ev
      exact ⟨rv, ⟨V.ref (s.heap.objs.size + 1), H', I3, rfl, q3⟩⟩
    | next => exact False.elim hq'
    | brk => exact False.elim hq'
    | cont => exact False.elim hq'
theorem me_newK {C g : Str} {Ca ga : Addr} {fd : FuncData} {ps : List Str} {kws : List Keyword} {ks : List Str} (ei : Γ.init C = some g) (hC : cm (C, true) = some (.ref Ca)) (hm : X.mg C = some (.ref Ca)) (M : Mk X.K Ca ga) (Cl : Callee X.K cm X.prog X.w X.mg X.base k (Γ.fn g) ga fd ps) (hb : KBn X.K fd ps 1 ks (fun us ws => us ++ ws) (fun vs zs => vs ++ zs))
    (hr : Room (k + 1) X.A) (tk : Takes X W) (hg : Gl X C) (hdb : (C == ("__debug__" : Str)) = false) (hn : kws.map (·.arg) = ks.map some) (hlen : ∀ ρ μ ds μ1, rs ρ μ = .ok ds μ1 → ds.length = ks.length)
    (ha : PK X kws (tAs X.K cm rs W)) : PE X (.Call (.Name C p1) [] kws pos) (tE X.K cm (rNew Γ C rs) W) := by
  refine ⟨fun pins s σ H Q I h => ?_⟩
  have e : rNew Γ C rs = fun ρ μ => (rs ρ μ).bind fun ds μ1 => if ds.length = ks.length then (Γ.fn g (.ref μ1.length :: ds) (μ1 ++ [.ins C []])).bind fun d μ2 => if d = .non then .ok (.ref μ1.length) μ2 else .bad else .bad := by
    funext ρ μ
    unfold rNew
    cases er : rs ρ μ with
    | ok ds μ1 =>
      simp only [Res.bind_ok, ei]
      rw [if_pos (hlen _ _ _ _ er)]
    | ex c fs μ1 => rfl
    | bad => rfl
  rw [e] at h
  have h2 := args_go h
  obtain ⟨k1, k2, k3⟩ := kw_all (kw_names (env := X.env) (pos := pos) hn)
  refine wpAny_Call_Name_kw (ld_glob I hg hm ?_ hdb)
  refine PySem.W.callWith_KW0 (h₀ := X.base) I.ok.mod.kin M.kp k1 ?_ (by rw [k3]; rfl)
  refine thn (ha.run pos pins s σ H _ I h2) fun us s2 ⟨vs, H2, I2, rv, α1, μ1, ds, S1, rd, p1⟩ => ⟨I2.kIn, ?_⟩
  rw [k2]
  by_cases hl : ds.length = ks.length
  · rw [if_pos hl] at p1
    exact run_makeMK hC M Cl hb hr tk I2 rv S1 rd (by rw [← rv.length, ← rd.len, hl]) p1
  · rw [if_neg hl] at p1
    exact p1.elim
end
end Mi
/-! Mi11: isinstance, methods of lists. -/
namespace Mi
open PySem PySem.Spec PyProof.Rows L2

/-- TyX, and a dict with tuple keys that a loop walks -/
inductive TyY (K : PySem.W.Frag) (H : Hp) : V → Value → Prop where
  | x {v : V} {t : Value} (h : TyX K H v t) : TyY K H v t
  | fDT {a : Addr} {o : Obj} {kvs : List (List Key × V)} (e : H a = some (.frz o (.dT kvs))) : TyY K H (.ref a) (.type "dict")
theorem kit_ofY {X : Cx} {pins : List (Addr × Obj)} {σ : L2.St} {H : Hp} {s : Shared} {x : V} {u t : Value} (I : Inv X pins σ H s) (rx : RelV x u) (ty : TyY X.K H x t) : ∃ P : Heap → Prop, PySem.W.KitX X.K u t P ∧ P s.heap ∧ u ≠ .builtin "__main__.__loader__#opaque" := by
  cases ty with
  | x h => exact kit_of I rx h
  | @fDT a ob kvs ea =>
    cases (show u = Value.ref a from rx)
    obtain ⟨_, _, _, xs, _, o, es, ep, h1, h2, _⟩ := (show ObjOk X.prog X.w H s.heap a (.frz ob (.dT kvs)) from I.hok a _ ea)
    exact ⟨_, PySem.W.kitx_dict, ⟨o, h1, h2.1⟩, fun z => nomatch z⟩
def rIsiY (K : PySem.W.Frag) : List V → Hp → VK → Prop := fun xs H Q => ∃ (x c : V) (t u : Value) (b : Bool), xs = [x, c] ∧ ClsV c u ∧ TyY K H x t ∧ PySem.W.kitOne K t u = some b ∧ Q (.bl b) H
def rIsiTY (K : PySem.W.Frag) : List V → Hp → VK → Prop := fun xs H Q => ∃ (x : V) (tp : Addr) (cs : List V) (t : Value) (us : List Value) (b : Bool), xs = [x, .ref tp] ∧ H tp = some (.tup cs) ∧ Paired ClsV cs us ∧ TyY K H x t ∧ PySem.W.kitAny K t us = some b ∧ Q (.bl b) H
theorem call_isiY {X : Cx} : CallR X (.builtin "isinstance") (rIsiY X.K) := by
  intro pins s σ H xs us Q I r h
  obtain ⟨x, c, t, u, b, rfl, k, ty, e, q⟩ := h
  cases r with
  | cons r1 r =>
    cases r with
    | cons r2 r =>
      cases r
      have e2 := k.eq r2
      subst e2
      obtain ⟨P, Z, p, hx⟩ := kit_ofY I r1 ty
      exact PySem.W.kia_one Z I.kIn p e hx fun tk => ⟨.bl b, H, I.tok tk, rfl, q⟩
theorem call_isiTY {X : Cx} : CallR X (.builtin "isinstance") (rIsiTY X.K) := by
  intro pins s σ H xs us Q I r h
  obtain ⟨x, tp, cs, t, ws, b, rfl, hT, k, ty, e, q⟩ := h
  cases r with
  | @cons _ u1 _ _ r1 r =>
    cases r with
    | @cons _ u2 _ _ r2 r =>
      cases r
      cases (show u2 = Value.ref tp from r2)
      obtain ⟨P, Z, p, hx⟩ := kit_ofY I r1 ty
      obtain ⟨_, its, rv, o, h1, h2, n, h3⟩ := (show ObjOk X.prog X.w H s.heap tp (.tup cs) from I.hok tp _ hT)
      have e3 := ClsV.all k rv
      subst e3
      obtain ⟨oc, od, dt, sl⟩ := o
      simp only at h2 h3
      subst h2 h3
      exact PySem.W.kia_tup Z I.kIn p h1 e hx fun tk => ⟨.bl b, H, I.tok tk, rfl, q⟩
def tyVal (cm : Str × Bool → Option Value) : Ty → Option Value
  | .int => some (.type "int")
  | .bool => some (.type "bool")
  | .str => some (.type "str")
  | .list => some (.type "list")
  | .tuple => some (.type "tuple")
  | .own C => cm (C, true)
/-- the type of a right operand does not take == before an own class does -/
structure NfOk (K : PySem.W.Frag) (cm : Str × Bool → Option Value) : Prop where
  b : ∀ C Ca, cm (C, true) = some (.ref Ca) → ∀ n ∈ ["NoneType", "int", "bool", "str", "list", "tuple", "dict"], PySem.W.subIn K (.type n) (.ref Ca) = some false
  o : ∀ C C' Ca Ca', cm (C, true) = some (.ref Ca) → cm (C', true) = some (.ref Ca') → C' ≠ C → PySem.W.subIn K (.ref Ca') (.ref Ca) = some false
/-- what isinstance asks of the own classes -/
structure IsiOk (K : PySem.W.Frag) (cm : Str × Bool → Option Value) : Prop where
  toB : ∀ C Ca, cm (C, true) = some (.ref Ca) → ∀ n ∈ ["int", "bool", "str", "list", "tuple"], PySem.W.kitOne K (.ref Ca) (.type n) = some false
  toO : ∀ C u, cm (C, true) = some u → ∀ n ∈ ["NoneType", "int", "bool", "str", "list", "tuple", "dict"], PySem.W.kitOne K (.type n) u = some false
  oo : ∀ C C' Ca u, cm (C, true) = some (.ref Ca) → cm (C', true) = some u → PySem.W.kitOne K (.ref Ca) u = some (decide (C' = C))
  ty : ∀ C Ca, cm (C, true) = some (.ref Ca) → Cls K Ca ∧ PySem.W.findIn K (.ref Ca) "__class__" = some (some (.builtin "object.__class__")) ∧ PySem.W.specialIn K (.builtin "object.__class__") "__get__" = some (some (.builtin "getset_descriptor.__get__")) ∧
    PySem.W.takesIn K (.builtin "object.__class__") = some true ∧ PySem.W.mroIn K Ca (.type "object") = some true
  nf : NfOk K cm
section
variable {K : PySem.W.Frag} {cm : Str × Bool → Option Value} {α α' : List Addr} {H H' : Hp} {μ μ' : Mem}
theorem kit_bb {K : PySem.W.Frag} {a b : String} {r : Bool} (h : kitB a b = some r) : PySem.W.kitOne K (.type a) (.type b) = some r := kit_ty h
/-- a value's type and what isinstance answers for it -/
theorem isi_ok (O : IsiOk K cm) (S : Sim K cm α μ H) {d : D} {v : V} (r : Rep K α H d v) :
    ∃ T : Value, TyY K H v T ∧ ∀ (t : Ty) (u : Value) (b : Bool), tyVal cm t = some u → isTy d μ t = some b → PySem.W.kitOne K T u = some b := by
  have bi : ∀ {n : String} {f : Ty → Bool}, n ∈ ["NoneType", "int", "bool", "str", "list", "tuple", "dict"] → (kitB n "int" = some (f .int) ∧ kitB n "bool" = some (f .bool) ∧ kitB n "str" = some (f .str) ∧ kitB n "list" = some (f .list) ∧ kitB n "tuple" = some (f .tuple)) →
      (∀ t, (∃ C, t = .own C ∧ isTy d μ t = some false) ∨ isTy d μ t = some (f t)) → (∀ C, isTy d μ (.own C) = some false) → ∀ (t : Ty) (u : Value) (b : Bool), tyVal cm t = some u → isTy d μ t = some b → PySem.W.kitOne K (.type n) u = some b := fun {n f} hn hk hf hO t u b e1 e2 => by
    cases t with
    | own C =>
      rw [hO C] at e2; cases e2
      exact O.toO C u e1 n hn
    | int =>
      cases e1
      rcases hf .int with ⟨C, z, _⟩ | z
      · cases z
      · rw [z] at e2; cases e2; exact kit_bb hk.1
    | bool =>
      cases e1
      rcases hf .bool with ⟨C, z, _⟩ | z
      · cases z
      · rw [z] at e2; cases e2; exact kit_bb hk.2.1
    | str =>
      cases e1
      rcases hf .str with ⟨C, z, _⟩ | z
      · cases z
      · rw [z] at e2; cases e2; exact kit_bb hk.2.2.1
    | list =>
      cases e1
      rcases hf .list with ⟨C, z, _⟩ | z
      · cases z
      · rw [z] at e2; cases e2; exact kit_bb hk.2.2.2.1
    | tuple =>
      cases e1
      rcases hf .tuple with ⟨C, z, _⟩ | z
      · cases z
      · rw [z] at e2; cases e2; exact kit_bb hk.2.2.2.2
  cases d with
  | non =>
    have e : v = .non := by simpa only [Rep] using r
    subst e
    exact ⟨_, .x (.base .non), bi (n := "NoneType") (f := fun _ => false) (by decide +kernel) (by decide +kernel) (fun t => .inr (by cases t <;> rfl)) fun C => rfl⟩
  | bl x =>
    rw [rep_bl r]
    exact ⟨_, .x (.base (.bl x)), bi (n := "bool") (f := fun t => match t with
      | .int => true
      | .bool => true
      | _ => false) (by decide +kernel) (by decide +kernel) (fun t => .inr (by cases t <;> rfl)) fun C => rfl⟩
  | int x =>
    rw [rep_int r]
    exact ⟨_, .x (.base (.int x)), bi (n := "int") (f := fun t => match t with
      | .int => true
      | _ => false) (by decide +kernel) (by decide +kernel) (fun t => .inr (by cases t <;> rfl)) fun C => rfl⟩
  | str x =>
    rw [rep_str r]
    exact ⟨_, .x (.base (.str x)), bi (n := "str") (f := fun t => match t with
      | .str => true
      | _ => false) (by decide +kernel) (by decide +kernel) (fun t => .inr (by cases t <;> rfl)) fun C => rfl⟩
  | tup ds =>
    obtain ⟨a, vs, e, t, q⟩ := rep_tup r
    subst e
    have ty : TyY K H (.ref a) (.type "tuple") := by
      rcases t with (t | ⟨o, t⟩) | ⟨o, its, n, t, c, _⟩
      · exact .x (.base (.tup t))
      · exact .x (.fTuple t)
      · exact .x (.kTuple t c)
    exact ⟨_, ty, bi (n := "tuple") (f := fun t => match t with
      | .tuple => true
      | _ => false) (by decide +kernel) (by decide +kernel) (fun t => .inr (by cases t <;> rfl)) fun C => rfl⟩
  | ref n =>
    obtain ⟨a, ha, e⟩ := rep_ref r
    subst e
    cases em : μ[n]? with
    | none =>
      exfalso
      have hl : n < μ.length := by rw [← S.len]; exact (List.getElem?_eq_some_iff.mp ha).1
      rw [List.getElem?_eq_getElem hl] at em; cases em
    | some c =>
      cases c with
      | lst ds =>
        obtain ⟨vs, h1, _⟩ := S.lstAt em ha
        exact ⟨_, .x (.base (.lst h1)), bi (n := "list") (f := fun t => match t with
          | .list => true
          | _ => false) (by decide +kernel) (by decide +kernel) (fun t => .inr (by cases t <;> simp [isTy, em])) fun C => by simp [isTy, em]⟩
      | rol ds =>
        obtain ⟨o, vs, h1, _⟩ := S.rolAt em ha
        exact ⟨_, .x (.base (.frz h1)), bi (n := "list") (f := fun t => match t with
          | .list => true
          | _ => false) (by decide +kernel) (by decide +kernel) (fun t => .inr (by cases t <;> simp [isTy, em])) fun C => by simp [isTy, em]⟩
      | ins C fs =>
        obtain ⟨Ca, dx, ws, h1, h2, h3⟩ := S.insAt em ha
        obtain ⟨c1, c2, c3, c4, c5⟩ := O.ty C Ca h1
        refine ⟨_, .x (.base (.ins h2 c1 c2 c3 c4 c5)), fun t u b e1 e2 => ?_⟩
        cases t with
        | own C' =>
          simp only [isTy, em] at e2
          cases e2
          exact O.oo C C' Ca u h1 e1
        | int => cases e1; simp only [isTy] at e2; cases e2; exact O.toB C Ca h1 _ (by decide +kernel)
        | bool => cases e1; simp only [isTy] at e2; cases e2; exact O.toB C Ca h1 _ (by decide +kernel)
        | str => cases e1; simp only [isTy] at e2; cases e2; exact O.toB C Ca h1 _ (by decide +kernel)
        | tuple => cases e1; simp only [isTy] at e2; cases e2; exact O.toB C Ca h1 _ (by decide +kernel)
        | list => cases e1; simp only [isTy, em] at e2; cases e2; exact O.toB C Ca h1 _ (by decide +kernel)
      | dic kvs =>
        obtain ⟨ws, h1, _⟩ := S.cell n _ a em ha
        exact ⟨_, .x (.base (.dK h1)), bi (n := "dict") (f := fun _ => false) (by decide +kernel) (by decide +kernel) (fun t => .inr (by cases t <;> simp [isTy, em])) fun C => by simp [isTy, em]⟩
      | dct lk kvs =>
        cases lk with
        | false =>
          obtain ⟨ws, h1, _⟩ := S.cell n _ a em ha
          exact ⟨_, .x (.base (.dT h1)), bi (n := "dict") (f := fun _ => false) (by decide +kernel) (by decide +kernel) (fun t => .inr (by cases t <;> simp [isTy, em])) fun C => by simp [isTy, em]⟩
        | true =>
          obtain ⟨o, ws, h1, _⟩ := S.cell n _ a em ha
          exact ⟨_, .fDT h1, bi (n := "dict") (f := fun _ => false) (by decide +kernel) (by decide +kernel) (fun t => .inr (by cases t <;> simp [isTy, em])) fun C => by simp [isTy, em]⟩
theorem tys_any {d : D} {T : Value} (h : ∀ (t : Ty) (u : Value) (b : Bool), tyVal cm t = some u → isTy d μ t = some b → PySem.W.kitOne K T u = some b) : ∀ {ts : List Ty} {us : List Value} {b : Bool}, ts.map (tyVal cm) = us.map some → isTys d μ ts = some b → PySem.W.kitAny K T us = some b
  | [], [], b, _, e => e
  | [], _ :: _, _, e, _ => by simp at e
  | _ :: _, [], _, e, _ => by simp at e
  | t :: ts, u :: us, b, e, q => by
    simp only [List.map_cons, List.cons.injEq] at e
    simp only [isTys] at q
    cases e1 : isTy d μ t with
    | none => rw [e1] at q; cases q
    | some c =>
      rw [e1] at q
      refine kitAny_cons (h t u c e.1 e1) (fun hb => ?_) (fun hb => ?_)
      · subst hb; exact tys_any h e.2 q
      · subst hb; exact (Option.some.inj q).symm
end

/-- the written classes -/
inductive TysAt (X : Cx) (cm : Str × Bool → Option Value) : List Expr → List Ty → List V → List Value → Prop where
  | nil : TysAt X cm [] [] [] []
  | cons {e : Expr} {t : Ty} {v : V} {u : Value} {es : List Expr} {ts : List Ty} {vs : List V} {us : List Value} : noStar e = true → PE X e (tC v) → ClsV v u → tyVal cm t = some u → TysAt X cm es ts vs us → TysAt X cm (e :: es) (t :: ts) (v :: vs) (u :: us)
theorem tys_pa {X : Cx} {cm : Str × Bool → Option Value} : ∀ {es : List Expr} {ts : List Ty} {vs : List V} {us : List Value}, TysAt X cm es ts vs us → PA X es (fun _ H Q => Q vs H) ∧ Paired ClsV vs us ∧ ts.map (tyVal cm) = us.map some ∧ es.all noStar = true ∧ es.length = vs.length
  | _, _, _, _, .nil => ⟨pa_nil, .nil, rfl, rfl, rfl⟩
  | _, _, _, _, .cons h1 h2 h3 h4 r => by
    obtain ⟨a, b, c, d, e⟩ := tys_pa r
    exact ⟨pa_cons h2 a (star_cons h1), .cons h3 b, by rw [List.map_cons, List.map_cons, c, h4], by rw [List.all_cons, h1, d]; rfl, by simp [e]⟩
section
variable {X : Cx} {W : WX} {cm : Str × Bool → Option Value} {pos p1 p2 apos : Pos} {a b c e o i : Expr} {re ra rb rc ro ri : Env' → Mem → Res D} {rs : Env' → Mem → Res (List D)} {es : List Expr}
def rIsi' (ts : List Ty) (ra : Env' → Mem → Res D) : Env' → Mem → Res D := fun ρ μ => (ra ρ μ).bind fun x μ1 => Res.ofO ((isTys x μ1 ts).map D.bl) μ1
theorem boot_isi : bootBuiltins ("isinstance" : Str) = some (.builtin "isinstance") := by first | rfl | decide +kernel
theorem me_isi1 {t : Ty} {v : V} {u : Value} {T : Expr} (O : IsiOk X.K cm) (hg : Gl X "isinstance") (hm : X.mg "isinstance" = none) (ns : noStar a = true) (nT : noStar T = true) (hT : PE X T (tC v)) (k : ClsV v u) (ht : tyVal cm t = some u) (ha : PE X a (tE X.K cm ra W)) :
    PE X (.Call (.Name "isinstance" p1) [a, T] [] pos) (tE X.K cm (rIsi' [t] ra) W) :=
  (pe_callB call_isiY hg hm boot_isi (pa_cons ha (pa_cons hT pa_nil (star_cons nT)) (star_cons ns)) (by decide +kernel) (by decide +kernel) (star_cons ns) (star_none (by simp [nT]))).imp fun σ H Q ⟨α, μ, ρ, S, R, p⟩ =>
    ⟨α, μ, ρ, S, R, p.then fun x μ1 α1 H1 L1 S1 p1 w rw' => by
      obtain ⟨b, e, q⟩ := Post.mapO p1 S1
      obtain ⟨T, ty, key⟩ := isi_ok O S1 rw'
      have e2 : isTy x μ1 t = some b := by
        simp only [isTys] at e
        cases q : isTy x μ1 t with
        | none => rw [q] at e; cases e
        | some c => rw [q] at e; cases c <;> (cases e; rfl)
      exact ⟨w, v, T, u, b, rfl, k, ty, key t u b ht e2, q _ rep_mkB⟩⟩
theorem me_isiT {ts : List Ty} {vs : List V} {us : List Value} {kk : Nat} (O : IsiOk X.K cm) (hg : Gl X "isinstance") (hm : X.mg "isinstance" = none) (ns : noStar a = true) (hT : TysAt X cm es ts vs us) (hl : es.length ≤ 1000) (ha : PE X a (tE X.K cm ra W)) :
    PE X (.Call (.Name "isinstance" p1) [a, .Tuple es kk p2] [] pos) (tE X.K cm (rIsi' ts ra) W) := by
  obtain ⟨h1, h2, h3, h4, h5⟩ := tys_pa hT
  refine (pe_callB call_isiTY hg hm boot_isi (pa_cons ha (pa_cons (pe_tup h1) pa_nil rfl) (star_cons ns)) (by decide +kernel) (by decide +kernel) (star_cons ns) (star_none (by rfl))).imp fun σ H Q ⟨α, μ, ρ, S, R, p⟩ => ?_
  refine ⟨α, μ, ρ, S, R, p.then fun x μ1 α1 H1 L1 S1 p1 w rw' => ⟨by rw [sizeLine_eq]; omega, fun pp hpp => ?_⟩⟩
  obtain ⟨S2, L2⟩ := S1.lay (o := .tup vs) hpp
  obtain ⟨b, e, q⟩ := Post.mapO (p1.later L2) S2
  obtain ⟨T, ty, key⟩ := isi_ok O S2 (rw'.later S1 L2)
  exact ⟨w, pp, vs, T, us, b, rfl, upd_same, h2, ty, tys_any key h3 e, q _ rep_mkB⟩

/-! ### methods of lists -/
abbrev MtOk (X : Cx) (cm : Str × Bool → Option Value) (name : Str) (m : Mt) : Prop := ∃ id r, Slot "list" name id ∧ typeOf (.builtin id) = pure (.type "method_descriptor") ∧ MtR X id r ∧
  ∀ (α : List Addr) (μ : Mem) (H : Hp) (x : D) (ds : List D) (v : V) (vs : List V) (Q : VK) (w : Value → Option Addr → Hp → Prop), Sim X.K cm α μ H → Rep X.K α H x v → Reps X.K α H ds vs → Post X.K cm α H (okV X.K Q) w (mtD m x ds μ) → r v vs H Q
theorem mto_append : MtOk X cm "append" .append := ⟨_, _, PySem.F.slot_list_append, PySem.F.type_list_append, mt_append, fun α μ H x ds v vs Q w S rx rd p => by
  cases x with
  | ref n =>
    obtain ⟨a, ha, e⟩ := rep_ref rx
    cases ds with
    | nil => exact p.elim
    | cons d r =>
      cases r with
      | nil =>
        cases em : μ[n]? with
        | none => simp only [mtD, em] at p; exact p.elim
        | some c =>
          cases c with
          | lst xs =>
            simp only [mtD, em] at p
            obtain ⟨hl, p⟩ := Post.guard p
            obtain ⟨us, h1, r1⟩ := S.lstAt em ha
            simp only [Reps] at rd
            obtain ⟨u, r, e1, r2, e2⟩ := rd
            subst e2; subst e1
            obtain ⟨S', L'⟩ := S.put (c := .lst (xs ++ [d])) (o := .lst (us ++ [u])) ha (fun _ _ z => (by rw [h1] at z; cases z)) fun L => ⟨_, upd_same, (r1.later S L).append (Reps.one (r2.later S L))⟩
            exact ⟨a, us, u, e, rfl, h1, by rw [← r1.len, ← lim_eq]; exact hl, p α _ L' S' _ rep_mkN⟩
          | _ => simp only [mtD, em] at p; exact p.elim
      | cons d2 r2 => exact p.elim
  | _ => exact p.elim⟩
theorem mto_extend : MtOk X cm "extend" .extend := ⟨_, _, PySem.F.slot_list_extend, PySem.F.type_list_extend, mt_extend, fun α μ H x ds v vs Q w S rx rd p => by
  cases x with
  | ref n =>
    obtain ⟨a, ha, e⟩ := rep_ref rx
    cases ds with
    | nil => exact p.elim
    | cons d r =>
      cases r with
      | nil =>
        cases d with
        | ref m =>
          cases em : μ[n]? with
          | none => simp only [mtD, em] at p; exact p.elim
          | some c =>
            cases em2 : μ[m]? with
            | none => simp only [mtD, em, em2] at p; cases c <;> exact p.elim
            | some c2 =>
              cases c with
              | lst xs =>
                cases c2 with
                | lst ys =>
                  simp only [mtD, em, em2] at p
                  obtain ⟨hl, p⟩ := Post.guard p
                  obtain ⟨us, h1, r1⟩ := S.lstAt em ha
                  simp only [Reps] at rd
                  obtain ⟨u, r, e1, r2, e2⟩ := rd
                  subst e2; subst e1
                  obtain ⟨b, hb, e3⟩ := rep_ref r2
                  obtain ⟨us2, h2, r3⟩ := S.lstAt em2 hb
                  obtain ⟨S', L'⟩ := S.put (c := .lst (xs ++ ys)) (o := .lst (us ++ us2)) ha (fun _ _ z => (by rw [h1] at z; cases z)) fun L => ⟨_, upd_same, (r1.later S L).append (r3.later S L)⟩
                  exact ⟨a, b, us, us2, e, by rw [e3], h1, h2, by rw [← r1.len, ← r3.len, ← lim_eq]; exact hl, p α _ L' S' _ rep_mkN⟩
                | _ => simp only [mtD, em, em2] at p; exact p.elim
              | _ => simp only [mtD, em, em2] at p; exact p.elim
        | _ => exact p.elim
      | cons d2 r2 => cases d <;> exact p.elim
  | _ => exact p.elim⟩
theorem reps_last {K : PySem.W.Frag} {α : List Addr} {H : Hp} {ds : List D} {vs : List V} (r : Reps K α H ds vs) : Reps K α H ds.dropLast vs.dropLast := by
  rw [List.dropLast_eq_take, List.dropLast_eq_take, ← r.len]
  exact r.take _
theorem mto_pop : MtOk X cm "pop" .pop := ⟨_, _, PySem.F.slot_list_pop, PySem.F.type_list_pop, mt_pop, fun α μ H x ds v vs Q w S rx rd p => by
  cases x with
  | ref n =>
    obtain ⟨a, ha, e⟩ := rep_ref rx
    cases ds with
    | nil =>
      cases em : μ[n]? with
      | none => simp only [mtD, em] at p; exact p.elim
      | some c =>
        cases c with
        | lst xs =>
          simp only [mtD, em] at p
          cases el : xs[xs.length - 1]? with
          | none => rw [el] at p; exact p.elim
          | some y =>
            rw [el] at p
            obtain ⟨us, h1, r1⟩ := S.lstAt em ha
            obtain ⟨u, h2, r2⟩ := r1.get el
            simp only [Reps] at rd
            obtain ⟨S', L'⟩ := S.put (c := .lst xs.dropLast) (o := .lst us.dropLast) ha (fun _ _ z => (by rw [h1] at z; cases z)) fun L => ⟨_, upd_same, reps_last (r1.later S L)⟩
            exact ⟨a, us, u, e, rd, h1, by rw [← r1.len]; exact h2, p α _ L' S' _ (r2.later S L')⟩
        | _ => simp only [mtD, em] at p; exact p.elim
    | cons d r => exact p.elim
  | _ => exact p.elim⟩
end
end Mi
/-! Mi12: index, the rule of methods. -/
namespace Mi
open PySem PySem.Spec PyProof.Rows L2

theorem toPys_get : ∀ {ds : List D} {j : Nat}, (toPys ds)[j]? = (ds[j]?).map toPy := fun {ds j} => by rw [toPys_eq, List.getElem?_map]
theorem pures_get : ∀ {ds : List D} {j : Nat} {d : D} {l : Nat}, pureDs l ds = true → ds[j]? = some d → pureD l d = true
  | [], j, d, l, _, h => by simp at h
  | x :: xs, 0, d, l, h, e => by
    simp only [pureDs, Bool.and_eq_true] at h
    simp at e; subst e; exact h.1
  | x :: xs, j + 1, d, l, h, e => by
    simp only [pureDs, Bool.and_eq_true] at h
    exact pures_get h.2 (by simpa using e)
section
variable {X : Cx} {W : WX} {cm : Str × Bool → Option Value} {pos p1 p2 apos : Pos} {a b c e o i : Expr} {re ra rb rc ro ri : Env' → Mem → Res D} {rs : Env' → Mem → Res (List D)} {es : List Expr}
theorem mto_index (hu : X.A.units + 65 < cLine) : MtOk X cm "index" .index := ⟨_, _, PySem.F.slot_list_index, PySem.F.type_list_index, mt_indexD hu, fun α μ H x ds v vs Q w S rx rd p => by
  cases x with
  | ref n =>
    obtain ⟨a, ha, e⟩ := rep_ref rx
    cases ds with
    | nil => exact p.elim
    | cons d r =>
      cases r with
      | nil =>
        cases em : μ[n]? with
        | none => simp only [mtD, em] at p; exact p.elim
        | some c =>
          cases c with
          | lst xs =>
            simp only [mtD, em] at p
            obtain ⟨hp, p⟩ := Post.guard p
            rw [Bool.and_eq_true] at hp
            obtain ⟨j, ej, q⟩ := Post.mapO p S
            obtain ⟨us, h1, r1⟩ := S.lstAt em ha
            simp only [Reps] at rd
            obtain ⟨u, r, e1, r2, e2⟩ := rd
            subst e2; subst e1; subst e
            rw [List.findIdx?_eq_some_iff_getElem] at ej
            obtain ⟨hj, e3, e4⟩ := ej
            have hg : xs[j]? = some xs[j] := List.getElem?_eq_getElem hj
            refine ⟨a, u, toPy d, toPys xs, j, toPy xs[j], rfl, rfl, .lst (SqL.of h1) (dps_of lev xs us hp.2 r1), dp_of lev d u hp.1 r2, (shaped_toPys hp.2).1, shaped_toPy hp.1, by rw [toPys_get, hg]; rfl, ?_, fun m z' hm hz => ?_, q _ rep_mkI⟩
            · rw [eqv_toPy lev _ _ lev (pures_get hp.2 hg) hp.1]; exact e3
            · rw [toPys_get] at hz
              have hm' : m < xs.length := by omega
              have hg' : xs[m]? = some xs[m] := List.getElem?_eq_getElem hm'
              rw [hg'] at hz
              cases hz
              rw [eqv_toPy lev _ _ lev (pures_get hp.2 hg') hp.1]
              have := e4 m hm
              simpa using this
          | _ => simp only [mtD, em] at p; exact p.elim
      | cons d2 r2 => exact p.elim
  | _ => exact p.elim⟩
def rMt (m : Mt) (ro : Env' → Mem → Res D) (rs : Env' → Mem → Res (List D)) : Env' → Mem → Res D := fun ρ μ => (ro ρ μ).bind fun x μ1 => if isLst x μ1 then (rs ρ μ1).bind fun ds μ2 => mtD m x ds μ2 else .bad
theorem isLst_at {K : PySem.W.Frag} {cm : Str × Bool → Option Value} {α : List Addr} {μ : Mem} {H : Hp} {x : D} {v : V} (S : Sim K cm α μ H) (r : Rep K α H x v) (h : isLst x μ = true) : tyV K "list" v H := by
  cases x with
  | ref n =>
    obtain ⟨a, ha, e⟩ := rep_ref r
    subst e
    simp only [isLst] at h
    cases em : μ[n]? with
    | none => rw [em] at h; cases h
    | some c =>
      rw [em] at h
      cases c with
      | lst ds =>
        obtain ⟨vs, h1, _⟩ := S.lstAt em ha
        exact .inl ⟨rfl, vs, SqL.of h1⟩
      | _ => cases h
  | _ => cases h
theorem me_mt {name : Str} {m : Mt} (h : MtOk X cm name m) (hb : plainBase o = true) (hl : (apos.endLine == pos.line) = true) (hs : es.all noStar = true) (hn : es.length < 30) (ho : PE X o (tE X.K cm ro W)) (ha : PA X es (tAs X.K cm rs W)) :
    PE X (.Call (.Attribute o name apos) es [] pos) (tE X.K cm (rMt m ro rs) W) := by
  obtain ⟨id, r, h1, h2, h3, h4⟩ := h
  have go : ∀ {σ : L2.St} {H : Hp} {Q : VK}, tE X.K cm (rMt m ro rs) W σ H Q → tE X.K cm ro W σ H fun x H1 => tyV X.K "list" x H1 ∧ tAs X.K cm rs W σ H1 fun vs H2 => r x vs H2 Q := fun {σ H Q} ⟨α, μ, ρ, S, R, p⟩ =>
    ⟨α, μ, ρ, S, R, p.then fun x μ1 α1 H1 L1 S1 p1 v rv => by
      obtain ⟨hi, p1⟩ := Post.guard p1
      exact ⟨isLst_at S1 rv hi, α1, μ1, ρ, S1, R.later S L1, p1.then fun ds μ2 α2 H2 L2 S2 p2 vs rd => h4 α2 μ2 H2 x ds v vs Q _ S2 (rv.later S1 L2) rd p2⟩⟩
  cases es with
  | nil =>
    refine ⟨fun pins s σ H Q I h => ?_⟩
    refine wpAny_Call_method0_late (base_plain hb) hl (thn (ho.run pins s σ H _ I (go h)) fun v s1 ⟨x, H1, I1, r1, ty, q1⟩ => ?_)
    obtain ⟨g1, g2⟩ := tyV_is I1 r1 ty
    refine ⟨"list", id, PySem.F.plainAttrs_list, h1, h2, g1, g2, Calls.callWith_builtin rfl (PySem.evalArgs_none ?_)⟩
    have key := ha.run pos pins s1 σ H1 _ I1 q1
    have e : spliced (backTo pos (starEach [] X.env)) = pure [] := rfl
    rw [e] at key
    exact wpAny_bind (f := fun us => call (.builtin id) (v :: us)) (thn key fun us s2 ⟨vs, H2, I2, r2, q2⟩ => h3 pins s2 σ H2 x vs v us Q I2 r1 r2 q2)
  | cons e1 es1 =>
    rw [List.all_cons, Bool.and_eq_true] at hs
    have hfew : ((backTo pos (starEach (e1 :: es1) X.env)).all (fun x => !x.1) && (backToKw pos (keywordEach [] X.env)).all (fun x => x.1.isSome)
      && decide ((e1 :: es1).length + ([] : List Keyword).length + (if ([] : List Keyword).isEmpty then 0 else 1) < 30)) = true := by
      rw [star_all (es := e1 :: es1) (by rw [List.all_cons, hs.1, hs.2]; rfl)]
      have e1' : (backToKw pos (keywordEach [] X.env)).all (fun x => x.1.isSome) = true := rfl
      rw [e1']
      simpa using hn
    exact (pe_bm PySem.F.plainAttrs_list h1 h2 h3 ho ha (base_plain hb) hfew hl (star_cons hs.1) (star_none hs.2)).imp fun σ H Q h => go h
end
end Mi
/-! Mi13: from the text of a def to the small text. -/
namespace Mi
open PySem L2

/-- the names that the top of the module binds -/
structure Cq where
  fn : List Str
  cls : List Str
  xcl : List Str
  cst : List Str
  own : List Str
  xct : List Str
  kwp : List (Str × List Str)
structure Cs where
  sc : Scope
  N : List Str
  fnb : Str → Bool

def okName (x : Str) : Bool := !(x == ("__debug__" : Str)) && !(x == ("__classdict__" : Str))
def isG (s : Cs) (x : Str) : Bool := okName x && match s.sc.names.lookup x with
  | some .globalImplicit => true
  | _ => false
def isV (s : Cs) (x : Str) : Bool := okName x && match s.sc.names.lookup x with
  | some .local => true
  | some .cell => true
  | some .free => true
  | _ => false
/-- a name that may be stored -/
def isS (s : Cs) (x : Str) : Bool := match s.sc.names.lookup x with
  | some .local => true
  | some .cell => s.fnb x
  | _ => false
def ixN' (s : Cs) (x : Str) : Option Nat := s.N.idxOf? x
def cVar (q : Cq) (s : Cs) (x : Str) : Option ME :=
  if isV s x then (ixN' s x).map .var else if isG s x && q.cst.contains x then some (.glob x) else none
def cCon (c : Const) : Option D := match c with
  | .int i => some (.int i)
  | .bool b => some (.bl b)
  | .str x => some (.str x)
  | .none => some .non
  | _ => none
def bopOf (o : Operator) : Option BOp := match o with
  | .Add => some .add
  | .Sub => some .sub
  | .Mult => some .mul
  | .FloorDiv => some .fdiv
  | .Mod => some .mod
  | .Pow => some .pow
  | .LShift => some .shl
  | .RShift => some .shr
  | .BitAnd => some .band
  | .BitOr => some .bor
  | _ => none
def copOf (o : CmpOp) : COp := match o with
  | .Eq => .eq
  | .NotEq => .ne
  | .Lt => .lt
  | .LtE => .le
  | .Gt => .gt
  | .GtE => .ge
  | .Is => .isN
  | .IsNot => .notN
  | .In => .isIn
  | .NotIn => .notIn
def augOf (o : Operator) : Option BOp := match o with
  | .Add => some .add
  | .Sub => some .sub
  | .Mult => some .mul
  | .FloorDiv => some .fdiv
  | .Mod => some .mod
  | .RShift => some .shr
  | .BitOr => some .bor
  | _ => none
inductive Bn where
  | len | int | tuple | list | sorted | sum | any | all | isi
def bnOf (x : Str) : Option Bn :=
  if x == ("len" : Str) then some .len
  else if x == ("isinstance" : Str) then some .isi
  else if x == ("tuple" : Str) then some .tuple
  else if x == ("int" : Str) then some .int
  else if x == ("list" : Str) then some .list
  else if x == ("sorted" : Str) then some .sorted
  else if x == ("sum" : Str) then some .sum
  else if x == ("any" : Str) then some .any
  else if x == ("all" : Str) then some .all
  else none
def mtOf (q : Cq) (m : Str) : Option Mt :=
  if q.own.contains m then none
  else if m == ("append" : Str) then some .append
  else if m == ("pop" : Str) then some .pop
  else if m == ("index" : Str) then some .index
  else if m == ("extend" : Str) then some .extend
  else none
/-- what makes a list that nothing else holds -/
def isMk (s : Cs) (e : Expr) : Bool := match e with
  | .List _ _ => true
  | .ListComp _ _ _ _ => true
  | .Call (.Name x _) [_] [] _ => isG s x && (x == ("list" : Str) || x == ("sorted" : Str))
  | _ => false
def cTy (q : Cq) (s : Cs) (e : Expr) : Option Ty := match e with
  | .Name x _ => if isG s x then
      (if x == ("int" : Str) then some .int else if x == ("bool" : Str) then some .bool else if x == ("str" : Str) then some .str else if x == ("list" : Str) then some .list
      else if x == ("tuple" : Str) then some .tuple else if q.cls.contains x then some (.own x) else none) else none
  | _ => none
def cTys (q : Cq) (s : Cs) : List Expr → Option (List Ty)
  | [] => some []
  | e :: es => (cTy q s e).bind fun t => (cTys q s es).map (t :: ·)
def cNm (s : Cs) (e : Expr) : Option Nat := match e with
  | .Name x _ => if isS s x then ixN' s x else none
  | _ => none
def cNms (s : Cs) : List Expr → Option (List Nat)
  | [] => some []
  | e :: es => (cNm s e).bind fun t => (cNms s es).map (t :: ·)
def cTg (s : Cs) (e : Expr) : Option Tg := match e with
  | .Tuple es _ _ => (cNms s es).map .tp
  | e => (cNm s e).map .nm
/-- the names of a comprehension's block with their slots -/
def ownOf (N : List Str) : List (Str × NameKind) → List (Str × Nat)
  | [] => []
  | (x, .local) :: r => match N.idxOf? x with
    | some i => (x, i) :: ownOf N r
    | none => ownOf N r
  | (x, .cell) :: r => match N.idxOf? x with
    | some i => (x, i) :: ownOf N r
    | none => ownOf N r
  | _ :: r => ownOf N r
def Cs.blk (s : Cs) (scope : Scope) : Cs := ⟨relS scope s.sc, s.N, fun x => scope.names.lookup x == some .cell⟩
def noSet (e : Expr) : Bool := match e with
  | .Set _ _ _ => false
  | _ => true
def isTupE (e : Expr) : Bool := match e with
  | .Tuple _ _ _ => true
  | _ => false
def isRev (e : Expr) : Bool := match e with
  | .Slice none none (some (.UnaryOp .USub (.Constant (.int i) _ _) _)) _ => i == 1
  | _ => false
def Tg.within (t : Tg) (l : List Nat) : Bool := match t with
  | .nm i => l.contains i
  | .tp is => is.all fun i => l.contains i
/-- C(k = v, ..): all parameters by keywords, in their order -/
def kwFit (q : Cq) (x : Str) (kws : List Keyword) : Bool := match q.kwp.lookup x with
  | some ks => decide (kws.map (·.arg) = ks.map some)
  | none => false
/-- a == b where an instance may stand on the left -/
def ownEq (q : Cq) (a : Expr) (op : CmpOp) : Bool := match op with
  | .Eq => match a with
    | .Name x _ => x == ("book" : Str) || x == ("world" : Str)
    | .Call (.Name x _) _ _ _ => q.cls.contains x || x == ("_law_book_of" : Str)
    | _ => false
  | _ => false
/-- range(b) -/
def rngArg (q : Cq) (s : Cs) : Expr → Option Expr
  | .Call (.Name x _) [b] [] _ => if isG s x && noStar b && !q.fn.contains x && !q.cls.contains x && x == ("range" : Str) then some b else none
  | _ => none
/-- a name that holds a dict -/
def isDn : Expr → Bool
  | .Name x _ => x == ("found" : Str)
  | _ => false
mutual
def cE (q : Cq) : Nat → Cs → Expr → Option ME
  | 0, _, _ => none
  | n + 1, s, e => match e with
    | .Name x _ => cVar q s x
    | .Constant c _ _ => (cCon c).map .con
    | .BinOp a op b _ => (bopOf op).bind fun o => (cE q n s a).bind fun x => (cE q n s b).bind fun y => some (.bin o x y)
    | .UnaryOp .USub a _ => (cE q n s a).bind fun x => some (.neg x)
    | .UnaryOp .Not a _ => (cE q n s a).bind fun x => some (.not x)
    | .Compare a [op] [b] _ =>
      if isMk s b then (match op with
        | .In => (cE q n s a).bind fun x => (cL q n s b).bind fun y => some (.inL false x y)
        | .NotIn => (cE q n s a).bind fun x => (cL q n s b).bind fun y => some (.inL true x y)
        | _ => none)
      else if noSet b then (cE q n s a).bind fun x => (cE q n s b).bind fun y => some (if ownEq q a op then .eqo x y else .cmp (copOf op) x y) else none
    | .Compare a [o1, o2] [b, c] _ => if noSet c then (cE q n s a).bind fun x => (cE q n s b).bind fun y => (cE q n s c).bind fun z => some (.chain (copOf o1) (copOf o2) x y z) else none
    | .BoolOp op [a] _ => cE q n s a
    | .BoolOp .And (a :: b :: r) p => (cE q n s a).bind fun x => (cE q n s (.BoolOp .And (b :: r) p)).bind fun y => some (.and x y)
    | .BoolOp .Or (a :: b :: r) p => (cE q n s a).bind fun x => (cE q n s (.BoolOp .Or (b :: r) p)).bind fun y => some (.or x y)
    | .IfExp c a b _ => (cT q n s c).bind fun x => (cE q n s a).bind fun y => (cE q n s b).bind fun z => some (.ite x y z)
    | .Tuple es _ _ => (cEs q n s es).bind fun x => some (.tup x)
    | .Dict [] [] _ => some .dnew
    | .Attribute a f _ => if plainBase a then (cE q n s a).bind fun x => some (.att x f) else none
    | .Subscript a (.Slice lo hi none _) _ => (cE q n s a).bind fun x => (cO q n s lo).bind fun y => (cO q n s hi).bind fun z => some (.sl x y z)
    | .Subscript a i _ => if isRev i then (cE q n s a).bind fun x => some (.rev x)
      else if noSlice i then (if isMk s a then (cL q n s a).bind fun x => (cE q n s i).bind fun y => some (.subL x y)
        else (cE q n s a).bind fun x => (cE q n s i).bind fun y => some (.sub x y)) else none
    | .Call (.Name x _) es [] _ => if isG s x then cCall q n s x es else none
    | .Call (.Name x _) [] kws _ => if isG s x && kwFit q x kws then (cEs q n s (kws.map (·.value))).bind fun y => some (.new x y) else none
    | .Call (.Attribute o m ap) es [] p => if plainBase o && (ap.endLine == p.line) && decide (es.length < 30) then (cE q n s o).bind fun x => (cEs q n s es).bind fun y => match mtOf q m with
        | some k => some (.mt k x y)
        | none => some (.ocall x m y) else none
    | e => (cM q n s e).bind fun x => some (.lst x)
def cCall (q : Cq) : Nat → Cs → Str → List Expr → Option ME
  | 0, _, _, _ => none
  | n + 1, s, x, es => if q.fn.contains x then (cEs q n s es).bind fun y => some (.call x y)
    else if q.cls.contains x then (cEs q n s es).bind fun y => some (.new x y)
    else match bnOf x, es with
      | some .len, [a] => if isMk s a then (cL q n s a).bind fun y => some (.lenL y) else if noStar a then (cE q n s a).bind fun y => some (.bi .len y) else none
      | some .int, [a] => if noStar a then (cE q n s a).bind fun y => some (.bi .int y) else none
      | some .tuple, [a] => if noStar a then (cL q n s a).bind fun y => some (.tupOf y) else none
      | some .list, [a] => if noStar a then (cL q n s a).bind fun y => some (.lst (.copy y)) else none
      | some .sorted, [a] => if noStar a then (cL q n s a).bind fun y => some (.lst (.sorted y)) else none
      | some .sum, [a] => if noStar a then (cL q n s a).bind fun y => some (.sumL y) else none
      | some .any, [a] => if noStar a then (cL q n s a).bind fun y => some (.anyL y) else none
      | some .all, [a] => if noStar a then (cL q n s a).bind fun y => some (.allL y) else none
      | some .isi, [a, .Tuple ts _ _] => if noStar a && decide (ts.length ≤ 1000) then (cE q n s a).bind fun y => (cTys q s ts).bind fun z => some (.isi y z) else none
      | some .isi, [a, t] => if noStar a then (cE q n s a).bind fun y => (cTy q s t).bind fun z => some (.isi y [z]) else none
      | _, _ => none
def cEs (q : Cq) : Nat → Cs → List Expr → Option MEs
  | 0, _, _ => none
  | n + 1, s, es => match es with
    | [] => some .nil
    | e :: r => if noStar e then (cE q n s e).bind fun x => (cEs q n s r).bind fun y => some (.cons x y) else none
/-- a test -/
def cT (q : Cq) : Nat → Cs → Expr → Option ME
  | 0, _, _ => none
  | n + 1, s, e => match e with
    | .IfExp _ _ _ _ => none
    | .UnaryOp .Not a _ => (cT q n s a).bind fun x => some (.not x)
    | .BoolOp op [a] _ => cT q n s a
    | .BoolOp .And (a :: b :: r) p => (cT q n s a).bind fun x => (cT q n s (.BoolOp .And (b :: r) p)).bind fun y => some (.and x y)
    | .BoolOp .Or (a :: b :: r) p => (cT q n s a).bind fun x => (cT q n s (.BoolOp .Or (b :: r) p)).bind fun y => some (.or x y)
    | .BoolOp _ [] _ => none
    | e => cE q n s e
def cO (q : Cq) : Nat → Cs → Option Expr → Option MEo
  | 0, _, _ => none
  | n + 1, s, o => match o with
    | none => some .no
    | some e => (cE q n s e).bind fun x => some (.so x)
def cF (q : Cq) : Nat → Cs → List Expr → Option MEo
  | 0, _, _ => none
  | n + 1, s, es => match es with
    | [] => some .no
    | [c] => (cT q n s c).bind fun x => some (.so x)
    | _ => none
def cM (q : Cq) : Nat → Cs → Expr → Option MM
  | 0, _, _ => none
  | n + 1, s, e => match e with
    | .List es _ => (cEs q n s es).bind fun x => some (.disp x)
    | .Call (.Name x _) [a] [] _ => if noStar a && isG s x then (match bnOf x with
      | some .list => (cL q n s a).bind fun y => some (.copy y)
      | some .sorted => if isDn a then (cE q n s a).bind fun y => some (.sortedD y) else (cL q n s a).bind fun y => some (.sorted y)
      | _ => none) else none
    | .ListComp elt [⟨tg, iter, ifs, 0⟩] scope _ => if blkC s.N s.sc scope (ownOf s.N scope.names) && noSet iter then
        (cTg (s.blk scope) tg).bind fun t => if t.within ((ownOf s.N scope.names).map Prod.snd) then
          (cI q n s tg iter).bind fun it => (cF q n (s.blk scope) ifs).bind fun c => (cE q n (s.blk scope) elt).bind fun x => some (.comp ((ownOf s.N scope.names).map Prod.snd) t it c x)
        else none
      else none
    | _ => none
def cL (q : Cq) : Nat → Cs → Expr → Option ML
  | 0, _, _ => none
  | n + 1, s, e => if isMk s e then (cM q n s e).bind fun x => some (.mk' x) else (cE q n s e).bind fun x => some (.val x)
def cI (q : Cq) : Nat → Cs → Expr → Expr → Option MI
  | 0, _, _, _ => none
  | n + 1, s, tg, e => match e with
    | .Call (.Name x _) [a] [] _ => if isG s x && noStar a && !q.fn.contains x && !q.cls.contains x then
        (if x == ("range" : Str) then (cE q n s a).bind fun y => some (.rng1 y)
        else if x == ("reversed" : Str) then (match rngArg q s a with
          | some b => (cE q n s b).bind fun y => some (.rrng y)
          | none => (cL q n s a).bind fun y => some (.revd y))
        else if x == ("enumerate" : Str) then (if isTupE tg then (cL q n s a).bind fun y => some (.enum y) else none)
        else (cL q n s e).bind fun y => some (.l y)) else (cL q n s e).bind fun y => some (.l y)
    | .Call (.Name x _) [a, b] [] _ => if isG s x && noStar a && noStar b && !q.fn.contains x && !q.cls.contains x then
        (if x == ("range" : Str) then (cE q n s a).bind fun y => (cE q n s b).bind fun z => some (.rng2 y z)
        else if x == ("zip" : Str) then (if isTupE tg then (cL q n s a).bind fun y => (cL q n s b).bind fun z => some (.zip y z) else none)
        else (cL q n s e).bind fun y => some (.l y)) else (cL q n s e).bind fun y => some (.l y)
    | e => (cL q n s e).bind fun y => some (.l y)
end
end Mi
/-! Mi14: what is read from the text computes what the text does: expressions. -/
namespace Mi
open PySem L2

/-- the built-in names that are asked -/
def biNames : List Str := ["len", "isinstance", "tuple", "int", "list", "sorted", "sum", "any", "all", "range", "reversed", "enumerate", "zip", "bool", "str"]
structure XOk (q : Cq) (cm : Str × Bool → Option Value) (Γ : Gam) (k : Nat) (X : Cx) (s : Cs) (W : WX) : Prop where
  sc : X.env.scope = s.sc
  N : X.N = s.N
  nd : s.N.Nodup
  fnb : ∀ x, s.fnb x = true → X.fn x = true
  calm : X.calm = true
  room : Room (k + 1) X.A
  tk : Takes X W
  G : GamOk X.K cm X.prog X.w X.mg X.base k Γ
  isi : IsiOk X.K cm
  fn : ∀ x, q.fn.contains x = true → ∃ ga fd ps, X.mg x = some (.ref ga) ∧ PySem.W.keepIn X.K (.ref ga) = true ∧ Callee X.K cm X.prog X.w X.mg X.base k (Γ.fn x) ga fd ps
  cls : ∀ C, q.cls.contains C = true → (Γ.init C).isSome = true ∧ ∃ Ca, X.mg C = some (.ref Ca) ∧ cm (C, true) = some (.ref Ca)
  cst : ∀ x, q.cst.contains x = true → ∃ d v u, Γ.cst x = some d ∧ X.mg x = some u ∧ RelV v u ∧ ∀ α H, Rep X.K α H d v
  blt : ∀ x ∈ biNames, X.mg x = none
  kwm : ∀ C ks, q.kwp.lookup C = some ks → ∃ Ca ga g fd ps, Γ.init C = some g ∧ cm (C, true) = some (.ref Ca) ∧ X.mg C = some (.ref Ca) ∧ Mk X.K Ca ga ∧ Callee X.K cm X.prog X.w X.mg X.base k (Γ.fn g) ga fd ps ∧ KBn X.K fd ps 1 ks (fun us ws => us ++ ws) (fun vs zs => vs ++ zs)
section
variable {q : Cq} {cm : Str × Bool → Option Value} {Γ : Gam} {k : Nat} {X : Cx} {s : Cs} {W : WX}
theorem XOk.un (O : XOk q cm Γ k X s W) : X.A.units + 65 < cLine := by have := O.room.un; omega
theorem okN {x : Str} (h : okName x = true) : (x == ("__debug__" : Str)) = false ∧ (x == ("__classdict__" : Str)) = false := by
  unfold okName at h
  rw [Bool.and_eq_true, Bool.not_eq_true', Bool.not_eq_true'] at h
  exact h
theorem XOk.gl (O : XOk q cm Γ k X s W) {x : Str} (h : isG s x = true) : Gl X x ∧ (x == ("__debug__" : Str)) = false := by
  unfold isG at h
  rw [Bool.and_eq_true] at h
  refine ⟨?_, (okN h.1).1⟩
  show X.env.scope.names.lookup x = _
  rw [O.sc]
  have h2 := h.2
  split at h2
  · assumption
  · cases h2
theorem XOk.vis (O : XOk q cm Γ k X s W) {x : Str} (h : isV s x = true) : Vis X.env.scope x ∧ (x == ("__debug__" : Str)) = false ∧ (x == ("__classdict__" : Str)) = false := by
  unfold isV at h
  rw [Bool.and_eq_true] at h
  refine ⟨?_, okN h.1⟩
  unfold Vis
  rw [O.sc]
  have h2 := h.2
  split at h2
  · exact .inl (by assumption)
  · exact .inr (.inl (by assumption))
  · exact .inr (.inr (by assumption))
  · cases h2
theorem XOk.ix (O : XOk q cm Γ k X s W) {x : Str} {i : Nat} (h : ixN' s x = some i) : X.N[i]? = some x := by
  unfold ixN' at h
  rw [O.N]
  obtain ⟨h1, h2⟩ := List.idxOf?_eq_some_iff.mp h
  exact List.getElem?_eq_some_iff.mpr ⟨h1, by simpa using h2.1⟩
theorem XOk.store (O : XOk q cm Γ k X s W) {x : Str} (h : isS s x = true) : Loc X.env.scope x ∧ (X.fn x = true ∨ X.env.scope.names.lookup x = some .local) := by
  unfold isS at h
  unfold L2.Loc
  rw [O.sc]
  split at h
  · exact ⟨.inl (by assumption), .inr (by assumption)⟩
  · exact ⟨.inr (by assumption), .inl (O.fnb x h)⟩
  · cases h
theorem XOk.blk (O : XOk q cm Γ k X s W) (sh : Shared) (H : Hp) (scope : Scope) (C : Addr) (cl : List (Str × Addr)) (fp : List Addr) : XOk q cm Γ k (X.blk sh H scope (compEnvC scope cl C X.env) fp) (s.blk scope) WF := by
  refine ⟨?_, O.N, O.nd, fun x h => h, O.calm, O.room, takes0, O.G, O.isi, O.fn, O.cls, O.cst, O.blt, O.kwm⟩
  show relS scope X.env.scope = relS scope s.sc
  rw [O.sc]
theorem names_of (O : XOk q cm Γ k X s W) : ∀ {es : List Expr} {is : List Nat}, cNms s es = some is → NamesAt X es is
  | [], is, h => by simp only [cNms] at h; cases h; exact .nil
  | e :: es, is, h => by
    simp only [cNms, Option.bind_eq_some_iff, Option.map_eq_some_iff] at h
    obtain ⟨i, h1, js, h2, rfl⟩ := h
    unfold cNm at h1
    split at h1
    · split at h1
      · rename_i hs
        obtain ⟨a, b⟩ := O.store hs
        exact .cons (O.ix h1) a b (names_of O h2)
      · cases h1
    · cases h1
theorem tg_of (O : XOk q cm Γ k X s W) {e : Expr} {t : Tg} (h : cTg s e = some t) : PG X e (gTg X.K t) := by
  have nd : X.N.Nodup := by rw [O.N]; exact O.nd
  unfold cTg at h
  split at h
  · rw [Option.map_eq_some_iff] at h
    obtain ⟨is, h1, rfl⟩ := h
    exact mg_tup O.calm nd (names_of O h1)
  · rw [Option.map_eq_some_iff] at h
    obtain ⟨i, h1, rfl⟩ := h
    unfold cNm at h1
    split at h1
    · split at h1
      · rename_i hs
        obtain ⟨a, b⟩ := O.store hs
        exact mg_name nd (O.ix h1) a b
      · cases h1
    · cases h1
theorem within_mem {t : Tg} {l : List Nat} (h : t.within l = true) : ∀ i ∈ t.is, i ∈ l := by
  cases t with
  | nm j =>
    intro i hi
    simp only [Tg.is, List.mem_singleton] at hi
    subst hi
    simpa [Tg.within] using h
  | tp js =>
    intro i hi
    simp only [Tg.is] at hi
    simp only [Tg.within, List.all_eq_true] at h
    simpa using h i hi
theorem noSet_fold {e : Expr} {env : Env} (h : noSet e = true) : ∀ x, foldedSetIterable e env x = pure x := by
  intro x
  cases e <;> first | rfl | cases h
theorem noSet_marks {e : Expr} {op : CmpOp} (h : noSet e = true) : behindInMarks op e = false := by
  cases e <;> first | rfl | cases h
theorem isMk_noSet {e : Expr} (h : isMk s e = true) : noSet e = true := by
  cases e <;> first | rfl | cases h
theorem cmp_of (hu : X.A.units + 65 < cLine) (op : CmpOp) : CmpOk X cm op (copOf op) := by
  cases op
  · exact cmp_eq hu
  · exact cmp_ne hu
  · exact cmp_lt hu
  · exact cmp_le hu
  · exact cmp_gt
  · exact cmp_ge
  · exact cmp_isN
  · exact cmp_notN
  · exact cmp_in hu
  · exact cmp_notIn hu
theorem bin_of {op : Operator} {o : BOp} (h : bopOf op = some o) : BinOk X cm op o := by
  cases op <;> cases h
  · exact bin_add
  · exact bin_sub
  · exact bin_mul
  · exact bin_mod
  · exact bin_pow
  · exact bin_shl
  · exact bin_shr
  · exact bin_bor
  · exact bin_band
  · exact bin_fdiv
theorem con_of {c : Const} {d : D} {j : Nat} {pos : Pos} (h : cCon c = some d) : ∃ v, PE X (.Constant c j pos) (tC v) ∧ ∀ α H, Rep X.K α H d v := by
  cases c <;> cases h
  · exact ⟨_, pe_non, fun _ _ => rep_mkN⟩
  · exact ⟨_, pe_bl, fun _ _ => rep_mkB⟩
  · exact ⟨_, pe_int, fun _ _ => rep_mkI⟩
  · exact ⟨_, pe_str, fun _ _ => rep_mkS⟩
theorem ty_of (O : XOk q cm Γ k X s W) {e : Expr} {t : Ty} (h : cTy q s e = some t) : noStar e = true ∧ ∃ v u, PE X e (tC v) ∧ ClsV v u ∧ tyVal cm t = some u := by
  unfold cTy at h
  split at h
  · rename_i x p
    split at h
    · rename_i hg
      obtain ⟨g, hd⟩ := O.gl hg
      refine ⟨rfl, ?_⟩
      have tyn : ∀ {n : String} (hx : x = Str.ofString n) (hm : Str.ofString n ∈ biNames) (hv : bootBuiltins (Str.ofString n) = some (.type n)) (hn : Str.ofString n ≠ ("__name__" : Str)), PE X (.Name x p) (tC (.ty n)) := fun {n} hx hm hv hn => by
        subst hx
        exact pe_bltn g (O.blt _ hm) hv rfl hn hd
      split at h
      · rename_i hx
        cases h
        exact ⟨_, _, tyn (eq_of_beq hx) (by decide +kernel) (by decide +kernel) (by decide +kernel), .ty _, rfl⟩
      · split at h
        · rename_i hx
          cases h
          exact ⟨_, _, tyn (eq_of_beq hx) (by decide +kernel) (by decide +kernel) (by decide +kernel), .ty _, rfl⟩
        · split at h
          · rename_i hx
            cases h
            exact ⟨_, _, tyn (eq_of_beq hx) (by decide +kernel) (by decide +kernel) (by decide +kernel), .ty _, rfl⟩
          · split at h
            · rename_i hx
              cases h
              exact ⟨_, _, tyn (eq_of_beq hx) (by decide +kernel) (by decide +kernel) (by decide +kernel), .ty _, rfl⟩
            · split at h
              · rename_i hx
                cases h
                exact ⟨_, _, tyn (eq_of_beq hx) (by decide +kernel) (by decide +kernel) (by decide +kernel), .ty _, rfl⟩
              · split at h
                · rename_i hc
                  cases h
                  obtain ⟨_, Ca, h1, h2⟩ := O.cls x hc
                  exact ⟨.ref Ca, .ref Ca, pe_glob g h1 rfl hd, .own Ca, h2⟩
                · cases h
    · cases h
  · cases h
theorem tys_of (O : XOk q cm Γ k X s W) : ∀ {es : List Expr} {ts : List Ty}, cTys q s es = some ts → ∃ vs us, TysAt X cm es ts vs us
  | [], ts, h => by simp only [cTys] at h; cases h; exact ⟨[], [], .nil⟩
  | e :: es, ts, h => by
    simp only [cTys, Option.bind_eq_some_iff, Option.map_eq_some_iff] at h
    obtain ⟨t, h1, js, h2, rfl⟩ := h
    obtain ⟨a, v, u, b, c, d⟩ := ty_of O h1
    obtain ⟨vs, us, r⟩ := tys_of O h2
    exact ⟨v :: vs, u :: us, .cons a b c d r⟩
end
end Mi
set_option maxHeartbeats 1000000
/-! MiX: own exceptions over Exception: made, raised, caught. -/
namespace Mi
open PySem PySem.Spec PyProof.Rows L2

abbrev exB : List Value := [.type "Exception", .type "BaseException", .type "object"]
/-- what the top says of an own exception class -/
structure XcC (K : PySem.W.Frag) (C : Addr) : Prop where
  ini : PySem.W.excInitIn K C exB "Exception.__new__" = true
  ovr : PySem.W.excOver K C exB = true
  sa : PySem.W.findIn K (.ref C) "__setattr__" = some (some (.builtin "object.__setattr__"))
  xf : XfC K C
  ty : PySem.W.typeIn K (.ref C) = some (.type "type")
  kp : PySem.W.keepIn K (.ref C) = true
theorem taker_no {K : PySem.W.Frag} {C : Addr} {f : Str} (h : PySem.W.findIn K (.ref C) f = some none) : PySem.W.takerIn K C f = some none := by
  unfold PySem.W.takerIn
  rw [h]; rfl
section
variable {X : Cx} {pins : List (Addr × Obj)} {σ : L2.St} {H : Hp} {s : Shared} {a C dx : Addr} {f : Str} {y : V} {u : Value} {fs : List (Str × V)} {Q : Unit → Shared → Prop} {E : Value → Shared → Prop} {A : Around}
theorem xst_new (T : XcC X.K C) (I : Inv X pins σ H s) (e : H a = some (exo a C none)) (hno : PySem.W.findIn X.K (.ref C) f = some none) (ry : RelV y u)
    (h : ∀ dx s', H dx = none → dx ≠ a → Inv X pins σ (upd (upd H dx (exd dx [(f, y)])) a (exo a C (some dx))) s' → Q () s') : wpAny (model X.prog X.w) A (setAttr (.ref a) f u) Q E s := by
  obtain ⟨t1, ho⟩ := exo_at I.hok e
  obtain ⟨hp, g, dr, t, os⟩ := s
  have J : PySem.W.InstAt hp a ({ cls := .ref C, dict := none, data := .fields #[.ref t1, .none, .none, .none, .bool false, .none] } : Obj) C none := ⟨ho, rfl, rfl, trivial⟩
  have hax : a ≠ hp.objs.size := Nat.ne_of_lt (Heap.lt_size ho)
  obtain ⟨cd, hcd, hdd⟩ := PySem.W.any_some T.xf.hdC
  refine PySem.W.set_plain I.kIn J T.sa (PySem.W.osa_openX (s := ⟨hp, g, dr, t + 1, os⟩) PySem.F.store_Exception I.kIn J T.ovr (taker_no hno) fun b => ?_)
  have Lc : PySem.W.Looks (model X.prog X.w) hp (classData C) cd := PySem.W.looks_clsIn I.kIn hcd
  have hnd : ((hp.push (PySem.W.dictOf [] 0)).update a fun o => { o with dict := some hp.objs.size }).Ns hp.objs.size (fun _ => none) :=
    ⟨_, #[], _, (Heap.get?_update_ne _ _ _ _ hax.symm).trans (Heap.get?_push_at rfl rfl), rfl, fun e he => absurd he (by simp), fun _ => rfl⟩
  have hx1 : (hp.push (PySem.W.dictOf [] 0)).get? a = some ({ cls := .ref C, dict := none, data := .fields #[.ref t1, .none, .none, .none, .bool false, .none] } : Obj) := Heap.get?_push_of_some _ ho
  have fresh : H hp.objs.size = none := I.hok.fresh (Nat.le_refl _)
  have nd : ∀ {b : Addr} {o : Obj}, hp.get? b = some o → b ≠ hp.objs.size := fun {b o} q => Nat.ne_of_lt (Heap.lt_size q)
  have na : ∀ {b : Addr}, H b = none → b ≠ a := fun {b} n z => by rw [z, e] at n; cases n
  refine wpAny_bind (wpAny_pure (wpAny_bind ?_))
  refine PySem.W.instanceDict_exc (s := ⟨hp, g, dr, t + 1, os⟩) (t := t1) (c2 := .none) ho Lc hdd ?_
  refine HandSPX.store_in_new hnd fun h' tk' hn' hs => ?_
  have kb : ∀ b o, b ≠ a → hp.get? b = some o → h'.get? b = some o := fun b o hb q => (hs.2 b (nd q)).trans ((Heap.get?_update_ne _ _ _ _ hb).trans (Heap.get?_push_of_some _ q))
  have ha' : h'.get? a = some ({ cls := .ref C, dict := some hp.objs.size, data := .fields #[.ref t1, .none, .none, .none, .bool false, .none] } : Obj) := (hs.2 a hax).trans (Heap.get?_update_self _ hx1 rfl)
  refine h hp.objs.size _ fresh hax.symm (I.un (t' := tk') (Un.mk (fun b o q n _ _ => kb b o (na n) q) (fun b o q n _ _ => ⟨o.slots, kb b o (na n) q⟩) (fun b o q n _ => by rw [upd_ne (na n), upd_ne (nd q)]; exact n) (fun b o q _ => ?_)
    (fun b xs q => by rw [upd_ne (at_ne e q exo_tup), upd_ne (ne_of_none q fresh)]; exact q) (fun b o v q => by rw [upd_ne (at_ne e q exo_frz), upd_ne (ne_of_none q fresh)]; exact q) fun b ps q => ⟨#[], by rw [upd_ne (at_ne e q exo_tbl), upd_ne (ne_of_none q fresh), q]; simp⟩) fun b o q => ?_)
  · by_cases hb : b = a
    · exact ⟨_, by rw [hb]; exact ha'⟩
    · exact ⟨o, kb b o hb q⟩
  · by_cases hb : b = a
    · subst hb
      rw [upd_same] at q; cases q
      exact exo_ok ha'
    · rw [upd_ne hb] at q
      by_cases hd : b = hp.objs.size
      · subst hd
        rw [upd_same] at q; cases q
        exact exd_ok hn' (relO_put (fs := []) ry fun _ => True.intro)
      · rw [upd_ne hd] at q
        refine (I.hok b o q).stay (fun c v hc z => kb c v ?_ z) (fun c hc => by rw [upd_ne (at_ne e hc exo_own), upd_ne (ne_of_none hc fresh)]; exact hc) fun c xs hc => by rw [upd_ne (at_ne e hc exo_tup), upd_ne (ne_of_none hc fresh)]; exact hc
        rcases hc with hc | hc
        · rw [hc]; exact hb
        · exact at_ne e hc exo_own
theorem xst_old (T : XcC X.K C) (I : Inv X pins σ H s) (e : H a = some (exo a C (some dx))) (ed : H dx = some (exd dx fs)) (hl : fs.length ≤ 900) (hno : PySem.W.findIn X.K (.ref C) f = some none) (ry : RelV y u)
    (h : ∀ s', Inv X pins σ (upd H dx (exd dx ((f, y) :: fs))) s' → Q () s') : wpAny (model X.prog X.w) A (setAttr (.ref a) f u) Q E s := by
  obtain ⟨t1, ho⟩ := exo_at I.hok e
  obtain ⟨mA, hns, rel⟩ := exd_at I.hok ed
  have hw := within_of rel
  obtain ⟨hp, g, dr, t, os⟩ := s
  obtain ⟨oD, _, _, hoD, _, _⟩ := hns.count hw
  obtain ⟨cd, hcd, hdd⟩ := PySem.W.any_some T.xf.hdC
  have Lc : PySem.W.Looks (model X.prog X.w) hp (classData C) cd := PySem.W.looks_clsIn I.kIn hcd
  have J : PySem.W.InstAt hp a ({ cls := .ref C, dict := some dx, data := .fields #[.ref t1, .none, .none, .none, .bool false, .none] } : Obj) C (some oD) := ⟨ho, rfl, rfl, hoD⟩
  refine PySem.W.set_plain I.kIn J T.sa (PySem.W.osa_openX (s := ⟨hp, g, dr, t + 1, os⟩) PySem.F.store_Exception I.kIn J T.ovr (taker_no hno) fun b => ?_)
  refine wpAny_bind (wpAny_pure (wpAny_bind ?_))
  show wpAny _ _ (instanceDict a true) _ _ _
  unfold instanceDict
  refine wpAny_bind (wpAny_loadPart (s := ⟨hp, g, dr, t + 1, os⟩) ho ?_)
  refine wpAny_bind (Lc.at ?_)
  show wpAny _ _ (if (!cd.hasDict) = true then _ else _) _ _ _
  rw [hdd, if_neg (by decide)]
  refine wpAny_pure ?_
  refine PySem.OEX.store_in_old hns hw (by rw [List.length_map]; omega) fun h' tk' hn' hs => ?_
  have k : ∀ b o, b ≠ dx → hp.get? b = some o → h'.get? b = some o := fun b o hb q => (hs.2 b hb).trans q
  have hd : ∃ o, h'.get? dx = some o := by
    obtain ⟨o, _, _, q, _⟩ := hn'
    exact ⟨o, q⟩
  exact h _ (I.write (t' := tk') (x := dx) (e := dx) (o := exd dx ((f, y) :: fs)) (by rw [ed]; exact True.intro) (.inl rfl) k hd (exd_ok hn' (relO_put ry rel)))
end
/-- self.f = e, self an exception that is being made -/
def tXst (K : PySem.W.Frag) (f : Str) (to te : TE) : TS := fun D σ H => te σ H fun y H1 => to σ H1 fun x H2 => ∃ a C : Addr, x = .ref a ∧ XcC K C ∧ PySem.W.findIn K (.ref C) f = some none ∧
  ((H2 a = some (exo a C none) ∧ ∀ dx, H2 dx = none → dx ≠ a → D.nx σ (upd (upd H2 dx (exd dx [(f, y)])) a (exo a C (some dx)))) ∨
    ∃ (dx : Addr) (gs : List (Str × V)), H2 a = some (exo a C (some dx)) ∧ H2 dx = some (exd dx gs) ∧ gs.length ≤ 900 ∧ D.nx σ (upd H2 dx (exd dx ((f, y) :: gs))))
section
variable {X : Cx} {o e : Expr} {es : List Expr} {to te : TE} {ta : TA} {f : Str} {p p' pos : Pos}
theorem ps_xst (ho : PE X o to) (he : PE X e te) (hs : swapsWith e (some (.Attribute o f p')) pos.line X.env = pure false) : PS X (.Assign [.Attribute o f p'] e pos) (tXst X.K f to te) := by
  refine ⟨fun pins s σ H D I h => ?_⟩
  refine plainObj_wpAny_Assign_Attribute (thn (he.run pins s σ H _ I h) fun v s1 ⟨y, H1, I1, r1, q1⟩ => thn (ho.run pins s1 σ H1 _ I1 q1) fun u s2 ⟨x, H2, I2, r2, a, C, ex, T, hno, q⟩ => ?_) hs
  subst ex
  obtain rfl : u = Value.ref a := r2
  rcases q with ⟨q1, q2⟩ | ⟨dx, gs, q1, q2, q3, q4⟩
  · exact xst_new T I2 q1 hno r1 fun dx s' n ne J => ⟨σ, _, J, q2 dx n ne⟩
  · exact xst_old T I2 q1 q2 q3 hno r1 fun s' J => ⟨σ, _, J, q4⟩
end
/-- the body of an __init__ that only stores what it is given: field and slot -/
def xBody (s : Cs) : List Stmt → Option (List (Str × Nat))
  | [] => some []
  | .Assign [.Attribute (.Name x _) f _] (.Name y _) _ :: r => if isV s x && isV s y && (ixN' s x == some 0) then (ixN' s y).bind fun i => (xBody s r).bind fun l => some ((f, i) :: l) else none
  | _ :: _ => none
def tXi (K : PySem.W.Frag) : List (Str × Nat) → TS
  | [] => tNext
  | (f, i) :: r => tSeq (tXst K f (tVar 0) (tVar i)) (tXi K r)
theorem vis_of {X : Cx} {s : Cs} (sc : X.env.scope = s.sc) {x : Str} (h : isV s x = true) : Vis X.env.scope x ∧ (x == ("__debug__" : Str)) = false ∧ (x == ("__classdict__" : Str)) = false := by
  unfold isV okName at h
  rw [Bool.and_eq_true, Bool.and_eq_true, Bool.not_eq_true', Bool.not_eq_true'] at h
  refine ⟨?_, h.1⟩
  unfold Vis
  rw [sc]
  have h2 := h.2
  split at h2
  · exact .inl (by assumption)
  · exact .inr (.inl (by assumption))
  · exact .inr (.inr (by assumption))
  · cases h2
theorem ix_of {X : Cx} {s : Cs} (hN : X.N = s.N) {x : Str} {i : Nat} (h : ixN' s x = some i) : X.N[i]? = some x := by
  unfold ixN' at h
  rw [hN]
  obtain ⟨h1, h2⟩ := List.idxOf?_eq_some_iff.mp h
  exact List.getElem?_eq_some_iff.mpr ⟨h1, by simpa using h2.1⟩
theorem xBody_ok {X : Cx} {s : Cs} (sc : X.env.scope = s.sc) (hN : X.N = s.N) : ∀ {b : List Stmt} {l : List (Str × Nat)}, xBody s b = some l → PSs X b (tXi X.K l)
  | [], l, h => by simp only [xBody] at h; cases h; exact pss_nil
  | st :: r, l, h => by
    unfold xBody at h
    split at h
    · rename_i e; cases e
    · rename_i e
      cases e
      split at h
      · rename_i hb
        rw [Bool.and_eq_true, Bool.and_eq_true] at hb
        obtain ⟨⟨v1, v2⟩, v3⟩ := hb
        obtain ⟨i, h1, h⟩ := Option.bind_eq_some_iff.mp h
        obtain ⟨l', h2, h⟩ := Option.bind_eq_some_iff.mp h
        cases h
        obtain ⟨a1, a2, a3⟩ := vis_of sc v1
        obtain ⟨b1, b2, b3⟩ := vis_of sc v2
        exact pss_cons (ps_xst (pe_var (ix_of hN (by simpa using v3)) a1 a2 a3) (pe_var (ix_of hN h1) b1 b2 b3) rfl) (xBody_ok sc hN h2)
      · cases h
    · cases h
theorem upd_id {H : Hp} {a : Addr} {o : HO} (h : H a = some o) : upd H a o = H := by
  funext b
  by_cases e : b = a
  · rw [e, upd_same, h]
  · rw [upd_ne e]
theorem upd_upd {H : Hp} {a : Addr} {o o' : HO} : upd (upd H a o) a o' = upd H a o' := by
  funext b
  by_cases e : b = a
  · rw [e, upd_same, upd_same]
  · rw [upd_ne e, upd_ne e, upd_ne e]
theorem upd_swap {H : Hp} {a b : Addr} {o o' : HO} (ne : a ≠ b) : upd (upd H a o) b o' = upd (upd H b o') a o := by
  funext c
  by_cases e : c = b
  · rw [e, upd_same, upd_ne (Ne.symm ne), upd_same]
  · rw [upd_ne e]
    by_cases e2 : c = a
    · rw [e2, upd_same, upd_same]
    · rw [upd_ne e2, upd_ne e2, upd_ne e]
theorem tXi_go {K : PySem.W.Frag} {a C dx : Addr} {σ : L2.St} {D : Ends} (T : XcC K C) (h0 : σ[0]? = some (some (.ref a))) (val : Nat → V) : ∀ (l : List (Str × Nat)) (gs : List (Str × V)) (H : Hp), (∀ p ∈ l, PySem.W.findIn K (.ref C) p.1 = some none ∧ σ[p.2]? = some (some (val p.2))) →
    H a = some (exo a C (some dx)) → H dx = some (exd dx gs) → dx ≠ a → gs.length + l.length ≤ 900 → D.nx σ (upd H dx (exd dx ((l.map fun p => (p.1, val p.2)).reverse ++ gs))) → tXi K l D σ H
  | [], gs, H, _, _, h2, _, _, q => by
    simp only [List.map_nil, List.reverse_nil, List.nil_append] at q
    rw [upd_id h2] at q
    exact q
  | (f, i) :: r, gs, H, hl, h1, h2, ne, hz, q => by
    obtain ⟨n1, n2⟩ := hl (f, i) List.mem_cons_self
    simp only [List.length_cons] at hz
    refine ⟨val i, n2, .ref a, h0, a, C, rfl, T, n1, .inr ⟨dx, gs, h1, h2, by omega, ?_⟩⟩
    refine tXi_go T h0 val r ((f, val i) :: gs) _ (fun p hp => hl p (List.mem_cons_of_mem _ hp)) (by rw [upd_ne (Ne.symm ne)]; exact h1) upd_same ne (by simp only [List.length_cons]; omega) ?_
    rw [upd_upd]
    simpa using q
/-- what the __init__ of such a class keeps -/
def spXi (C : Addr) (fs : List Str) : Sp := fun vs H Q _ => ∃ (a : Addr) (ws : List V), vs = .ref a :: ws ∧ ws.length = fs.length ∧ H a = some (exo a C none) ∧
  ∀ dx, H dx = none → dx ≠ a → Q .non (upd (upd H dx (exd dx (fs.zip ws).reverse)) a (exo a C (some dx)))
def ixs : Nat → List Str → List (Str × Nat)
  | _, [] => []
  | k, f :: r => (f, k) :: ixs (k + 1) r
theorem ixs_mem {k : Nat} : ∀ {fs : List Str} {p : Str × Nat}, p ∈ ixs k fs → p.1 ∈ fs ∧ k ≤ p.2 ∧ p.2 < k + fs.length
  | [], p, h => by cases h
  | f :: r, p, h => by
    rcases List.mem_cons.mp h with e | h
    · subst e; exact ⟨List.mem_cons_self, Nat.le_refl _, by simp⟩
    · obtain ⟨h1, h2, h3⟩ := ixs_mem (k := k + 1) h
      exact ⟨List.mem_cons_of_mem _ h1, by omega, by simp only [List.length_cons]; omega⟩
theorem ixs_zip (ws : List V) : ∀ (fs : List Str) (k : Nat), k + fs.length = ws.length → (ixs k fs).map (fun p => (p.1, (ws[p.2]?).getD .non)) = fs.zip (ws.drop k)
  | [], k, h => by simp [ixs]
  | f :: r, k, h => by
    simp only [List.length_cons] at h
    have hk : k < ws.length := by omega
    rw [List.drop_eq_getElem_cons hk]
    simp only [ixs, List.map_cons, List.zip_cons_cons]
    rw [ixs_zip ws r (k + 1) (by omega), List.getElem?_eq_getElem hk]
    rfl
theorem ixs_len : ∀ (fs : List Str) (k : Nat), (ixs k fs).length = fs.length
  | [], _ => rfl
  | f :: r, k => by simp [ixs, ixs_len r]
theorem xi_ok {P : Program} {w : World} {K : PySem.W.Frag} {mg : Str → Option Value} {base : Heap} {x qual : Str} {st : Stmt} {ga C : Addr} {fd : FuncData} {N ps : List Str} {f0 : Str} {fs : List Str} (F : Fun K x qual st ga fd) (S : FnScope N ps (defScope st))
    (rd : xBody ⟨defScope st, N, fun _ => true⟩ (defBody st) = some (ixs 1 (f0 :: fs))) (hl : ps.length = fs.length + 2) (hz : fs.length ≤ 800) (T : XcC K C) (no : ∀ f ∈ f0 :: fs, PySem.W.findIn K (.ref C) f = some none) :
    FnOk P w K mg base (L2.CX P w) 1 ga fd ps (spXi C (f0 :: fs)) := by
  refine F.okX (k := 0) S (fun vs H Q E ⟨a, ws, e, h, _⟩ => by rw [e]; simp only [List.length_cons] at h ⊢; omega) fun cdv A outer s H vs Q E _ ⟨a, ws, e, h, ha, q⟩ => ?_
  subst e
  refine ⟨_, xBody_ok (s := ⟨defScope st, N, fun _ => true⟩) rfl rfl rd, ?_⟩
  cases ws with
  | nil => simp at h
  | cons y ws =>
    simp only [List.length_cons] at h
    have sg : ∀ i, i < ws.length + 2 → (L2.start N (.ref a :: y :: ws))[i]? = some (some (((V.ref a :: y :: ws)[i]?).getD .non)) := fun i hi => by
      unfold L2.start
      rw [List.getElem?_append_left (by simpa using hi), List.getElem?_map]
      have hi2 : i < (V.ref a :: y :: ws).length := by simpa using hi
      rw [List.getElem?_eq_getElem hi2]
      rfl
    have n0 := no f0 List.mem_cons_self
    refine ⟨y, sg 1 (by omega), .ref a, sg 0 (by omega), a, C, rfl, T, n0, .inl ⟨ha, fun dx hdx ne => ?_⟩⟩
    refine tXi_go (dx := dx) T (sg 0 (by omega)) (fun i => (((V.ref a :: y :: ws)[i]?).getD .non)) (ixs 2 fs) [(f0, y)] _ (fun p hp => ?_) upd_same (by rw [upd_ne ne, upd_same]) ne (by rw [ixs_len]; simp; omega) ?_
    · obtain ⟨h1, h2, h3⟩ := ixs_mem hp
      exact ⟨no _ (List.mem_cons_of_mem _ h1), sg _ (by omega)⟩
    · have e := ixs_zip (V.ref a :: y :: ws) fs 2 (by simp; omega)
      rw [e, upd_swap ne, upd_upd, upd_swap (Ne.symm ne)]
      have q2 := q dx hdx ne
      simp only [List.zip_cons_cons, List.reverse_cons] at q2
      rw [upd_swap ne] at q2
      rw [upd_swap ne]
      exact q2
/-- C(e, ..), C an exception class whose __init__ only stores -/
def tMkX (C : Addr) (fs : List Str) (ta : TA) : L2.St → Hp → XK → Prop := fun σ H Q => ta σ H fun vs H1 => vs.length = fs.length ∧ vs.length ≤ 1000 ∧ ∀ d, H1 d = none → Q (.ref C) (some d) (upd H1 d (.xd (fs.zip vs).reverse))
section
variable {X : Cx} {e : Expr} {es : List Expr} {ta : TA} {p pos : Pos}
theorem pmk_x {x : Str} {C ga : Addr} {k : Nat} {fd : FuncData} {ps : List Str} {fs : List Str} (T : XcC X.K C) (iC : PySem.W.findIn X.K (.ref C) "__init__" = some (some (.ref ga))) (tI : PySem.W.isFn X.K (.ref ga) = true)
    (F1 : FnOk X.prog X.w X.K X.mg X.base (L2.CX X.prog X.w) k ga fd ps (spXi C fs)) (hr : Room (k + 1) X.A) (hb : Binds X.K fd ps []) (hg : Gl X x) (hm : X.mg x = some (.ref C)) (hdb : (x == ("__debug__" : Str)) = false) (ha : PA X (e :: es) ta)
    (he : starEach (e :: es) X.env = (false, eval e X.env) :: starEach es X.env) (hpl : (backTo pos (starEach es X.env)).any (·.1) = false) : PMk X (.Call (.Name x p) (e :: es) [] pos) (tMkX C fs ta) := by
  intro pins s σ H Q I h
  refine wpAny_Call_Name_kw (ld_glob I hg hm ?_ hdb)
  refine PySem.W.callWith_K (h₀ := X.base) I.ok.mod.kin T.kp (thn (ha.run pos pins s σ H _ I h) fun us s1 ⟨vs, H1, I1, rv, hlen, hz, q1⟩ => ⟨I1.kIn, ?_⟩) he hpl
  show wpAny _ _ (call (.ref C) us) _ _ _
  obtain ⟨nm, N, qn, bs, bm, hdct, sn, sub, ab, col, dd, k0, k1, k2, k3, k5, hC, hT⟩ := PySem.W.excInit_of I1.kIn T.ini
  obtain ⟨oI, hoI, hcI⟩ : ∃ oI, s1.heap.get? ga = some oI ∧ oI.cls = .type "function" := by
    obtain ⟨o, ho, hc⟩ := Option.map_eq_some_iff.mp (show (X.K.lookup ga).map (·.cls) = some (.type "function") from beq_iff_eq.mp tI)
    exact ⟨o, I1.kIn _ _ ho, hc⟩
  obtain ⟨hp, g, dr, tk, os⟩ := s1
  have up1 : hp.objs.size ≤ hp.objs.size + 1 := Nat.le_succ _
  have na : H1 (hp.objs.size + 1) = none := I1.hok.fresh up1
  have kk : ∀ b o, hp.get? b = some o → ((hp.push (PySem.W.kdv_tup us)).push (PySem.HandSPX.excO C hp.objs.size)).get? b = some o := fun b o z => Heap.get?_push_of_some _ (Heap.get?_push_of_some _ z)
  have hnew : ((hp.push (PySem.W.kdv_tup us)).push (PySem.HandSPX.excO C hp.objs.size)).get? (hp.objs.size + 1) = some (PySem.HandSPX.excO C hp.objs.size) := by heap_get
  have I2 : Inv X pins σ (upd H1 (hp.objs.size + 1) (exo (hp.objs.size + 1) C none)) ⟨(hp.push (PySem.W.kdv_tup us)).push (PySem.HandSPX.excO C hp.objs.size), g, dr, tk, os⟩ :=
    I1.laid (t' := tk) (a := hp.objs.size + 1) (o := exo (hp.objs.size + 1) C none) (h' := (hp.push (PySem.W.kdv_tup us)).push (PySem.HandSPX.excO C hp.objs.size)) kk up1 (exo_ok hnew)
  have hsp : spXi C fs (V.ref (hp.objs.size + 1) :: vs) (upd H1 (hp.objs.size + 1) (exo (hp.objs.size + 1) C none)) (fun v H2 => v = .non ∧ ∃ (d : Addr) (gs : List (Str × V)), H2 (hp.objs.size + 1) = some (exo (hp.objs.size + 1) C (some d)) ∧
      H2 d = some (exd d gs) ∧ H1 d = none ∧ Q (.ref C) (some d) (upd (del H2 (hp.objs.size + 1)) d (.xd gs))) (fun _ _ _ => False) := by
    refine ⟨_, vs, rfl, hlen, upd_same, fun dx hdx ne => ⟨rfl, dx, (fs.zip vs).reverse, upd_same, by rw [upd_ne ne, upd_same], ?_, ?_⟩⟩
    · rw [upd_ne ne] at hdx; exact hdx
    · rw [upd_ne ne] at hdx
      have e1 : upd (del (upd (upd (upd H1 (hp.objs.size + 1) (exo (hp.objs.size + 1) C none)) dx (exd dx (fs.zip vs).reverse)) (hp.objs.size + 1) (exo (hp.objs.size + 1) C (some dx))) (hp.objs.size + 1)) dx (.xd (fs.zip vs).reverse)
          = upd H1 dx (.xd (fs.zip vs).reverse) := by
        funext b
        by_cases hb : b = dx
        · rw [hb, upd_same, upd_same]
        · rw [upd_ne hb, upd_ne hb]
          by_cases hb2 : b = hp.objs.size + 1
          · rw [hb2, del_same, na]
          · rw [del_ne hb2, upd_ne hb2, upd_ne hb, upd_ne hb2]
      rw [e1]
      exact q1 dx hdx
  have hl : (Value.ref (hp.objs.size + 1) :: us ++ []).length = ps.length := by
    have z := F1.len _ _ _ _ hsp
    rw [List.append_nil, ← z]
    show us.length + 1 = vs.length + 1
    rw [← rv.length]
  have hus : us.length ≤ sizeLine := by
    rw [← Paired.length rv, sizeLine_eq]
    omega
  have bd := hb _ (Value.ref (hp.objs.size + 1) :: us) I2.kIn hl
  rw [List.append_nil] at bd
  have rv1 : Vals (V.ref (hp.objs.size + 1) :: vs) (Value.ref (hp.objs.size + 1) :: us) := .cons rfl rv
  refine wpAny_call (PySem.HandSPX.call_own PySem.F.excBase_Exception hT hC (PySem.W.looks_findIn I1.kIn iC) (fun self => PySem.W.exc_bind hoI hcI self) hus
    (codeAny_mono (F1.run _ X.stack _ _ ⟨Value.ref (hp.objs.size + 1) :: us, []⟩ (Value.ref (hp.objs.size + 1) :: us) _ _ (fun _ _ _ => False) (hr.make C us []) (I2.env0.make C us []) bd rv1 hsp) fun r s' hq' => ?_))
  cases r with
  | error er => exact passL pins σ _ _ er s' I2 hq'
  | ok fl =>
    cases fl with
    | ret u =>
      obtain ⟨v, H2, os2, bare2, un2, hok2, rv2, ev, d, gs, ea, ed, hd1, q2⟩ := hq'
      subst ev
      obtain ⟨h2, g2, d2, t2, os'⟩ := s'
      exact ⟨rv2, mk_end (raises_own T.xf.exC T.ty) I1 up1 kk un2 hok2 os2 bare2 ea ed hd1 q2⟩
    | next => exact False.elim hq'
    | brk => exact False.elim hq'
    | cont => exact False.elim hq'
end

/-! ### try with named clauses -/
abbrev Clause := Value × Nat × (Addr → Value → Option Addr → TS)
abbrev endsOff (D : Ends) (i : Nat) : Ends := { nx := fun σ H => D.nx (σ.set i none) H, rt := D.rt, bk := fun σ H => D.bk (σ.set i none) H, ct := fun σ H => D.ct (σ.set i none) H }
def wClauses (K : PySem.W.Frag) (Wout : WX) (D : Ends) : List Clause → WX
  | [] => Wout
  | (c, i, ts) :: r => fun cls d σ H => ∃ b, PySem.W.exmOne K cls c = some b ∧ (b = true → ∀ a, H a = none → ts a cls d (endsOff D i) (σ.set i (some (.ref a))) H) ∧ (b = false → wClauses K Wout D r cls d σ H)
inductive ClausesOk (X : Cx) : List ExceptHandler → List Clause → Prop
  | nil : ClausesOk X [] []
  | cons {x n : Str} {c : Value} {i : Nat} {ts : Addr → Value → Option Addr → TS} {b₀ : Stmt} {suite : List Stmt} {np pos' : Pos} {hds : List ExceptHandler} {l : List Clause} (hc : Names X x c) (hi : X.N[i]? = some n) (hln : X.env.kindOf n = some .local)
      (hsu : ∀ (a : Addr) (oe : Obj) (cls : Value) (d : Option Addr) (pn : List (Addr × Obj)), Zc cls d oe → (∃ vs, oe.data = .fields vs) → PSs (X.suite a ((a, oe) :: pn)) (b₀ :: suite) (ts a cls d)) (r : ClausesOk X hds l) :
      ClausesOk X (.ExceptHandler (some (.Name x np)) (some n) (b₀ :: suite) pos' :: hds) ((c, i, ts) :: l)
section
variable {X : Cx} {body : List Stmt} {h₀ : ExceptHandler} {hds : List ExceptHandler} {l : List Clause} {pos : Pos} {tb : WX → TS} {Wout : WX}
/-- the clauses, one after the other; sI: the state without the exception, B: the ground -/
theorem clauses_go {pins : List (Addr × Obj)} {σ : L2.St} {H : Hp} {D : Ends} {a : Addr} {B h3 : Heap} {sI s' : Shared} {cls : Value} {d : Option Addr} (hs : X.stack = X.env :: X.outer) (hf : X.env.frame = some X.env.locals) (hN : X.N.Nodup) (tk : Takes X Wout)
    (J : Inv X pins σ H sI) (nb : ∀ b o, sI.heap.get? b = some o → b ∉ frs X.stack → B.get? b = some o) (up : sI.heap.UpToSlots h3) (os : s'.os = sI.os) (ag : AllBare s'.gens) (na : H a = none)
    (fl : HandSPX.FlyingZ B (X.env :: X.outer) a (Zc cls d) h3) : ∀ {hds : List ExceptHandler} {l : List Clause}, ClausesOk X hds l → wClauses X.K Wout D l cls d σ H →
    wpAny (model X.prog X.w) X.A (handleBy (.ref a) X.env hds) (SP X pins D) X.xe { s' with heap := h3 } := by
  have ok := J.ok
  have J3 : Inv X pins σ H { s' with heap := h3 } := J.landed nb fl.1 up os ag
  have apart : ∀ {h : Heap} {o : Obj} {vs : Array Value}, h.FunFrames B (X.env :: X.outer) → h.get? a = some o → o.data = .fields vs → a ≠ X.env.locals ∧ a ∉ X.fs := fun {h o vs} ff ho dd => by
    have nfr : a ∉ frs (X.env :: X.outer) := fun hm => by
      obtain ⟨_, o', ho', hnf⟩ := ff.mem hm
      rw [ho] at ho'; cases ho'
      exact hnf _ dd
    refine ⟨fun z => nfr (List.mem_filterMap.mpr ⟨X.env, List.mem_cons_self, by rw [hf, z]⟩), fun hm => ?_⟩
    obtain ⟨ev, hev, q⟩ := List.mem_filterMap.mp hm
    exact nfr (List.mem_filterMap.mpr ⟨ev, List.mem_cons_of_mem _ hev, q⟩)
  obtain ⟨oe3, vs3, he3, hz3, hd3⟩ := fl.there
  obtain ⟨nL, nF⟩ := apart fl.2.2.1 he3 hd3
  have S3 := J3.suite he3 hd3 na nL nF
  intro hds l hk
  induction hk with
  | nil =>
    intro w
    refine wpAny_handleBy_nil ?_
    obtain ⟨_, _, _, oe, vs, Tr, oT, ts', g1, g2, g3, g4, _⟩ := id fl
    unfold PySem.passOn
    refine wpAny_bind (wpAny_field g1 g3 g4 ?_)
    rw [if_neg (show ¬ ((Value.ref Tr == Value.none) = true) from by simp)]
    have out : wpAny (model X.prog X.w) X.A (setFlight (.ref a) X.env.frame) (fun _ s4 => wpAny (model X.prog X.w) X.A (throw (.ref a) : Sem Flow) (SP X pins D) X.xe s4) X.xe { s' with heap := h3 } := by
      rw [hf]
      exact HandSPX.setFlight_upZ fl fun h4 hh4 up4 => wpAny_throw (tk _ _ ⟨a, B, sI, pins, σ, H, cls, d, rfl, J, nb, up.trans up4, .inr (.inr (by rw [hs]; exact hh4)), na, os, ag, w⟩)
    first
      | exact wpAny_bind (wpAny_pure (wpAny_bind out))
      | exact wpAny_bind out
  | @cons x n c i ts b₀ suite np pos' hds2 l2 hc hi hln hsu r ih =>
    intro w
    obtain ⟨b, hb1, hyes, hno⟩ := w
    refine wpAny_handleBy_cons (codeAny_handlers_test ?_) (by intro q; cases q)
    have look : PySem.W.Looks (model X.prog X.w) h3 (typeOf (.ref a)) cls := fun A Q E s k q => wpAny_typeOf_ref (k _ _ he3) (by rw [hz3.1]; exact q)
    have is := PySem.W.exm_one (M := model X.prog X.w) (J3.kIn) look hb1
    have named : ∀ {Q : Value → Shared → Prop} {E : Value → Shared → Prop}, Q c { s' with heap := h3 } → wpAny (model X.prog X.w) (X.A.mark (some (.ref a))) (eval (.Name x np) X.env) Q E { s' with heap := h3 } := fun {Q E} q => by
      obtain ⟨hg, hdbg, hm | ⟨hm, hv, hnn⟩⟩ := hc
      · exact ld_glob (X := X.suite a ((a, oe3) :: (X.pn ++ pins))) S3 hg hm q hdbg
      · exact ld_blt (X := X.suite a ((a, oe3) :: (X.pn ++ pins))) S3 hg hm hv q hnn hdbg
    refine named (is.here ?_)
    cases b with
    | false => exact ih (hno rfl)
    | true =>
      refine codeAny_handlers_suite_as ?_
      refine HandSPX.lands_againZ fl fun h4 fl4 up4 => ?_
      have J4 : Inv X pins σ H { s' with heap := h4 } := J.landed nb fl4.1 (up.trans up4) os ag
      obtain ⟨oe4, vs4, he4, hz4, hd4⟩ := fl4.there
      have S4 := J4.suite he4 hd4 na nL nF
      refine store_ok (X := X.suite a ((a, oe4) :: (X.pn ++ pins))) (v := .ref a) S4 hN hi (.inl hln) rfl (fun s5 S5 => ?_) (.inr hln)
      refine wpAny_mono ((hsu a oe4 cls d (X.pn ++ pins) hz4 ⟨_, hd4⟩).run [] s5 _ H _ S5 (hyes rfl a na)) (fun f s6 hsp => ?_) (fun _ _ z => False.elim z)
      have off : ∀ {σ6 : L2.St} {H6 : Hp} {Q : Shared → Prop}, Inv (X.suite a ((a, oe4) :: (X.pn ++ pins))) [] σ6 H6 s6 → (∀ s7, Inv X pins (σ6.set i none) H6 s7 → Q s7) →
          wpAny (model X.prog X.w) X.A (do bindName X.env n .none; unbindBehindTheSuite X.env n pos') (fun _ s7 => Q s7) X.xe s6 := fun {σ6 H6 Q} S6 hq => gone_ok (S6.unsuite ok) hN hi hln hq
      cases f with
      | next => obtain ⟨σ6, H6, S6, q6⟩ := hsp; exact off S6 fun s7 J7 => ⟨_, _, J7, q6⟩
      | brk => obtain ⟨σ6, H6, S6, q6⟩ := hsp; exact off S6 fun s7 J7 => ⟨_, _, J7, q6⟩
      | cont => obtain ⟨σ6, H6, S6, q6⟩ := hsp; exact off S6 fun s7 J7 => ⟨_, _, J7, q6⟩
      | ret u => obtain ⟨v6, σ6, H6, S6, r6, q6⟩ := hsp; exact off S6 fun s7 J7 => ⟨_, _, _, J7, r6, q6⟩
theorem ps_try_named (hs : X.stack = X.env :: X.outer) (hf : X.env.frame = some X.env.locals) (hN : X.N.Nodup) (tk : Takes X Wout)
    (hb : ∀ (W : WX) (pn : List (Addr × Obj)) (xe : Value → Shared → Prop), Takes (X.tr pn xe) W → PassesOwn (model X.prog X.w) X.A X.env xe → PSs (X.tr pn xe) body (tb W))
    (hh : ClausesOk X (h₀ :: hds) l) : PS X (.Try body (h₀ :: hds) [] [] pos) (fun D σ H => tb (wClauses X.K Wout D l) D σ H) := by
  refine ⟨fun pins s σ H D I h => ?_⟩
  have ok := I.ok
  have hfr : X.A.frames = some (X.env :: X.outer) := by rw [ok.frames, hs]
  refine wpAny_Try_except ?_
  refine wpAny_mono ((hb (wClauses X.K Wout D l) (X.pn ++ pins) (fun e s₁ => wpAny (model X.prog X.w) X.A (noteFrame e X.env) (fun _ s₂ => wpAny (model X.prog X.w) X.A (setFlight e none) (fun _ s₃ =>
    wpAny (model X.prog X.w) X.A (handleBy e X.env (h₀ :: hds)) (SP X pins D) X.xe s₃) X.xe s₂) X.xe s₁) (fun u s' xx => ?_) PassesOwn.looking).run [] s σ H D (I.toTry _) h) (fun f s1 hsp => ?_) (fun e s1 he => he)
  · obtain ⟨a, B, sI, pins', σ', H', cls, d, rfl, J', nb, up, sky, na, os, ag, w⟩ := xx
    show wpAny (model X.prog X.w) X.A (noteFrame (.ref a) X.env) _ _ _
    exact Sky.land Zc.steady hfr hf (by rw [← hs]; exact sky) fun h3 fl3 up3 => clauses_go hs hf hN tk (J'.ofTry ok) nb (up.trans up3) os ag na fl3 hh w
  · cases f with
    | next => obtain ⟨σ', H', J', q⟩ := hsp; exact wpAny_execs_nil ⟨σ', H', J'.ofTry ok, q⟩
    | brk => obtain ⟨σ', H', J', q⟩ := hsp; exact ⟨σ', H', J'.ofTry ok, q⟩
    | cont => obtain ⟨σ', H', J', q⟩ := hsp; exact ⟨σ', H', J'.ofTry ok, q⟩
    | ret u => obtain ⟨v, σ', H', J', r, q⟩ := hsp; exact ⟨v, σ', H', J'.ofTry ok, r, q⟩
end
/-- err.f in a suite: the class is told by what was caught -/
def tXg (K : PySem.W.Frag) (a : Addr) (cls : Value) (d : Option Addr) (f : Str) (te : TE) : TE := fun σ H Q => te σ H fun x H1 => x = .ref a ∧ ∃ (C dd : Addr) (gs : List (Str × V)) (v : V), XfC K C ∧ PySem.W.findIn K (.ref C) f = some none ∧ cls = .ref C ∧ d = some dd ∧ H1 dd = some (.xd gs) ∧ gs.lookup f = some v ∧ Q v H1
theorem pe_xg {X : Cx} {a : Addr} {oe : Obj} {cls : Value} {d : Option Addr} {pn : List (Addr × Obj)} {e : Expr} {te : TE} {pos : Pos} {f : Str} (hz : Zc cls d oe) (hf : ∃ vs, oe.data = .fields vs) (he : PE (X.suite a ((a, oe) :: pn)) e te)
    (hb : attributeBase e f X.env (eval e X.env) = eval e X.env) : PE (X.suite a ((a, oe) :: pn)) (.Attribute e f pos) (tXg X.K a cls d f te) := by
  refine ⟨fun pins s σ H Q I h => ?_⟩
  refine attr_of hb (thn (he.run pins s σ H _ I h) fun u s1 ⟨x, H1, I1, rx, ex, C, dd, gs, v, T, hno, ec, ed, eg, l, q⟩ => ?_)
  subst ex
  obtain rfl : u = Value.ref a := rx
  subst ec
  subst ed
  obtain ⟨vs, hvs⟩ := hf
  obtain ⟨mA, hns, hr⟩ : ObjOk X.prog X.w H1 s1.heap dd (.xd gs) := I1.hok dd _ eg
  obtain ⟨od, ho, hl⟩ := lookIn_ns hns
  obtain ⟨u, hu, ru⟩ := RelO.some_of (v := v) (o := mA f) (by rw [← l]; exact hr f)
  exact HandSPX.exc_get I1.kIn (od := some od) ⟨(I1.pin (a, oe) (List.mem_append_left _ List.mem_cons_self)).1, hz.1, by unfold PySem.W.notCls; rw [hvs] <;> rfl, by rw [hz.2]; exact ho⟩ T.ga T.gg T.exC (PySem.W.findObj_own T.hdC hno rfl (by rw [hl, hu])) (handed_of ru) ⟨v, H1, I1.tok _, ru, q⟩
end Mi
/-! MiL: len of an instance. -/
namespace Mi
open PySem PySem.Spec PyProof.Rows L2

section
variable {X : Cx} {W : WX} {cm : Str × Bool → Option Value} {Γ : Gam} {k : Nat} {a : Expr} {p pos : Pos} {ra : Env' → Mem → Res D}
def rLenI (X : Cx) (cm : Str × Bool → Option Value) (Γ : Gam) : List V → Hp → VK → Prop := fun xs H Q => ∃ α μ x v, xs = [v] ∧ Sim X.K cm α μ H ∧ Rep X.K α H x v ∧ Post X.K cm α H (okV X.K Q) (fun _ _ _ => False) (lenI Γ x μ)
theorem ins_of {x : D} {μ : Mem} {C : Str} (h : insOf x μ = some C) : ∃ n fs, x = .ref n ∧ μ[n]? = some (.ins C fs) := by
  cases x with
  | ref n =>
    unfold insOf at h
    dsimp only at h
    split at h
    · rename_i e; cases h; exact ⟨n, _, rfl, e⟩
    · cases h
  | _ => cases h
theorem call_lenI (G : GamOk X.K cm X.prog X.w X.mg X.base k Γ) (hr : Room (k + 1) X.A) : CallR X (.builtin "len") (rLenI X cm Γ) := by
  intro pins s σ H xs us Q I r h
  obtain ⟨α, μ, x, v, rfl, S, rx, q⟩ := h
  unfold lenI at q
  cases e1 : insOf x μ with
  | none => rw [e1] at q; exact q.elim
  | some C =>
    rw [e1] at q
    obtain ⟨n, fs, rfl, em⟩ := ins_of e1
    obtain ⟨ad, had, ev⟩ := rep_ref rx
    subst ev
    obtain ⟨Ca, dx, ws, h1, h2, h3⟩ := S.insAt em had
    dsimp only at q
    cases e2 : Γ.meth C "__len__" with
    | none => rw [e2] at q; exact q.elim
    | some g =>
      rw [e2] at q
      dsimp only at q
      obtain ⟨c, ga, fd, ps, hm, Cl⟩ := G.meth C "__len__" g Ca h1 e2
      cases r with
      | cons r1 r2 =>
        cases r2
        cases r1
        obtain ⟨mA, O, _, _, _, _⟩ := ins_get I.hok h2
        obtain ⟨od, J, _⟩ := O.look
        have q1 := q.bind
        have p2 := Post.noex (w' := fun _ _ _ => False) q1
        have hl : [D.ref n].length = ps.length := Classical.byContradiction fun z => by rw [Cl.len _ μ z] at p2; exact p2.elim
        have bd := Cl.bind s [Value.ref ad] I.kIn (by rw [List.append_nil]; exact hl)
        rw [List.append_nil] at bd
        refine Calls.call_function_entry kind_len plain_len entry_len (args_len1 _) ?_
        unfold Builtin.«len»
        refine wpAny_bind (m := oneArg "len" _) (wpAny_pure ?_)
        refine wpAny_bind (m := callSpecial? (.ref ad) (Str.ofString "__len__")) (PySem.W.special_fn I.kIn J hm.at_ (beq_iff_eq.mp hm.fn) (wpAny_call (codeAny_mono
          (Cl.ok.run X.A.in1 X.stack s H ⟨[.ref ad], []⟩ [.ref ad] [.ref ad] (fun v H' => ∃ i : Int, v = .int i ∧ 0 ≤ i ∧ i ≤ 1000000 ∧ Q (.int i) H') E0 hr.in1 I.env0.in1 bd (.cons rfl .nil) ⟨α, μ, [.ref n], S, Reps.one rx, hl,
            p2.mono fun d μ2 α2 H2 L2 S2 q2 v rv => ?_⟩) fun r s' hq => ?_)))
        · cases d with
          | int i =>
            dsimp only at q2
            obtain ⟨⟨b1, b2⟩, q3⟩ := Post.guard q2
            rw [rep_int rv]
            exact ⟨i, rfl, b1, by omega, Post.here q3 S2 _ rep_mkI⟩
          | _ => exact q2.elim
        · cases r with
          | error er => exact False.elim (passL (X := X.nox) pins σ H s er s' (I.wish _) hq)
          | ok fl =>
            cases fl with
            | ret u =>
              obtain ⟨v, H', I3, rv, i, ev, b1, b2, q3⟩ := I.after hq
              subst ev
              obtain ⟨t, rfl⟩ : ∃ t, u = Value.int i t := rv
              refine wpAny_bind (wpAny_holding (wpAny_pure ?_))
              refine wpAny_bind (wpAny_letGo ?_)
              show wpAny _ _ (if i < 0 then _ else _) _ _ _
              rw [if_neg (by omega)]
              show wpAny _ _ (if i ≥ 2 ^ 63 then _ else _) _ _ _
              rw [if_neg (by omega)]
              exact wpAny_bind (wpAny_mkInt (wpAny_pure ⟨_, rfl, .int i, H', I3.tok _, ⟨_, rfl⟩, q3⟩))
            | next => exact False.elim hq
            | brk => exact False.elim hq
            | cont => exact False.elim hq
theorem me_lenB (G : GamOk X.K cm X.prog X.w X.mg X.base k Γ) (hr : Room (k + 1) X.A) (hg : Gl X "len") (hm : X.mg "len" = none) (ns : noStar a = true) (ha : PE X a (tE X.K cm ra W)) :
    PE X (.Call (.Name "len" p) [a] [] pos) (tE X.K cm (fun ρ μ => (ra ρ μ).bind fun x μ1 => biE Γ .len x μ1) W) := by
  have both : CallR X (.builtin "len") (fun xs H Q => ((∃ x n, xs = [x] ∧ LenV X.K x H n ∧ Q (.int n) H) ∨ rLenT xs H Q) ∨ rLenI X cm Γ xs H Q) := fun pins s σ H xs us Q I r h => h.elim ((call_len.or call_len_dT) pins s σ H xs us Q I r) (call_lenI G hr pins s σ H xs us Q I r)
  exact me_b1 both hg hm PySem.boot_len (by decide) (by decide) ns ha fun α μ H x v Q w S rv q => by
    unfold biE at q
    cases e : biD .len x μ with
    | some d =>
      rw [e] at q
      simp only [biD] at e
      obtain ⟨n, e2, e3⟩ := Option.map_eq_some_iff.mp e
      subst e3
      exact .inl (len_any S rv e2 (Post.here q S _ rep_mkI))
    | none =>
      rw [e] at q
      dsimp only at q
      refine .inr ⟨α, μ, x, v, rfl, S, rv, ?_⟩
      unfold lenI at q ⊢
      cases e1 : insOf x μ with
      | none => rw [e1] at q; exact q.elim
      | some C =>
        rw [e1] at q
        dsimp only at q ⊢
        cases e2 : Γ.meth C "__len__" with
        | none => rw [e2] at q; exact q.elim
        | some g =>
          rw [e2] at q
          dsimp only at q ⊢
          cases e3 : (Γ.fn g [x] μ).noex with
          | bad => rw [e3] at q; exact q.elim
          | ex C' fs' μ' => cases e4 : Γ.fn g [x] μ <;> rw [e4] at e3 <;> cases e3
          | ok d μ2 =>
            rw [e3] at q
            simp only [Res.bind_ok] at q ⊢
            cases d with
            | int i =>
              dsimp only at q ⊢
              obtain ⟨c, q⟩ := Post.guard q
              rw [if_pos c]
              exact q
            | _ => exact q.elim
theorem me_intB (hg : Gl X "int") (hm : X.mg "int" = none) (ns : noStar a = true) (ha : PE X a (tE X.K cm ra W)) :
    PE X (.Call (.Name "int" p) [a] [] pos) (tE X.K cm (fun ρ μ => (ra ρ μ).bind fun x μ1 => biE Γ .int x μ1) W) := by
  have e : (fun ρ μ => (ra ρ μ).bind fun x μ1 => biE Γ .int x μ1) = (fun ρ μ => (ra ρ μ).bind fun x μ1 => Res.ofO (biD .int x μ1) μ1) := by
    funext ρ μ
    congr 1
    funext x μ1
    unfold biE
    cases biD .int x μ1 <;> rfl
  rw [e]
  exact me_int hg hm ns ha
end
end Mi
/-! MiQ: == by an own __eq__. -/
namespace Mi
open PySem PySem.Spec PyProof.Rows L2

section
variable {K : PySem.W.Frag} {cm : Str × Bool → Option Value} {α : List Addr} {H : Hp} {μ : Mem}
theorem nf_ok (O : IsiOk K cm) (S : Sim K cm α μ H) {d : D} {v : V} (r : Rep K α H d v) :
    ∃ T : Value, TyY K H v T ∧ ∀ C Ca, cm (C, true) = some (.ref Ca) → PySem.W.notFirst K Ca T = true := by
  have bi : ∀ {n : String}, n ∈ ["NoneType", "int", "bool", "str", "list", "tuple", "dict"] → ∀ C Ca, cm (C, true) = some (.ref Ca) → PySem.W.notFirst K Ca (.type n) = true := fun {n} hn C Ca h => by
    unfold PySem.W.notFirst
    rw [O.nf.b C Ca h n hn]
    simp
  cases d with
  | non =>
    have e : v = .non := by simpa only [Rep] using r
    subst e
    exact ⟨_, .x (.base .non), bi (n := "NoneType") (by decide +kernel)⟩
  | bl x => rw [rep_bl r]; exact ⟨_, .x (.base (.bl x)), bi (n := "bool") (by decide +kernel)⟩
  | int x => rw [rep_int r]; exact ⟨_, .x (.base (.int x)), bi (n := "int") (by decide +kernel)⟩
  | str x => rw [rep_str r]; exact ⟨_, .x (.base (.str x)), bi (n := "str") (by decide +kernel)⟩
  | tup ds =>
    obtain ⟨a, vs, e, t, q⟩ := rep_tup r
    subst e
    have ty : TyY K H (.ref a) (.type "tuple") := by
      rcases t with (t | ⟨o, t⟩) | ⟨o, its, n, t, c, _⟩
      · exact .x (.base (.tup t))
      · exact .x (.fTuple t)
      · exact .x (.kTuple t c)
    exact ⟨_, ty, bi (n := "tuple") (by decide +kernel)⟩
  | ref n =>
    obtain ⟨a, ha, e⟩ := rep_ref r
    subst e
    cases em : μ[n]? with
    | none =>
      exfalso
      have hl : n < μ.length := by rw [← S.len]; exact (List.getElem?_eq_some_iff.mp ha).1
      rw [List.getElem?_eq_getElem hl] at em; cases em
    | some c =>
      cases c with
      | lst ds =>
        obtain ⟨vs, h1, _⟩ := S.lstAt em ha
        exact ⟨_, .x (.base (.lst h1)), bi (n := "list") (by decide +kernel)⟩
      | rol ds =>
        obtain ⟨o, vs, h1, _⟩ := S.rolAt em ha
        exact ⟨_, .x (.base (.frz h1)), bi (n := "list") (by decide +kernel)⟩
      | ins C' fs =>
        obtain ⟨Ca', dx, ws, h1, h2, h3⟩ := S.insAt em ha
        obtain ⟨c1, c2, c3, c4, c5⟩ := O.ty C' Ca' h1
        refine ⟨_, .x (.base (.ins h2 c1 c2 c3 c4 c5)), fun C Ca h => ?_⟩
        unfold PySem.W.notFirst
        by_cases e : C' = C
        · subst e
          rw [h1] at h; cases h
          simp
        · rw [O.nf.o C C' Ca Ca' h h1 e]
          simp
      | dic kvs =>
        obtain ⟨ws, h1, _⟩ := S.cell n _ a em ha
        exact ⟨_, .x (.base (.dK h1)), bi (n := "dict") (by decide +kernel)⟩
      | dct lk kvs =>
        cases lk with
        | false =>
          obtain ⟨ws, h1, _⟩ := S.cell n _ a em ha
          exact ⟨_, .x (.base (.dT h1)), bi (n := "dict") (by decide +kernel)⟩
        | true =>
          obtain ⟨o, ws, h1, _⟩ := S.cell n _ a em ha
          exact ⟨_, .fDT h1, bi (n := "dict") (by decide +kernel)⟩
end
section
variable {X : Cx} {W : WX} {cm : Str × Bool → Option Value} {Γ : Gam} {k : Nat} {a b : Expr} {pos : Pos} {ra rb : Env' → Mem → Res D}
def rEqI (X : Cx) (cm : Str × Bool → Option Value) (Γ : Gam) : R2 := fun v u H Q => ∃ α μ x y, Sim X.K cm α μ H ∧ Rep X.K α H x v ∧ Rep X.K α H y u ∧ cmpD .eq x y μ = none ∧ Post X.K cm α H (okV X.K Q) (fun _ _ _ => False) (eqI Γ x y μ)
theorem op_eqI (G : GamOk X.K cm X.prog X.w X.mg X.base k Γ) (O : IsiOk X.K cm) (hr : Room (k + 1) X.A) : OpR X (compareOp .Eq) (rEqI X cm Γ) := by
  intro pins s σ H v u va ua Q I rx ry h
  obtain ⟨α, μ, x, y, S, r1, r2, e0, q⟩ := h
  unfold eqI at q
  rw [e0] at q
  dsimp only at q
  cases e1 : insOf x μ with
  | none => rw [e1] at q; exact q.elim
  | some C =>
    rw [e1] at q
    obtain ⟨n, fs, rfl, em⟩ := ins_of e1
    obtain ⟨ad, had, ev⟩ := rep_ref r1
    subst ev
    obtain ⟨Ca, dx, ws, h1, h2, h3⟩ := S.insAt em had
    dsimp only at q
    cases e2 : Γ.meth C "__eq__" with
    | none => rw [e2] at q; exact q.elim
    | some g =>
      rw [e2] at q
      dsimp only at q
      obtain ⟨c, ga, fd, ps, hm, Cl⟩ := G.meth C "__eq__" g Ca h1 e2
      cases rx
      obtain ⟨mA, J0, _⟩ := ins_get I.hok h2
      obtain ⟨od, J, _⟩ := J0.look
      obtain ⟨m, hF⟩ := I.fr
      obtain ⟨T, ty, nf⟩ := nf_ok O S r2
      obtain ⟨P, KX, hP, _⟩ := kit_ofY I ry ty
      have q1 := q.bind
      have p2 := Post.noex (w' := fun _ _ _ => False) q1
      have hl : [D.ref n, y].length = ps.length := Classical.byContradiction fun z => by rw [Cl.len _ μ z] at p2; exact p2.elim
      have bd := Cl.bind s [Value.ref ad, ua] I.kIn (by rw [List.append_nil]; exact hl)
      rw [List.append_nil] at bd
      show wpAny (model X.prog X.w) X.A (richCompare .Eq (.ref ad) ua) (EP X pins σ Q) X.xe s
      refine PySem.W.cmp_K (op := .Eq) (tb := T) hr.units0 hF I.ok.mod.kin J (KX.ty _ _ I.kIn hP) (nf C Ca h1) hm.at_ hm.fn ?_
      refine wpAny_call (codeAny_mono
          (Cl.ok.run X.A X.stack s H ⟨[.ref ad, ua], []⟩ [.ref ad, ua] [.ref ad, u] (fun v H' => ∃ t : Bool, v = .bl t ∧ Q (.bl t) H') E0 (hr.mono (Nat.le_succ _)) I.env0 bd (.cons rfl (.cons ry .nil)) ⟨α, μ, [.ref n, y], S, ⟨_, _, rfl, r1, Reps.one r2⟩, hl,
            p2.mono fun d μ2 α2 H2 L2 S2 q2 v rv => ?_⟩) fun r s' hq => ?_)
      · cases d with
        | bl t =>
          dsimp only at q2
          rw [rep_bl rv]
          exact ⟨t, rfl, Post.here q2 S2 _ rep_mkB⟩
        | _ => exact q2.elim
      · cases r with
        | error er => exact False.elim (passL (X := X.nox) pins σ H s er s' (I.wish _) hq)
        | ok fl =>
          cases fl with
          | ret u =>
            obtain ⟨v, H', I3, rv, t, ev, q3⟩ := I.after hq
            subst ev
            cases rv
            exact ⟨.bl t, H', I3, rfl, q3⟩
          | next => exact False.elim hq
          | brk => exact False.elim hq
          | cont => exact False.elim hq
theorem eqI_nex {x y : D} {μ : Mem} {C : Str} {fs : List (Str × D)} {μ' : Mem} : eqI Γ x y μ ≠ .ex C fs μ' := by
  unfold eqI
  cases cmpD .eq x y μ with
  | some t => intro h; cases h
  | none =>
    dsimp only
    cases insOf x μ with
    | none => intro h; cases h
    | some C =>
      dsimp only
      cases Γ.meth C "__eq__" with
      | none => intro h; cases h
      | some g =>
        dsimp only
        cases Γ.fn g [x, y] μ with
        | bad => intro h; cases h
        | ex C' fs' μ2 => intro h; cases h
        | ok d μ2 =>
          show (match d with
            | .bl t => Res.ok (D.bl t) μ2
            | _ => .bad) ≠ _
          cases d <;> intro h <;> cases h
theorem eqI_bl {x y : D} {μ : Mem} {d : D} {μ' : Mem} (h : eqI Γ x y μ = .ok d μ') : ∃ t, d = .bl t := by
  unfold eqI at h
  cases e0 : cmpD .eq x y μ with
  | some t => rw [e0] at h; cases h; exact ⟨t, rfl⟩
  | none =>
    rw [e0] at h
    dsimp only at h
    cases e1 : insOf x μ with
    | none => rw [e1] at h; cases h
    | some C =>
      rw [e1] at h
      dsimp only at h
      cases e2 : Γ.meth C "__eq__" with
      | none => rw [e2] at h; cases h
      | some g =>
        rw [e2] at h
        dsimp only at h
        cases e3 : Γ.fn g [x, y] μ with
        | bad => rw [e3] at h; cases h
        | ex C' fs' μ2 => rw [e3] at h; cases h
        | ok d' μ2 =>
          rw [e3] at h
          have h : (match d' with
            | .bl t => Res.ok (D.bl t) μ2
            | _ => .bad) = .ok d μ' := h
          cases d' with
          | bl t => cases h; exact ⟨t, rfl⟩
          | _ => cases h
theorem me_eqo (G : GamOk X.K cm X.prog X.w X.mg X.base k Γ) (O : IsiOk X.K cm) (hr : Room (k + 1) X.A) (hu : X.A.units + 65 < cLine) (ha : PE X a (tE X.K cm ra W)) (hb : PE X b (tE X.K cm rb W)) (hm : behindInMarks .Eq b = false) :
    PE X (.Compare a [.Eq] [b] pos) (tE X.K cm (fun ρ μ => (ra ρ μ).bind fun x μ1 => (rb ρ μ1).bind fun y μ2 => eqI Γ x y μ2) W) := by
  obtain ⟨r, ho, g⟩ := cmp_eq (X := X) (cm := cm) hu
  refine me_op2 (fun h1 h2 => pe_cmpR (ho.or (op_eqI G O hr)) h1 h2 hm) ha hb fun α μ H x y v u Q w S rx ry p => ?_
  cases e : cmpD .eq x y μ with
  | some t =>
    have p : Post X.K cm α H (okV X.K Q) w (.ok (.bl t) μ) := by unfold eqI at p; rw [e] at p; exact p
    exact .inl (g α μ H x y v u Q t S rx ry e (Post.here p S _ rep_mkB))
  | none =>
    refine .inr ⟨α, μ, x, y, S, rx, ry, e, ?_⟩
    cases e2 : eqI Γ x y μ with
    | bad => rw [e2] at p; exact p.elim
    | ex C fs μ' => exact absurd e2 eqI_nex
    | ok d μ' => rw [e2] at p; exact p
theorem mt_eqo (G : GamOk X.K cm X.prog X.w X.mg X.base k Γ) (O : IsiOk X.K cm) (hr : Room (k + 1) X.A) (hu : X.A.units + 65 < cLine) (ha : PE X a (tE X.K cm ra W)) (hb : PE X b (tE X.K cm rb W)) (hm : behindInMarks .Eq b = false) :
    PT X (.Compare a [.Eq] [b] pos) (tB X.K cm (rT (fun ρ μ => (ra ρ μ).bind fun x μ1 => (rb ρ μ1).bind fun y μ2 => eqI Γ x y μ2)) W) := by
  obtain ⟨r, ho, g⟩ := cmp_eq (X := X) (cm := cm) hu
  refine (pt_cmpR (ho.or (op_eqI G O hr)) ha hb hm).imp fun σ H Q ⟨α, μ, ρ, S, R, p⟩ => ?_
  unfold rT at p
  simp only [Res.bind_assoc] at p
  refine ⟨α, μ, ρ, S, R, p.then fun x μ1 α1 H1 L1 S1 p1 v rv => ⟨α1, μ1, ρ, S1, R.later S L1, p1.then fun y μ2 α2 H2 L2 S2 p2 u ru => ?_⟩⟩
  cases e : cmpD .eq x y μ2 with
  | some t =>
    unfold eqI at p2
    rw [e] at p2
    exact .inl (g α2 μ2 H2 x y v u _ t S2 (rv.later S1 L2) ru e ⟨t, rfl, Post.here p2 S2⟩)
  | none =>
    refine .inr ⟨α2, μ2, x, y, S2, rv.later S1 L2, ru, e, ?_⟩
    cases e2 : eqI Γ x y μ2 with
    | bad => rw [e2] at p2; exact p2.elim
    | ex C fs μ' => exact absurd e2 eqI_nex
    | ok d μ' =>
      obtain ⟨t, et⟩ := eqI_bl e2
      subst et
      rw [e2] at p2
      intro α' H' L' S' v' rv'
      exact ⟨t, rep_bl rv', p2 α' H' L' S'⟩
end
end Mi
/-! Mi15: soundness of the reading of expressions. -/
namespace Mi
open PySem L2

def mlen : MEs → Nat
  | .nil => 0
  | .cons _ es => mlen es + 1
theorem evEs_len {Γ : Gam} : ∀ (m : MEs) {ρ : Env'} {μ : Mem} {ds : List D} {μ1 : Mem}, evEs Γ m ρ μ = .ok ds μ1 → ds.length = mlen m
  | .nil, ρ, μ, ds, μ1, h => by cases h; rfl
  | .cons e es, ρ, μ, ds, μ1, h => by
    have h : ((evE Γ e ρ μ).bind fun x μ1 => (evEs Γ es ρ μ1).bind fun xs μ2 => .ok (x :: xs) μ2) = .ok ds μ1 := h
    cases e1 : evE Γ e ρ μ with
    | ok x μ2 =>
      rw [e1] at h
      simp only [Res.bind_ok] at h
      cases e2 : evEs Γ es ρ μ2 with
      | ok xs μ3 =>
        rw [e2] at h
        simp only [Res.bind_ok] at h
        cases h
        simp only [List.length_cons, mlen, evEs_len es e2]
      | ex c fs μ3 => rw [e2] at h; cases h
      | bad => rw [e2] at h; cases h
    | ex c fs μ3 => rw [e1] at h; cases h
    | bad => rw [e1] at h; cases h
section
variable {X : Cx} {W : WX} {cm : Str × Bool → Option Value} {e : Expr} {kws : List Keyword} {nm : Option Str} {kp : Pos} {ra : Env' → Mem → Res D} {rs : Env' → Mem → Res (List D)}
theorem mks_nil : PK X [] (tAs X.K cm (fun _ μ => .ok [] μ) W) := ⟨fun pos pins s σ H Q I ⟨α, μ, ρ, S, R, p⟩ => pk_nil.run pos pins s σ H Q I (Post.here p S [] (by simp only [Reps]))⟩
theorem mks_cons (ha : PE X e (tE X.K cm ra W)) (hr : PK X kws (tAs X.K cm rs W)) : PK X (⟨nm, e, kp⟩ :: kws) (tAs X.K cm (fun ρ μ => (ra ρ μ).bind fun x μ1 => (rs ρ μ1).bind fun xs μ2 => .ok (x :: xs) μ2) W) :=
  ⟨fun pos pins s σ H Q I ⟨α, μ, ρ, S, R, p⟩ => (pk_cons (nm := nm) (kpos := kp) ha hr).run pos pins s σ H Q I ⟨α, μ, ρ, S, R, p.then fun x μ1 α1 H1 L1 S1 p1 v rv => ⟨α1, μ1, ρ, S1, R.later S L1, p1.then fun xs μ2 α2 H2 L2 S2 p2 vs rvs => by
    refine Post.here p2 S2 _ ?_
    simp only [Reps]
    exact ⟨v, vs, rfl, rv.later S1 L2, rvs⟩⟩⟩⟩
end
structure Snd (q : Cq) (cm : Str × Bool → Option Value) (Γ : Gam) (k n : Nat) : Prop where
  E : ∀ {X : Cx} {s : Cs} {W : WX} {e : Expr} {m : ME}, XOk q cm Γ k X s W → cE q n s e = some m → PE X e (tE X.K cm (evE Γ m) W)
  P : ∀ {X : Cx} {s : Cs} {W : WX} {a : Expr} {ops : List CmpOp} {bs : List Expr} {pos : Pos} {m : ME}, XOk q cm Γ k X s W → cE q n s (.Compare a ops bs pos) = some m → PT X (.Compare a ops bs pos) (tB X.K cm (rT (evE Γ m)) W)
  T : ∀ {X : Cx} {s : Cs} {W : WX} {e : Expr} {m : ME}, XOk q cm Γ k X s W → cT q n s e = some m → PT X e (tB X.K cm (rT (evE Γ m)) W)
  B : ∀ {X : Cx} {s : Cs} {W : WX} {op : BoolOp} {vs : List Expr} {pos : Pos} {m : ME}, XOk q cm Γ k X s W → cT q n s (.BoolOp op vs pos) = some m → PW X (.BoolOp op vs pos) (tB X.K cm (rT (evE Γ m)) W)
  C : ∀ {X : Cx} {s : Cs} {W : WX} {x : Str} {es : List Expr} {p1 pos : Pos} {m : ME}, XOk q cm Γ k X s W → isG s x = true → cCall q n s x es = some m → PE X (.Call (.Name x p1) es [] pos) (tE X.K cm (evE Γ m) W)
  Es : ∀ {X : Cx} {s : Cs} {W : WX} {es : List Expr} {m : MEs}, XOk q cm Γ k X s W → cEs q n s es = some m → PA X es (tAs X.K cm (evEs Γ m) W) ∧ es.all noStar = true
  Ks : ∀ {X : Cx} {s : Cs} {W : WX} {kws : List Keyword} {m : MEs}, XOk q cm Γ k X s W → cEs q n s (kws.map (·.value)) = some m → PK X kws (tAs X.K cm (evEs Γ m) W) ∧ mlen m = kws.length
  O : ∀ {X : Cx} {s : Cs} {W : WX} {e : Option Expr} {m : MEo}, XOk q cm Γ k X s W → cO q n s e = some m → PO X e (tOp' X.K cm (evO Γ m) W)
  F : ∀ {X : Cx} {s : Cs} {W : WX} {e : List Expr} {m : MEo}, XOk q cm Γ k X s W → cF q n s e = some m → PTs X e (tB X.K cm (evC Γ m) W)
  M : ∀ {X : Cx} {s : Cs} {W : WX} {e : Expr} {m : MM}, XOk q cm Γ k X s W → cM q n s e = some m → PE X e (tM X.K cm (evM Γ m) W)
  L : ∀ {X : Cx} {s : Cs} {W : WX} {e : Expr} {m : ML}, XOk q cm Γ k X s W → cL q n s e = some m → PE X e (tL X.K cm (evL Γ m) W)
  I : ∀ {X : Cx} {s : Cs} {W : WX} {tg e : Expr} {m : MI}, XOk q cm Γ k X s W → cI q n s tg e = some m → PI X tg e (tI X.K cm (evI Γ m) W)

section
variable {q : Cq} {cm : Str × Bool → Option Value} {Γ : Gam} {k n : Nat} {X : Cx} {s : Cs} {W : WX}
theorem snd_zero : Snd q cm Γ k 0 where
  E := fun _ h => by unfold cE at h; cases h
  P := fun _ h => by unfold cE at h; cases h
  T := fun _ h => by unfold cT at h; cases h
  B := fun _ h => by unfold cT at h; cases h
  C := fun _ _ h => by unfold cCall at h; cases h
  Es := fun _ h => by unfold cEs at h; cases h
  Ks := fun _ h => by unfold cEs at h; cases h
  O := fun _ h => by unfold cO at h; cases h
  F := fun _ h => by unfold cF at h; cases h
  M := fun _ h => by unfold cM at h; cases h
  L := fun _ h => by unfold cL at h; cases h
  I := fun _ h => by unfold cI at h; cases h
theorem bnd {α β : Type} {o : Option α} {f : α → Option β} {b : β} (h : o.bind f = some b) : ∃ a, o = some a ∧ f a = some b := Option.bind_eq_some_iff.mp h
theorem ite_some {α : Type} {c : Bool} {o : Option α} {b : α} (h : (if c = true then o else none) = some b) : c = true ∧ o = some b := by
  cases c with
  | true => exact ⟨rfl, h⟩
  | false => cases h
theorem snd_Es (S : Snd q cm Γ k n) (O : XOk q cm Γ k X s W) {es : List Expr} {m : MEs} (h : cEs q (n + 1) s es = some m) : PA X es (tAs X.K cm (evEs Γ m) W) ∧ es.all noStar = true := by
  unfold cEs at h
  split at h
  · cases h; exact ⟨mas_nil, rfl⟩
  · obtain ⟨hs, h⟩ := ite_some h
    obtain ⟨x, h1, h⟩ := bnd h
    obtain ⟨y, h2, h⟩ := bnd h
    cases h
    obtain ⟨a, b⟩ := S.Es O h2
    exact ⟨mas_cons (S.E O h1) a (star_cons hs), by rw [List.all_cons, hs, b]; rfl⟩
theorem snd_Ks (S : Snd q cm Γ k n) (O : XOk q cm Γ k X s W) {kws : List Keyword} {m : MEs} (h : cEs q (n + 1) s (kws.map (·.value)) = some m) : PK X kws (tAs X.K cm (evEs Γ m) W) ∧ mlen m = kws.length := by
  cases kws with
  | nil => unfold cEs at h; cases h; exact ⟨mks_nil, rfl⟩
  | cons kw kws =>
    obtain ⟨nm, e, kp⟩ := kw
    unfold cEs at h
    obtain ⟨hs, h⟩ := ite_some h
    obtain ⟨x, h1, h⟩ := bnd h
    obtain ⟨y, h2, h⟩ := bnd h
    cases h
    obtain ⟨a, b⟩ := S.Ks O h2
    exact ⟨mks_cons (S.E O h1) a, by simp only [mlen, b, List.length_cons]⟩
theorem snd_O (S : Snd q cm Γ k n) (O : XOk q cm Γ k X s W) {e : Option Expr} {m : MEo} (h : cO q (n + 1) s e = some m) : PO X e (tOp' X.K cm (evO Γ m) W) := by
  unfold cO at h
  split at h
  · cases h; exact mo_no
  · obtain ⟨x, h1, h⟩ := bnd h
    cases h
    exact mo_so (S.E O h1)
theorem snd_F (S : Snd q cm Γ k n) (O : XOk q cm Γ k X s W) {e : List Expr} {m : MEo} (h : cF q (n + 1) s e = some m) : PTs X e (tB X.K cm (evC Γ m) W) := by
  unfold cF at h
  split at h
  · cases h
    exact ⟨fun pins s' σ H Q I ⟨α, μ, ρ, S', R, p⟩ => pts_nil.run pins s' σ H Q I (Post.here p S')⟩
  · obtain ⟨x, h1, h⟩ := bnd h
    cases h
    exact pts_one (S.T O h1)
  · cases h
theorem snd_L (S : Snd q cm Γ k n) (O : XOk q cm Γ k X s W) {e : Expr} {m : ML} (h : cL q (n + 1) s e = some m) : PE X e (tL X.K cm (evL Γ m) W) := by
  unfold cL at h
  split at h
  · obtain ⟨x, h1, h⟩ := bnd h
    cases h
    exact ml_mk (S.M O h1)
  · obtain ⟨x, h1, h⟩ := bnd h
    cases h
    exact ml_val (S.E O h1)
theorem bn_name {x : Str} {b : Bn} (h : bnOf x = some b) : x = (match b with
    | .len => "len" | .isi => "isinstance" | .tuple => "tuple" | .int => "int" | .list => "list" | .sorted => "sorted" | .sum => "sum" | .any => "any" | .all => "all" : String) := by
  unfold bnOf at h
  repeat' split at h
  all_goals first
    | (cases h; exact eq_of_beq (by assumption))
    | cases h
theorem isMk_noStar {e : Expr} (h : isMk s e = true) : noStar e = true := by
  cases e <;> first | rfl | cases h
theorem snd_M (S : Snd q cm Γ k n) (O : XOk q cm Γ k X s W) {e : Expr} {m : MM} (h : cM q (n + 1) s e = some m) : PE X e (tM X.K cm (evM Γ m) W) := by
  unfold cM at h
  split at h
  · obtain ⟨x, h1, h⟩ := bnd h
    cases h
    exact mm_disp (S.Es O h1).1
  · obtain ⟨hs, h'⟩ := ite_some h
    clear h
    rw [Bool.and_eq_true] at hs
    obtain ⟨g, hd⟩ := O.gl hs.2
    split at h'
    · rename_i hb
      have hx := bn_name hb
      dsimp only at hx
      subst hx
      obtain ⟨x, h1, h⟩ := bnd h'
      cases h
      exact mm_copy g (O.blt _ (by decide +kernel)) hs.1 (S.L O h1)
    · rename_i hb
      have hx := bn_name hb
      dsimp only at hx
      subst hx
      split at h'
      · obtain ⟨x, h1, h⟩ := bnd h'
        cases h
        exact mm_sortedD O.calm g (O.blt _ (by decide +kernel)) hs.1 (S.E O h1)
      · obtain ⟨x, h1, h⟩ := bnd h'
        cases h
        exact mm_sorted g (O.blt _ (by decide +kernel)) hs.1 (S.L O h1)
    · cases h'
  · obtain ⟨hb, h⟩ := ite_some h
    rw [Bool.and_eq_true] at hb
    obtain ⟨t, h1, h⟩ := bnd h
    obtain ⟨hw, h⟩ := ite_some h
    obtain ⟨it, h2, h⟩ := bnd h
    obtain ⟨c, h3, h⟩ := bnd h
    obtain ⟨x, h4, h⟩ := bnd h
    cases h
    have nd : X.N.Nodup := by rw [O.N]; exact O.nd
    exact mm_comp O.calm nd (S.I O h2) (by rw [O.N, O.sc]; exact blkOk_by hb.1) (fun sh H C cl fp => tg_of (O.blk sh H _ C cl fp) h1) (fun sh H C cl fp => S.F (O.blk sh H _ C cl fp) h3) (fun sh H C cl fp => S.E (O.blk sh H _ C cl fp) h4)
      (within_mem hw) (noSet_fold hb.2)
  · cases h
theorem rngArg_is {s : Cs} {a b : Expr} (h : rngArg q s a = some b) : ∃ p pos, a = .Call (.Name "range" p) [b] [] pos ∧ isG s "range" = true ∧ noStar b = true := by
  unfold rngArg at h
  split at h
  · split at h
    · rename_i hs
      cases h
      simp only [Bool.and_eq_true] at hs
      have hx := eq_of_beq hs.2
      subst hx
      exact ⟨_, _, rfl, hs.1.1.1.1, hs.1.1.1.2⟩
    · cases h
  · cases h
theorem snd_I (S : Snd q cm Γ k n) (O : XOk q cm Γ k X s W) {tg e : Expr} {m : MI} (h : cI q (n + 1) s tg e = some m) : PI X tg e (tI X.K cm (evI Γ m) W) := by
  have dflt : ∀ {e : Expr} {m : MI}, ((cL q n s e).bind fun y => some (MI.l y)) = some m → PI X tg e (tI X.K cm (evI Γ m) W) := fun {e m} h => by
    obtain ⟨y, h1, h⟩ := bnd h
    cases h
    exact mi_l (S.L O h1)
  have tup : isTupE tg = true → ∃ es kk p, tg = .Tuple es kk p := fun h => by
    cases tg <;> first | exact ⟨_, _, _, rfl⟩ | cases h
  unfold cI at h
  split at h
  · split at h
    · rename_i hs
      rw [Bool.and_eq_true, Bool.and_eq_true, Bool.and_eq_true] at hs
      obtain ⟨g, hd⟩ := O.gl hs.1.1.1
      split at h
      · rename_i hx
        have hx := eq_of_beq hx
        subst hx
        obtain ⟨y, h1, h⟩ := bnd h
        cases h
        exact mi_rng1 g (O.blt _ (by decide +kernel)) hs.1.1.2 (S.E O h1)
      · split at h
        · rename_i hx
          have hx := eq_of_beq hx
          subst hx
          split at h
          · rename_i b hb
            obtain ⟨p2, pos2, e, g2, ns2⟩ := rngArg_is hb
            subst e
            obtain ⟨y, h1, h⟩ := bnd h
            cases h
            exact mi_rrng g (O.blt _ (by decide +kernel)) (O.gl g2).1 (O.blt _ (by decide +kernel)) ns2 (S.E O h1)
          · obtain ⟨y, h1, h⟩ := bnd h
            cases h
            exact mi_rev g (O.blt _ (by decide +kernel)) hs.1.1.2 (S.L O h1)
        · split at h
          · rename_i hx
            have hx := eq_of_beq hx
            subst hx
            obtain ⟨ht, h⟩ := ite_some h
            obtain ⟨es, kk, p, e⟩ := tup ht
            subst e
            obtain ⟨y, h1, h⟩ := bnd h
            cases h
            exact mi_enum g (O.blt _ (by decide +kernel)) hs.1.1.2 (S.L O h1)
          · exact dflt h
    · exact dflt h
  · split at h
    · rename_i hs
      rw [Bool.and_eq_true, Bool.and_eq_true, Bool.and_eq_true, Bool.and_eq_true] at hs
      obtain ⟨g, hd⟩ := O.gl hs.1.1.1.1
      split at h
      · rename_i hx
        have hx := eq_of_beq hx
        subst hx
        obtain ⟨y, h1, h⟩ := bnd h
        obtain ⟨z, h2, h⟩ := bnd h
        cases h
        exact mi_rng2 g (O.blt _ (by decide +kernel)) hs.1.1.1.2 hs.1.1.2 (S.E O h1) (S.E O h2)
      · split at h
        · rename_i hx
          have hx := eq_of_beq hx
          subst hx
          obtain ⟨ht, h⟩ := ite_some h
          obtain ⟨es, kk, p, e⟩ := tup ht
          subst e
          obtain ⟨y, h1, h⟩ := bnd h
          obtain ⟨z, h2, h⟩ := bnd h
          cases h
          exact mi_zip g (O.blt _ (by decide +kernel)) hs.1.1.1.2 hs.1.1.2 (S.L O h1) (S.L O h2)
        · exact dflt h
    · exact dflt h
  · exact dflt h
theorem snd_C (S : Snd q cm Γ k n) (O : XOk q cm Γ k X s W) {x : Str} {es : List Expr} {p1 pos : Pos} {m : ME} (hg : isG s x = true) (h : cCall q (n + 1) s x es = some m) : PE X (.Call (.Name x p1) es [] pos) (tE X.K cm (evE Γ m) W) := by
  obtain ⟨g, hd⟩ := O.gl hg
  unfold cCall at h
  split at h
  · rename_i hf
    obtain ⟨ga, fd, ps, h1, h2, h3⟩ := O.fn x hf
    obtain ⟨y, h4, h⟩ := bnd h
    cases h
    obtain ⟨a, b⟩ := S.Es O h4
    exact me_call h3 (O.room.mono (Nat.le_succ _)) O.tk g h1 h2 hd a b
  · split at h
    · rename_i hf
      obtain ⟨y, h4, h⟩ := bnd h
      cases h
      obtain ⟨a, b⟩ := S.Es O h4
      exact me_new O.G O.room O.tk g (O.cls x hf).1 hd a b
    · split at h
      case h_1 hb =>
        have hx := bn_name hb
        dsimp only at hx
        subst hx
        split at h
        · rename_i hm
          obtain ⟨y, h4, h⟩ := bnd h
          cases h
          exact me_lenL g (O.blt _ (by decide +kernel)) (isMk_noStar hm) (S.L O h4)
        · obtain ⟨hs, h⟩ := ite_some h
          obtain ⟨y, h4, h⟩ := bnd h
          cases h
          exact me_lenB O.G O.room g (O.blt _ (by decide +kernel)) hs (S.E O h4)
      all_goals first
        | (rename_i hb
           have hx := bn_name hb
           dsimp only at hx
           subst hx
           obtain ⟨hs, h⟩ := ite_some h
           obtain ⟨y, h4, h⟩ := bnd h
           cases h
           first
             | exact me_intB g (O.blt _ (by decide +kernel)) hs (S.E O h4)
             | exact me_tupOf g (O.blt _ (by decide +kernel)) hs (S.L O h4)
             | exact me_lst (mm_copy g (O.blt _ (by decide +kernel)) hs (S.L O h4))
             | exact me_lst (mm_sorted g (O.blt _ (by decide +kernel)) hs (S.L O h4))
             | exact me_sum O.calm g (O.blt _ (by decide +kernel)) hs (S.L O h4)
             | exact me_any O.calm g (O.blt _ (by decide +kernel)) hs (S.L O h4)
             | exact me_all O.calm g (O.blt _ (by decide +kernel)) hs (S.L O h4))
        | cases h
        | skip
      case h_9 hb =>
        have hx := bn_name hb
        dsimp only at hx
        subst hx
        obtain ⟨hs, h'⟩ := ite_some h
        rw [Bool.and_eq_true, decide_eq_true_eq] at hs
        obtain ⟨y, h4, h'⟩ := bnd h'
        obtain ⟨z, h5, h'⟩ := bnd h'
        cases h'
        obtain ⟨vs, us, t⟩ := tys_of O h5
        exact me_isiT O.isi g (O.blt _ (by decide +kernel)) hs.1 t hs.2 (S.E O h4)
      case h_10 hb =>
        have hx := bn_name hb
        dsimp only at hx
        subst hx
        obtain ⟨hs, h'⟩ := ite_some h
        obtain ⟨y, h4, h'⟩ := bnd h'
        obtain ⟨z, h5, h'⟩ := bnd h'
        cases h'
        obtain ⟨a, v, u, b, c, d⟩ := ty_of O h5
        exact me_isi1 O.isi g (O.blt _ (by decide +kernel)) hs a b c d (S.E O h4)
theorem evE_not (m : ME) : evE Γ (.not m) = rNot (evE Γ m) := rfl
theorem evE_and (a b : ME) : evE Γ (.and a b) = rAnd (evE Γ a) (evE Γ b) := rfl
theorem evE_or (a b : ME) : evE Γ (.or a b) = rOr (evE Γ a) (evE Γ b) := rfl
theorem evE_chain (o1 o2 : COp) (a b c : ME) : evE Γ (.chain o1 o2 a b c) = rCh o1 o2 (evE Γ a) (evE Γ b) (evE Γ c) := rfl
theorem marks2 {o1 o2 : CmpOp} {b c : Expr} (h : noSet c = true) : lastMarks [o1, o2] [b, c] = false := by
  show behindInMarks o2 c = false
  exact noSet_marks h
/-- a comparison, as a value and as a test -/
theorem snd_cmp (S : Snd q cm Γ k n) (O : XOk q cm Γ k X s W) {a : Expr} {ops : List CmpOp} {bs : List Expr} {pos : Pos} {m : ME} (h : cE q (n + 1) s (.Compare a ops bs pos) = some m) :
    PE X (.Compare a ops bs pos) (tE X.K cm (evE Γ m) W) ∧ PT X (.Compare a ops bs pos) (tB X.K cm (rT (evE Γ m)) W) := by
  have go1 : ∀ {op : CmpOp} {b : Expr}, (if isMk s b = true then (match op with
        | .In => (cE q n s a).bind fun x => (cL q n s b).bind fun y => some (ME.inL false x y)
        | .NotIn => (cE q n s a).bind fun x => (cL q n s b).bind fun y => some (ME.inL true x y)
        | _ => none)
      else if noSet b = true then (cE q n s a).bind fun x => (cE q n s b).bind fun y => some (if ownEq q a op = true then ME.eqo x y else ME.cmp (copOf op) x y) else none) = some m →
      PE X (.Compare a [op] [b] pos) (tE X.K cm (evE Γ m) W) ∧ PT X (.Compare a [op] [b] pos) (tB X.K cm (rT (evE Γ m)) W) := fun {op b} h => by
    split at h
    · rename_i hm
      split at h
      · obtain ⟨x, h1, h⟩ := bnd h
        obtain ⟨y, h2, h⟩ := bnd h
        cases h
        exact ⟨me_inL (neg := false) O.un (S.E O h1) (S.L O h2) (noSet_marks (isMk_noSet hm)), mt_inL (neg := false) O.un (S.E O h1) (S.L O h2) (noSet_marks (isMk_noSet hm))⟩
      · obtain ⟨x, h1, h⟩ := bnd h
        obtain ⟨y, h2, h⟩ := bnd h
        cases h
        exact ⟨me_inL (neg := true) O.un (S.E O h1) (S.L O h2) (noSet_marks (isMk_noSet hm)), mt_inL (neg := true) O.un (S.E O h1) (S.L O h2) (noSet_marks (isMk_noSet hm))⟩
      · cases h
    · split at h
      · rename_i hn
        obtain ⟨x, h1, h⟩ := bnd h
        obtain ⟨y, h2, h⟩ := bnd h
        by_cases ho : ownEq q a op = true
        · rw [if_pos ho] at h
          cases h
          have eop : op = .Eq := by
            unfold ownEq at ho
            cases op <;> first | rfl | cases ho
          subst eop
          exact ⟨me_eqo O.G O.isi O.room O.un (S.E O h1) (S.E O h2) (noSet_marks hn), mt_eqo O.G O.isi O.room O.un (S.E O h1) (S.E O h2) (noSet_marks hn)⟩
        rw [if_neg ho] at h
        cases h
        exact ⟨me_cmp (cmp_of O.un op) (S.E O h1) (S.E O h2) (noSet_marks hn), mt_cmp (cmp_of O.un op) (S.E O h1) (S.E O h2) (noSet_marks hn)⟩
      · cases h
  have go2 : ∀ {o1 o2 : CmpOp} {b c : Expr}, (if noSet c = true then (cE q n s a).bind fun x => (cE q n s b).bind fun y => (cE q n s c).bind fun z => some (ME.chain (copOf o1) (copOf o2) x y z) else none) = some m →
      PE X (.Compare a [o1, o2] [b, c] pos) (tE X.K cm (evE Γ m) W) ∧ PT X (.Compare a [o1, o2] [b, c] pos) (tB X.K cm (rT (evE Γ m)) W) := fun {o1 o2 b c} h => by
    obtain ⟨hn, h⟩ := ite_some h
    obtain ⟨x, h1, h⟩ := bnd h
    obtain ⟨y, h2, h⟩ := bnd h
    obtain ⟨z, h3, h⟩ := bnd h
    cases h
    exact ⟨me_chain (cmp_of O.un o1) (cmp_of O.un o2) (S.E O h1) (S.E O h2) (S.E O h3) (marks2 hn), mt_chain (cmp_of O.un o1) (cmp_of O.un o2) (S.E O h1) (S.E O h2) (S.E O h3) (marks2 hn)⟩
  have bad : ∀ {e : Expr}, (∃ ops bs, e = .Compare a ops bs pos) → cM q n s e = none := fun {e} ⟨_, _, e1⟩ => by
    subst e1
    cases n with
    | zero => unfold cM; rfl
    | succ n => unfold cM; rfl
  cases ops with
  | nil =>
    exfalso
    have e : cE q (n + 1) s (.Compare a [] bs pos) = (cM q n s (.Compare a [] bs pos)).bind fun x => some (.lst x) := by unfold cE; rfl
    rw [e, bad ⟨_, _, rfl⟩] at h
    cases h
  | cons o1 r =>
    cases r with
    | nil =>
      cases bs with
      | nil =>
        exfalso
        have e : cE q (n + 1) s (.Compare a [o1] [] pos) = (cM q n s (.Compare a [o1] [] pos)).bind fun x => some (.lst x) := by unfold cE; rfl
        rw [e, bad ⟨_, _, rfl⟩] at h
        cases h
      | cons b br =>
        cases br with
        | nil => unfold cE at h; exact go1 h
        | cons c cr =>
          exfalso
          have e : cE q (n + 1) s (.Compare a [o1] (b :: c :: cr) pos) = (cM q n s (.Compare a [o1] (b :: c :: cr) pos)).bind fun x => some (.lst x) := by unfold cE; rfl
          rw [e, bad ⟨_, _, rfl⟩] at h
          cases h
    | cons o2 r2 =>
      cases r2 with
      | nil =>
        have nope : ∀ bs, bs.length ≠ 2 → cE q (n + 1) s (.Compare a [o1, o2] bs pos) = (cM q n s (.Compare a [o1, o2] bs pos)).bind fun x => some (.lst x) := fun bs hl => by
          rcases bs with _ | ⟨b, _ | ⟨c, _ | ⟨d, r⟩⟩⟩
          · unfold cE; rfl
          · unfold cE; rfl
          · exact absurd rfl hl
          · unfold cE; rfl
        by_cases hl : bs.length = 2
        · rcases bs with _ | ⟨b, _ | ⟨c, _ | ⟨d, r⟩⟩⟩
          · cases hl
          · cases hl
          · unfold cE at h; exact go2 h
          · simp at hl
        · rw [nope bs hl, bad ⟨_, _, rfl⟩] at h
          cases h
      | cons o3 r3 =>
        exfalso
        have e : cE q (n + 1) s (.Compare a (o1 :: o2 :: o3 :: r3) bs pos) = (cM q n s (.Compare a (o1 :: o2 :: o3 :: r3) bs pos)).bind fun x => some (.lst x) := by unfold cE; rfl
        rw [e, bad ⟨_, _, rfl⟩] at h
        cases h
end
end Mi
/-! Mi16: soundness of the reading of expressions, the whole. -/
namespace Mi
open PySem L2
section
variable {q : Cq} {cm : Str × Bool → Option Value} {Γ : Gam} {k n : Nat} {X : Cx} {s : Cs} {W : WX}
theorem snd_B (S : Snd q cm Γ k n) (O : XOk q cm Γ k X s W) {op : BoolOp} {vs : List Expr} {pos : Pos} {m : ME} (h : cT q (n + 1) s (.BoolOp op vs pos) = some m) : PW X (.BoolOp op vs pos) (tB X.K cm (rT (evE Γ m)) W) := by
  rcases vs with _ | ⟨a, _ | ⟨b, r⟩⟩
  · exfalso
    cases op <;> (unfold cT at h; cases h)
  · have e : cT q (n + 1) s (.BoolOp op [a] pos) = cT q n s a := by cases op <;> rfl
    rw [e] at h
    cases op with
    | And => exact mw_and1 (S.T O h)
    | Or => exact mw_or1 (S.T O h)
  · cases op with
    | And =>
      unfold cT at h
      obtain ⟨x, h1, h⟩ := bnd h
      obtain ⟨y, h2, h⟩ := bnd h
      cases h
      exact mw_and (S.T O h1) (S.B O h2)
    | Or =>
      unfold cT at h
      obtain ⟨x, h1, h⟩ := bnd h
      obtain ⟨y, h2, h⟩ := bnd h
      cases h
      exact mw_or (S.T O h1) (S.B O h2)
theorem snd_T (S : Snd q cm Γ k n) (O : XOk q cm Γ k X s W) {e : Expr} {m : ME} (h : cT q (n + 1) s e = some m) : PT X e (tB X.K cm (rT (evE Γ m)) W) := by
  cases e with
  | BoolOp op vs pos => exact (snd_B S O h).pt
  | IfExp a b c pos => unfold cT at h; cases h
  | UnaryOp op a pos =>
    cases op with
    | Not =>
      unfold cT at h
      obtain ⟨x, h1, h⟩ := bnd h
      cases h
      exact mt_not (S.T O h1)
    | _ =>
      unfold cT at h
      exact mt_val (S.E O h) (by intro; rfl)
  | Compare a ops bs pos =>
    unfold cT at h
    exact S.P O h
  | _ =>
    unfold cT at h
    exact mt_val (S.E O h) (by intro; rfl)
theorem snd_lst (S : Snd q cm Γ k n) (O : XOk q cm Γ k X s W) {e : Expr} {m : ME} (h : ((cM q n s e).bind fun x => some (ME.lst x)) = some m) : PE X e (tE X.K cm (evE Γ m) W) := by
  obtain ⟨x, h1, h⟩ := bnd h
  cases h
  exact me_lst (S.M O h1)
theorem snd_var (O : XOk q cm Γ k X s W) {x : Str} {pos : Pos} {m : ME} (h : cVar q s x = some m) : PE X (.Name x pos) (tE X.K cm (evE Γ m) W) := by
  unfold cVar at h
  split at h
  · rename_i hv
    obtain ⟨v, h1, h2⟩ := O.vis hv
    obtain ⟨i, hi, e⟩ := Option.map_eq_some_iff.mp h
    subst e
    exact me_var (pe_var (O.ix hi) v h1 h2)
  · split at h
    · rename_i hg
      rw [Bool.and_eq_true] at hg
      cases h
      obtain ⟨g, hd⟩ := O.gl hg.1
      obtain ⟨d, v, u, e1, e2, r, rp⟩ := O.cst x hg.2
      refine me_glob (v := v) (fun d' e' α H => ?_) (pe_glob g e2 r hd)
      rw [e1] at e'; cases e'
      exact rp α H
    · cases h
theorem snd_sub (S : Snd q cm Γ k n) (O : XOk q cm Γ k X s W) {a i : Expr} {pos : Pos} {m : ME} (h : (if isRev i = true then (cE q n s a).bind fun x => some (.rev x)
      else if noSlice i = true then (if isMk s a = true then (cL q n s a).bind fun x => (cE q n s i).bind fun y => some (.subL x y)
        else (cE q n s a).bind fun x => (cE q n s i).bind fun y => some (ME.sub x y)) else none) = some m) : PE X (.Subscript a i pos) (tE X.K cm (evE Γ m) W) := by
  split at h
  · rename_i hr
    unfold isRev at hr
    split at hr
    · obtain ⟨x, h1, h⟩ := bnd h
      cases h
      have hr := eq_of_beq hr
      subst hr
      exact me_rev (S.E O h1)
    · cases hr
  · split at h
    · rename_i hn
      split at h
      · obtain ⟨x, h1, h⟩ := bnd h
        obtain ⟨y, h2, h⟩ := bnd h
        cases h
        exact me_subL hn (S.L O h1) (S.E O h2)
      · obtain ⟨x, h1, h⟩ := bnd h
        obtain ⟨y, h2, h⟩ := bnd h
        cases h
        exact me_sub O.un hn (S.E O h1) (S.E O h2)
    · cases h
theorem mt_of (hu : X.A.units + 65 < cLine) {name : Str} {m : Mt} (h : mtOf q name = some m) : MtOk X cm name m := by
  unfold mtOf at h
  repeat' split at h
  all_goals first
    | cases h; done
    | skip
  all_goals cases h
  all_goals rename_i hx
  · rw [eq_of_beq hx]; exact mto_append
  · rw [eq_of_beq hx]; exact mto_pop
  · rw [eq_of_beq hx]; exact mto_index hu
  · rw [eq_of_beq hx]; exact mto_extend
theorem snd_E (S : Snd q cm Γ k n) (O : XOk q cm Γ k X s W) {e : Expr} {m : ME} (h : cE q (n + 1) s e = some m) : PE X e (tE X.K cm (evE Γ m) W) := by
  cases e with
  | Name x pos => unfold cE at h; exact snd_var O h
  | Constant c j pos =>
    unfold cE at h
    obtain ⟨d, h1, e⟩ := Option.map_eq_some_iff.mp h
    subst e
    obtain ⟨v, h2, h3⟩ := con_of (X := X) (j := j) (pos := pos) h1
    exact me_con h3 h2
  | BinOp a op b pos =>
    unfold cE at h
    obtain ⟨o, h0, h⟩ := bnd h
    obtain ⟨x, h1, h⟩ := bnd h
    obtain ⟨y, h2, h⟩ := bnd h
    cases h
    exact me_bin (bin_of h0) (S.E O h1) (S.E O h2)
  | UnaryOp op a pos =>
    cases op with
    | USub =>
      unfold cE at h
      obtain ⟨x, h1, h⟩ := bnd h
      cases h
      exact me_neg (S.E O h1)
    | Not =>
      unfold cE at h
      obtain ⟨x, h1, h⟩ := bnd h
      cases h
      exact me_not (S.E O h1)
    | _ => unfold cE at h; exact snd_lst S O h
  | Compare a ops bs pos => exact (snd_cmp S O h).1
  | BoolOp op vs pos =>
    rcases vs with _ | ⟨a, _ | ⟨b, r⟩⟩
    · have e : cE q (n + 1) s (.BoolOp op [] pos) = (cM q n s (.BoolOp op [] pos)).bind fun x => some (.lst x) := by cases op <;> (unfold cE; rfl)
      rw [e] at h
      exact snd_lst S O h
    · have e : cE q (n + 1) s (.BoolOp op [a] pos) = cE q n s a := by cases op <;> rfl
      rw [e] at h
      exact me_one (S.E O h)
    · cases op with
      | And =>
        unfold cE at h
        obtain ⟨x, h1, h⟩ := bnd h
        obtain ⟨y, h2, h⟩ := bnd h
        cases h
        exact me_and (S.E O h1) (S.E O h2)
      | Or =>
        unfold cE at h
        obtain ⟨x, h1, h⟩ := bnd h
        obtain ⟨y, h2, h⟩ := bnd h
        cases h
        exact me_or (S.E O h1) (S.E O h2)
  | IfExp a b c pos =>
    unfold cE at h
    obtain ⟨x, h1, h⟩ := bnd h
    obtain ⟨y, h2, h⟩ := bnd h
    obtain ⟨z, h3, h⟩ := bnd h
    cases h
    exact me_ite (S.T O h1) (S.E O h2) (S.E O h3)
  | Tuple es j pos =>
    unfold cE at h
    obtain ⟨x, h1, h⟩ := bnd h
    cases h
    exact me_tup (S.Es O h1).1
  | Attribute a f pos =>
    unfold cE at h
    obtain ⟨hb, h⟩ := ite_some h
    obtain ⟨x, h1, h⟩ := bnd h
    cases h
    exact me_att O.G O.room hb (S.E O h1)
  | Subscript a i pos =>
    cases i with
    | Slice lo hi st p2 =>
      cases st with
      | none =>
        unfold cE at h
        obtain ⟨x, h1, h⟩ := bnd h
        obtain ⟨y, h2, h⟩ := bnd h
        obtain ⟨z, h3, h⟩ := bnd h
        cases h
        exact me_sl (S.E O h1) (S.O O h2) (S.O O h3)
      | some e => unfold cE at h; exact snd_sub S O h
    | _ => unfold cE at h; exact snd_sub S O h
  | Call f es kws pos =>
    cases kws with
    | nil =>
      cases f with
      | Name x p1 =>
        unfold cE at h
        obtain ⟨hg, h⟩ := ite_some h
        exact S.C O hg h
      | Attribute o mm ap =>
        unfold cE at h
        obtain ⟨hb, h⟩ := ite_some h
        rw [Bool.and_eq_true, Bool.and_eq_true, decide_eq_true_eq] at hb
        obtain ⟨x, h1, h⟩ := bnd h
        obtain ⟨y, h2, h⟩ := bnd h
        obtain ⟨a, b⟩ := S.Es O h2
        split at h
        · rename_i hm
          cases h
          exact me_mt (mt_of O.un hm) hb.1.1 hb.1.2 b hb.2 (S.E O h1) a
        · cases h
          exact me_ocall O.G (O.room.mono (Nat.le_succ _)) O.tk hb.1.1 hb.1.2 b hb.2 (S.E O h1) a
      | _ => unfold cE at h; exact snd_lst S O h
    | cons kw kr =>
      by_cases hf : (∃ x p1, f = .Name x p1) ∧ es = []
      · obtain ⟨⟨x, p1, rfl⟩, rfl⟩ := hf
        have h : (if (isG s x && kwFit q x (kw :: kr)) = true then (cEs q n s ((kw :: kr).map (·.value))).bind fun y => some (ME.new x y) else none) = some m := by unfold cE at h; exact h
        obtain ⟨hg, h⟩ := ite_some h
        rw [Bool.and_eq_true] at hg
        obtain ⟨y, h1, h⟩ := bnd h
        cases h
        obtain ⟨pk, hl⟩ := S.Ks O h1
        have hk := hg.2
        unfold kwFit at hk
        cases ek : q.kwp.lookup x with
        | none => rw [ek] at hk; cases hk
        | some ks =>
          rw [ek] at hk
          have hk := of_decide_eq_true hk
          obtain ⟨Ca, ga, g, fd, ps, q1, q2, q3, q4, q5, q6⟩ := O.kwm x ks ek
          obtain ⟨gl, db⟩ := O.gl hg.1
          exact me_newK q1 q2 q3 q4 q5 q6 O.room O.tk gl db hk (fun ρ μ ds μ1 he => by
            have := congrArg List.length hk
            simp only [List.length_map] at this
            rw [evEs_len y he, hl, this]) pk
      have e : cE q (n + 1) s (.Call f es (kw :: kr) pos) = (cM q n s (.Call f es (kw :: kr) pos)).bind fun x => some (.lst x) := by
        cases f <;> first
          | (unfold cE; rfl)
          | (cases es with
            | nil => exact absurd ⟨⟨_, _, rfl⟩, rfl⟩ hf
            | cons e1 es1 => unfold cE; rfl)
      rw [e] at h
      exact snd_lst S O h
  | Dict ks vs pos =>
    cases ks with
    | nil =>
      cases vs with
      | nil =>
        unfold cE at h
        cases h
        exact me_dnew
      | cons v vs => unfold cE at h; exact snd_lst S O h
    | cons k ks => unfold cE at h; exact snd_lst S O h
  | _ => unfold cE at h; exact snd_lst S O h
theorem snd : Snd q cm Γ k n := by
  induction n with
  | zero => exact snd_zero
  | succ n S =>
    exact ⟨fun O h => snd_E S O h, fun O h => (snd_cmp S O h).2, fun O h => snd_T S O h, fun O h => snd_B S O h, fun O hg h => snd_C S O hg h, fun O h => snd_Es S O h, fun O h => snd_Ks S O h, fun O h => snd_O S O h, fun O h => snd_F S O h, fun O h => snd_M S O h, fun O h => snd_L S O h, fun O h => snd_I S O h⟩
end
end Mi
/-! Mi17: the reading of statements, its soundness. -/
namespace Mi
open PySem L2

def noComp (e : Expr) : Bool := match e with
  | .ListComp _ _ _ _ => false
  | .SetComp _ _ _ _ => false
  | .DictComp _ _ _ _ _ => false
  | _ => true
def noTup (e : Expr) : Bool := match e with
  | .Tuple _ _ _ => false
  | _ => true
/-- name = [..]: whether the machine stores first -/
def swapB (s : Cs) (y : Str) (py pos : Pos) (scope : Scope) : Bool :=
  (match s.sc.names.lookup y with
  | some .local => true
  | _ => false) && (py.line == pos.line) && !(scope.names.any fun (n, k) => n == y && (k == .local || k == .cell))
/-- a part of what a clause hands back -/
def cHp (n : Str) : Expr → Option (Str ⊕ Str)
  | .Constant (.str t) _ _ => some (.inl t)
  | .Attribute (.Name y _) f _ => if y == n then some (.inr f) else none
  | _ => none
def cHps (n : Str) : List Expr → Option (List (Str ⊕ Str))
  | [] => some []
  | e :: es => (cHp n e).bind fun x => (cHps n es).bind fun y => some (x :: y)
def cHe (n : Str) (e : Expr) : Option (List (Str ⊕ Str) × Bool) := match e with
  | .Tuple es _ _ => (cHps n es).bind fun x => if x.length ≤ 1000 then some (x, true) else none
  | e => (cHp n e).bind fun x => some ([x], false)
def isLoc (s : Cs) (n : Str) : Bool := match s.sc.names.lookup n with
  | some .local => true
  | _ => false
def cHs (q : Cq) (s : Cs) : List ExceptHandler → Option MHs
  | [] => some .nil
  | .ExceptHandler (some (.Name x _)) (some n) [.Return (some e) _] _ :: r => if isG s x && q.xct.contains x && isLoc s n && okName n then (ixN' s n).bind fun i => (cHe n e).bind fun p => (cHs q s r).bind fun z => some (.cons x i p.1 p.2 z) else none
  | _ :: _ => none
/-- a name that holds a dict with tuple keys -/
def isKw (x : Str) : Bool := x == ("known" : Str)
def isKn : Expr → Bool
  | .Name x _ => isKw x
  | _ => false
def ixKn (s : Cs) : Expr → Option Nat
  | .Name x _ => if isV s x then ixN' s x else none
  | _ => none
/-- what is stored in a name -/
def cEk (q : Cq) (n : Nat) (s : Cs) (x : Str) (e : Expr) : Option ME := match e with
  | .Dict [] [] _ => if isKw x then some .dnewT else cE q n s e
  | e => cE q n s e
mutual
def cS (q : Cq) : Nat → Cs → Stmt → Option MS
  | 0, _, _ => none
  | n + 1, s, st => match st with
    | .Expr (.Constant (.str _) _ _) _ => some .pas
    | .Expr e _ => if noComp e then (cE q n s e).bind fun x => some (.ex x) else none
    | .Pass _ => some .pas
    | .Break _ => some .brk
    | .Continue _ => some .cnt
    | .Return none _ => some .retN
    | .Return (some e) _ => (cE q n s e).bind fun x => some (.ret x)
    | .Assign [.Name x py] (.ListComp elt gs scope pos) _ => if isS s x then (ixN' s x).bind fun i => (cE q n s (.ListComp elt gs scope pos)).bind fun v => some (.asg (.nm i) v) else none
    | .Assign [.Name x _] e _ => if isS s x && noComp e then (ixN' s x).bind fun i => (cEk q n s x e).bind fun v => some (.asg (.nm i) v) else none
    | .Assign [.Tuple es j p] e _ => if noComp e && noTup e then (cTg s (.Tuple es j p)).bind fun t => (cE q n s e).bind fun v => some (.asg t v) else none
    | .Assign [.Subscript o i _] e _ => if noComp e && noSlice i then (cE q n s o).bind fun x => (cE q n s i).bind fun y => (cE q n s e).bind fun v => some (.asgSub x y v) else none
    | .Assign [.Attribute o f _] e _ => if noComp e then (cE q n s o).bind fun x => (cE q n s e).bind fun v => some (.asgFld x f v) else none
    | .AugAssign (.Name x _) op e _ => if isS s x then (augOf op).bind fun o => (ixN' s x).bind fun i => (cE q n s e).bind fun v => some (.aug i o v) else none
    | .If c a b _ => (cT q n s c).bind fun x => (cSs q n s a).bind fun y => (cSs q n s b).bind fun z => some (.ife x y z)
    | .While c b [] _ => (cT q n s c).bind fun x => (cSs q n s b).bind fun y => some (.whl x y)
    | .For tg it b [] _ => if isKn it then (cTg s tg).bind fun t => (ixKn s it).bind fun i => (cSs q n s b).bind fun y => some (.forD t i y) else if noSet it then (cTg s tg).bind fun t => (cI q n s tg it).bind fun x => (cSs q n s b).bind fun y => some (.forE t x y) else none
    | .Raise (some (.Call (.Name x _) (e :: es) [] _)) none _ => if isG s x && q.xcl.contains x then (cEs q n s (e :: es)).bind fun y => some (.rse x y) else none
    | .Try b (h :: hs) [] [] _ => (cSs q n s b).bind fun y => (cHs q s (h :: hs)).bind fun z => some (.tri y z)
    | _ => none
def cSs (q : Cq) : Nat → Cs → List Stmt → Option MSs
  | 0, _, _ => none
  | n + 1, s, st => match st with
    | [] => some .nil
    | a :: r => (cSs q n s r).bind fun y => some (.cons ((cS q n s a).getD (.rse "" .nil)) y)
end
/-- an exception class that is raised -/
structure XrOk (K : PySem.W.Frag) (cm : Str × Bool → Option Value) (P : Program) (w : World) (mg : Str → Option Value) (base : Heap) (C : Str) (fs : List Str) (Ca ga : Addr) (fd : FuncData) (ps : List Str) : Prop where
  c : cm (C, false) = some (.ref Ca)
  g : mg C = some (.ref Ca)
  x : XcC K Ca
  ini : PySem.W.findIn K (.ref Ca) "__init__" = some (some (.ref ga))
  fn : PySem.W.isFn K (.ref ga) = true
  ok : FnOk P w K mg base (L2.CX P w) 1 ga fd ps (spXi Ca fs)
  bind : Binds K fd ps []
  no : ∀ f ∈ fs, PySem.W.findIn K (.ref Ca) f = some none
  nd : fs.Nodup
  len : fs.length ≤ 800
structure SOk (q : Cq) (cm : Str × Bool → Option Value) (Γ : Gam) (k : Nat) (X : Cx) (s : Cs) (W : WX) : Prop extends XOk q cm Γ k X s W where
  kind : s.sc.kind = .function
  pass : PassesOwn (model X.prog X.w) X.A X.env X.xe
  noX : Γ.xinit "" = none
  stk : X.stack = X.env :: X.outer
  frm : X.env.frame = some X.env.locals
  room2 : Room 2 X.A
  xr : ∀ C, q.xcl.contains C = true → ∃ fs Ca ga fd ps, Γ.xinit C = some fs ∧ XrOk X.K cm X.prog X.w X.mg X.base C fs Ca ga fd ps
  xc : ∀ C, q.xct.contains C = true → ∃ Ca, X.mg C = some (.ref Ca) ∧ cm (C, false) = some (.ref Ca)
  xa : ∀ C Ca, cm (C, false) = some (.ref Ca) → XfC X.K Ca ∧ ∀ Y Ya, cm (Y, false) = some (.ref Ya) → PySem.W.exmOne X.K (.ref Ca) (.ref Ya) = some (Γ.isa C Y)
section
variable {q : Cq} {cm : Str × Bool → Option Value} {Γ : Gam} {k n : Nat} {X : Cx} {s : Cs} {W : WX}
theorem swaps_no {e : Expr} {t : Option Expr} {l : Nat} {env : Env} (h : noComp e = true) : swapsWith e t l env = pure false := by
  cases e <;> first | rfl | cases h
theorem swapsS_no {e t : Expr} {l : Nat} {env : Env} (h : noComp e = true) : swapsWithSole [t] e l env = pure false := by
  unfold swapsWithSole
  exact swaps_no h
theorem stores_no {tg e : Expr} {env : Env} (h : noTup e = true ∨ noTup tg = true) : (∀ es p, tg ≠ .List es p) → swappedStores [tg] e env = pure none := by
  intro hl
  rcases h with h | h
  · cases e <;> first | (cases tg <;> rfl) | cases h
  · cases tg <;> first | rfl | exact absurd rfl (hl _ _) | cases h
theorem aug_of {op : Operator} {o : BOp} (h : augOf op = some o) : AugOk X op o := by
  cases op <;> cases h
  · exact aug_add
  · exact aug_sub
  · exact aug_mul
  · exact aug_mod
  · exact aug_shr
  · exact aug_bor
  · exact aug_fdiv
theorem cEk_ok (S : Snd q cm Γ k n) (O : XOk q cm Γ k X s W) {x : Str} {e : Expr} {m : ME} (h : cEk q n s x e = some m) : PE X e (tE X.K cm (evE Γ m) W) := by
  unfold cEk at h
  split at h
  · split at h
    · cases h; exact me_dnewT
    · exact S.E O h
  · exact S.E O h
theorem forD_ok {tg it : Expr} {sts : List Stmt} {pos : Pos} {tgm : Tg} {i : Nat} {rs : Env' → Mem → Out} (S : Snd q cm Γ k n) (O : SOk q cm Γ k X s W) (h : ixKn s it = some i) (hg : PG X tg (gTg X.K tgm)) (hb : PSs X sts (tSm X.K cm rs W)) :
    PS X (.For tg it sts [] pos) (tSm X.K cm (rForD i tgm rs) W) := by
  unfold ixKn at h
  split at h
  · rename_i x p
    split at h
    · rename_i hv
      obtain ⟨v1, v2, v3⟩ := O.toXOk.vis hv
      exact ms_forD O.pass O.calm (pe_var (O.toXOk.ix h) v1 v2 v3) hg hb (fun _ => rfl)
    · cases h
  · cases h
theorem ms_never (O : SOk q cm Γ k X s W) {st : Stmt} : PS X st (tSm X.K cm (exS Γ (.rse "" .nil)) W) := by
  refine ps_never.imp fun Z σ H ⟨α, μ, ρ, S, R, p⟩ => ?_
  have e : exS Γ (.rse "" .nil) ρ μ = .bad := by
    simp only [exS, evEs, Res.to_ok, O.noX]
  rw [e] at p
  exact p.elim
theorem zip_look2 {K : PySem.W.Frag} {α : List Addr} {H : Hp} {f : Str} {x : D} : ∀ {fs : List Str} {ds : List D} {vs : List V}, fs.Nodup → Reps K α H ds vs → fldD (fs.zip ds) f = some x → f ∈ fs ∧ ∃ v, ((fs.zip vs).reverse).lookup f = some v ∧ Rep K α H x v
  | [], _, _, _, _, h => by simp [fldD] at h
  | f0 :: fs, [], _, _, _, h => by simp [fldD] at h
  | f0 :: fs, d :: ds, vs, nd, r, h => by
    rw [List.nodup_cons] at nd
    simp only [Reps] at r
    obtain ⟨v, ws, e, r1, r2⟩ := r
    subst e
    simp only [List.zip_cons_cons, fldD] at h
    simp only [List.zip_cons_cons, List.reverse_cons, List.lookup_append]
    by_cases e : f = f0
    · rw [if_pos e] at h
      cases h
      subst e
      refine ⟨List.mem_cons_self, v, ?_, r1⟩
      have no : ((fs.zip ws).reverse).lookup f = none := by
        rw [List.lookup_eq_none_iff]
        intro p hp
        have hm : p.1 ∈ fs := (List.of_mem_zip (List.mem_reverse.mp hp)).1
        simp only [beq_eq_false_iff_ne, ne_eq, bne_iff_ne]
        intro z
        rw [z] at nd
        exact nd.1 hm
      rw [no]
      simp [List.lookup]
    · rw [if_neg e] at h
      obtain ⟨h1, w, h2, h3⟩ := zip_look2 nd.2 r2 h
      exact ⟨List.mem_cons_of_mem _ h1, w, by rw [h2]; rfl, h3⟩
theorem ms_raise (O : SOk q cm Γ k X s W) {x : Str} {p1 p2 pos : Pos} {e : Expr} {es : List Expr} {rs : Env' → Mem → Res (List D)} (hx : isG s x = true) (hc : q.xcl.contains x = true) (ha : PA X (e :: es) (tAs X.K cm rs W)) (hs : (e :: es).all noStar = true) :
    PS X (.Raise (some (.Call (.Name x p1) (e :: es) [] p2)) none pos) (tSm X.K cm (fun ρ μ => (rs ρ μ).to ρ fun ds μ1 => match Γ.xinit x with
    | some fs => if fs.length = ds.length then .ex x (fs.zip ds) ρ μ1 else .bad
    | none => .bad) W) := by
  obtain ⟨fs, Ca, ga, fd, ps, e1, T⟩ := O.xr x hc
  obtain ⟨hg, hd⟩ := O.toXOk.gl hx
  rw [List.all_cons, Bool.and_eq_true] at hs
  refine (ps_raise O.calm O.tk (pmk_x T.x T.ini T.fn T.ok O.room2 T.bind hg T.g hd ha (star_cons hs.1) (star_none hs.2))).imp fun Z σ H ⟨α, μ, ρ, S, R, p⟩ => ?_
  refine ⟨α, μ, ρ, S, R, (p.to S R).mono fun ds μ1 α1 H1 L1 S1 p1 vs rv => ?_⟩
  rw [e1] at p1
  dsimp only at p1
  by_cases hl : fs.length = ds.length
  · rw [if_pos hl] at p1
    have hv := rv.len
    refine ⟨by omega, by have := T.len; omega, fun d hd => ?_⟩
    obtain ⟨S2, L2⟩ := S1.lay (o := .xd (fs.zip vs).reverse) hd
    refine p1 σ _ _ _ _ L2 S2 ((R.later S L1).later S1 L2) ⟨Ca, d, (fs.zip vs).reverse, T.c, rfl, rfl, upd_same, fun f y hy => ?_⟩
    obtain ⟨hf, v, h1, h2⟩ := zip_look2 T.nd (rv.later S1 L2) hy
    exact ⟨v, h1, h2, T.no f hf⟩
  · rw [if_neg hl] at p1; exact p1.elim
/-! ### try -/
theorem SOk.tr (O : SOk q cm Γ k X s W) {W' : WX} {pn : List (Addr × Obj)} {xe : Value → Shared → Prop} (tk : Takes (X.tr pn xe) W') (hp : PassesOwn (model X.prog X.w) X.A X.env xe) : SOk q cm Γ k (X.tr pn xe) s W' :=
  { sc := O.sc, N := O.N, nd := O.nd, fnb := O.fnb, calm := O.calm, room := O.room, tk := tk, G := O.G, isi := O.isi, fn := O.fn, cls := O.cls, cst := O.cst, blt := O.blt, kwm := O.kwm, kind := O.kind, pass := hp, noX := O.noX, stk := O.stk, frm := O.frm, room2 := O.room2, xr := O.xr, xc := O.xc, xa := O.xa }
/-- what the parts read -/
def tHp (K : PySem.W.Frag) (a : Addr) (cls : Value) (d : Option Addr) (i : Nat) : Str ⊕ Str → TE
  | .inl t => tC (.str t)
  | .inr f => tXg K a cls d f (tVar i)
def tHps (K : PySem.W.Frag) (a : Addr) (cls : Value) (d : Option Addr) (i : Nat) : List (Str ⊕ Str) → TA
  | [] => tNil
  | p :: ps => tCons (tHp K a cls d i p) (tHps K a cls d i ps)
def tHe (K : PySem.W.Frag) (i : Nat) (es : List (Str ⊕ Str)) (tuple : Bool) : Addr → Value → Option Addr → TS := fun a cls d => if tuple then tRet (tTup (tHps K a cls d i es)) else match es with
  | [p] => tRet (tHp K a cls d i p)
  | _ => fun _ _ _ => False
section
variable {a : Addr} {oe : Obj} {cls : Value} {d : Option Addr} {pn : List (Addr × Obj)} {n : Str} {i : Nat}
theorem hp_ok (hi : X.N[i]? = some n) (hv : Vis X.env.scope n) (hd : (n == ("__debug__" : Str)) = false) (hcd : (n == ("__classdict__" : Str)) = false) (hz : Zc cls d oe) (hf : ∃ vs, oe.data = .fields vs) {e : Expr} {p : Str ⊕ Str} (h : cHp n e = some p) :
    PE (X.suite a ((a, oe) :: pn)) e (tHp X.K a cls d i p) ∧ noStar e = true := by
  unfold cHp at h
  split at h
  · cases h; exact ⟨pe_str, rfl⟩
  · split at h
    · rename_i e1
      cases h
      rw [eq_of_beq e1]
      exact ⟨pe_xg hz hf (pe_var (X := X.suite a ((a, oe) :: pn)) hi hv hd hcd) rfl, rfl⟩
    · cases h
  · cases h
theorem hps_ok (hi : X.N[i]? = some n) (hv : Vis X.env.scope n) (hd : (n == ("__debug__" : Str)) = false) (hcd : (n == ("__classdict__" : Str)) = false) (hz : Zc cls d oe) (hf : ∃ vs, oe.data = .fields vs) : ∀ {es : List Expr} {ps : List (Str ⊕ Str)}, cHps n es = some ps →
    PA (X.suite a ((a, oe) :: pn)) es (tHps X.K a cls d i ps)
  | [], ps, h => by simp only [cHps] at h; cases h; exact pa_nil
  | e :: es, ps, h => by
    simp only [cHps] at h
    obtain ⟨x, h1, h⟩ := Option.bind_eq_some_iff.mp h
    obtain ⟨y, h2, h⟩ := Option.bind_eq_some_iff.mp h
    cases h
    obtain ⟨q1, q2⟩ := hp_ok (a := a) (pn := pn) hi hv hd hcd hz hf h1
    exact pa_cons q1 (hps_ok hi hv hd hcd hz hf h2) (star_cons q2)
theorem he_ok (hi : X.N[i]? = some n) (hv : Vis X.env.scope n) (hd : (n == ("__debug__" : Str)) = false) (hcd : (n == ("__classdict__" : Str)) = false) {e : Expr} {pos : Pos} {r : List (Str ⊕ Str) × Bool} (h : cHe n e = some r) (hz : Zc cls d oe) (hf : ∃ vs, oe.data = .fields vs) :
    PSs (X.suite a ((a, oe) :: pn)) [.Return (some e) pos] (tHe X.K i r.1 r.2 a cls d) := by
  unfold cHe at h
  split at h
  · obtain ⟨x, h1, h⟩ := Option.bind_eq_some_iff.mp h
    split at h
    · cases h
      exact pss_one (ps_ret (pe_tup (hps_ok hi hv hd hcd hz hf h1)))
    · cases h
  · obtain ⟨x, h1, h⟩ := Option.bind_eq_some_iff.mp h
    cases h
    exact pss_one (ps_ret (hp_ok hi hv hd hcd hz hf h1).1)
end
/-- the clauses as their texts say -/
def clausesOf (K : PySem.W.Frag) (cm : Str × Bool → Option Value) (ixn : Str → Nat) : List (Str × Nat × List (Str ⊕ Str) × Bool) → List Clause
  | [] => []
  | (x, i, es, t) :: r => ((cm (x, false)).getD .none, i, tHe K i es t) :: clausesOf K cm ixn r
def mhsOf : List (Str × Nat × List (Str ⊕ Str) × Bool) → MHs
  | [] => .nil
  | (x, i, es, t) :: r => .cons x i es t (mhsOf r)
theorem hs_ok (O : SOk q cm Γ k X s W) : ∀ {hds : List ExceptHandler} {m : MHs}, cHs q s hds = some m → ∃ l, m = mhsOf l ∧ (∀ p ∈ l, ∃ Ya, cm (p.1, false) = some (.ref Ya)) ∧ (∀ p ∈ l, p.2.2.1.length ≤ 1000) ∧ ClausesOk X hds (clausesOf X.K cm (fun _ => 0) l)
  | [], m, h => by simp only [cHs] at h; cases h; exact ⟨[], rfl, (by simp), (by simp), .nil⟩
  | hd :: r, m, h => by
    unfold cHs at h
    split at h
    · rename_i e0; cases e0
    · rename_i x p1 n e p2 p3 r' e0
      cases e0
      split at h
      · rename_i hb
        simp only [Bool.and_eq_true] at hb
        obtain ⟨⟨⟨b1, b2⟩, b3⟩, b4⟩ := hb
        obtain ⟨i, hi, h⟩ := Option.bind_eq_some_iff.mp h
        obtain ⟨pr, h1, h⟩ := Option.bind_eq_some_iff.mp h
        obtain ⟨z, h2, h⟩ := Option.bind_eq_some_iff.mp h
        cases h
        obtain ⟨l, g1, g2, g3, g4⟩ := hs_ok O h2
        obtain ⟨Ya, c1, c2⟩ := O.xc x b2
        obtain ⟨hg, hdb⟩ := O.toXOk.gl b1
        have hl : X.env.scope.names.lookup n = some .local := by
          rw [O.sc]
          unfold isLoc at b3
          split at b3
          · assumption
          · cases b3
        obtain ⟨k1, k2⟩ := okN b4
        have hix := O.toXOk.ix hi
        have hlen : pr.1.length ≤ 1000 := by
          unfold cHe at h1
          split at h1
          · obtain ⟨y, h3, h1⟩ := Option.bind_eq_some_iff.mp h1
            split at h1
            · rename_i q; cases h1; exact q
            · cases h1
          · obtain ⟨y, h3, h1⟩ := Option.bind_eq_some_iff.mp h1
            cases h1; simp
        refine ⟨(x, i, pr.1, pr.2) :: l, by simp only [mhsOf]; rw [g1], fun p hp => ?_, fun p hp => ?_, ?_⟩
        · rcases List.mem_cons.mp hp with e1 | hp
          · subst e1; exact ⟨Ya, c2⟩
          · exact g2 p hp
        · rcases List.mem_cons.mp hp with e1 | hp
          · subst e1; exact hlen
          · exact g3 p hp
        · simp only [clausesOf, c2, Option.getD_some]
          exact .cons ⟨hg, hdb, .inl c1⟩ hix hl (fun a oe cls d pn hz hf => he_ok hix (.inl hl) k1 k2 h1 hz hf) g4
      · cases h
    · cases h
theorem hp_read {K : PySem.W.Frag} {α : List Addr} {H : Hp} {σ : L2.St} {a Ca dd : Addr} {i : Nat} {gs : List (Str × V)} {fs : List (Str × D)} {p : Str ⊕ Str} {x : D} {Q : VK} (T : XfC K Ca) (ha : σ[i]? = some (some (.ref a))) (hd : H dd = some (.xd gs))
    (hl : ∀ f x, fldD fs f = some x → ∃ v, gs.lookup f = some v ∧ Rep K α H x v ∧ PySem.W.findIn K (.ref Ca) f = some none) (h : partD fs p = some x) (q : ∀ v, Rep K α H x v → Q v H) : tHp K a (.ref Ca) (some dd) i p σ H Q := by
  cases p with
  | inl t =>
    simp only [partD] at h; cases h
    exact q _ rep_mkS
  | inr f =>
    simp only [partD] at h
    obtain ⟨v, h1, h2, h3⟩ := hl f x h
    exact ⟨.ref a, ha, rfl, Ca, dd, gs, v, T, h3, rfl, rfl, hd, h1, q v h2⟩
theorem hps_read {K : PySem.W.Frag} {α : List Addr} {H : Hp} {σ : L2.St} {a Ca dd : Addr} {i : Nat} {gs : List (Str × V)} {fs : List (Str × D)} (T : XfC K Ca) (ha : σ[i]? = some (some (.ref a))) (hd : H dd = some (.xd gs))
    (hl : ∀ f x, fldD fs f = some x → ∃ v, gs.lookup f = some v ∧ Rep K α H x v ∧ PySem.W.findIn K (.ref Ca) f = some none) : ∀ {ps : List (Str ⊕ Str)} {xs : List D} {Q : List V → Hp → Prop}, partsD fs ps = some xs → (∀ vs, Reps K α H xs vs → Q vs H) → tHps K a (.ref Ca) (some dd) i ps σ H Q
  | [], xs, Q, h, q => by simp only [partsD] at h; cases h; exact q [] (by simp only [Reps])
  | p :: ps, xs, Q, h, q => by
    simp only [partsD] at h
    cases e1 : partD fs p with
    | none => rw [e1] at h; cases h
    | some x =>
      cases e2 : partsD fs ps with
      | none => rw [e1, e2] at h; cases h
      | some ys =>
        rw [e1, e2] at h; cases h
        exact hp_read T ha hd hl e1 fun v rv => hps_read T ha hd hl e2 fun vs rvs => q _ (Reps.cons rv rvs)
theorem parts_len {fs : List (Str × D)} : ∀ {ps : List (Str ⊕ Str)} {xs : List D}, partsD fs ps = some xs → xs.length = ps.length
  | [], xs, h => by simp only [partsD] at h; cases h; rfl
  | p :: ps, xs, h => by
    simp only [partsD] at h
    cases e1 : partD fs p with
    | none => rw [e1] at h; cases h
    | some x =>
      cases e2 : partsD fs ps with
      | none => rw [e1, e2] at h; cases h
      | some ys => rw [e1, e2] at h; cases h; simp [parts_len e2]
theorem hands_go {α : List Addr} {μ : Mem} {H : Hp} {ρ : Env'} {σ : L2.St} {Z : Ends} {C : Str} {fs : List (Str × D)} {cls : Value} {d : Option Addr} (O : SOk q cm Γ k X s W) (S : Sim X.K cm α μ H) (R : RepE X.K α H ρ σ) (E : ExOk X.K cm α H C fs cls d) :
    ∀ {l : List (Str × Nat × List (Str ⊕ Str) × Bool)}, (∀ p ∈ l, ∃ Ya, cm (p.1, false) = some (.ref Ya)) → (∀ p ∈ l, p.2.2.1.length ≤ 1000) → PostS X.K cm α H Z W (hands Γ (mhsOf l) C fs ρ μ) → wClauses X.K W Z (clausesOf X.K cm (fun _ => 0) l) cls d σ H
  | [], _, _, p => p σ α H cls d (Later.refl _ _) S R E
  | (x, i, es, t) :: l, h1, h2, p => by
    obtain ⟨Ya, c1⟩ := h1 (x, i, es, t) List.mem_cons_self
    have hz := h2 (x, i, es, t) List.mem_cons_self
    obtain ⟨Ca, dd, gs, e1, e2, e3, e4, e5⟩ := id E
    obtain ⟨T, e6⟩ := O.xa C Ca e1
    dsimp only at c1 hz
    subst e2
    subst e3
    simp only [mhsOf, hands] at p
    simp only [clausesOf, c1, Option.getD_some]
    refine ⟨Γ.isa C x, e6 x Ya c1, fun y => ?_, fun y => ?_⟩
    · rw [y, if_pos rfl] at p
      intro a na
      have hi : i < ρ.length := Classical.byContradiction fun z => by rw [if_neg z] at p; exact p.elim
      rw [if_pos hi] at p
      rw [R.len] at hi
      cases e7 : partsD fs es with
      | none => rw [e7] at p; exact p.elim
      | some xs =>
        rw [e7] at p
        have hs : (σ.set i (some (.ref a)))[i]? = some (some (.ref a)) := List.getElem?_set_self hi
        unfold tHe
        cases t with
        | true =>
          dsimp only at p
          rw [if_pos rfl] at p ⊢
          refine hps_read T hs e4 e5 e7 fun vs rvs => ⟨?_, fun pa hpa => ?_⟩
          · rw [← rvs.len, parts_len e7, sizeLine_eq]; omega
          · obtain ⟨S2, L2⟩ := S.lay (o := .tup vs) hpa
            refine p α _ (.ref pa) L2 S2 ?_
            simp only [Rep]
            exact ⟨pa, vs, rfl, .inl upd_same, rvs.later S L2⟩
        | false =>
          dsimp only at p
          rw [if_neg Bool.false_ne_true] at p ⊢
          cases es with
          | nil => simp only [partsD] at e7; cases e7; exact p.elim
          | cons p0 ps =>
            cases ps with
            | cons p1 ps =>
              have := parts_len e7
              cases xs with
              | nil => simp at this
              | cons x1 xs =>
                cases xs with
                | nil => simp at this
                | cons x2 xs => exact p.elim
            | nil =>
              simp only [partsD] at e7
              cases e8 : partD fs p0 with
              | none => rw [e8] at e7; cases e7
              | some x =>
                rw [e8] at e7; cases e7
                exact hp_read T hs e4 e5 e8 fun v rv => p α H v (Later.refl _ _) S rv
    · rw [y, if_neg Bool.false_ne_true] at p
      exact hands_go O S R E (fun p hp => h1 p (List.mem_cons_of_mem _ hp)) (fun p hp => h2 p (List.mem_cons_of_mem _ hp)) p
theorem ms_try (O : SOk q cm Γ k X s W) {b : List Stmt} {h₀ : ExceptHandler} {hds : List ExceptHandler} {pos : Pos} {y : MSs} {z : MHs}
    (hb : ∀ (W' : WX) (pn : List (Addr × Obj)) (xe : Value → Shared → Prop), Takes (X.tr pn xe) W' → PassesOwn (model X.prog X.w) X.A X.env xe → PSs (X.tr pn xe) b (tSm X.K cm (exSs Γ y) W')) (hh : cHs q s (h₀ :: hds) = some z) :
    PS X (.Try b (h₀ :: hds) [] [] pos) (tSm X.K cm (exS Γ (.tri y z)) W) := by
  obtain ⟨l, e, g1, g2, g3⟩ := hs_ok O hh
  subst e
  have nd : X.N.Nodup := by rw [O.N]; exact O.nd
  refine (ps_try_named (tb := fun W' => tSm X.K cm (exSs Γ y) W') O.stk O.frm nd O.tk hb g3).imp fun Z σ H ⟨α, μ, ρ, S, R, p⟩ => ⟨α, μ, ρ, S, R, ?_⟩
  have e : exS Γ (.tri y (mhsOf l)) ρ μ = match exSs Γ y ρ μ with
    | .ex C fs ρ1 μ1 => hands Γ (mhsOf l) C fs ρ1 μ1
    | o => o := rfl
  rw [e] at p
  cases eo : exSs Γ y ρ μ with
  | ex C fs ρ1 μ1 =>
    rw [eo] at p
    exact fun σ' α' H' cls d L' S' R' E' => hands_go O S' R' E' g1 g2 (PostS.later p L')
  | nx ρ1 μ1 => rw [eo] at p; exact p
  | rt d μ1 => rw [eo] at p; exact p
  | br ρ1 μ1 => rw [eo] at p; exact p
  | ct ρ1 μ1 => rw [eo] at p; exact p
  | bad => rw [eo] at p; exact p
structure SndS (q : Cq) (cm : Str × Bool → Option Value) (Γ : Gam) (k n : Nat) : Prop where
  S : ∀ {X : Cx} {s : Cs} {W : WX} {st : Stmt} {m : MS}, SOk q cm Γ k X s W → cS q n s st = some m → PS X st (tSm X.K cm (exS Γ m) W)
  Ss : ∀ {X : Cx} {s : Cs} {W : WX} {st : List Stmt} {m : MSs}, SOk q cm Γ k X s W → cSs q n s st = some m → PSs X st (tSm X.K cm (exSs Γ m) W)
theorem sndS_Ss (T : SndS q cm Γ k n) (O : SOk q cm Γ k X s W) {st : List Stmt} {m : MSs} (h : cSs q (n + 1) s st = some m) : PSs X st (tSm X.K cm (exSs Γ m) W) := by
  unfold cSs at h
  split at h
  · cases h; exact mss_nil
  · obtain ⟨y, h2, h⟩ := bnd h
    cases h
    refine mss_cons ?_ (T.Ss O h2)
    cases e : cS q n s _ with
    | some x => exact T.S O e
    | none => exact ms_never O
theorem sndS_lc (O : SOk q cm Γ k X s W) {x : Str} {py pos p : Pos} {elt : Expr} {gs : List Comprehension} {scope : Scope} {i : Nat} {v : ME} (hx : isS s x = true) (hi : ixN' s x = some i) (h : cE q n s (.ListComp elt gs scope pos) = some v) :
    PS X (.Assign [.Name x py] (.ListComp elt gs scope pos) p) (tSm X.K cm (exS Γ (.asg (.nm i) v)) W) := by
  have nd : X.N.Nodup := by rw [O.N]; exact O.nd
  obtain ⟨a, b⟩ := O.toXOk.store hx
  have hk : X.env.scope.kind = .function := by rw [O.sc]; exact O.kind
  have hb : X.env.blockKind = .function := by unfold Env.blockKind; rw [hk]; rfl
  by_cases hw : swapB s x py pos scope = true
  · -- the machine stores first
    unfold swapB at hw
    rw [Bool.and_eq_true, Bool.and_eq_true, Bool.not_eq_true'] at hw
    obtain ⟨⟨w1, w2⟩, w3⟩ := hw
    have hl : X.env.scope.names.lookup x = some .local := by
      rw [O.sc]
      split at w1
      · assumption
      · cases w1
    cases n with
    | zero => unfold cE at h; cases h
    | succ n =>
      have e : cE q (n + 1) s (.ListComp elt gs scope pos) = (cM q n s (.ListComp elt gs scope pos)).bind fun x => some (.lst x) := rfl
      rw [e] at h
      obtain ⟨m, h1, h⟩ := bnd h
      cases h
      cases n with
      | zero => unfold cM at h1; cases h1
      | succ n =>
        unfold cM at h1
        split at h1
        · rename_i q1; cases q1
        · rename_i q1; cases q1
        · rename_i q1
          cases q1
          obtain ⟨hb, h1⟩ := ite_some h1
          rw [Bool.and_eq_true] at hb
          obtain ⟨t, g1, h1⟩ := bnd h1
          obtain ⟨hw, h1⟩ := ite_some h1
          obtain ⟨it, g2, h1⟩ := bnd h1
          obtain ⟨c, g3, h1⟩ := bnd h1
          obtain ⟨y, g4, h1⟩ := bnd h1
          cases h1
          have S : Snd q cm Γ k n := snd
          exact ms_setLc O.calm nd (O.toXOk.ix hi) hl (sw_true hk hl w2 w3) (S.I O.toXOk g2) (by rw [O.N, O.sc]; exact blkOk_by hb.1) (fun sh H C cl fp => tg_of (O.toXOk.blk sh H _ C cl fp) g1) (fun sh H C cl fp => S.F (O.toXOk.blk sh H _ C cl fp) g3)
            (fun sh H C cl fp => S.E (O.toXOk.blk sh H _ C cl fp) g4) (within_mem hw) (noSet_fold hb.2)
        · cases h1
  · have hs : swapsWith (.ListComp elt gs scope pos) (some (.Name x py)) p.line X.env = pure false := by
      unfold swapsWith
      have e : (X.env.blockKind == ScopeKind.function && X.env.kindOf x == some NameKind.local && py.line == pos.line && !(scope.names.any fun (n, k) => n == x && (k == .local || k == .cell))) = false := by
        rw [hb]
        have ek : X.env.kindOf x = s.sc.names.lookup x := by unfold Env.kindOf; rw [O.sc]
        rw [ek]
        unfold swapB at hw
        cases ev : s.sc.names.lookup x with
        | none => rfl
        | some kk =>
          rw [ev] at hw
          cases kk with
          | «local» =>
            have e2 : (some NameKind.local == some NameKind.local) = true := rfl
            rw [e2]
            have hw' : ((true && (py.line == pos.line)) && !(scope.names.any fun (n, k) => n == x && (k == .local || k == .cell))) = false := by
              cases q9 : ((true && (py.line == pos.line)) && !(scope.names.any fun (n, k) => n == x && (k == .local || k == .cell))) with
              | false => rfl
              | true => exact absurd q9 hw
            exact hw'
          | _ => rfl
      simp only [Expr.pos]
      rw [e]
    exact ms_set nd (O.toXOk.ix hi) a b (snd.E O.toXOk h) hs
theorem sndS_S (T : SndS q cm Γ k n) (O : SOk q cm Γ k X s W) {st : Stmt} {m : MS} (h : cS q (n + 1) s st = some m) : PS X st (tSm X.K cm (exS Γ m) W) := by
  have nd : X.N.Nodup := by rw [O.N]; exact O.nd
  have S : Snd q cm Γ k n := snd
  unfold cS at h
  split at h
  · cases h; exact ms_doc
  · obtain ⟨hn, h⟩ := ite_some h
    obtain ⟨x, h1, h⟩ := bnd h
    cases h
    exact ms_expr (S.E O.toXOk h1) (swaps_no hn)
  · cases h; exact ms_pass
  · cases h; exact ms_break
  · cases h; exact ms_continue
  · cases h; exact ms_retN
  · obtain ⟨x, h1, h⟩ := bnd h
    cases h
    exact ms_ret (S.E O.toXOk h1)
  · obtain ⟨hx, h⟩ := ite_some h
    obtain ⟨i, h1, h⟩ := bnd h
    obtain ⟨v, h2, h⟩ := bnd h
    cases h
    exact sndS_lc O hx h1 h2
  · obtain ⟨hx, h⟩ := ite_some h
    rw [Bool.and_eq_true] at hx
    obtain ⟨i, h1, h⟩ := bnd h
    obtain ⟨v, h2, h⟩ := bnd h
    cases h
    obtain ⟨a, b⟩ := O.toXOk.store hx.1
    exact ms_set nd (O.toXOk.ix h1) a b (cEk_ok S O.toXOk h2) (swaps_no hx.2)
  · obtain ⟨hx, h⟩ := ite_some h
    rw [Bool.and_eq_true] at hx
    obtain ⟨t, h1, h⟩ := bnd h
    obtain ⟨v, h2, h⟩ := bnd h
    cases h
    exact ms_asg (tg_of O.toXOk h1) (S.E O.toXOk h2) (swapsS_no hx.1) (stores_no (.inl hx.2) (fun _ _ z => by cases z)) rfl
  · obtain ⟨hx, h⟩ := ite_some h
    rw [Bool.and_eq_true] at hx
    obtain ⟨x, h1, h⟩ := bnd h
    obtain ⟨y, h2, h⟩ := bnd h
    obtain ⟨v, h3, h⟩ := bnd h
    cases h
    exact ms_asgSub O.toXOk.un (S.E O.toXOk h3) (S.E O.toXOk h1) (S.E O.toXOk h2) hx.2 (swapsS_no hx.1) (stores_no (.inr rfl) (fun _ _ z => by cases z))
  · obtain ⟨hx, h⟩ := ite_some h
    obtain ⟨x, h1, h⟩ := bnd h
    obtain ⟨v, h3, h⟩ := bnd h
    cases h
    exact ms_asgFld O.G (S.E O.toXOk h3) (S.E O.toXOk h1) (swaps_no hx)
  · obtain ⟨hx, h⟩ := ite_some h
    obtain ⟨o, h0, h⟩ := bnd h
    obtain ⟨i, h1, h⟩ := bnd h
    obtain ⟨v, h2, h⟩ := bnd h
    cases h
    obtain ⟨a, b⟩ := O.toXOk.store hx
    exact ms_aug nd (O.toXOk.ix h1) a b (aug_of h0) (S.E O.toXOk h2)
  · obtain ⟨x, h1, h⟩ := bnd h
    obtain ⟨y, h2, h⟩ := bnd h
    obtain ⟨z, h3, h⟩ := bnd h
    cases h
    exact ms_if (S.T O.toXOk h1) (T.Ss O h2) (T.Ss O h3)
  · obtain ⟨x, h1, h⟩ := bnd h
    obtain ⟨y, h2, h⟩ := bnd h
    cases h
    exact ms_while O.pass (S.T O.toXOk h1) (T.Ss O h2)
  · split at h
    · obtain ⟨t, h1, h⟩ := bnd h
      obtain ⟨i, h2, h⟩ := bnd h
      obtain ⟨y, h3, h⟩ := bnd h
      cases h
      exact forD_ok S O h2 (tg_of O.toXOk h1) (T.Ss O h3)
    obtain ⟨hx, h⟩ := ite_some h
    obtain ⟨t, h1, h⟩ := bnd h
    obtain ⟨x, h2, h⟩ := bnd h
    obtain ⟨y, h3, h⟩ := bnd h
    cases h
    exact ms_for O.pass O.calm (S.I O.toXOk h2) (tg_of O.toXOk h1) (T.Ss O h3) (noSet_fold hx)
  · obtain ⟨hx, h⟩ := ite_some h
    rw [Bool.and_eq_true] at hx
    obtain ⟨y, h1, h⟩ := bnd h
    cases h
    obtain ⟨a, b⟩ := S.Es O.toXOk h1
    exact ms_raise O hx.1 hx.2 a b
  · obtain ⟨y, h1, h⟩ := bnd h
    obtain ⟨z, h2, h⟩ := bnd h
    cases h
    exact ms_try O (fun W pn xe tk hp => T.Ss (O.tr tk hp) h1) h2
  · cases h
theorem sndS : SndS q cm Γ k n := by
  induction n with
  | zero => exact ⟨fun _ h => (by unfold cS at h; cases h), fun _ h => (by unfold cSs at h; cases h)⟩
  | succ n T => exact ⟨fun O h => sndS_S T O h, fun O h => sndS_Ss T O h⟩
end
end Mi
/-! Mi18: the table of a program, the levels. -/
namespace Mi
open PySem L2

structure FRow where
  key : Str
  x : Str
  qual : Str
  st : Stmt
  N : List Str
  ps : List Str
  body : MSs
  glb : Bool
structure CRow where
  name : Str
  init : Option Str
  flds : List Str
  props : List (Str × Str)
  meths : List (Str × Str)
/-- an exception class that is raised: its __init__ -/
structure XRow where
  name : Str
  x : Str
  qual : Str
  st : Stmt
  N : List Str
  ps : List Str
  fs : List Str
structure Tab where
  fns : List FRow
  cls : List CRow
  xr : List XRow
  xct : List Str
  cst : List (Str × D)
  isa : List (Str × Str)
  w : Nat
  kwp : List (Str × List Str)
def Tab.xs (T : Tab) : List (Str × List Str) := T.xr.map fun r => (r.name, r.fs)
def Tab.q (T : Tab) : Cq where
  fn := (T.fns.filter (·.glb)).map (·.key)
  cls := (T.cls.filter (·.init.isSome)).map (·.name)
  xcl := T.xr.map (·.name)
  cst := T.cst.map (·.1)
  own := T.cls.flatMap fun c => c.meths.map (·.1)
  xct := T.xct
  kwp := T.kwp
def findF : List FRow → Str → Option FRow
  | [], _ => none
  | r :: rs, k => if k = r.key then some r else findF rs k
def findC : List CRow → Str → Option CRow
  | [], _ => none
  | r :: rs, k => if k = r.name then some r else findC rs k
def Tab.gam (T : Tab) : Nat → Gam
  | 0 => ⟨fun _ _ _ => .bad, fun x => T.cst.lookup x, fun C f => (findC T.cls C).bind fun c => c.props.lookup f, fun C m => (findC T.cls C).bind fun c => c.meths.lookup m,
    fun C f => match findC T.cls C with
      | some c => c.flds.contains f
      | none => false, fun C => (findC T.cls C).bind (·.init), fun C => T.xs.lookup C, fun C X => T.isa.contains (C, X), T.w⟩
  | n + 1 => ⟨fun k ds μ => match findF T.fns k with
      | some r => runD (T.gam n) ⟨r.ps.length, r.N.length, r.body⟩ ds μ
      | none => .bad, fun x => T.cst.lookup x, fun C f => (findC T.cls C).bind fun c => c.props.lookup f, fun C m => (findC T.cls C).bind fun c => c.meths.lookup m,
    fun C f => match findC T.cls C with
      | some c => c.flds.contains f
      | none => false, fun C => (findC T.cls C).bind (·.init), fun C => T.xs.lookup C, fun C X => T.isa.contains (C, X), T.w⟩

/-- a row's text is read as it says -/
structure FRow.Ok (q : Cq) (r : FRow) : Prop where
  scope : FnScope r.N r.ps (defScope r.st)
  read : cSs q 200 ⟨defScope r.st, r.N, fun _ => true⟩ (defBody r.st) = some r.body
structure XRow.Ok (r : XRow) : Prop where
  scope : FnScope r.N r.ps (defScope r.st)
  read : xBody ⟨defScope r.st, r.N, fun _ => true⟩ (defBody r.st) = some (ixs 1 r.fs)
  len : r.ps.length = r.fs.length + 1
  ne : r.fs ≠ []
  nd : r.fs.Nodup
  le : r.fs.length ≤ 800
structure XAt (K : PySem.W.Frag) (mg : Str → Option Value) (cm : Str × Bool → Option Value) (r : XRow) : Prop where
  ex : ∃ (Ca ga : Addr) (fd : FuncData), cm (r.name, false) = some (.ref Ca) ∧ mg r.name = some (.ref Ca) ∧ XcC K Ca ∧ PySem.W.findIn K (.ref Ca) "__init__" = some (some (.ref ga)) ∧ PySem.W.isFn K (.ref ga) = true ∧
    Fun K r.x r.qual r.st ga fd ∧ Binds K fd r.ps [] ∧ ∀ f ∈ r.fs, PySem.W.findIn K (.ref Ca) f = some none
structure RowAt (K : PySem.W.Frag) (mg : Str → Option Value) (ad : Str → Addr) (r : FRow) : Prop where
  ex : ∃ fd, Fun K r.x r.qual r.st (ad r.key) fd ∧ Binds K fd r.ps []
  glb : r.glb = true → mg r.key = some (.ref (ad r.key))
structure ClsAt (K : PySem.W.Frag) (mg : Str → Option Value) (ad : Str → Addr) (c : CRow) (Ca : Addr) : Prop where
  g : mg c.name = some (.ref Ca)
  cls : Cls K Ca
  init : ∀ i, c.init = some i → Mk K Ca (ad i)
  flds : ∀ f ∈ c.flds, NoAttr K Ca f
  props : ∀ p ∈ c.props, ∃ pa, PropOf K Ca p.1 pa (ad p.2)
  meths : ∀ p ∈ c.meths, Meth K Ca p.1 (ad p.2)
structure HeadOk (K : PySem.W.Frag) (mg : Str → Option Value) (cm : Str × Bool → Option Value) (T : Tab) (ad : Str → Addr) : Prop where
  read : ∀ r ∈ T.fns, r.Ok T.q
  row : ∀ r ∈ T.fns, RowAt K mg ad r
  keys : (T.fns.map (·.key)).Nodup
  cls : ∀ c ∈ T.cls, ∃ Ca, cm (c.name, true) = some (.ref Ca) ∧ ClsAt K mg ad c Ca
  ckeys : (T.cls.map (·.name)).Nodup
  ini : ∀ c ∈ T.cls, ∀ g, (c.init = some g ∨ g ∈ c.props.map (·.2) ∨ g ∈ c.meths.map (·.2)) → ∃ r ∈ T.fns, r.key = g
  isi : IsiOk K cm
  cst : ∀ p ∈ T.cst, ∃ v u, mg p.1 = some u ∧ RelV v u ∧ ∀ α H, Rep K α H p.2 v
  blt : ∀ x ∈ biNames, mg x = none
  noX : T.xs.lookup ("" : Str) = none
  xrow : ∀ r ∈ T.xr, r.Ok ∧ XAt K mg cm r
  xnd : (T.xr.map (·.name)).Nodup
  xc : ∀ C ∈ T.xct, ∃ Ca, mg C = some (.ref Ca) ∧ cm (C, false) = some (.ref Ca)
  kwb : ∀ C ks, T.kwp.lookup C = some ks → ∃ c ∈ T.cls, c.name = C ∧ ∃ r ∈ T.fns, c.init = some r.key ∧ ks = r.ps.drop 1 ∧ BindK r.x r.qual r.st r.ps
  xa : ∀ C Ca, cm (C, false) = some (.ref Ca) → XfC K Ca ∧ ∀ Y Ya, cm (Y, false) = some (.ref Ya) → PySem.W.exmOne K (.ref Ca) (.ref Ya) = some (T.isa.contains (C, Y))

theorem findF_mem : ∀ {l : List FRow} {k : Str} {r : FRow}, findF l k = some r → r ∈ l ∧ r.key = k
  | [], _, _, h => by cases h
  | a :: l, k, r, h => by
    unfold findF at h
    split at h
    · rename_i e; cases h; exact ⟨List.mem_cons_self, e.symm⟩
    · obtain ⟨h1, h2⟩ := findF_mem h
      exact ⟨List.mem_cons_of_mem _ h1, h2⟩
theorem findC_mem : ∀ {l : List CRow} {k : Str} {r : CRow}, findC l k = some r → r ∈ l ∧ r.name = k
  | [], _, _, h => by cases h
  | a :: l, k, r, h => by
    unfold findC at h
    split at h
    · rename_i e; cases h; exact ⟨List.mem_cons_self, e.symm⟩
    · obtain ⟨h1, h2⟩ := findC_mem h
      exact ⟨List.mem_cons_of_mem _ h1, h2⟩
theorem findF_of : ∀ {l : List FRow} {r : FRow}, (l.map (·.key)).Nodup → r ∈ l → findF l r.key = some r
  | a :: l, r, nd, h => by
    unfold findF
    rw [List.map_cons, List.nodup_cons] at nd
    rcases List.mem_cons.mp h with e | h
    · subst e; rw [if_pos rfl]
    · rw [if_neg fun e => nd.1 (by rw [← e]; exact List.mem_map_of_mem h)]
      exact findF_of nd.2 h
theorem findC_of : ∀ {l : List CRow} {r : CRow}, (l.map (·.name)).Nodup → r ∈ l → findC l r.name = some r
  | a :: l, r, nd, h => by
    unfold findC
    rw [List.map_cons, List.nodup_cons] at nd
    rcases List.mem_cons.mp h with e | h
    · subst e; rw [if_pos rfl]
    · rw [if_neg fun e => nd.1 (by rw [← e]; exact List.mem_map_of_mem h)]
      exact findC_of nd.2 h
theorem mem_of_lookup' {β : Type} : ∀ {l : List (Str × β)} {x : Str} {b : β}, l.lookup x = some b → (x, b) ∈ l
  | [], _, _, h => by cases h
  | (y, c) :: l, x, b, h => by
    rw [List.lookup_cons] at h
    split at h
    · rename_i e
      cases h
      rw [eq_of_beq e]; exact List.mem_cons_self
    · exact List.mem_cons_of_mem _ (mem_of_lookup' h)
theorem gam_same (T : Tab) (n : Nat) : (T.gam n).cst = (T.gam 0).cst ∧ (T.gam n).prop = (T.gam 0).prop ∧ (T.gam n).meth = (T.gam 0).meth ∧ (T.gam n).fld = (T.gam 0).fld ∧ (T.gam n).init = (T.gam 0).init ∧ (T.gam n).xinit = (T.gam 0).xinit ∧ (T.gam n).isa = (T.gam 0).isa ∧ (T.gam n).w = T.w := by
  cases n <;> exact ⟨rfl, rfl, rfl, rfl, rfl, rfl, rfl, rfl⟩
section
variable {P : Program} {w : World} {K : PySem.W.Frag} {mg : Str → Option Value} {base : Heap} {cm : Str × Bool → Option Value} {T : Tab} {ad : Str → Addr}
/-- what a callee of the level below is -/
def LvlOk (P : Program) (w : World) (K : PySem.W.Frag) (mg : Str → Option Value) (base : Heap) (cm : Str × Bool → Option Value) (T : Tab) (ad : Str → Addr) (n : Nat) : Prop :=
  ∀ r ∈ T.fns, ∃ fd, Fun K r.x r.qual r.st (ad r.key) fd ∧ Callee K cm P w mg base (2 * n + 2) ((T.gam n).fn r.key) (ad r.key) fd r.ps
theorem gamOk (H : HeadOk K mg cm T ad) (hcm : ∀ C u, cm (C, true) = some u → ∃ c ∈ T.cls, c.name = C) {n : Nat} (L : LvlOk P w K mg base cm T ad n) : GamOk K cm P w mg base (2 * n + 2) (T.gam n) := by
  obtain ⟨g1, g2, g3, g4, g5, g6, g7, g8⟩ := gam_same T n
  have cat : ∀ C Ca, cm (C, true) = some (.ref Ca) → ∃ c, findC T.cls C = some c ∧ c ∈ T.cls ∧ c.name = C ∧ ClsAt K mg ad c Ca := fun C Ca h => by
    obtain ⟨c, hc, e⟩ := hcm C _ h
    obtain ⟨Ca', h1, h2⟩ := H.cls c hc
    rw [e, h] at h1
    cases h1
    exact ⟨c, by rw [← e]; exact findC_of H.ckeys hc, hc, e, h2⟩
  have cal : ∀ {c : CRow} {g : Str}, c ∈ T.cls → (c.init = some g ∨ g ∈ c.props.map (·.2) ∨ g ∈ c.meths.map (·.2)) → ∃ fd ps, Callee K cm P w mg base (2 * n + 2) ((T.gam n).fn g) (ad g) fd ps := fun {c g} hc h => by
    obtain ⟨r, hr, e⟩ := H.ini c hc g h
    obtain ⟨fd, _, q⟩ := L r hr
    rw [e] at q
    exact ⟨fd, _, q⟩
  refine ⟨fun C f Ca h1 h2 => ?_, fun C f g Ca h1 h2 => ?_, fun C m g Ca h1 h2 => ?_, fun C g h2 => ?_⟩
  · obtain ⟨c, h3, h4, h5, A⟩ := cat C Ca h1
    rw [g4] at h2
    have h2 : (match findC T.cls C with
      | some c => c.flds.contains f
      | none => false) = true := h2
    rw [h3] at h2
    exact ⟨A.cls, A.flds f (by simpa using h2)⟩
  · obtain ⟨c, h3, h4, h5, A⟩ := cat C Ca h1
    rw [g2] at h2
    have h2 : ((findC T.cls C).bind fun c => c.props.lookup f) = some g := h2
    rw [h3] at h2
    have hm := mem_of_lookup' h2
    obtain ⟨pa, hp⟩ := A.props _ hm
    obtain ⟨fd, ps, q⟩ := cal h4 (.inr (.inl (List.mem_map_of_mem (f := Prod.snd) hm)))
    exact ⟨A.cls, pa, ad g, fd, ps, hp, q⟩
  · obtain ⟨c, h3, h4, h5, A⟩ := cat C Ca h1
    rw [g3] at h2
    have h2 : ((findC T.cls C).bind fun c => c.meths.lookup m) = some g := h2
    rw [h3] at h2
    have hm := mem_of_lookup' h2
    obtain ⟨fd, ps, q⟩ := cal h4 (.inr (.inr (List.mem_map_of_mem (f := Prod.snd) hm)))
    exact ⟨A.cls, ad g, fd, ps, A.meths _ hm, q⟩
  · rw [g5] at h2
    have h2 : (findC T.cls C).bind (·.init) = some g := h2
    cases e : findC T.cls C with
    | none => rw [e] at h2; cases h2
    | some c =>
      rw [e] at h2
      obtain ⟨hc, en⟩ := findC_mem e
      obtain ⟨Ca, h6, A⟩ := H.cls c hc
      obtain ⟨fd, ps, q⟩ := cal hc (.inl h2)
      rw [← en]
      exact ⟨Ca, ad g, fd, ps, h6, A.g, A.init g h2, q⟩
theorem kwm_of (H : HeadOk K mg cm T ad) {n : Nat} (L : LvlOk P w K mg base cm T ad n) (C : Str) (ks : List Str) (h : T.q.kwp.lookup C = some ks) :
    ∃ Ca ga g fd ps, (T.gam n).init C = some g ∧ cm (C, true) = some (.ref Ca) ∧ mg C = some (.ref Ca) ∧ Mk K Ca ga ∧ Callee K cm P w mg base (2 * n + 2) ((T.gam n).fn g) ga fd ps ∧ KBn K fd ps 1 ks (fun us ws => us ++ ws) (fun vs zs => vs ++ zs) := by
  obtain ⟨g1, g2, g3, g4, g5, g6, g7, g8⟩ := gam_same T n
  obtain ⟨c, hc, en, r, hr, ei, ek, B⟩ := H.kwb C ks h
  obtain ⟨fd, F, Cl⟩ := L r hr
  obtain ⟨Ca, h6, A⟩ := H.cls c hc
  subst en; subst ek
  refine ⟨Ca, ad r.key, r.key, fd, r.ps, ?_, h6, A.g, A.init _ ei, Cl, kbn_of F B⟩
  rw [g5]
  show (findC T.cls c.name).bind (·.init) = some r.key
  rw [findC_of H.ckeys hc]
  exact ei
def KwOne (T : Tab) (p : Str × List Str) : Prop := ∃ c r, findC T.cls p.1 = some c ∧ findF T.fns r.key = some r ∧ c.init = some r.key ∧ p.2 = r.ps.drop 1 ∧ BindK r.x r.qual r.st r.ps
theorem kwb_of {T : Tab} (h : ∀ p ∈ T.kwp, KwOne T p) (C : Str) (ks : List Str) (e : T.kwp.lookup C = some ks) : ∃ c ∈ T.cls, c.name = C ∧ ∃ r ∈ T.fns, c.init = some r.key ∧ ks = r.ps.drop 1 ∧ BindK r.x r.qual r.st r.ps := by
  obtain ⟨c, r, h1, h2, h3, h4, h5⟩ := h _ (mem_of_lookup' e)
  obtain ⟨q1, q2⟩ := findC_mem h1
  obtain ⟨q3, _⟩ := findF_mem h2
  exact ⟨c, q1, q2, r, q3, h3, h4, h5⟩
theorem xs_look {l : List XRow} (nd : (l.map (·.name)).Nodup) {r : XRow} (h : r ∈ l) : (l.map fun r => (r.name, r.fs)).lookup r.name = some r.fs := by
  induction l with
  | nil => cases h
  | cons a l ih =>
    rw [List.map_cons, List.nodup_cons] at nd
    rw [List.map_cons, List.lookup_cons]
    rcases List.mem_cons.mp h with e | h
    · subst e; simp
    · have ne : r.name ≠ a.name := fun e => nd.1 (by rw [← e]; exact List.mem_map_of_mem h)
      rw [beq_eq_false_iff_ne.mpr ne]
      exact ih nd.2 h
theorem rep_start {K : PySem.W.Frag} {α : List Addr} {H : Hp} {ds : List D} {vs : List V} (r : Reps K α H ds vs) (N : List Str) : RepE K α H (ds.map some ++ List.replicate (N.length - ds.length) none) (start N vs) := by
  have hl := r.len
  unfold L2.start
  refine ⟨by simp [hl], fun i d h => ?_⟩
  by_cases hi : i < ds.length
  · rw [List.getElem?_append_left (by simpa using hi), List.getElem?_map] at h
    cases e : ds[i]? with
    | none => rw [e] at h; cases h
    | some x =>
      rw [e] at h
      have h : some (some x) = some (some d) := h
      cases h
      obtain ⟨v, h1, h2⟩ := r.get e
      exact ⟨v, by rw [List.getElem?_append_left (by simpa [← hl] using hi), List.getElem?_map, h1]; rfl, h2⟩
  · rw [List.getElem?_append_right (by simpa using hi), List.getElem?_replicate] at h
    split at h <;> cases h
theorem levels (H : HeadOk K mg cm T ad) (hcm : ∀ C u, cm (C, true) = some u → ∃ c ∈ T.cls, c.name = C) : ∀ n, LvlOk P w K mg base cm T ad n
  | 0 => fun r hr => by
    obtain ⟨fd, F, B⟩ := (H.row r hr).ex
    refine ⟨fd, F, ⟨⟨fun vs _ _ _ ⟨_, _, _, _, _, _, z⟩ => z.elim, fun _ _ _ _ _ _ _ _ _ _ _ _ _ ⟨_, _, _, _, _, _, z⟩ => z.elim⟩, B, fun _ _ _ => rfl⟩⟩
  | n + 1 => fun r hr => by
    have L := levels H hcm n
    obtain ⟨fd, F, B⟩ := (H.row r hr).ex
    obtain ⟨g1, g2, g3, g4, g5, g6, g7, g8⟩ := gam_same T n
    have efn : ∀ ds μ, (T.gam (n + 1)).fn r.key ds μ = runD (T.gam n) ⟨r.ps.length, r.N.length, r.body⟩ ds μ := fun ds μ => by
      show (match findF T.fns r.key with
        | some r => runD (T.gam n) ⟨r.ps.length, r.N.length, r.body⟩ ds μ
        | none => .bad) = _
      rw [findF_of H.keys hr]
    refine ⟨fd, F, ⟨?_, B, fun ds μ hl => by rw [efn]; unfold runD; rw [if_neg hl]⟩⟩
    have R := H.read r hr
    refine F.okX (k := 2 * n + 3) R.scope (fun vs Hh Q E ⟨α, μ, ds, S, rd, hl, p⟩ => by rw [← rd.len, hl]) (fun cdv A outer s Hh vs Q E hroom hsp => ?_)
    obtain ⟨α, μ, ds, S, rd, hl, p⟩ := hsp
    refine ⟨tSm K cm (exSs (T.gam n) r.body) (fun c d _ H => E c d H), ?_, α, μ, ds.map some ++ List.replicate (r.N.length - ds.length) none, S, rep_start rd r.N, ?_⟩
    · refine sndS.Ss (q := T.q) (k := 2 * n + 2) (s := ⟨defScope r.st, r.N, fun _ => true⟩) ?_ R.read
      refine { sc := rfl, N := rfl, nd := R.scope.nd, fnb := fun _ _ => rfl, calm := rfl, room := hroom, tk := takes_of rfl rfl rfl rfl, G := gamOk H hcm L, isi := H.isi, fn := fun x hx => ?_, cls := fun C hC => ?_, cst := fun x hx => ?_, blt := H.blt, kwm := kwm_of H L, kind := R.scope.kind, pass := passes_of rfl, noX := by rw [g6]; exact H.noX, stk := rfl, frm := rfl, room2 := hroom.mono (by omega), xr := fun C hC => ?_, xc := fun C hC => H.xc C (by simpa [Tab.q] using hC), xa := fun C Ca hC => by rw [g7]; exact H.xa C Ca hC }
      · have hx : x ∈ (T.fns.filter (·.glb)).map (·.key) := by simpa [Tab.q] using hx
        obtain ⟨r', hr', e⟩ := List.mem_map.mp hx
        obtain ⟨hr1, hr2⟩ := List.mem_filter.mp hr'
        subst e
        obtain ⟨fd', kp, q⟩ := L r' hr1
        exact ⟨ad r'.key, fd', r'.ps, (H.row r' hr1).glb hr2, kp.kp, q⟩
      · have hC : C ∈ (T.cls.filter (·.init.isSome)).map (·.name) := by simpa [Tab.q] using hC
        obtain ⟨c, hc', e⟩ := List.mem_map.mp hC
        obtain ⟨hc1, hc2⟩ := List.mem_filter.mp hc'
        subst e
        obtain ⟨Ca, h6, A⟩ := H.cls c hc1
        refine ⟨?_, Ca, A.g, h6⟩
        rw [g5]
        show ((findC T.cls c.name).bind (·.init)).isSome = true
        rw [findC_of H.ckeys hc1]
        exact hc2
      · have hx : x ∈ T.cst.map (·.1) := by simpa [Tab.q] using hx
        obtain ⟨p', hp', e⟩ := List.mem_map.mp hx
        have hlk : ∃ d, T.cst.lookup x = some d := by
          cases e2 : T.cst.lookup x with
          | some d => exact ⟨d, rfl⟩
          | none =>
            exfalso
            have := List.lookup_eq_none_iff.mp e2 p' hp'
            rw [e] at this
            simp at this
        obtain ⟨d, hd⟩ := hlk
        obtain ⟨v, u, h1, h2, h3⟩ := H.cst _ (mem_of_lookup' hd)
        exact ⟨d, v, u, by rw [g1]; exact hd, h1, h2, h3⟩
      · have hC : C ∈ T.xr.map (·.name) := by simpa [Tab.q] using hC
        obtain ⟨r, hr, e⟩ := List.mem_map.mp hC
        subst e
        obtain ⟨q, ⟨Ca, ga, fd, q1, q2, q3, q4, q5, q6, q7, q8⟩⟩ := H.xrow r hr
        refine ⟨r.fs, Ca, ga, fd, r.ps, by rw [g6]; exact xs_look H.xnd hr, q1, q2, q3, q4, q5, ?_, q7, q8, q.nd, q.le⟩
        cases ef : r.fs with
        | nil => exact absurd ef q.ne
        | cons f0 fs =>
          have rd := q.read
          have hl := q.len
          have hle := q.le
          rw [ef] at rd hl hle q8
          simp only [List.length_cons] at hl hle
          exact xi_ok q6 q.scope rd hl (by omega) q3 q8
    · rw [efn] at p
      unfold runD at p
      rw [if_pos hl] at p
      dsimp only at p
      cases e : exSs (T.gam n) r.body (ds.map some ++ List.replicate (r.N.length - ds.length) none) μ with
      | nx ρ μ1 => rw [e] at p; exact fun σ' α' H' L S' _ => p α' H' L S' _ rep_mkN
      | rt d μ1 => rw [e] at p; exact fun α' H' v L S' rv => p α' H' L S' v rv
      | br ρ μ1 => rw [e] at p; exact p.elim
      | ct ρ μ1 => rw [e] at p; exact p.elim
      | ex C fs ρ μ1 => rw [e] at p; exact fun σ' α' H' cls d L S' _ x => p α' H' cls d L S' x
      | bad => rw [e] at p; exact p.elim
end
end Mi
/-! Mi19: the ends. -/
namespace Mi
open PySem L2

def adOf (ks : List Str) (as : List Addr) (k : Str) : Addr := ((ks.zip as).lookup k).getD 0
def cmOf (cs : List Str) (as : List Addr) (xs : List Str) (bs : List Addr) : Str × Bool → Option Value := fun p => if p.2 then ((cs.zip as).lookup p.1).map Value.ref else ((xs.zip bs).lookup p.1).map Value.ref
inductive RowsAt (K : PySem.W.Frag) (mg : Str → Option Value) : List FRow → List Addr → Prop where
  | nil : RowsAt K mg [] []
  | cons {r : FRow} {f : Addr} {rs : List FRow} {fs : List Addr} : (∃ fd, Fun K r.x r.qual r.st f fd ∧ Binds K fd r.ps []) → (r.glb = true → mg r.key = some (.ref f)) → RowsAt K mg rs fs → RowsAt K mg (r :: rs) (f :: fs)
inductive ClssAt (K : PySem.W.Frag) (mg : Str → Option Value) (ad : Str → Addr) : List CRow → List Addr → Prop where
  | nil : ClssAt K mg ad [] []
  | cons {c : CRow} {Ca : Addr} {cs : List CRow} {as : List Addr} : ClsAt K mg ad c Ca → ClssAt K mg ad cs as → ClssAt K mg ad (c :: cs) (Ca :: as)
theorem zip_look {β : Type} {ks : List Str} {k a : Str} {as : List β} {b : β} : ((a :: ks).zip (b :: as)).lookup k = if k = a then some b else (ks.zip as).lookup k := by
  rw [List.zip_cons_cons, List.lookup_cons]
  by_cases e : k = a
  · rw [if_pos e, beq_iff_eq.mpr e]
  · rw [if_neg e, beq_eq_false_iff_ne.mpr e]
theorem rowsAt_ad {K : PySem.W.Frag} {mg : Str → Option Value} : ∀ {rs : List FRow} {as : List Addr}, RowsAt K mg rs as → (rs.map (·.key)).Nodup → ∀ r ∈ rs, RowAt K mg (adOf (rs.map (·.key)) as) r
  | _, _, .nil, _, r, h => by cases h
  | _, _, .cons (r := r0) (f := f) (rs := rs) (fs := fs) h1 h2 h3, nd, r, h => by
    rw [List.map_cons, List.nodup_cons] at nd
    rcases List.mem_cons.mp h with e | h
    · subst e
      have ea : adOf ((r :: rs).map (·.key)) (f :: fs) r.key = f := by
        unfold adOf
        rw [List.map_cons, zip_look, if_pos rfl]; rfl
      exact ⟨by rw [ea]; exact h1, by rw [ea]; exact h2⟩
    · have ne : r.key ≠ r0.key := fun e => nd.1 (by rw [← e]; exact List.mem_map_of_mem h)
      have ea : adOf ((r0 :: rs).map (·.key)) (f :: fs) r.key = adOf (rs.map (·.key)) fs r.key := by
        unfold adOf
        rw [List.map_cons, zip_look, if_neg ne]
      have q := rowsAt_ad h3 nd.2 r h
      exact ⟨by rw [ea]; exact q.ex, by rw [ea]; exact q.glb⟩
theorem clssAt_cm {K : PySem.W.Frag} {mg : Str → Option Value} {ad : Str → Addr} {xs : List Str} {bs : List Addr} : ∀ {cs : List CRow} {as : List Addr}, ClssAt K mg ad cs as → (cs.map (·.name)).Nodup → ∀ c ∈ cs, ∃ Ca, cmOf (cs.map (·.name)) as xs bs (c.name, true) = some (.ref Ca) ∧ ClsAt K mg ad c Ca
  | _, _, .nil, _, r, h => by cases h
  | _, _, .cons (c := c0) (Ca := Ca) (cs := cs) (as := as) h1 h3, nd, r, h => by
    rw [List.map_cons, List.nodup_cons] at nd
    rcases List.mem_cons.mp h with e | h
    · subst e
      refine ⟨Ca, ?_, h1⟩
      unfold cmOf
      rw [if_pos rfl, List.map_cons, zip_look, if_pos rfl]; rfl
    · have ne : r.name ≠ c0.name := fun e => nd.1 (by rw [← e]; exact List.mem_map_of_mem h)
      obtain ⟨Cb, h4, h5⟩ := clssAt_cm (xs := xs) (bs := bs) h3 nd.2 r h
      refine ⟨Cb, ?_, h5⟩
      unfold cmOf at h4 ⊢
      rw [if_pos rfl] at h4 ⊢
      rw [List.map_cons, zip_look, if_neg ne]
      exact h4
theorem zip_mem {β : Type} : ∀ {ks : List Str} {as : List β} {k : Str} {b : β}, (ks.zip as).lookup k = some b → k ∈ ks
  | [], _, _, _, h => by simp at h
  | a :: ks, [], _, _, h => by simp at h
  | a :: ks, b :: as, k, c, h => by
    rw [zip_look] at h
    by_cases e : k = a
    · rw [e]; exact List.mem_cons_self
    · rw [if_neg e] at h
      exact List.mem_cons_of_mem _ (zip_mem h)
theorem cmOf_mem {T : Tab} {as : List Addr} {xs : List Str} {bs : List Addr} : ∀ C u, cmOf (T.cls.map (·.name)) as xs bs (C, true) = some u → ∃ c ∈ T.cls, c.name = C := fun C u h => by
  unfold cmOf at h
  rw [if_pos rfl] at h
  obtain ⟨a, h1, _⟩ := Option.map_eq_some_iff.mp h
  obtain ⟨c, hc, e⟩ := List.mem_map.mp (zip_mem h1)
  exact ⟨c, hc, e⟩
/-- the text of a row binds as it should -/
def BindTxt (r : FRow) : Prop := ∀ (kV doc pm : Value) (an : Option Addr) (cdv ct : Value) (us : List Value), us.length = r.ps.length → bindArgs (PySem.W.fnOf r.x r.qual (defArgs r.st) (defBody r.st) (defScope r.st) .none kV doc pm an cdv ct) ⟨us, []⟩ = pure (r.ps.zip us)
theorem row_mk {K : PySem.W.Frag} {r : FRow} {f : Addr} {oc : Value} {od an : Option Addr} {osl : Array (Option Value)} {kV doc pm cdv ct : Value} (B : BindTxt r)
    (l : K.lookup f = some ⟨oc, od, .func (PySem.W.fnOf r.x r.qual (defArgs r.st) (defBody r.st) (defScope r.st) .none kV doc pm an cdv ct), osl⟩)
    (c : PySem.W.codeIn K cdv r.qual = true) (k : PySem.W.keepIn K (.ref f) = true) : ∃ fd, Fun K r.x r.qual r.st f fd ∧ Binds K fd r.ps [] :=
  ⟨_, fun_mk l c k, (fun_mk l c k).binds B⟩
def iniC (T : Tab) : Bool := T.cls.all fun c => (c.init.toList ++ c.props.map (·.2) ++ c.meths.map (·.2)).all fun g => (T.fns.map (·.key)).contains g
theorem ini_of {T : Tab} (h : iniC T = true) : ∀ c ∈ T.cls, ∀ g, (c.init = some g ∨ g ∈ c.props.map (·.2) ∨ g ∈ c.meths.map (·.2)) → ∃ r ∈ T.fns, r.key = g := fun c hc g hg => by
  unfold iniC at h
  rw [List.all_eq_true] at h
  have h2 := h c hc
  rw [List.all_eq_true] at h2
  have h3 := h2 g (by
    rw [List.mem_append, List.mem_append]
    rcases hg with e | e | e
    · exact .inl (.inl (by rw [e]; simp))
    · exact .inl (.inr e)
    · exact .inr e)
  have h4 : g ∈ T.fns.map (·.key) := by simpa using h3
  obtain ⟨r, hr, e⟩ := List.mem_map.mp h4
  exact ⟨r, hr, e⟩
def noLists (K : PySem.W.Frag) : Bool := K.all fun p => match p.2.cls with
  | .type n => !(n == "list")
  | _ => true
theorem mem_of_lookupA {β : Type} : ∀ {l : List (Addr × β)} {x : Addr} {b : β}, l.lookup x = some b → (x, b) ∈ l
  | [], _, _, h => by cases h
  | (y, c) :: l, x, b, h => by
    rw [List.lookup_cons] at h
    split at h
    · rename_i e
      cases h
      rw [eq_of_beq e]; exact List.mem_cons_self
    · exact List.mem_cons_of_mem _ (mem_of_lookupA h)
theorem no_list {K : PySem.W.Frag} (h : noLists K = true) {a : Addr} {o : Obj} (e : K.lookup a = some o) : o.cls ≠ .type "list" := fun e2 => by
  unfold noLists at h
  rw [List.all_eq_true] at h
  have q := h _ (mem_of_lookupA e)
  simp only [e2] at q
  revert q
  decide +kernel
/-- law's promise -/
def spLaw : Sp := fun vs H Q _ => ∃ (a : Addr) (o : Obj) (ns : List Int), vs = [.ref a] ∧ H a = some (.frz o (.lst (ns.map V.int))) ∧ ns.length ≤ 63 ∧ ∀ H', Q (.bl true) H'
theorem law_sp {K : PySem.W.Frag} {cm : Str × Bool → Option Value} {r : List D → Mem → Res D} (law : ∀ ns : List Int, ns.length ≤ 63 → ∃ μ, r [.ref 0] [.rol (ns.map D.int)] = .ok (.bl true) μ) (vs : List V) (H : Hp) (Q : VK) (E : XK) (h : spLaw vs H Q E) : spM K cm 1 r vs H Q E := by
  obtain ⟨a, o, ns, e, ha, hl, q⟩ := h
  subst e
  obtain ⟨μ, em⟩ := law ns hl
  refine ⟨[a], [.rol (ns.map D.int)], [.ref 0], ⟨rfl, by simp, fun n c b h1 h2 => ?_⟩, ?_, rfl, ?_⟩
  · cases n with
    | zero =>
      simp at h1 h2
      subst h1; subst h2
      exact ⟨o, _, ha, Reps.ofInts ns⟩
    | succ n => simp at h1
  · refine Reps.one ?_
    simp only [Rep]
    exact ⟨a, rfl, rfl⟩
  · rw [em]
    exact fun α' H' L S v rv => by rw [rep_bl rv]; exact q H'
theorem walkM {l : PySem.W.OpenLaw} {q : Program} {loose : List Str} {XP : (Str → Option Value) → Heap → Prop} {YP : World → Heap → Prop} {d : DefRec} {K : Params → PySem.W.Frag} (T : Tab) (n : Nat) (r : FRow)
    (hn : l.most = some 63) (hdf : d.params.defaults = []) (hd : d.name = ("law" : Str)) (hr : Room (2 * n + 2) callerA) (hY : ∀ (w : World) (h : Heap), YP w h → (K w.params).In h) (hL : ∀ w : World, noLists (K w.params) = true)
    (hm : r ∈ T.fns) (hk : r.key = ("law" : Str)) (hg : r.glb = true) (hps : r.ps = [("script" : Str)]) (B : BindTxt r)
    (F : ∀ (w : World) (mg : Str → Option Value) (fa : Addr) (h : Heap), (K w.params).In h → h.Ns mainGlobals mg → mg d.name = some (.ref fa) → ∃ (cm : Str × Bool → Option Value) (ad : Str → Addr), HeadOk (K w.params) mg cm T ad ∧ ∀ C u, cm (C, true) = some u → ∃ c ∈ T.cls, c.name = C)
    (law : ∀ ns : List Int, ns.length ≤ 63 → ∃ μ, (T.gam n).fn ("law" : Str) [.ref 0] [.rol (ns.map D.int)] = .ok (.bl true) μ) :
    PySem.W.WalkO q loose XP YP l.row.toRowW d [] (fun f vs => PySem.call f vs) := by
  refine L2.walk_of (n := 63) (k := 2 * n + 2) (x := ("script" : Str)) (CX := fun w => L2.CX l.prog w) (sp := fun _ => spLaw) hn (by decide) hdf hr hY (fun w mg fa h KX G hmg => ?_) (fun w H a ns hl hO hS => ?_) (fun w H s e s' z => ?_)
  · obtain ⟨cm, ad, HO, hcm⟩ := F w mg fa h KX G hmg
    have R := HO.row r hm
    have e : fa = ad r.key := by
      have z := R.glb hg
      rw [hk] at z
      rw [hd, z] at hmg
      cases hmg
      rw [hk]
    subst e
    obtain ⟨fd, F0, _⟩ := R.ex
    have F1 := F0
    obtain ⟨oc, od, kV, doc, pm, an, cdv, ct, osl, e, lk, hcd⟩ := F0.ex
    refine ⟨fd, fun s u => ?_, fun base hb hns => ?_⟩
    · have b := B kV doc pm an cdv ct [u] (by rw [hps]; rfl)
      rw [hps] at b
      rw [e]
      exact .of_eq b
    · obtain ⟨fd', F2, C⟩ := levels (P := l.prog) (w := w) (base := base) HO hcm n r hm
      have e2 : fd' = fd := by
        obtain ⟨oc2, od2, kV2, doc2, pm2, an2, cdv2, ct2, osl2, e2, lk2, _⟩ := F2.ex
        rw [lk] at lk2
        simp only [Option.some.injEq, Obj.mk.injEq, Data.func.injEq] at lk2
        exact lk2.2.2.1.symm
      subst e2
      have C2 := C.ok.imp (sp' := spLaw) (fun vs H Q E h => by rw [hps]; refine law_sp (fun ns hl => ?_) vs H Q E h; rw [hk]; exact law ns hl)
      rw [hps] at C2
      exact C2
  · refine ⟨a, ?_⟩
    rcases hS with (h | ⟨o, h⟩) | ⟨o, its, m, h1, h2, _⟩
    · rcases hO a with z | ⟨o, xs, z⟩
      · rw [z] at h; cases h
      · rw [z] at h; cases h
    · exact ⟨o, ns, rfl, h, hl, fun _ => rfl⟩
    · exact absurd h2 (no_list (hL w) h1)
  · obtain ⟨_, _, _, _, _, _, _, _, _, _, _, _, z⟩ := z
    exact z
end Mi
/-! Mi20: the facts of the top, gathered. -/
namespace Mi
open PySem L2

/-- what isinstance asks of one own class -/
structure ClsK (K : PySem.W.Frag) (C : Addr) : Prop where
  b1 : PySem.W.subIn K (.ref C) (.type "int") = some false
  b2 : PySem.W.subIn K (.ref C) (.type "bool") = some false
  b3 : PySem.W.subIn K (.ref C) (.type "str") = some false
  b4 : PySem.W.subIn K (.ref C) (.type "list") = some false
  b5 : PySem.W.subIn K (.ref C) (.type "tuple") = some false
  o1 : PySem.W.subIn K (.type "NoneType") (.ref C) = some false
  o2 : PySem.W.subIn K (.type "int") (.ref C) = some false
  o3 : PySem.W.subIn K (.type "bool") (.ref C) = some false
  o4 : PySem.W.subIn K (.type "str") (.ref C) = some false
  o5 : PySem.W.subIn K (.type "list") (.ref C) = some false
  o6 : PySem.W.subIn K (.type "tuple") (.ref C) = some false
  o7 : PySem.W.subIn K (.type "dict") (.ref C) = some false
  ci : PySem.W.isClsIn K C = true
  ti : PySem.W.typeIn K (.ref C) = some (.type "type")
  cc : PySem.W.findIn K (.ref C) "__class__" = some (some (.builtin "object.__class__"))
  mr : PySem.W.mroIn K C (.type "object") = some true
  cls : Cls K C
def PairOne (K : PySem.W.Frag) (a : Addr) : List Addr → Prop
  | [] => True
  | b :: bs => (a ≠ b ∧ PySem.W.subIn K (.ref a) (.ref b) = some false ∧ PySem.W.subIn K (.ref b) (.ref a) = some false) ∧ PairOne K a bs
def PairsOk (K : PySem.W.Frag) : List Addr → Prop
  | [] => True
  | a :: as => PairOne K a as ∧ PairsOk K as
theorem pair_one {K : PySem.W.Frag} {a : Addr} : ∀ {bs : List Addr}, PairOne K a bs → ∀ b ∈ bs, a ≠ b ∧ PySem.W.subIn K (.ref a) (.ref b) = some false ∧ PySem.W.subIn K (.ref b) (.ref a) = some false
  | [], _, b, h => by cases h
  | c :: bs, p, b, h => by
    rcases List.mem_cons.mp h with e | h
    · subst e; exact p.1
    · exact pair_one p.2 b h
/-- two names' classes -/
theorem pairs_of {K : PySem.W.Frag} : ∀ {ks : List Str} {as : List Addr}, PairsOk K as → ks.Nodup → ∀ {C C' : Str} {a b : Addr}, (ks.zip as).lookup C = some a → (ks.zip as).lookup C' = some b → C' ≠ C → a ≠ b ∧ PySem.W.subIn K (.ref a) (.ref b) = some false
  | [], _, _, _, C, C', a, b, h, _, _ => by simp at h
  | k :: ks, [], _, _, C, C', a, b, h, _, _ => by simp at h
  | k :: ks, x :: as, p, nd, C, C', a, b, h1, h2, ne => by
    rw [List.nodup_cons] at nd
    rw [zip_look] at h1 h2
    have mem : ∀ {D : Str} {c : Addr}, (ks.zip as).lookup D = some c → c ∈ as := fun {D c} h => (List.of_mem_zip (mem_of_lookup' h)).2
    by_cases e1 : C = k
    · rw [if_pos e1] at h1
      cases h1
      rw [if_neg fun z => ne (z.trans e1.symm)] at h2
      obtain ⟨q1, q2, q3⟩ := pair_one p.1 b (mem h2)
      exact ⟨q1, q2⟩
    · rw [if_neg e1] at h1
      by_cases e2 : C' = k
      · rw [if_pos e2] at h2
        cases h2
        obtain ⟨q1, q2, q3⟩ := pair_one p.1 a (mem h1)
        exact ⟨Ne.symm q1, q3⟩
      · rw [if_neg e2] at h2
        exact pairs_of p.2 nd.2 h1 h2 ne
theorem kit_rt {K : PySem.W.Frag} {C : Addr} {n : String} (hm : PySem.W.kitMeta n = true) (h : PySem.W.subIn K (.ref C) (.type n) = some false) : PySem.W.kitOne K (.ref C) (.type n) = some false := by
  unfold PySem.W.kitOne PySem.W.kitCls
  have e : (Value.ref C == Value.type n) = false := rfl
  rw [e, if_neg Bool.false_ne_true]
  dsimp only
  rw [if_pos hm, h]
theorem kit_xr {K : PySem.W.Frag} {t : Value} {C : Addr} (ht : (t == Value.ref C) = false) (hc : PySem.W.isClsIn K C = true) (ty : PySem.W.typeIn K (.ref C) = some (.type "type")) (h : PySem.W.subIn K t (.ref C) = some false) : PySem.W.kitOne K t (.ref C) = some false := by
  unfold PySem.W.kitOne PySem.W.kitCls
  rw [ht, if_neg Bool.false_ne_true]
  dsimp only
  have hc2 : (PySem.W.clsIn K C).isSome = true := by
    first
      | exact hc
      | (unfold PySem.W.isClsIn at hc; simp_all)
  rw [hc2, ty, Bool.true_and, if_pos (by decide +kernel), h]
theorem isi_of {K : PySem.W.Frag} {ks : List Str} {as : List Addr} {xs : List Str} {bs : List Addr} (hk : ∀ a ∈ as, ClsK K a) (hp : PairsOk K as) (nd : ks.Nodup)
    (g1 : PySem.W.specialIn K (.builtin "object.__class__") "__get__" = some (some (.builtin "getset_descriptor.__get__"))) (g2 : PySem.W.takesIn K (.builtin "object.__class__") = some true) : IsiOk K (cmOf ks as xs bs) := by
  have at_ : ∀ {C : Str} {u : Value}, cmOf ks as xs bs (C, true) = some u → ∃ a, u = .ref a ∧ (ks.zip as).lookup C = some a ∧ ClsK K a := fun {C u} h => by
    unfold cmOf at h
    rw [if_pos rfl] at h
    obtain ⟨a, h1, h2⟩ := Option.map_eq_some_iff.mp h
    exact ⟨a, h2.symm, h1, hk a (List.of_mem_zip (mem_of_lookup' h1)).2⟩
  refine ⟨fun C Ca h n hn => ?_, fun C u h n hn => ?_, fun C C' Ca u h1 h2 => ?_, fun C Ca h => ?_, ⟨fun C Ca h n hn => ?_, fun C C' Ca Ca' h1 h2 ne => ?_⟩⟩
  · obtain ⟨a, e, _, q⟩ := at_ h
    cases e
    simp only [List.mem_cons, List.not_mem_nil, or_false] at hn
    rcases hn with e | e | e | e | e <;> subst e
    · exact kit_rt (by decide +kernel) q.b1
    · exact kit_rt (by decide +kernel) q.b2
    · exact kit_rt (by decide +kernel) q.b3
    · exact kit_rt (by decide +kernel) q.b4
    · exact kit_rt (by decide +kernel) q.b5
  · obtain ⟨a, e, _, q⟩ := at_ h
    cases e
    simp only [List.mem_cons, List.not_mem_nil, or_false] at hn
    rcases hn with e | e | e | e | e | e | e <;> subst e
    · exact kit_xr rfl q.ci q.ti q.o1
    · exact kit_xr rfl q.ci q.ti q.o2
    · exact kit_xr rfl q.ci q.ti q.o3
    · exact kit_xr rfl q.ci q.ti q.o4
    · exact kit_xr rfl q.ci q.ti q.o5
    · exact kit_xr rfl q.ci q.ti q.o6
    · exact kit_xr rfl q.ci q.ti q.o7
  · obtain ⟨a, e, l1, q⟩ := at_ h1
    obtain ⟨b, e2, l2, q2⟩ := at_ h2
    cases e
    cases e2
    by_cases hc : C' = C
    · subst hc
      rw [l1] at l2
      cases l2
      rw [decide_eq_true rfl]
      unfold PySem.W.kitOne
      rw [if_pos (by simp)]
    · rw [decide_eq_false hc]
      obtain ⟨n1, n2⟩ := pairs_of hp nd l1 l2 hc
      exact kit_xr (by simpa using n1) q2.ci q2.ti n2
  · obtain ⟨a, e, _, q⟩ := at_ h
    cases e
    exact ⟨q.cls, q.cc, g1, g2, q.mr⟩
  · obtain ⟨a, e, _, q⟩ := at_ h
    cases e
    simp only [List.mem_cons, List.not_mem_nil, or_false] at hn
    rcases hn with e | e | e | e | e | e | e <;> subst e
    · exact q.o1
    · exact q.o2
    · exact q.o3
    · exact q.o4
    · exact q.o5
    · exact q.o6
    · exact q.o7
  · obtain ⟨a, e, l1, q⟩ := at_ h1
    obtain ⟨b, e2, l2, q2⟩ := at_ h2
    cases e
    cases e2
    exact (pairs_of hp nd l2 l1 (Ne.symm ne)).2
/-! ### exception classes -/
structure ExcK (K : PySem.W.Frag) (C : Addr) : Prop where
  xf : XfC K C
  ty : PySem.W.typeIn K (.ref C) = some (.type "type")
def PairX (K : PySem.W.Frag) (isa : List (Str × Str)) (C : Str) (a : Addr) : List Str → List Addr → Prop
  | Y :: ys, b :: bs => PySem.W.subIn K (.ref a) (.ref b) = some (isa.contains (C, Y)) ∧ PairX K isa C a ys bs
  | _, _ => True
def PairsX (K : PySem.W.Frag) (isa : List (Str × Str)) (ys : List Str) (bs : List Addr) : List Str → List Addr → Prop
  | C :: cs, a :: as => PairX K isa C a ys bs ∧ PairsX K isa ys bs cs as
  | _, _ => True
theorem pairX_at {K : PySem.W.Frag} {isa : List (Str × Str)} {C : Str} {a : Addr} : ∀ {ys : List Str} {bs : List Addr} {Y : Str} {b : Addr}, PairX K isa C a ys bs → (ys.zip bs).lookup Y = some b → PySem.W.subIn K (.ref a) (.ref b) = some (isa.contains (C, Y))
  | [], _, _, _, _, h => by simp at h
  | _ :: _, [], _, _, _, h => by simp at h
  | y :: ys, c :: bs, Y, b, p, h => by
    rw [zip_look] at h
    by_cases e : Y = y
    · rw [if_pos e] at h; cases h; subst e; exact p.1
    · rw [if_neg e] at h; exact pairX_at p.2 h
theorem pairsX_at {K : PySem.W.Frag} {isa : List (Str × Str)} {ys : List Str} {bs : List Addr} : ∀ {cs : List Str} {as : List Addr} {C : Str} {a : Addr}, PairsX K isa ys bs cs as → (cs.zip as).lookup C = some a → PairX K isa C a ys bs
  | [], _, _, _, _, h => by simp at h
  | _ :: _, [], _, _, _, h => by simp at h
  | y :: ys, c :: bs, Y, b, p, h => by
    rw [zip_look] at h
    by_cases e : Y = y
    · rw [if_pos e] at h; cases h; subst e; exact p.1
    · rw [if_neg e] at h; exact pairsX_at p.2 h
theorem xa_of {K : PySem.W.Frag} {ks : List Str} {as : List Addr} {xs : List Str} {bs : List Addr} {isa : List (Str × Str)} (hk : ∀ a ∈ bs, ExcK K a) (hp : PairsX K isa xs bs xs bs) : ∀ C Ca, cmOf ks as xs bs (C, false) = some (.ref Ca) →
    XfC K Ca ∧ ∀ Y Ya, cmOf ks as xs bs (Y, false) = some (.ref Ya) → PySem.W.exmOne K (.ref Ca) (.ref Ya) = some (isa.contains (C, Y)) := by
  have at_ : ∀ {C : Str} {a : Addr}, cmOf ks as xs bs (C, false) = some (.ref a) → (xs.zip bs).lookup C = some a := fun {C a} h => by
    unfold cmOf at h
    rw [if_neg (by simp)] at h
    obtain ⟨b, h1, h2⟩ := Option.map_eq_some_iff.mp h
    cases h2
    exact h1
  intro C Ca h
  have l1 := at_ h
  refine ⟨(hk Ca (List.of_mem_zip (mem_of_lookup' l1)).2).xf, fun Y Ya h2 => ?_⟩
  have l2 := at_ h2
  have q := hk Ya (List.of_mem_zip (mem_of_lookup' l2)).2
  exact PySem.W.exm_ref q.xf.exC q.xf.hdC q.ty (pairX_at (pairsX_at hp l1) l2)
theorem xbind_mk {K : PySem.W.Frag} {r : XRow} {f : Addr} {oc : Value} {od an : Option Addr} {osl : Array (Option Value)} {kV doc pm cdv ct : Value}
    (B : ∀ (kV doc pm : Value) (an : Option Addr) (cdv ct : Value) (us : List Value), us.length = r.ps.length → bindArgs (PySem.W.fnOf r.x r.qual (defArgs r.st) (defBody r.st) (defScope r.st) .none kV doc pm an cdv ct) ⟨us, []⟩ = pure (r.ps.zip us))
    (l : K.lookup f = some ⟨oc, od, .func (PySem.W.fnOf r.x r.qual (defArgs r.st) (defBody r.st) (defScope r.st) .none kV doc pm an cdv ct), osl⟩)
    (c : PySem.W.codeIn K cdv r.qual = true) (k : PySem.W.keepIn K (.ref f) = true) : ∃ fd, Fun K r.x r.qual r.st f fd ∧ Binds K fd r.ps [] :=
  ⟨_, fun_mk l c k, (fun_mk l c k).binds B⟩
theorem all_nil {α : Type} {P : α → Prop} : ∀ r ∈ ([] : List α), P r := fun _ h => by cases h
theorem all_cons {α : Type} {P : α → Prop} {a : α} {l : List α} (h : P a) (t : ∀ r ∈ l, P r) : ∀ r ∈ a :: l, P r := fun r hr => (List.mem_cons.mp hr).elim (fun e => e ▸ h) (t r)
theorem blt_of {K : PySem.W.Frag} {h : Heap} {mg : Str → Option Value} (X : K.In h) (G : h.Ns mainGlobals mg) {x : Str} (e : PySem.W.nsIn K mainGlobals x = some none) : mg x = none := PySem.W.mg_none_of X G e
end Mi
/-! the table of Lw -/
namespace Lw
open PySem L2 Mi
def top (i : Nat) : Stmt := PySem.Challenge.pw_methodworlds_k31_strings_accepted.main.body.getD i (.Pass ⟨0, 0, 0, 0⟩)
def b_is_integer : MSs := .cons (.ret (.and (.isi (.var 0) [.int]) (.not (.isi (.var 0) [.bool]))))
  (.nil)
def r_is_integer : FRow := ⟨"is_integer", "is_integer", "is_integer", (top 1), ["value"], ["value"], b_is_integer, true⟩
def b_is_between : MSs := .cons (.ret (.and (.call "is_integer" (.cons (.var 0) (.nil))) (.chain .le .le (.var 1) (.var 0) (.var 2))))
  (.nil)
def r_is_between : FRow := ⟨"is_between", "is_between", "is_between", (top 2), ["value", "least", "most"], ["value", "least", "most"], b_is_between, true⟩
def b_is_number : MSs := .cons (.ret (.and (.call "is_integer" (.cons (.var 0) (.nil))) (.chain .le .lt (.con (.int 0)) (.var 0) (.var 1))))
  (.nil)
def r_is_number : FRow := ⟨"is_number", "is_number", "is_number", (top 3), ["value", "limit"], ["value", "limit"], b_is_number, true⟩
def b_is_sequence : MSs := .cons (.ret (.isi (.var 0) [.list, .tuple]))
  (.nil)
def r_is_sequence : FRow := ⟨"is_sequence", "is_sequence", "is_sequence", (top 4), ["value"], ["value"], b_is_sequence, true⟩
def l1_is_flags : MSs := .cons (.ife (.not (.isi (.var 2) [.bool])) (.cons (.ret (.con (.bl false)))
    (.nil)) (.nil))
  (.nil)
def b_is_flags : MSs := .cons (.ife (.or (.not (.call "is_sequence" (.cons (.var 0) (.nil)))) (.cmp .ne (.bi .len (.var 0)) (.var 1))) (.cons (.ret (.con (.bl false)))
    (.nil)) (.nil))
  (.cons (.forE (.nm 2) (.l (.val (.var 0))) l1_is_flags)
  (.cons (.ret (.con (.bl true)))
  (.nil)))
def r_is_flags : FRow := ⟨"is_flags", "is_flags", "is_flags", (top 5), ["value", "many", "flag"], ["value", "many"], b_is_flags, true⟩
def l1_is_condition : MSs := .cons (.ife (.or (.not (.call "is_sequence" (.cons (.var 3) (.nil)))) (.cmp .ne (.bi .len (.var 3)) (.con (.int 2)))) (.cons (.ret (.con (.bl false)))
    (.nil)) (.nil))
  (.cons (.ife (.or (.not (.call "is_number" (.cons (.sub (.var 3) (.con (.int 0))) (.cons (.var 1) (.nil))))) (.cmp .le (.sub (.var 3) (.con (.int 0))) (.var 2))) (.cons (.ret (.con (.bl false)))
    (.nil)) (.nil))
  (.cons (.ife (.not (.isi (.sub (.var 3) (.con (.int 1))) [.bool])) (.cons (.ret (.con (.bl false)))
    (.nil)) (.nil))
  (.cons (.asg (.nm 2) (.sub (.var 3) (.con (.int 0))))
  (.nil))))
def b_is_condition : MSs := .cons (.ife (.not (.call "is_sequence" (.cons (.var 0) (.nil)))) (.cons (.ret (.con (.bl false)))
    (.nil)) (.nil))
  (.cons (.asg (.nm 2) (.neg (.con (.int 1))))
  (.cons (.forE (.nm 3) (.l (.val (.var 0))) l1_is_condition)
  (.cons (.ret (.con (.bl true)))
  (.nil))))
def r_is_condition : FRow := ⟨"is_condition", "is_condition", "is_condition", (top 16), ["value", "facts", "last", "pair"], ["value", "facts"], b_is_condition, true⟩
def l1_is_steps : MSs := .cons (.ife (.or (.not (.call "is_sequence" (.cons (.var 3) (.nil)))) (.cmp .ne (.bi .len (.var 3)) (.con (.int 2)))) (.cons (.ret (.con (.bl false)))
    (.nil)) (.nil))
  (.cons (.ife (.cmp .eq (.sub (.var 3) (.con (.int 0))) (.con (.str "deed"))) (.cons (.asg (.nm 4) (.var 1))
    (.nil)) (.cons (.ife (.cmp .eq (.sub (.var 3) (.con (.int 0))) (.con (.str "task"))) (.cons (.asg (.nm 4) (.var 2))
      (.nil)) (.cons (.ret (.con (.bl false)))
      (.nil)))
    (.nil)))
  (.cons (.ife (.not (.call "is_number" (.cons (.sub (.var 3) (.con (.int 1))) (.cons (.var 4) (.nil))))) (.cons (.ret (.con (.bl false)))
    (.nil)) (.nil))
  (.nil)))
def b_is_steps : MSs := .cons (.ife (.or (.not (.call "is_sequence" (.cons (.var 0) (.nil)))) (.cmp .gt (.bi .len (.var 0)) (.glob "MOST_STEPS"))) (.cons (.ret (.con (.bl false)))
    (.nil)) (.nil))
  (.cons (.forE (.nm 3) (.l (.val (.var 0))) l1_is_steps)
  (.cons (.ret (.con (.bl true)))
  (.nil)))
def r_is_steps : FRow := ⟨"is_steps", "is_steps", "is_steps", (top 17), ["value", "deeds", "tasks", "step", "limit"], ["value", "deeds", "tasks"], b_is_steps, true⟩
def b_is_method : MSs := .cons (.ife (.or (.not (.call "is_sequence" (.cons (.var 0) (.nil)))) (.cmp .ne (.bi .len (.var 0)) (.con (.int 2)))) (.cons (.ret (.con (.bl false)))
    (.nil)) (.nil))
  (.cons (.ret (.and (.call "is_condition" (.cons (.sub (.var 0) (.con (.int 0))) (.cons (.var 1) (.nil)))) (.call "is_steps" (.cons (.sub (.var 0) (.con (.int 1))) (.cons (.var 2) (.cons (.var 3) (.nil)))))))
  (.nil))
def r_is_method : FRow := ⟨"is_method", "is_method", "is_method", (top 18), ["value", "facts", "deeds", "tasks"], ["value", "facts", "deeds", "tasks"], b_is_method, true⟩
def l1_is_task_list : MSs := .cons (.ife (.or (.not (.call "is_sequence" (.cons (.var 1) (.nil)))) (.cmp .gt (.bi .len (.var 1)) (.glob "MOST_METHODS"))) (.cons (.ret (.con (.bl false)))
    (.nil)) (.nil))
  (.nil)
def b_is_task_list : MSs := .cons (.ife (.or (.not (.call "is_sequence" (.cons (.var 0) (.nil)))) (.not (.chain .le .le (.con (.int 1)) (.bi .len (.var 0)) (.glob "MOST_TASKS")))) (.cons (.ret (.con (.bl false)))
    (.nil)) (.nil))
  (.cons (.forE (.nm 1) (.l (.val (.var 0))) l1_is_task_list)
  (.cons (.ret (.con (.bl true)))
  (.nil)))
def r_is_task_list : FRow := ⟨"is_task_list", "is_task_list", "is_task_list", (top 19), ["value", "methods"], ["value"], b_is_task_list, true⟩
def e1_method_copy : ME := .tup (.cons (.sub (.var 4) (.con (.int 0))) (.cons (.sub (.var 4) (.con (.int 1))) (.nil)))
def e2_method_copy : ME := .tup (.cons (.sub (.var 2) (.con (.int 0))) (.cons (.sub (.var 2) (.con (.int 1))) (.nil)))
def b_method_copy : MSs := .cons (.asg (.nm 1) (.tupOf (.mk' (.comp [2] (.nm 2) (.l (.val (.sub (.var 0) (.con (.int 0))))) (.no) e2_method_copy))))
  (.cons (.asg (.nm 3) (.tupOf (.mk' (.comp [4] (.nm 4) (.l (.val (.sub (.var 0) (.con (.int 1))))) (.no) e1_method_copy))))
  (.cons (.ret (.tup (.cons (.var 1) (.cons (.var 3) (.nil)))))
  (.nil)))
def r_method_copy : FRow := ⟨"method_copy", "method_copy", "method_copy", (top 20), ["method", "condition", "pair", "steps", "step"], ["method"], b_method_copy, true⟩
def l2_Book___init__ : MSs := .cons (.ife (.not (.call "is_method" (.cons (.var 9) (.cons (.var 1) (.cons (.var 2) (.cons (.bi .len (.var 3)) (.nil))))))) (.cons (.rse "BadMethod" (.cons (.var 5) (.cons (.var 8) (.nil))))
    (.nil)) (.nil))
  (.cons (.ex (.mt .append (.var 7) (.cons (.call "method_copy" (.cons (.var 9) (.nil))) (.nil))))
  (.nil))
def l1_Book___init__ : MSs := .cons (.asg (.nm 7) (.lst (.disp (.nil))))
  (.cons (.forE (.tp [8, 9]) (.enum (.val (.var 6))) l2_Book___init__)
  (.cons (.ex (.mt .append (.var 4) (.cons (.tupOf (.val (.var 7))) (.nil))))
  (.nil)))
def b_Book___init__ : MSs := .cons (.ife (.not (.call "is_between" (.cons (.var 1) (.cons (.con (.int 0)) (.cons (.glob "MOST_FACTS") (.nil)))))) (.cons (.rse "BadValue" (.cons (.con (.int 1)) (.nil)))
    (.nil)) (.nil))
  (.cons (.ife (.not (.call "is_between" (.cons (.var 2) (.cons (.con (.int 1)) (.cons (.glob "MOST_DEEDS") (.nil)))))) (.cons (.rse "BadValue" (.cons (.con (.int 2)) (.nil)))
    (.nil)) (.nil))
  (.cons (.ife (.not (.call "is_task_list" (.cons (.var 3) (.nil)))) (.cons (.rse "BadValue" (.cons (.con (.int 3)) (.nil)))
    (.nil)) (.nil))
  (.cons (.asg (.nm 4) (.lst (.disp (.nil))))
  (.cons (.forE (.tp [5, 6]) (.enum (.val (.var 3))) l1_Book___init__)
  (.cons (.asgFld (.var 0) "_facts" (.var 1))
  (.cons (.asgFld (.var 0) "_deeds" (.var 2))
  (.cons (.asgFld (.var 0) "_tasks" (.tupOf (.val (.var 4))))
  (.nil))))))))
def r_Book___init__ : FRow := ⟨"Book.__init__", "__init__", "Book.__init__", (inClass (top 21) 0), ["self", "facts", "deeds", "tasks", "kept", "task", "methods", "copies", "number", "method"], ["self", "facts", "deeds", "tasks"], b_Book___init__, false⟩
def b_Book_facts : MSs := .cons (.ret (.att (.var 0) "_facts"))
  (.nil)
def r_Book_facts : FRow := ⟨"Book.facts", "facts", "Book.facts", (inClass (top 21) 1), ["self"], ["self"], b_Book_facts, false⟩
def b_Book_deeds : MSs := .cons (.ret (.att (.var 0) "_deeds"))
  (.nil)
def r_Book_deeds : FRow := ⟨"Book.deeds", "deeds", "Book.deeds", (inClass (top 21) 2), ["self"], ["self"], b_Book_deeds, false⟩
def b_Book_tasks : MSs := .cons (.ret (.att (.var 0) "_tasks"))
  (.nil)
def r_Book_tasks : FRow := ⟨"Book.tasks", "tasks", "Book.tasks", (inClass (top 21) 3), ["self"], ["self"], b_Book_tasks, false⟩
def b_Book___eq__ : MSs := .cons (.ife (.not (.isi (.var 1) [.own "Book"])) (.cons (.ret (.con (.bl false)))
    (.nil)) (.nil))
  (.cons (.ret (.and (.cmp .eq (.att (.var 0) "_facts") (.att (.var 1) "_facts")) (.and (.cmp .eq (.att (.var 0) "_deeds") (.att (.var 1) "_deeds")) (.cmp .eq (.att (.var 0) "_tasks") (.att (.var 1) "_tasks")))))
  (.nil))
def r_Book___eq__ : FRow := ⟨"Book.__eq__", "__eq__", "Book.__eq__", (inClass (top 21) 4), ["self", "other"], ["self", "other"], b_Book___eq__, false⟩
def b_check_book : MSs := .cons (.ife (.not (.isi (.var 0) [.own "Book"])) (.cons (.rse "BadValue" (.cons (.var 1) (.nil)))
    (.nil)) (.nil))
  (.nil)
def r_check_book : FRow := ⟨"check_book", "check_book", "check_book", (top 22), ["book", "at"], ["book", "at"], b_check_book, true⟩
def b_check_task : MSs := .cons (.ife (.not (.call "is_number" (.cons (.var 1) (.cons (.bi .len (.att (.var 0) "tasks")) (.nil))))) (.cons (.rse "BadValue" (.cons (.var 2) (.nil)))
    (.nil)) (.nil))
  (.nil)
def r_check_task : FRow := ⟨"check_task", "check_task", "check_task", (top 23), ["book", "task", "at"], ["book", "task", "at"], b_check_task, true⟩
def l1_holds : MSs := .cons (.ife (.cmp .ne (.sub (.var 1) (.var 2)) (.var 3)) (.cons (.ret (.con (.bl false)))
    (.nil)) (.nil))
  (.nil)
def b_holds : MSs := .cons (.forE (.tp [2, 3]) (.l (.val (.var 0))) l1_holds)
  (.cons (.ret (.con (.bl true)))
  (.nil))
def r_holds : FRow := ⟨"holds", "holds", "holds", (top 24), ["condition", "facts", "fact", "wanted"], ["condition", "facts"], b_holds, true⟩
def e1_methods_taken : ME := .tupOf (.mk' (.comp [2, 3] (.tp [2, 3]) (.l (.val (.var 4))) (.so (.call "holds" (.cons (.var 2) (.cons (.var 1) (.nil))))) (.var 3)))
def b_methods_taken : MSs := .cons (.ret (.tupOf (.mk' (.comp [4] (.nm 4) (.l (.val (.att (.var 0) "tasks"))) (.no) e1_methods_taken))))
  (.nil)
def r_methods_taken : FRow := ⟨"methods_taken", "methods_taken", "methods_taken", (top 26), ["book", "facts", "condition", "steps", "methods"], ["book", "facts"], b_methods_taken, true⟩
def l1_is_string : MSs := .cons (.ife (.not (.call "is_number" (.cons (.var 5) (.cons (.att (.var 0) "deeds") (.nil))))) (.cons (.ret (.con (.bl false)))
    (.nil)) (.nil))
  (.nil)
def l2_is_string : MSs := .cons (.ife (.not (.call "is_flags" (.cons (.var 4) (.cons (.att (.var 0) "facts") (.nil))))) (.cons (.ret (.con (.bl false)))
    (.nil)) (.nil))
  (.nil)
def b_is_string : MSs := .cons (.ife (.or (.not (.call "is_sequence" (.cons (.var 1) (.nil)))) (.cmp .ne (.bi .len (.var 1)) (.con (.int 2)))) (.cons (.ret (.con (.bl false)))
    (.nil)) (.nil))
  (.cons (.asg (.tp [2, 3]) (.var 1))
  (.cons (.ife (.or (.not (.call "is_sequence" (.cons (.var 2) (.nil)))) (.or (.not (.call "is_sequence" (.cons (.var 3) (.nil)))) (.cmp .ne (.bi .len (.var 2)) (.bin .add (.bi .len (.var 3)) (.con (.int 1)))))) (.cons (.ret (.con (.bl false)))
    (.nil)) (.nil))
  (.cons (.forE (.nm 4) (.l (.val (.var 2))) l2_is_string)
  (.cons (.forE (.nm 5) (.l (.val (.var 3))) l1_is_string)
  (.cons (.ret (.con (.bl true)))
  (.nil))))))
def r_is_string : FRow := ⟨"is_string", "is_string", "is_string", (top 28), ["book", "value", "facts", "deeds", "state", "deed"], ["book", "value"], b_is_string, true⟩
def l2_ends_of_steps : MSs := .cons (.ife (.cmp .eq (.bin .band (.bin .shr (.var 4) (.var 8)) (.con (.int 1))) (.con (.int 0))) (.cons (.cnt)
    (.nil)) (.nil))
  (.cons (.ife (.cmp .eq (.var 5) (.con (.str "task"))) (.cons (.aug 7 .bor (.sub (.sub (.var 3) (.var 8)) (.var 6)))
    (.nil)) (.cons (.ife (.and (.cmp .lt (.var 8) (.bi .len (.var 2))) (.cmp .eq (.sub (.var 2) (.var 8)) (.var 6))) (.cons (.aug 7 .bor (.bin .shl (.con (.int 1)) (.bin .add (.var 8) (.con (.int 1)))))
      (.nil)) (.nil))
    (.nil)))
  (.nil))
def l1_ends_of_steps : MSs := .cons (.asg (.nm 7) (.con (.int 0)))
  (.cons (.forE (.nm 8) (.rng2 (.var 1) (.bin .add (.bi .len (.var 2)) (.con (.int 1)))) l2_ends_of_steps)
  (.cons (.asg (.nm 4) (.var 7))
  (.nil)))
def b_ends_of_steps : MSs := .cons (.asg (.nm 4) (.bin .shl (.con (.int 1)) (.var 1)))
  (.cons (.forE (.tp [5, 6]) (.l (.val (.var 0))) l1_ends_of_steps)
  (.cons (.ret (.var 4))
  (.nil)))
def r_ends_of_steps : FRow := ⟨"ends_of_steps", "ends_of_steps", "ends_of_steps", (top 31), ["steps", "at", "deeds", "ends", "reached", "word", "number", "behind", "place"], ["steps", "at", "deeds", "ends"], b_ends_of_steps, true⟩
def l4_accepts : MSs := .cons (.aug 12 .bor (.call "ends_of_steps" (.cons (.var 13) (.cons (.var 7) (.cons (.var 4) (.cons (.var 5) (.nil)))))))
  (.nil)
def l3_accepts : MSs := .cons (.asg (.nm 12) (.sub (.sub (.var 5) (.var 7)) (.var 10)))
  (.cons (.forE (.nm 13) (.l (.val (.var 11))) l4_accepts)
  (.cons (.ife (.cmp .ne (.var 12) (.sub (.sub (.var 5) (.var 7)) (.var 10))) (.cons (.asgSub (.sub (.var 5) (.var 7)) (.var 10) (.var 12))
    (.cons (.asg (.nm 9) (.con (.bl true)))
    (.nil))) (.nil))
  (.nil)))
def l2_accepts : MSs := .cons (.asg (.nm 9) (.con (.bl false)))
  (.cons (.forE (.tp [10, 11]) (.enum (.val (.var 8))) l3_accepts)
  (.nil))
def l1_accepts : MSs := .cons (.asg (.nm 8) (.call "methods_taken" (.cons (.var 0) (.cons (.sub (.var 3) (.var 7)) (.nil)))))
  (.cons (.asg (.nm 9) (.con (.bl true)))
  (.cons (.whl (.var 9) l2_accepts)
  (.nil)))
def e1_accepts : ME := .bin .mul (.lst (.disp (.cons (.con (.int 0)) (.nil)))) (.bi .len (.att (.var 0) "tasks"))
def b_accepts : MSs := .cons (.ex (.call "check_book" (.cons (.var 0) (.cons (.con (.int 1)) (.nil)))))
  (.cons (.ex (.call "check_task" (.cons (.var 0) (.cons (.var 1) (.cons (.con (.int 2)) (.nil))))))
  (.cons (.ife (.or (.not (.call "is_string" (.cons (.var 0) (.cons (.var 2) (.nil))))) (.cmp .gt (.bi .len (.sub (.var 2) (.con (.int 1)))) (.glob "MOST_STRING_DEEDS"))) (.cons (.ret (.con (.bl false)))
    (.nil)) (.nil))
  (.cons (.asg (.tp [3, 4]) (.var 2))
  (.cons (.asg (.nm 5) (.lst (.comp [6] (.nm 6) (.l (.val (.var 3))) (.no) e1_accepts)))
  (.cons (.forE (.nm 7) (.rrng (.bi .len (.var 3))) l1_accepts)
  (.cons (.ret (.cmp .eq (.bin .band (.bin .shr (.sub (.sub (.var 5) (.con (.int 0))) (.var 1)) (.bi .len (.var 4))) (.con (.int 1))) (.con (.int 1))))
  (.nil)))))))
def r_accepts : FRow := ⟨"accepts", "accepts", "accepts", (top 32), ["book", "task", "string", "facts", "deeds", "ends", "_", "at", "taken", "grown", "number", "rows", "reached", "steps"], ["book", "task", "string"], b_accepts, true⟩
def l1__law_so : MSs := .cons (.ife (.not (.call "_law_so" (.cons (.sub (.var 0) (.var 2)) (.cons (.sub (.var 1) (.var 2)) (.nil))))) (.cons (.ret (.con (.bl false)))
    (.nil)) (.nil))
  (.nil)
def b__law_so : MSs := .cons (.ife (.cmp .isN (.var 1) (.con .non)) (.cons (.ret (.cmp .isN (.var 0) (.con .non)))
    (.nil)) (.nil))
  (.cons (.ife (.isi (.var 1) [.tuple]) (.cons (.ife (.or (.not (.isi (.var 0) [.tuple])) (.cmp .ne (.bi .len (.var 0)) (.bi .len (.var 1)))) (.cons (.ret (.con (.bl false)))
      (.nil)) (.nil))
    (.cons (.forE (.nm 2) (.rng1 (.bi .len (.var 1))) l1__law_so)
    (.cons (.ret (.con (.bl true)))
    (.nil)))) (.nil))
  (.cons (.ife (.or (.isi (.var 1) [.bool]) (.isi (.var 0) [.bool])) (.cons (.ret (.and (.isi (.var 1) [.bool]) (.and (.isi (.var 0) [.bool]) (.cmp .eq (.var 0) (.var 1)))))
    (.nil)) (.nil))
  (.cons (.ife (.isi (.var 1) [.int]) (.cons (.ret (.and (.isi (.var 0) [.int]) (.cmp .eq (.var 0) (.var 1))))
    (.nil)) (.nil))
  (.cons (.ret (.and (.isi (.var 1) [.str]) (.and (.isi (.var 0) [.str]) (.cmp .eq (.var 0) (.var 1)))))
  (.nil)))))
def r__law_so : FRow := ⟨"_law_so", "_law_so", "_law_so", (top 34), ["found", "meant", "k"], ["found", "meant"], b__law_so, true⟩
def l2__law_numbers : MSs := .cons (.ife (.cmp .eq (.var 3) (.con (.int 0))) (.cons (.brk)
    (.nil)) (.nil))
  (.cons (.ex (.mt .append (.var 1) (.cons (.bin .mod (.bi .int (.var 3)) (.con (.int 997))) (.nil))))
  (.cons (.asg (.nm 3) (.bin .fdiv (.var 3) (.con (.int 997))))
  (.nil)))
def l3__law_numbers : MSs := .cons (.asg (.nm 5) (.bin .mod (.bi .int (.bin .add (.bin .add (.bin .mul (.var 2) (.con (.int 48271))) (.bin .mul (.var 4) (.con (.int 69621)))) (.con (.int 11)))) (.con (.int 2147483647))))
  (.cons (.ex (.mt .append (.var 1) (.cons (.bin .mod (.bi .int (.bin .add (.bin .mul (.var 5) (.con (.int 16807))) (.var 4))) (.con (.int 2147483629))) (.nil))))
  (.nil))
def l1__law_numbers : MSs := .cons (.ife (.cmp .ge (.var 2) (.bin .pow (.con (.int 10)) (.con (.int 18)))) (.cons (.asg (.nm 3) (.var 2))
    (.cons (.forE (.nm 4) (.rng1 (.con (.int 60))) l2__law_numbers)
    (.nil))) (.cons (.forE (.nm 4) (.rng1 (.con (.int 4))) l3__law_numbers)
    (.nil)))
  (.nil)
def b__law_numbers : MSs := .cons (.asg (.nm 1) (.lst (.disp (.nil))))
  (.cons (.forE (.nm 2) (.l (.val (.sl (.var 0) (.no) (.so (.con (.int 63)))))) l1__law_numbers)
  (.cons (.ife (.cmp .eq (.bi .len (.var 1)) (.con (.int 0))) (.cons (.ex (.mt .append (.var 1) (.cons (.con (.int 0)) (.nil))))
    (.nil)) (.nil))
  (.cons (.ret (.var 1))
  (.nil))))
def r__law_numbers : FRow := ⟨"_law_numbers", "_law_numbers", "_law_numbers", (top 35), ["script", "row", "cell", "left", "k", "mixed"], ["script"], b__law_numbers, true⟩
def b__law_draw : MSs := .cons (.ife (.cmp .lt (.var 1) (.bi .len (.var 0))) (.cons (.ret (.bin .mod (.bi .int (.sub (.var 0) (.var 1))) (.var 2)))
    (.nil)) (.nil))
  (.cons (.asg (.nm 3) (.bin .mod (.bi .int (.bin .add (.bin .add (.bin .mul (.sub (.var 0) (.bin .mod (.bi .int (.var 1)) (.bi .len (.var 0)))) (.con (.int 40692))) (.bin .mul (.var 1) (.con (.int 7919)))) (.con (.int 3)))) (.con (.int 2147483399))))
  (.cons (.ret (.bin .mod (.bi .int (.bin .mod (.bi .int (.bin .add (.bin .mul (.var 3) (.con (.int 48271))) (.var 1))) (.con (.int 2147483647)))) (.var 2)))
  (.nil)))
def r__law_draw : FRow := ⟨"_law_draw", "_law_draw", "_law_draw", (top 36), ["row", "at", "limit", "mixed"], ["row", "at", "limit"], b__law_draw, true⟩
def b__law_take : MSs := .cons (.asgSub (.var 1) (.con (.int 0)) (.bin .add (.sub (.var 1) (.con (.int 0))) (.con (.int 1))))
  (.cons (.ret (.call "_law_draw" (.cons (.var 0) (.cons (.bin .sub (.sub (.var 1) (.con (.int 0))) (.con (.int 1))) (.cons (.var 2) (.nil))))))
  (.nil))
def r__law_take : FRow := ⟨"_law_take", "_law_take", "_law_take", (top 37), ["row", "spot", "limit"], ["row", "spot", "limit"], b__law_take, true⟩
def e1__law_loose : ME := .call "_law_loose" (.cons (.var 3) (.cons (.bin .add (.var 1) (.con (.int 1))) (.nil)))
def b__law_loose : MSs := .cons (.ife (.isi (.var 0) [.tuple]) (.cons (.asg (.nm 2) (.lst (.comp [3] (.nm 3) (.l (.val (.var 0))) (.no) e1__law_loose)))
    (.cons (.ret (.ite (.cmp .eq (.bin .mod (.bi .int (.var 1)) (.con (.int 2))) (.con (.int 0))) (.var 2) (.tupOf (.val (.var 2)))))
    (.nil))) (.nil))
  (.cons (.ret (.var 0))
  (.nil))
def r__law_loose : FRow := ⟨"_law_loose", "_law_loose", "_law_loose", (top 38), ["value", "turn", "made", "one"], ["value", "turn"], b__law_loose, true⟩
def b__law_set : MSs := .cons (.asg (.nm 3) (.lst (.copy (.val (.var 0)))))
  (.cons (.asgSub (.var 3) (.var 1) (.var 2))
  (.cons (.ret (.tupOf (.val (.var 3))))
  (.nil)))
def r__law_set : FRow := ⟨"_law_set", "_law_set", "_law_set", (top 39), ["values", "at", "value", "made"], ["values", "at", "value"], b__law_set, true⟩
def l1__law_cond : MSs := .cons (.asg (.nm 5) (.call "_law_take" (.cons (.var 0) (.cons (.var 1) (.cons (.con (.int 5)) (.nil))))))
  (.cons (.ife (.cmp .gt (.var 5) (.con (.int 2))) (.cons (.ex (.mt .append (.var 3) (.cons (.tup (.cons (.var 4) (.cons (.cmp .eq (.var 5) (.con (.int 3))) (.nil)))) (.nil))))
    (.nil)) (.nil))
  (.nil))
def b__law_cond : MSs := .cons (.asg (.nm 3) (.lst (.disp (.nil))))
  (.cons (.forE (.nm 4) (.rng1 (.var 2)) l1__law_cond)
  (.cons (.ret (.tupOf (.val (.var 3))))
  (.nil)))
def r__law_cond : FRow := ⟨"_law_cond", "_law_cond", "_law_cond", (top 40), ["row", "spot", "facts", "made", "k", "style"], ["row", "spot", "facts"], b__law_cond, true⟩
def l1__law_method : MSs := .cons (.ife (.cmp .lt (.call "_law_take" (.cons (.var 0) (.cons (.var 1) (.cons (.con (.int 5)) (.nil))))) (.con (.int 3))) (.cons (.ex (.mt .append (.var 5) (.cons (.tup (.cons (.con (.str "deed")) (.cons (.call "_law_take" (.cons (.var 0) (.cons (.var 1) (.cons (.sub (.var 2) (.con (.int 1))) (.nil))))) (.nil)))) (.nil))))
    (.nil)) (.cons (.asg (.nm 8) (.con (.int 0)))
    (.cons (.ife (.var 4) (.cons (.asg (.nm 8) (.bin .sub (.var 3) (.bin .mod (.bi .int (.var 3)) (.con (.int 2)))))
      (.cons (.ife (.cmp .lt (.var 7) (.bin .sub (.var 6) (.con (.int 1)))) (.cons (.asg (.nm 8) (.bin .add (.var 8) (.con (.int 2))))
        (.nil)) (.nil))
      (.nil))) (.nil))
    (.cons (.ife (.cmp .lt (.var 8) (.sub (.var 2) (.con (.int 2)))) (.cons (.ex (.mt .append (.var 5) (.cons (.tup (.cons (.con (.str "task")) (.cons (.bin .add (.var 8) (.call "_law_take" (.cons (.var 0) (.cons (.var 1) (.cons (.bin .sub (.sub (.var 2) (.con (.int 2))) (.var 8)) (.nil)))))) (.nil)))) (.nil))))
      (.nil)) (.nil))
    (.nil)))))
  (.nil)
def b__law_method : MSs := .cons (.asg (.nm 5) (.lst (.disp (.nil))))
  (.cons (.asg (.nm 6) (.subL (.mk' (.disp (.cons (.con (.int 0)) (.cons (.con (.int 1)) (.cons (.con (.int 1)) (.cons (.con (.int 2)) (.cons (.con (.int 2)) (.cons (.con (.int 3)) (.cons (.con (.int 4)) (.cons (.con (.int 5)) (.nil))))))))))) (.call "_law_take" (.cons (.var 0) (.cons (.var 1) (.cons (.con (.int 8)) (.nil)))))))
  (.cons (.forE (.nm 7) (.rng1 (.var 6)) l1__law_method)
  (.cons (.ret (.tup (.cons (.call "_law_cond" (.cons (.var 0) (.cons (.var 1) (.cons (.sub (.var 2) (.con (.int 0))) (.nil))))) (.cons (.tupOf (.val (.var 5))) (.nil)))))
  (.nil))))
def r__law_method : FRow := ⟨"_law_method", "_law_method", "_law_method", (top 41), ["row", "spot", "book", "own", "tails", "steps", "count", "k", "low"], ["row", "spot", "book", "own", "tails"], b__law_method, true⟩
def e1__law_book : ME := .call "_law_method" (.cons (.var 0) (.cons (.var 1) (.cons (.var 7) (.cons (.var 9) (.cons (.var 6) (.nil))))))
def l1__law_book : MSs := .cons (.ex (.mt .append (.var 8) (.cons (.tupOf (.mk' (.comp [10] (.nm 10) (.rng1 (.call "_law_take" (.cons (.var 0) (.cons (.var 1) (.cons (.bin .add (.var 5) (.con (.int 1))) (.nil)))))) (.no) e1__law_book))) (.nil))))
  (.nil)
def b__law_book : MSs := .cons (.asg (.nm 7) (.tup (.cons (.var 2) (.cons (.var 3) (.cons (.var 4) (.nil))))))
  (.cons (.asg (.nm 8) (.lst (.disp (.nil))))
  (.cons (.forE (.nm 9) (.rng1 (.var 4)) l1__law_book)
  (.cons (.ife (.and (.cmp .eq (.bi .len (.sub (.var 8) (.con (.int 0)))) (.con (.int 0))) (.cmp .gt (.call "_law_take" (.cons (.var 0) (.cons (.var 1) (.cons (.con (.int 4)) (.nil))))) (.con (.int 0)))) (.cons (.asgSub (.var 8) (.con (.int 0)) (.tup (.cons (.call "_law_method" (.cons (.var 0) (.cons (.var 1) (.cons (.var 7) (.cons (.con (.int 0)) (.cons (.var 6) (.nil))))))) (.nil))))
    (.nil)) (.nil))
  (.cons (.ret (.tup (.cons (.var 2) (.cons (.var 3) (.cons (.tupOf (.val (.var 8))) (.nil))))))
  (.nil)))))
def r__law_book : FRow := ⟨"_law_book", "_law_book", "_law_book", (top 42), ["row", "spot", "facts", "deeds", "tasks", "many", "tails", "sizes", "made", "own", "k"], ["row", "spot", "facts", "deeds", "tasks", "many", "tails"], b__law_book, true⟩
def b__law_book_of : MSs := .cons (.ret (.new "Book" (.cons (.sub (.var 0) (.con (.int 0))) (.cons (.sub (.var 0) (.con (.int 1))) (.cons (.call "_law_loose" (.cons (.sub (.var 0) (.con (.int 2))) (.cons (.var 1) (.nil)))) (.nil))))))
  (.nil)
def r__law_book_of : FRow := ⟨"_law_book_of", "_law_book_of", "_law_book_of", (top 43), ["book", "loose"], ["book", "loose"], b__law_book_of, true⟩
def l1__law_true : MSs := .cons (.ife (.cmp .ne (.sub (.var 1) (.sub (.var 2) (.con (.int 0)))) (.sub (.var 2) (.con (.int 1)))) (.cons (.ret (.con (.bl false)))
    (.nil)) (.nil))
  (.nil)
def b__law_true : MSs := .cons (.forE (.nm 2) (.l (.val (.var 0))) l1__law_true)
  (.cons (.ret (.con (.bl true)))
  (.nil))
def r__law_true : FRow := ⟨"_law_true", "_law_true", "_law_true", (top 44), ["cond", "facts", "pair"], ["cond", "facts"], b__law_true, true⟩
def l1__law_open : MSs := .cons (.ife (.call "_law_true" (.cons (.sub (.sub (.sub (.sub (.var 0) (.con (.int 2))) (.var 2)) (.var 5)) (.con (.int 0))) (.cons (.sub (.sub (.var 1) (.con (.int 1))) (.var 3)) (.nil)))) (.cons (.ex (.mt .append (.var 4) (.cons (.var 5) (.nil))))
    (.nil)) (.nil))
  (.nil)
def b__law_open : MSs := .cons (.asg (.nm 4) (.lst (.disp (.nil))))
  (.cons (.forE (.nm 5) (.rng1 (.bi .len (.sub (.sub (.var 0) (.con (.int 2))) (.var 2)))) l1__law_open)
  (.cons (.ret (.var 4))
  (.nil)))
def r__law_open : FRow := ⟨"_law_open", "_law_open", "_law_open", (top 45), ["book", "world", "task", "state", "made", "k"], ["book", "world", "task", "state"], b__law_open, true⟩
def l3__law_follow : MSs := .cons (.ife (.cmp .notIn (.var 9) (.var 6)) (.cons (.ex (.mt .append (.var 6) (.cons (.var 9) (.nil))))
    (.nil)) (.nil))
  (.nil)
def l2__law_follow : MSs := .cons (.ife (.cmp .eq (.sub (.var 5) (.con (.int 0))) (.con (.str "deed"))) (.cons (.asg (.nm 8) (.ite (.cmp .notN (.sub (.sub (.sub (.var 0) (.con (.int 2))) (.var 7)) (.sub (.var 5) (.con (.int 1)))) (.con .non)) (.lst (.disp (.cons (.sub (.sub (.sub (.var 0) (.con (.int 2))) (.var 7)) (.sub (.var 5) (.con (.int 1)))) (.nil)))) (.lst (.disp (.nil)))))
    (.nil)) (.cons (.asg (.nm 8) (.sub (.var 1) (.tup (.cons (.sub (.var 5) (.con (.int 1))) (.cons (.var 7) (.nil))))))
    (.nil)))
  (.cons (.forE (.nm 9) (.l (.val (.var 8))) l3__law_follow)
  (.nil))
def l1__law_follow : MSs := .cons (.asg (.nm 6) (.lst (.disp (.nil))))
  (.cons (.forE (.nm 7) (.l (.val (.var 4))) l2__law_follow)
  (.cons (.asg (.nm 4) (.var 6))
  (.nil)))
def b__law_follow : MSs := .cons (.asg (.nm 4) (.lst (.copy (.val (.var 2)))))
  (.cons (.forE (.nm 5) (.l (.val (.var 3))) l1__law_follow)
  (.cons (.ret (.var 4))
  (.nil)))
def r__law_follow : FRow := ⟨"_law_follow", "_law_follow", "_law_follow", (top 46), ["world", "known", "states", "steps", "here", "step", "after", "state", "aims", "aim"], ["world", "known", "states", "steps"], b__law_follow, true⟩
def l4__law_ends : MSs := .cons (.ife (.cmp .notIn (.var 9) (.sub (.var 2) (.var 7))) (.cons (.ex (.mt .append (.sub (.var 2) (.var 7)) (.cons (.var 9) (.nil))))
    (.cons (.asg (.nm 6) (.con (.bl true)))
    (.nil))) (.nil))
  (.nil)
def l3__law_ends : MSs := .cons (.forE (.nm 9) (.l (.val (.call "_law_follow" (.cons (.var 1) (.cons (.var 2) (.cons (.lst (.disp (.cons (.sub (.var 7) (.con (.int 1))) (.nil)))) (.cons (.sub (.sub (.sub (.sub (.var 0) (.con (.int 2))) (.sub (.var 7) (.con (.int 0)))) (.var 8)) (.con (.int 1))) (.nil)))))))) l4__law_ends)
  (.nil)
def l2__law_ends : MSs := .cons (.forE (.nm 8) (.l (.val (.call "_law_open" (.cons (.var 0) (.cons (.var 1) (.cons (.sub (.var 7) (.con (.int 0))) (.cons (.sub (.var 7) (.con (.int 1))) (.nil)))))))) l3__law_ends)
  (.nil)
def l1__law_ends : MSs := .cons (.asg (.nm 6) (.con (.bl false)))
  (.cons (.forD (.nm 7) 2 l2__law_ends)
  (.cons (.ife (.not (.var 6)) (.cons (.brk)
    (.nil)) (.nil))
  (.nil)))
def l6__law_ends : MSs := .cons (.asgSub (.var 2) (.tup (.cons (.var 3) (.cons (.var 4) (.nil)))) (.lst (.disp (.nil))))
  (.nil)
def l5__law_ends : MSs := .cons (.forE (.nm 4) (.rng1 (.bi .len (.sub (.var 1) (.con (.int 1))))) l6__law_ends)
  (.nil)
def b__law_ends : MSs := .cons (.asg (.nm 2) (.dnewT))
  (.cons (.forE (.nm 3) (.rng1 (.bi .len (.sub (.var 0) (.con (.int 2))))) l5__law_ends)
  (.cons (.forE (.nm 5) (.rng1 (.bin .add (.bin .mul (.bi .len (.var 2)) (.bi .len (.sub (.var 1) (.con (.int 1))))) (.con (.int 2)))) l1__law_ends)
  (.cons (.ret (.var 2))
  (.nil))))
def r__law_ends : FRow := ⟨"_law_ends", "_law_ends", "_law_ends", (top 47), ["book", "world", "known", "task", "state", "turn", "moved", "pair", "k", "aim"], ["book", "world"], b__law_ends, true⟩
def e1__law_line_world : ME := .ite (.and (.cmp .lt (.var 4) (.bi .len (.var 2))) (.cmp .eq (.sub (.var 2) (.var 4)) (.var 5))) (.bin .add (.var 4) (.con (.int 1))) (.con .non)
def l1__law_line_world : MSs := .cons (.ex (.mt .append (.var 3) (.cons (.tupOf (.mk' (.comp [5] (.nm 5) (.rng1 (.sub (.var 0) (.con (.int 1)))) (.no) e1__law_line_world))) (.nil))))
  (.nil)
def b__law_line_world : MSs := .cons (.asg (.nm 3) (.lst (.disp (.nil))))
  (.cons (.forE (.nm 4) (.rng1 (.bi .len (.var 1))) l1__law_line_world)
  (.cons (.ret (.tup (.cons (.sub (.var 0) (.con (.int 0))) (.cons (.tupOf (.val (.var 1))) (.cons (.tupOf (.val (.var 3))) (.nil))))))
  (.nil)))
def r__law_line_world : FRow := ⟨"_law_line_world", "_law_line_world", "_law_line_world", (top 48), ["book", "facts", "deeds", "moves", "k", "j"], ["book", "facts", "deeds"], b__law_line_world, true⟩
def b__law_accepts : MSs := .cons (.asg (.nm 3) (.call "_law_line_world" (.cons (.var 0) (.cons (.sub (.var 2) (.con (.int 0))) (.cons (.sub (.var 2) (.con (.int 1))) (.nil))))))
  (.cons (.ret (.cmp .isIn (.bi .len (.sub (.var 2) (.con (.int 1)))) (.sub (.call "_law_ends" (.cons (.var 0) (.cons (.var 3) (.nil)))) (.tup (.cons (.var 1) (.cons (.con (.int 0)) (.nil)))))))
  (.nil))
def r__law_accepts : FRow := ⟨"_law_accepts", "_law_accepts", "_law_accepts", (top 49), ["book", "task", "string", "world"], ["book", "task", "string"], b__law_accepts, true⟩
def e2__law_drawn_string : ME := .cmp .eq (.call "_law_take" (.cons (.var 0) (.cons (.var 1) (.cons (.con (.int 2)) (.nil))))) (.con (.int 0))
def e1__law_drawn_string : ME := .tupOf (.mk' (.comp [7] (.nm 7) (.rng1 (.sub (.var 2) (.con (.int 0)))) (.no) e2__law_drawn_string))
def e3__law_drawn_string : ME := .call "_law_take" (.cons (.var 0) (.cons (.var 1) (.cons (.sub (.var 2) (.con (.int 1))) (.nil))))
def b__law_drawn_string : MSs := .cons (.asg (.nm 4) (.tupOf (.mk' (.comp [5] (.nm 5) (.rng1 (.call "_law_take" (.cons (.var 0) (.cons (.var 1) (.cons (.bin .add (.var 3) (.con (.int 1))) (.nil)))))) (.no) e3__law_drawn_string))))
  (.cons (.asg (.nm 6) (.tupOf (.mk' (.comp [5] (.nm 5) (.rng1 (.bin .add (.bi .len (.var 4)) (.con (.int 1)))) (.no) e1__law_drawn_string))))
  (.cons (.ret (.tup (.cons (.var 6) (.cons (.var 4) (.nil)))))
  (.nil)))
def r__law_drawn_string : FRow := ⟨"_law_drawn_string", "_law_drawn_string", "_law_drawn_string", (top 50), ["row", "spot", "book", "many", "deeds", "k", "facts", "j"], ["row", "spot", "book", "many"], b__law_drawn_string, true⟩
def i1_law : MSs := .cons (.asg (.nm 15) (.call "_law_take" (.cons (.var 1) (.cons (.var 2) (.cons (.var 12) (.nil))))))
    (.cons (.ife (.not (.call "_law_so" (.cons (.call "accepts" (.cons (.var 11) (.cons (.con (.int 0)) (.cons (.tup (.cons (.tupOf (.val (.var 13))) (.cons (.tupOf (.val (.call "_law_set" (.cons (.tupOf (.val (.var 14))) (.cons (.var 15) (.cons (.bin .sub (.con (.int 1)) (.sub (.var 14) (.var 15))) (.nil))))))) (.nil)))) (.nil))))) (.cons (.con (.bl false)) (.nil))))) (.cons (.ret (.con (.bl false)))
      (.nil)) (.nil))
    (.cons (.ife (.and (.cmp .eq (.bin .mod (.bi .int (.var 15)) (.con (.int 2))) (.con (.int 1))) (.not (.call "_law_so" (.cons (.call "accepts" (.cons (.var 11) (.cons (.con (.int 0)) (.cons (.tup (.cons (.call "_law_set" (.cons (.tupOf (.val (.var 13))) (.cons (.var 15) (.cons (.tup (.cons (.con (.bl false)) (.nil))) (.nil))))) (.cons (.tupOf (.val (.var 14))) (.nil)))) (.nil))))) (.cons (.con (.bl false)) (.nil)))))) (.cons (.ret (.con (.bl false)))
      (.nil)) (.nil))
    (.nil)))
def e3_law : ME := .bin .mod (.bi .int (.var 6)) (.con (.int 2))
def e4_law : ME := .tup (.cons (.cmp .eq (.bin .mod (.bi .int (.var 6)) (.con (.int 2))) (.con (.int 1))) (.nil))
def l1_law : MSs := .cons (.asg (.nm 7) (.call "_law_drawn_string" (.cons (.var 1) (.cons (.var 2) (.cons (.var 3) (.cons (.subL (.mk' (.disp (.cons (.con (.int 6)) (.cons (.con (.int 6)) (.cons (.con (.int 12)) (.nil)))))) (.call "_law_take" (.cons (.var 1) (.cons (.var 2) (.cons (.con (.int 3)) (.nil)))))) (.nil)))))))
  (.cons (.ife (.not (.call "_law_so" (.cons (.call "accepts" (.cons (.var 5) (.cons (.var 4) (.cons (.call "_law_loose" (.cons (.var 7) (.cons (.call "_law_take" (.cons (.var 1) (.cons (.var 2) (.cons (.con (.int 2)) (.nil))))) (.nil)))) (.nil))))) (.cons (.call "_law_accepts" (.cons (.var 3) (.cons (.var 4) (.cons (.var 7) (.nil))))) (.nil))))) (.cons (.ret (.con (.bl false)))
    (.nil)) (.nil))
  (.nil))
def b_law : MSs := .cons (.asg (.nm 1) (.call "_law_numbers" (.cons (.var 0) (.nil))))
  (.cons (.asg (.nm 2) (.lst (.disp (.cons (.con (.int 0)) (.nil)))))
  (.cons (.asg (.nm 3) (.call "_law_book" (.cons (.var 1) (.cons (.var 2) (.cons (.call "_law_take" (.cons (.var 1) (.cons (.var 2) (.cons (.con (.int 3)) (.nil))))) (.cons (.bin .add (.con (.int 1)) (.call "_law_take" (.cons (.var 1) (.cons (.var 2) (.cons (.con (.int 3)) (.nil)))))) (.cons (.bin .add (.con (.int 1)) (.call "_law_take" (.cons (.var 1) (.cons (.var 2) (.cons (.con (.int 4)) (.nil)))))) (.cons (.con (.int 3)) (.cons (.con (.bl false)) (.nil))))))))))
  (.cons (.asg (.nm 4) (.call "_law_take" (.cons (.var 1) (.cons (.var 2) (.cons (.bi .len (.sub (.var 3) (.con (.int 2)))) (.nil))))))
  (.cons (.asg (.nm 5) (.call "_law_book_of" (.cons (.var 3) (.cons (.con (.int 0)) (.nil)))))
  (.cons (.forE (.nm 6) (.rng1 (.con (.int 4))) l1_law)
  (.cons (.asg (.nm 8) (.tupOf (.mk' (.comp [9] (.nm 9) (.rng1 (.sub (.var 3) (.con (.int 0)))) (.no) (.con (.bl false))))))
  (.cons (.asg (.nm 10) (.lst (.disp (.cons (.con .non) (.cons (.con (.int 5)) (.cons (.tup (.nil)) (.cons (.tup (.cons (.tup (.cons (.var 8) (.nil))) (.nil))) (.cons (.tup (.cons (.tup (.cons (.var 8) (.nil))) (.cons (.tup (.cons (.con (.int 0)) (.nil))) (.nil)))) (.cons (.tup (.cons (.tup (.cons (.var 8) (.cons (.var 8) (.nil)))) (.cons (.tup (.nil)) (.nil)))) (.cons (.tup (.cons (.tup (.cons (.var 8) (.cons (.var 8) (.nil)))) (.cons (.tup (.cons (.sub (.var 3) (.con (.int 1))) (.nil))) (.nil)))) (.cons (.tup (.cons (.tup (.cons (.var 8) (.cons (.var 8) (.nil)))) (.cons (.tup (.cons (.con (.bl true)) (.nil))) (.nil)))) (.nil))))))))))))
  (.cons (.asg (.nm 10) (.bin .add (.var 10) (.lst (.disp (.cons (.tup (.cons (.tup (.cons (.bin .add (.var 8) (.tup (.cons (.con (.bl true)) (.nil)))) (.nil))) (.cons (.tup (.nil)) (.nil)))) (.cons (.tup (.cons (.tup (.cons (.con .non) (.nil))) (.cons (.tup (.nil)) (.nil)))) (.cons (.tup (.cons (.tup (.cons (.var 8) (.nil))) (.cons (.con .non) (.nil)))) (.cons (.tup (.cons (.tup (.cons (.var 8) (.nil))) (.cons (.tup (.nil)) (.cons (.tup (.nil)) (.nil))))) (.nil)))))))))
  (.cons (.ife (.not (.call "_law_so" (.cons (.call "accepts" (.cons (.var 5) (.cons (.var 4) (.cons (.sub (.var 10) (.call "_law_take" (.cons (.var 1) (.cons (.var 2) (.cons (.con (.int 12)) (.nil)))))) (.nil))))) (.cons (.con (.bl false)) (.nil))))) (.cons (.ret (.con (.bl false)))
    (.nil)) (.nil))
  (.cons (.asg (.nm 11) (.new "Book" (.cons (.con (.int 1)) (.cons (.con (.int 2)) (.cons (.tup (.cons (.tup (.cons (.tup (.cons (.tup (.nil)) (.cons (.tup (.cons (.tup (.cons (.con (.str "deed")) (.cons (.con (.int 0)) (.nil)))) (.cons (.tup (.cons (.con (.str "task")) (.cons (.con (.int 1)) (.nil)))) (.nil)))) (.nil)))) (.cons (.tup (.cons (.tup (.nil)) (.cons (.tup (.nil)) (.nil)))) (.nil)))) (.cons (.tup (.cons (.tup (.cons (.tup (.cons (.tup (.cons (.con (.int 0)) (.cons (.con (.bl true)) (.nil)))) (.nil))) (.cons (.tup (.cons (.tup (.cons (.con (.str "deed")) (.cons (.con (.int 1)) (.nil)))) (.cons (.tup (.cons (.con (.str "task")) (.cons (.con (.int 0)) (.nil)))) (.nil)))) (.nil)))) (.nil))) (.nil)))) (.nil))))))
  (.cons (.asg (.nm 12) (.call "_law_take" (.cons (.var 1) (.cons (.var 2) (.cons (.con (.int 42)) (.nil))))))
  (.cons (.asg (.nm 13) (.lst (.comp [6] (.nm 6) (.rng1 (.bin .add (.var 12) (.con (.int 1)))) (.no) e4_law)))
  (.cons (.asg (.nm 14) (.lst (.comp [6] (.nm 6) (.rng1 (.var 12)) (.no) e3_law)))
  (.cons (.ife (.not (.call "_law_so" (.cons (.call "accepts" (.cons (.var 11) (.cons (.con (.int 0)) (.cons (.tup (.cons (.tupOf (.val (.var 13))) (.cons (.tupOf (.val (.var 14))) (.nil)))) (.nil))))) (.cons (.and (.cmp .le (.var 12) (.con (.int 40))) (.cmp .eq (.bin .mod (.bi .int (.var 12)) (.con (.int 2))) (.con (.int 0)))) (.nil))))) (.cons (.ret (.con (.bl false)))
    (.nil)) (.nil))
  (.cons (.ife (.cmp .gt (.var 12) (.con (.int 0))) (i1_law) (.nil))
  (.cons (.asg (.nm 16) (.bin .add (.con (.int 38)) (.call "_law_take" (.cons (.var 1) (.cons (.var 2) (.cons (.con (.int 5)) (.nil)))))))
  (.cons (.asg (.nm 17) (.new "Book" (.cons (.con (.int 0)) (.cons (.con (.int 1)) (.cons (.tup (.cons (.tup (.cons (.tup (.cons (.tup (.nil)) (.cons (.tup (.cons (.tup (.cons (.con (.str "deed")) (.cons (.con (.int 0)) (.nil)))) (.cons (.tup (.cons (.con (.str "task")) (.cons (.con (.int 0)) (.nil)))) (.nil)))) (.nil)))) (.cons (.tup (.cons (.tup (.nil)) (.cons (.tup (.nil)) (.nil)))) (.nil)))) (.nil))) (.nil))))))
  (.cons (.ret (.call "_law_so" (.cons (.call "accepts" (.cons (.var 17) (.cons (.con (.int 0)) (.cons (.tup (.cons (.tupOf (.mk' (.comp [6] (.nm 6) (.rng1 (.bin .add (.var 16) (.con (.int 1)))) (.no) (.tup (.nil))))) (.cons (.tupOf (.mk' (.comp [6] (.nm 6) (.rng1 (.var 16)) (.no) (.con (.int 0))))) (.nil)))) (.nil))))) (.cons (.cmp .le (.var 16) (.con (.int 40))) (.nil)))))
  (.nil)))))))))))))))))))
def r_law : FRow := ⟨"law", "law", "law", (top 51), ["script", "row", "spot", "book", "task", "made", "k", "string", "fine", "j", "odd", "half", "long", "facts", "deeds", "at", "many", "loop"], ["script"], b_law, true⟩
def q : Cq := ⟨(("is_integer" : Str) :: ("is_between" : Str) :: ("is_number" : Str) :: ("is_sequence" : Str) :: ("is_flags" : Str) :: ("is_condition" : Str) :: ("is_steps" : Str) :: ("is_method" : Str) :: ("is_task_list" : Str) :: ("method_copy" : Str) :: ("check_book" : Str) :: ("check_task" : Str) :: ("holds" : Str) :: ("methods_taken" : Str) :: ("is_string" : Str) :: ("ends_of_steps" : Str) :: ("accepts" : Str) :: ("_law_so" : Str) :: ("_law_numbers" : Str) :: ("_law_draw" : Str) :: ("_law_take" : Str) :: ("_law_loose" : Str) :: ("_law_set" : Str) :: ("_law_cond" : Str) :: ("_law_method" : Str) :: ("_law_book" : Str) :: ("_law_book_of" : Str) :: ("_law_true" : Str) :: ("_law_open" : Str) :: ("_law_follow" : Str) :: ("_law_ends" : Str) :: ("_law_line_world" : Str) :: ("_law_accepts" : Str) :: ("_law_drawn_string" : Str) :: ("law" : Str) :: []), (("Book" : Str) :: []), (("BadValue" : Str) :: ("BadMethod" : Str) :: []), (("MOST_FACTS" : Str) :: ("MOST_DEEDS" : Str) :: ("MOST_TASKS" : Str) :: ("MOST_METHODS" : Str) :: ("MOST_STEPS" : Str) :: ("MOST_STRING_DEEDS" : Str) :: []), (("__eq__" : Str) :: []), ([]), []⟩
def rows : List FRow := r_is_integer :: r_is_between :: r_is_number :: r_is_sequence :: r_is_flags :: r_is_condition :: r_is_steps :: r_is_method :: r_is_task_list :: r_method_copy :: r_Book___init__ :: r_Book_facts :: r_Book_deeds :: r_Book_tasks :: r_Book___eq__ :: r_check_book :: r_check_task :: r_holds :: r_methods_taken :: r_is_string :: r_ends_of_steps :: r_accepts :: r__law_so :: r__law_numbers :: r__law_draw :: r__law_take :: r__law_loose :: r__law_set :: r__law_cond :: r__law_method :: r__law_book :: r__law_book_of :: r__law_true :: r__law_open :: r__law_follow :: r__law_ends :: r__law_line_world :: r__law_accepts :: r__law_drawn_string :: r_law :: []
def clss : List CRow := [⟨"Book", some "Book.__init__", ["_facts", "_deeds", "_tasks"], [("facts", "Book.facts"), ("deeds", "Book.deeds"), ("tasks", "Book.tasks")], [("__eq__", "Book.__eq__")]⟩]
def x_BadValue : XRow := ⟨"BadValue", "__init__", "BadValue.__init__", (inClass (top 8) 0), ["self", "at"], ["self", "at"], ["at"]⟩
theorem ox_BadValue : x_BadValue.Ok := ⟨⟨rfl, rfl, rfl, by decide +kernel, rfl, by decide +kernel, by decide +kernel⟩, by kernel_rfl, rfl, by decide, by decide +kernel, by decide⟩
def x_BadMethod : XRow := ⟨"BadMethod", "__init__", "BadMethod.__init__", (inClass (top 9) 0), ["self", "task", "method"], ["self", "task", "method"], ["task", "method"]⟩
theorem ox_BadMethod : x_BadMethod.Ok := ⟨⟨rfl, rfl, rfl, by decide +kernel, rfl, by decide +kernel, by decide +kernel⟩, by kernel_rfl, rfl, by decide, by decide +kernel, by decide⟩
def xrs : List XRow := [x_BadValue, x_BadMethod]
def isaL : List (Str × Str) := [("BadValue", "BadValue"), ("BadMethod", "BadMethod")]
def tab : Tab := ⟨rows, clss, xrs, [], [("MOST_FACTS", (.int 4)), ("MOST_DEEDS", (.int 5)), ("MOST_TASKS", (.int 6)), ("MOST_METHODS", (.int 5)), ("MOST_STEPS", (.int 5)), ("MOST_STRING_DEEDS", (.int 40))], isaL, 1000, []⟩
theorem q_ok : tab.q = q := by kernel_rfl
theorem o_is_integer : r_is_integer.Ok q := ⟨⟨rfl, rfl, rfl, by decide +kernel, rfl, by decide +kernel, by decide +kernel⟩, by kernel_rfl⟩
theorem t_is_integer : BindTxt r_is_integer := fun _ _ _ _ _ _ us hl => match us, hl with | [_], _ => rfl
theorem o_is_between : r_is_between.Ok q := ⟨⟨rfl, rfl, rfl, by decide +kernel, rfl, by decide +kernel, by decide +kernel⟩, by kernel_rfl⟩
theorem t_is_between : BindTxt r_is_between := fun _ _ _ _ _ _ us hl => match us, hl with | [_, _, _], _ => rfl
theorem o_is_number : r_is_number.Ok q := ⟨⟨rfl, rfl, rfl, by decide +kernel, rfl, by decide +kernel, by decide +kernel⟩, by kernel_rfl⟩
theorem t_is_number : BindTxt r_is_number := fun _ _ _ _ _ _ us hl => match us, hl with | [_, _], _ => rfl
theorem o_is_sequence : r_is_sequence.Ok q := ⟨⟨rfl, rfl, rfl, by decide +kernel, rfl, by decide +kernel, by decide +kernel⟩, by kernel_rfl⟩
theorem t_is_sequence : BindTxt r_is_sequence := fun _ _ _ _ _ _ us hl => match us, hl with | [_], _ => rfl
theorem o_is_flags : r_is_flags.Ok q := ⟨⟨rfl, rfl, rfl, by decide +kernel, rfl, by decide +kernel, by decide +kernel⟩, by kernel_rfl⟩
theorem t_is_flags : BindTxt r_is_flags := fun _ _ _ _ _ _ us hl => match us, hl with | [_, _], _ => rfl
theorem o_is_condition : r_is_condition.Ok q := ⟨⟨rfl, rfl, rfl, by decide +kernel, rfl, by decide +kernel, by decide +kernel⟩, by kernel_rfl⟩
theorem t_is_condition : BindTxt r_is_condition := fun _ _ _ _ _ _ us hl => match us, hl with | [_, _], _ => rfl
theorem o_is_steps : r_is_steps.Ok q := ⟨⟨rfl, rfl, rfl, by decide +kernel, rfl, by decide +kernel, by decide +kernel⟩, by kernel_rfl⟩
theorem t_is_steps : BindTxt r_is_steps := fun _ _ _ _ _ _ us hl => match us, hl with | [_, _, _], _ => rfl
theorem o_is_method : r_is_method.Ok q := ⟨⟨rfl, rfl, rfl, by decide +kernel, rfl, by decide +kernel, by decide +kernel⟩, by kernel_rfl⟩
theorem t_is_method : BindTxt r_is_method := fun _ _ _ _ _ _ us hl => match us, hl with | [_, _, _, _], _ => rfl
theorem o_is_task_list : r_is_task_list.Ok q := ⟨⟨rfl, rfl, rfl, by decide +kernel, rfl, by decide +kernel, by decide +kernel⟩, by kernel_rfl⟩
theorem t_is_task_list : BindTxt r_is_task_list := fun _ _ _ _ _ _ us hl => match us, hl with | [_], _ => rfl
theorem o_method_copy : r_method_copy.Ok q := ⟨⟨rfl, rfl, rfl, by decide +kernel, rfl, by decide +kernel, by decide +kernel⟩, by kernel_rfl⟩
theorem t_method_copy : BindTxt r_method_copy := fun _ _ _ _ _ _ us hl => match us, hl with | [_], _ => rfl
theorem o_Book___init__ : r_Book___init__.Ok q := ⟨⟨rfl, rfl, rfl, by decide +kernel, rfl, by decide +kernel, by decide +kernel⟩, by kernel_rfl⟩
theorem t_Book___init__ : BindTxt r_Book___init__ := fun _ _ _ _ _ _ us hl => match us, hl with | [_, _, _, _], _ => rfl
theorem o_Book_facts : r_Book_facts.Ok q := ⟨⟨rfl, rfl, rfl, by decide +kernel, rfl, by decide +kernel, by decide +kernel⟩, by kernel_rfl⟩
theorem t_Book_facts : BindTxt r_Book_facts := fun _ _ _ _ _ _ us hl => match us, hl with | [_], _ => rfl
theorem o_Book_deeds : r_Book_deeds.Ok q := ⟨⟨rfl, rfl, rfl, by decide +kernel, rfl, by decide +kernel, by decide +kernel⟩, by kernel_rfl⟩
theorem t_Book_deeds : BindTxt r_Book_deeds := fun _ _ _ _ _ _ us hl => match us, hl with | [_], _ => rfl
theorem o_Book_tasks : r_Book_tasks.Ok q := ⟨⟨rfl, rfl, rfl, by decide +kernel, rfl, by decide +kernel, by decide +kernel⟩, by kernel_rfl⟩
theorem t_Book_tasks : BindTxt r_Book_tasks := fun _ _ _ _ _ _ us hl => match us, hl with | [_], _ => rfl
theorem o_Book___eq__ : r_Book___eq__.Ok q := ⟨⟨rfl, rfl, rfl, by decide +kernel, rfl, by decide +kernel, by decide +kernel⟩, by kernel_rfl⟩
theorem t_Book___eq__ : BindTxt r_Book___eq__ := fun _ _ _ _ _ _ us hl => match us, hl with | [_, _], _ => rfl
theorem o_check_book : r_check_book.Ok q := ⟨⟨rfl, rfl, rfl, by decide +kernel, rfl, by decide +kernel, by decide +kernel⟩, by kernel_rfl⟩
theorem t_check_book : BindTxt r_check_book := fun _ _ _ _ _ _ us hl => match us, hl with | [_, _], _ => rfl
theorem o_check_task : r_check_task.Ok q := ⟨⟨rfl, rfl, rfl, by decide +kernel, rfl, by decide +kernel, by decide +kernel⟩, by kernel_rfl⟩
theorem t_check_task : BindTxt r_check_task := fun _ _ _ _ _ _ us hl => match us, hl with | [_, _, _], _ => rfl
theorem o_holds : r_holds.Ok q := ⟨⟨rfl, rfl, rfl, by decide +kernel, rfl, by decide +kernel, by decide +kernel⟩, by kernel_rfl⟩
theorem t_holds : BindTxt r_holds := fun _ _ _ _ _ _ us hl => match us, hl with | [_, _], _ => rfl
theorem o_methods_taken : r_methods_taken.Ok q := ⟨⟨rfl, rfl, rfl, by decide +kernel, rfl, by decide +kernel, by decide +kernel⟩, by kernel_rfl⟩
theorem t_methods_taken : BindTxt r_methods_taken := fun _ _ _ _ _ _ us hl => match us, hl with | [_, _], _ => rfl
theorem o_is_string : r_is_string.Ok q := ⟨⟨rfl, rfl, rfl, by decide +kernel, rfl, by decide +kernel, by decide +kernel⟩, by kernel_rfl⟩
theorem t_is_string : BindTxt r_is_string := fun _ _ _ _ _ _ us hl => match us, hl with | [_, _], _ => rfl
theorem o_ends_of_steps : r_ends_of_steps.Ok q := ⟨⟨rfl, rfl, rfl, by decide +kernel, rfl, by decide +kernel, by decide +kernel⟩, by kernel_rfl⟩
theorem t_ends_of_steps : BindTxt r_ends_of_steps := fun _ _ _ _ _ _ us hl => match us, hl with | [_, _, _, _], _ => rfl
theorem o_accepts : r_accepts.Ok q := ⟨⟨rfl, rfl, rfl, by decide +kernel, rfl, by decide +kernel, by decide +kernel⟩, by kernel_rfl⟩
theorem t_accepts : BindTxt r_accepts := fun _ _ _ _ _ _ us hl => match us, hl with | [_, _, _], _ => rfl
theorem o__law_so : r__law_so.Ok q := ⟨⟨rfl, rfl, rfl, by decide +kernel, rfl, by decide +kernel, by decide +kernel⟩, by kernel_rfl⟩
theorem t__law_so : BindTxt r__law_so := fun _ _ _ _ _ _ us hl => match us, hl with | [_, _], _ => rfl
theorem o__law_numbers : r__law_numbers.Ok q := ⟨⟨rfl, rfl, rfl, by decide +kernel, rfl, by decide +kernel, by decide +kernel⟩, by kernel_rfl⟩
theorem t__law_numbers : BindTxt r__law_numbers := fun _ _ _ _ _ _ us hl => match us, hl with | [_], _ => rfl
theorem o__law_draw : r__law_draw.Ok q := ⟨⟨rfl, rfl, rfl, by decide +kernel, rfl, by decide +kernel, by decide +kernel⟩, by kernel_rfl⟩
theorem t__law_draw : BindTxt r__law_draw := fun _ _ _ _ _ _ us hl => match us, hl with | [_, _, _], _ => rfl
theorem o__law_take : r__law_take.Ok q := ⟨⟨rfl, rfl, rfl, by decide +kernel, rfl, by decide +kernel, by decide +kernel⟩, by kernel_rfl⟩
theorem t__law_take : BindTxt r__law_take := fun _ _ _ _ _ _ us hl => match us, hl with | [_, _, _], _ => rfl
theorem o__law_loose : r__law_loose.Ok q := ⟨⟨rfl, rfl, rfl, by decide +kernel, rfl, by decide +kernel, by decide +kernel⟩, by kernel_rfl⟩
theorem t__law_loose : BindTxt r__law_loose := fun _ _ _ _ _ _ us hl => match us, hl with | [_, _], _ => rfl
theorem o__law_set : r__law_set.Ok q := ⟨⟨rfl, rfl, rfl, by decide +kernel, rfl, by decide +kernel, by decide +kernel⟩, by kernel_rfl⟩
theorem t__law_set : BindTxt r__law_set := fun _ _ _ _ _ _ us hl => match us, hl with | [_, _, _], _ => rfl
theorem o__law_cond : r__law_cond.Ok q := ⟨⟨rfl, rfl, rfl, by decide +kernel, rfl, by decide +kernel, by decide +kernel⟩, by kernel_rfl⟩
theorem t__law_cond : BindTxt r__law_cond := fun _ _ _ _ _ _ us hl => match us, hl with | [_, _, _], _ => rfl
theorem o__law_method : r__law_method.Ok q := ⟨⟨rfl, rfl, rfl, by decide +kernel, rfl, by decide +kernel, by decide +kernel⟩, by kernel_rfl⟩
theorem t__law_method : BindTxt r__law_method := fun _ _ _ _ _ _ us hl => match us, hl with | [_, _, _, _, _], _ => rfl
theorem o__law_book : r__law_book.Ok q := ⟨⟨rfl, rfl, rfl, by decide +kernel, rfl, by decide +kernel, by decide +kernel⟩, by kernel_rfl⟩
theorem t__law_book : BindTxt r__law_book := fun _ _ _ _ _ _ us hl => match us, hl with | [_, _, _, _, _, _, _], _ => rfl
theorem o__law_book_of : r__law_book_of.Ok q := ⟨⟨rfl, rfl, rfl, by decide +kernel, rfl, by decide +kernel, by decide +kernel⟩, by kernel_rfl⟩
theorem t__law_book_of : BindTxt r__law_book_of := fun _ _ _ _ _ _ us hl => match us, hl with | [_, _], _ => rfl
theorem o__law_true : r__law_true.Ok q := ⟨⟨rfl, rfl, rfl, by decide +kernel, rfl, by decide +kernel, by decide +kernel⟩, by kernel_rfl⟩
theorem t__law_true : BindTxt r__law_true := fun _ _ _ _ _ _ us hl => match us, hl with | [_, _], _ => rfl
theorem o__law_open : r__law_open.Ok q := ⟨⟨rfl, rfl, rfl, by decide +kernel, rfl, by decide +kernel, by decide +kernel⟩, by kernel_rfl⟩
theorem t__law_open : BindTxt r__law_open := fun _ _ _ _ _ _ us hl => match us, hl with | [_, _, _, _], _ => rfl
theorem o__law_follow : r__law_follow.Ok q := ⟨⟨rfl, rfl, rfl, by decide +kernel, rfl, by decide +kernel, by decide +kernel⟩, by kernel_rfl⟩
theorem t__law_follow : BindTxt r__law_follow := fun _ _ _ _ _ _ us hl => match us, hl with | [_, _, _, _], _ => rfl
theorem o__law_ends : r__law_ends.Ok q := ⟨⟨rfl, rfl, rfl, by decide +kernel, rfl, by decide +kernel, by decide +kernel⟩, by kernel_rfl⟩
theorem t__law_ends : BindTxt r__law_ends := fun _ _ _ _ _ _ us hl => match us, hl with | [_, _], _ => rfl
theorem o__law_line_world : r__law_line_world.Ok q := ⟨⟨rfl, rfl, rfl, by decide +kernel, rfl, by decide +kernel, by decide +kernel⟩, by kernel_rfl⟩
theorem t__law_line_world : BindTxt r__law_line_world := fun _ _ _ _ _ _ us hl => match us, hl with | [_, _, _], _ => rfl
theorem o__law_accepts : r__law_accepts.Ok q := ⟨⟨rfl, rfl, rfl, by decide +kernel, rfl, by decide +kernel, by decide +kernel⟩, by kernel_rfl⟩
theorem t__law_accepts : BindTxt r__law_accepts := fun _ _ _ _ _ _ us hl => match us, hl with | [_, _, _], _ => rfl
theorem o__law_drawn_string : r__law_drawn_string.Ok q := ⟨⟨rfl, rfl, rfl, by decide +kernel, rfl, by decide +kernel, by decide +kernel⟩, by kernel_rfl⟩
theorem t__law_drawn_string : BindTxt r__law_drawn_string := fun _ _ _ _ _ _ us hl => match us, hl with | [_, _, _, _], _ => rfl
theorem o_law : r_law.Ok q := ⟨⟨rfl, rfl, rfl, by decide +kernel, rfl, by decide +kernel, by decide +kernel⟩, by kernel_rfl⟩
theorem t_law : BindTxt r_law := fun _ _ _ _ _ _ us hl => match us, hl with | [_], _ => rfl
theorem reads : ∀ r ∈ tab.fns, r.Ok tab.q := by
  rw [q_ok]
  show ∀ r ∈ rows, r.Ok q
  unfold rows
  exact all_cons o_is_integer <| all_cons o_is_between <| all_cons o_is_number <| all_cons o_is_sequence <| all_cons o_is_flags <| all_cons o_is_condition <| all_cons o_is_steps <| all_cons o_is_method <| all_cons o_is_task_list <| all_cons o_method_copy <| all_cons o_Book___init__ <| all_cons o_Book_facts <| all_cons o_Book_deeds <| all_cons o_Book_tasks <| all_cons o_Book___eq__ <| all_cons o_check_book <| all_cons o_check_task <| all_cons o_holds <| all_cons o_methods_taken <| all_cons o_is_string <| all_cons o_ends_of_steps <| all_cons o_accepts <| all_cons o__law_so <| all_cons o__law_numbers <| all_cons o__law_draw <| all_cons o__law_take <| all_cons o__law_loose <| all_cons o__law_set <| all_cons o__law_cond <| all_cons o__law_method <| all_cons o__law_book <| all_cons o__law_book_of <| all_cons o__law_true <| all_cons o__law_open <| all_cons o__law_follow <| all_cons o__law_ends <| all_cons o__law_line_world <| all_cons o__law_accepts <| all_cons o__law_drawn_string <| all_cons o_law all_nil
@[irreducible] def G (n : Nat) : Gam := tab.gam n
theorem G_eq (n : Nat) : G n = tab.gam n := by unfold G; rfl
theorem G_w (n : Nat) : (G n).w = 1000 := by rw [G_eq]; cases n <;> kernel_rfl
theorem f_is_integer (n : Nat) (ds : List Mi.D) (μ : Mem) : (G (n + 1)).fn "is_integer" ds μ = runD (G n) ⟨1, 1, b_is_integer⟩ ds μ := by rw [G_eq, G_eq]; kernel_rfl
theorem f_is_between (n : Nat) (ds : List Mi.D) (μ : Mem) : (G (n + 1)).fn "is_between" ds μ = runD (G n) ⟨3, 3, b_is_between⟩ ds μ := by rw [G_eq, G_eq]; kernel_rfl
theorem f_is_number (n : Nat) (ds : List Mi.D) (μ : Mem) : (G (n + 1)).fn "is_number" ds μ = runD (G n) ⟨2, 2, b_is_number⟩ ds μ := by rw [G_eq, G_eq]; kernel_rfl
theorem f_is_sequence (n : Nat) (ds : List Mi.D) (μ : Mem) : (G (n + 1)).fn "is_sequence" ds μ = runD (G n) ⟨1, 1, b_is_sequence⟩ ds μ := by rw [G_eq, G_eq]; kernel_rfl
theorem f_is_flags (n : Nat) (ds : List Mi.D) (μ : Mem) : (G (n + 1)).fn "is_flags" ds μ = runD (G n) ⟨2, 3, b_is_flags⟩ ds μ := by rw [G_eq, G_eq]; kernel_rfl
theorem f_is_condition (n : Nat) (ds : List Mi.D) (μ : Mem) : (G (n + 1)).fn "is_condition" ds μ = runD (G n) ⟨2, 4, b_is_condition⟩ ds μ := by rw [G_eq, G_eq]; kernel_rfl
theorem f_is_steps (n : Nat) (ds : List Mi.D) (μ : Mem) : (G (n + 1)).fn "is_steps" ds μ = runD (G n) ⟨3, 5, b_is_steps⟩ ds μ := by rw [G_eq, G_eq]; kernel_rfl
theorem f_is_method (n : Nat) (ds : List Mi.D) (μ : Mem) : (G (n + 1)).fn "is_method" ds μ = runD (G n) ⟨4, 4, b_is_method⟩ ds μ := by rw [G_eq, G_eq]; kernel_rfl
theorem f_is_task_list (n : Nat) (ds : List Mi.D) (μ : Mem) : (G (n + 1)).fn "is_task_list" ds μ = runD (G n) ⟨1, 2, b_is_task_list⟩ ds μ := by rw [G_eq, G_eq]; kernel_rfl
theorem f_method_copy (n : Nat) (ds : List Mi.D) (μ : Mem) : (G (n + 1)).fn "method_copy" ds μ = runD (G n) ⟨1, 5, b_method_copy⟩ ds μ := by rw [G_eq, G_eq]; kernel_rfl
theorem f_Book___init__ (n : Nat) (ds : List Mi.D) (μ : Mem) : (G (n + 1)).fn "Book.__init__" ds μ = runD (G n) ⟨4, 10, b_Book___init__⟩ ds μ := by rw [G_eq, G_eq]; kernel_rfl
theorem f_Book_facts (n : Nat) (ds : List Mi.D) (μ : Mem) : (G (n + 1)).fn "Book.facts" ds μ = runD (G n) ⟨1, 1, b_Book_facts⟩ ds μ := by rw [G_eq, G_eq]; kernel_rfl
theorem f_Book_deeds (n : Nat) (ds : List Mi.D) (μ : Mem) : (G (n + 1)).fn "Book.deeds" ds μ = runD (G n) ⟨1, 1, b_Book_deeds⟩ ds μ := by rw [G_eq, G_eq]; kernel_rfl
theorem f_Book_tasks (n : Nat) (ds : List Mi.D) (μ : Mem) : (G (n + 1)).fn "Book.tasks" ds μ = runD (G n) ⟨1, 1, b_Book_tasks⟩ ds μ := by rw [G_eq, G_eq]; kernel_rfl
theorem f_Book___eq__ (n : Nat) (ds : List Mi.D) (μ : Mem) : (G (n + 1)).fn "Book.__eq__" ds μ = runD (G n) ⟨2, 2, b_Book___eq__⟩ ds μ := by rw [G_eq, G_eq]; kernel_rfl
theorem f_check_book (n : Nat) (ds : List Mi.D) (μ : Mem) : (G (n + 1)).fn "check_book" ds μ = runD (G n) ⟨2, 2, b_check_book⟩ ds μ := by rw [G_eq, G_eq]; kernel_rfl
theorem f_check_task (n : Nat) (ds : List Mi.D) (μ : Mem) : (G (n + 1)).fn "check_task" ds μ = runD (G n) ⟨3, 3, b_check_task⟩ ds μ := by rw [G_eq, G_eq]; kernel_rfl
theorem f_holds (n : Nat) (ds : List Mi.D) (μ : Mem) : (G (n + 1)).fn "holds" ds μ = runD (G n) ⟨2, 4, b_holds⟩ ds μ := by rw [G_eq, G_eq]; kernel_rfl
theorem f_methods_taken (n : Nat) (ds : List Mi.D) (μ : Mem) : (G (n + 1)).fn "methods_taken" ds μ = runD (G n) ⟨2, 5, b_methods_taken⟩ ds μ := by rw [G_eq, G_eq]; kernel_rfl
theorem f_is_string (n : Nat) (ds : List Mi.D) (μ : Mem) : (G (n + 1)).fn "is_string" ds μ = runD (G n) ⟨2, 6, b_is_string⟩ ds μ := by rw [G_eq, G_eq]; kernel_rfl
theorem f_ends_of_steps (n : Nat) (ds : List Mi.D) (μ : Mem) : (G (n + 1)).fn "ends_of_steps" ds μ = runD (G n) ⟨4, 9, b_ends_of_steps⟩ ds μ := by rw [G_eq, G_eq]; kernel_rfl
theorem f_accepts (n : Nat) (ds : List Mi.D) (μ : Mem) : (G (n + 1)).fn "accepts" ds μ = runD (G n) ⟨3, 14, b_accepts⟩ ds μ := by rw [G_eq, G_eq]; kernel_rfl
theorem f__law_so (n : Nat) (ds : List Mi.D) (μ : Mem) : (G (n + 1)).fn "_law_so" ds μ = runD (G n) ⟨2, 3, b__law_so⟩ ds μ := by rw [G_eq, G_eq]; kernel_rfl
theorem f__law_numbers (n : Nat) (ds : List Mi.D) (μ : Mem) : (G (n + 1)).fn "_law_numbers" ds μ = runD (G n) ⟨1, 6, b__law_numbers⟩ ds μ := by rw [G_eq, G_eq]; kernel_rfl
theorem f__law_draw (n : Nat) (ds : List Mi.D) (μ : Mem) : (G (n + 1)).fn "_law_draw" ds μ = runD (G n) ⟨3, 4, b__law_draw⟩ ds μ := by rw [G_eq, G_eq]; kernel_rfl
theorem f__law_take (n : Nat) (ds : List Mi.D) (μ : Mem) : (G (n + 1)).fn "_law_take" ds μ = runD (G n) ⟨3, 3, b__law_take⟩ ds μ := by rw [G_eq, G_eq]; kernel_rfl
theorem f__law_loose (n : Nat) (ds : List Mi.D) (μ : Mem) : (G (n + 1)).fn "_law_loose" ds μ = runD (G n) ⟨2, 4, b__law_loose⟩ ds μ := by rw [G_eq, G_eq]; kernel_rfl
theorem f__law_set (n : Nat) (ds : List Mi.D) (μ : Mem) : (G (n + 1)).fn "_law_set" ds μ = runD (G n) ⟨3, 4, b__law_set⟩ ds μ := by rw [G_eq, G_eq]; kernel_rfl
theorem f__law_cond (n : Nat) (ds : List Mi.D) (μ : Mem) : (G (n + 1)).fn "_law_cond" ds μ = runD (G n) ⟨3, 6, b__law_cond⟩ ds μ := by rw [G_eq, G_eq]; kernel_rfl
theorem f__law_method (n : Nat) (ds : List Mi.D) (μ : Mem) : (G (n + 1)).fn "_law_method" ds μ = runD (G n) ⟨5, 9, b__law_method⟩ ds μ := by rw [G_eq, G_eq]; kernel_rfl
theorem f__law_book (n : Nat) (ds : List Mi.D) (μ : Mem) : (G (n + 1)).fn "_law_book" ds μ = runD (G n) ⟨7, 11, b__law_book⟩ ds μ := by rw [G_eq, G_eq]; kernel_rfl
theorem f__law_book_of (n : Nat) (ds : List Mi.D) (μ : Mem) : (G (n + 1)).fn "_law_book_of" ds μ = runD (G n) ⟨2, 2, b__law_book_of⟩ ds μ := by rw [G_eq, G_eq]; kernel_rfl
theorem f__law_true (n : Nat) (ds : List Mi.D) (μ : Mem) : (G (n + 1)).fn "_law_true" ds μ = runD (G n) ⟨2, 3, b__law_true⟩ ds μ := by rw [G_eq, G_eq]; kernel_rfl
theorem f__law_open (n : Nat) (ds : List Mi.D) (μ : Mem) : (G (n + 1)).fn "_law_open" ds μ = runD (G n) ⟨4, 6, b__law_open⟩ ds μ := by rw [G_eq, G_eq]; kernel_rfl
theorem f__law_follow (n : Nat) (ds : List Mi.D) (μ : Mem) : (G (n + 1)).fn "_law_follow" ds μ = runD (G n) ⟨4, 10, b__law_follow⟩ ds μ := by rw [G_eq, G_eq]; kernel_rfl
theorem f__law_ends (n : Nat) (ds : List Mi.D) (μ : Mem) : (G (n + 1)).fn "_law_ends" ds μ = runD (G n) ⟨2, 10, b__law_ends⟩ ds μ := by rw [G_eq, G_eq]; kernel_rfl
theorem f__law_line_world (n : Nat) (ds : List Mi.D) (μ : Mem) : (G (n + 1)).fn "_law_line_world" ds μ = runD (G n) ⟨3, 6, b__law_line_world⟩ ds μ := by rw [G_eq, G_eq]; kernel_rfl
theorem f__law_accepts (n : Nat) (ds : List Mi.D) (μ : Mem) : (G (n + 1)).fn "_law_accepts" ds μ = runD (G n) ⟨3, 4, b__law_accepts⟩ ds μ := by rw [G_eq, G_eq]; kernel_rfl
theorem f__law_drawn_string (n : Nat) (ds : List Mi.D) (μ : Mem) : (G (n + 1)).fn "_law_drawn_string" ds μ = runD (G n) ⟨4, 8, b__law_drawn_string⟩ ds μ := by rw [G_eq, G_eq]; kernel_rfl
theorem f_law (n : Nat) (ds : List Mi.D) (μ : Mem) : (G (n + 1)).fn "law" ds μ = runD (G n) ⟨1, 18, b_law⟩ ds μ := by rw [G_eq, G_eq]; kernel_rfl
theorem cst_MOST_FACTS (n : Nat) : (G n).cst "MOST_FACTS" = some ((.int 4)) := by rw [G_eq]; cases n <;> kernel_rfl
theorem cst_MOST_DEEDS (n : Nat) : (G n).cst "MOST_DEEDS" = some ((.int 5)) := by rw [G_eq]; cases n <;> kernel_rfl
theorem cst_MOST_TASKS (n : Nat) : (G n).cst "MOST_TASKS" = some ((.int 6)) := by rw [G_eq]; cases n <;> kernel_rfl
theorem cst_MOST_METHODS (n : Nat) : (G n).cst "MOST_METHODS" = some ((.int 5)) := by rw [G_eq]; cases n <;> kernel_rfl
theorem cst_MOST_STEPS (n : Nat) : (G n).cst "MOST_STEPS" = some ((.int 5)) := by rw [G_eq]; cases n <;> kernel_rfl
theorem cst_MOST_STRING_DEEDS (n : Nat) : (G n).cst "MOST_STRING_DEEDS" = some ((.int 40)) := by rw [G_eq]; cases n <;> kernel_rfl
theorem init_Book (n : Nat) : (G n).init "Book" = some ("Book.__init__" : Str) := by rw [G_eq]; cases n <;> kernel_rfl
theorem fld_Book__facts (n : Nat) : (G n).fld "Book" "_facts" = true := by rw [G_eq]; cases n <;> kernel_rfl
theorem np_Book__facts (n : Nat) : (G n).prop "Book" "_facts" = none := by rw [G_eq]; cases n <;> kernel_rfl
theorem fld_Book__deeds (n : Nat) : (G n).fld "Book" "_deeds" = true := by rw [G_eq]; cases n <;> kernel_rfl
theorem np_Book__deeds (n : Nat) : (G n).prop "Book" "_deeds" = none := by rw [G_eq]; cases n <;> kernel_rfl
theorem fld_Book__tasks (n : Nat) : (G n).fld "Book" "_tasks" = true := by rw [G_eq]; cases n <;> kernel_rfl
theorem np_Book__tasks (n : Nat) : (G n).prop "Book" "_tasks" = none := by rw [G_eq]; cases n <;> kernel_rfl
theorem prop_Book_facts (n : Nat) : (G n).prop "Book" "facts" = some ("Book.facts" : Str) := by rw [G_eq]; cases n <;> kernel_rfl
theorem prop_Book_deeds (n : Nat) : (G n).prop "Book" "deeds" = some ("Book.deeds" : Str) := by rw [G_eq]; cases n <;> kernel_rfl
theorem prop_Book_tasks (n : Nat) : (G n).prop "Book" "tasks" = some ("Book.tasks" : Str) := by rw [G_eq]; cases n <;> kernel_rfl
theorem meth_Book___eq__ (n : Nat) : (G n).meth "Book" "__eq__" = some ("Book.__eq__" : Str) := by rw [G_eq]; cases n <;> kernel_rfl
theorem xi_BadValue (n : Nat) : (G n).xinit "BadValue" = some (["at"] : List Str) := by rw [G_eq]; cases n <;> kernel_rfl
theorem xi_BadMethod (n : Nat) : (G n).xinit "BadMethod" = some (["task", "method"] : List Str) := by rw [G_eq]; cases n <;> kernel_rfl
theorem kwb_ok : ∀ p ∈ tab.kwp, KwOne tab p := by
  show ∀ p ∈ ([] : List (Str × List Str)), KwOne tab p
  exact all_nil
theorem law_mem : r_law ∈ tab.fns := by
  show r_law ∈ rows
  unfold rows
  exact List.mem_cons_of_mem _ <| List.mem_cons_of_mem _ <| List.mem_cons_of_mem _ <| List.mem_cons_of_mem _ <| List.mem_cons_of_mem _ <| List.mem_cons_of_mem _ <| List.mem_cons_of_mem _ <| List.mem_cons_of_mem _ <| List.mem_cons_of_mem _ <| List.mem_cons_of_mem _ <| List.mem_cons_of_mem _ <| List.mem_cons_of_mem _ <| List.mem_cons_of_mem _ <| List.mem_cons_of_mem _ <| List.mem_cons_of_mem _ <| List.mem_cons_of_mem _ <| List.mem_cons_of_mem _ <| List.mem_cons_of_mem _ <| List.mem_cons_of_mem _ <| List.mem_cons_of_mem _ <| List.mem_cons_of_mem _ <| List.mem_cons_of_mem _ <| List.mem_cons_of_mem _ <| List.mem_cons_of_mem _ <| List.mem_cons_of_mem _ <| List.mem_cons_of_mem _ <| List.mem_cons_of_mem _ <| List.mem_cons_of_mem _ <| List.mem_cons_of_mem _ <| List.mem_cons_of_mem _ <| List.mem_cons_of_mem _ <| List.mem_cons_of_mem _ <| List.mem_cons_of_mem _ <| List.mem_cons_of_mem _ <| List.mem_cons_of_mem _ <| List.mem_cons_of_mem _ <| List.mem_cons_of_mem _ <| List.mem_cons_of_mem _ <| List.mem_cons_of_mem _ <| List.mem_cons_self
section
variable {K : PySem.W.Frag} {mg : Str → Option Value} {h : Heap}
theorem head (X : K.In h) (G : h.Ns mainGlobals mg) {f_is_integer f_is_between f_is_number f_is_sequence f_is_flags f_is_condition f_is_steps f_is_method f_is_task_list f_method_copy f_Book___init__ f_Book_facts f_Book_deeds f_Book_tasks f_Book___eq__ f_check_book f_check_task f_holds f_methods_taken f_is_string f_ends_of_steps f_accepts f__law_so f__law_numbers f__law_draw f__law_take f__law_loose f__law_set f__law_cond f__law_method f__law_book f__law_book_of f__law_true f__law_open f__law_follow f__law_ends f__law_line_world f__law_accepts f__law_drawn_string f_law C_Book P_Book_facts P_Book_deeds P_Book_tasks X_BadValue X_BadMethod fx_BadValue fx_BadMethod : Addr} {w_Book_facts : List Value} {w_Book_deeds : List Value} {w_Book_tasks : List Value} {oc_is_integer kV_is_integer dc_is_integer pm_is_integer cd_is_integer ct_is_integer : Value} {od_is_integer an_is_integer : Option Addr} {sl_is_integer : Array (Option Value)} {oc_is_between kV_is_between dc_is_between pm_is_between cd_is_between ct_is_between : Value} {od_is_between an_is_between : Option Addr} {sl_is_between : Array (Option Value)} {oc_is_number kV_is_number dc_is_number pm_is_number cd_is_number ct_is_number : Value} {od_is_number an_is_number : Option Addr} {sl_is_number : Array (Option Value)} {oc_is_sequence kV_is_sequence dc_is_sequence pm_is_sequence cd_is_sequence ct_is_sequence : Value} {od_is_sequence an_is_sequence : Option Addr} {sl_is_sequence : Array (Option Value)} {oc_is_flags kV_is_flags dc_is_flags pm_is_flags cd_is_flags ct_is_flags : Value} {od_is_flags an_is_flags : Option Addr} {sl_is_flags : Array (Option Value)} {oc_is_condition kV_is_condition dc_is_condition pm_is_condition cd_is_condition ct_is_condition : Value} {od_is_condition an_is_condition : Option Addr} {sl_is_condition : Array (Option Value)} {oc_is_steps kV_is_steps dc_is_steps pm_is_steps cd_is_steps ct_is_steps : Value} {od_is_steps an_is_steps : Option Addr} {sl_is_steps : Array (Option Value)} {oc_is_method kV_is_method dc_is_method pm_is_method cd_is_method ct_is_method : Value} {od_is_method an_is_method : Option Addr} {sl_is_method : Array (Option Value)} {oc_is_task_list kV_is_task_list dc_is_task_list pm_is_task_list cd_is_task_list ct_is_task_list : Value} {od_is_task_list an_is_task_list : Option Addr} {sl_is_task_list : Array (Option Value)} {oc_method_copy kV_method_copy dc_method_copy pm_method_copy cd_method_copy ct_method_copy : Value} {od_method_copy an_method_copy : Option Addr} {sl_method_copy : Array (Option Value)} {oc_Book___init__ kV_Book___init__ dc_Book___init__ pm_Book___init__ cd_Book___init__ ct_Book___init__ : Value} {od_Book___init__ an_Book___init__ : Option Addr} {sl_Book___init__ : Array (Option Value)} {oc_Book_facts kV_Book_facts dc_Book_facts pm_Book_facts cd_Book_facts ct_Book_facts : Value} {od_Book_facts an_Book_facts : Option Addr} {sl_Book_facts : Array (Option Value)} {oc_Book_deeds kV_Book_deeds dc_Book_deeds pm_Book_deeds cd_Book_deeds ct_Book_deeds : Value} {od_Book_deeds an_Book_deeds : Option Addr} {sl_Book_deeds : Array (Option Value)} {oc_Book_tasks kV_Book_tasks dc_Book_tasks pm_Book_tasks cd_Book_tasks ct_Book_tasks : Value} {od_Book_tasks an_Book_tasks : Option Addr} {sl_Book_tasks : Array (Option Value)} {oc_Book___eq__ kV_Book___eq__ dc_Book___eq__ pm_Book___eq__ cd_Book___eq__ ct_Book___eq__ : Value} {od_Book___eq__ an_Book___eq__ : Option Addr} {sl_Book___eq__ : Array (Option Value)} {oc_check_book kV_check_book dc_check_book pm_check_book cd_check_book ct_check_book : Value} {od_check_book an_check_book : Option Addr} {sl_check_book : Array (Option Value)} {oc_check_task kV_check_task dc_check_task pm_check_task cd_check_task ct_check_task : Value} {od_check_task an_check_task : Option Addr} {sl_check_task : Array (Option Value)} {oc_holds kV_holds dc_holds pm_holds cd_holds ct_holds : Value} {od_holds an_holds : Option Addr} {sl_holds : Array (Option Value)} {oc_methods_taken kV_methods_taken dc_methods_taken pm_methods_taken cd_methods_taken ct_methods_taken : Value} {od_methods_taken an_methods_taken : Option Addr} {sl_methods_taken : Array (Option Value)} {oc_is_string kV_is_string dc_is_string pm_is_string cd_is_string ct_is_string : Value} {od_is_string an_is_string : Option Addr} {sl_is_string : Array (Option Value)} {oc_ends_of_steps kV_ends_of_steps dc_ends_of_steps pm_ends_of_steps cd_ends_of_steps ct_ends_of_steps : Value} {od_ends_of_steps an_ends_of_steps : Option Addr} {sl_ends_of_steps : Array (Option Value)} {oc_accepts kV_accepts dc_accepts pm_accepts cd_accepts ct_accepts : Value} {od_accepts an_accepts : Option Addr} {sl_accepts : Array (Option Value)} {oc__law_so kV__law_so dc__law_so pm__law_so cd__law_so ct__law_so : Value} {od__law_so an__law_so : Option Addr} {sl__law_so : Array (Option Value)} {oc__law_numbers kV__law_numbers dc__law_numbers pm__law_numbers cd__law_numbers ct__law_numbers : Value} {od__law_numbers an__law_numbers : Option Addr} {sl__law_numbers : Array (Option Value)} {oc__law_draw kV__law_draw dc__law_draw pm__law_draw cd__law_draw ct__law_draw : Value} {od__law_draw an__law_draw : Option Addr} {sl__law_draw : Array (Option Value)} {oc__law_take kV__law_take dc__law_take pm__law_take cd__law_take ct__law_take : Value} {od__law_take an__law_take : Option Addr} {sl__law_take : Array (Option Value)} {oc__law_loose kV__law_loose dc__law_loose pm__law_loose cd__law_loose ct__law_loose : Value} {od__law_loose an__law_loose : Option Addr} {sl__law_loose : Array (Option Value)} {oc__law_set kV__law_set dc__law_set pm__law_set cd__law_set ct__law_set : Value} {od__law_set an__law_set : Option Addr} {sl__law_set : Array (Option Value)} {oc__law_cond kV__law_cond dc__law_cond pm__law_cond cd__law_cond ct__law_cond : Value} {od__law_cond an__law_cond : Option Addr} {sl__law_cond : Array (Option Value)} {oc__law_method kV__law_method dc__law_method pm__law_method cd__law_method ct__law_method : Value} {od__law_method an__law_method : Option Addr} {sl__law_method : Array (Option Value)} {oc__law_book kV__law_book dc__law_book pm__law_book cd__law_book ct__law_book : Value} {od__law_book an__law_book : Option Addr} {sl__law_book : Array (Option Value)} {oc__law_book_of kV__law_book_of dc__law_book_of pm__law_book_of cd__law_book_of ct__law_book_of : Value} {od__law_book_of an__law_book_of : Option Addr} {sl__law_book_of : Array (Option Value)} {oc__law_true kV__law_true dc__law_true pm__law_true cd__law_true ct__law_true : Value} {od__law_true an__law_true : Option Addr} {sl__law_true : Array (Option Value)} {oc__law_open kV__law_open dc__law_open pm__law_open cd__law_open ct__law_open : Value} {od__law_open an__law_open : Option Addr} {sl__law_open : Array (Option Value)} {oc__law_follow kV__law_follow dc__law_follow pm__law_follow cd__law_follow ct__law_follow : Value} {od__law_follow an__law_follow : Option Addr} {sl__law_follow : Array (Option Value)} {oc__law_ends kV__law_ends dc__law_ends pm__law_ends cd__law_ends ct__law_ends : Value} {od__law_ends an__law_ends : Option Addr} {sl__law_ends : Array (Option Value)} {oc__law_line_world kV__law_line_world dc__law_line_world pm__law_line_world cd__law_line_world ct__law_line_world : Value} {od__law_line_world an__law_line_world : Option Addr} {sl__law_line_world : Array (Option Value)} {oc__law_accepts kV__law_accepts dc__law_accepts pm__law_accepts cd__law_accepts ct__law_accepts : Value} {od__law_accepts an__law_accepts : Option Addr} {sl__law_accepts : Array (Option Value)} {oc__law_drawn_string kV__law_drawn_string dc__law_drawn_string pm__law_drawn_string cd__law_drawn_string ct__law_drawn_string : Value} {od__law_drawn_string an__law_drawn_string : Option Addr} {sl__law_drawn_string : Array (Option Value)} {oc_law kV_law dc_law pm_law cd_law ct_law : Value} {od_law an_law : Option Addr} {sl_law : Array (Option Value)} {oc_xBadValue kV_xBadValue dc_xBadValue pm_xBadValue cd_xBadValue ct_xBadValue : Value} {od_xBadValue an_xBadValue : Option Addr} {sl_xBadValue : Array (Option Value)} {oc_xBadMethod kV_xBadMethod dc_xBadMethod pm_xBadMethod cd_xBadMethod ct_xBadMethod : Value} {od_xBadMethod an_xBadMethod : Option Addr} {sl_xBadMethod : Array (Option Value)} {tk_MOST_FACTS : Tok} {tk_MOST_DEEDS : Tok} {tk_MOST_TASKS : Tok} {tk_MOST_METHODS : Tok} {tk_MOST_STEPS : Tok} {tk_MOST_STRING_DEEDS : Tok}
    (g_Book : PySem.W.nsIn K mainGlobals "Book" = some (some (.ref C_Book)))
    (pa_Book_facts : PySem.W.findIn K (.ref C_Book) "facts" = some (some (.ref P_Book_facts)))
    (pr_Book_facts : PySem.W.recIn K P_Book_facts "property" = some (.ref f_Book_facts :: w_Book_facts))
    (pg_Book_facts : PySem.W.specialIn K (.ref P_Book_facts) "__get__" = some (some (.builtin "property.__get__")))
    (pt_Book_facts : PySem.W.takesIn K (.ref P_Book_facts) = some true)
    (pa_Book_deeds : PySem.W.findIn K (.ref C_Book) "deeds" = some (some (.ref P_Book_deeds)))
    (pr_Book_deeds : PySem.W.recIn K P_Book_deeds "property" = some (.ref f_Book_deeds :: w_Book_deeds))
    (pg_Book_deeds : PySem.W.specialIn K (.ref P_Book_deeds) "__get__" = some (some (.builtin "property.__get__")))
    (pt_Book_deeds : PySem.W.takesIn K (.ref P_Book_deeds) = some true)
    (pa_Book_tasks : PySem.W.findIn K (.ref C_Book) "tasks" = some (some (.ref P_Book_tasks)))
    (pr_Book_tasks : PySem.W.recIn K P_Book_tasks "property" = some (.ref f_Book_tasks :: w_Book_tasks))
    (pg_Book_tasks : PySem.W.specialIn K (.ref P_Book_tasks) "__get__" = some (some (.builtin "property.__get__")))
    (pt_Book_tasks : PySem.W.takesIn K (.ref P_Book_tasks) = some true)
    (ni_Book : PySem.W.findIn K (.ref C_Book) "__init__" = some (some (.ref f_Book___init__)))
    (me_Book___eq__ : PySem.W.findIn K (.ref C_Book) "__eq__" = some (some (.ref f_Book___eq__)))
    (a_is_integer : PySem.W.nsIn K mainGlobals "is_integer" = some (some (.ref f_is_integer)))
    (l_is_integer : K.lookup f_is_integer = some ⟨oc_is_integer, od_is_integer, .func (PySem.W.fnOf r_is_integer.x r_is_integer.qual (defArgs r_is_integer.st) (defBody r_is_integer.st) (defScope r_is_integer.st) .none kV_is_integer dc_is_integer pm_is_integer an_is_integer cd_is_integer ct_is_integer), sl_is_integer⟩)
    (c_is_integer : PySem.W.codeIn K cd_is_integer r_is_integer.qual = true)
    (k_is_integer : PySem.W.keepIn K (.ref f_is_integer) = true)
    (a_is_between : PySem.W.nsIn K mainGlobals "is_between" = some (some (.ref f_is_between)))
    (l_is_between : K.lookup f_is_between = some ⟨oc_is_between, od_is_between, .func (PySem.W.fnOf r_is_between.x r_is_between.qual (defArgs r_is_between.st) (defBody r_is_between.st) (defScope r_is_between.st) .none kV_is_between dc_is_between pm_is_between an_is_between cd_is_between ct_is_between), sl_is_between⟩)
    (c_is_between : PySem.W.codeIn K cd_is_between r_is_between.qual = true)
    (k_is_between : PySem.W.keepIn K (.ref f_is_between) = true)
    (a_is_number : PySem.W.nsIn K mainGlobals "is_number" = some (some (.ref f_is_number)))
    (l_is_number : K.lookup f_is_number = some ⟨oc_is_number, od_is_number, .func (PySem.W.fnOf r_is_number.x r_is_number.qual (defArgs r_is_number.st) (defBody r_is_number.st) (defScope r_is_number.st) .none kV_is_number dc_is_number pm_is_number an_is_number cd_is_number ct_is_number), sl_is_number⟩)
    (c_is_number : PySem.W.codeIn K cd_is_number r_is_number.qual = true)
    (k_is_number : PySem.W.keepIn K (.ref f_is_number) = true)
    (a_is_sequence : PySem.W.nsIn K mainGlobals "is_sequence" = some (some (.ref f_is_sequence)))
    (l_is_sequence : K.lookup f_is_sequence = some ⟨oc_is_sequence, od_is_sequence, .func (PySem.W.fnOf r_is_sequence.x r_is_sequence.qual (defArgs r_is_sequence.st) (defBody r_is_sequence.st) (defScope r_is_sequence.st) .none kV_is_sequence dc_is_sequence pm_is_sequence an_is_sequence cd_is_sequence ct_is_sequence), sl_is_sequence⟩)
    (c_is_sequence : PySem.W.codeIn K cd_is_sequence r_is_sequence.qual = true)
    (k_is_sequence : PySem.W.keepIn K (.ref f_is_sequence) = true)
    (a_is_flags : PySem.W.nsIn K mainGlobals "is_flags" = some (some (.ref f_is_flags)))
    (l_is_flags : K.lookup f_is_flags = some ⟨oc_is_flags, od_is_flags, .func (PySem.W.fnOf r_is_flags.x r_is_flags.qual (defArgs r_is_flags.st) (defBody r_is_flags.st) (defScope r_is_flags.st) .none kV_is_flags dc_is_flags pm_is_flags an_is_flags cd_is_flags ct_is_flags), sl_is_flags⟩)
    (c_is_flags : PySem.W.codeIn K cd_is_flags r_is_flags.qual = true)
    (k_is_flags : PySem.W.keepIn K (.ref f_is_flags) = true)
    (a_is_condition : PySem.W.nsIn K mainGlobals "is_condition" = some (some (.ref f_is_condition)))
    (l_is_condition : K.lookup f_is_condition = some ⟨oc_is_condition, od_is_condition, .func (PySem.W.fnOf r_is_condition.x r_is_condition.qual (defArgs r_is_condition.st) (defBody r_is_condition.st) (defScope r_is_condition.st) .none kV_is_condition dc_is_condition pm_is_condition an_is_condition cd_is_condition ct_is_condition), sl_is_condition⟩)
    (c_is_condition : PySem.W.codeIn K cd_is_condition r_is_condition.qual = true)
    (k_is_condition : PySem.W.keepIn K (.ref f_is_condition) = true)
    (a_is_steps : PySem.W.nsIn K mainGlobals "is_steps" = some (some (.ref f_is_steps)))
    (l_is_steps : K.lookup f_is_steps = some ⟨oc_is_steps, od_is_steps, .func (PySem.W.fnOf r_is_steps.x r_is_steps.qual (defArgs r_is_steps.st) (defBody r_is_steps.st) (defScope r_is_steps.st) .none kV_is_steps dc_is_steps pm_is_steps an_is_steps cd_is_steps ct_is_steps), sl_is_steps⟩)
    (c_is_steps : PySem.W.codeIn K cd_is_steps r_is_steps.qual = true)
    (k_is_steps : PySem.W.keepIn K (.ref f_is_steps) = true)
    (a_is_method : PySem.W.nsIn K mainGlobals "is_method" = some (some (.ref f_is_method)))
    (l_is_method : K.lookup f_is_method = some ⟨oc_is_method, od_is_method, .func (PySem.W.fnOf r_is_method.x r_is_method.qual (defArgs r_is_method.st) (defBody r_is_method.st) (defScope r_is_method.st) .none kV_is_method dc_is_method pm_is_method an_is_method cd_is_method ct_is_method), sl_is_method⟩)
    (c_is_method : PySem.W.codeIn K cd_is_method r_is_method.qual = true)
    (k_is_method : PySem.W.keepIn K (.ref f_is_method) = true)
    (a_is_task_list : PySem.W.nsIn K mainGlobals "is_task_list" = some (some (.ref f_is_task_list)))
    (l_is_task_list : K.lookup f_is_task_list = some ⟨oc_is_task_list, od_is_task_list, .func (PySem.W.fnOf r_is_task_list.x r_is_task_list.qual (defArgs r_is_task_list.st) (defBody r_is_task_list.st) (defScope r_is_task_list.st) .none kV_is_task_list dc_is_task_list pm_is_task_list an_is_task_list cd_is_task_list ct_is_task_list), sl_is_task_list⟩)
    (c_is_task_list : PySem.W.codeIn K cd_is_task_list r_is_task_list.qual = true)
    (k_is_task_list : PySem.W.keepIn K (.ref f_is_task_list) = true)
    (a_method_copy : PySem.W.nsIn K mainGlobals "method_copy" = some (some (.ref f_method_copy)))
    (l_method_copy : K.lookup f_method_copy = some ⟨oc_method_copy, od_method_copy, .func (PySem.W.fnOf r_method_copy.x r_method_copy.qual (defArgs r_method_copy.st) (defBody r_method_copy.st) (defScope r_method_copy.st) .none kV_method_copy dc_method_copy pm_method_copy an_method_copy cd_method_copy ct_method_copy), sl_method_copy⟩)
    (c_method_copy : PySem.W.codeIn K cd_method_copy r_method_copy.qual = true)
    (k_method_copy : PySem.W.keepIn K (.ref f_method_copy) = true)
    (l_Book___init__ : K.lookup f_Book___init__ = some ⟨oc_Book___init__, od_Book___init__, .func (PySem.W.fnOf r_Book___init__.x r_Book___init__.qual (defArgs r_Book___init__.st) (defBody r_Book___init__.st) (defScope r_Book___init__.st) .none kV_Book___init__ dc_Book___init__ pm_Book___init__ an_Book___init__ cd_Book___init__ ct_Book___init__), sl_Book___init__⟩)
    (c_Book___init__ : PySem.W.codeIn K cd_Book___init__ r_Book___init__.qual = true)
    (k_Book___init__ : PySem.W.keepIn K (.ref f_Book___init__) = true)
    (l_Book_facts : K.lookup f_Book_facts = some ⟨oc_Book_facts, od_Book_facts, .func (PySem.W.fnOf r_Book_facts.x r_Book_facts.qual (defArgs r_Book_facts.st) (defBody r_Book_facts.st) (defScope r_Book_facts.st) .none kV_Book_facts dc_Book_facts pm_Book_facts an_Book_facts cd_Book_facts ct_Book_facts), sl_Book_facts⟩)
    (c_Book_facts : PySem.W.codeIn K cd_Book_facts r_Book_facts.qual = true)
    (k_Book_facts : PySem.W.keepIn K (.ref f_Book_facts) = true)
    (l_Book_deeds : K.lookup f_Book_deeds = some ⟨oc_Book_deeds, od_Book_deeds, .func (PySem.W.fnOf r_Book_deeds.x r_Book_deeds.qual (defArgs r_Book_deeds.st) (defBody r_Book_deeds.st) (defScope r_Book_deeds.st) .none kV_Book_deeds dc_Book_deeds pm_Book_deeds an_Book_deeds cd_Book_deeds ct_Book_deeds), sl_Book_deeds⟩)
    (c_Book_deeds : PySem.W.codeIn K cd_Book_deeds r_Book_deeds.qual = true)
    (k_Book_deeds : PySem.W.keepIn K (.ref f_Book_deeds) = true)
    (l_Book_tasks : K.lookup f_Book_tasks = some ⟨oc_Book_tasks, od_Book_tasks, .func (PySem.W.fnOf r_Book_tasks.x r_Book_tasks.qual (defArgs r_Book_tasks.st) (defBody r_Book_tasks.st) (defScope r_Book_tasks.st) .none kV_Book_tasks dc_Book_tasks pm_Book_tasks an_Book_tasks cd_Book_tasks ct_Book_tasks), sl_Book_tasks⟩)
    (c_Book_tasks : PySem.W.codeIn K cd_Book_tasks r_Book_tasks.qual = true)
    (k_Book_tasks : PySem.W.keepIn K (.ref f_Book_tasks) = true)
    (l_Book___eq__ : K.lookup f_Book___eq__ = some ⟨oc_Book___eq__, od_Book___eq__, .func (PySem.W.fnOf r_Book___eq__.x r_Book___eq__.qual (defArgs r_Book___eq__.st) (defBody r_Book___eq__.st) (defScope r_Book___eq__.st) .none kV_Book___eq__ dc_Book___eq__ pm_Book___eq__ an_Book___eq__ cd_Book___eq__ ct_Book___eq__), sl_Book___eq__⟩)
    (c_Book___eq__ : PySem.W.codeIn K cd_Book___eq__ r_Book___eq__.qual = true)
    (k_Book___eq__ : PySem.W.keepIn K (.ref f_Book___eq__) = true)
    (a_check_book : PySem.W.nsIn K mainGlobals "check_book" = some (some (.ref f_check_book)))
    (l_check_book : K.lookup f_check_book = some ⟨oc_check_book, od_check_book, .func (PySem.W.fnOf r_check_book.x r_check_book.qual (defArgs r_check_book.st) (defBody r_check_book.st) (defScope r_check_book.st) .none kV_check_book dc_check_book pm_check_book an_check_book cd_check_book ct_check_book), sl_check_book⟩)
    (c_check_book : PySem.W.codeIn K cd_check_book r_check_book.qual = true)
    (k_check_book : PySem.W.keepIn K (.ref f_check_book) = true)
    (a_check_task : PySem.W.nsIn K mainGlobals "check_task" = some (some (.ref f_check_task)))
    (l_check_task : K.lookup f_check_task = some ⟨oc_check_task, od_check_task, .func (PySem.W.fnOf r_check_task.x r_check_task.qual (defArgs r_check_task.st) (defBody r_check_task.st) (defScope r_check_task.st) .none kV_check_task dc_check_task pm_check_task an_check_task cd_check_task ct_check_task), sl_check_task⟩)
    (c_check_task : PySem.W.codeIn K cd_check_task r_check_task.qual = true)
    (k_check_task : PySem.W.keepIn K (.ref f_check_task) = true)
    (a_holds : PySem.W.nsIn K mainGlobals "holds" = some (some (.ref f_holds)))
    (l_holds : K.lookup f_holds = some ⟨oc_holds, od_holds, .func (PySem.W.fnOf r_holds.x r_holds.qual (defArgs r_holds.st) (defBody r_holds.st) (defScope r_holds.st) .none kV_holds dc_holds pm_holds an_holds cd_holds ct_holds), sl_holds⟩)
    (c_holds : PySem.W.codeIn K cd_holds r_holds.qual = true)
    (k_holds : PySem.W.keepIn K (.ref f_holds) = true)
    (a_methods_taken : PySem.W.nsIn K mainGlobals "methods_taken" = some (some (.ref f_methods_taken)))
    (l_methods_taken : K.lookup f_methods_taken = some ⟨oc_methods_taken, od_methods_taken, .func (PySem.W.fnOf r_methods_taken.x r_methods_taken.qual (defArgs r_methods_taken.st) (defBody r_methods_taken.st) (defScope r_methods_taken.st) .none kV_methods_taken dc_methods_taken pm_methods_taken an_methods_taken cd_methods_taken ct_methods_taken), sl_methods_taken⟩)
    (c_methods_taken : PySem.W.codeIn K cd_methods_taken r_methods_taken.qual = true)
    (k_methods_taken : PySem.W.keepIn K (.ref f_methods_taken) = true)
    (a_is_string : PySem.W.nsIn K mainGlobals "is_string" = some (some (.ref f_is_string)))
    (l_is_string : K.lookup f_is_string = some ⟨oc_is_string, od_is_string, .func (PySem.W.fnOf r_is_string.x r_is_string.qual (defArgs r_is_string.st) (defBody r_is_string.st) (defScope r_is_string.st) .none kV_is_string dc_is_string pm_is_string an_is_string cd_is_string ct_is_string), sl_is_string⟩)
    (c_is_string : PySem.W.codeIn K cd_is_string r_is_string.qual = true)
    (k_is_string : PySem.W.keepIn K (.ref f_is_string) = true)
    (a_ends_of_steps : PySem.W.nsIn K mainGlobals "ends_of_steps" = some (some (.ref f_ends_of_steps)))
    (l_ends_of_steps : K.lookup f_ends_of_steps = some ⟨oc_ends_of_steps, od_ends_of_steps, .func (PySem.W.fnOf r_ends_of_steps.x r_ends_of_steps.qual (defArgs r_ends_of_steps.st) (defBody r_ends_of_steps.st) (defScope r_ends_of_steps.st) .none kV_ends_of_steps dc_ends_of_steps pm_ends_of_steps an_ends_of_steps cd_ends_of_steps ct_ends_of_steps), sl_ends_of_steps⟩)
    (c_ends_of_steps : PySem.W.codeIn K cd_ends_of_steps r_ends_of_steps.qual = true)
    (k_ends_of_steps : PySem.W.keepIn K (.ref f_ends_of_steps) = true)
    (a_accepts : PySem.W.nsIn K mainGlobals "accepts" = some (some (.ref f_accepts)))
    (l_accepts : K.lookup f_accepts = some ⟨oc_accepts, od_accepts, .func (PySem.W.fnOf r_accepts.x r_accepts.qual (defArgs r_accepts.st) (defBody r_accepts.st) (defScope r_accepts.st) .none kV_accepts dc_accepts pm_accepts an_accepts cd_accepts ct_accepts), sl_accepts⟩)
    (c_accepts : PySem.W.codeIn K cd_accepts r_accepts.qual = true)
    (k_accepts : PySem.W.keepIn K (.ref f_accepts) = true)
    (a__law_so : PySem.W.nsIn K mainGlobals "_law_so" = some (some (.ref f__law_so)))
    (l__law_so : K.lookup f__law_so = some ⟨oc__law_so, od__law_so, .func (PySem.W.fnOf r__law_so.x r__law_so.qual (defArgs r__law_so.st) (defBody r__law_so.st) (defScope r__law_so.st) .none kV__law_so dc__law_so pm__law_so an__law_so cd__law_so ct__law_so), sl__law_so⟩)
    (c__law_so : PySem.W.codeIn K cd__law_so r__law_so.qual = true)
    (k__law_so : PySem.W.keepIn K (.ref f__law_so) = true)
    (a__law_numbers : PySem.W.nsIn K mainGlobals "_law_numbers" = some (some (.ref f__law_numbers)))
    (l__law_numbers : K.lookup f__law_numbers = some ⟨oc__law_numbers, od__law_numbers, .func (PySem.W.fnOf r__law_numbers.x r__law_numbers.qual (defArgs r__law_numbers.st) (defBody r__law_numbers.st) (defScope r__law_numbers.st) .none kV__law_numbers dc__law_numbers pm__law_numbers an__law_numbers cd__law_numbers ct__law_numbers), sl__law_numbers⟩)
    (c__law_numbers : PySem.W.codeIn K cd__law_numbers r__law_numbers.qual = true)
    (k__law_numbers : PySem.W.keepIn K (.ref f__law_numbers) = true)
    (a__law_draw : PySem.W.nsIn K mainGlobals "_law_draw" = some (some (.ref f__law_draw)))
    (l__law_draw : K.lookup f__law_draw = some ⟨oc__law_draw, od__law_draw, .func (PySem.W.fnOf r__law_draw.x r__law_draw.qual (defArgs r__law_draw.st) (defBody r__law_draw.st) (defScope r__law_draw.st) .none kV__law_draw dc__law_draw pm__law_draw an__law_draw cd__law_draw ct__law_draw), sl__law_draw⟩)
    (c__law_draw : PySem.W.codeIn K cd__law_draw r__law_draw.qual = true)
    (k__law_draw : PySem.W.keepIn K (.ref f__law_draw) = true)
    (a__law_take : PySem.W.nsIn K mainGlobals "_law_take" = some (some (.ref f__law_take)))
    (l__law_take : K.lookup f__law_take = some ⟨oc__law_take, od__law_take, .func (PySem.W.fnOf r__law_take.x r__law_take.qual (defArgs r__law_take.st) (defBody r__law_take.st) (defScope r__law_take.st) .none kV__law_take dc__law_take pm__law_take an__law_take cd__law_take ct__law_take), sl__law_take⟩)
    (c__law_take : PySem.W.codeIn K cd__law_take r__law_take.qual = true)
    (k__law_take : PySem.W.keepIn K (.ref f__law_take) = true)
    (a__law_loose : PySem.W.nsIn K mainGlobals "_law_loose" = some (some (.ref f__law_loose)))
    (l__law_loose : K.lookup f__law_loose = some ⟨oc__law_loose, od__law_loose, .func (PySem.W.fnOf r__law_loose.x r__law_loose.qual (defArgs r__law_loose.st) (defBody r__law_loose.st) (defScope r__law_loose.st) .none kV__law_loose dc__law_loose pm__law_loose an__law_loose cd__law_loose ct__law_loose), sl__law_loose⟩)
    (c__law_loose : PySem.W.codeIn K cd__law_loose r__law_loose.qual = true)
    (k__law_loose : PySem.W.keepIn K (.ref f__law_loose) = true)
    (a__law_set : PySem.W.nsIn K mainGlobals "_law_set" = some (some (.ref f__law_set)))
    (l__law_set : K.lookup f__law_set = some ⟨oc__law_set, od__law_set, .func (PySem.W.fnOf r__law_set.x r__law_set.qual (defArgs r__law_set.st) (defBody r__law_set.st) (defScope r__law_set.st) .none kV__law_set dc__law_set pm__law_set an__law_set cd__law_set ct__law_set), sl__law_set⟩)
    (c__law_set : PySem.W.codeIn K cd__law_set r__law_set.qual = true)
    (k__law_set : PySem.W.keepIn K (.ref f__law_set) = true)
    (a__law_cond : PySem.W.nsIn K mainGlobals "_law_cond" = some (some (.ref f__law_cond)))
    (l__law_cond : K.lookup f__law_cond = some ⟨oc__law_cond, od__law_cond, .func (PySem.W.fnOf r__law_cond.x r__law_cond.qual (defArgs r__law_cond.st) (defBody r__law_cond.st) (defScope r__law_cond.st) .none kV__law_cond dc__law_cond pm__law_cond an__law_cond cd__law_cond ct__law_cond), sl__law_cond⟩)
    (c__law_cond : PySem.W.codeIn K cd__law_cond r__law_cond.qual = true)
    (k__law_cond : PySem.W.keepIn K (.ref f__law_cond) = true)
    (a__law_method : PySem.W.nsIn K mainGlobals "_law_method" = some (some (.ref f__law_method)))
    (l__law_method : K.lookup f__law_method = some ⟨oc__law_method, od__law_method, .func (PySem.W.fnOf r__law_method.x r__law_method.qual (defArgs r__law_method.st) (defBody r__law_method.st) (defScope r__law_method.st) .none kV__law_method dc__law_method pm__law_method an__law_method cd__law_method ct__law_method), sl__law_method⟩)
    (c__law_method : PySem.W.codeIn K cd__law_method r__law_method.qual = true)
    (k__law_method : PySem.W.keepIn K (.ref f__law_method) = true)
    (a__law_book : PySem.W.nsIn K mainGlobals "_law_book" = some (some (.ref f__law_book)))
    (l__law_book : K.lookup f__law_book = some ⟨oc__law_book, od__law_book, .func (PySem.W.fnOf r__law_book.x r__law_book.qual (defArgs r__law_book.st) (defBody r__law_book.st) (defScope r__law_book.st) .none kV__law_book dc__law_book pm__law_book an__law_book cd__law_book ct__law_book), sl__law_book⟩)
    (c__law_book : PySem.W.codeIn K cd__law_book r__law_book.qual = true)
    (k__law_book : PySem.W.keepIn K (.ref f__law_book) = true)
    (a__law_book_of : PySem.W.nsIn K mainGlobals "_law_book_of" = some (some (.ref f__law_book_of)))
    (l__law_book_of : K.lookup f__law_book_of = some ⟨oc__law_book_of, od__law_book_of, .func (PySem.W.fnOf r__law_book_of.x r__law_book_of.qual (defArgs r__law_book_of.st) (defBody r__law_book_of.st) (defScope r__law_book_of.st) .none kV__law_book_of dc__law_book_of pm__law_book_of an__law_book_of cd__law_book_of ct__law_book_of), sl__law_book_of⟩)
    (c__law_book_of : PySem.W.codeIn K cd__law_book_of r__law_book_of.qual = true)
    (k__law_book_of : PySem.W.keepIn K (.ref f__law_book_of) = true)
    (a__law_true : PySem.W.nsIn K mainGlobals "_law_true" = some (some (.ref f__law_true)))
    (l__law_true : K.lookup f__law_true = some ⟨oc__law_true, od__law_true, .func (PySem.W.fnOf r__law_true.x r__law_true.qual (defArgs r__law_true.st) (defBody r__law_true.st) (defScope r__law_true.st) .none kV__law_true dc__law_true pm__law_true an__law_true cd__law_true ct__law_true), sl__law_true⟩)
    (c__law_true : PySem.W.codeIn K cd__law_true r__law_true.qual = true)
    (k__law_true : PySem.W.keepIn K (.ref f__law_true) = true)
    (a__law_open : PySem.W.nsIn K mainGlobals "_law_open" = some (some (.ref f__law_open)))
    (l__law_open : K.lookup f__law_open = some ⟨oc__law_open, od__law_open, .func (PySem.W.fnOf r__law_open.x r__law_open.qual (defArgs r__law_open.st) (defBody r__law_open.st) (defScope r__law_open.st) .none kV__law_open dc__law_open pm__law_open an__law_open cd__law_open ct__law_open), sl__law_open⟩)
    (c__law_open : PySem.W.codeIn K cd__law_open r__law_open.qual = true)
    (k__law_open : PySem.W.keepIn K (.ref f__law_open) = true)
    (a__law_follow : PySem.W.nsIn K mainGlobals "_law_follow" = some (some (.ref f__law_follow)))
    (l__law_follow : K.lookup f__law_follow = some ⟨oc__law_follow, od__law_follow, .func (PySem.W.fnOf r__law_follow.x r__law_follow.qual (defArgs r__law_follow.st) (defBody r__law_follow.st) (defScope r__law_follow.st) .none kV__law_follow dc__law_follow pm__law_follow an__law_follow cd__law_follow ct__law_follow), sl__law_follow⟩)
    (c__law_follow : PySem.W.codeIn K cd__law_follow r__law_follow.qual = true)
    (k__law_follow : PySem.W.keepIn K (.ref f__law_follow) = true)
    (a__law_ends : PySem.W.nsIn K mainGlobals "_law_ends" = some (some (.ref f__law_ends)))
    (l__law_ends : K.lookup f__law_ends = some ⟨oc__law_ends, od__law_ends, .func (PySem.W.fnOf r__law_ends.x r__law_ends.qual (defArgs r__law_ends.st) (defBody r__law_ends.st) (defScope r__law_ends.st) .none kV__law_ends dc__law_ends pm__law_ends an__law_ends cd__law_ends ct__law_ends), sl__law_ends⟩)
    (c__law_ends : PySem.W.codeIn K cd__law_ends r__law_ends.qual = true)
    (k__law_ends : PySem.W.keepIn K (.ref f__law_ends) = true)
    (a__law_line_world : PySem.W.nsIn K mainGlobals "_law_line_world" = some (some (.ref f__law_line_world)))
    (l__law_line_world : K.lookup f__law_line_world = some ⟨oc__law_line_world, od__law_line_world, .func (PySem.W.fnOf r__law_line_world.x r__law_line_world.qual (defArgs r__law_line_world.st) (defBody r__law_line_world.st) (defScope r__law_line_world.st) .none kV__law_line_world dc__law_line_world pm__law_line_world an__law_line_world cd__law_line_world ct__law_line_world), sl__law_line_world⟩)
    (c__law_line_world : PySem.W.codeIn K cd__law_line_world r__law_line_world.qual = true)
    (k__law_line_world : PySem.W.keepIn K (.ref f__law_line_world) = true)
    (a__law_accepts : PySem.W.nsIn K mainGlobals "_law_accepts" = some (some (.ref f__law_accepts)))
    (l__law_accepts : K.lookup f__law_accepts = some ⟨oc__law_accepts, od__law_accepts, .func (PySem.W.fnOf r__law_accepts.x r__law_accepts.qual (defArgs r__law_accepts.st) (defBody r__law_accepts.st) (defScope r__law_accepts.st) .none kV__law_accepts dc__law_accepts pm__law_accepts an__law_accepts cd__law_accepts ct__law_accepts), sl__law_accepts⟩)
    (c__law_accepts : PySem.W.codeIn K cd__law_accepts r__law_accepts.qual = true)
    (k__law_accepts : PySem.W.keepIn K (.ref f__law_accepts) = true)
    (a__law_drawn_string : PySem.W.nsIn K mainGlobals "_law_drawn_string" = some (some (.ref f__law_drawn_string)))
    (l__law_drawn_string : K.lookup f__law_drawn_string = some ⟨oc__law_drawn_string, od__law_drawn_string, .func (PySem.W.fnOf r__law_drawn_string.x r__law_drawn_string.qual (defArgs r__law_drawn_string.st) (defBody r__law_drawn_string.st) (defScope r__law_drawn_string.st) .none kV__law_drawn_string dc__law_drawn_string pm__law_drawn_string an__law_drawn_string cd__law_drawn_string ct__law_drawn_string), sl__law_drawn_string⟩)
    (c__law_drawn_string : PySem.W.codeIn K cd__law_drawn_string r__law_drawn_string.qual = true)
    (k__law_drawn_string : PySem.W.keepIn K (.ref f__law_drawn_string) = true)
    (a_law : PySem.W.nsIn K mainGlobals "law" = some (some (.ref f_law)))
    (l_law : K.lookup f_law = some ⟨oc_law, od_law, .func (PySem.W.fnOf r_law.x r_law.qual (defArgs r_law.st) (defBody r_law.st) (defScope r_law.st) .none kV_law dc_law pm_law an_law cd_law ct_law), sl_law⟩)
    (c_law : PySem.W.codeIn K cd_law r_law.qual = true)
    (k_law : PySem.W.keepIn K (.ref f_law) = true)
    (cp_Book : PySem.W.plainGet K C_Book Str.empty = true)
    (ch_Book : PySem.W.hasDictIn K C_Book = true)
    (co_Book : PySem.W.plainOver K C_Book = true)
    (cs_Book : PySem.W.findIn K (.ref C_Book) "__setattr__" = some (some (.builtin "object.__setattr__")))
    (cm_Book : PySem.W.makesIn K C_Book = true)
    (ck_Book : PySem.W.keepIn K (.ref C_Book) = true)
    (if_Book : PySem.W.isFn K (.ref f_Book___init__) = true)
    (nf_Book__facts : PySem.W.findIn K (.ref C_Book) "_facts" = some none)
    (nf_Book__deeds : PySem.W.findIn K (.ref C_Book) "_deeds" = some none)
    (nf_Book__tasks : PySem.W.findIn K (.ref C_Book) "_tasks" = some none)
    (mf_Book___eq__ : PySem.W.isFn K (.ref f_Book___eq__) = true)
    (ib0_Book : PySem.W.subIn K (.ref C_Book) (.type "int") = some false)
    (ib1_Book : PySem.W.subIn K (.ref C_Book) (.type "bool") = some false)
    (ib2_Book : PySem.W.subIn K (.ref C_Book) (.type "str") = some false)
    (ib3_Book : PySem.W.subIn K (.ref C_Book) (.type "list") = some false)
    (ib4_Book : PySem.W.subIn K (.ref C_Book) (.type "tuple") = some false)
    (io0_Book : PySem.W.subIn K (.type "NoneType") (.ref C_Book) = some false)
    (io1_Book : PySem.W.subIn K (.type "int") (.ref C_Book) = some false)
    (io2_Book : PySem.W.subIn K (.type "bool") (.ref C_Book) = some false)
    (io3_Book : PySem.W.subIn K (.type "str") (.ref C_Book) = some false)
    (io4_Book : PySem.W.subIn K (.type "list") (.ref C_Book) = some false)
    (io5_Book : PySem.W.subIn K (.type "tuple") (.ref C_Book) = some false)
    (io6_Book : PySem.W.subIn K (.type "dict") (.ref C_Book) = some false)
    (ic_Book : PySem.W.isClsIn K C_Book = true)
    (it_Book : PySem.W.typeIn K (.ref C_Book) = some (.type "type"))
    (iz_Book : PySem.W.findIn K (.ref C_Book) "__class__" = some (some (.builtin "object.__class__")))
    (im_Book : PySem.W.mroIn K C_Book (.type "object") = some true)
    (xg_BadValue : PySem.W.nsIn K mainGlobals "BadValue" = some (some (.ref X_BadValue)))
    (xa_BadValue : PySem.W.findIn K (.ref X_BadValue) "__getattribute__" = some (some (.builtin "BaseException.__getattribute__")))
    (xn_BadValue : PySem.W.findIn K (.ref X_BadValue) "__getattr__" = some none)
    (xe_BadValue : PySem.W.subIn K (.ref X_BadValue) (.type "BaseException") = some true)
    (xh_BadValue : PySem.W.hasDictIn K X_BadValue = true)
    (xt_BadValue : PySem.W.typeIn K (.ref X_BadValue) = some (.type "type"))
    (xg_BadMethod : PySem.W.nsIn K mainGlobals "BadMethod" = some (some (.ref X_BadMethod)))
    (xa_BadMethod : PySem.W.findIn K (.ref X_BadMethod) "__getattribute__" = some (some (.builtin "BaseException.__getattribute__")))
    (xn_BadMethod : PySem.W.findIn K (.ref X_BadMethod) "__getattr__" = some none)
    (xe_BadMethod : PySem.W.subIn K (.ref X_BadMethod) (.type "BaseException") = some true)
    (xh_BadMethod : PySem.W.hasDictIn K X_BadMethod = true)
    (xt_BadMethod : PySem.W.typeIn K (.ref X_BadMethod) = some (.type "type"))
    (xi_BadValue : PySem.W.excInitIn K X_BadValue [.type "Exception", .type "BaseException", .type "object"] "Exception.__new__" = true)
    (xo_BadValue : PySem.W.excOver K X_BadValue [.type "Exception", .type "BaseException", .type "object"] = true)
    (xs_BadValue : PySem.W.findIn K (.ref X_BadValue) "__setattr__" = some (some (.builtin "object.__setattr__")))
    (xk_BadValue : PySem.W.keepIn K (.ref X_BadValue) = true)
    (xf_BadValue : PySem.W.findIn K (.ref X_BadValue) "__init__" = some (some (.ref fx_BadValue)))
    (xq_BadValue : PySem.W.isFn K (.ref fx_BadValue) = true)
    (xl_BadValue : K.lookup fx_BadValue = some ⟨oc_xBadValue, od_xBadValue, .func (PySem.W.fnOf x_BadValue.x x_BadValue.qual (defArgs x_BadValue.st) (defBody x_BadValue.st) (defScope x_BadValue.st) .none kV_xBadValue dc_xBadValue pm_xBadValue an_xBadValue cd_xBadValue ct_xBadValue), sl_xBadValue⟩)
    (xc_BadValue : PySem.W.codeIn K cd_xBadValue x_BadValue.qual = true)
    (xy_BadValue : PySem.W.keepIn K (.ref fx_BadValue) = true)
    (xz_BadValue_at : PySem.W.findIn K (.ref X_BadValue) "at" = some none)
    (xi_BadMethod : PySem.W.excInitIn K X_BadMethod [.type "Exception", .type "BaseException", .type "object"] "Exception.__new__" = true)
    (xo_BadMethod : PySem.W.excOver K X_BadMethod [.type "Exception", .type "BaseException", .type "object"] = true)
    (xs_BadMethod : PySem.W.findIn K (.ref X_BadMethod) "__setattr__" = some (some (.builtin "object.__setattr__")))
    (xk_BadMethod : PySem.W.keepIn K (.ref X_BadMethod) = true)
    (xf_BadMethod : PySem.W.findIn K (.ref X_BadMethod) "__init__" = some (some (.ref fx_BadMethod)))
    (xq_BadMethod : PySem.W.isFn K (.ref fx_BadMethod) = true)
    (xl_BadMethod : K.lookup fx_BadMethod = some ⟨oc_xBadMethod, od_xBadMethod, .func (PySem.W.fnOf x_BadMethod.x x_BadMethod.qual (defArgs x_BadMethod.st) (defBody x_BadMethod.st) (defScope x_BadMethod.st) .none kV_xBadMethod dc_xBadMethod pm_xBadMethod an_xBadMethod cd_xBadMethod ct_xBadMethod), sl_xBadMethod⟩)
    (xc_BadMethod : PySem.W.codeIn K cd_xBadMethod x_BadMethod.qual = true)
    (xy_BadMethod : PySem.W.keepIn K (.ref fx_BadMethod) = true)
    (xz_BadMethod_task : PySem.W.findIn K (.ref X_BadMethod) "task" = some none)
    (xz_BadMethod_method : PySem.W.findIn K (.ref X_BadMethod) "method" = some none)
    (xp_BadValue_BadValue : PySem.W.subIn K (.ref X_BadValue) (.ref X_BadValue) = some true)
    (xp_BadValue_BadMethod : PySem.W.subIn K (.ref X_BadValue) (.ref X_BadMethod) = some false)
    (xp_BadMethod_BadValue : PySem.W.subIn K (.ref X_BadMethod) (.ref X_BadValue) = some false)
    (xp_BadMethod_BadMethod : PySem.W.subIn K (.ref X_BadMethod) (.ref X_BadMethod) = some true)
    (y1 : PySem.W.specialIn K (.builtin "object.__class__") "__get__" = some (some (.builtin "getset_descriptor.__get__")))
    (y2 : PySem.W.takesIn K (.builtin "object.__class__") = some true)
    (v_MOST_FACTS : PySem.W.nsIn K mainGlobals "MOST_FACTS" = some (some (.int 4 tk_MOST_FACTS)))
    (v_MOST_DEEDS : PySem.W.nsIn K mainGlobals "MOST_DEEDS" = some (some (.int 5 tk_MOST_DEEDS)))
    (v_MOST_TASKS : PySem.W.nsIn K mainGlobals "MOST_TASKS" = some (some (.int 6 tk_MOST_TASKS)))
    (v_MOST_METHODS : PySem.W.nsIn K mainGlobals "MOST_METHODS" = some (some (.int 5 tk_MOST_METHODS)))
    (v_MOST_STEPS : PySem.W.nsIn K mainGlobals "MOST_STEPS" = some (some (.int 5 tk_MOST_STEPS)))
    (v_MOST_STRING_DEEDS : PySem.W.nsIn K mainGlobals "MOST_STRING_DEEDS" = some (some (.int 40 tk_MOST_STRING_DEEDS)))
    (z_len : PySem.W.nsIn K mainGlobals "len" = some none)
    (z_isinstance : PySem.W.nsIn K mainGlobals "isinstance" = some none)
    (z_tuple : PySem.W.nsIn K mainGlobals "tuple" = some none)
    (z_int : PySem.W.nsIn K mainGlobals "int" = some none)
    (z_list : PySem.W.nsIn K mainGlobals "list" = some none)
    (z_sorted : PySem.W.nsIn K mainGlobals "sorted" = some none)
    (z_sum : PySem.W.nsIn K mainGlobals "sum" = some none)
    (z_any : PySem.W.nsIn K mainGlobals "any" = some none)
    (z_all : PySem.W.nsIn K mainGlobals "all" = some none)
    (z_range : PySem.W.nsIn K mainGlobals "range" = some none)
    (z_reversed : PySem.W.nsIn K mainGlobals "reversed" = some none)
    (z_enumerate : PySem.W.nsIn K mainGlobals "enumerate" = some none)
    (z_zip : PySem.W.nsIn K mainGlobals "zip" = some none)
    (z_bool : PySem.W.nsIn K mainGlobals "bool" = some none)
    (z_str : PySem.W.nsIn K mainGlobals "str" = some none)
    : ∃ (cm : Str × Bool → Option Value) (ad : Str → Addr), HeadOk K mg cm tab ad ∧ ∀ C u, cm (C, true) = some u → ∃ c ∈ tab.cls, c.name = C := by
  have R : RowsAt K mg rows [f_is_integer, f_is_between, f_is_number, f_is_sequence, f_is_flags, f_is_condition, f_is_steps, f_is_method, f_is_task_list, f_method_copy, f_Book___init__, f_Book_facts, f_Book_deeds, f_Book_tasks, f_Book___eq__, f_check_book, f_check_task, f_holds, f_methods_taken, f_is_string, f_ends_of_steps, f_accepts, f__law_so, f__law_numbers, f__law_draw, f__law_take, f__law_loose, f__law_set, f__law_cond, f__law_method, f__law_book, f__law_book_of, f__law_true, f__law_open, f__law_follow, f__law_ends, f__law_line_world, f__law_accepts, f__law_drawn_string, f_law] := by
    unfold rows
    exact .cons (row_mk t_is_integer l_is_integer c_is_integer k_is_integer) (fun _ => PySem.W.mg_of X G a_is_integer) <| .cons (row_mk t_is_between l_is_between c_is_between k_is_between) (fun _ => PySem.W.mg_of X G a_is_between) <| .cons (row_mk t_is_number l_is_number c_is_number k_is_number) (fun _ => PySem.W.mg_of X G a_is_number) <| .cons (row_mk t_is_sequence l_is_sequence c_is_sequence k_is_sequence) (fun _ => PySem.W.mg_of X G a_is_sequence) <| .cons (row_mk t_is_flags l_is_flags c_is_flags k_is_flags) (fun _ => PySem.W.mg_of X G a_is_flags) <| .cons (row_mk t_is_condition l_is_condition c_is_condition k_is_condition) (fun _ => PySem.W.mg_of X G a_is_condition) <| .cons (row_mk t_is_steps l_is_steps c_is_steps k_is_steps) (fun _ => PySem.W.mg_of X G a_is_steps) <| .cons (row_mk t_is_method l_is_method c_is_method k_is_method) (fun _ => PySem.W.mg_of X G a_is_method) <| .cons (row_mk t_is_task_list l_is_task_list c_is_task_list k_is_task_list) (fun _ => PySem.W.mg_of X G a_is_task_list) <| .cons (row_mk t_method_copy l_method_copy c_method_copy k_method_copy) (fun _ => PySem.W.mg_of X G a_method_copy) <| .cons (row_mk t_Book___init__ l_Book___init__ c_Book___init__ k_Book___init__) (fun z => by cases z) <| .cons (row_mk t_Book_facts l_Book_facts c_Book_facts k_Book_facts) (fun z => by cases z) <| .cons (row_mk t_Book_deeds l_Book_deeds c_Book_deeds k_Book_deeds) (fun z => by cases z) <| .cons (row_mk t_Book_tasks l_Book_tasks c_Book_tasks k_Book_tasks) (fun z => by cases z) <| .cons (row_mk t_Book___eq__ l_Book___eq__ c_Book___eq__ k_Book___eq__) (fun z => by cases z) <| .cons (row_mk t_check_book l_check_book c_check_book k_check_book) (fun _ => PySem.W.mg_of X G a_check_book) <| .cons (row_mk t_check_task l_check_task c_check_task k_check_task) (fun _ => PySem.W.mg_of X G a_check_task) <| .cons (row_mk t_holds l_holds c_holds k_holds) (fun _ => PySem.W.mg_of X G a_holds) <| .cons (row_mk t_methods_taken l_methods_taken c_methods_taken k_methods_taken) (fun _ => PySem.W.mg_of X G a_methods_taken) <| .cons (row_mk t_is_string l_is_string c_is_string k_is_string) (fun _ => PySem.W.mg_of X G a_is_string) <| .cons (row_mk t_ends_of_steps l_ends_of_steps c_ends_of_steps k_ends_of_steps) (fun _ => PySem.W.mg_of X G a_ends_of_steps) <| .cons (row_mk t_accepts l_accepts c_accepts k_accepts) (fun _ => PySem.W.mg_of X G a_accepts) <| .cons (row_mk t__law_so l__law_so c__law_so k__law_so) (fun _ => PySem.W.mg_of X G a__law_so) <| .cons (row_mk t__law_numbers l__law_numbers c__law_numbers k__law_numbers) (fun _ => PySem.W.mg_of X G a__law_numbers) <| .cons (row_mk t__law_draw l__law_draw c__law_draw k__law_draw) (fun _ => PySem.W.mg_of X G a__law_draw) <| .cons (row_mk t__law_take l__law_take c__law_take k__law_take) (fun _ => PySem.W.mg_of X G a__law_take) <| .cons (row_mk t__law_loose l__law_loose c__law_loose k__law_loose) (fun _ => PySem.W.mg_of X G a__law_loose) <| .cons (row_mk t__law_set l__law_set c__law_set k__law_set) (fun _ => PySem.W.mg_of X G a__law_set) <| .cons (row_mk t__law_cond l__law_cond c__law_cond k__law_cond) (fun _ => PySem.W.mg_of X G a__law_cond) <| .cons (row_mk t__law_method l__law_method c__law_method k__law_method) (fun _ => PySem.W.mg_of X G a__law_method) <| .cons (row_mk t__law_book l__law_book c__law_book k__law_book) (fun _ => PySem.W.mg_of X G a__law_book) <| .cons (row_mk t__law_book_of l__law_book_of c__law_book_of k__law_book_of) (fun _ => PySem.W.mg_of X G a__law_book_of) <| .cons (row_mk t__law_true l__law_true c__law_true k__law_true) (fun _ => PySem.W.mg_of X G a__law_true) <| .cons (row_mk t__law_open l__law_open c__law_open k__law_open) (fun _ => PySem.W.mg_of X G a__law_open) <| .cons (row_mk t__law_follow l__law_follow c__law_follow k__law_follow) (fun _ => PySem.W.mg_of X G a__law_follow) <| .cons (row_mk t__law_ends l__law_ends c__law_ends k__law_ends) (fun _ => PySem.W.mg_of X G a__law_ends) <| .cons (row_mk t__law_line_world l__law_line_world c__law_line_world k__law_line_world) (fun _ => PySem.W.mg_of X G a__law_line_world) <| .cons (row_mk t__law_accepts l__law_accepts c__law_accepts k__law_accepts) (fun _ => PySem.W.mg_of X G a__law_accepts) <| .cons (row_mk t__law_drawn_string l__law_drawn_string c__law_drawn_string k__law_drawn_string) (fun _ => PySem.W.mg_of X G a__law_drawn_string) <| .cons (row_mk t_law l_law c_law k_law) (fun _ => PySem.W.mg_of X G a_law) <| .nil
  have nk : (rows.map (fun r : FRow => r.key)).Nodup := by decide +kernel
  have nc : (clss.map (fun c : CRow => c.name)).Nodup := by decide +kernel
  have e_is_integer : adOf (rows.map (fun r : FRow => r.key)) [f_is_integer, f_is_between, f_is_number, f_is_sequence, f_is_flags, f_is_condition, f_is_steps, f_is_method, f_is_task_list, f_method_copy, f_Book___init__, f_Book_facts, f_Book_deeds, f_Book_tasks, f_Book___eq__, f_check_book, f_check_task, f_holds, f_methods_taken, f_is_string, f_ends_of_steps, f_accepts, f__law_so, f__law_numbers, f__law_draw, f__law_take, f__law_loose, f__law_set, f__law_cond, f__law_method, f__law_book, f__law_book_of, f__law_true, f__law_open, f__law_follow, f__law_ends, f__law_line_world, f__law_accepts, f__law_drawn_string, f_law] "is_integer" = f_is_integer := by kernel_rfl
  have e_is_between : adOf (rows.map (fun r : FRow => r.key)) [f_is_integer, f_is_between, f_is_number, f_is_sequence, f_is_flags, f_is_condition, f_is_steps, f_is_method, f_is_task_list, f_method_copy, f_Book___init__, f_Book_facts, f_Book_deeds, f_Book_tasks, f_Book___eq__, f_check_book, f_check_task, f_holds, f_methods_taken, f_is_string, f_ends_of_steps, f_accepts, f__law_so, f__law_numbers, f__law_draw, f__law_take, f__law_loose, f__law_set, f__law_cond, f__law_method, f__law_book, f__law_book_of, f__law_true, f__law_open, f__law_follow, f__law_ends, f__law_line_world, f__law_accepts, f__law_drawn_string, f_law] "is_between" = f_is_between := by kernel_rfl
  have e_is_number : adOf (rows.map (fun r : FRow => r.key)) [f_is_integer, f_is_between, f_is_number, f_is_sequence, f_is_flags, f_is_condition, f_is_steps, f_is_method, f_is_task_list, f_method_copy, f_Book___init__, f_Book_facts, f_Book_deeds, f_Book_tasks, f_Book___eq__, f_check_book, f_check_task, f_holds, f_methods_taken, f_is_string, f_ends_of_steps, f_accepts, f__law_so, f__law_numbers, f__law_draw, f__law_take, f__law_loose, f__law_set, f__law_cond, f__law_method, f__law_book, f__law_book_of, f__law_true, f__law_open, f__law_follow, f__law_ends, f__law_line_world, f__law_accepts, f__law_drawn_string, f_law] "is_number" = f_is_number := by kernel_rfl
  have e_is_sequence : adOf (rows.map (fun r : FRow => r.key)) [f_is_integer, f_is_between, f_is_number, f_is_sequence, f_is_flags, f_is_condition, f_is_steps, f_is_method, f_is_task_list, f_method_copy, f_Book___init__, f_Book_facts, f_Book_deeds, f_Book_tasks, f_Book___eq__, f_check_book, f_check_task, f_holds, f_methods_taken, f_is_string, f_ends_of_steps, f_accepts, f__law_so, f__law_numbers, f__law_draw, f__law_take, f__law_loose, f__law_set, f__law_cond, f__law_method, f__law_book, f__law_book_of, f__law_true, f__law_open, f__law_follow, f__law_ends, f__law_line_world, f__law_accepts, f__law_drawn_string, f_law] "is_sequence" = f_is_sequence := by kernel_rfl
  have e_is_flags : adOf (rows.map (fun r : FRow => r.key)) [f_is_integer, f_is_between, f_is_number, f_is_sequence, f_is_flags, f_is_condition, f_is_steps, f_is_method, f_is_task_list, f_method_copy, f_Book___init__, f_Book_facts, f_Book_deeds, f_Book_tasks, f_Book___eq__, f_check_book, f_check_task, f_holds, f_methods_taken, f_is_string, f_ends_of_steps, f_accepts, f__law_so, f__law_numbers, f__law_draw, f__law_take, f__law_loose, f__law_set, f__law_cond, f__law_method, f__law_book, f__law_book_of, f__law_true, f__law_open, f__law_follow, f__law_ends, f__law_line_world, f__law_accepts, f__law_drawn_string, f_law] "is_flags" = f_is_flags := by kernel_rfl
  have e_is_condition : adOf (rows.map (fun r : FRow => r.key)) [f_is_integer, f_is_between, f_is_number, f_is_sequence, f_is_flags, f_is_condition, f_is_steps, f_is_method, f_is_task_list, f_method_copy, f_Book___init__, f_Book_facts, f_Book_deeds, f_Book_tasks, f_Book___eq__, f_check_book, f_check_task, f_holds, f_methods_taken, f_is_string, f_ends_of_steps, f_accepts, f__law_so, f__law_numbers, f__law_draw, f__law_take, f__law_loose, f__law_set, f__law_cond, f__law_method, f__law_book, f__law_book_of, f__law_true, f__law_open, f__law_follow, f__law_ends, f__law_line_world, f__law_accepts, f__law_drawn_string, f_law] "is_condition" = f_is_condition := by kernel_rfl
  have e_is_steps : adOf (rows.map (fun r : FRow => r.key)) [f_is_integer, f_is_between, f_is_number, f_is_sequence, f_is_flags, f_is_condition, f_is_steps, f_is_method, f_is_task_list, f_method_copy, f_Book___init__, f_Book_facts, f_Book_deeds, f_Book_tasks, f_Book___eq__, f_check_book, f_check_task, f_holds, f_methods_taken, f_is_string, f_ends_of_steps, f_accepts, f__law_so, f__law_numbers, f__law_draw, f__law_take, f__law_loose, f__law_set, f__law_cond, f__law_method, f__law_book, f__law_book_of, f__law_true, f__law_open, f__law_follow, f__law_ends, f__law_line_world, f__law_accepts, f__law_drawn_string, f_law] "is_steps" = f_is_steps := by kernel_rfl
  have e_is_method : adOf (rows.map (fun r : FRow => r.key)) [f_is_integer, f_is_between, f_is_number, f_is_sequence, f_is_flags, f_is_condition, f_is_steps, f_is_method, f_is_task_list, f_method_copy, f_Book___init__, f_Book_facts, f_Book_deeds, f_Book_tasks, f_Book___eq__, f_check_book, f_check_task, f_holds, f_methods_taken, f_is_string, f_ends_of_steps, f_accepts, f__law_so, f__law_numbers, f__law_draw, f__law_take, f__law_loose, f__law_set, f__law_cond, f__law_method, f__law_book, f__law_book_of, f__law_true, f__law_open, f__law_follow, f__law_ends, f__law_line_world, f__law_accepts, f__law_drawn_string, f_law] "is_method" = f_is_method := by kernel_rfl
  have e_is_task_list : adOf (rows.map (fun r : FRow => r.key)) [f_is_integer, f_is_between, f_is_number, f_is_sequence, f_is_flags, f_is_condition, f_is_steps, f_is_method, f_is_task_list, f_method_copy, f_Book___init__, f_Book_facts, f_Book_deeds, f_Book_tasks, f_Book___eq__, f_check_book, f_check_task, f_holds, f_methods_taken, f_is_string, f_ends_of_steps, f_accepts, f__law_so, f__law_numbers, f__law_draw, f__law_take, f__law_loose, f__law_set, f__law_cond, f__law_method, f__law_book, f__law_book_of, f__law_true, f__law_open, f__law_follow, f__law_ends, f__law_line_world, f__law_accepts, f__law_drawn_string, f_law] "is_task_list" = f_is_task_list := by kernel_rfl
  have e_method_copy : adOf (rows.map (fun r : FRow => r.key)) [f_is_integer, f_is_between, f_is_number, f_is_sequence, f_is_flags, f_is_condition, f_is_steps, f_is_method, f_is_task_list, f_method_copy, f_Book___init__, f_Book_facts, f_Book_deeds, f_Book_tasks, f_Book___eq__, f_check_book, f_check_task, f_holds, f_methods_taken, f_is_string, f_ends_of_steps, f_accepts, f__law_so, f__law_numbers, f__law_draw, f__law_take, f__law_loose, f__law_set, f__law_cond, f__law_method, f__law_book, f__law_book_of, f__law_true, f__law_open, f__law_follow, f__law_ends, f__law_line_world, f__law_accepts, f__law_drawn_string, f_law] "method_copy" = f_method_copy := by kernel_rfl
  have e_Book___init__ : adOf (rows.map (fun r : FRow => r.key)) [f_is_integer, f_is_between, f_is_number, f_is_sequence, f_is_flags, f_is_condition, f_is_steps, f_is_method, f_is_task_list, f_method_copy, f_Book___init__, f_Book_facts, f_Book_deeds, f_Book_tasks, f_Book___eq__, f_check_book, f_check_task, f_holds, f_methods_taken, f_is_string, f_ends_of_steps, f_accepts, f__law_so, f__law_numbers, f__law_draw, f__law_take, f__law_loose, f__law_set, f__law_cond, f__law_method, f__law_book, f__law_book_of, f__law_true, f__law_open, f__law_follow, f__law_ends, f__law_line_world, f__law_accepts, f__law_drawn_string, f_law] "Book.__init__" = f_Book___init__ := by kernel_rfl
  have e_Book_facts : adOf (rows.map (fun r : FRow => r.key)) [f_is_integer, f_is_between, f_is_number, f_is_sequence, f_is_flags, f_is_condition, f_is_steps, f_is_method, f_is_task_list, f_method_copy, f_Book___init__, f_Book_facts, f_Book_deeds, f_Book_tasks, f_Book___eq__, f_check_book, f_check_task, f_holds, f_methods_taken, f_is_string, f_ends_of_steps, f_accepts, f__law_so, f__law_numbers, f__law_draw, f__law_take, f__law_loose, f__law_set, f__law_cond, f__law_method, f__law_book, f__law_book_of, f__law_true, f__law_open, f__law_follow, f__law_ends, f__law_line_world, f__law_accepts, f__law_drawn_string, f_law] "Book.facts" = f_Book_facts := by kernel_rfl
  have e_Book_deeds : adOf (rows.map (fun r : FRow => r.key)) [f_is_integer, f_is_between, f_is_number, f_is_sequence, f_is_flags, f_is_condition, f_is_steps, f_is_method, f_is_task_list, f_method_copy, f_Book___init__, f_Book_facts, f_Book_deeds, f_Book_tasks, f_Book___eq__, f_check_book, f_check_task, f_holds, f_methods_taken, f_is_string, f_ends_of_steps, f_accepts, f__law_so, f__law_numbers, f__law_draw, f__law_take, f__law_loose, f__law_set, f__law_cond, f__law_method, f__law_book, f__law_book_of, f__law_true, f__law_open, f__law_follow, f__law_ends, f__law_line_world, f__law_accepts, f__law_drawn_string, f_law] "Book.deeds" = f_Book_deeds := by kernel_rfl
  have e_Book_tasks : adOf (rows.map (fun r : FRow => r.key)) [f_is_integer, f_is_between, f_is_number, f_is_sequence, f_is_flags, f_is_condition, f_is_steps, f_is_method, f_is_task_list, f_method_copy, f_Book___init__, f_Book_facts, f_Book_deeds, f_Book_tasks, f_Book___eq__, f_check_book, f_check_task, f_holds, f_methods_taken, f_is_string, f_ends_of_steps, f_accepts, f__law_so, f__law_numbers, f__law_draw, f__law_take, f__law_loose, f__law_set, f__law_cond, f__law_method, f__law_book, f__law_book_of, f__law_true, f__law_open, f__law_follow, f__law_ends, f__law_line_world, f__law_accepts, f__law_drawn_string, f_law] "Book.tasks" = f_Book_tasks := by kernel_rfl
  have e_Book___eq__ : adOf (rows.map (fun r : FRow => r.key)) [f_is_integer, f_is_between, f_is_number, f_is_sequence, f_is_flags, f_is_condition, f_is_steps, f_is_method, f_is_task_list, f_method_copy, f_Book___init__, f_Book_facts, f_Book_deeds, f_Book_tasks, f_Book___eq__, f_check_book, f_check_task, f_holds, f_methods_taken, f_is_string, f_ends_of_steps, f_accepts, f__law_so, f__law_numbers, f__law_draw, f__law_take, f__law_loose, f__law_set, f__law_cond, f__law_method, f__law_book, f__law_book_of, f__law_true, f__law_open, f__law_follow, f__law_ends, f__law_line_world, f__law_accepts, f__law_drawn_string, f_law] "Book.__eq__" = f_Book___eq__ := by kernel_rfl
  have e_check_book : adOf (rows.map (fun r : FRow => r.key)) [f_is_integer, f_is_between, f_is_number, f_is_sequence, f_is_flags, f_is_condition, f_is_steps, f_is_method, f_is_task_list, f_method_copy, f_Book___init__, f_Book_facts, f_Book_deeds, f_Book_tasks, f_Book___eq__, f_check_book, f_check_task, f_holds, f_methods_taken, f_is_string, f_ends_of_steps, f_accepts, f__law_so, f__law_numbers, f__law_draw, f__law_take, f__law_loose, f__law_set, f__law_cond, f__law_method, f__law_book, f__law_book_of, f__law_true, f__law_open, f__law_follow, f__law_ends, f__law_line_world, f__law_accepts, f__law_drawn_string, f_law] "check_book" = f_check_book := by kernel_rfl
  have e_check_task : adOf (rows.map (fun r : FRow => r.key)) [f_is_integer, f_is_between, f_is_number, f_is_sequence, f_is_flags, f_is_condition, f_is_steps, f_is_method, f_is_task_list, f_method_copy, f_Book___init__, f_Book_facts, f_Book_deeds, f_Book_tasks, f_Book___eq__, f_check_book, f_check_task, f_holds, f_methods_taken, f_is_string, f_ends_of_steps, f_accepts, f__law_so, f__law_numbers, f__law_draw, f__law_take, f__law_loose, f__law_set, f__law_cond, f__law_method, f__law_book, f__law_book_of, f__law_true, f__law_open, f__law_follow, f__law_ends, f__law_line_world, f__law_accepts, f__law_drawn_string, f_law] "check_task" = f_check_task := by kernel_rfl
  have e_holds : adOf (rows.map (fun r : FRow => r.key)) [f_is_integer, f_is_between, f_is_number, f_is_sequence, f_is_flags, f_is_condition, f_is_steps, f_is_method, f_is_task_list, f_method_copy, f_Book___init__, f_Book_facts, f_Book_deeds, f_Book_tasks, f_Book___eq__, f_check_book, f_check_task, f_holds, f_methods_taken, f_is_string, f_ends_of_steps, f_accepts, f__law_so, f__law_numbers, f__law_draw, f__law_take, f__law_loose, f__law_set, f__law_cond, f__law_method, f__law_book, f__law_book_of, f__law_true, f__law_open, f__law_follow, f__law_ends, f__law_line_world, f__law_accepts, f__law_drawn_string, f_law] "holds" = f_holds := by kernel_rfl
  have e_methods_taken : adOf (rows.map (fun r : FRow => r.key)) [f_is_integer, f_is_between, f_is_number, f_is_sequence, f_is_flags, f_is_condition, f_is_steps, f_is_method, f_is_task_list, f_method_copy, f_Book___init__, f_Book_facts, f_Book_deeds, f_Book_tasks, f_Book___eq__, f_check_book, f_check_task, f_holds, f_methods_taken, f_is_string, f_ends_of_steps, f_accepts, f__law_so, f__law_numbers, f__law_draw, f__law_take, f__law_loose, f__law_set, f__law_cond, f__law_method, f__law_book, f__law_book_of, f__law_true, f__law_open, f__law_follow, f__law_ends, f__law_line_world, f__law_accepts, f__law_drawn_string, f_law] "methods_taken" = f_methods_taken := by kernel_rfl
  have e_is_string : adOf (rows.map (fun r : FRow => r.key)) [f_is_integer, f_is_between, f_is_number, f_is_sequence, f_is_flags, f_is_condition, f_is_steps, f_is_method, f_is_task_list, f_method_copy, f_Book___init__, f_Book_facts, f_Book_deeds, f_Book_tasks, f_Book___eq__, f_check_book, f_check_task, f_holds, f_methods_taken, f_is_string, f_ends_of_steps, f_accepts, f__law_so, f__law_numbers, f__law_draw, f__law_take, f__law_loose, f__law_set, f__law_cond, f__law_method, f__law_book, f__law_book_of, f__law_true, f__law_open, f__law_follow, f__law_ends, f__law_line_world, f__law_accepts, f__law_drawn_string, f_law] "is_string" = f_is_string := by kernel_rfl
  have e_ends_of_steps : adOf (rows.map (fun r : FRow => r.key)) [f_is_integer, f_is_between, f_is_number, f_is_sequence, f_is_flags, f_is_condition, f_is_steps, f_is_method, f_is_task_list, f_method_copy, f_Book___init__, f_Book_facts, f_Book_deeds, f_Book_tasks, f_Book___eq__, f_check_book, f_check_task, f_holds, f_methods_taken, f_is_string, f_ends_of_steps, f_accepts, f__law_so, f__law_numbers, f__law_draw, f__law_take, f__law_loose, f__law_set, f__law_cond, f__law_method, f__law_book, f__law_book_of, f__law_true, f__law_open, f__law_follow, f__law_ends, f__law_line_world, f__law_accepts, f__law_drawn_string, f_law] "ends_of_steps" = f_ends_of_steps := by kernel_rfl
  have e_accepts : adOf (rows.map (fun r : FRow => r.key)) [f_is_integer, f_is_between, f_is_number, f_is_sequence, f_is_flags, f_is_condition, f_is_steps, f_is_method, f_is_task_list, f_method_copy, f_Book___init__, f_Book_facts, f_Book_deeds, f_Book_tasks, f_Book___eq__, f_check_book, f_check_task, f_holds, f_methods_taken, f_is_string, f_ends_of_steps, f_accepts, f__law_so, f__law_numbers, f__law_draw, f__law_take, f__law_loose, f__law_set, f__law_cond, f__law_method, f__law_book, f__law_book_of, f__law_true, f__law_open, f__law_follow, f__law_ends, f__law_line_world, f__law_accepts, f__law_drawn_string, f_law] "accepts" = f_accepts := by kernel_rfl
  have e__law_so : adOf (rows.map (fun r : FRow => r.key)) [f_is_integer, f_is_between, f_is_number, f_is_sequence, f_is_flags, f_is_condition, f_is_steps, f_is_method, f_is_task_list, f_method_copy, f_Book___init__, f_Book_facts, f_Book_deeds, f_Book_tasks, f_Book___eq__, f_check_book, f_check_task, f_holds, f_methods_taken, f_is_string, f_ends_of_steps, f_accepts, f__law_so, f__law_numbers, f__law_draw, f__law_take, f__law_loose, f__law_set, f__law_cond, f__law_method, f__law_book, f__law_book_of, f__law_true, f__law_open, f__law_follow, f__law_ends, f__law_line_world, f__law_accepts, f__law_drawn_string, f_law] "_law_so" = f__law_so := by kernel_rfl
  have e__law_numbers : adOf (rows.map (fun r : FRow => r.key)) [f_is_integer, f_is_between, f_is_number, f_is_sequence, f_is_flags, f_is_condition, f_is_steps, f_is_method, f_is_task_list, f_method_copy, f_Book___init__, f_Book_facts, f_Book_deeds, f_Book_tasks, f_Book___eq__, f_check_book, f_check_task, f_holds, f_methods_taken, f_is_string, f_ends_of_steps, f_accepts, f__law_so, f__law_numbers, f__law_draw, f__law_take, f__law_loose, f__law_set, f__law_cond, f__law_method, f__law_book, f__law_book_of, f__law_true, f__law_open, f__law_follow, f__law_ends, f__law_line_world, f__law_accepts, f__law_drawn_string, f_law] "_law_numbers" = f__law_numbers := by kernel_rfl
  have e__law_draw : adOf (rows.map (fun r : FRow => r.key)) [f_is_integer, f_is_between, f_is_number, f_is_sequence, f_is_flags, f_is_condition, f_is_steps, f_is_method, f_is_task_list, f_method_copy, f_Book___init__, f_Book_facts, f_Book_deeds, f_Book_tasks, f_Book___eq__, f_check_book, f_check_task, f_holds, f_methods_taken, f_is_string, f_ends_of_steps, f_accepts, f__law_so, f__law_numbers, f__law_draw, f__law_take, f__law_loose, f__law_set, f__law_cond, f__law_method, f__law_book, f__law_book_of, f__law_true, f__law_open, f__law_follow, f__law_ends, f__law_line_world, f__law_accepts, f__law_drawn_string, f_law] "_law_draw" = f__law_draw := by kernel_rfl
  have e__law_take : adOf (rows.map (fun r : FRow => r.key)) [f_is_integer, f_is_between, f_is_number, f_is_sequence, f_is_flags, f_is_condition, f_is_steps, f_is_method, f_is_task_list, f_method_copy, f_Book___init__, f_Book_facts, f_Book_deeds, f_Book_tasks, f_Book___eq__, f_check_book, f_check_task, f_holds, f_methods_taken, f_is_string, f_ends_of_steps, f_accepts, f__law_so, f__law_numbers, f__law_draw, f__law_take, f__law_loose, f__law_set, f__law_cond, f__law_method, f__law_book, f__law_book_of, f__law_true, f__law_open, f__law_follow, f__law_ends, f__law_line_world, f__law_accepts, f__law_drawn_string, f_law] "_law_take" = f__law_take := by kernel_rfl
  have e__law_loose : adOf (rows.map (fun r : FRow => r.key)) [f_is_integer, f_is_between, f_is_number, f_is_sequence, f_is_flags, f_is_condition, f_is_steps, f_is_method, f_is_task_list, f_method_copy, f_Book___init__, f_Book_facts, f_Book_deeds, f_Book_tasks, f_Book___eq__, f_check_book, f_check_task, f_holds, f_methods_taken, f_is_string, f_ends_of_steps, f_accepts, f__law_so, f__law_numbers, f__law_draw, f__law_take, f__law_loose, f__law_set, f__law_cond, f__law_method, f__law_book, f__law_book_of, f__law_true, f__law_open, f__law_follow, f__law_ends, f__law_line_world, f__law_accepts, f__law_drawn_string, f_law] "_law_loose" = f__law_loose := by kernel_rfl
  have e__law_set : adOf (rows.map (fun r : FRow => r.key)) [f_is_integer, f_is_between, f_is_number, f_is_sequence, f_is_flags, f_is_condition, f_is_steps, f_is_method, f_is_task_list, f_method_copy, f_Book___init__, f_Book_facts, f_Book_deeds, f_Book_tasks, f_Book___eq__, f_check_book, f_check_task, f_holds, f_methods_taken, f_is_string, f_ends_of_steps, f_accepts, f__law_so, f__law_numbers, f__law_draw, f__law_take, f__law_loose, f__law_set, f__law_cond, f__law_method, f__law_book, f__law_book_of, f__law_true, f__law_open, f__law_follow, f__law_ends, f__law_line_world, f__law_accepts, f__law_drawn_string, f_law] "_law_set" = f__law_set := by kernel_rfl
  have e__law_cond : adOf (rows.map (fun r : FRow => r.key)) [f_is_integer, f_is_between, f_is_number, f_is_sequence, f_is_flags, f_is_condition, f_is_steps, f_is_method, f_is_task_list, f_method_copy, f_Book___init__, f_Book_facts, f_Book_deeds, f_Book_tasks, f_Book___eq__, f_check_book, f_check_task, f_holds, f_methods_taken, f_is_string, f_ends_of_steps, f_accepts, f__law_so, f__law_numbers, f__law_draw, f__law_take, f__law_loose, f__law_set, f__law_cond, f__law_method, f__law_book, f__law_book_of, f__law_true, f__law_open, f__law_follow, f__law_ends, f__law_line_world, f__law_accepts, f__law_drawn_string, f_law] "_law_cond" = f__law_cond := by kernel_rfl
  have e__law_method : adOf (rows.map (fun r : FRow => r.key)) [f_is_integer, f_is_between, f_is_number, f_is_sequence, f_is_flags, f_is_condition, f_is_steps, f_is_method, f_is_task_list, f_method_copy, f_Book___init__, f_Book_facts, f_Book_deeds, f_Book_tasks, f_Book___eq__, f_check_book, f_check_task, f_holds, f_methods_taken, f_is_string, f_ends_of_steps, f_accepts, f__law_so, f__law_numbers, f__law_draw, f__law_take, f__law_loose, f__law_set, f__law_cond, f__law_method, f__law_book, f__law_book_of, f__law_true, f__law_open, f__law_follow, f__law_ends, f__law_line_world, f__law_accepts, f__law_drawn_string, f_law] "_law_method" = f__law_method := by kernel_rfl
  have e__law_book : adOf (rows.map (fun r : FRow => r.key)) [f_is_integer, f_is_between, f_is_number, f_is_sequence, f_is_flags, f_is_condition, f_is_steps, f_is_method, f_is_task_list, f_method_copy, f_Book___init__, f_Book_facts, f_Book_deeds, f_Book_tasks, f_Book___eq__, f_check_book, f_check_task, f_holds, f_methods_taken, f_is_string, f_ends_of_steps, f_accepts, f__law_so, f__law_numbers, f__law_draw, f__law_take, f__law_loose, f__law_set, f__law_cond, f__law_method, f__law_book, f__law_book_of, f__law_true, f__law_open, f__law_follow, f__law_ends, f__law_line_world, f__law_accepts, f__law_drawn_string, f_law] "_law_book" = f__law_book := by kernel_rfl
  have e__law_book_of : adOf (rows.map (fun r : FRow => r.key)) [f_is_integer, f_is_between, f_is_number, f_is_sequence, f_is_flags, f_is_condition, f_is_steps, f_is_method, f_is_task_list, f_method_copy, f_Book___init__, f_Book_facts, f_Book_deeds, f_Book_tasks, f_Book___eq__, f_check_book, f_check_task, f_holds, f_methods_taken, f_is_string, f_ends_of_steps, f_accepts, f__law_so, f__law_numbers, f__law_draw, f__law_take, f__law_loose, f__law_set, f__law_cond, f__law_method, f__law_book, f__law_book_of, f__law_true, f__law_open, f__law_follow, f__law_ends, f__law_line_world, f__law_accepts, f__law_drawn_string, f_law] "_law_book_of" = f__law_book_of := by kernel_rfl
  have e__law_true : adOf (rows.map (fun r : FRow => r.key)) [f_is_integer, f_is_between, f_is_number, f_is_sequence, f_is_flags, f_is_condition, f_is_steps, f_is_method, f_is_task_list, f_method_copy, f_Book___init__, f_Book_facts, f_Book_deeds, f_Book_tasks, f_Book___eq__, f_check_book, f_check_task, f_holds, f_methods_taken, f_is_string, f_ends_of_steps, f_accepts, f__law_so, f__law_numbers, f__law_draw, f__law_take, f__law_loose, f__law_set, f__law_cond, f__law_method, f__law_book, f__law_book_of, f__law_true, f__law_open, f__law_follow, f__law_ends, f__law_line_world, f__law_accepts, f__law_drawn_string, f_law] "_law_true" = f__law_true := by kernel_rfl
  have e__law_open : adOf (rows.map (fun r : FRow => r.key)) [f_is_integer, f_is_between, f_is_number, f_is_sequence, f_is_flags, f_is_condition, f_is_steps, f_is_method, f_is_task_list, f_method_copy, f_Book___init__, f_Book_facts, f_Book_deeds, f_Book_tasks, f_Book___eq__, f_check_book, f_check_task, f_holds, f_methods_taken, f_is_string, f_ends_of_steps, f_accepts, f__law_so, f__law_numbers, f__law_draw, f__law_take, f__law_loose, f__law_set, f__law_cond, f__law_method, f__law_book, f__law_book_of, f__law_true, f__law_open, f__law_follow, f__law_ends, f__law_line_world, f__law_accepts, f__law_drawn_string, f_law] "_law_open" = f__law_open := by kernel_rfl
  have e__law_follow : adOf (rows.map (fun r : FRow => r.key)) [f_is_integer, f_is_between, f_is_number, f_is_sequence, f_is_flags, f_is_condition, f_is_steps, f_is_method, f_is_task_list, f_method_copy, f_Book___init__, f_Book_facts, f_Book_deeds, f_Book_tasks, f_Book___eq__, f_check_book, f_check_task, f_holds, f_methods_taken, f_is_string, f_ends_of_steps, f_accepts, f__law_so, f__law_numbers, f__law_draw, f__law_take, f__law_loose, f__law_set, f__law_cond, f__law_method, f__law_book, f__law_book_of, f__law_true, f__law_open, f__law_follow, f__law_ends, f__law_line_world, f__law_accepts, f__law_drawn_string, f_law] "_law_follow" = f__law_follow := by kernel_rfl
  have e__law_ends : adOf (rows.map (fun r : FRow => r.key)) [f_is_integer, f_is_between, f_is_number, f_is_sequence, f_is_flags, f_is_condition, f_is_steps, f_is_method, f_is_task_list, f_method_copy, f_Book___init__, f_Book_facts, f_Book_deeds, f_Book_tasks, f_Book___eq__, f_check_book, f_check_task, f_holds, f_methods_taken, f_is_string, f_ends_of_steps, f_accepts, f__law_so, f__law_numbers, f__law_draw, f__law_take, f__law_loose, f__law_set, f__law_cond, f__law_method, f__law_book, f__law_book_of, f__law_true, f__law_open, f__law_follow, f__law_ends, f__law_line_world, f__law_accepts, f__law_drawn_string, f_law] "_law_ends" = f__law_ends := by kernel_rfl
  have e__law_line_world : adOf (rows.map (fun r : FRow => r.key)) [f_is_integer, f_is_between, f_is_number, f_is_sequence, f_is_flags, f_is_condition, f_is_steps, f_is_method, f_is_task_list, f_method_copy, f_Book___init__, f_Book_facts, f_Book_deeds, f_Book_tasks, f_Book___eq__, f_check_book, f_check_task, f_holds, f_methods_taken, f_is_string, f_ends_of_steps, f_accepts, f__law_so, f__law_numbers, f__law_draw, f__law_take, f__law_loose, f__law_set, f__law_cond, f__law_method, f__law_book, f__law_book_of, f__law_true, f__law_open, f__law_follow, f__law_ends, f__law_line_world, f__law_accepts, f__law_drawn_string, f_law] "_law_line_world" = f__law_line_world := by kernel_rfl
  have e__law_accepts : adOf (rows.map (fun r : FRow => r.key)) [f_is_integer, f_is_between, f_is_number, f_is_sequence, f_is_flags, f_is_condition, f_is_steps, f_is_method, f_is_task_list, f_method_copy, f_Book___init__, f_Book_facts, f_Book_deeds, f_Book_tasks, f_Book___eq__, f_check_book, f_check_task, f_holds, f_methods_taken, f_is_string, f_ends_of_steps, f_accepts, f__law_so, f__law_numbers, f__law_draw, f__law_take, f__law_loose, f__law_set, f__law_cond, f__law_method, f__law_book, f__law_book_of, f__law_true, f__law_open, f__law_follow, f__law_ends, f__law_line_world, f__law_accepts, f__law_drawn_string, f_law] "_law_accepts" = f__law_accepts := by kernel_rfl
  have e__law_drawn_string : adOf (rows.map (fun r : FRow => r.key)) [f_is_integer, f_is_between, f_is_number, f_is_sequence, f_is_flags, f_is_condition, f_is_steps, f_is_method, f_is_task_list, f_method_copy, f_Book___init__, f_Book_facts, f_Book_deeds, f_Book_tasks, f_Book___eq__, f_check_book, f_check_task, f_holds, f_methods_taken, f_is_string, f_ends_of_steps, f_accepts, f__law_so, f__law_numbers, f__law_draw, f__law_take, f__law_loose, f__law_set, f__law_cond, f__law_method, f__law_book, f__law_book_of, f__law_true, f__law_open, f__law_follow, f__law_ends, f__law_line_world, f__law_accepts, f__law_drawn_string, f_law] "_law_drawn_string" = f__law_drawn_string := by kernel_rfl
  have e_law : adOf (rows.map (fun r : FRow => r.key)) [f_is_integer, f_is_between, f_is_number, f_is_sequence, f_is_flags, f_is_condition, f_is_steps, f_is_method, f_is_task_list, f_method_copy, f_Book___init__, f_Book_facts, f_Book_deeds, f_Book_tasks, f_Book___eq__, f_check_book, f_check_task, f_holds, f_methods_taken, f_is_string, f_ends_of_steps, f_accepts, f__law_so, f__law_numbers, f__law_draw, f__law_take, f__law_loose, f__law_set, f__law_cond, f__law_method, f__law_book, f__law_book_of, f__law_true, f__law_open, f__law_follow, f__law_ends, f__law_line_world, f__law_accepts, f__law_drawn_string, f_law] "law" = f_law := by kernel_rfl
  have A_Book : ClsAt K mg (adOf (rows.map (fun r : FRow => r.key)) [f_is_integer, f_is_between, f_is_number, f_is_sequence, f_is_flags, f_is_condition, f_is_steps, f_is_method, f_is_task_list, f_method_copy, f_Book___init__, f_Book_facts, f_Book_deeds, f_Book_tasks, f_Book___eq__, f_check_book, f_check_task, f_holds, f_methods_taken, f_is_string, f_ends_of_steps, f_accepts, f__law_so, f__law_numbers, f__law_draw, f__law_take, f__law_loose, f__law_set, f__law_cond, f__law_method, f__law_book, f__law_book_of, f__law_true, f__law_open, f__law_follow, f__law_ends, f__law_line_world, f__law_accepts, f__law_drawn_string, f_law]) ⟨"Book", some "Book.__init__", ["_facts", "_deeds", "_tasks"], [("facts", "Book.facts"), ("deeds", "Book.deeds"), ("tasks", "Book.tasks")], [("__eq__", "Book.__eq__")]⟩ C_Book := by
    refine ⟨PySem.W.mg_of X G g_Book, ⟨cp_Book, ch_Book, co_Book, cs_Book⟩, fun i hi => ?_, ?_, ?_, ?_⟩
    · cases hi; rw [e_Book___init__]; exact ⟨cm_Book, ni_Book, if_Book, ck_Book⟩
    · exact all_cons nf_Book__facts <| all_cons nf_Book__deeds <| all_cons nf_Book__tasks <|  all_nil
    · exact all_cons ⟨P_Book_facts, pa_Book_facts, pg_Book_facts, pt_Book_facts, w_Book_facts, by rw [e_Book_facts]; exact pr_Book_facts⟩ <| all_cons ⟨P_Book_deeds, pa_Book_deeds, pg_Book_deeds, pt_Book_deeds, w_Book_deeds, by rw [e_Book_deeds]; exact pr_Book_deeds⟩ <| all_cons ⟨P_Book_tasks, pa_Book_tasks, pg_Book_tasks, pt_Book_tasks, w_Book_tasks, by rw [e_Book_tasks]; exact pr_Book_tasks⟩ <|  all_nil
    · exact all_cons (by rw [e_Book___eq__]; exact ⟨me_Book___eq__, mf_Book___eq__, k_Book___eq__⟩) <|  all_nil
  have K_Book : ClsK K C_Book := ⟨ib0_Book, ib1_Book, ib2_Book, ib3_Book, ib4_Book, io0_Book, io1_Book, io2_Book, io3_Book, io4_Book, io5_Book, io6_Book, ic_Book, it_Book, iz_Book, im_Book, ⟨cp_Book, ch_Book, co_Book, cs_Book⟩⟩
  have CA : ClssAt K mg (adOf (rows.map (fun r : FRow => r.key)) [f_is_integer, f_is_between, f_is_number, f_is_sequence, f_is_flags, f_is_condition, f_is_steps, f_is_method, f_is_task_list, f_method_copy, f_Book___init__, f_Book_facts, f_Book_deeds, f_Book_tasks, f_Book___eq__, f_check_book, f_check_task, f_holds, f_methods_taken, f_is_string, f_ends_of_steps, f_accepts, f__law_so, f__law_numbers, f__law_draw, f__law_take, f__law_loose, f__law_set, f__law_cond, f__law_method, f__law_book, f__law_book_of, f__law_true, f__law_open, f__law_follow, f__law_ends, f__law_line_world, f__law_accepts, f__law_drawn_string, f_law]) clss [C_Book] := by unfold clss; exact .cons A_Book <|  .nil
  have E_BadValue : ExcK K X_BadValue := ⟨⟨xa_BadValue, xn_BadValue, xe_BadValue, xh_BadValue⟩, xt_BadValue⟩
  have E_BadMethod : ExcK K X_BadMethod := ⟨⟨xa_BadMethod, xn_BadMethod, xe_BadMethod, xh_BadMethod⟩, xt_BadMethod⟩
  have T_BadValue : XAt K mg (cmOf (clss.map (fun c : CRow => c.name)) [C_Book] ["BadValue", "BadMethod"] [X_BadValue, X_BadMethod]) x_BadValue := by
    obtain ⟨fd, q1, q2⟩ := xbind_mk (r := x_BadValue) (fun _ _ _ _ _ _ us hl => match us, hl with | [_, _], _ => rfl) xl_BadValue xc_BadValue xy_BadValue
    exact ⟨X_BadValue, fx_BadValue, fd, (by kernel_rfl : cmOf (clss.map (fun c : CRow => c.name)) [C_Book] ["BadValue", "BadMethod"] [X_BadValue, X_BadMethod] ("BadValue", false) = some (.ref X_BadValue)), PySem.W.mg_of X G xg_BadValue, ⟨xi_BadValue, xo_BadValue, xs_BadValue, E_BadValue.xf, xt_BadValue, xk_BadValue⟩, xf_BadValue, xq_BadValue, q1, q2, all_cons xz_BadValue_at <|  all_nil⟩
  have T_BadMethod : XAt K mg (cmOf (clss.map (fun c : CRow => c.name)) [C_Book] ["BadValue", "BadMethod"] [X_BadValue, X_BadMethod]) x_BadMethod := by
    obtain ⟨fd, q1, q2⟩ := xbind_mk (r := x_BadMethod) (fun _ _ _ _ _ _ us hl => match us, hl with | [_, _, _], _ => rfl) xl_BadMethod xc_BadMethod xy_BadMethod
    exact ⟨X_BadMethod, fx_BadMethod, fd, (by kernel_rfl : cmOf (clss.map (fun c : CRow => c.name)) [C_Book] ["BadValue", "BadMethod"] [X_BadValue, X_BadMethod] ("BadMethod", false) = some (.ref X_BadMethod)), PySem.W.mg_of X G xg_BadMethod, ⟨xi_BadMethod, xo_BadMethod, xs_BadMethod, E_BadMethod.xf, xt_BadMethod, xk_BadMethod⟩, xf_BadMethod, xq_BadMethod, q1, q2, all_cons xz_BadMethod_task <| all_cons xz_BadMethod_method <|  all_nil⟩
  have PX : PairsX K isaL ["BadValue", "BadMethod"] [X_BadValue, X_BadMethod] ["BadValue", "BadMethod"] [X_BadValue, X_BadMethod] := ⟨⟨(by rw [show isaL.contains ("BadValue", "BadValue") = true from by decide +kernel]; exact xp_BadValue_BadValue), ⟨(by rw [show isaL.contains ("BadValue", "BadMethod") = false from by decide +kernel]; exact xp_BadValue_BadMethod), trivial⟩⟩, ⟨⟨(by rw [show isaL.contains ("BadMethod", "BadValue") = false from by decide +kernel]; exact xp_BadMethod_BadValue), ⟨(by rw [show isaL.contains ("BadMethod", "BadMethod") = true from by decide +kernel]; exact xp_BadMethod_BadMethod), trivial⟩⟩, trivial⟩⟩
  refine ⟨cmOf (clss.map (fun c : CRow => c.name)) [C_Book] ["BadValue", "BadMethod"] [X_BadValue, X_BadMethod], adOf (rows.map (fun r : FRow => r.key)) [f_is_integer, f_is_between, f_is_number, f_is_sequence, f_is_flags, f_is_condition, f_is_steps, f_is_method, f_is_task_list, f_method_copy, f_Book___init__, f_Book_facts, f_Book_deeds, f_Book_tasks, f_Book___eq__, f_check_book, f_check_task, f_holds, f_methods_taken, f_is_string, f_ends_of_steps, f_accepts, f__law_so, f__law_numbers, f__law_draw, f__law_take, f__law_loose, f__law_set, f__law_cond, f__law_method, f__law_book, f__law_book_of, f__law_true, f__law_open, f__law_follow, f__law_ends, f__law_line_world, f__law_accepts, f__law_drawn_string, f_law], ⟨reads, rowsAt_ad R nk, nk, clssAt_cm CA nc, nc, ini_of (by decide +kernel), isi_of (all_cons K_Book <|  all_nil) ⟨trivial, trivial⟩ nc y1 y2, all_cons ⟨.int 4, _, PySem.W.mg_of X G v_MOST_FACTS, ⟨_, rfl⟩, fun _ _ => rep_mkI⟩ <| all_cons ⟨.int 5, _, PySem.W.mg_of X G v_MOST_DEEDS, ⟨_, rfl⟩, fun _ _ => rep_mkI⟩ <| all_cons ⟨.int 6, _, PySem.W.mg_of X G v_MOST_TASKS, ⟨_, rfl⟩, fun _ _ => rep_mkI⟩ <| all_cons ⟨.int 5, _, PySem.W.mg_of X G v_MOST_METHODS, ⟨_, rfl⟩, fun _ _ => rep_mkI⟩ <| all_cons ⟨.int 5, _, PySem.W.mg_of X G v_MOST_STEPS, ⟨_, rfl⟩, fun _ _ => rep_mkI⟩ <| all_cons ⟨.int 40, _, PySem.W.mg_of X G v_MOST_STRING_DEEDS, ⟨_, rfl⟩, fun _ _ => rep_mkI⟩ <|  all_nil, all_cons (blt_of X G z_len) <| all_cons (blt_of X G z_isinstance) <| all_cons (blt_of X G z_tuple) <| all_cons (blt_of X G z_int) <| all_cons (blt_of X G z_list) <| all_cons (blt_of X G z_sorted) <| all_cons (blt_of X G z_sum) <| all_cons (blt_of X G z_any) <| all_cons (blt_of X G z_all) <| all_cons (blt_of X G z_range) <| all_cons (blt_of X G z_reversed) <| all_cons (blt_of X G z_enumerate) <| all_cons (blt_of X G z_zip) <| all_cons (blt_of X G z_bool) <| all_cons (blt_of X G z_str) <|  all_nil, rfl, (by show ∀ r ∈ xrs, _; unfold xrs; exact all_cons ⟨ox_BadValue, T_BadValue⟩ <| all_cons ⟨ox_BadMethod, T_BadMethod⟩ <|  all_nil), by decide +kernel,  all_nil, kwb_of kwb_ok, xa_of (all_cons E_BadValue <| all_cons E_BadMethod <|  all_nil) PX⟩, cmOf_mem (T := tab)⟩
end
end Lw
/-! P0: what the small text computes, as rows to rewrite with. -/
namespace Mi
open PySem
section
variable (Γ : Gam) (ρ : Env') (μ : Mem)
@[simp] theorem s_var (i : Nat) : evE Γ (.var i) ρ μ = match ρ[i]? with
  | some (some d) => .ok d μ
  | _ => .bad := rfl
@[simp] theorem s_con (d : D) : evE Γ (.con d) ρ μ = .ok d μ := rfl
@[simp] theorem s_glob (x : Str) : evE Γ (.glob x) ρ μ = Res.ofO (Γ.cst x) μ := rfl
@[simp] theorem s_bin (op : BOp) (a b : ME) : evE Γ (.bin op a b) ρ μ = (evE Γ a ρ μ).bind fun x μ1 => (evE Γ b ρ μ1).bind fun y μ2 => binD op x y μ2 := rfl
@[simp] theorem s_neg (a : ME) : evE Γ (.neg a) ρ μ = (evE Γ a ρ μ).bind fun x μ1 => match x with
    | .int i => .ok (.int (-i)) μ1
    | _ => .bad := rfl
@[simp] theorem s_cmp (op : COp) (a b : ME) : evE Γ (.cmp op a b) ρ μ = (evE Γ a ρ μ).bind fun x μ1 => (evE Γ b ρ μ1).bind fun y μ2 => Res.ofO ((cmpD op x y μ2).map D.bl) μ2 := rfl
@[simp] theorem s_chain (o1 o2 : COp) (a b c : ME) : evE Γ (.chain o1 o2 a b c) ρ μ = (evE Γ a ρ μ).bind fun x μ1 => (evE Γ b ρ μ1).bind fun y μ2 => (Res.ofO (cmpD o1 x y μ2) μ2).bind fun t μ3 =>
      if t then (evE Γ c ρ μ3).bind fun z μ4 => Res.ofO ((cmpD o2 y z μ4).map D.bl) μ4 else .ok (.bl false) μ3 := rfl
@[simp] theorem s_and (a b : ME) : evE Γ (.and a b) ρ μ = (evE Γ a ρ μ).bind fun x μ1 => (Res.ofO (truthD x μ1) μ1).bind fun t μ2 => if t then evE Γ b ρ μ2 else .ok x μ2 := rfl
@[simp] theorem s_or (a b : ME) : evE Γ (.or a b) ρ μ = (evE Γ a ρ μ).bind fun x μ1 => (Res.ofO (truthD x μ1) μ1).bind fun t μ2 => if t then .ok x μ2 else evE Γ b ρ μ2 := rfl
@[simp] theorem s_not (a : ME) : evE Γ (.not a) ρ μ = (evE Γ a ρ μ).bind fun x μ1 => (Res.ofO (truthD x μ1) μ1).bind fun t μ2 => .ok (.bl (!t)) μ2 := rfl
@[simp] theorem s_ite (c a b : ME) : evE Γ (.ite c a b) ρ μ = (evE Γ c ρ μ).bind fun x μ1 => (Res.ofO (truthD x μ1) μ1).bind fun t μ2 => if t then evE Γ a ρ μ2 else evE Γ b ρ μ2 := rfl
@[simp] theorem s_tup (es : MEs) : evE Γ (.tup es) ρ μ = (evEs Γ es ρ μ).bind fun ds μ1 => if ds.length ≤ lim then .ok (.tup ds) μ1 else .bad := rfl
@[simp] theorem s_dnewT : evE Γ .dnewT ρ μ = alloc (.dct false []) μ := rfl
@[simp] theorem s_dnew : evE Γ .dnew ρ μ = alloc (.dic []) μ := rfl
@[simp] theorem s_sortedD (e : ME) : evM Γ (.sortedD e) ρ μ = (evE Γ e ρ μ).bind fun x μ1 => sortD x μ1 := rfl
@[simp] theorem s_lst (m : MM) : evE Γ (.lst m) ρ μ = (evM Γ m ρ μ).bind fun ds μ1 => alloc (.lst ds) μ1 := rfl
@[simp] theorem s_tupOf (l : ML) : evE Γ (.tupOf l) ρ μ = (evL Γ l ρ μ).bind fun r μ1 => .ok (.tup r.ds) μ1 := rfl
@[simp] theorem s_sub (a i : ME) : evE Γ (.sub a i) ρ μ = (evE Γ a ρ μ).bind fun x μ1 => (evE Γ i ρ μ1).bind fun y μ2 => Res.ofO (subD x y μ2) μ2 := rfl
@[simp] theorem s_inL (neg : Bool) (a : ME) (l : ML) : evE Γ (.inL neg a l) ρ μ = (evE Γ a ρ μ).bind fun x μ1 => (evL Γ l ρ μ1).bind fun r μ2 =>
      if pureD lev x && pureDs lev r.ds then .ok (.bl (xor neg (r.ds.any fun z => eqD z x))) μ2 else .bad := rfl
@[simp] theorem s_sumL (l : ML) : evE Γ (.sumL l) ρ μ = (evL Γ l ρ μ).bind fun r μ1 => if r.tup then .bad else Res.ofO ((intsOf r.ds).map fun is => D.int (sum1 is)) μ1 := rfl
@[simp] theorem s_anyL (l : ML) : evE Γ (.anyL l) ρ μ = (evL Γ l ρ μ).bind fun r μ1 => if r.tup then .bad else Res.ofO ((blsOf r.ds).map fun bs => D.bl (bs.any id)) μ1 := rfl
@[simp] theorem s_allL (l : ML) : evE Γ (.allL l) ρ μ = (evL Γ l ρ μ).bind fun r μ1 => if r.tup then .bad else Res.ofO ((blsOf r.ds).map fun bs => D.bl (bs.all id)) μ1 := rfl
@[simp] theorem s_lenL (l : ML) : evE Γ (.lenL l) ρ μ = (evL Γ l ρ μ).bind fun r μ1 => .ok (.int r.ds.length) μ1 := rfl
@[simp] theorem s_sl (a : ME) (lo hi : MEo) : evE Γ (.sl a lo hi) ρ μ = (evE Γ a ρ μ).bind fun x μ1 => (evO Γ lo ρ μ1).bind fun l μ2 => (evO Γ hi ρ μ2).bind fun h μ3 => slD x l h μ3 := rfl
@[simp] theorem s_rev (a : ME) : evE Γ (.rev a) ρ μ = (evE Γ a ρ μ).bind fun x μ1 => match x with
    | .ref n => match μ1[n]? with
      | some (.lst ds) => alloc (.lst ds.reverse) μ1
      | _ => .bad
    | .tup ds => .ok (.tup ds.reverse) μ1
    | _ => .bad := rfl
@[simp] theorem s_eqo (a b : ME) : evE Γ (.eqo a b) ρ μ = (evE Γ a ρ μ).bind fun x μ1 => (evE Γ b ρ μ1).bind fun y μ2 => eqI Γ x y μ2 := rfl
@[simp] theorem s_att (a : ME) (f : Str) : evE Γ (.att a f) ρ μ = (evE Γ a ρ μ).bind fun x μ1 => match x with
    | .ref n => match μ1[n]? with
      | some (.ins C fs) => match Γ.prop C f with
        | some g => (Γ.fn g [.ref n] μ1).noex
        | none => if Γ.fld C f then Res.ofO (fldD fs f) μ1 else .bad
      | _ => .bad
    | _ => .bad := rfl
@[simp] theorem s_call (f : Str) (es : MEs) : evE Γ (.call f es) ρ μ = (evEs Γ es ρ μ).bind fun ds μ1 => Γ.fn f ds μ1 := rfl
@[simp] theorem s_new (C : Str) (es : MEs) : evE Γ (.new C es) ρ μ = (evEs Γ es ρ μ).bind fun ds μ1 => match Γ.init C with
    | some g => (Γ.fn g (.ref μ1.length :: ds) (μ1 ++ [.ins C []])).bind fun d μ2 => if d = .non then .ok (.ref μ1.length) μ2 else .bad
    | none => .bad := rfl
@[simp] theorem s_ocall (o : ME) (m : Str) (es : MEs) : evE Γ (.ocall o m es) ρ μ = (evE Γ o ρ μ).bind fun x μ1 => match x with
    | .ref n => match μ1[n]? with
      | some (.ins C fs) => match Γ.meth C m, fldD fs m with
        | some g, none => (evEs Γ es ρ μ1).bind fun ds μ2 => Γ.fn g (.ref n :: ds) μ2
        | _, _ => .bad
      | _ => .bad
    | _ => .bad := rfl
@[simp] theorem s_bi (b : Bi) (a : ME) : evE Γ (.bi b a) ρ μ = (evE Γ a ρ μ).bind fun x μ1 => match biD b x μ1 with
  | some d => .ok d μ1
  | none => match b with
    | .len => lenI Γ x μ1
    | .int => .bad := rfl
@[simp] theorem s_isi (a : ME) (ts : List Ty) : evE Γ (.isi a ts) ρ μ = (evE Γ a ρ μ).bind fun x μ1 => Res.ofO ((isTys x μ1 ts).map D.bl) μ1 := rfl
@[simp] theorem s_mt (m : Mt) (o : ME) (es : MEs) : evE Γ (.mt m o es) ρ μ = (evE Γ o ρ μ).bind fun x μ1 => if isLst x μ1 then (evEs Γ es ρ μ1).bind fun ds μ2 => mtD m x ds μ2 else .bad := rfl
@[simp] theorem s_nil : evEs Γ .nil ρ μ = .ok [] μ := rfl
@[simp] theorem s_cons (e : ME) (es : MEs) : evEs Γ (.cons e es) ρ μ = (evE Γ e ρ μ).bind fun x μ1 => (evEs Γ es ρ μ1).bind fun xs μ2 => .ok (x :: xs) μ2 := rfl
@[simp] theorem s_no : evO Γ .no ρ μ = .ok none μ := rfl
@[simp] theorem s_so (e : ME) : evO Γ (.so e) ρ μ = (evE Γ e ρ μ).bind fun x μ1 => match x with
    | .int i => .ok (some i) μ1
    | _ => .bad := rfl
@[simp] theorem s_disp (es : MEs) : evM Γ (.disp es) ρ μ = (evEs Γ es ρ μ).bind fun ds μ1 => if ds.length ≤ lim then .ok ds μ1 else .bad := rfl
@[simp] theorem s_copy (l : ML) : evM Γ (.copy l) ρ μ = (evL Γ l ρ μ).bind fun r μ1 => .ok r.ds μ1 := rfl
@[simp] theorem s_mk (m : MM) : evL Γ (.mk' m) ρ μ = (evM Γ m ρ μ).bind fun ds μ1 => .ok ⟨ds, [], false⟩ μ1 := rfl
@[simp] theorem s_val (e : ME) : evL Γ (.val e) ρ μ = (evE Γ e ρ μ).bind fun x μ1 => Res.ofO (itsOf x μ1) μ1 := rfl
@[simp] theorem s_l (l : ML) : evI Γ (.l l) ρ μ = evL Γ l ρ μ := rfl
def rngBig (j : Int) (μ1 : Mem) : Res Its := if -(2 ^ 62) ≤ j ∧ j < 2 ^ 62 then .ok ⟨rngD 0 j.toNat, [], false⟩ μ1 else .bad
/-- what range(x) walks -/
def rngOf (x : D) (μ1 : Mem) : Res Its := match x with
    | .int j => if j.natAbs ≤ 1000000 then .ok ⟨rngD 0 j.toNat, [], false⟩ μ1 else rngBig j μ1
    | _ => .bad
theorem rng_eq (x : D) (μ1 : Mem) : (match x with
    | .int j => if -(2 ^ 62) ≤ j ∧ j < 2 ^ 62 then Res.ok ⟨rngD 0 j.toNat, [], false⟩ μ1 else Res.bad
    | _ => Res.bad) = rngOf x μ1 := by
  cases x with
  | int j =>
    show rngBig j μ1 = if j.natAbs ≤ 1000000 then Res.ok ⟨rngD 0 j.toNat, [], false⟩ μ1 else rngBig j μ1
    by_cases h : j.natAbs ≤ 1000000
    · rw [if_pos h]
      unfold rngBig
      have e1 : (-(2 ^ 62) : Int) ≤ -1000000 := by decide
      have e2 : (1000000 : Int) < 2 ^ 62 := by decide
      have h1 : (-1000000 : Int) ≤ j := by omega
      have h2 : j ≤ 1000000 := by omega
      exact if_pos ⟨Int.le_trans e1 h1, Int.lt_of_le_of_lt h2 e2⟩
    · rw [if_neg h]
  | _ => rfl
@[simp] theorem s_rng1 (a : ME) : evI Γ (.rng1 a) ρ μ = (evE Γ a ρ μ).bind fun x μ1 => rngOf x μ1 := by
  have e : evI Γ (.rng1 a) ρ μ = (evE Γ a ρ μ).bind fun x μ1 => match x with
    | .int j => if -(2 ^ 62) ≤ j ∧ j < 2 ^ 62 then Res.ok ⟨rngD 0 j.toNat, [], false⟩ μ1 else Res.bad
    | _ => Res.bad := rfl
  rw [e]
  congr 1
  funext x μ1
  exact rng_eq x μ1
theorem rng_small {j : Int} (h0 : 0 ≤ j) (h1 : j ≤ 1000000) : rngOf (.int j) μ = .ok ⟨rngD 0 j.toNat, [], false⟩ μ := by
  show (if j.natAbs ≤ 1000000 then Res.ok ⟨rngD 0 j.toNat, [], false⟩ μ else rngBig j μ) = _
  exact if_pos (by omega)
@[simp] theorem s_rrng (a : ME) : evI Γ (.rrng a) ρ μ = (evE Γ a ρ μ).bind fun x μ1 => (rngOf x μ1).bind fun r μ2 => .ok ⟨r.ds.reverse, r.own, false⟩ μ2 := by
  have e : evI Γ (.rrng a) ρ μ = (evE Γ a ρ μ).bind fun x μ1 => match x with
    | .int j => if -(2 ^ 62) ≤ j ∧ j < 2 ^ 62 then Res.ok ⟨(rngD 0 j.toNat).reverse, [], false⟩ μ1 else Res.bad
    | _ => Res.bad := rfl
  rw [e]
  congr 1
  funext x μ1
  rw [← rng_eq x μ1]
  cases x with
  | int j => dsimp only; split <;> rfl
  | _ => rfl
@[simp] theorem s_enum (l : ML) : evI Γ (.enum l) ρ μ = (evL Γ l ρ μ).bind fun r μ1 => .ok ⟨enumD 0 r.ds, r.own, false⟩ μ1 := rfl
@[simp] theorem s_cno : evC Γ .no ρ μ = .ok true μ := rfl
@[simp] theorem s_cso (e : ME) : evC Γ (.so e) ρ μ = (evE Γ e ρ μ).bind fun x μ1 => Res.ofO (truthD x μ1) μ1 := rfl
/-- a comprehension: its steps -/
def cStep (own : List Nat) (tg : Tg) (c : MEo) (elt : ME) (ρ : Env') : D → Mem → Res (Option D) := fun d μ2 => match asgn tg d (wipeE ρ own) μ2 with
        | none => .bad
        | some ρ1 => ((evC Γ c ρ1 μ2).bind fun t μ3 => if t then (evE Γ elt ρ1 μ3).bind fun x μ4 => .ok (some x) μ4 else .ok none μ3).noex
@[simp] theorem s_comp (own : List Nat) (tg : Tg) (it : MI) (c : MEo) (elt : ME) : evM Γ (.comp own tg it c elt) ρ μ = (evI Γ it ρ μ).bind fun r μ1 => compL (cStep Γ own tg c elt ρ) r.own 0 r.ds μ1 := rfl
@[simp] theorem x_ex (e : ME) : exS Γ (.ex e) ρ μ = (evE Γ e ρ μ).to ρ fun _ μ1 => .nx ρ μ1 := rfl
@[simp] theorem x_asg (tg : Tg) (e : ME) : exS Γ (.asg tg e) ρ μ = (evE Γ e ρ μ).to ρ fun d μ1 => match asgn tg d ρ μ1 with
    | some ρ1 => .nx ρ1 μ1
    | none => .bad := rfl
@[simp] theorem x_asgSub (o i e : ME) : exS Γ (.asgSub o i e) ρ μ = (evE Γ e ρ μ).to ρ fun v μ1 => (evE Γ o ρ μ1).to ρ fun x μ2 => (evE Γ i ρ μ2).to ρ fun y μ3 => match setD x y v μ3 with
    | some μ4 => .nx ρ μ4
    | none => .bad := rfl
@[simp] theorem x_asgFld (o : ME) (f : Str) (e : ME) : exS Γ (.asgFld o f e) ρ μ = (evE Γ e ρ μ).to ρ fun v μ1 => (evE Γ o ρ μ1).to ρ fun x μ2 => match x with
    | .ref n => match μ2[n]? with
      | some (.ins C fs) => if Γ.fld C f ∧ fs.length < 900 then .nx ρ (μ2.set n (.ins C (putFld fs f v))) else .bad
      | _ => .bad
    | _ => .bad := rfl
@[simp] theorem x_aug (i : Nat) (op : BOp) (e : ME) : exS Γ (.aug i op e) ρ μ = match ρ[i]? with
    | some (some x) => (evE Γ e ρ μ).to ρ fun y μ1 => (match x, y with
      | .int a, .int b => Res.ofO ((binI op a b).map D.int) μ1
      | _, _ => .bad).to ρ fun z μ2 => .nx (setE ρ i z) μ2
    | _ => .bad := rfl
@[simp] theorem x_ret (e : ME) : exS Γ (.ret e) ρ μ = (evE Γ e ρ μ).to ρ fun d μ1 => .rt d μ1 := rfl
@[simp] theorem x_retN : exS Γ .retN ρ μ = .rt .non μ := rfl
@[simp] theorem x_ife (c : ME) (a b : MSs) : exS Γ (.ife c a b) ρ μ = (evE Γ c ρ μ).to ρ fun x μ1 => (Res.ofO (truthD x μ1) μ1).to ρ fun t μ2 => if t then exSs Γ a ρ μ2 else exSs Γ b ρ μ2 := rfl
/-- a loop's body -/
def fBody (b : MSs) : Env' → Mem → Out := fun ρ μ => exSs Γ b ρ μ
@[simp] theorem x_for (tg : Tg) (it : MI) (b : MSs) : exS Γ (.forE tg it b) ρ μ = (evI Γ it ρ μ).to ρ fun r μ1 => forL (fBody Γ b) tg r.own r.ds ρ μ1 := rfl
@[simp] theorem x_forD (i : Nat) (tg : Tg) (b : MSs) : exS Γ (.forD tg i b) ρ μ = rForD i tg (fBody Γ b) ρ μ := rfl
@[simp] theorem x_brk : exS Γ .brk ρ μ = .br ρ μ := rfl
@[simp] theorem x_cnt : exS Γ .cnt ρ μ = .ct ρ μ := rfl
@[simp] theorem x_pas : exS Γ .pas ρ μ = .nx ρ μ := rfl
@[simp] theorem x_nil : exSs Γ .nil ρ μ = .nx ρ μ := rfl
@[simp] theorem x_cons (s : MS) (ss : MSs) : exSs Γ (.cons s ss) ρ μ = (exS Γ s ρ μ).thn fun ρ1 μ1 => exSs Γ ss ρ1 μ1 := rfl
end
@[simp] theorem o_nx (ρ : Env') (μ : Mem) (f : Env' → Mem → Out) : (Out.nx ρ μ).thn f = f ρ μ := rfl
@[simp] theorem o_rt (d : D) (μ : Mem) (f : Env' → Mem → Out) : (Out.rt d μ).thn f = .rt d μ := rfl
@[simp] theorem o_br (ρ : Env') (μ : Mem) (f : Env' → Mem → Out) : (Out.br ρ μ).thn f = .br ρ μ := rfl
@[simp] theorem o_ct (ρ : Env') (μ : Mem) (f : Env' → Mem → Out) : (Out.ct ρ μ).thn f = .ct ρ μ := rfl
@[simp] theorem o_bad (f : Env' → Mem → Out) : Out.bad.thn f = .bad := rfl
@[simp] theorem t_non (μ : Mem) : truthD .non μ = some false := rfl
@[simp] theorem t_bl (b : Bool) (μ : Mem) : truthD (.bl b) μ = some b := rfl
@[simp] theorem t_int (i : Int) (μ : Mem) : truthD (.int i) μ = some (decide (i ≠ 0)) := rfl
@[simp] theorem c_lt (i j : Int) (μ : Mem) : cmpD .lt (.int i) (.int j) μ = some (decide (i < j)) := rfl
@[simp] theorem c_le (i j : Int) (μ : Mem) : cmpD .le (.int i) (.int j) μ = some (decide (i ≤ j)) := rfl
@[simp] theorem c_gt (i j : Int) (μ : Mem) : cmpD .gt (.int i) (.int j) μ = some (decide (j < i)) := rfl
@[simp] theorem c_ge (i j : Int) (μ : Mem) : cmpD .ge (.int i) (.int j) μ = some (decide (j ≤ i)) := rfl
@[simp] theorem c_eqI (i j : Int) (μ : Mem) : cmpD .eq (.int i) (.int j) μ = some (i == j) := rfl
@[simp] theorem c_neI (i j : Int) (μ : Mem) : cmpD .ne (.int i) (.int j) μ = some (!(i == j)) := rfl
@[simp] theorem c_isN (x : D) (μ : Mem) : cmpD .isN x .non μ = some (decide (x = .non)) := rfl
@[simp] theorem c_notN (x : D) (μ : Mem) : cmpD .notN x .non μ = some (!decide (x = .non)) := rfl
@[simp] theorem b_add (i j : Int) (μ : Mem) : binD .add (.int i) (.int j) μ = .ok (.int (i + j)) μ := rfl
@[simp] theorem b_sub (i j : Int) (μ : Mem) : binD .sub (.int i) (.int j) μ = .ok (.int (i - j)) μ := rfl
@[simp] theorem a_nm (i : Nat) (d : D) (ρ : Env') (μ : Mem) : asgn (.nm i) d ρ μ = some (setE ρ i d) := rfl
@[simp] theorem e_set (i : Nat) (d : D) (ρ : Env') : setE ρ i d = ρ.set i (some d) := rfl
@[simp] theorem i_tup (ds : List D) (μ : Mem) : itsOf (.tup ds) μ = some ⟨ds, [], true⟩ := rfl
@[simp] theorem k_nil (μ : Mem) : chk [] μ = true := rfl
/-- the answer of a def -/
def ans (o : Out) : Res D := match o with
  | .rt d μ1 => .ok d μ1
  | .nx _ μ1 => .ok .non μ1
  | .ex C fs _ μ1 => .ex C fs μ1
  | _ => .bad
@[simp] theorem ans_rt (d : D) (μ : Mem) : ans (.rt d μ) = .ok d μ := rfl
@[simp] theorem ans_nx (ρ : Env') (μ : Mem) : ans (.nx ρ μ) = .ok .non μ := rfl
theorem run_ans (Γ : Gam) (f : FDef) (ds : List D) (μ : Mem) (h : ds.length = f.np) : runD Γ f ds μ = ans (exSs Γ f.body (ds.map some ++ List.replicate (f.ns - ds.length) none) μ) := by
  unfold runD
  rw [if_pos h]
  rfl
theorem run1 (Γ : Gam) (ns : Nat) (b : MSs) (a : D) (μ : Mem) : runD Γ ⟨1, ns, b⟩ [a] μ = ans (exSs Γ b (some a :: List.replicate (ns - 1) none) μ) := run_ans Γ ⟨1, ns, b⟩ [a] μ rfl
theorem run2 (Γ : Gam) (ns : Nat) (b : MSs) (a c : D) (μ : Mem) : runD Γ ⟨2, ns, b⟩ [a, c] μ = ans (exSs Γ b (some a :: some c :: List.replicate (ns - 2) none) μ) := run_ans Γ ⟨2, ns, b⟩ [a, c] μ rfl
theorem run3 (Γ : Gam) (ns : Nat) (b : MSs) (a c e : D) (μ : Mem) : runD Γ ⟨3, ns, b⟩ [a, c, e] μ = ans (exSs Γ b (some a :: some c :: some e :: List.replicate (ns - 3) none) μ) := run_ans Γ ⟨3, ns, b⟩ [a, c, e] μ rfl
theorem run4 (Γ : Gam) (ns : Nat) (b : MSs) (a c e f : D) (μ : Mem) : runD Γ ⟨4, ns, b⟩ [a, c, e, f] μ = ans (exSs Γ b (some a :: some c :: some e :: some f :: List.replicate (ns - 4) none) μ) := run_ans Γ ⟨4, ns, b⟩ [a, c, e, f] μ rfl

/-! ### loops -/
@[simp] theorem forL_nil (body : Env' → Mem → Out) (tg : Tg) (own : List (Nat × Cell)) (ρ : Env') (μ : Mem) : forL body tg own [] ρ μ = if chk own μ then .nx ρ μ else .bad := rfl
theorem forL_cons (body : Env' → Mem → Out) (tg : Tg) (own : List (Nat × Cell)) (d : D) (ds : List D) (ρ : Env') (μ : Mem) : forL body tg own (d :: ds) ρ μ = if chk own μ then match asgn tg d ρ μ with
      | none => .bad
      | some ρ1 => match body ρ1 μ with
        | .nx ρ2 μ2 => forL body tg own ds ρ2 μ2
        | .ct ρ2 μ2 => forL body tg own ds ρ2 μ2
        | .br ρ2 μ2 => .nx ρ2 μ2
        | o => o
    else .bad := rfl
/-- a loop that runs to its end, by a word of the place -/
theorem for_run {body : Env' → Mem → Out} {tg : Tg} {own : List (Nat × Cell)} (P : Nat → Env' → Mem → Prop) : ∀ {ds : List D} {i : Nat} {ρ : Env'} {μ : Mem}, P i ρ μ →
    (∀ j d ρ μ, ds[j]? = some d → P (i + j) ρ μ → chk own μ = true ∧ ∃ ρ1, asgn tg d ρ μ = some ρ1 ∧ ∃ ρ2 μ2, (body ρ1 μ = .nx ρ2 μ2 ∨ body ρ1 μ = .ct ρ2 μ2) ∧ P (i + j + 1) ρ2 μ2) →
    (∀ ρ μ, P (i + ds.length) ρ μ → chk own μ = true) → ∃ ρ' μ', forL body tg own ds ρ μ = .nx ρ' μ' ∧ P (i + ds.length) ρ' μ'
  | [], i, ρ, μ, h0, _, hf => ⟨ρ, μ, by rw [forL_nil, if_pos (hf ρ μ h0)], h0⟩
  | d :: ds, i, ρ, μ, h0, hs, hf => by
    obtain ⟨hc, ρ1, ha, ρ2, μ2, hb, hp⟩ := hs 0 d ρ μ rfl h0
    rw [forL_cons, if_pos hc, ha]
    have e : i + 1 + ds.length = i + (d :: ds).length := by simp; omega
    obtain ⟨ρ', μ', h1, h2⟩ := for_run P (ds := ds) (i := i + 1) (ρ := ρ2) (μ := μ2) hp (fun j x ρ μ hj hq => by
      have e1 : i + 1 + j = i + (j + 1) := by omega
      rw [e1] at hq ⊢
      exact hs (j + 1) x ρ μ (by simpa using hj) hq) (fun ρ μ hq => hf ρ μ (by rw [← e]; exact hq))
    refine ⟨ρ', μ', ?_, by rw [← e]; exact h2⟩
    rcases hb with hb | hb <;> (dsimp only; rw [hb]; exact h1)
/-- a comprehension whose steps change nothing -/
theorem comp_run {step : D → Mem → Res (Option D)} {own : List (Nat × Cell)} {f : D → Option D} {μ : Mem} (hc : chk own μ = true) : ∀ {ds : List D} {n : Nat}, (∀ d ∈ ds, step d μ = .ok (f d) μ) → n + ds.length ≤ lim → compL step own n ds μ = .ok (ds.filterMap f) μ
  | [], n, _, _ => by unfold compL; rw [if_pos hc]; rfl
  | d :: ds, n, hs, hl => by
    unfold compL
    rw [if_pos hc, hs d List.mem_cons_self]
    simp only [Res.bind_ok]
    simp only [List.length_cons] at hl
    cases e : f d with
    | none =>
      rw [List.filterMap_cons_none e]
      exact comp_run hc (fun x hx => hs x (List.mem_cons_of_mem _ hx)) (by omega)
    | some y =>
      rw [List.filterMap_cons_some e]
      dsimp only
      rw [if_pos (by omega), comp_run hc (fun x hx => hs x (List.mem_cons_of_mem _ hx)) (by omega)]
      rfl
theorem comp_map {step : D → Mem → Res (Option D)} {own : List (Nat × Cell)} {f : D → D} {μ : Mem} (hc : chk own μ = true) {ds : List D} {n : Nat} (hs : ∀ d ∈ ds, step d μ = .ok (some (f d)) μ) (hl : n + ds.length ≤ lim) : compL step own n ds μ = .ok (ds.map f) μ := by
  rw [comp_run (f := fun d => some (f d)) hc hs hl]
  congr 1
  induction ds with
  | nil => rfl
  | cons d ds ih => simp
end Mi
/-! W0: what a run is to reach, as a formula; rows that carry it through the small text. -/
namespace Mi
open PySem

/-- the run ends well so, or raises so -/
@[irreducible] def OkX {α : Type} (r : Res α) (P : α → Mem → Prop) (X : Str → List (Str × D) → Mem → Prop) : Prop := match r with
  | .ok a μ => P a μ
  | .ex c fs μ => X c fs μ
  | .bad => False
abbrev X0 : Str → List (Str × D) → Mem → Prop := fun _ _ _ => False
abbrev E0' : Env' → Mem → Prop := fun _ _ => False
@[irreducible] def OS (o : Out) (N : Env' → Mem → Prop) (R : D → Mem → Prop) (B C : Env' → Mem → Prop) (X : Str → List (Str × D) → Env' → Mem → Prop) : Prop := match o with
  | .nx ρ μ => N ρ μ
  | .rt d μ => R d μ
  | .br ρ μ => B ρ μ
  | .ct ρ μ => C ρ μ
  | .ex c fs ρ μ => X c fs ρ μ
  | .bad => False
section
variable {Y Y' : Str → List (Str × D) → Env' → Mem → Prop} {α β : Type} {r : Res α} {f : α → Mem → Res β} {P P' : α → Mem → Prop} {Q : β → Mem → Prop} {X X' : Str → List (Str × D) → Mem → Prop} {N N' B B' C C' : Env' → Mem → Prop} {R R' : D → Mem → Prop} {ρ : Env'} {μ : Mem} {o : Out}
@[simp] theorem k_ok {a : α} : OkX (.ok a μ) P X = P a μ := by unfold OkX; rfl
@[simp] theorem k_bad : OkX (.bad : Res α) P X = False := by unfold OkX; rfl
@[simp] theorem k_ex {c : Str} {fs : List (Str × D)} : OkX (.ex c fs μ : Res α) P X = X c fs μ := by unfold OkX; rfl
@[simp] theorem k_bind : OkX (r.bind f) Q X = OkX r (fun a μ => OkX (f a μ) Q X) X := by cases r <;> simp [Res.bind]
@[simp] theorem k_noex : OkX r.noex P X = OkX r P (fun _ _ _ => False) := by cases r <;> simp [Res.noex]
@[simp] theorem k_ofO {o : Option α} : OkX (Res.ofO o μ) P X ↔ ∃ a, o = some a ∧ P a μ := by cases o <;> simp [Res.ofO]
@[simp] theorem k_alloc {c : Cell} {P : D → Mem → Prop} : OkX (alloc c μ) P X = P (.ref μ.length) (μ ++ [c]) := by unfold alloc; rw [k_ok]
@[simp] theorem k_ite {c : Prop} [Decidable c] {a b : Res α} : OkX (if c then a else b) P X = if c then OkX a P X else OkX b P X := by split <;> rfl
@[simp] theorem o_ite {c : Prop} [Decidable c] {a b : Out} : OS (if c then a else b) N R B C Y = if c then OS a N R B C Y else OS b N R B C Y := by split <;> rfl
@[simp] theorem w_nx : OS (.nx ρ μ) N R B C Y = N ρ μ := by unfold OS; rfl
@[simp] theorem w_rt {d : D} : OS (.rt d μ) N R B C Y = R d μ := by unfold OS; rfl
@[simp] theorem w_br : OS (.br ρ μ) N R B C Y = B ρ μ := by unfold OS; rfl
@[simp] theorem w_ct : OS (.ct ρ μ) N R B C Y = C ρ μ := by unfold OS; rfl
@[simp] theorem w_ex {c : Str} {fs : List (Str × D)} : OS (.ex c fs ρ μ) N R B C Y = Y c fs ρ μ := by unfold OS; rfl
@[simp] theorem w_bad : OS .bad N R B C Y = False := by unfold OS; rfl
@[simp] theorem w_to {g : α → Mem → Out} : OS (r.to ρ g) N R B C Y = OkX r (fun a μ => OS (g a μ) N R B C Y) (fun c fs μ => Y c fs ρ μ) := by cases r <;> simp [Res.to]
@[simp] theorem w_thn {g : Env' → Mem → Out} : OS (o.thn g) N R B C Y = OS o (fun ρ μ => OS (g ρ μ) N R B C Y) R B C Y := by cases o <;> simp [Out.thn]
@[simp] theorem w_ans {P : D → Mem → Prop} : OkX (ans o) P X = OS o (fun _ μ => P .non μ) P (fun _ _ => False) (fun _ _ => False) (fun c fs _ μ => X c fs μ) := by cases o <;> simp [ans]
theorem OkX.mono (h : OkX r P X) (f : ∀ a μ, P a μ → P' a μ) (g : ∀ c fs μ, X c fs μ → X' c fs μ) : OkX r P' X' := by
  cases r with
  | ok a μ => rw [k_ok] at h ⊢; exact f a μ h
  | ex c fs μ => rw [k_ex] at h ⊢; exact g c fs μ h
  | bad => rw [k_bad] at h; exact h.elim
theorem OkX.imp (h : OkX r P X0) (f : ∀ a μ, P a μ → P' a μ) : OkX r P' X' := h.mono f fun _ _ _ z => z.elim
theorem OkX.of_eq {a : α} (e : r = .ok a μ) (h : P a μ) : OkX r P X := by rw [e, k_ok]; exact h
theorem OkX.eq (h : OkX r P X0) : ∃ a μ, r = .ok a μ ∧ P a μ := by
  cases r with
  | ok a μ => rw [k_ok] at h; exact ⟨a, μ, rfl, h⟩
  | ex c fs μ => rw [k_ex] at h; exact h.elim
  | bad => rw [k_bad] at h; exact h.elim
theorem OS.mono (h : OS o N R B C Y) (hN : ∀ ρ μ, N ρ μ → N' ρ μ) (hR : ∀ d μ, R d μ → R' d μ) (hB : ∀ ρ μ, B ρ μ → B' ρ μ) (hC : ∀ ρ μ, C ρ μ → C' ρ μ) (hX : ∀ c fs ρ μ, Y c fs ρ μ → Y' c fs ρ μ) : OS o N' R' B' C' Y' := by
  cases o with
  | nx ρ μ => rw [w_nx] at h ⊢; exact hN _ _ h
  | rt d μ => rw [w_rt] at h ⊢; exact hR _ _ h
  | br ρ μ => rw [w_br] at h ⊢; exact hB _ _ h
  | ct ρ μ => rw [w_ct] at h ⊢; exact hC _ _ h
  | ex c fs ρ μ => rw [w_ex] at h ⊢; exact hX _ _ _ _ h
  | bad => rw [w_bad] at h; exact h.elim
end
section
variable (Γ : Gam) (ρ : Env') (μ : Mem)
@[simp] theorem s_subL (l : ML) (i : ME) : evE Γ (.subL l i) ρ μ = (evL Γ l ρ μ).bind fun r μ1 => (evE Γ i ρ μ1).bind fun y μ2 => match r.own, y with
    | [], .int k => Res.ofO (atD r.ds k) μ2
    | _, _ => .bad := rfl
@[simp] theorem s_sorted (l : ML) : evM Γ (.sorted l) ρ μ = (evL Γ l ρ μ).bind fun r μ1 => if r.tup then .bad else match intsOf r.ds with
    | some is => .ok ((sortI is).map D.int) μ1
    | none => .bad := rfl
@[simp] theorem s_revd (l : ML) : evI Γ (.revd l) ρ μ = (evL Γ l ρ μ).bind fun r μ1 => .ok ⟨r.ds.reverse, r.own, false⟩ μ1 := rfl
@[simp] theorem x_whl (c : ME) (b : MSs) : exS Γ (.whl c b) ρ μ = whileL (fun ρ μ => (evE Γ c ρ μ).bind fun x μ1 => Res.ofO (truthD x μ1) μ1) (fBody Γ b) Γ.w ρ μ := rfl
@[simp] theorem x_rse (C : Str) (es : MEs) : exS Γ (.rse C es) ρ μ = (evEs Γ es ρ μ).to ρ fun ds μ1 => match Γ.xinit C with
    | some fs => if fs.length = ds.length then .ex C (fs.zip ds) ρ μ1 else .bad
    | none => .bad := rfl
@[simp] theorem h_nil (C : Str) (fs : List (Str × D)) : hands Γ .nil C fs ρ μ = .ex C fs ρ μ := rfl
@[simp] theorem h_cons (C X : Str) (i : Nat) (es : List (Str ⊕ Str)) (t : Bool) (r : MHs) (fs : List (Str × D)) : hands Γ (.cons X i es t r) C fs ρ μ = if Γ.isa C X then (if i < ρ.length then (match partsD fs es with
      | some ds => if t then .rt (.tup ds) μ else match ds with
        | [d] => .rt d μ
        | _ => .bad
      | none => .bad) else .bad)
    else hands Γ r C fs ρ μ := rfl
@[simp] theorem w_tri {N B C : Env' → Mem → Prop} {R : D → Mem → Prop} {Y : Str → List (Str × D) → Env' → Mem → Prop} (b : MSs) (hs : MHs) :
    OS (exS Γ (.tri b hs) ρ μ) N R B C Y = OS (exSs Γ b ρ μ) N R B C (fun c fs ρ1 μ1 => OS (hands Γ hs c fs ρ1 μ1) N R B C Y) := by
  have e : exS Γ (.tri b hs) ρ μ = match exSs Γ b ρ μ with
    | .ex C fs ρ1 μ1 => hands Γ hs C fs ρ1 μ1
    | o => o := rfl
  rw [e]
  cases exSs Γ b ρ μ <;> simp
end
/-- a loop, by a word of the turn -/
theorem OS.for_ {body : Env' → Mem → Out} {tg : Tg} {own : List (Nat × Cell)} {N B C : Env' → Mem → Prop} {R : D → Mem → Prop} {X : Str → List (Str × D) → Env' → Mem → Prop} (P : Nat → Env' → Mem → Prop) : ∀ {ds : List D} {i : Nat} {ρ : Env'} {μ : Mem}, P i ρ μ →
    (∀ j d ρ μ, ds[j]? = some d → P (i + j) ρ μ → chk own μ = true ∧ ∃ ρ1, asgn tg d ρ μ = some ρ1 ∧ OS (body ρ1 μ) (P (i + j + 1)) R N (P (i + j + 1)) X) →
    (∀ ρ μ, P (i + ds.length) ρ μ → chk own μ = true ∧ N ρ μ) → OS (forL body tg own ds ρ μ) N R B C X
  | [], i, ρ, μ, h0, _, hf => by
    obtain ⟨h1, h2⟩ := hf ρ μ h0
    rw [forL_nil, if_pos h1, w_nx]
    exact h2
  | d :: ds, i, ρ, μ, h0, hs, hf => by
    obtain ⟨hc, ρ1, ha, hb⟩ := hs 0 d ρ μ rfl h0
    rw [forL_cons, if_pos hc, ha]
    dsimp only
    have e : i + 1 + ds.length = i + (d :: ds).length := by simp; omega
    have rest : ∀ ρ2 μ2, P (i + 1) ρ2 μ2 → OS (forL body tg own ds ρ2 μ2) N R B C X := fun ρ2 μ2 hp =>
      OS.for_ P (i := i + 1) hp (fun j x ρ μ hj hq => by
        have e1 : i + 1 + j = i + (j + 1) := by omega
        rw [e1] at hq ⊢
        exact hs (j + 1) x ρ μ (by simpa using hj) hq) fun ρ μ hq => hf ρ μ (by rw [← e]; exact hq)
    cases eb : body ρ1 μ with
    | nx ρ2 μ2 => rw [eb, w_nx] at hb; exact rest ρ2 μ2 hb
    | ct ρ2 μ2 => rw [eb, w_ct] at hb; exact rest ρ2 μ2 hb
    | br ρ2 μ2 => rw [eb, w_br] at hb; rw [w_nx]; exact hb
    | rt d μ2 => rw [eb, w_rt] at hb; rw [w_rt]; exact hb
    | ex c fs ρ2 μ2 => rw [eb, w_ex] at hb; rw [w_ex]; exact hb
    | bad => rw [eb, w_bad] at hb; exact hb.elim
/-- from the first turn on -/
theorem OS.for0 {body : Env' → Mem → Out} {tg : Tg} {own : List (Nat × Cell)} {N B C : Env' → Mem → Prop} {R : D → Mem → Prop} {X : Str → List (Str × D) → Env' → Mem → Prop} (P : Nat → Env' → Mem → Prop) {ds : List D} {ρ : Env'} {μ : Mem} (h0 : P 0 ρ μ)
    (hs : ∀ j d ρ μ, ds[j]? = some d → P j ρ μ → chk own μ = true ∧ ∃ ρ1, asgn tg d ρ μ = some ρ1 ∧ OS (body ρ1 μ) (P (j + 1)) R N (P (j + 1)) X)
    (hf : ∀ ρ μ, P ds.length ρ μ → chk own μ = true ∧ N ρ μ) : OS (forL body tg own ds ρ μ) N R B C X :=
  OS.for_ P (i := 0) h0 (fun j d ρ μ hd hp => by rw [Nat.zero_add] at hp ⊢; exact hs j d ρ μ hd hp) fun ρ μ hp => hf ρ μ (by rw [Nat.zero_add] at hp; exact hp)
/-- a comprehension, by a word of what is made so far -/
theorem OkX.comp {step : D → Mem → Res (Option D)} {own : List (Nat × Cell)} {Q : List D → Mem → Prop} {X : Str → List (Str × D) → Mem → Prop} (P : Nat → List D → Mem → Prop) : ∀ {ds : List D} {i n : Nat} {acc : List D} {μ : Mem}, P i acc μ → n + ds.length ≤ lim →
    (∀ j d acc μ, ds[j]? = some d → P (i + j) acc μ → chk own μ = true ∧ OkX (step d μ) (fun o μ' => match o with
      | some x => P (i + j + 1) (acc ++ [x]) μ'
      | none => P (i + j + 1) acc μ') X) →
    (∀ acc μ, P (i + ds.length) acc μ → chk own μ = true ∧ Q acc μ) → OkX (compL step own n ds μ) (fun l μ' => Q (acc ++ l) μ') X
  | [], i, n, acc, μ, h0, _, _, hf => by
    obtain ⟨h1, h2⟩ := hf acc μ h0
    unfold compL
    rw [if_pos h1]
    simpa using h2
  | d :: ds, i, n, acc, μ, h0, hl, hs, hf => by
    obtain ⟨hc, hb⟩ := hs 0 d acc μ rfl h0
    unfold compL
    rw [if_pos hc, k_bind]
    have e : i + 1 + ds.length = i + (d :: ds).length := by simp; omega
    simp only [List.length_cons] at hl
    have hs' : ∀ j x acc μ, ds[j]? = some x → P (i + 1 + j) acc μ → chk own μ = true ∧ OkX (step x μ) (fun o μ' => match o with
      | some x => P (i + 1 + j + 1) (acc ++ [x]) μ'
      | none => P (i + 1 + j + 1) acc μ') X := fun j x acc μ hj hq => by
      have e1 : i + 1 + j = i + (j + 1) := by omega
      rw [e1] at hq ⊢
      exact hs (j + 1) x acc μ (by simpa using hj) hq
    refine hb.mono (fun o μ1 h => ?_) fun _ _ _ z => z
    cases o with
    | none => exact OkX.comp P (i := i + 1) (n := n) h (by omega) hs' fun acc μ hq => hf acc μ (by rw [← e]; exact hq)
    | some x =>
      dsimp only at h ⊢
      rw [if_pos (by omega), k_bind]
      refine (OkX.comp P (i := i + 1) (n := n + 1) h (by omega) hs' fun acc μ hq => hf acc μ (by rw [← e]; exact hq)).mono (fun l μ2 q => ?_) fun _ _ _ z => z
      simpa using q
theorem OkX.comp0 {step : D → Mem → Res (Option D)} {own : List (Nat × Cell)} {Q : List D → Mem → Prop} {X : Str → List (Str × D) → Mem → Prop} (P : Nat → List D → Mem → Prop) {ds : List D} {μ : Mem} (h0 : P 0 [] μ) (hl : ds.length ≤ lim)
    (hs : ∀ j d acc μ, ds[j]? = some d → P j acc μ → chk own μ = true ∧ OkX (step d μ) (fun o μ' => match o with
      | some x => P (j + 1) (acc ++ [x]) μ'
      | none => P (j + 1) acc μ') X)
    (hf : ∀ acc μ, P ds.length acc μ → chk own μ = true ∧ Q acc μ) : OkX (compL step own 0 ds μ) Q X := by
  have h := OkX.comp (Q := Q) (X := X) (own := own) (step := step) P (ds := ds) (i := 0) (n := 0) (acc := []) (μ := μ) h0 (by omega) (fun j d acc μ hd hp => by rw [Nat.zero_add] at hp ⊢; exact hs j d acc μ hd hp) fun acc μ hp => hf acc μ (by rw [Nat.zero_add] at hp; exact hp)
  simpa using h
/-- a while, by a word and a number that falls -/
theorem OS.while_ {test : Env' → Mem → Res Bool} {body : Env' → Mem → Out} {N B C : Env' → Mem → Prop} {R : D → Mem → Prop} {X : Str → List (Str × D) → Env' → Mem → Prop} (P : Nat → Env' → Mem → Prop)
    (hs : ∀ n ρ μ, P n ρ μ → OkX (test ρ μ) (fun t μ1 => if t = true then OS (body ρ μ1) (fun ρ2 μ2 => ∃ n', n' < n ∧ P n' ρ2 μ2) R N (fun ρ2 μ2 => ∃ n', n' < n ∧ P n' ρ2 μ2) X else N ρ μ1) (fun c fs μ1 => X c fs ρ μ1)) : ∀ {m n : Nat} {ρ : Env'} {μ : Mem}, P n ρ μ → n < m → OS (whileL test body m ρ μ) N R B C X
  | 0, n, ρ, μ, _, h => by omega
  | m + 1, n, ρ, μ, hp, hn => by
    unfold whileL
    rw [w_to]
    refine (hs n ρ μ hp).mono (fun t μ1 h => ?_) fun _ _ _ z => z
    cases t with
    | false => simpa using h
    | true =>
      simp only [if_true] at h ⊢
      have rest : ∀ ρ2 μ2, (∃ n', n' < n ∧ P n' ρ2 μ2) → OS (whileL test body m ρ2 μ2) N R B C X := fun ρ2 μ2 ⟨n', h1, h2⟩ => OS.while_ P hs h2 (by omega)
      cases eb : body ρ μ1 with
      | nx ρ2 μ2 => rw [eb, w_nx] at h; exact rest ρ2 μ2 h
      | ct ρ2 μ2 => rw [eb, w_ct] at h; exact rest ρ2 μ2 h
      | br ρ2 μ2 => rw [eb, w_br] at h; rw [w_nx]; exact h
      | rt d μ2 => rw [eb, w_rt] at h; rw [w_rt]; exact h
      | ex c fs ρ2 μ2 => rw [eb, w_ex] at h; rw [w_ex]; exact h
      | bad => rw [eb, w_bad] at h; exact h.elim
/-- the end is kept out of sight -/
theorem okx_of {α : Type} {r : Res α} {Q : α → Mem → Prop} {X : Str → List (Str × D) → Mem → Prop} (h : ∀ P : α → Mem → Prop, (∀ a μ, Q a μ → P a μ) → OkX r P X) : OkX r Q X := h Q fun _ _ h => h
theorem okx_ofX {α : Type} {r : Res α} {Q : α → Mem → Prop} {Y : Str → List (Str × D) → Mem → Prop} (h : ∀ (P : α → Mem → Prop) (X : Str → List (Str × D) → Mem → Prop), (∀ a μ, Q a μ → P a μ) → (∀ c fs μ, Y c fs μ → X c fs μ) → OkX r P X) : OkX r Q Y := h Q Y (fun _ _ h => h) fun _ _ _ h => h
theorem OS.loop {body : Env' → Mem → Out} {tg : Tg} {own : List (Nat × Cell)} {N B C : Env' → Mem → Prop} {R : D → Mem → Prop} {X : Str → List (Str × D) → Env' → Mem → Prop} (P : Nat → Env' → Mem → Prop) {ds : List D} {ρ : Env'} {μ : Mem} (h0 : P 0 ρ μ)
    (hs : ∀ j d ρ μ, ds[j]? = some d → P j ρ μ → chk own μ = true ∧ ∃ ρ1, asgn tg d ρ μ = some ρ1 ∧ ∀ K : Env' → Mem → Prop, (∀ ρ μ, P (j + 1) ρ μ → K ρ μ) → OS (body ρ1 μ) K R N K X)
    (hf : ∀ ρ μ, P ds.length ρ μ → chk own μ = true ∧ N ρ μ) : OS (forL body tg own ds ρ μ) N R B C X :=
  OS.for0 P h0 (fun j d ρ μ hd hp => by
    obtain ⟨h1, ρ1, h2, h3⟩ := hs j d ρ μ hd hp
    exact ⟨h1, ρ1, h2, h3 _ fun _ _ h => h⟩) hf
theorem OkX.lc {step : D → Mem → Res (Option D)} {own : List (Nat × Cell)} {Q : List D → Mem → Prop} {X : Str → List (Str × D) → Mem → Prop} (P : Nat → List D → Mem → Prop) {ds : List D} {μ : Mem} (h0 : P 0 [] μ) (hl : ds.length ≤ lim)
    (hs : ∀ j d acc μ, ds[j]? = some d → P j acc μ → chk own μ = true ∧ ∀ K : List D → Mem → Prop, (∀ acc' μ', P (j + 1) acc' μ' → K acc' μ') → OkX (step d μ) (fun o μ' => match o with
      | some x => K (acc ++ [x]) μ'
      | none => K acc μ') X)
    (hf : ∀ acc μ, P ds.length acc μ → chk own μ = true ∧ Q acc μ) : OkX (compL step own 0 ds μ) Q X :=
  OkX.comp0 P h0 hl (fun j d acc μ hd hp => by
    obtain ⟨h1, h2⟩ := hs j d acc μ hd hp
    exact ⟨h1, h2 _ fun _ _ h => h⟩) hf
/-- a def's answer where its test is known -/
@[simp] theorem cS_step (Γ : Gam) (own : List Nat) (tg : Tg) (c : MEo) (elt : ME) (ρ : Env') (d : D) (μ : Mem) {P : Option D → Mem → Prop} {X : Str → List (Str × D) → Mem → Prop} : OkX (cStep Γ own tg c elt ρ d μ) P X = match asgn tg d (wipeE ρ own) μ with
    | none => False
    | some ρ1 => OkX (evC Γ c ρ1 μ) (fun t μ3 => if t = true then OkX (evE Γ elt ρ1 μ3) (fun x μ4 => P (some x) μ4) X0 else P none μ3) X0 := by
  unfold cStep
  cases asgn tg d (wipeE ρ own) μ with
  | none => simp only [k_bad]
  | some ρ1 =>
    simp only [k_noex, k_bind]
    congr 1
    funext t μ3
    cases t <;> simp
theorem OkX.to_eq {α : Type} {r : Res α} {c : α} {μ : Mem} (h : OkX r (fun v μ' => v = c ∧ μ' = μ) X0) : r = .ok c μ := by
  obtain ⟨a, μ', e, h1, h2⟩ := h.eq
  rw [e, h1, h2]
def MSs.tk : Nat → MSs → MSs
  | 0, _ => .nil
  | _ + 1, .nil => .nil
  | n + 1, .cons s ss => .cons s (MSs.tk n ss)
def MSs.dp : Nat → MSs → MSs
  | 0, ss => ss
  | _ + 1, .nil => .nil
  | n + 1, .cons _ ss => MSs.dp n ss
theorem run_cut (Γ : Gam) : ∀ (n : Nat) (ss : MSs) (ρ : Env') (μ : Mem), exSs Γ ss ρ μ = (exSs Γ (MSs.tk n ss) ρ μ).thn fun ρ1 μ1 => exSs Γ (MSs.dp n ss) ρ1 μ1
  | 0, ss, ρ, μ => by simp [MSs.tk, MSs.dp]
  | n + 1, .nil, ρ, μ => by simp [MSs.tk, MSs.dp]
  | n + 1, .cons s ss, ρ, μ => by
    simp only [MSs.tk, MSs.dp, x_cons]
    cases exS Γ s ρ μ with
    | nx ρ1 μ1 => simp only [o_nx]; exact run_cut Γ n ss ρ1 μ1
    | _ => rfl
/-- the first n statements, then the rest from a word on -/
theorem OS.cut {Γ : Gam} {ss : MSs} {ρ : Env'} {μ : Mem} {N B C : Env' → Mem → Prop} {R : D → Mem → Prop} {Y : Str → List (Str × D) → Env' → Mem → Prop} (n : Nat) (M : Env' → Mem → Prop)
    (h1 : ∀ K : Env' → Mem → Prop, (∀ ρ μ, M ρ μ → K ρ μ) → OS (exSs Γ (MSs.tk n ss) ρ μ) K R B C Y) (h2 : ∀ ρ μ, M ρ μ → OS (exSs Γ (MSs.dp n ss) ρ μ) N R B C Y) : OS (exSs Γ ss ρ μ) N R B C Y := by
  rw [run_cut Γ n, w_thn]
  exact h1 _ fun ρ μ h => h2 ρ μ h
/-- an if: what its branches reach -/
theorem eqDs_refl : ∀ (k : Nat) (ds : List D), pureDs k ds = true → (∀ d ∈ ds, eqD d d = true) → eqDs ds ds = true
  | _, [], _, _ => rfl
  | k, d :: ds, h, g => by
    simp only [pureDs, Bool.and_eq_true] at h
    simp only [eqDs, g d List.mem_cons_self, Bool.true_and]
    exact eqDs_refl k ds h.2 fun x hx => g x (List.mem_cons_of_mem _ hx)
end Mi
/-! W1: plain facts of data and of the memory, with no table in sight. -/
namespace Lw
open PySem Mi
def isI : Mi.D → Bool
  | .int _ => true
  | _ => false
def betw (d : Mi.D) (a b : Int) : Bool := match d with
  | .int i => decide (a ≤ i) && decide (i ≤ b)
  | _ => false
def isNum (d : Mi.D) (L : Int) : Bool := match d with
  | .int i => decide (0 ≤ i) && decide (i < L)
  | _ => false
theorem its_seq {d : Mi.D} {μ : Mem} {ds : List Mi.D} (h : seqOf d μ = some ds) : ∃ own tup, itsOf d μ = some ⟨ds, own, tup⟩ ∧ (∀ μ' : Mem, (∀ k, d = .ref k → μ'[k]? = μ[k]?) → chk own μ' = true) := by
  cases d with
  | tup es => simp [seqOf] at h; subst h; exact ⟨[], true, rfl, fun _ _ => rfl⟩
  | ref k =>
    cases e : μ[k]? with
    | none => simp [seqOf, e] at h
    | some c =>
      cases c with
      | lst es =>
        simp [seqOf, e] at h; subst h
        exact ⟨[(k, .lst es)], false, by simp [itsOf, e], fun μ' hm => by simp [chk, hm k rfl, e]⟩
      | rol es =>
        simp [seqOf, e] at h; subst h
        exact ⟨[(k, .rol es)], false, by simp [itsOf, e], fun μ' hm => by simp [chk, hm k rfl, e]⟩
      | _ => simp [seqOf, e] at h
  | _ => simp [seqOf] at h
def ascB (L : Int) : Int → List Mi.D → Bool
  | _, [] => true
  | last, .int i :: ds => (decide (0 ≤ i) && decide (i < L)) && (decide (last < i) && ascB L i ds)
  | _, _ :: _ => false
theorem len_seq {v : Mi.D} {μ : Mem} {ds : List Mi.D} (h : seqOf v μ = some ds) : lenD v μ = some ds.length := by
  cases v with
  | tup es => simp [seqOf] at h; subst h; rfl
  | ref k =>
    cases e : μ[k]? with
    | none => simp [seqOf, e] at h
    | some c => cases c <;> simp [seqOf, e] at h <;> simp [lenD, e, h]
  | _ => simp [seqOf] at h
theorem sub_seq {v : Mi.D} {μ : Mem} {ds : List Mi.D} (h : seqOf v μ = some ds) (i : Int) : subD v (.int i) μ = atD ds i := by
  cases v with
  | tup es => simp [seqOf] at h; subst h; rfl
  | ref k =>
    cases e : μ[k]? with
    | none => simp [seqOf, e] at h
    | some c => cases c <;> simp [seqOf, e] at h <;> simp [subD, e, h]
  | _ => simp [seqOf] at h
theorem at_nat {ds : List Mi.D} {i : Nat} {d : Mi.D} (h : ds[i]? = some d) : atD ds (i : Int) = some d := by
  have hl : i < ds.length := (List.getElem?_eq_some_iff.mp h).1
  unfold atD ixOf
  rw [if_pos (by omega), if_pos (by omega)]
  simpa using h
theorem at0 {d : Mi.D} {ds : List Mi.D} : atD (d :: ds) 0 = some d := at_nat (i := 0) rfl
theorem at1 {c d : Mi.D} {ds : List Mi.D} : atD (c :: d :: ds) 1 = some d := at_nat (i := 1) rfl
theorem at2 {b c d : Mi.D} {ds : List Mi.D} : atD (b :: c :: d :: ds) 2 = some d := at_nat (i := 2) rfl
theorem eqB (a b : Bool) (μ : Mem) : cmpD .eq (.bl a) (.bl b) μ = some (a == b) := rfl
theorem neB (a b : Bool) (μ : Mem) : cmpD .ne (.bl a) (.bl b) μ = some (!(a == b)) := rfl
def All2 {α β : Type} (P : α → β → Prop) : List α → List β → Prop
  | [], [] => True
  | a :: as, b :: bs => P a b ∧ All2 P as bs
  | _, _ => False
theorem All2.len {α β : Type} {P : α → β → Prop} : ∀ {as : List α} {bs : List β}, All2 P as bs → as.length = bs.length
  | [], [], _ => rfl
  | a :: as, b :: bs, h => by simp [All2.len h.2]
  | [], _ :: _, h => h.elim
  | _ :: _, [], h => h.elim
theorem All2.mono {α β : Type} {P Q : α → β → Prop} (f : ∀ a b, P a b → Q a b) : ∀ {as : List α} {bs : List β}, All2 P as bs → All2 Q as bs
  | [], [], _ => trivial
  | a :: as, b :: bs, h => ⟨f a b h.1, All2.mono f h.2⟩
  | [], _ :: _, h => h.elim
  | _ :: _, [], h => h.elim
def PairAt (μ : Mem) (x : Mi.D) (p : Nat × Bool) : Prop := seqOf x μ = some [.int (p.1 : Nat), .bl p.2]
def ascP (F : Nat) : Int → List (Nat × Bool) → Prop
  | _, [] => True
  | last, (k, _) :: ps => last < k ∧ k < F ∧ ascP F k ps
abbrev intsD (S : List Nat) : List Mi.D := S.map fun k => .int (k : Nat)
theorem pure_ints (S : List Nat) (k : Nat) : pureDs (k + 1) (intsD S) = true := by
  induction S with
  | nil => rfl
  | cons a S ih => simp only [intsD, List.map_cons, pureDs, Bool.and_eq_true]; exact ⟨rfl, ih⟩
theorem c_in (x y : Mi.D) (μ : Mem) : cmpD .isIn x y μ = inD x y μ := rfl
theorem c_notIn (x y : Mi.D) (μ : Mem) : cmpD .notIn x y μ = (inD x y μ).map (!·) := rfl
def ascN (F : Nat) : Int → List Nat → Prop
  | _, [] => True
  | last, k :: ps => last < k ∧ k < F ∧ ascN F k ps
theorem seq_app {x : Mi.D} {μ : Mem} {l : List Mi.D} (ex : Mem) (h : seqOf x μ = some l) : seqOf x (μ ++ ex) = some l := by
  cases x with
  | tup es => exact h
  | ref k =>
    cases e : μ[k]? with
    | none => simp [seqOf, e] at h
    | some c =>
      have e2 : (μ ++ ex)[k]? = some c := by rw [List.getElem?_append_left (List.getElem?_eq_some_iff.mp e).1]; exact e
      simp only [seqOf, e] at h
      simp only [seqOf, e2]
      exact h
  | _ => simp [seqOf] at h
theorem get_mid {α : Type} (a : List α) (c : α) (r : List α) : (a ++ c :: r)[a.length]? = some c := by simp
theorem set_mid {α : Type} (a : List α) (c c' : α) (r : List α) : (a ++ c :: r).set a.length c' = a ++ c' :: r := by simp
def flagsOf : Nat → Nat → List Bool
  | 0, _ => []
  | F + 1, k => (k % 2 == 1) :: flagsOf F (k / 2)
abbrev flagsD (F k : Nat) : List Mi.D := (flagsOf F k).map Mi.D.bl
theorem flags_len : ∀ F k, (flagsOf F k).length = F
  | 0, _ => rfl
  | F + 1, k => by simp [flagsOf, flags_len F]
theorem all2_map {α β γ : Type} {P : β → γ → Prop} {f : α → β} {g : α → γ} : ∀ {l : List α}, (∀ x ∈ l, P (f x) (g x)) → All2 P (l.map f) (l.map g)
  | [], _ => trivial
  | a :: l, h => ⟨h a List.mem_cons_self, all2_map fun x hx => h x (List.mem_cons_of_mem _ hx)⟩
theorem for_brk {body : Env' → Mem → Out} {tg : Tg} {own : List (Nat × Cell)} (P : Nat → Env' → Mem → Prop) (Q : Env' → Mem → Prop) : ∀ {ds : List Mi.D} {i : Nat} {ρ : Env'} {μ : Mem}, P i ρ μ →
    (∀ j d ρ μ, ds[j]? = some d → P (i + j) ρ μ → chk own μ = true ∧ ∃ ρ1, asgn tg d ρ μ = some ρ1 ∧ ∃ ρ2 μ2, ((body ρ1 μ = .nx ρ2 μ2 ∨ body ρ1 μ = .ct ρ2 μ2) ∧ P (i + j + 1) ρ2 μ2) ∨ (body ρ1 μ = .br ρ2 μ2 ∧ Q ρ2 μ2)) →
    (∀ ρ μ, P (i + ds.length) ρ μ → chk own μ = true ∧ Q ρ μ) → ∃ ρ' μ', forL body tg own ds ρ μ = .nx ρ' μ' ∧ Q ρ' μ'
  | [], i, ρ, μ, h0, _, hf => ⟨ρ, μ, by rw [forL_nil, if_pos (hf ρ μ h0).1], (hf ρ μ h0).2⟩
  | d :: ds, i, ρ, μ, h0, hs, hf => by
    obtain ⟨hc, ρ1, ha, ρ2, μ2, hb⟩ := hs 0 d ρ μ rfl h0
    rw [forL_cons, if_pos hc, ha]
    rcases hb with ⟨hb, hp⟩ | ⟨hb, hq⟩
    · have e : i + 1 + ds.length = i + (d :: ds).length := by simp; omega
      obtain ⟨ρ', μ', h1, h2⟩ := for_brk P Q (ds := ds) (i := i + 1) (ρ := ρ2) (μ := μ2) hp (fun j x ρ μ hj hq => by
        have e1 : i + 1 + j = i + (j + 1) := by omega
        rw [e1] at hq ⊢
        exact hs (j + 1) x ρ μ (by simpa using hj) hq) (fun ρ μ hq => hf ρ μ (by rw [← e]; exact hq))
      refine ⟨ρ', μ', ?_, h2⟩
      rcases hb with hb | hb <;> (dsimp only; rw [hb]; exact h1)
    · exact ⟨ρ2, μ2, by dsimp only; rw [hb], hq⟩
abbrev intsZ (rs : List Int) : List Mi.D := rs.map Mi.D.int
theorem app_ok {μ : Mem} {m : Nat} {ds : List Mi.D} {x : Mi.D} (h : μ[m]? = some (.lst ds)) (hl : ds.length < lim) : mtD .append (.ref m) [x] μ = .ok .non (μ.set m (.lst (ds ++ [x]))) := by
  simp only [mtD, h, if_pos hl]
theorem isL {μ : Mem} {m : Nat} {ds : List Mi.D} (h : μ[m]? = some (.lst ds)) : isLst (.ref m) μ = true := by simp only [isLst, h]
theorem set_at {μ : Mem} {m : Nat} {c c' : Cell} (h : μ[m]? = some c) : (μ.set m c')[m]? = some c' := List.getElem?_set_self (List.getElem?_eq_some_iff.mp h).1
theorem limV : lim = 16777216 := rfl
theorem s64 {i j : Int} (h : (-1000000000000 < j ∧ j < 1000000000000)) : (small64 i || small64 j) = true := by
  have e : small64 j = true := by
    unfold small64
    have e1 : (-(2 ^ 64) : Int) < -1000000000000 := by decide
    have e2 : (1000000000000 : Int) < 2 ^ 64 := by decide
    rw [Bool.and_eq_true, decide_eq_true_eq, decide_eq_true_eq]
    exact ⟨Int.lt_trans e1 h.1, Int.lt_trans h.2 e2⟩
  rw [e, Bool.or_true]
theorem mulK {i j : Int} (h : (-1000000000000 < j ∧ j < 1000000000000)) (μ : Mem) : binD .mul (.int i) (.int j) μ = .ok (.int (i * j)) μ := by
  show Res.ofO ((binI .mul i j).map Mi.D.int) μ = _
  simp only [binI]
  rw [if_pos (s64 h)]; rfl
theorem modK {i j : Int} (h : 0 < j) (μ : Mem) : binD .mod (.int i) (.int j) μ = .ok (.int (i % j)) μ := by
  show Res.ofO ((binI .mod i j).map Mi.D.int) μ = _
  simp only [binI]
  rw [if_pos h]; rfl
theorem divK {i j : Int} (h : 0 < j ∧ j < 1073741824) (μ : Mem) : binD .fdiv (.int i) (.int j) μ = .ok (.int (i / j)) μ := by
  show Res.ofO ((binI .fdiv i j).map Mi.D.int) μ = _
  simp only [binI]
  rw [if_pos h]; rfl
theorem powK (μ : Mem) : binD .pow (.int 10) (.int 18) μ = .ok (.int 1000000000000000000) μ := by kernel_rfl
theorem mod_nat {x : Int} {L : Nat} (h : 0 < L) : ∃ v : Nat, v < L ∧ x % (L : Int) = (v : Int) := by
  have h1 : 0 ≤ x % (L : Int) := Int.emod_nonneg _ (by omega)
  have h2 : x % (L : Int) < L := Int.emod_lt_of_pos _ (by omega)
  exact ⟨(x % (L : Int)).toNat, by omega, by omega⟩
structure Spot (μ : Mem) (r s : Nat) : Prop where
  row : ∃ rs, rs ≠ [] ∧ μ[r]? = some (.lst (intsZ rs))
  at_ : ∃ a : Nat, μ[s]? = some (.lst [.int (a : Nat)])
  ne : r ≠ s
theorem Spot.app {μ : Mem} {r s : Nat} (h : Spot μ r s) (ex : Mem) : Spot (μ ++ ex) r s := by
  obtain ⟨⟨rs, h1, h2⟩, ⟨a, h3⟩, h4⟩ := h
  exact ⟨⟨rs, h1, by rw [List.getElem?_append_left (List.getElem?_eq_some_iff.mp h2).1]; exact h2⟩, ⟨a, by rw [List.getElem?_append_left (List.getElem?_eq_some_iff.mp h3).1]; exact h3⟩, h4⟩
theorem Spot.set {μ : Mem} {r s k : Nat} {c : Cell} (h : Spot μ r s) (h1 : k ≠ r) (h2 : k ≠ s) : Spot (μ.set k c) r s := by
  obtain ⟨⟨rs, q1, q2⟩, ⟨a, q3⟩, q4⟩ := h
  exact ⟨⟨rs, q1, by rw [List.getElem?_set_ne h1]; exact q2⟩, ⟨a, by rw [List.getElem?_set_ne h2]; exact q3⟩, q4⟩
def PsB (j : Nat) (ps : List (Nat × Bool)) : Prop := ps.Pairwise (fun a b => a.1 < b.1) ∧ ∀ p ∈ ps, p.1 < j
theorem PsB.asc {F : Nat} {ps : List (Nat × Bool)} (h : PsB F ps) : ascP F (-1) ps := by
  obtain ⟨h1, h2⟩ := h
  have key : ∀ (ps : List (Nat × Bool)) (last : Int), ps.Pairwise (fun a b => a.1 < b.1) → (∀ p ∈ ps, p.1 < F) → (∀ p ∈ ps, last < p.1) → ascP F last ps := fun ps => by
    induction ps with
    | nil => intro last _ _ _; trivial
    | cons p ps ih =>
      intro last h1 h2 h3
      rw [List.pairwise_cons] at h1
      exact ⟨h3 p List.mem_cons_self, h2 p List.mem_cons_self, ih _ h1.2 (fun q hq => h2 q (List.mem_cons_of_mem _ hq)) fun q hq => by have := h1.1 q hq; omega⟩
  exact key ps (-1) h1 h2 fun p hp => by omega
theorem PsB.snoc {j : Nat} {ps : List (Nat × Bool)} (h : PsB j ps) (b : Bool) : PsB (j + 1) (ps ++ [(j, b)]) := by
  obtain ⟨h1, h2⟩ := h
  refine ⟨?_, fun p hp => ?_⟩
  · rw [List.pairwise_append]
    exact ⟨h1, by simp, fun a ha c hc => by simp at hc; subst hc; exact h2 a ha⟩
  · rcases List.mem_append.mp hp with hp | hp
    · have := h2 p hp; omega
    · simp at hp; subst hp; simp
theorem PsB.up {j : Nat} {ps : List (Nat × Bool)} (h : PsB j ps) : PsB (j + 1) ps := ⟨h.1, fun p hp => by have := h.2 p hp; omega⟩
abbrev pairsD (ps : List (Nat × Bool)) : List Mi.D := ps.map fun p => .tup [.int (p.1 : Nat), .bl p.2]
def NsB (j : Nat) (S : List Nat) : Prop := S.Pairwise (· < ·) ∧ ∀ x ∈ S, x < j
theorem NsB.asc {F : Nat} {S : List Nat} (h : NsB F S) : ascN F (-1) S := by
  obtain ⟨h1, h2⟩ := h
  have key : ∀ (ps : List Nat) (last : Int), ps.Pairwise (· < ·) → (∀ p ∈ ps, p < F) → (∀ p ∈ ps, last < p) → ascN F last ps := fun ps => by
    induction ps with
    | nil => intro last _ _ _; trivial
    | cons p ps ih =>
      intro last h1 h2 h3
      rw [List.pairwise_cons] at h1
      exact ⟨h3 p List.mem_cons_self, h2 p List.mem_cons_self, ih _ h1.2 (fun q hq => h2 q (List.mem_cons_of_mem _ hq)) fun q hq => by have := h1.1 q hq; omega⟩
  exact key S (-1) h1 h2 fun p hp => by omega
theorem NsB.snoc {j : Nat} {S : List Nat} (h : NsB j S) : NsB (j + 1) (S ++ [j]) := by
  obtain ⟨h1, h2⟩ := h
  refine ⟨?_, fun p hp => ?_⟩
  · rw [List.pairwise_append]
    exact ⟨h1, by simp, fun a ha c hc => by simp at hc; subst hc; exact h2 a ha⟩
  · rcases List.mem_append.mp hp with hp | hp
    · have := h2 p hp; omega
    · simp at hp; subst hp; omega
theorem NsB.up {j : Nat} {S : List Nat} (h : NsB j S) : NsB (j + 1) S := ⟨h.1, fun p hp => by have := h.2 p hp; omega⟩
theorem rng_get {F j : Nat} {d : Mi.D} (h : (rngD 0 F)[j]? = some d) : j < F ∧ d = .int (j : Nat) := by
  have hj : j < F := by
    have := (List.getElem?_eq_some_iff.mp h).1
    simpa [rngD] using this
  refine ⟨hj, ?_⟩
  simp [rngD, hj] at h
  exact h.symm
mutual
/-- data of tuples with at most 1000 parts, k levels, no list -/
def okD : Nat → Mi.D → Bool
  | 0, _ => false
  | k + 1, .tup ds => decide (ds.length ≤ 1000) && okDs k ds
  | _ + 1, .ref _ => false
  | _ + 1, _ => true
def okDs : Nat → List Mi.D → Bool
  | _, [] => true
  | k, d :: ds => okD k d && okDs k ds
end
theorem okDs_get : ∀ {ds : List Mi.D} {k j : Nat} {d : Mi.D}, okDs k ds = true → ds[j]? = some d → okD k d = true
  | [], _, _, _, _, h => by simp at h
  | x :: xs, k, 0, d, h, e => by
    simp only [okDs, Bool.and_eq_true] at h
    simp at e; subst e; exact h.1
  | x :: xs, k, j + 1, d, h, e => by
    simp only [okDs, Bool.and_eq_true] at h
    exact okDs_get h.2 (by simpa using e)
mutual
/-- x stands in the memory as the data t do -/
def Lk (μ : Mem) : Mi.D → Mi.D → Prop
  | .tup ts, x => ∃ ds, seqOf x μ = some ds ∧ Lks μ ts ds
  | .non, x => x = .non
  | .bl b, x => x = .bl b
  | .int i, x => x = .int i
  | .str s, x => x = .str s
  | .ref r, x => x = .ref r
def Lks (μ : Mem) : List Mi.D → List Mi.D → Prop
  | [], xs => xs = []
  | t :: ts, xs => ∃ y ys, xs = y :: ys ∧ Lk μ t y ∧ Lks μ ts ys
end
mutual
theorem Lk.app {μ : Mem} (ex : Mem) : ∀ {t x : Mi.D}, Lk μ t x → Lk (μ ++ ex) t x
  | .tup ts, x, h => by
    simp only [Lk] at h ⊢
    obtain ⟨ds, h1, h2⟩ := h
    exact ⟨ds, seq_app ex h1, Lks.app ex h2⟩
  | .non, _, h => by simp only [Lk] at h ⊢; exact h
  | .bl _, _, h => by simp only [Lk] at h ⊢; exact h
  | .int _, _, h => by simp only [Lk] at h ⊢; exact h
  | .str _, _, h => by simp only [Lk] at h ⊢; exact h
  | .ref _, _, h => by simp only [Lk] at h ⊢; exact h
theorem Lks.app {μ : Mem} (ex : Mem) : ∀ {ts xs : List Mi.D}, Lks μ ts xs → Lks (μ ++ ex) ts xs
  | [], _, h => by simp only [Lks] at h ⊢; exact h
  | t :: ts, _, h => by
    simp only [Lks] at h ⊢
    obtain ⟨y, ys, e, h1, h2⟩ := h
    exact ⟨y, ys, e, Lk.app ex h1, Lks.app ex h2⟩
end
theorem okDs_mem : ∀ {ds : List Mi.D} {k : Nat} {d : Mi.D}, okDs k ds = true → d ∈ ds → okD k d = true
  | [], _, _, _, h => by cases h
  | x :: xs, k, d, h, e => by
    simp only [okDs, Bool.and_eq_true] at h
    rcases List.mem_cons.mp e with e | e
    · subst e; exact h.1
    · exact okDs_mem h.2 e
theorem asc_len {F : Nat} : ∀ {ps : List (Nat × Bool)} {last : Int}, ascP F last ps → last < F → (ps.length : Int) ≤ F - last - 1
  | [], last, _, h => by simp; omega
  | (k, _) :: ps, last, h, hl => by
    have := asc_len h.2.2 (by have := h.2.1; omega)
    have h1 := h.1
    simp only [List.length_cons]
    push_cast
    omega
theorem okDs_map {α : Type} {k : Nat} {f : α → Mi.D} : ∀ {l : List α}, (∀ x ∈ l, okD k (f x) = true) → okDs k (l.map f) = true
  | [], _ => rfl
  | a :: l, h => by simp only [List.map_cons, okDs, h a List.mem_cons_self, okDs_map fun x hx => h x (List.mem_cons_of_mem _ hx), Bool.and_true]
theorem okD_tup {k : Nat} {ds : List Mi.D} (h1 : ds.length ≤ 1000) (h2 : okDs k ds = true) : okD (k + 1) (.tup ds) = true := by simp [okD, h1, h2]
/-- all but s is kept -/
def Kp (s : Nat) (μ μ' : Mem) : Prop := μ.length ≤ μ'.length ∧ ∀ k c, k ≠ s → μ[k]? = some c → μ'[k]? = some c
theorem Kp.rfl' (s : Nat) (μ : Mem) : Kp s μ μ := ⟨Nat.le_refl _, fun _ _ _ h => h⟩
theorem Kp.trans {s : Nat} {a b c : Mem} (h : Kp s a b) (g : Kp s b c) : Kp s a c := ⟨Nat.le_trans h.1 g.1, fun k x hk hx => g.2 k x hk (h.2 k x hk hx)⟩
theorem Kp.app {s : Nat} {a b : Mem} (h : Kp s a b) (ex : Mem) : Kp s a (b ++ ex) := ⟨by have := h.1; simp; omega, fun k x hk hx => by
  have q := h.2 k x hk hx
  rw [List.getElem?_append_left (List.getElem?_eq_some_iff.mp q).1]; exact q⟩
theorem Kp.put {s m : Nat} {a b : Mem} (h : Kp s a b) (hm : a.length ≤ m) (c : Cell) : Kp s a (b.set m c) := ⟨by have := h.1; simpa using this, fun k x hk hx => by
  have hl := (List.getElem?_eq_some_iff.mp hx).1
  rw [List.getElem?_set_ne (by omega)]; exact h.2 k x hk hx⟩
theorem Kp.tk {s : Nat} {a : Mem} (c : Cell) : Kp s a (a.set s c) := ⟨by simp, fun k x hk hx => by rw [List.getElem?_set_ne (Ne.symm hk)]; exact hx⟩
theorem Kp.seq {s : Nat} {a b : Mem} (h : Kp s a b) (hs : ∃ l, a[s]? = some (.lst [.int l])) {x : Mi.D} {l : List Mi.D} (hx : x ≠ .ref s) (e : seqOf x a = some l) : seqOf x b = some l := by
  cases x with
  | tup ds => exact e
  | ref n =>
    have hn : n ≠ s := fun z => hx (by rw [z])
    cases e2 : a[n]? with
    | none => simp [seqOf, e2] at e
    | some c =>
      have q := h.2 n c hn e2
      simp only [seqOf, e2] at e
      simp only [seqOf, q]
      exact e
  | _ => simp [seqOf] at e
/-- a def of the law's that draws -/
def Drawn (Γ : Gam) (r s : Nat) (f : Str) (as : List Mi.D) (P : Mi.D → Prop) : Prop := ∀ μ, Spot μ r s → OkX (Γ.fn f (.ref r :: .ref s :: as) μ) (fun v μ' => P v ∧ Spot μ' r s ∧ Kp s μ μ') X0
def TakeW (Γ : Gam) : Prop := ∀ r s (L : Int), 0 < L → Drawn Γ r s "_law_take" [.int L] (fun v => ∃ k : Nat, (k : Int) < L ∧ v = .int k)
def CondW (Γ : Gam) : Prop := ∀ r s (F : Nat), F ≤ 1000 → Drawn Γ r s "_law_cond" [.int F] (fun v => ∃ ps, PsB F ps ∧ v = .tup (pairsD ps))
theorem Spot.lt {μ : Mem} {r s : Nat} (h : Spot μ r s) : r < μ.length ∧ s < μ.length := by
  obtain ⟨⟨rs, _, h2⟩, ⟨a, h3⟩, _⟩ := h
  exact ⟨(List.getElem?_eq_some_iff.mp h2).1, (List.getElem?_eq_some_iff.mp h3).1⟩
theorem rng_w {F : Nat} (h : F ≤ 1000000) (μ : Mem) : rngOf (.int (F : Nat)) μ = .ok ⟨rngD 0 F, [], false⟩ μ := rng_small μ (by omega) (by omega)
theorem rng_len (F : Nat) : (rngD 0 F).length = F := by simp [rngD]
theorem its_lst {μ : Mem} {m : Nat} {ds : List Mi.D} (h : μ[m]? = some (.lst ds)) : itsOf (.ref m) μ = some ⟨ds, [(m, .lst ds)], false⟩ := by simp only [itsOf, h]
theorem sub_lst {μ : Mem} {m : Nat} {ds : List Mi.D} (h : μ[m]? = some (.lst ds)) (i : Int) : subD (.ref m) (.int i) μ = atD ds i := by simp only [subD, h]
theorem len_lst {μ : Mem} {m : Nat} {ds : List Mi.D} (h : μ[m]? = some (.lst ds)) : lenD (.ref m) μ = some ds.length := by simp only [lenD, h]
@[simp] theorem sub_tup (ds : List Mi.D) (i : Int) (μ : Mem) : subD (.tup ds) (.int i) μ = atD ds i := rfl
@[simp] theorem len_tup (ds : List Mi.D) (μ : Mem) : lenD (.tup ds) μ = some ds.length := rfl
@[simp] theorem at0' {d : Mi.D} {ds : List Mi.D} : atD (d :: ds) 0 = some d := at0
@[simp] theorem at1' {c d : Mi.D} {ds : List Mi.D} : atD (c :: d :: ds) 1 = some d := at1
@[simp] theorem at2' {b c d : Mi.D} {ds : List Mi.D} : atD (b :: c :: d :: ds) 2 = some d := at2
theorem at_lt {ds : List Mi.D} {i : Nat} (h : i < ds.length) : atD ds (i : Int) = some ds[i] := at_nat (List.getElem?_eq_getElem h)
/-- append of a list -/
theorem app_w {μ : Mem} {m : Nat} {ds : List Mi.D} {x : Mi.D} {P : Mi.D → Mem → Prop} {X : Str → List (Str × Mi.D) → Mem → Prop} (h : μ[m]? = some (.lst ds)) (hl : ds.length < lim) (q : P .non (μ.set m (.lst (ds ++ [x])))) : OkX (mtD .append (.ref m) [x] μ) P X := by
  rw [app_ok h hl, k_ok]; exact q
end Lw
/-! W2: the law's draws. -/
namespace Lw
open PySem Mi
def Row (μ : Mem) (m B : Nat) (q : Nat) (c : Cell) : Prop := (∃ rs : List Int, μ[m]? = some (.lst (intsZ rs)) ∧ rs.length ≤ B) ∧ μ[q]? = some c ∧ m ≠ q
theorem Row.app {μ : Mem} {m B q : Nat} {c : Cell} (h : Row μ m B q c) (hB : B < 1000000) (x : Int) : isLst (.ref m) μ = true ∧ ∃ μ', mtD .append (.ref m) [.int x] μ = .ok .non μ' ∧ Row μ' m (B + 1) q c := by
  obtain ⟨⟨rs, h1, h2⟩, h3, h4⟩ := h
  refine ⟨isL h1, _, app_ok h1 (by rw [limV]; simp; omega), ⟨rs ++ [x], by rw [set_at h1]; simp, by simp; omega⟩, by rw [List.getElem?_set_ne h4]; exact h3, h4⟩
theorem l3_ok (Γ : Gam) (cell z : Int) (a l k x : Option Mi.D) (m : Nat) (μ μ3 : Mem) (q1 : isLst (.ref m) μ = true) (q2 : mtD .append (.ref m) [.int (((cell * 48271 + z * 69621 + 11) % 2147483647 * 16807 + z) % 2147483629)] μ = .ok .non μ3) :
   fBody Γ l3__law_numbers [a, some (.ref m), some (.int cell), l, some (.int z), x] μ = .nx [a, some (.ref m), some (.int cell), l, some (.int z), some (.int ((cell * 48271 + z * 69621 + 11) % 2147483647))] μ3 := by
  simp [fBody, l3__law_numbers, q1, biD, modK, mulK, q2]
theorem numbers_ok (n : Nat) {μ : Mem} {s : Nat} {ns : List Int} (h : μ[s]? = some (.rol (intsZ ns))) : ∃ rs μ', rs ≠ [] ∧ (G (n + 1)).fn "_law_numbers" [.ref s] μ = .ok (.ref μ.length) μ' ∧ μ'[μ.length]? = some (.lst (intsZ rs)) := by
  rw [f__law_numbers, run1]
  generalize hm : μ.length = m
  have hs : s < μ.length := (List.getElem?_eq_some_iff.mp h).1
  have h1 : (μ ++ [Cell.lst []])[s]? = some (.rol (intsZ ns)) := by rw [List.getElem?_append_left hs]; exact h
  have ecut : cut (intsZ ns) none (some 63) = intsZ (cut ns none (some 63)) := by simp [cut, cutIx, intsZ, List.map_take]
  have hcl : (cut ns none (some 63)).length ≤ 63 := by simp [cut, cutIx]; omega
  generalize hns : cut ns none (some 63) = ms at ecut hcl
  -- a cell
  have inner1 : ∀ (cell : Int) (B : Nat) (k x : Option Mi.D) (μ1 : Mem), B ≤ 900000 → Row μ1 m B (m + 1) (.lst (intsZ ms)) → ∃ left k' μ2, forL (fBody (G n) l2__law_numbers) (.nm 4) [] (rngD 0 60) [some (.ref s), some (.ref m), some (.int cell), some (.int cell), k, x] μ1
      = .nx [some (.ref s), some (.ref m), some (.int cell), left, k', x] μ2 ∧ Row μ2 m (B + 60) (m + 1) (.lst (intsZ ms)) := fun cell B k x μ1 hB hR => by
    obtain ⟨ρ', μ', e, left, k', hρ, hR'⟩ := for_brk (body := fBody (G n) l2__law_numbers) (tg := .nm 4) (own := []) (fun i ρ μ' => i ≤ 60 ∧ ∃ (left : Int) (k' : Option Mi.D), ρ = [some (.ref s), some (.ref m), some (.int cell), some (.int left), k', x] ∧ Row μ' m (B + i) (m + 1) (.lst (intsZ ms)))
      (fun ρ μ' => ∃ left k', ρ = [some (.ref s), some (.ref m), some (.int cell), left, k', x] ∧ Row μ' m (B + 60) (m + 1) (.lst (intsZ ms)))
      (ds := rngD 0 60) (i := 0) (ρ := [some (.ref s), some (.ref m), some (.int cell), some (.int cell), k, x]) (μ := μ1) ⟨by omega, cell, k, rfl, hR⟩
      (by
        intro j d ρ μ' hd ⟨hj, left, k', hρ, hR⟩
        subst hρ
        have hj60 : j < 60 := by
          have := (List.getElem?_eq_some_iff.mp hd).1
          simpa [rngD] using this
        refine ⟨rfl, _, rfl, ?_⟩
        by_cases hz : left = 0
        · subst hz
          refine ⟨_, μ', .inr ⟨by simp [fBody, l2__law_numbers], some (.int 0), some d, rfl, ?_⟩⟩
          obtain ⟨⟨rs, q1, q2⟩, q3⟩ := hR
          exact ⟨⟨rs, q1, by omega⟩, q3⟩
        · obtain ⟨q1, μ3, q2, q3⟩ := hR.app (by omega) (left % 997)
          refine ⟨_, μ3, .inl ⟨.inl (by
            simp [fBody, l2__law_numbers, hz, q1, biD, modK, q2, divK]), by omega, left / 997, some d, rfl, ?_⟩⟩
          have e1 : B + (0 + j + 1) = B + (0 + j) + 1 := by omega
          rw [e1]; exact q3)
      (by
        intro ρ μ' ⟨hj, left, k', hρ, hR⟩
        refine ⟨rfl, _, _, hρ, ?_⟩
        have : (0 + (rngD 0 60).length) = 60 := by simp [rngD]
        rw [this] at hR
        exact hR)
    subst hρ
    exact ⟨left, k', μ', e, hR'⟩
  have inner2 : ∀ (cell : Int) (B : Nat) (l k x : Option Mi.D) (μ1 : Mem), B ≤ 900000 → Row μ1 m B (m + 1) (.lst (intsZ ms)) → ∃ k' x' μ2, forL (fBody (G n) l3__law_numbers) (.nm 4) [] (rngD 0 4) [some (.ref s), some (.ref m), some (.int cell), l, k, x] μ1
      = .nx [some (.ref s), some (.ref m), some (.int cell), l, k', x'] μ2 ∧ Row μ2 m (B + 60) (m + 1) (.lst (intsZ ms)) := fun cell B l k x μ1 hB hR => by
    obtain ⟨ρ', μ', e, k', x', hρ, hR'⟩ := for_brk (body := fBody (G n) l3__law_numbers) (tg := .nm 4) (own := []) (fun i ρ μ' => i ≤ 4 ∧ ∃ (k' x' : Option Mi.D), ρ = [some (.ref s), some (.ref m), some (.int cell), l, k', x'] ∧ Row μ' m (B + i) (m + 1) (.lst (intsZ ms)))
      (fun ρ μ' => ∃ k' x', ρ = [some (.ref s), some (.ref m), some (.int cell), l, k', x'] ∧ Row μ' m (B + 60) (m + 1) (.lst (intsZ ms)))
      (ds := rngD 0 4) (i := 0) (ρ := [some (.ref s), some (.ref m), some (.int cell), l, k, x]) (μ := μ1) ⟨by omega, k, x, rfl, hR⟩
      (by
        intro j d ρ μ' hd ⟨hj, k', x', hρ, hR⟩
        subst hρ
        have hj60 : j < 4 := by
          have := (List.getElem?_eq_some_iff.mp hd).1
          simpa [rngD] using this
        have ed : d = .int (j : Nat) := by simp [rngD, hj60] at hd; exact hd.symm
        subst ed
        clear hd
        generalize ((j : Nat) : Int) = z
        refine ⟨rfl, _, rfl, ?_⟩
        obtain ⟨q1, μ3, q2, q3⟩ := hR.app (by omega) (((cell * 48271 + z * 69621 + 11) % 2147483647 * 16807 + z) % 2147483629)
        refine ⟨_, μ3, .inl ⟨.inl (l3_ok (G n) cell z (some (.ref s)) l k' x' m μ' μ3 q1 q2), by omega, some (.int z), some (.int ((cell * 48271 + z * 69621 + 11) % 2147483647)), rfl, ?_⟩⟩
        have e1 : B + (0 + j + 1) = B + (0 + j) + 1 := by omega
        rw [e1]; exact q3)
      (by
        intro ρ μ' ⟨hj, left, k', hρ, hR⟩
        refine ⟨rfl, _, _, hρ, ?_⟩
        have : (0 + (rngD 0 4).length) = 4 := by simp [rngD]
        rw [this] at hR
        obtain ⟨⟨rs, q1, q2⟩, q3⟩ := hR
        exact ⟨⟨rs, q1, by omega⟩, q3⟩)
    subst hρ
    exact ⟨k', x', μ', e, hR'⟩
  have g60 : ∀ μ' : Mem, rngOf (.int 60) μ' = .ok ⟨rngD 0 60, [], false⟩ μ' := fun μ' => rng_small μ' (by omega) (by omega)
  have g4 : ∀ μ' : Mem, rngOf (.int 4) μ' = .ok ⟨rngD 0 4, [], false⟩ μ' := fun μ' => rng_small μ' (by omega) (by omega)
  obtain ⟨ρ', μ', e, a, b, c, d, hρ, hR⟩ := for_run (body := fBody (G n) l1__law_numbers) (tg := .nm 2) (own := [(m + 1, .lst (intsZ ms))]) (fun i ρ μ' => ∃ a b c d, ρ = [some (.ref s), some (.ref m), a, b, c, d] ∧ Row μ' m (60 * i) (m + 1) (.lst (intsZ ms)))
    (ds := intsZ ms) (i := 0) (ρ := [some (.ref s), some (.ref m), none, none, none, none]) (μ := μ ++ [.lst []] ++ [.lst (intsZ ms)]) ⟨none, none, none, none, rfl, ⟨[], by rw [← hm]; simp, by simp⟩, by rw [← hm]; simp, by omega⟩
    (by
      intro j d ρ μ' hd ⟨a, b, c, x, hρ, hR⟩
      subst hρ
      have hj : j < 63 := by
        have := (List.getElem?_eq_some_iff.mp hd).1
        simp at this; omega
      obtain ⟨cell, ec⟩ : ∃ cell, d = .int cell := by
        obtain ⟨z, _, e⟩ := List.mem_map.mp (List.mem_of_getElem? hd)
        exact ⟨z, e.symm⟩
      subst ec
      refine ⟨by simp [chk, hR.2.1], _, rfl, ?_⟩
      by_cases hb : 1000000000000000000 ≤ cell
      · obtain ⟨left, k', μ2, e1, e2⟩ := inner1 cell (60 * (0 + j)) c x μ' (by omega) hR
        refine ⟨_, μ2, .inl (by
          simp [fBody, l1__law_numbers, powK, hb, g60]
          rw [e1]
          rfl), some (.int cell), left, k', x, rfl, ?_⟩
        have : 60 * (0 + j + 1) = 60 * (0 + j) + 60 := by omega
        rw [this]; exact e2
      · obtain ⟨k', x', μ2, e1, e2⟩ := inner2 cell (60 * (0 + j)) b c x μ' (by omega) hR
        refine ⟨_, μ2, .inl (by
          simp [fBody, l1__law_numbers, powK, hb, g4]
          rw [e1]
          rfl), some (.int cell), b, k', x', rfl, ?_⟩
        have : 60 * (0 + j + 1) = 60 * (0 + j) + 60 := by omega
        rw [this]; exact e2)
    (by intro ρ μ' ⟨a, b, c, x, hρ, hR⟩; simp [chk, hR.2.1])
  subst hρ
  obtain ⟨⟨rs, r1, r2⟩, r3, r4⟩ := hR
  have es : seqOf (.ref (m + 1)) (μ ++ [Cell.lst []] ++ [Cell.lst (intsZ ms)]) = some (intsZ ms) := by
    have : (μ ++ [Cell.lst []] ++ [Cell.lst (intsZ ms)])[m + 1]? = some (.lst (intsZ ms)) := by rw [← hm]; simp
    simp only [seqOf, this]
  have ei : itsOf (.ref (m + 1)) (μ ++ [Cell.lst []] ++ [Cell.lst (intsZ ms)]) = some ⟨intsZ ms, [(m + 1, .lst (intsZ ms))], false⟩ := by
    have : (μ ++ [Cell.lst []] ++ [Cell.lst (intsZ ms)])[m + 1]? = some (.lst (intsZ ms)) := by rw [← hm]; simp
    simp only [itsOf, this]
  have eS : slD (.ref s) none (some 63) (μ ++ [Cell.lst []]) = .ok (.ref (m + 1)) (μ ++ [Cell.lst []] ++ [Cell.lst (intsZ ms)]) := by
    simp only [slD, h1, ecut, Mi.alloc]
    rw [← hm]; simp
  simp only [b__law_numbers, x_cons, x_asg, s_lst, s_disp, s_nil, Res.bind_ok, List.length_nil, Nat.zero_le, if_true, Mi.alloc, Res.to_ok, a_nm, e_set, List.replicate, List.set_cons_succ, List.set_cons_zero, o_nx, x_for, s_l, s_val, s_sl, s_var, List.getElem?_cons_zero, s_no, s_so, s_con, hm, eS, ei, Res.ofO_some, e, x_ife, s_cmp, s_bi, List.getElem?_cons_succ, biD, lenD, r1, Option.map, c_eqI, t_bl]
  by_cases hz : rs = []
  · subst hz
    refine ⟨[0], _, by simp, by simp [isL r1, app_ok r1 (show ([] : List Mi.D).length < lim by rw [limV]; simp)]; rfl, ?_⟩
    exact set_at r1
  · have hz2 : ¬ rs.length = 0 := by simpa using hz
    refine ⟨rs, μ', hz, ?_, r1⟩
    simp [hz]
theorem draw_a (Γ : Gam) (r : Nat) (at_ L : Int) (μ : Mem) (x : Int) (hl : lenD (.ref r) μ = some k) (h : at_ < (k : Int)) (hs : subD (.ref r) (.int at_) μ = some (.int x)) (hL : 0 < L) :
    ans (exSs Γ b__law_draw [some (.ref r), some (.int at_), some (.int L), none] μ) = .ok (.int (x % L)) μ := by
  simp [b__law_draw, biD, hl, h, hs, modK hL]
theorem draw_b (Γ : Gam) (r : Nat) (at_ L : Int) (μ : Mem) (x : Int) (hl : lenD (.ref r) μ = some k) (h : ¬ at_ < (k : Int)) (hk : 0 < (k : Int)) (hs : subD (.ref r) (.int (at_ % (k : Int))) μ = some (.int x)) (hL : 0 < L) :
    ∃ y : Int, ans (exSs Γ b__law_draw [some (.ref r), some (.int at_), some (.int L), none] μ) = .ok (.int (y % L)) μ := by
  refine ⟨((x * 40692 + at_ * 7919 + 3) % 2147483399 * 48271 + at_) % 2147483647, ?_⟩
  simp [b__law_draw, biD, hl, h, hs, modK hL, modK hk, mulK, modK]
theorem draw_ok (n : Nat) {μ : Mem} {r : Nat} {rs : List Int} (at_ : Nat) {L : Nat} (h : μ[r]? = some (.lst (intsZ rs))) (hr : rs ≠ []) (hL : 0 < L) : ∃ v : Nat, v < L ∧ (G (n + 1)).fn "_law_draw" [.ref r, .int at_, .int L] μ = .ok (.int (v : Nat)) μ := by
  rw [f__law_draw, run3]
  have hl : lenD (.ref r) μ = some rs.length := by simp [lenD, h]
  have hs : ∀ i : Nat, i < rs.length → ∃ x, subD (.ref r) (.int (i : Nat)) μ = some (.int x) := fun i hi => by
    refine ⟨rs[i], ?_⟩
    simp only [subD, h]
    exact at_nat (by rw [List.getElem?_map, List.getElem?_eq_getElem hi]; rfl)
  have hL2 : (0 : Int) < L := by omega
  have hk : 0 < rs.length := List.length_pos_iff.mpr hr
  by_cases hlt : at_ < rs.length
  · obtain ⟨x, hx⟩ := hs at_ hlt
    obtain ⟨v, h1, h2⟩ := mod_nat (x := x) hL
    refine ⟨v, h1, ?_⟩
    rw [← h2]
    exact draw_a _ r at_ L μ x hl (by omega) hx hL2
  · have hm : at_ % rs.length < rs.length := Nat.mod_lt _ hk
    obtain ⟨x, hx⟩ := hs _ hm
    obtain ⟨y, hy⟩ := draw_b (G n) r at_ L μ x hl (by omega) (by omega) (by rw [← Int.natCast_emod]; exact hx) hL2
    obtain ⟨v, h1, h2⟩ := mod_nat (x := y) hL
    exact ⟨v, h1, by rw [← h2]; exact hy⟩
theorem take_ok (n : Nat) {μ : Mem} {r s : Nat} {L : Nat} (h : Spot μ r s) (hL : 0 < L) : ∃ (v : Nat) (c : Cell), v < L ∧ (G (n + 2)).fn "_law_take" [.ref r, .ref s, .int L] μ = .ok (.int (v : Nat)) (μ.set s c) ∧ Spot (μ.set s c) r s := by
  obtain ⟨⟨rs, q1, q2⟩, ⟨a, q3⟩, q4⟩ := h
  have h2 : (μ.set s (.lst [.int ((a + 1 : Nat) : Int)]))[r]? = some (.lst (intsZ rs)) := by rw [List.getElem?_set_ne (Ne.symm q4)]; exact q2
  have h3 : (μ.set s (.lst [.int ((a + 1 : Nat) : Int)]))[s]? = some (.lst [.int ((a + 1 : Nat) : Int)]) := set_at q3
  obtain ⟨v, h4, h5⟩ := draw_ok n a h2 q1 hL
  refine ⟨v, .lst [.int ((a + 1 : Nat) : Int)], h4, ?_, ⟨rs, q1, h2⟩, ⟨a + 1, h3⟩, q4⟩
  rw [f__law_take, run3]
  have e1 : subD (.ref s) (.int 0) μ = some (.int (a : Nat)) := by simp only [subD, q3]; exact at0
  have e2 : ∀ x, setD (.ref s) (.int 0) x μ = some (μ.set s (.lst [x])) := fun x => by simp [setD, q3, ixOf]
  have e3 : subD (.ref s) (.int 0) (μ.set s (.lst [.int ((a + 1 : Nat) : Int)])) = some (.int ((a + 1 : Nat) : Int)) := by simp only [subD, h3]; exact at0
  have e4 : ((a : Int) + 1) = ((a + 1 : Nat) : Int) := by omega
  have e5 : (((a + 1 : Nat) : Int) - 1) = (a : Int) := by omega
  generalize hz : ((a + 1 : Nat) : Int) = z at *
  generalize hy : ((a : Nat) : Int) = y at *
  simp [b__law_take, e1, e2, e4]
  simp [e3, e5, h5]
theorem cond_ok (n : Nat) {μ : Mem} {r s F : Nat} (hF : F ≤ 1000) (h : Spot μ r s) : ∃ (ps : List (Nat × Bool)) (μ' : Mem), PsB F ps ∧ (G (n + 3)).fn "_law_cond" [.ref r, .ref s, .int F] μ = .ok (.tup (pairsD ps)) μ' ∧ Spot μ' r s ∧ (∀ k c, k ≠ s → μ[k]? = some c → μ'[k]? = some c) ∧ μ.length ≤ μ'.length := by
  rw [f__law_cond, run3]
  generalize hm : μ.length = m
  have hrl : r < m := by obtain ⟨rs, _, q⟩ := h.row; rw [← hm]; exact (List.getElem?_eq_some_iff.mp q).1
  have hsl : s < m := by obtain ⟨a, q⟩ := h.at_; rw [← hm]; exact (List.getElem?_eq_some_iff.mp q).1
  obtain ⟨ρ', μ', e, a, b, ps, hρ, hps, hc, hs, hk, hln⟩ := for_run (body := fBody (G (n + 2)) l1__law_cond) (tg := .nm 4) (own := []) (fun i ρ μ' => ∃ a b ps, ρ = [some (.ref r), some (.ref s), some (.int F), some (.ref m), a, b] ∧ PsB i ps ∧ μ'[m]? = some (.lst (pairsD ps)) ∧ Spot μ' r s ∧ (∀ k c, k ≠ s → μ[k]? = some c → μ'[k]? = some c) ∧ m < μ'.length)
    (ds := rngD 0 F) (i := 0) (ρ := [some (.ref r), some (.ref s), some (.int F), some (.ref m), none, none]) (μ := μ ++ [.lst []]) ⟨none, none, [], rfl, ⟨by simp, by simp⟩, by rw [← hm]; simp, h.app _, fun k c _ hc => by rw [List.getElem?_append_left (List.getElem?_eq_some_iff.mp hc).1]; exact hc, by rw [← hm]; simp⟩
    (by
      intro j d ρ μ' hd ⟨a, b, ps, hρ, hps, hc, hs, hk, hln⟩
      obtain ⟨hj, ed⟩ := rng_get hd
      subst ed; subst hρ
      rw [Nat.zero_add] at hps ⊢
      refine ⟨rfl, _, rfl, ?_⟩
      obtain ⟨v, c, hv, ht, hs2⟩ := take_ok n (L := 5) hs (by omega)
      have hc2 : (μ'.set s c)[m]? = some (.lst (pairsD ps)) := by rw [List.getElem?_set_ne (by omega)]; exact hc
      have hk2 : ∀ k x, k ≠ s → μ[k]? = some x → (μ'.set s c)[k]? = some x := fun k x hne hx => by rw [List.getElem?_set_ne (Ne.symm hne)]; exact hk k x hne hx
      have ht : (G (n + 2)).fn "_law_take" [.ref r, .ref s, .int 5] μ' = .ok (.int (v : Nat)) (μ'.set s c) := ht
      by_cases h2 : 2 < v
      · have hpl : ps.length ≤ 1000 := by
          have := hps.2
          have nd : (ps.map (·.1)).Nodup := by
            rw [List.nodup_iff_pairwise_ne, List.pairwise_map]
            exact hps.1.imp fun h => by omega
          have := List.Nodup.length_le_of_subset nd (l₂ := List.range j) (fun x hx => by
            obtain ⟨p, hp, e⟩ := List.mem_map.mp hx
            rw [List.mem_range, ← e]; exact hps.2 p hp)
          simp at this; omega
        have happ := app_ok (x := .tup [.int (j : Nat), .bl ((v : Int) == 3)]) hc2 (by rw [limV]; simp; omega)
        refine ⟨_, (μ'.set s c).set m (.lst (pairsD ps ++ [.tup [.int (j : Nat), .bl ((v : Int) == 3)]])), .inl ?_, some (.int (j : Nat)), some (.int (v : Nat)), ps ++ [(j, (v : Int) == 3)], rfl, hps.snoc _, ?_, hs2.set (by omega) (by omega), fun k x hne hx => ?_, ?_⟩
        · have h2' : (2 : Int) < v := by omega
          have hlim : 2 ≤ lim := by rw [limV]; omega
          simp [fBody, l1__law_cond, ht, h2', isL hc2, happ, hlim]
        · rw [set_at hc2]; simp
        · have hkm : k < m := by rw [← hm]; exact (List.getElem?_eq_some_iff.mp hx).1
          rw [List.getElem?_set_ne (by omega)]; exact hk2 k x hne hx
        · simp; exact hln
      · refine ⟨_, μ'.set s c, .inl ?_, some (.int (j : Nat)), some (.int (v : Nat)), ps, rfl, hps.up, hc2, hs2, hk2, by simp; exact hln⟩
        have h2' : ¬ (2 : Int) < v := by omega
        simp [fBody, l1__law_cond, ht, h2'])
    (fun _ _ _ => rfl)
  subst hρ
  have el : 0 + (rngD 0 F).length = F := by simp [rngD]
  rw [el] at hps
  refine ⟨ps, μ', hps, ?_, hs, hk, by omega⟩
  have gr : ∀ μ' : Mem, rngOf (.int (F : Nat)) μ' = .ok ⟨rngD 0 F, [], false⟩ μ' := fun μ' => rng_small μ' (by omega) (by omega)
  have ei : itsOf (.ref m) μ' = some ⟨pairsD ps, [(m, .lst (pairsD ps))], false⟩ := by simp only [itsOf, hc]
  simp [b__law_cond, Mi.alloc, hm, gr, e, ei]
theorem take_of {Γ : Gam} (h : ∀ (μ : Mem) (r s L : Nat), Spot μ r s → 0 < L → ∃ (v : Nat) (c : Cell), v < L ∧ Γ.fn "_law_take" [.ref r, .ref s, .int L] μ = .ok (.int (v : Nat)) (μ.set s c) ∧ Spot (μ.set s c) r s) : TakeW Γ := fun r s L hL μ sp => by
  obtain ⟨v, c, h1, h2, h3⟩ := h μ r s L.toNat sp (by omega)
  have e : ((L.toNat : Nat) : Int) = L := by omega
  rw [e] at h2
  exact OkX.of_eq h2 ⟨⟨v, by omega, rfl⟩, h3, Kp.tk c⟩
theorem take_w (n : Nat) : TakeW (G (n + 2)) := take_of fun _ _ _ _ sp h => take_ok n sp h
theorem cond_of {Γ : Gam} (h : ∀ (μ : Mem) (r s F : Nat), F ≤ 1000 → Spot μ r s → ∃ (ps : List (Nat × Bool)) (μ' : Mem), PsB F ps ∧ Γ.fn "_law_cond" [.ref r, .ref s, .int F] μ = .ok (.tup (pairsD ps)) μ' ∧ Spot μ' r s ∧ (∀ k c, k ≠ s → μ[k]? = some c → μ'[k]? = some c) ∧ μ.length ≤ μ'.length) : CondW Γ := fun r s F hF μ sp => by
  obtain ⟨ps, μ', h1, h2, h3, h4, h5⟩ := h μ r s F hF sp
  exact OkX.of_eq h2 ⟨⟨ps, h1, rfl⟩, h3, h5, h4⟩
theorem cond_w (n : Nat) : CondW (G (n + 3)) := by
  have q := @cond_ok n
  generalize G (n + 3) = Γ at q ⊢
  exact cond_of fun μ r s F hF sp => q hF sp
end Lw
/-! W3: drawn methods and books. -/
namespace Lw
open PySem Mi

/-- a step: a deed (true) or a task, its number -/
abbrev Step := Bool × Nat
abbrev Meth := List (Nat × Bool) × List Step
def stepD (s : Step) : Mi.D := .tup [.str (if s.1 then "deed" else "task"), .int (s.2 : Nat)]
def methD (m : Meth) : Mi.D := .tup [.tup (pairsD m.1), .tup (m.2.map stepD)]
structure MethOk (F D T : Nat) (m : Meth) : Prop where
  c : PsB F m.1
  l : m.2.length ≤ 5
  s : ∀ x ∈ m.2, x.2 < if x.1 then D else T
def MethodW (Γ : Gam) : Prop := ∀ r s (F D T own : Nat) (tails : Bool), F ≤ 1000 → 0 < D → Drawn Γ r s "_law_method" [.tup [.int F, .int D, .int T], .int own, .bl tails] (fun v => ∃ m, MethOk F D T m ∧ v = methD m)
theorem eight (k : Nat) (h : (k : Int) < 8) : ∃ c : Nat, c ≤ 5 ∧ atD [.int 0, .int 1, .int 1, .int 2, .int 2, .int 3, .int 4, .int 5] (k : Int) = some (.int (c : Nat)) := by
  have : k = 0 ∨ k = 1 ∨ k = 2 ∨ k = 3 ∨ k = 4 ∨ k = 5 ∨ k = 6 ∨ k = 7 := by omega
  rcases this with e | e | e | e | e | e | e | e <;> subst e
  · exact ⟨0, by omega, rfl⟩
  · exact ⟨1, by omega, rfl⟩
  · exact ⟨1, by omega, rfl⟩
  · exact ⟨2, by omega, rfl⟩
  · exact ⟨2, by omega, rfl⟩
  · exact ⟨3, by omega, rfl⟩
  · exact ⟨4, by omega, rfl⟩
  · exact ⟨5, by omega, rfl⟩
theorem method_b {Γ : Gam} (T1 : TakeW Γ) (C1 : CondW Γ) {r s F D T own : Nat} {tails : Bool} (hF : F ≤ 1000) (hD : 0 < D) {μ : Mem} (sp : Spot μ r s) :
    OkX (ans (exSs Γ b__law_method [some (.ref r), some (.ref s), some (.tup [.int F, .int D, .int T]), some (.int own), some (.bl tails), none, none, none, none] μ)) (fun v μ' => (∃ m, MethOk F D T m ∧ v = methD m) ∧ Spot μ' r s ∧ Kp s μ μ') X0 := by
  refine okx_of fun P hP => ?_
  simp [b__law_method, limV, -Bool.exists_bool]
  refine (T1 r s 8 (by decide) _ (sp.app _)).imp fun v μ1 ⟨⟨k, hk, e⟩, sp1, kp1⟩ => ?_
  subst e
  obtain ⟨c, hc, ec⟩ := eight k hk
  have hm1 : μ1[μ.length]? = some (.lst []) := kp1.2 _ _ (by have := sp.lt; omega) (by simp)
  have kp2 : Kp s μ μ1 := ((Kp.rfl' s μ).app _).trans kp1
  simp [ec, rng_w (show c ≤ 1000000 by omega)]
  have hml := kp2.1
  have hsl := sp.lt
  clear hk ec kp1
  generalize hm : μ.length = m at *
  refine OS.loop (fun i ρ μ' => ∃ (a7 a8 : Option Mi.D) (st : List Step), ρ = [some (.ref r), some (.ref s), some (.tup [.int F, .int D, .int T]), some (.int own), some (.bl tails), some (.ref m), some (.int c), a7, a8] ∧ Spot μ' r s ∧ Kp s μ μ' ∧
    μ'[m]? = some (.lst (st.map stepD)) ∧ st.length ≤ i ∧ ∀ x ∈ st, x.2 < if x.1 then D else T) ⟨none, none, [], rfl, sp1, kp2, hm1, by simp, by simp⟩ ?_ ?_
  · intro j d ρ μ' hd ⟨a7, a8, st, hρ, sp', kp', hm', hl, hst⟩
    obtain ⟨hj, ed⟩ := rng_get hd
    subst ed; subst hρ
    refine ⟨rfl, _, rfl, fun K hK => ?_⟩
    generalize ((j : Nat) : Int) = z
    simp [fBody, l1__law_method, limV, -Bool.exists_bool]
    refine (T1 r s 5 (by decide) _ sp').imp fun v μ2 ⟨⟨k1, hk1, e⟩, sp2, kp2'⟩ => ?_
    subst e
    have hm2 := kp2'.2 _ _ (by omega) hm'
    have kp2 := kp'.trans kp2'
    have hll : (st.map stepD).length < lim := by rw [limV]; simp; omega
    have put : ∀ (x : Step) (a8 : Option Mi.D) (μ3 : Mem), (x.2 < if x.1 then D else T) → Spot μ3 r s → Kp s μ2 μ3 → OkX (mtD .append (.ref m) [stepD x] μ3) (fun _ μ => K [some (.ref r), some (.ref s), some (.tup [.int F, .int D, .int T]), some (.int own), some (.bl tails), some (.ref m), some (.int c), some (.int z), a8] μ) X0 := fun x a8 μ3 hx sp3 kp3 => by
      have hm3 := kp3.2 _ _ (by omega) hm2
      refine app_w hm3 hll (hK _ _ ⟨some (.int z), a8, st ++ [x], rfl, sp3.set (by omega) (by omega), (kp2.trans kp3).put (by omega) _, ?_, by simp; omega, fun y hy => ?_⟩)
      · rw [set_at hm3]; simp
      · rcases List.mem_append.mp hy with hy | hy
        · exact hst y hy
        · simp at hy; subst hy; exact hx
    have fin : ∀ low : Int, 0 ≤ low → low < T → OkX (Γ.fn "_law_take" [.ref r, .ref s, .int (T - low)] μ2) (fun a5 μ => OkX (binD .add (.int low) a5 μ) (fun a6 μ => OkX (mtD .append (.ref m) [.tup [.str "task", a6]] μ) (fun _ μ => K [some (.ref r), some (.ref s), some (.tup [.int F, .int D, .int T]), some (.int own), some (.bl tails), some (.ref m), some (.int c), some (.int z), some (.int low)] μ) X0) X0) X0 := fun low h0 h1 => by
      refine (T1 r s _ (by omega) _ sp2).imp fun v μ3 ⟨⟨k2, hk2, e⟩, sp3, kp3⟩ => ?_
      subst e
      have el : low + (k2 : Int) = ((low.toNat + k2 : Nat) : Int) := by omega
      simp only [b_add, k_ok, el]
      exact put (false, low.toNat + k2) _ μ3 (by simp; omega) sp3 kp3
    have skip : ∀ low : Int, K [some (.ref r), some (.ref s), some (.tup [.int F, .int D, .int T]), some (.int own), some (.bl tails), some (.ref m), some (.int c), some (.int z), some (.int low)] μ2 := fun low =>
      hK _ _ ⟨some (.int z), some (.int low), st, rfl, sp2, kp2, hm2, by omega, hst⟩
    by_cases h3 : (k1 : Int) < 3
    · simp [h3, isL hm2, -Bool.exists_bool]
      refine (T1 r s D (by omega) _ sp2).imp fun v μ3 ⟨⟨k2, hk2, e⟩, sp3, kp3⟩ => ?_
      subst e
      exact put (true, k2) a8 μ3 (by simp; omega) sp3 kp3
    · simp [h3, isL hm2, biD, modK, -Bool.exists_bool]
      have low0 : (0 : Int) ≤ own - own % 2 := by omega
      by_cases ht : tails = true
      · rw [if_pos ht]
        by_cases hz : z < c - 1
        · simp only [hz, if_true]
          by_cases hT : (own : Int) - own % 2 + 2 < T
          · simp only [hT, decide_true, if_true]
            exact fin _ (by omega) hT
          · simp only [hT, decide_false, if_false, Bool.false_eq_true]
            exact skip _
        · simp only [hz, if_false]
          by_cases hT : (own : Int) - own % 2 < T
          · simp only [hT, decide_true, if_true]
            exact fin _ (by omega) hT
          · simp only [hT, decide_false, if_false, Bool.false_eq_true]
            exact skip _
      · rw [if_neg ht]
        by_cases hT : 0 < T
        · simp only [hT, if_true]
          have q := fin 0 (by omega) (by omega)
          rw [Int.sub_zero] at q
          exact q
        · simp only [hT, if_false]
          exact skip 0
  · intro ρ μ' ⟨a7, a8, st, hρ, sp', kp', hm', hl, hst⟩
    subst hρ
    refine ⟨rfl, ?_⟩
    rw [rng_len] at hl
    simp
    refine (C1 r s F hF _ sp').imp fun v μ2 ⟨⟨ps, h1, e⟩, sp2, kp2⟩ => ?_
    subst e
    have hm2 := kp2.2 _ _ (by omega) hm'
    simp [its_lst hm2]
    exact hP _ _ ⟨⟨(ps, st), ⟨h1, by dsimp only; omega, hst⟩, rfl⟩, sp2, kp'.trans kp2⟩
theorem method_of {Γ Γ' : Gam} (T1 : TakeW Γ) (C1 : CondW Γ) (e : ∀ ds μ, Γ'.fn "_law_method" ds μ = runD Γ ⟨5, 9, b__law_method⟩ ds μ) : MethodW Γ' := fun r s F D T own tails hF hD μ sp => by
  rw [e, run_ans _ _ _ _ rfl]
  exact method_b T1 C1 hF hD sp
theorem method_w (n : Nat) : MethodW (G (n + 4)) := by
  have t := take_w (n + 1)
  have c := cond_w n
  have e := f__law_method (n + 3)
  generalize G (n + 3) = Γ at t c e
  generalize G (n + 4) = Γ' at e ⊢
  exact method_of t c e
end Lw
/-! W4: drawn books. -/
namespace Lw
open PySem Mi

/-- a comprehension whose items are drawn -/
theorem lc_draw {r s : Nat} {step : Mi.D → Mem → Res (Option Mi.D)} {Pd : Mi.D → Prop} {ds : List Mi.D} {μ : Mem} {Q : List Mi.D → Mem → Prop} {X : Str → List (Str × Mi.D) → Mem → Prop} (hs : ∀ d ∈ ds, ∀ μ, Spot μ r s → ∀ K : Option Mi.D → Mem → Prop, (∀ x μ', Pd x → Spot μ' r s → Kp s μ μ' → K (some x) μ') → OkX (step d μ) K X0)
    (sp : Spot μ r s) (hl : ds.length ≤ lim) (hq : ∀ l μ', l.length = ds.length → (∀ x ∈ l, Pd x) → Spot μ' r s → Kp s μ μ' → Q l μ') : OkX (compL step [] 0 ds μ) Q X := by
  refine OkX.lc (fun i acc μ' => acc.length = i ∧ (∀ x ∈ acc, Pd x) ∧ Spot μ' r s ∧ Kp s μ μ') ⟨rfl, by simp, sp, Kp.rfl' s μ⟩ hl (fun j d acc μ1 hd ⟨h1, h2, h3, h4⟩ => ⟨rfl, fun K hK => ?_⟩) fun acc μ1 ⟨h1, h2, h3, h4⟩ => ⟨rfl, hq acc μ1 h1 h2 h3 h4⟩
  refine (hs d (List.mem_of_getElem? hd) μ1 h3 _ fun x μ2 p sp2 kp2 => ?_).imp fun _ _ h => h
  refine hK _ _ ⟨by simp [h1], fun y hy => ?_, sp2, h4.trans kp2⟩
  rcases List.mem_append.mp hy with hy | hy
  · exact h2 y hy
  · simp at hy; subst hy; exact p
def tasksD (ts : List (List Meth)) : List Mi.D := ts.map fun ms => .tup (ms.map methD)
def bookD (F D : Nat) (ts : List (List Meth)) : Mi.D := .tup [.int F, .int D, .tup (tasksD ts)]
structure BookOk (F D T M : Nat) (ts : List (List Meth)) : Prop where
  len : ts.length = T
  m : ∀ ms ∈ ts, ms.length ≤ M ∧ ∀ m ∈ ms, MethOk F D T m
theorem all_map {α β : Type} {P : α → Prop} {f : α → β} : ∀ {l : List β}, (∀ x ∈ l, ∃ a, P a ∧ x = f a) → ∃ as : List α, l = as.map f ∧ (∀ a ∈ as, P a)
  | [], _ => ⟨[], rfl, by simp⟩
  | x :: l, h => by
    obtain ⟨a, h1, h2⟩ := h x List.mem_cons_self
    obtain ⟨as, h3, h4⟩ := all_map (P := P) (f := f) (l := l) fun y hy => h y (List.mem_cons_of_mem _ hy)
    refine ⟨a :: as, by simp [h2, h3], fun b hb => ?_⟩
    rcases List.mem_cons.mp hb with e | hb
    · subst e; exact h1
    · exact h4 b hb
def BookW (Γ : Gam) : Prop := ∀ r s (F D T M : Nat) (tails : Bool), F ≤ 1000 → 0 < D → 0 < T → T ≤ 1000 → 1 ≤ M → M ≤ 1000 → Drawn Γ r s "_law_book" [.int F, .int D, .int T, .int M, .bl tails] (fun v => ∃ ts, BookOk F D T M ts ∧ v = bookD F D ts)
theorem set0 {α : Type} (a b : α) (l : List α) : (a :: l).set 0 b = b :: l := rfl
theorem book_b {Γ : Gam} (T1 : TakeW Γ) (M1 : MethodW Γ) {r s F D T M : Nat} {tails : Bool} (hF : F ≤ 1000) (hD : 0 < D) (hT : 0 < T) (hT2 : T ≤ 1000) (hM : 1 ≤ M) (hM2 : M ≤ 1000) {μ : Mem} (sp : Spot μ r s) :
    OkX (ans (exSs Γ b__law_book [some (.ref r), some (.ref s), some (.int F), some (.int D), some (.int T), some (.int M), some (.bl tails), none, none, none, none] μ)) (fun v μ' => (∃ ts, BookOk F D T M ts ∧ v = bookD F D ts) ∧ Spot μ' r s ∧ Kp s μ μ') X0 := by
  refine okx_of fun P hP => ?_
  simp [b__law_book, limV, rng_w (show T ≤ 1000000 by omega), -Bool.exists_bool]
  have hsl := sp.lt
  generalize hm : μ.length = m at *
  have sp1 : Spot (μ ++ [Cell.lst []]) r s := sp.app _
  have kp1 : Kp s μ (μ ++ [Cell.lst []]) := (Kp.rfl' s μ).app _
  have hm1 : (μ ++ [Cell.lst []])[m]? = some (.lst []) := by rw [← hm]; simp
  generalize μ ++ [Cell.lst []] = μ1 at *
  refine OS.loop (fun i ρ μ' => ∃ (a9 a10 : Option Mi.D) (ts : List (List Meth)), ρ = [some (.ref r), some (.ref s), some (.int F), some (.int D), some (.int T), some (.int M), some (.bl tails), some (.tup [.int F, .int D, .int T]), some (.ref m), a9, a10] ∧
    ts.length = i ∧ (∀ ms ∈ ts, ms.length ≤ M ∧ ∀ m ∈ ms, MethOk F D T m) ∧ μ'[m]? = some (.lst (tasksD ts)) ∧ Spot μ' r s ∧ Kp s μ μ') ⟨none, none, [], rfl, rfl, by simp, hm1, sp1, kp1⟩ ?_ ?_
  · intro j d ρ μ' hd ⟨a9, a10, ts, hρ, hts, hms, hm', sp', kp'⟩
    obtain ⟨hj, ed⟩ := rng_get hd
    subst ed; subst hρ
    refine ⟨rfl, _, rfl, fun K hK => ?_⟩
    simp [fBody, l1__law_book, isL hm', -Bool.exists_bool]
    refine (T1 r s _ (by omega) _ sp').imp fun v μ2 ⟨⟨c, hc, e⟩, sp2, kp2⟩ => ?_
    subst e
    simp [rng_w (show c ≤ 1000000 by omega)]
    refine lc_draw (r := r) (s := s) (Pd := fun x => ∃ m, MethOk F D T m ∧ x = methD m) (fun d hd μ4 sp4 K2 hK2 => ?_) sp2 (by rw [rng_len, limV]; omega) fun l μ3 hl1 hl2 sp3 kp3 => ?_
    · simp [wipeE, e1__law_book]
      exact (M1 r s F D T j tails hF hD μ4 sp4).imp fun v μ5 ⟨h5, sp5, kp5⟩ => hK2 v μ5 h5 sp5 kp5
    · obtain ⟨ms, e, hms2⟩ := all_map hl2
      subst e
      rw [rng_len] at hl1
      have hm3 := (kp2.trans kp3).2 _ _ (by omega) hm'
      refine app_w hm3 (by rw [limV]; simp [tasksD]; omega) (hK _ _ ⟨some (.int (j : Nat)), a10, ts ++ [ms], rfl, by simp [hts], fun x hx => ?_, ?_, sp3.set (by omega) (by omega), ((kp'.trans kp2).trans kp3).put (by omega) _⟩)
      · rcases List.mem_append.mp hx with hx | hx
        · exact hms x hx
        · simp at hx; subst hx
          simp at hl1
          exact ⟨by omega, hms2⟩
      · rw [set_at hm3]; simp [tasksD]
  · intro ρ μ' ⟨a9, a10, ts, hρ, hts, hms, hm', sp', kp'⟩
    subst hρ
    refine ⟨rfl, ?_⟩
    rw [rng_len] at hts
    cases ts with
    | nil => simp at hts; omega
    | cons ms ts =>
      have fin : ∀ (ts' : List (List Meth)) (μ2 : Mem), ts'.length = T → (∀ ms ∈ ts', ms.length ≤ M ∧ ∀ m ∈ ms, MethOk F D T m) → μ2[m]? = some (.lst (tasksD ts')) → Spot μ2 r s → Kp s μ μ2 → ∃ a, itsOf (.ref m) μ2 = some a ∧ P (.tup [.int F, .int D, .tup a.ds]) μ2 := fun ts' μ2 h1 h2 h3 h4 h5 =>
        ⟨_, its_lst h3, hP _ _ ⟨⟨ts', ⟨h1, h2⟩, rfl⟩, h4, h5⟩⟩
      have hl0 : tasksD (ms :: ts) = .tup (ms.map methD) :: tasksD ts := rfl
      simp [sub_lst hm', hl0, biD, -Bool.exists_bool]
      by_cases hz : ms = []
      · subst hz
        simp [-Bool.exists_bool]
        refine (T1 r s 4 (by decide) _ sp').imp fun v μ2 ⟨⟨c, hc, e⟩, sp2, kp2⟩ => ?_
        subst e
        simp [-Bool.exists_bool]
        have hm2 := kp2.2 _ _ (by omega) hm'
        by_cases h0 : 0 < c
        · simp [h0, -Bool.exists_bool]
          refine (M1 r s F D T 0 tails hF hD μ2 sp2).imp fun v μ3 ⟨⟨me, h5, e⟩, sp3, kp3⟩ => ?_
          subst e
          have hm3 := kp3.2 _ _ (by omega) hm2
          have es : setD (.ref m) (.int 0) (.tup [methD me]) μ3 = some (μ3.set m (.lst (tasksD ([me] :: ts)))) := by
            simp [setD, hm3, hl0, ixOf, tasksD]
          simp [es]
          refine fin _ _ (by simpa using hts) (fun x hx => ?_) (set_at hm3) (sp3.set (by omega) (by omega)) (((kp'.trans kp2).trans kp3).put (by omega) _)
          rcases List.mem_cons.mp hx with e | hx
          · subst e; exact ⟨by simpa using hM, fun y hy => by simp at hy; subst hy; exact h5⟩
          · exact hms x (List.mem_cons_of_mem _ hx)
        · simp [h0, -Bool.exists_bool]
          exact fin _ _ hts hms hm2 sp2 (kp'.trans kp2)
      · have hz2 : ¬ ms.length = 0 := by simpa using hz
        simp [hz, -Bool.exists_bool]
        exact fin _ _ hts hms hm' sp' kp'
theorem book_of {Γ Γ' : Gam} (T1 : TakeW Γ) (M1 : MethodW Γ) (e : ∀ ds μ, Γ'.fn "_law_book" ds μ = runD Γ ⟨7, 11, b__law_book⟩ ds μ) : BookW Γ' := fun r s F D T M tails h1 h2 h3 h4 h5 h6 μ sp => by
  rw [e, run_ans _ _ _ _ rfl]
  exact book_b T1 M1 h1 h2 h3 h4 h5 h6 sp
theorem book_w (n : Nat) : BookW (G (n + 5)) := book_of (take_w (n + 2)) (method_w n) (f__law_book (n + 4))
end Lw
/-! W5: the forms of values: what the small functions answer of data that may lie in lists. -/
namespace Lw
open PySem Mi

theorem is_integer_ok (n : Nat) (d : Mi.D) (μ : Mem) : (G (n + 1)).fn "is_integer" [d] μ = .ok (.bl (isI d)) μ := by
  rw [f_is_integer, run1]
  cases d <;> simp [b_is_integer, isTys, isTy, isI]
theorem is_between_ok (n : Nat) (d : Mi.D) (a b : Int) (μ : Mem) : (G (n + 2)).fn "is_between" [d, .int a, .int b] μ = .ok (.bl (betw d a b)) μ := by
  rw [f_is_between, run3]
  cases d with
  | int i =>
    by_cases ha : a ≤ i <;> simp [b_is_between, is_integer_ok, isI, betw, ha]
  | _ => simp [b_is_between, is_integer_ok, isI, betw]
theorem is_number_ok (n : Nat) (d : Mi.D) (a : Int) (μ : Mem) : (G (n + 2)).fn "is_number" [d, .int a] μ = .ok (.bl (isNum d a)) μ := by
  rw [f_is_number, run2]
  cases d with
  | int i =>
    by_cases ha : 0 ≤ i <;> simp [b_is_number, is_integer_ok, isI, isNum, ha]
  | _ => simp [b_is_number, is_integer_ok, isI, isNum]
def isSeqT : Mi.D → Bool
  | .tup _ => true
  | _ => false
def isBl : Mi.D → Bool
  | .bl _ => true
  | _ => false
def numT : Mi.D → Int
  | .int i => i
  | _ => 0
theorem Lks.len {μ : Mem} : ∀ {ts xs : List Mi.D}, Lks μ ts xs → ts.length = xs.length
  | [], _, h => by simp only [Lks] at h; subst h; rfl
  | t :: ts, _, h => by
    simp only [Lks] at h
    obtain ⟨y, ys, e, _, h2⟩ := h
    subst e
    simp [Lks.len h2]
theorem Lks.get {μ : Mem} : ∀ {ts xs : List Mi.D} {j : Nat} {x : Mi.D}, Lks μ ts xs → xs[j]? = some x → ∃ t, ts[j]? = some t ∧ Lk μ t x
  | [], _, j, x, h, e => by simp only [Lks] at h; subst h; simp at e
  | t :: ts, _, j, x, h, e => by
    simp only [Lks] at h
    obtain ⟨y, ys, e2, h1, h2⟩ := h
    subst e2
    cases j with
    | zero => simp at e; subst e; exact ⟨t, rfl, h1⟩
    | succ j => simpa using Lks.get h2 (by simpa using e)
theorem Lks.two {μ : Mem} {a b : Mi.D} {xs : List Mi.D} (h : Lks μ [a, b] xs) : ∃ x y, xs = [x, y] ∧ Lk μ a x ∧ Lk μ b y := by
  simp only [Lks] at h
  obtain ⟨x, _, e, h1, y, _, e2, h2, e3⟩ := h
  subst e3; subst e2; subst e
  exact ⟨x, y, rfl, h1, h2⟩
theorem Lks.three {μ : Mem} {a b c : Mi.D} {xs : List Mi.D} (h : Lks μ [a, b, c] xs) : ∃ x y z, xs = [x, y, z] ∧ Lk μ a x ∧ Lk μ b y ∧ Lk μ c z := by
  simp only [Lks] at h
  obtain ⟨x, _, e, h1, y, _, e2, h2, z, _, e4, h3, e3⟩ := h
  subst e3; subst e4; subst e2; subst e
  exact ⟨x, y, z, rfl, h1, h2, h3⟩
theorem lk_cases {μ : Mem} {t x : Mi.D} {k : Nat} (h : Lk μ t x) (ok : okD k t = true) : (∃ ts ds, t = .tup ts ∧ seqOf x μ = some ds ∧ Lks μ ts ds ∧ okDs (k - 1) ts = true ∧ ts.length ≤ 1000) ∨ (x = t ∧ isSeqT t = false ∧ ∀ n, t ≠ .ref n) := by
  cases k with
  | zero => simp [okD] at ok
  | succ k =>
    cases t with
    | tup ts =>
      simp only [Lk] at h
      simp only [okD, Bool.and_eq_true, decide_eq_true_eq] at ok
      obtain ⟨ds, h1, h2⟩ := h
      exact .inl ⟨ts, ds, rfl, h1, h2, ok.2, ok.1⟩
    | ref n => simp [okD] at ok
    | non => simp only [Lk] at h; exact .inr ⟨h, rfl, fun n z => by cases z⟩
    | bl b => simp only [Lk] at h; exact .inr ⟨h, rfl, fun n z => by cases z⟩
    | int b => simp only [Lk] at h; exact .inr ⟨h, rfl, fun n z => by cases z⟩
    | str b => simp only [Lk] at h; exact .inr ⟨h, rfl, fun n z => by cases z⟩
theorem lk_num {μ : Mem} {t x : Mi.D} (h : Lk μ t x) (L : Int) : isNum x L = isNum t L := by
  cases t with
  | tup ts =>
    simp only [Lk] at h
    obtain ⟨ds, h1, h2⟩ := h
    cases x <;> simp [seqOf] at h1 <;> rfl
  | _ => simp only [Lk] at h; rw [h]
theorem num_int {t : Mi.D} {L : Int} (h : isNum t L = true) : ∃ i : Nat, t = .int (i : Nat) ∧ (i : Int) < L := by
  cases t with
  | int i =>
    simp only [isNum, Bool.and_eq_true, decide_eq_true_eq] at h
    exact ⟨i.toNat, by congr 1; omega, by omega⟩
  | _ => simp [isNum] at h
theorem lk_int {μ : Mem} {i : Int} {x : Mi.D} (h : Lk μ (.int i) x) : x = .int i := by simpa only [Lk] using h
def SeqW (Γ : Gam) : Prop := ∀ (μ : Mem) (t x : Mi.D) (k : Nat), Lk μ t x → okD k t = true → Γ.fn "is_sequence" [x] μ = .ok (.bl (isSeqT t)) μ
theorem seq_w (n : Nat) : SeqW (G (n + 1)) := fun μ t x k h ok => by
  rw [f_is_sequence, run1]
  rcases lk_cases h ok with ⟨ts, ds, e, h1, _⟩ | ⟨e, e2, e3⟩
  · subst e
    cases x with
    | tup es => simp [b_is_sequence, isTys, isTy, isSeqT]
    | ref r =>
      cases q : μ[r]? with
      | none => simp [seqOf, q] at h1
      | some c => cases c <;> simp [seqOf, q] at h1 <;> simp [b_is_sequence, isTys, isTy, q, isSeqT]
    | _ => simp [seqOf] at h1
  · subst e
    cases x with
    | tup es => simp [isSeqT] at e2
    | ref r => exact absurd rfl (e3 r)
    | _ => simp [b_is_sequence, isTys, isTy, isSeqT]
def NumW (Γ : Gam) : Prop := ∀ (μ : Mem) (d : Mi.D) (a : Int), Γ.fn "is_number" [d, .int a] μ = .ok (.bl (isNum d a)) μ
theorem num_w (n : Nat) : NumW (G (n + 2)) := fun μ d a => is_number_ok n d a μ
def BetwW (Γ : Gam) : Prop := ∀ (μ : Mem) (d : Mi.D) (a b : Int), Γ.fn "is_between" [d, .int a, .int b] μ = .ok (.bl (betw d a b)) μ
theorem betw_w (n : Nat) : BetwW (G (n + 2)) := fun μ d a b => is_between_ok n d a b μ
/-- pairs of a condition, behind last -/
def condT (F : Int) : Int → List Mi.D → Bool
  | _, [] => true
  | last, p :: ps => match p with
    | .tup [a, b] => (isNum a F && decide (last < numT a)) && (isBl b && condT F (numT a) ps)
    | _ => false
def condTT (F : Int) : Mi.D → Bool
  | .tup ts => condT F (-1) ts
  | _ => false
theorem isBl_lk {μ : Mem} {t x : Mi.D} {k : Nat} (h : Lk μ t x) (ok : okD k t = true) : isTys x μ [.bool] = some (isBl t) := by
  rcases lk_cases h ok with ⟨ts, ds, e, h1, _⟩ | ⟨e, e2, e3⟩
  · subst e
    cases x with
    | tup es => rfl
    | ref r => rfl
    | _ => simp [seqOf] at h1
  · subst e
    cases x <;> rfl
theorem drop_get {α : Type} {l : List α} {j : Nat} {x : α} (h : l[j]? = some x) : l.drop j = x :: l.drop (j + 1) := by
  obtain ⟨h1, h2⟩ := List.getElem?_eq_some_iff.mp h
  rw [List.drop_eq_getElem_cons h1, h2]
theorem its_own {x : Mi.D} {μ : Mem} {ds : List Mi.D} (h : seqOf x μ = some ds) : ∃ own tup, itsOf x μ = some ⟨ds, own, tup⟩ ∧ chk own μ = true := by
  obtain ⟨own, tup, h1, h2⟩ := its_seq h
  exact ⟨own, tup, h1, h2 μ fun _ _ => rfl⟩
theorem len2 {α : Type} {l : List α} (h : l.length = 2) : ∃ a b, l = [a, b] := by
  match l, h with
  | [a, b], _ => exact ⟨a, b, rfl⟩
theorem len3 {α : Type} {l : List α} (h : l.length = 3) : ∃ a b c, l = [a, b, c] := by
  match l, h with
  | [a, b, c], _ => exact ⟨a, b, c, rfl⟩
def CondTW (Γ : Gam) : Prop := ∀ (μ : Mem) (t x : Mi.D) (F k : Nat), Lk μ t x → okD k t = true → Γ.fn "is_condition" [x, .int F] μ = .ok (.bl (condTT F t)) μ
theorem condt_b {Γ : Gam} (S : SeqW Γ) (N : NumW Γ) {μ : Mem} {t x : Mi.D} {F k : Nat} (h : Lk μ t x) (ok : okD k t = true) : OkX (ans (exSs Γ b_is_condition [some x, some (.int F), none, none] μ)) (fun v μ' => v = .bl (condTT F t) ∧ μ' = μ) X0 := by
  refine okx_of fun P hP => ?_
  simp [b_is_condition, S μ t x k h ok, -Bool.exists_bool]
  rcases lk_cases h ok with ⟨ts, ds, e, h1, h2, h3, h4⟩ | ⟨e, e2, e3⟩
  · subst e
    obtain ⟨own, tup, ei, hc⟩ := its_own h1
    simp [isSeqT, ei, -Bool.exists_bool]
    refine OS.loop (fun i ρ μ' => ∃ (last : Int) (a3 : Option Mi.D), ρ = [some x, some (.int F), some (.int last), a3] ∧ μ' = μ ∧ condT F (-1) ts = condT F last (ts.drop i)) ⟨-1, none, rfl, rfl, rfl⟩ ?_ ?_
    · intro j d ρ μ' hd ⟨last, a3, hρ, hμ, hl⟩
      subst hρ; subst hμ
      refine ⟨hc, _, rfl, fun K hK => ?_⟩
      obtain ⟨p, hp, lp⟩ := h2.get hd
      have okp := okDs_get h3 hp
      rw [drop_get hp] at hl
      simp [fBody, l1_is_condition, S μ' p d _ lp okp, -Bool.exists_bool]
      rcases lk_cases lp okp with ⟨ps, es, e, g1, g2, g3, g4⟩ | ⟨e, e2, e3⟩
      · subst e
        have gl := g2.len
        simp [isSeqT, biD, len_seq g1, -Bool.exists_bool]
        by_cases h2 : es.length = 2
        · obtain ⟨a, b, e⟩ := len2 (gl.trans h2)
          subst e
          obtain ⟨y, z, e, l1, l2⟩ := g2.two
          subst e
          simp only [okDs, Bool.and_eq_true] at g3
          simp [sub_seq g1, N μ' y F, lk_num l1, -Bool.exists_bool]
          cases hn : isNum a F with
          | false =>
            simp [-Bool.exists_bool]
            exact hP _ _ ⟨by simp [condTT, hl, condT, hn], rfl⟩
          | true =>
            obtain ⟨i, e, hi⟩ := num_int hn
            subst e
            have ey := lk_int l1
            subst ey
            simp [-Bool.exists_bool]
            by_cases hlt : last < (i : Int)
            · have hlt2 : ¬ (i : Int) ≤ last := by omega
              simp [hlt2, isBl_lk l2 g3.2.1, -Bool.exists_bool]
              cases hb : isBl b with
              | false =>
                simp [-Bool.exists_bool]
                exact hP _ _ ⟨by simp [condTT, hl, condT, hb], rfl⟩
              | true =>
                simp [sub_seq g1, -Bool.exists_bool]
                exact hK _ _ ⟨i, some d, rfl, rfl, by rw [hl]; simp [condT, hn, numT, hlt, hb]⟩
            · have hlt2 : (i : Int) ≤ last := by omega
              simp [hlt2, -Bool.exists_bool]
              exact hP _ _ ⟨by simp [condTT, hl, condT, numT, hlt], rfl⟩
        · have h2' : ((es.length : Int) == 2) = false := by simp; omega
          simp [h2', -Bool.exists_bool]
          refine hP _ _ ⟨?_, rfl⟩
          simp only [condTT, hl, condT]
          match ps, gl with
          | [], _ => rfl
          | [a], _ => rfl
          | [a, b], gl => simp at gl; omega
          | a :: b :: c :: r, _ => rfl
      · subst e
        simp [e2, -Bool.exists_bool]
        refine hP _ _ ⟨?_, rfl⟩
        simp only [condTT, hl, condT]
        cases d <;> first | rfl | simp [isSeqT] at e2
    · intro ρ μ' ⟨last, a3, hρ, hμ, hl⟩
      subst hρ; subst hμ
      refine ⟨hc, ?_⟩
      refine hP _ _ ⟨?_, rfl⟩
      rw [← h2.len, List.drop_length] at hl
      simp [condTT, hl, condT]
  · subst e
    simp [e2, -Bool.exists_bool]
    refine hP _ _ ⟨?_, rfl⟩
    cases x <;> first | rfl | simp [isSeqT] at e2
theorem condt_of {Γ Γ' : Gam} (S : SeqW Γ) (N : NumW Γ) (e : ∀ ds μ, Γ'.fn "is_condition" ds μ = runD Γ ⟨2, 4, b_is_condition⟩ ds μ) : CondTW Γ' := fun μ t x F k h ok => by
  rw [e, run_ans _ _ _ _ rfl]
  exact (condt_b S N h ok).to_eq
theorem condt_w (n : Nat) : CondTW (G (n + 3)) := condt_of (seq_w (n + 1)) (num_w n) (f_is_condition (n + 2))
end Lw
/-! W6: steps, methods, lists of tasks. -/
namespace Lw
open PySem Mi

def stepT (D T : Int) (p : Mi.D) : Bool := match p with
  | .tup [a, b] => if a = .str "deed" then isNum b D else if a = .str "task" then isNum b T else false
  | _ => false
def stepsTT (D T : Int) : Mi.D → Bool
  | .tup ts => decide (ts.length ≤ 5) && ts.all (stepT D T)
  | _ => false
/-- a step's kind is no row -/
def fstOk : Mi.D → Bool
  | .tup [a, _] => !isSeqT a
  | _ => true
def stOk : Mi.D → Bool
  | .tup ts => ts.all fstOk
  | _ => true
theorem eq_str {a : Mi.D} {w : Str} (hw : pureD lev (.str w) = true) (h1 : isSeqT a = false) (h2 : ∀ n, a ≠ .ref n) (μ : Mem) : cmpD .eq a (.str w) μ = some (decide (a = .str w)) := by
  have pl : ∀ i : Int, pureD lev (.int i) = true := fun _ => rfl
  have pb : ∀ i : Bool, pureD lev (.bl i) = true := fun _ => rfl
  have pn : pureD lev .non = true := rfl
  cases a with
  | tup ts => simp [isSeqT] at h1
  | ref n => exact absurd rfl (h2 n)
  | str s => simp [cmpD]
  | non => simp [cmpD, hw, pn, eqD]
  | bl b => simp [cmpD, hw, pb, eqD]
  | int i => simp [cmpD, hw, pl, eqD]
theorem pure_deed : pureD lev (.str "deed") = true := by decide +kernel
theorem pure_task : pureD lev (.str "task") = true := by decide +kernel
theorem task_ne : ((.str "task" : Mi.D) = .str "deed") = False := by simp; decide +kernel
theorem task_ne2 : (("task" : Str) = "deed") = False := by simp only [eq_iff_iff, iff_false]; decide +kernel
theorem two_or {α : Type} {l : List α} : (∃ a b, l = [a, b]) ∨ l.length ≠ 2 := by
  match l with
  | [] => simp
  | [a] => simp
  | [a, b] => exact .inl ⟨a, b, rfl⟩
  | a :: b :: c :: r => simp
def StepsW (Γ : Gam) : Prop := ∀ (μ : Mem) (t x : Mi.D) (D T : Int) (k : Nat), Lk μ t x → okD k t = true → stOk t = true → Γ.fn "is_steps" [x, .int D, .int T] μ = .ok (.bl (stepsTT D T t)) μ
theorem stepT_len {D T : Int} {ps : List Mi.D} (h : ps.length ≠ 2) : stepT D T (.tup ps) = false := by
  match ps, h with
  | [], _ => rfl
  | [a], _ => rfl
  | [a, b], h => simp at h
  | a :: b :: c :: r, _ => rfl
theorem steps_b {Γ : Gam} (S : SeqW Γ) (N : NumW Γ) (hc : Γ.cst "MOST_STEPS" = some (.int 5)) {μ : Mem} {t x : Mi.D} {D T : Int} {k : Nat} (h : Lk μ t x) (ok : okD k t = true) (so : stOk t = true) :
    OkX (ans (exSs Γ b_is_steps [some x, some (.int D), some (.int T), none, none] μ)) (fun v μ' => v = .bl (stepsTT D T t) ∧ μ' = μ) X0 := by
  refine okx_of fun P hP => ?_
  simp [b_is_steps, S μ t x k h ok, hc, -Bool.exists_bool]
  rcases lk_cases h ok with ⟨ts, ds, e, h1, h2, h3, h4⟩ | ⟨e, e2, e3⟩
  · subst e
    obtain ⟨own, tup, ei, hck⟩ := its_own h1
    have hl := h2.len
    simp [isSeqT, ei, biD, len_seq h1, -Bool.exists_bool]
    by_cases h5 : (5 : Int) < ds.length
    · simp [h5, -Bool.exists_bool]
      exact hP _ _ ⟨by have : ¬ ts.length ≤ 5 := by omega
                       simp [stepsTT, this], rfl⟩
    · simp [h5, -Bool.exists_bool]
      have h5' : ts.length ≤ 5 := by omega
      refine OS.loop (fun i ρ μ' => ∃ (a3 a4 : Option Mi.D), ρ = [some x, some (.int D), some (.int T), a3, a4] ∧ μ' = μ ∧ ts.all (stepT D T) = (ts.drop i).all (stepT D T)) ⟨none, none, rfl, rfl, rfl⟩ ?_ ?_
      · intro j d ρ μ' hd ⟨a3, a4, hρ, hμ, hal⟩
        subst hρ; subst hμ
        refine ⟨hck, _, rfl, fun K hK => ?_⟩
        obtain ⟨p, hp, lp⟩ := h2.get hd
        have okp := okDs_get h3 hp
        have fp : fstOk p = true := by
          simp only [stOk, List.all_eq_true] at so
          exact so p (List.mem_of_getElem? hp)
        rw [drop_get hp, List.all_cons] at hal
        simp [fBody, l1_is_steps, S μ' p d _ lp okp, -Bool.exists_bool]
        have no : stepT D T p = false → P (.bl false) μ' := fun z => hP _ _ ⟨by simp only [stepsTT, hal, z, Bool.false_and, Bool.and_false], rfl⟩
        rcases lk_cases lp okp with ⟨ps, es, e, g1, g2, g3, g4⟩ | ⟨e, e2, e3⟩
        · subst e
          have gl := g2.len
          simp [isSeqT, biD, len_seq g1, -Bool.exists_bool]
          rcases two_or (l := ps) with ⟨a, b, e⟩ | h2
          · subst e
            obtain ⟨y, z, e, l1, l2⟩ := g2.two
            subst e
            simp only [okDs, Bool.and_eq_true] at g3
            simp [sub_seq g1, -Bool.exists_bool]
            simp only [fstOk, Bool.not_eq_true'] at fp
            rcases lk_cases l1 g3.1 with ⟨_, _, e, _⟩ | ⟨e, e2, e3⟩
            · subst e; simp [isSeqT] at fp
            · subst e
              have go : ∀ (L : Int) (o : Option Mi.D), stepT D T (.tup [y, b]) = isNum b L → OkX (Γ.fn "is_number" [z, .int L] μ') (fun a μ => ∃ a_1, truthD a μ = some a_1 ∧ ∃ a, a_1 = !a ∧ if a = true then P (.bl false) μ else K [some x, some (.int D), some (.int T), some d, o] μ) X0 := fun L o el => by
                rw [N μ' z L, lk_num l2 L]
                simp [-Bool.exists_bool]
                cases hb : isNum b L with
                | true => simp; exact hK _ _ ⟨some d, o, rfl, rfl, by rw [hal, el, hb]; rfl⟩
                | false => simp; exact no (by rw [el, hb])
              simp [eq_str pure_deed e2 e3, eq_str pure_task e2 e3, -Bool.exists_bool]
              by_cases hd1 : y = .str "deed"
              · subst hd1
                simp [sub_seq g1, -Bool.exists_bool]
                exact go D (some (.int D)) (by simp [stepT])
              · by_cases hd2 : y = .str "task"
                · subst hd2
                  simp [sub_seq g1, task_ne, -Bool.exists_bool]
                  exact go T (some (.int T)) (by simp [stepT, task_ne2])
                · simp [hd1, hd2, -Bool.exists_bool]
                  exact no (by simp [stepT, hd1, hd2])
          · have h2' : ((es.length : Int) == 2) = false := by simp; omega
            simp [h2', -Bool.exists_bool]
            exact no (stepT_len h2)
        · subst e
          simp [e2, -Bool.exists_bool]
          exact no (by cases d <;> first | rfl | simp [isSeqT] at e2)
      · intro ρ μ' ⟨a3, a4, hρ, hμ, hal⟩
        subst hρ; subst hμ
        refine ⟨hck, ?_⟩
        refine hP _ _ ⟨?_, rfl⟩
        rw [← hl, List.drop_length] at hal
        simp only [stepsTT, hal, List.all_nil, Bool.and_true, decide_eq_true h5']
  · subst e
    simp [e2, -Bool.exists_bool]
    refine hP _ _ ⟨?_, rfl⟩
    cases x <;> first | rfl | simp [isSeqT] at e2
theorem steps_of {Γ Γ' : Gam} (S : SeqW Γ) (N : NumW Γ) (hc : Γ.cst "MOST_STEPS" = some (.int 5)) (e : ∀ ds μ, Γ'.fn "is_steps" ds μ = runD Γ ⟨3, 5, b_is_steps⟩ ds μ) : StepsW Γ' := fun μ t x D T k h ok so => by
  rw [e, run_ans _ _ _ _ rfl]
  exact (steps_b S N hc h ok so).to_eq
theorem steps_w (n : Nat) : StepsW (G (n + 3)) := steps_of (seq_w (n + 1)) (num_w n) (cst_MOST_STEPS _) (f_is_steps (n + 2))

def methTT (F D T : Int) : Mi.D → Bool
  | .tup [c, s] => condTT F c && stepsTT D T s
  | _ => false
def mtOk : Mi.D → Bool
  | .tup [_, s] => stOk s
  | _ => true
def MethTW (Γ : Gam) : Prop := ∀ (μ : Mem) (t x : Mi.D) (F : Nat) (D T : Int) (k : Nat), Lk μ t x → okD k t = true → mtOk t = true → Γ.fn "is_method" [x, .int F, .int D, .int T] μ = .ok (.bl (methTT F D T t)) μ
theorem methTT_len {F D T : Int} {ps : List Mi.D} (h : ps.length ≠ 2) : methTT F D T (.tup ps) = false := by
  match ps, h with
  | [], _ => rfl
  | [a], _ => rfl
  | [a, b], h => simp at h
  | a :: b :: c :: r, _ => rfl
theorem metht_of {Γ Γ' : Gam} (S : SeqW Γ) (C : CondTW Γ) (Z : StepsW Γ) (e : ∀ ds μ, Γ'.fn "is_method" ds μ = runD Γ ⟨4, 4, b_is_method⟩ ds μ) : MethTW Γ' := fun μ t x F D T k h ok so => by
  rw [e, run_ans _ _ _ _ rfl]
  refine OkX.to_eq (okx_of fun P hP => ?_)
  simp [b_is_method, S μ t x k h ok, -Bool.exists_bool]
  rcases lk_cases h ok with ⟨ps, es, e, g1, g2, g3, g4⟩ | ⟨e, e2, e3⟩
  · subst e
    have gl := g2.len
    simp [isSeqT, biD, len_seq g1, -Bool.exists_bool]
    rcases two_or (l := ps) with ⟨a, b, e⟩ | h2
    · subst e
      obtain ⟨y, z, e, l1, l2⟩ := g2.two
      subst e
      simp only [okDs, Bool.and_eq_true] at g3
      simp [sub_seq g1, C μ a y F _ l1 g3.1, -Bool.exists_bool]
      cases hb : condTT F a with
      | false => simp; exact hP _ _ ⟨by simp [methTT, hb], rfl⟩
      | true =>
        simp [sub_seq g1, Z μ b z D T _ l2 g3.2.1 so]
        exact hP _ _ ⟨by simp [methTT, hb], rfl⟩
    · have h2' : ((es.length : Int) == 2) = false := by simp; omega
      simp [h2', -Bool.exists_bool]
      exact hP _ _ ⟨by rw [methTT_len h2], rfl⟩
  · subst e
    simp [e2, -Bool.exists_bool]
    exact hP _ _ ⟨by cases x <;> first | rfl | simp [isSeqT] at e2, rfl⟩
theorem metht_w (n : Nat) : MethTW (G (n + 4)) := metht_of (seq_w (n + 2)) (condt_w n) (steps_w n) (f_is_method (n + 3))

def rowT : Mi.D → Bool
  | .tup ms => decide (ms.length ≤ 5)
  | _ => false
def tlT : Mi.D → Bool
  | .tup ts => (decide (1 ≤ ts.length) && decide (ts.length ≤ 6)) && ts.all rowT
  | _ => false
def TlW (Γ : Gam) : Prop := ∀ (μ : Mem) (t x : Mi.D) (k : Nat), Lk μ t x → okD k t = true → Γ.fn "is_task_list" [x] μ = .ok (.bl (tlT t)) μ
theorem tl_of {Γ Γ' : Gam} (S : SeqW Γ) (hc1 : Γ.cst "MOST_TASKS" = some (.int 6)) (hc2 : Γ.cst "MOST_METHODS" = some (.int 5)) (e : ∀ ds μ, Γ'.fn "is_task_list" ds μ = runD Γ ⟨1, 2, b_is_task_list⟩ ds μ) : TlW Γ' := fun μ t x k h ok => by
  rw [e, run_ans _ _ _ _ rfl]
  refine OkX.to_eq (okx_of fun P hP => ?_)
  simp [b_is_task_list, S μ t x k h ok, hc1, -Bool.exists_bool]
  rcases lk_cases h ok with ⟨ts, ds, e, h1, h2, h3, h4⟩ | ⟨e, e2, e3⟩
  · subst e
    obtain ⟨own, tup, ei, hck⟩ := its_own h1
    have hl := h2.len
    simp [isSeqT, ei, biD, len_seq h1, -Bool.exists_bool]
    by_cases h5 : (1 : Int) ≤ ds.length
    · by_cases h6 : (ds.length : Int) ≤ 6
      · simp [h5, h6, -Bool.exists_bool]
        have h5' : 1 ≤ ts.length := by omega
        have h6' : ts.length ≤ 6 := by omega
        refine OS.loop (fun i ρ μ' => ∃ (a1 : Option Mi.D), ρ = [some x, a1] ∧ μ' = μ ∧ ts.all rowT = (ts.drop i).all rowT) ⟨none, rfl, rfl, rfl⟩ ?_ ?_
        · intro j d ρ μ' hd ⟨a1, hρ, hμ, hal⟩
          subst hρ; subst hμ
          refine ⟨hck, _, rfl, fun K hK => ?_⟩
          obtain ⟨p, hp, lp⟩ := h2.get hd
          have okp := okDs_get h3 hp
          rw [drop_get hp, List.all_cons] at hal
          have no : rowT p = false → P (.bl false) μ' := fun z => hP _ _ ⟨by simp only [tlT, hal, z, Bool.false_and, Bool.and_false], rfl⟩
          simp [fBody, l1_is_task_list, S μ' p d _ lp okp, hc2, -Bool.exists_bool]
          rcases lk_cases lp okp with ⟨ps, es, e, g1, g2, g3, g4⟩ | ⟨e, e2, e3⟩
          · subst e
            have gl := g2.len
            simp [isSeqT, biD, len_seq g1, -Bool.exists_bool]
            by_cases h7 : (5 : Int) < es.length
            · simp [h7]; exact no (by simp [rowT]; omega)
            · simp [h7]; exact hK _ _ ⟨some d, rfl, rfl, by
                have : ps.length ≤ 5 := by omega
                rw [hal]; simp [rowT, this]⟩
          · subst e
            simp [e2, -Bool.exists_bool]
            exact no (by cases d <;> first | rfl | simp [isSeqT] at e2)
        · intro ρ μ' ⟨a1, hρ, hμ, hal⟩
          subst hρ; subst hμ
          refine ⟨hck, ?_⟩
          refine hP _ _ ⟨?_, rfl⟩
          rw [← hl, List.drop_length] at hal
          simp only [tlT, hal, List.all_nil, Bool.and_true, decide_eq_true h5', decide_eq_true h6']
      · simp [h5, h6, -Bool.exists_bool]
        exact hP _ _ ⟨by have : ¬ ts.length ≤ 6 := by omega
                         simp [tlT, this], rfl⟩
    · simp [h5, -Bool.exists_bool]
      exact hP _ _ ⟨by have : ¬ 1 ≤ ts.length := by omega
                       simp only [tlT, decide_eq_false this, Bool.false_and], rfl⟩
  · subst e
    simp [e2, -Bool.exists_bool]
    exact hP _ _ ⟨by cases x <;> first | rfl | simp [isSeqT] at e2, rfl⟩
theorem tl_w (n : Nat) : TlW (G (n + 2)) := tl_of (seq_w n) (cst_MOST_TASKS _) (cst_MOST_METHODS _) (f_is_task_list (n + 1))
end Lw
/-! W7: a book is made. -/
namespace Lw
open PySem Mi

/-- all old things are kept -/
def Kb (μ μ' : Mem) : Prop := ∀ (k : Nat) (c : Cell), μ[k]? = some c → μ'[k]? = some c
theorem Kb.rfl' (μ : Mem) : Kb μ μ := fun _ _ h => h
theorem Kb.trans {a b c : Mem} (h : Kb a b) (g : Kb b c) : Kb a c := fun k x hx => g k x (h k x hx)
theorem Kb.app {a b : Mem} (h : Kb a b) (ex : Mem) : Kb a (b ++ ex) := fun k x hx => by
  have q := h k x hx
  rw [List.getElem?_append_left (List.getElem?_eq_some_iff.mp q).1]; exact q
theorem Kb.put {m : Nat} {a b : Mem} (h : Kb a b) (hm : a.length ≤ m) (c : Cell) : Kb a (b.set m c) := fun k x hx => by
  have hl := (List.getElem?_eq_some_iff.mp hx).1
  rw [List.getElem?_set_ne (by omega)]; exact h k x hx
theorem Kb.len {a b : Mem} (h : Kb a b) : a.length ≤ b.length := by
  cases hl : a.length with
  | zero => omega
  | succ n =>
    have hn : n < a.length := by omega
    have q := (List.getElem?_eq_some_iff.mp (h n _ (List.getElem?_eq_getElem hn))).1
    omega
theorem Kb.seq {μ μ' : Mem} (h : Kb μ μ') {x : Mi.D} {l : List Mi.D} (e : seqOf x μ = some l) : seqOf x μ' = some l := by
  cases x with
  | tup ds => exact e
  | ref n =>
    cases e2 : μ[n]? with
    | none => simp [seqOf, e2] at e
    | some c =>
      have q := h n c e2
      simp only [seqOf, e2] at e
      simp only [seqOf, q]
      exact e
  | _ => simp [seqOf] at e
mutual
theorem Lk.kb {μ μ' : Mem} (g : Kb μ μ') : ∀ {t x : Mi.D}, Lk μ t x → Lk μ' t x
  | .tup ts, x, h => by
    simp only [Lk] at h ⊢
    obtain ⟨ds, h1, h2⟩ := h
    exact ⟨ds, g.seq h1, Lks.kb g h2⟩
  | .non, _, h => by simp only [Lk] at h ⊢; exact h
  | .bl _, _, h => by simp only [Lk] at h ⊢; exact h
  | .int _, _, h => by simp only [Lk] at h ⊢; exact h
  | .str _, _, h => by simp only [Lk] at h ⊢; exact h
  | .ref _, _, h => by simp only [Lk] at h ⊢; exact h
theorem Lks.kb {μ μ' : Mem} (g : Kb μ μ') : ∀ {ts xs : List Mi.D}, Lks μ ts xs → Lks μ' ts xs
  | [], _, h => by simp only [Lks] at h ⊢; exact h
  | t :: ts, _, h => by
    simp only [Lks] at h ⊢
    obtain ⟨y, ys, e, h1, h2⟩ := h
    exact ⟨y, ys, e, h1.kb g, Lks.kb g h2⟩
end
mutual
theorem Lk.refl (μ : Mem) : ∀ t : Mi.D, Lk μ t t
  | .tup ts => by simp only [Lk]; exact ⟨ts, rfl, Lks.refl μ ts⟩
  | .non => by simp only [Lk]
  | .bl _ => by simp only [Lk]
  | .int _ => by simp only [Lk]
  | .str _ => by simp only [Lk]
  | .ref _ => by simp only [Lk]
theorem Lks.refl (μ : Mem) : ∀ ts : List Mi.D, Lks μ ts ts
  | [] => by simp only [Lks]
  | t :: ts => by simp only [Lks]; exact ⟨t, ts, rfl, Lk.refl μ t, Lks.refl μ ts⟩
end
theorem chk_kb {own : List (Nat × Cell)} {μ μ' : Mem} (g : Kb μ μ') (h : chk own μ = true) : chk own μ' = true := by
  unfold chk at h ⊢
  rw [List.all_eq_true] at h ⊢
  intro p hp
  have q := h p hp
  cases e : μ[p.1]? with
  | none => rw [e] at q; cases hc : p.2 <;> rw [hc] at q <;> cases q
  | some c => rw [g _ _ e]; rw [e] at q; exact q
/-- a pair of scalars stands as it is -/
def flatP : Mi.D → Bool
  | .tup [a, b] => !isSeqT a && !isSeqT b
  | _ => false
theorem lk_flat {μ : Mem} {t x : Mi.D} {k : Nat} (h : Lk μ t x) (ok : okD k t = true) (f : isSeqT t = false) : x = t := by
  rcases lk_cases h ok with ⟨ts, ds, e, _⟩ | ⟨e, _, _⟩
  · subst e; simp [isSeqT] at f
  · exact e
/-- the copy of pairs -/
theorem copy_pairs {Γ : Gam} {i : Nat} {ρ : Env'} {μ : Mem} {own : List (Nat × Cell)} (hc : chk own μ = true) (hi : i < ρ.length) {Q : List Mi.D → Mem → Prop} {X : Str → List (Str × Mi.D) → Mem → Prop} {ts ds : List Mi.D} {k : Nat} (h : Lks μ ts ds) (ok : okDs k ts = true) (fl : ts.all flatP = true) (hl : ts.length ≤ 1000) (q : Q ts μ) :
    OkX (compL (cStep Γ [i] (.nm i) .no (.tup (.cons (.sub (.var i) (.con (.int 0))) (.cons (.sub (.var i) (.con (.int 1))) .nil))) ρ) own 0 ds μ) Q X := by
  have gl := h.len
  refine OkX.lc (fun j acc μ' => acc = ts.take j ∧ μ' = μ) ⟨rfl, rfl⟩ (by rw [← gl, limV]; omega) (fun j d acc μ1 hd ⟨h1, h2⟩ => ⟨by rw [h2]; exact hc, fun K hK => ?_⟩) fun acc μ1 ⟨h1, h2⟩ => ?_
  · subst h2
    obtain ⟨p, hp, lp⟩ := h.get hd
    have okp := okDs_get ok hp
    rw [List.all_eq_true] at fl
    have fp := fl p (List.mem_of_getElem? hp)
    match p, fp with
    | .tup [a, b], fp =>
      simp only [flatP, Bool.and_eq_true, Bool.not_eq_true'] at fp
      rcases lk_cases lp okp with ⟨ps, es, e, g1, g2, g3, g4⟩ | ⟨e, e2, e3⟩
      · cases e
        obtain ⟨y, z, e, l1, l2⟩ := g2.two
        subst e
        simp only [okDs, Bool.and_eq_true] at g3
        have ey := lk_flat l1 g3.1 fp.1
        have ez := lk_flat l2 g3.2.1 fp.2
        subst ey; subst ez
        simp [wipeE, sub_seq g1, limV, hi]
        refine hK _ _ ⟨?_, rfl⟩
        rw [h1, List.take_add_one, hp]
        rfl
      · simp [isSeqT] at e2
  · subst h2
    refine ⟨hc, ?_⟩
    rw [← gl, List.take_length] at h1
    rw [h1]
    exact q
def CopyW (Γ : Gam) : Prop := ∀ (μ : Mem) (t x : Mi.D) (F D T : Int) (k : Nat), Lk μ t x → okD k t = true → methTT F D T t = true → Γ.fn "method_copy" [x] μ = .ok t μ
theorem cond_flat {F : Int} : ∀ {ts : List Mi.D} {last : Int}, condT F last ts = true → ts.all flatP = true
  | [], _, _ => rfl
  | p :: ps, last, h => by
    match p, h with
    | .tup [a, b], h =>
      simp only [condT, Bool.and_eq_true] at h
      obtain ⟨⟨h1, _⟩, h2, h3⟩ := h
      have ih := cond_flat h3
      obtain ⟨i, e, _⟩ := num_int h1
      subst e
      have hb : isSeqT b = false := by cases b <;> first | rfl | simp [isBl] at h2
      rw [List.all_cons, ih]
      simp only [flatP, hb]
      rfl
theorem steps_flat {D T : Int} {ts : List Mi.D} (h : ts.all (stepT D T) = true) : ts.all flatP = true := by
  rw [List.all_eq_true] at h ⊢
  intro p hp
  have q := h p hp
  match p, q with
  | .tup [a, b], q =>
    simp only [stepT] at q
    have fb : ∀ L, isNum b L = true → isSeqT b = false := fun L z => by obtain ⟨i, e, _⟩ := num_int z; subst e; rfl
    split at q
    · rename_i e; subst e; simp only [flatP, fb _ q]; rfl
    · split at q
      · rename_i e; subst e; simp only [flatP, fb _ q]; rfl
      · cases q
theorem copy_of {Γ Γ' : Gam} (e : ∀ ds μ, Γ'.fn "method_copy" ds μ = runD Γ ⟨1, 5, b_method_copy⟩ ds μ) : CopyW Γ' := fun μ t x F D T k h ok hm => by
  rw [e, run_ans _ _ _ _ rfl]
  refine OkX.to_eq (okx_of fun P hP => ?_)
  match t, hm with
  | .tup [c, s], hm =>
    rcases lk_cases h ok with ⟨ps, es, e, g1, g2, g3, g4⟩ | ⟨e, e2, e3⟩
    · cases e
      obtain ⟨y, z, e, l1, l2⟩ := g2.two
      subst e
      simp only [okDs, Bool.and_eq_true] at g3
      simp only [methTT, Bool.and_eq_true] at hm
      match c, s, hm with
      | .tup cs, .tup ss, hm =>
        simp only [condTT, stepsTT, Bool.and_eq_true, decide_eq_true_eq] at hm
        simp only [Lk] at l1 l2
        obtain ⟨dc, q1, q2⟩ := l1
        obtain ⟨dz, q3, q4⟩ := l2
        obtain ⟨o1, t1, i1, c1⟩ := its_own q1
        obtain ⟨o2, t2, i2, c2⟩ := its_own q3
        have ok1 : okDs (k - 1 - 1) cs = true ∧ cs.length ≤ 1000 := by
          rcases lk_cases (Lk.refl μ (.tup cs)) g3.1 with ⟨_, _, e, _, _, z, z2⟩ | ⟨_, z, _⟩
          · cases e; exact ⟨z, z2⟩
          · cases z
        have ok2 : okDs (k - 1 - 1) ss = true ∧ ss.length ≤ 1000 := by
          rcases lk_cases (Lk.refl μ (.tup ss)) g3.2.1 with ⟨_, _, e, _, _, z, z2⟩ | ⟨_, z, _⟩
          · cases e; exact ⟨z, z2⟩
          · cases z
        simp [b_method_copy, sub_seq g1, i1, -Bool.exists_bool]
        refine copy_pairs c1 (by simp) q2 ok1.1 (cond_flat hm.1) ok1.2 ?_
        simp [sub_seq g1, i2, -Bool.exists_bool]
        refine copy_pairs c2 (by simp) q4 ok2.1 (steps_flat hm.2.2) ok2.2 ?_
        simp [limV]
        exact hP _ _ ⟨rfl, rfl⟩
    · simp [isSeqT] at e2
theorem copy_w (n : Nat) : CopyW (G (n + 1)) := copy_of (f_method_copy n)
end Lw
/-! W8: Book's __init__. -/
namespace Lw
open PySem Mi

/-- the first element that is no method -/
def badM (F D T : Int) : Nat → List Mi.D → Option Nat
  | _, [] => none
  | j, m :: ms => if methTT F D T m then badM F D T (j + 1) ms else some j
def seqT : Mi.D → List Mi.D
  | .tup ms => ms
  | _ => []
def badT (F D T : Int) : Nat → List Mi.D → Option (Nat × Nat)
  | _, [] => none
  | i, t :: ts => match badM F D T 0 (seqT t) with
    | some j => some (i, j)
    | none => badT F D T (i + 1) ts
abbrev Fault := Str × List (Str × Mi.D)
def bookFault (f d t : Mi.D) : Option Fault :=
  if betw f 0 4 = false then some ("BadValue", [("at", .int 1)])
  else if betw d 1 5 = false then some ("BadValue", [("at", .int 2)])
  else if tlT t = false then some ("BadValue", [("at", .int 3)])
  else match badT (numT f) (numT d) ((seqT t).length : Nat) 0 (seqT t) with
    | some (i, j) => some ("BadMethod", [("task", .int (i : Nat)), ("method", .int (j : Nat))])
    | none => none
/-- all elements of the tasks may be asked -/
def tasksOk : Mi.D → Bool
  | .tup ts => ts.all fun m => (seqT m).all mtOk
  | _ => true
abbrev bookC (f d t : Mi.D) : Cell := .ins "Book" [("_facts", f), ("_deeds", d), ("_tasks", t)]
def BookInitW (Γ : Gam) : Prop := ∀ (μ : Mem) (r : Nat) (f d t x : Mi.D) (k : Nat), μ[r]? = some (.ins "Book" []) → Lk μ t x → okD k t = true → tasksOk t = true →
  OkX (Γ.fn "Book.__init__" [.ref r, f, d, x] μ) (fun v μ' => bookFault f d t = none ∧ v = .non ∧ ∃ μ1, Kb μ μ1 ∧ μ' = μ1.set r (bookC f d t)) (fun c fs μ' => bookFault f d t = some (c, fs) ∧ Kb μ μ')
theorem bput0 (a : Mi.D) : putFld [] "_facts" a = [(("_facts" : Str), a)] := rfl
theorem bput1 (a b : Mi.D) : putFld [(("_facts" : Str), a)] "_deeds" b = ([("_facts", a), ("_deeds", b)] : List (Str × Mi.D)) := by kernel_rfl
theorem bput2 (a b c : Mi.D) : putFld [(("_facts" : Str), a), ("_deeds", b)] "_tasks" c = ([("_facts", a), ("_deeds", b), ("_tasks", c)] : List (Str × Mi.D)) := by kernel_rfl
theorem enum_get : ∀ {ds : List Mi.D} {k j : Nat} {e : Mi.D}, (enumD k ds)[j]? = some e → ∃ d, ds[j]? = some d ∧ e = .tup [.int ((k + j : Nat) : Int), d]
  | [], _, j, _, h => by simp [enumD] at h
  | d :: ds, k, 0, e, h => by simp [enumD] at h; exact ⟨d, rfl, by rw [← h]; rfl⟩
  | d :: ds, k, j + 1, e, h => by
    simp only [enumD, List.getElem?_cons_succ] at h
    obtain ⟨x, h1, h2⟩ := enum_get h
    exact ⟨x, by simpa using h1, by rw [h2]; congr 4; omega⟩
theorem enum_len : ∀ (ds : List Mi.D) (k : Nat), (enumD k ds).length = ds.length
  | [], _ => rfl
  | d :: ds, k => by simp [enumD, enum_len ds]
theorem betw_int {d : Mi.D} {a b : Int} (h : betw d a b = true) : ∃ i, d = .int i ∧ a ≤ i ∧ i ≤ b := by
  cases d with
  | int i => simp [betw] at h; exact ⟨i, rfl, h.1, h.2⟩
  | _ => simp [betw] at h
@[simp] theorem asgn2 (i j : Nat) (a b : Mi.D) (ρ : Env') (μ : Mem) : asgn (.tp [i, j]) (.tup [a, b]) ρ μ = some ((ρ.set i (some a)).set j (some b)) := rfl
theorem methTT_two {F D T : Int} {t : Mi.D} (h : methTT F D T t = true) : True := trivial
theorem bookinit_b {Γ : Gam} (B : BetwW Γ) (L : TlW Γ) (M : MethTW Γ) (C : CopyW Γ) (c1 : Γ.cst "MOST_FACTS" = some (.int 4)) (c2 : Γ.cst "MOST_DEEDS" = some (.int 5)) (x1 : Γ.xinit "BadValue" = some (["at"] : List Str)) (x2 : Γ.xinit "BadMethod" = some (["task", "method"] : List Str))
    (g1 : Γ.fld "Book" "_facts" = true) (g2 : Γ.fld "Book" "_deeds" = true) (g3 : Γ.fld "Book" "_tasks" = true) {μ : Mem} {r : Nat} {f d t x : Mi.D} {k : Nat} (hr : μ[r]? = some (.ins "Book" [])) (h : Lk μ t x) (ok : okD k t = true) (to : tasksOk t = true) :
    OkX (ans (exSs Γ b_Book___init__ [some (.ref r), some f, some d, some x, none, none, none, none, none, none] μ)) (fun v μ' => bookFault f d t = none ∧ v = .non ∧ ∃ μ1, Kb μ μ1 ∧ μ' = μ1.set r (bookC f d t)) (fun c fs μ' => bookFault f d t = some (c, fs) ∧ Kb μ μ') := by
  refine okx_ofX fun P Y hP hY => ?_
  simp [b_Book___init__, c1, c2, x1, B μ f 0 4, B μ d 1 5, L μ t x k h ok, -Bool.exists_bool]
  cases b1 : betw f 0 4 with
  | false =>
    simp [-Bool.exists_bool]
    exact hY _ _ _ ⟨by simp [bookFault, b1], Kb.rfl' μ⟩
  | true =>
    cases b2 : betw d 1 5 with
    | false =>
      simp [-Bool.exists_bool]
      exact hY _ _ _ ⟨by simp [bookFault, b1, b2], Kb.rfl' μ⟩
    | true =>
      cases b3 : tlT t with
      | false =>
        simp [-Bool.exists_bool]
        exact hY _ _ _ ⟨by simp [bookFault, b1, b2, b3], Kb.rfl' μ⟩
      | true =>
        simp [-Bool.exists_bool]
        obtain ⟨fi, e, f0, f4⟩ := betw_int b1
        subst e
        obtain ⟨di, e, d0, d4⟩ := betw_int b2
        subst e
        obtain ⟨F, e⟩ : ∃ F : Nat, fi = (F : Int) := ⟨fi.toNat, by omega⟩
        subst e
        rcases lk_cases h ok with ⟨ts, ds, e, h1, h2, h3, h4⟩ | ⟨e, e2, e3⟩
        · subst e
          have hl := h2.len
          simp only [tlT, Bool.and_eq_true, decide_eq_true_eq] at b3
          have bf : bookFault (.int F) (.int di) (.tup ts) = match badT F di (ts.length : Nat) 0 ts with
              | some (i, j) => some ("BadMethod", [("task", .int (i : Nat)), ("method", .int (j : Nat))])
              | none => none := by
            have b3' : tlT (.tup ts) = true := by simp only [tlT, Bool.and_eq_true, decide_eq_true_eq]; exact b3
            simp only [bookFault, b1, b2, b3', numT, seqT]
            rfl
          obtain ⟨own, tup, ei, hck⟩ := its_own (Kb.seq ((Kb.rfl' μ).app [Cell.lst []]) h1)
          simp [ei, -Bool.exists_bool]
          generalize hm : μ.length = m at *
          have hrm : r < m := by rw [← hm]; exact (List.getElem?_eq_some_iff.mp hr).1
          have hm1 : (μ ++ [Cell.lst []])[m]? = some (.lst []) := by rw [← hm]; simp
          have kb1 : Kb μ (μ ++ [Cell.lst []]) := (Kb.rfl' μ).app _
          have hck' : ∀ μ', Kb μ μ' → chk own μ' = true := fun μ' g => by
            obtain ⟨own', tup', e1, e2⟩ := its_seq h1
            have q := its_own h1
            obtain ⟨o3, t3, e3, c3⟩ := q
            have e4 : itsOf x (μ ++ [Cell.lst []]) = itsOf x μ := by
              cases x with
              | tup es => rfl
              | ref n =>
                have : n < μ.length := by
                  cases q : μ[n]? with
                  | none => simp [seqOf, q] at h1
                  | some c => exact (List.getElem?_eq_some_iff.mp q).1
                simp only [itsOf, List.getElem?_append_left this]
              | _ => simp [seqOf] at h1
            rw [e4, e3] at ei
            cases ei
            exact chk_kb g c3
          generalize hμ1 : μ ++ [Cell.lst []] = μ1 at *
          refine OS.loop (fun i ρ μ' => ∃ (a5 a6 a7 a8 a9 : Option Mi.D), ρ = [some (.ref r), some (.int F), some (.int di), some x, some (.ref m), a5, a6, a7, a8, a9] ∧ Kb μ μ' ∧ m < μ'.length ∧ μ'[m]? = some (.lst (ts.take i)) ∧ badT F di (ts.length : Nat) 0 ts = badT F di (ts.length : Nat) i (ts.drop i))
            ⟨none, none, none, none, none, rfl, kb1, by rw [← hμ1]; simp [hm], hm1, rfl⟩ ?_ ?_
          · intro j dd ρ μ' hd ⟨a5, a6, a7, a8, a9, hρ, kb, hml, hm', hb⟩
            obtain ⟨y, hy, e⟩ := enum_get hd
            subst e; subst hρ
            refine ⟨hck' _ kb, _, rfl, fun K hK => ?_⟩
            obtain ⟨p, hp, lp⟩ := h2.get hy
            have okp := okDs_get h3 hp
            have rp : rowT p = true := by
              have := b3.2
              rw [List.all_eq_true] at this
              exact this p (List.mem_of_getElem? hp)
            rw [drop_get hp] at hb
            simp only [badT] at hb
            match p, rp with
            | .tup ms, rp =>
              simp only [rowT, decide_eq_true_eq] at rp
              rcases lk_cases (lp.kb kb) okp with ⟨ms', es, e, q1, q2, q3, q4⟩ | ⟨e, e2, e3⟩
              · cases e
                have ql := q2.len
                have q1' := Kb.seq ((Kb.rfl' μ').app [Cell.lst []]) q1
                obtain ⟨own2, tup2, ei2, hck2⟩ := its_own q1'
                simp [fBody, l1_Book___init__, ei2, -Bool.exists_bool]
                generalize hm2 : μ'.length = m2 at *
                have mo : ms.all mtOk = true := by
                  simp only [tasksOk, List.all_eq_true] at to
                  have := to (.tup ms) (List.mem_of_getElem? hp)
                  simpa [seqT] using this
                have kb2 : Kb μ' (μ' ++ [Cell.lst []]) := (Kb.rfl' μ').app _
                have hm2' : (μ' ++ [Cell.lst []])[m2]? = some (.lst []) := by rw [← hm2]; simp
                have hck2' : ∀ μ'', Kb (μ' ++ [Cell.lst []]) μ'' → chk own2 μ'' = true := fun μ'' g => chk_kb g hck2
                -- own2 stands in the cells of μ'
                have hck3 : ∀ μ'', Kb μ' μ'' → chk own2 μ'' = true := fun μ'' g => by
                  obtain ⟨o3, t3, e3, c3⟩ := its_own q1
                  have e4 : itsOf y (μ' ++ [Cell.lst []]) = itsOf y μ' := by
                    cases y with
                    | tup es => rfl
                    | ref n =>
                      have : n < μ'.length := by
                        cases q : μ'[n]? with
                        | none => simp [seqOf, q] at q1
                        | some c => exact (List.getElem?_eq_some_iff.mp q).1
                      simp only [itsOf, List.getElem?_append_left this]
                    | _ => simp [seqOf] at q1
                  rw [e4, e3] at ei2
                  cases ei2
                  exact chk_kb g c3
                generalize μ' ++ [Cell.lst []] = μ2 at *
                refine OS.loop (fun i ρ μ'' => ∃ (a8 a9 : Option Mi.D), ρ = [some (.ref r), some (.int F), some (.int di), some x, some (.ref m), some (.int (j : Nat)), some y, some (.ref m2), a8, a9] ∧ Kb μ' μ'' ∧ μ''[m2]? = some (.lst (ms.take i)) ∧ badM F di (ts.length : Nat) 0 ms = badM F di (ts.length : Nat) i (ms.drop i))
                  ⟨a8, a9, rfl, kb2, hm2', rfl⟩ ?_ ?_
                · intro j2 dd2 ρ μ'' hd2 ⟨a8, a9, hρ, kb3, hm'', hb2⟩
                  obtain ⟨z, hz, e⟩ := enum_get hd2
                  subst e; subst hρ
                  refine ⟨hck3 _ kb3, _, rfl, fun K2 hK2 => ?_⟩
                  obtain ⟨pm, hpm, lpm⟩ := q2.get hz
                  have okm := okDs_get q3 hpm
                  rw [List.all_eq_true] at mo
                  have mom := mo pm (List.mem_of_getElem? hpm)
                  rw [drop_get hpm] at hb2
                  simp only [badM] at hb2
                  have lpm' := lpm.kb kb3
                  have kbx : Kb μ μ'' := kb.trans kb3
                  have lx : lenD x μ'' = some ds.length := len_seq (kbx.seq h1)
                  simp [fBody, l2_Book___init__, biD, lx, -Bool.exists_bool]
                  rw [show ((ds.length : Nat) : Int) = ((ts.length : Nat) : Int) by omega]
                  simp [M μ'' pm z F di (ts.length : Nat) _ lpm' okm mom, x2, isL hm'', -Bool.exists_bool]
                  cases hmm : methTT F di (ts.length : Nat) pm with
                  | false =>
                    simp [-Bool.exists_bool]
                    refine hY _ _ _ ⟨?_, kbx⟩
                    rw [hmm] at hb2
                    simp only [Bool.false_eq_true, if_false] at hb2
                    rw [bf, hb]
                    simp only [seqT, hb2]
                  | true =>
                    simp [C μ'' pm z F di (ts.length : Nat) _ lpm' okm hmm, -Bool.exists_bool]
                    refine app_w hm'' (by rw [limV]; simp; omega) (hK2 _ _ ⟨_, _, rfl, kb3.put (by omega) _, ?_, ?_⟩)
                    · rw [set_at hm'', List.take_add_one, hpm]; rfl
                    · rw [hb2, hmm]; simp
                · intro ρ μ'' ⟨a8, a9, hρ, kb3, hm'', hb2⟩
                  subst hρ
                  refine ⟨hck3 _ kb3, ?_⟩
                  have el : (enumD 0 es).length = ms.length := by rw [enum_len, ql]
                  rw [el, List.take_length] at hm''
                  rw [el, List.drop_length] at hb2
                  have hm3 := kb3 _ _ hm'
                  simp [isL hm3, its_lst hm'', -Bool.exists_bool]
                  refine app_w hm3 (by rw [limV]; simp; omega) (hK _ _ ⟨_, _, _, _, _, rfl, (kb.trans kb3).put (by omega) _, ?_, ?_, ?_⟩)
                  · have := kb3.len; simp; omega
                  · rw [set_at hm3, List.take_add_one, hp]; rfl
                  · rw [hb]
                    simp only [seqT, hb2, badM]
              · simp [isSeqT] at e2
          · intro ρ μ' ⟨a5, a6, a7, a8, a9, hρ, kb, hml, hm', hb⟩
            subst hρ
            refine ⟨hck' _ kb, ?_⟩
            have el : (enumD 0 ds).length = ts.length := by rw [enum_len, hl]
            rw [el, List.take_length] at hm'
            rw [el, List.drop_length] at hb
            have hr' := kb _ _ hr
            have ne : r ≠ m := by omega
            simp [hr', g1, g2, g3, bput0, bput1, bput2, set_at hr', its_lst (show ((μ'.set r (.ins "Book" [("_facts", .int F), ("_deeds", .int di)]))[m]? = some (.lst ts)) by rw [List.getElem?_set_ne ne]; exact hm'), -Bool.exists_bool]
            refine hP _ _ ⟨by rw [bf, hb]; rfl, rfl, μ', kb, rfl⟩
        · subst e
          cases x <;> first | (simp [tlT] at b3; done) | simp [isSeqT] at e2
theorem bookinit_of {Γ Γ' : Gam} (B : BetwW Γ) (L : TlW Γ) (M : MethTW Γ) (C : CopyW Γ) (c1 : Γ.cst "MOST_FACTS" = some (.int 4)) (c2 : Γ.cst "MOST_DEEDS" = some (.int 5)) (x1 : Γ.xinit "BadValue" = some (["at"] : List Str)) (x2 : Γ.xinit "BadMethod" = some (["task", "method"] : List Str))
    (g1 : Γ.fld "Book" "_facts" = true) (g2 : Γ.fld "Book" "_deeds" = true) (g3 : Γ.fld "Book" "_tasks" = true) (e : ∀ ds μ, Γ'.fn "Book.__init__" ds μ = runD Γ ⟨4, 10, b_Book___init__⟩ ds μ) : BookInitW Γ' := fun μ r f d t x k hr h ok to => by
  rw [e, run_ans _ _ _ _ rfl]
  exact bookinit_b B L M C c1 c2 x1 x2 g1 g2 g3 hr h ok to
theorem bookinit_w (n : Nat) : BookInitW (G (n + 5)) := bookinit_of (betw_w (n + 2)) (tl_w (n + 2)) (metht_w n) (copy_w (n + 3)) (cst_MOST_FACTS _) (cst_MOST_DEEDS _) (xi_BadValue _) (xi_BadMethod _) (fld_Book__facts _) (fld_Book__deeds _) (fld_Book__tasks _) (f_Book___init__ (n + 4))
end Lw
/-! W9: a drawn book has no fault; the law's fault of a book. -/
namespace Lw
open PySem Mi

theorem cond_ok_drawn {F : Nat} : ∀ {ps : List (Nat × Bool)} {last : Int}, ascP F last ps → condT F last (pairsD ps) = true
  | [], _, _ => rfl
  | (k, b) :: ps, last, h => by
    obtain ⟨h1, h2, h3⟩ := h
    simp only [pairsD, List.map_cons, condT, numT, isBl, Bool.and_eq_true, decide_eq_true_eq]
    refine ⟨⟨?_, decide_eq_true h1⟩, ?_⟩
    · simp [isNum]; omega
    · exact ⟨trivial, cond_ok_drawn h3⟩
theorem step_ok_drawn {D T : Nat} {x : Step} (h : x.2 < if x.1 then D else T) : stepT D T (stepD x) = true := by
  obtain ⟨b, k⟩ := x
  cases b with
  | true => simp [stepD, stepT, isNum] at h ⊢; exact h
  | false => simp [stepD, stepT, isNum, task_ne2] at h ⊢; exact h
theorem meth_ok_drawn {F D T : Nat} {m : Meth} (h : MethOk F D T m) : methTT F D T (methD m) = true := by
  simp only [methD, methTT, condTT, stepsTT, Bool.and_eq_true, decide_eq_true_eq]
  refine ⟨cond_ok_drawn h.c.asc, by simpa using h.l, ?_⟩
  rw [List.all_map, List.all_eq_true]
  exact fun x hx => step_ok_drawn (h.s x hx)
theorem mt_drawn (m : Meth) : mtOk (methD m) = true := by
  simp only [methD, mtOk, stOk, List.all_map, List.all_eq_true]
  intro x _
  rfl
theorem badM_none {F D T : Int} : ∀ {ms : List Mi.D} {j : Nat}, (∀ m ∈ ms, methTT F D T m = true) → badM F D T j ms = none
  | [], _, _ => rfl
  | m :: ms, j, h => by
    simp only [badM, h m List.mem_cons_self, if_true]
    exact badM_none fun x hx => h x (List.mem_cons_of_mem _ hx)
theorem badT_none {F D T : Int} : ∀ {ts : List Mi.D} {i : Nat}, (∀ t ∈ ts, ∀ m ∈ seqT t, methTT F D T m = true) → badT F D T i ts = none
  | [], _, _ => rfl
  | t :: ts, i, h => by
    simp only [badT, badM_none (h t List.mem_cons_self)]
    exact badT_none fun x hx => h x (List.mem_cons_of_mem _ hx)
theorem book_fault_drawn {F D T M : Nat} {ts : List (List Meth)} (hF : F ≤ 4) (hD : 1 ≤ D) (hD5 : D ≤ 5) (hT : 1 ≤ T) (hT6 : T ≤ 6) (hM : M ≤ 5) (h : BookOk F D T M ts) : bookFault (.int F) (.int D) (.tup (tasksD ts)) = none := by
  have b1 : betw (.int F) 0 4 = true := by simp [betw]; omega
  have b2 : betw (.int D) 1 5 = true := by simp [betw]; omega
  have hl := h.len
  have b3 : tlT (.tup (tasksD ts)) = true := by
    simp only [tlT, tasksD, List.length_map, Bool.and_eq_true, decide_eq_true_eq]
    refine ⟨by omega, ?_⟩
    rw [List.all_map, List.all_eq_true]
    intro ms hms
    have := (h.m ms hms).1
    simp [rowT]; omega
  have b4 : badT F D ((seqT (.tup (tasksD ts))).length : Nat) 0 (seqT (.tup (tasksD ts))) = none := by
    refine badT_none fun t ht m hm => ?_
    simp only [seqT, tasksD] at ht
    obtain ⟨ms, hms, e⟩ := List.mem_map.mp ht
    subst e
    simp only [seqT] at hm
    obtain ⟨x, hx, e⟩ := List.mem_map.mp hm
    subst e
    have q := meth_ok_drawn ((h.m ms hms).2 x hx)
    simp only [seqT, tasksD, List.length_map, hl]
    exact q
  simp only [bookFault, b1, b2, b3, numT, b4]
  rfl
theorem asc_bound {F : Nat} (hF : 0 < F) {ps : List (Nat × Bool)} (h : PsB F ps) : ps.length ≤ F := by
  have := asc_len h.asc (by omega)
  omega
theorem ok_meth {F D T : Nat} (hF : F ≤ 1000) {m : Meth} (h : MethOk F D T m) (k : Nat) : okD (k + 4) (methD m) = true := by
  have hp : m.1.length ≤ 1000 := by
    rcases Nat.eq_zero_or_pos F with e | e
    · subst e
      cases hm : m.1 with
      | nil => simp
      | cons p ps => have := h.c.2 p (by rw [hm]; exact List.mem_cons_self); omega
    · have := asc_bound e h.c; omega
  have hs := h.l
  refine okD_tup (by simp) ?_
  have k1 : okD (k + 3) (.tup (pairsD m.1)) = true := okD_tup (by simp; exact hp) (okDs_map fun p _ => by rfl)
  have k2 : okD (k + 3) (.tup (m.2.map stepD)) = true := okD_tup (by simp; omega) (okDs_map fun p _ => by rfl)
  simp only [okDs, k1, k2, Bool.and_true]
theorem ok_tasks {F D T M : Nat} {ts : List (List Meth)} (hF : F ≤ 1000) (hT : T ≤ 1000) (hM : M ≤ 1000) (h : BookOk F D T M ts) : okD 6 (.tup (tasksD ts)) = true := by
  refine okD_tup (by simp [tasksD, h.len]; exact hT) (okDs_map fun ms hms => okD_tup (by have := (h.m ms hms).1; simp; omega) (okDs_map fun m hm => ok_meth hF ((h.m ms hms).2 m hm) 0))
theorem to_tasks (ts : List (List Meth)) : tasksOk (.tup (tasksD ts)) = true := by
  simp only [tasksOk, tasksD, List.all_map, List.all_eq_true]
  intro ms _
  simp only [Function.comp, seqT, List.all_map, List.all_eq_true]
  exact fun m _ => mt_drawn m

/-! ### the law's fault -/
def faultD : Option Fault → Mi.D
  | none => .non
  | some (_, [(_, x)]) => .tup [.str "value", x]
  | some (_, [(_, x), (_, y)]) => .tup [.str "method", x, y]
  | _ => .non
def FaultW (Γ : Gam) : Prop := ∀ (μ : Mem) (f d t x : Mi.D) (k : Nat), Lk μ t x → okD k t = true → tasksOk t = true → OkX (Γ.fn "_law_book_fault" [f, d, x] μ) (fun v μ' => v = faultD (bookFault f d t) ∧ Kb μ μ') X0
theorem fault_cases (f d t : Mi.D) : bookFault f d t = none ∨ (∃ x, bookFault f d t = some ((("BadValue" : Str), [(("at" : Str), x)]) : Fault)) ∨ ∃ x y, bookFault f d t = some ((("BadMethod" : Str), [(("task" : Str), x), (("method" : Str), y)]) : Fault) := by
  unfold bookFault
  split
  · exact .inr (.inl ⟨_, rfl⟩)
  · split
    · exact .inr (.inl ⟨_, rfl⟩)
    · split
      · exact .inr (.inl ⟨_, rfl⟩)
      · split
        · exact .inr (.inr ⟨_, _, rfl⟩)
        · exact .inl rfl
def SetW (Γ : Gam) : Prop := ∀ (μ : Mem) (ds : List Mi.D) (i : Nat) (v : Mi.D), i < ds.length → ds.length ≤ 1000 → OkX (Γ.fn "_law_set" [.tup ds, .int i, v] μ) (fun w μ' => w = .tup (ds.set i v) ∧ Kb μ μ') X0
theorem set_of {Γ Γ' : Gam} (e : ∀ ds μ, Γ'.fn "_law_set" ds μ = runD Γ ⟨3, 4, b__law_set⟩ ds μ) : SetW Γ' := fun μ ds i v hi hl => by
  rw [e, run_ans _ _ _ _ rfl]
  refine okx_of fun P hP => ?_
  have es : setD (.ref μ.length) (.int i) v (μ ++ [.lst ds]) = some (μ ++ [.lst (ds.set i v)]) := by
    simp [setD, ixOf, hi]
  simp [b__law_set, es, its_lst (get_mid μ (Cell.lst (ds.set i v)) []), -Bool.exists_bool]
  exact hP _ _ ⟨rfl, (Kb.rfl' μ).app _⟩
theorem set_w (n : Nat) : SetW (G (n + 1)) := set_of (f__law_set n)
end Lw
/-! W10: World's __init__. -/
namespace Lw
open PySem Mi

def flagsT (many : Int) : Mi.D → Bool
  | .tup ts => ((ts.length : Int) == many) && ts.all isBl
  | _ => false
def FlagsW (Γ : Gam) : Prop := ∀ (μ : Mem) (t x : Mi.D) (many : Int) (k : Nat), Lk μ t x → okD k t = true → Γ.fn "is_flags" [x, .int many] μ = .ok (.bl (flagsT many t)) μ
theorem flags_of {Γ Γ' : Gam} (S : SeqW Γ) (e : ∀ ds μ, Γ'.fn "is_flags" ds μ = runD Γ ⟨2, 3, b_is_flags⟩ ds μ) : FlagsW Γ' := fun μ t x many k h ok => by
  rw [e, run_ans _ _ _ _ rfl]
  refine OkX.to_eq (okx_of fun P hP => ?_)
  simp [b_is_flags, S μ t x k h ok, -Bool.exists_bool]
  rcases lk_cases h ok with ⟨ts, ds, e, h1, h2, h3, h4⟩ | ⟨e, e2, e3⟩
  · subst e
    obtain ⟨own, tup, ei, hck⟩ := its_own h1
    have hl := h2.len
    simp [isSeqT, ei, biD, len_seq h1, -Bool.exists_bool]
    by_cases hm : (ds.length : Int) = many
    · have hb : ((ds.length : Int) == many) = true := by simpa using hm
      simp [hb, -Bool.exists_bool]
      have hb' : ((ts.length : Int) == many) = true := by rw [hl]; exact hb
      refine OS.loop (fun i ρ μ' => ∃ (a1 : Option Mi.D), ρ = [some x, some (.int many), a1] ∧ μ' = μ ∧ ts.all isBl = (ts.drop i).all isBl) ⟨none, rfl, rfl, rfl⟩ ?_ ?_
      · intro j d ρ μ' hd ⟨a1, hρ, hμ, hal⟩
        subst hρ; subst hμ
        refine ⟨hck, _, rfl, fun K hK => ?_⟩
        obtain ⟨p, hp, lp⟩ := h2.get hd
        have okp := okDs_get h3 hp
        rw [drop_get hp, List.all_cons] at hal
        simp [fBody, l1_is_flags, isBl_lk lp okp, -Bool.exists_bool]
        cases hpb : isBl p with
        | true => simp; exact hK _ _ ⟨some d, rfl, rfl, by rw [hal, hpb]; rfl⟩
        | false => simp; exact hP _ _ ⟨by simp only [flagsT, hal, hpb, Bool.false_and, Bool.and_false], rfl⟩
      · intro ρ μ' ⟨a1, hρ, hμ, hal⟩
        subst hρ; subst hμ
        refine ⟨hck, ?_⟩
        refine hP _ _ ⟨?_, rfl⟩
        rw [← hl, List.drop_length] at hal
        simp only [flagsT, hal, hb', List.all_nil, Bool.and_self]
    · have hb : ((ds.length : Int) == many) = false := by simpa using hm
      simp [hb, -Bool.exists_bool]
      exact hP _ _ ⟨by have hb' : ((ts.length : Int) == many) = false := by rw [hl]; exact hb
                       simp only [flagsT, hb', Bool.false_and], rfl⟩
  · subst e
    simp [e2, -Bool.exists_bool]
    exact hP _ _ ⟨by cases x <;> first | rfl | simp [isSeqT] at e2, rfl⟩
theorem flags_w (n : Nat) : FlagsW (G (n + 2)) := flags_of (seq_w n) (f_is_flags (n + 1))
def moveT (n : Int) (t : Mi.D) : Bool := decide (t = .non) || isNum t n
def movesT (n : Int) : Mi.D → Bool
  | .tup ts => (decide (1 ≤ ts.length) && decide (ts.length ≤ 5)) && ts.all (moveT n)
  | _ => false
theorem lk_non {μ : Mem} {t x : Mi.D} (h : Lk μ t x) : decide (x = .non) = decide (t = .non) := by
  cases t with
  | tup ts =>
    simp only [Lk] at h
    obtain ⟨ds, h1, h2⟩ := h
    cases x <;> simp [seqOf] at h1 <;> simp
  | _ => simp only [Lk] at h; rw [h]
def MovesW (Γ : Gam) : Prop := ∀ (μ : Mem) (t x : Mi.D) (n : Int) (k : Nat), Lk μ t x → okD k t = true → Γ.fn "is_moves" [x, .int n] μ = .ok (.bl (movesT n t)) μ
theorem seqT_tup (ms : List Mi.D) : seqT (.tup ms) = ms := rfl
/-- the first element that a test refuses -/
def badAt (f : Mi.D → Bool) : Nat → List Mi.D → Option Nat
  | _, [] => none
  | j, m :: ms => if f m then badAt f (j + 1) ms else some j
def stsT : Mi.D → Bool
  | .tup ts => decide (1 ≤ ts.length) && decide (ts.length ≤ 16)
  | _ => false
def rowOk (n w : Nat) (t : Mi.D) : Bool := movesT n t && ((seqT t).length == w)
def worldFault (f t u : Mi.D) : Option Fault :=
  if betw f 0 4 = false then some ("BadValue", [("at", .int 1)])
  else if stsT t = false then some ("BadValue", [("at", .int 2)])
  else match badAt (flagsT (numT f)) 0 (seqT t) with
    | some i => some ("BadState", [("at", .int (i : Nat))])
    | none => if (isSeqT u && ((seqT u).length == (seqT t).length)) = false then some ("BadValue", [("at", .int 3)])
      else match badAt (rowOk (seqT t).length (seqT ((seqT u).headD .non)).length) 0 (seqT u) with
      | some i => some ("BadState", [("at", .int (i : Nat))])
      | none => none
abbrev worldK (f t u : Mi.D) : Cell := .ins "World" [("_facts", f), ("_states", t), ("_moves", u)]
def WorldInitW (Γ : Gam) : Prop := ∀ (μ : Mem) (r : Nat) (f t x u y : Mi.D) (k l : Nat), μ[r]? = some (.ins "World" []) → Lk μ t x → okD k t = true → Lk μ u y → okD l u = true →
  OkX (Γ.fn "World.__init__" [.ref r, f, x, y] μ) (fun v μ' => worldFault f t u = none ∧ v = .non ∧ ∃ μ1, Kb μ μ1 ∧ μ' = μ1.set r (worldK f t u)) (fun c fs μ' => worldFault f t u = some (c, fs) ∧ Kb μ μ')
theorem wput0 (a : Mi.D) : putFld [] "_facts" a = [(("_facts" : Str), a)] := rfl
theorem wput1 (a b : Mi.D) : putFld [(("_facts" : Str), a)] "_states" b = ([("_facts", a), ("_states", b)] : List (Str × Mi.D)) := by kernel_rfl
theorem wput2 (a b c : Mi.D) : putFld [(("_facts" : Str), a), ("_states", b)] "_moves" c = ([("_facts", a), ("_states", b), ("_moves", c)] : List (Str × Mi.D)) := by kernel_rfl
/-- rows of scalars -/
def flatR : Mi.D → Bool
  | .tup ts => ts.all fun t => !isSeqT t
  | _ => false
theorem lks_flat {μ : Mem} : ∀ {ts xs : List Mi.D} {k : Nat}, Lks μ ts xs → okDs k ts = true → (ts.all fun t => !isSeqT t) = true → xs = ts
  | [], _, _, h, _, _ => by simpa only [Lks] using h
  | t :: ts, _, k, h, ok, f => by
    simp only [Lks] at h
    obtain ⟨y, ys, e, h1, h2⟩ := h
    simp only [okDs, Bool.and_eq_true] at ok
    simp only [List.all_cons, Bool.and_eq_true, Bool.not_eq_true'] at f
    subst e
    rw [lk_flat h1 ok.1 f.1, lks_flat h2 ok.2 f.2]
/-- tuple(row) of each row -/
theorem copy_rows {Γ : Gam} {i : Nat} {ρ : Env'} {μ : Mem} {own : List (Nat × Cell)} (hc : chk own μ = true) (hi : i < ρ.length) {Q : List Mi.D → Mem → Prop} {X : Str → List (Str × Mi.D) → Mem → Prop} {ts ds : List Mi.D} {k : Nat} (h : Lks μ ts ds) (ok : okDs k ts = true) (fl : ts.all flatR = true) (hl : ts.length ≤ 1000) (q : Q ts μ) :
    OkX (compL (cStep Γ [i] (.nm i) .no (.tupOf (.val (.var i))) ρ) own 0 ds μ) Q X := by
  have gl := h.len
  refine OkX.lc (fun j acc μ' => acc = ts.take j ∧ μ' = μ) ⟨rfl, rfl⟩ (by rw [← gl, limV]; omega) (fun j d acc μ1 hd ⟨h1, h2⟩ => ⟨by rw [h2]; exact hc, fun K hK => ?_⟩) fun acc μ1 ⟨h1, h2⟩ => ?_
  · subst h2
    obtain ⟨p, hp, lp⟩ := h.get hd
    have okp := okDs_get ok hp
    rw [List.all_eq_true] at fl
    have fp := fl p (List.mem_of_getElem? hp)
    match p, fp with
    | .tup ps, fp =>
      simp only [flatR] at fp
      rcases lk_cases lp okp with ⟨ps', es, e, g1, g2, g3, g4⟩ | ⟨e, e2, e3⟩
      · cases e
        have ee := lks_flat g2 g3 fp
        subst ee
        obtain ⟨o1, t1, i1, c1⟩ := its_own g1
        simp [wipeE, i1, hi]
        refine hK _ _ ⟨?_, rfl⟩
        rw [h1, List.take_add_one, hp]
        rfl
      · simp [isSeqT] at e2
  · subst h2
    refine ⟨hc, ?_⟩
    rw [← gl, List.take_length] at h1
    rw [h1]
    exact q
theorem badAt_all {f : Mi.D → Bool} : ∀ {ts : List Mi.D} {j : Nat}, badAt f j ts = none → ∀ t ∈ ts, f t = true
  | [], _, _, t, h => by cases h
  | m :: ms, j, hb, t, h => by
    simp only [badAt] at hb
    split at hb
    · rename_i q
      rcases List.mem_cons.mp h with e | h
      · subst e; exact q
      · exact badAt_all hb t h
    · cases hb
theorem flags_flat {n : Int} {t : Mi.D} (h : flagsT n t = true) : flatR t = true := by
  cases t with
  | tup ts =>
    simp only [flagsT, Bool.and_eq_true, List.all_eq_true] at h
    simp only [flatR, List.all_eq_true]
    intro x hx
    have := h.2 x hx
    cases x <;> first | rfl | simp [isBl] at this
  | _ => simp [flagsT] at h
theorem moves_flat {n : Int} {t : Mi.D} (h : movesT n t = true) : flatR t = true := by
  cases t with
  | tup ts =>
    simp only [movesT, Bool.and_eq_true, List.all_eq_true] at h
    simp only [flatR, List.all_eq_true]
    intro x hx
    have := h.2 x hx
    cases x <;> first | rfl | simp [moveT, isNum] at this
  | _ => simp [movesT] at h
/-- a row that is walked stands in the cells of μ -/
theorem own_kb {x : Mi.D} {μ μ' : Mem} {ds : List Mi.D} {own : List (Nat × Cell)} {tup : Bool} (h : seqOf x μ = some ds) (g : Kb μ μ') (e : itsOf x μ' = some ⟨ds, own, tup⟩) : ∀ μ'', Kb μ μ'' → chk own μ'' = true := fun μ'' g2 => by
  obtain ⟨o3, t3, e3, c3⟩ := its_own h
  have e4 : itsOf x μ' = itsOf x μ := by
    cases x with
    | tup es => rfl
    | ref n =>
      cases q : μ[n]? with
      | none => simp [seqOf, q] at h
      | some c => simp only [itsOf, q, g _ _ q]
    | _ => simp [seqOf] at h
  rw [e4, e3] at e
  cases e
  exact chk_kb g2 c3
end Lw
/-! W11: drawn worlds. -/
namespace Lw
open PySem Mi

def moveD : Option Nat → Mi.D
  | none => .non
  | some i => .int (i : Nat)
def stD (l : List Bool) : Mi.D := .tup (l.map Mi.D.bl)
def mvD (l : List (Option Nat)) : Mi.D := .tup (l.map moveD)
structure WOk (F D C : Nat) (ss : List (List Bool)) (ms : List (List (Option Nat))) : Prop where
  sl : ss.length = C
  s : ∀ l ∈ ss, l.length = F
  ml : ms.length = C
  m : ∀ l ∈ ms, l.length = D ∧ ∀ x ∈ l, ∀ i, x = some i → i < C
def wD (F : Nat) (ss : List (List Bool)) (ms : List (List (Option Nat))) : Mi.D := .tup [.int F, .tup (ss.map stD), .tup (ms.map mvD)]
def WorldW (Γ : Gam) : Prop := ∀ r s (F D C : Nat), F ≤ 1000 → D ≤ 1000 → 0 < C → C ≤ 1000 → Drawn Γ r s "_law_world" [.int F, .int D, .int C] (fun v => ∃ ss ms, WOk F D C ss ms ∧ v = wD F ss ms)
/-! ### a drawn world has no fault -/
theorem badAt_none {f : Mi.D → Bool} : ∀ {ts : List Mi.D} {j : Nat}, (∀ t ∈ ts, f t = true) → badAt f j ts = none
  | [], _, _ => rfl
  | m :: ms, j, h => by
    simp only [badAt, h m List.mem_cons_self, if_true]
    exact badAt_none fun x hx => h x (List.mem_cons_of_mem _ hx)
theorem st_flags {F : Nat} {l : List Bool} (h : l.length = F) : flagsT F (stD l) = true := by
  simp only [stD, flagsT, List.length_map, h, beq_self_eq_true, Bool.true_and, List.all_map, List.all_eq_true]
  exact fun _ _ => rfl
theorem mv_moves {C D : Nat} (h1 : 1 ≤ D) (h5 : D ≤ 5) {l : List (Option Nat)} (h : l.length = D ∧ ∀ x ∈ l, ∀ i, x = some i → i < C) : movesT C (mvD l) = true := by
  simp only [mvD, movesT, List.length_map, h.1, Bool.and_eq_true, decide_eq_true_eq, List.all_map, List.all_eq_true]
  refine ⟨⟨h1, h5⟩, fun x hx => ?_⟩
  cases x with
  | none => rfl
  | some i => have := h.2 _ hx i rfl; simp [moveT, moveD, isNum]; omega
theorem world_fault_drawn {F D C : Nat} {ss : List (List Bool)} {ms : List (List (Option Nat))} (hF : F ≤ 4) (hD : 1 ≤ D) (hD5 : D ≤ 5) (hC : 1 ≤ C) (hC16 : C ≤ 16) (h : WOk F D C ss ms) : worldFault (.int F) (.tup (ss.map stD)) (.tup (ms.map mvD)) = none := by
  have b1 : betw (.int F) 0 4 = true := by simp [betw]; omega
  have b2 : stsT (.tup (ss.map stD)) = true := by simp [stsT, h.sl]; omega
  have b3 : badAt (flagsT F) 0 (ss.map stD) = none := badAt_none fun t ht => by
    obtain ⟨l, hl, e⟩ := List.mem_map.mp ht
    subst e; exact st_flags (h.s l hl)
  have b4 : badAt (rowOk C (seqT ((ms.map mvD).headD .non)).length) 0 (ms.map mvD) = none := badAt_none fun t ht => by
    obtain ⟨l, hl, e⟩ := List.mem_map.mp ht
    subst e
    have e1 : (seqT ((ms.map mvD).headD .non)).length = D := by
      cases hm : ms with
      | nil => rw [hm] at hl; cases hl
      | cons a b => simp [seqT, mvD, (h.m a (by rw [hm]; exact List.mem_cons_self)).1]
    rw [e1]
    simp [rowOk, mv_moves hD hD5 (h.m l hl), seqT, mvD, (h.m l hl).1]
    exact mv_moves hD hD5 (h.m l hl)
  unfold worldFault
  rw [if_neg (by rw [b1]; simp), if_neg (by rw [b2]; simp)]
  simp only [numT, seqT_tup, b3, List.length_map, h.sl, h.ml, isSeqT, beq_self_eq_true, Bool.and_self, Bool.true_eq_false, if_false, b4]
theorem ok_ss {F D C : Nat} {ss : List (List Bool)} {ms : List (List (Option Nat))} (hF : F ≤ 1000) (hC : C ≤ 1000) (h : WOk F D C ss ms) : okD 6 (.tup (ss.map stD)) = true :=
  okD_tup (by simp [h.sl]; exact hC) (okDs_map fun l hl => okD_tup (by simp [h.s l hl]; exact hF) (okDs_map fun _ _ => rfl))
theorem ok_ms {F D C : Nat} {ss : List (List Bool)} {ms : List (List (Option Nat))} (hD : D ≤ 1000) (hC : C ≤ 1000) (h : WOk F D C ss ms) : okD 6 (.tup (ms.map mvD)) = true :=
  okD_tup (by simp [h.ml]; exact hC) (okDs_map fun l hl => okD_tup (by simp [(h.m l hl).1]; exact hD) (okDs_map fun x _ => by cases x <;> rfl))
end Lw
/-! W12: worlds of facts. -/
namespace Lw
open PySem Mi

theorem is_sequence_ok (n : Nat) {d : Mi.D} {μ : Mem} {ds : List Mi.D} (h : seqOf d μ = some ds) : (G (n + 1)).fn "is_sequence" [d] μ = .ok (.bl true) μ := by
  rw [f_is_sequence, run1]
  cases d with
  | tup es => simp [b_is_sequence, isTys, isTy]
  | ref k =>
    cases e : μ[k]? with
    | none => simp [seqOf, e] at h
    | some c => cases c <;> simp [seqOf, e] at h <;> simp [b_is_sequence, isTys, isTy, e]
  | _ => simp [seqOf] at h
theorem is_flags_ok (n : Nat) {v : Mi.D} {μ : Mem} {ds : List Mi.D} (many : Int) (h : seqOf v μ = some ds) (hm : (ds.length : Int) = many) (hb : ∀ d ∈ ds, ∃ b, d = .bl b) : (G (n + 2)).fn "is_flags" [v, .int many] μ = .ok (.bl true) μ := by
  rw [f_is_flags, run2]
  obtain ⟨own, tup, h1, h2⟩ := its_seq h
  have hc := h2 μ fun _ _ => rfl
  have hl : lenD v μ = some ds.length := by
    cases v with
    | tup es => simp [seqOf] at h; subst h; rfl
    | ref k =>
      cases e : μ[k]? with
      | none => simp [seqOf, e] at h
      | some c => cases c <;> simp [seqOf, e] at h <;> simp [lenD, e, h]
    | _ => simp [seqOf] at h
  have loop : ∀ (ds : List Mi.D) (o : Option Mi.D), (∀ d ∈ ds, ∃ b, d = .bl b) → ∃ o', forL (fBody (G (n + 1)) l1_is_flags) (.nm 2) own ds [some v, some (.int many), o] μ = .nx [some v, some (.int many), o'] μ := fun ds => by
    induction ds with
    | nil => intro o _; exact ⟨o, by simp [hc]⟩
    | cons d ds ih =>
      intro o hb
      obtain ⟨b, e⟩ := hb d List.mem_cons_self
      subst e
      obtain ⟨o', e⟩ := ih (some (.bl b)) fun d hd => hb d (List.mem_cons_of_mem _ hd)
      refine ⟨o', ?_⟩
      simp only [l1_is_flags] at e
      rw [forL_cons, if_pos hc]
      simp [fBody, l1_is_flags, isTys, isTy, e]
  obtain ⟨o', e⟩ := loop ds none hb
  simp [b_is_flags, is_sequence_ok _ h, h1, e, biD, hl, hm]
theorem holds_ok (n : Nat) {c st : Mi.D} {μ : Mem} {cs : List Mi.D} {ps : List (Nat × Bool)} {fl : List Bool} (hc : seqOf c μ = some cs) (hp : All2 (PairAt μ) cs ps) (hs : seqOf st μ = some (fl.map Mi.D.bl)) (hr : ∀ p ∈ ps, p.1 < fl.length) :
    (G (n + 1)).fn "holds" [c, st] μ = .ok (.bl (ps.all fun p => fl[p.1]? == some p.2)) μ := by
  rw [f_holds, run2]
  obtain ⟨own, tup, h1, h2⟩ := its_seq hc
  have hk := h2 μ fun _ _ => rfl
  have loop : ∀ (cs : List Mi.D) (ps : List (Nat × Bool)) (o1 o2 : Option Mi.D), All2 (PairAt μ) cs ps → (∀ p ∈ ps, p.1 < fl.length) → ∃ a b, forL (fBody (G n) l1_holds) (.tp [2, 3]) own cs [some c, some st, o1, o2] μ
      = if (ps.all fun p => fl[p.1]? == some p.2) then .nx [some c, some st, a, b] μ else .rt (.bl false) μ := fun cs => by
    induction cs with
    | nil =>
      intro ps o1 o2 hp _
      cases ps with
      | nil => exact ⟨o1, o2, by simp [hk]⟩
      | cons p ps => exact hp.elim
    | cons x cs ih =>
      intro ps o1 o2 hp hr
      cases ps with
      | nil => exact hp.elim
      | cons p ps =>
        obtain ⟨hx, hp⟩ := hp
        obtain ⟨k, w⟩ := p
        have hx : seqOf x μ = some [.int (k : Nat), .bl w] := hx
        have hkl : k < fl.length := hr (k, w) List.mem_cons_self
        have hat : atD (fl.map Mi.D.bl) (k : Nat) = some (.bl fl[k]) := at_nat (by rw [List.getElem?_map, List.getElem?_eq_getElem hkl]; rfl)
        by_cases hw : fl[k] = w
        · obtain ⟨a, b, e⟩ := ih ps (some (.int (k : Nat))) (some (.bl w)) hp fun p hm => hr p (List.mem_cons_of_mem _ hm)
          refine ⟨a, b, ?_⟩
          simp only [l1_holds] at e
          have hgw : fl[k]? = some w := by rw [List.getElem?_eq_getElem hkl, hw]
          have hall : ((k, w) :: ps).all (fun p => fl[p.1]? == some p.2) = ps.all (fun p => fl[p.1]? == some p.2) := by
            rw [List.all_cons]
            show (fl[k]? == some w && _) = _
            rw [hgw]; simp
          rw [hall, forL_cons, if_pos hk]
          simp [fBody, l1_holds, asgn, hx, setEs, sub_seq hs, hat, neB, hw, e]
        · refine ⟨none, none, ?_⟩
          have hgw : fl[k]? = some fl[k] := List.getElem?_eq_getElem hkl
          have hgb : (fl[k]? == some w) = false := by rw [hgw]; simpa using hw
          rw [forL_cons, if_pos hk]
          have hall : ((k, w) :: ps).all (fun p => fl[p.1]? == some p.2) = false := by
            rw [List.all_cons]
            show (fl[k]? == some w && _) = _
            rw [hgb]; rfl
          rw [hall]
          simp [fBody, l1_holds, asgn, hx, setEs, sub_seq hs, hat, neB, hw]
  obtain ⟨a, b, e⟩ := loop cs ps none none hp hr
  simp only [b_holds, x_cons, x_for, s_l, s_val, s_var, List.getElem?_cons_zero, Res.bind_ok, h1, Res.ofO_some, Res.to_ok, List.replicate]
  rw [e]
  cases (ps.all fun p => fl[p.1]? == some p.2) <;> simp
theorem is_condition_ok (n : Nat) {c : Mi.D} {μ : Mem} {cs : List Mi.D} {ps : List (Nat × Bool)} {F : Nat} (hc : seqOf c μ = some cs) (hp : All2 (PairAt μ) cs ps) (ha : ascP F (-1) ps) :
    (G (n + 3)).fn "is_condition" [c, .int F] μ = .ok (.bl true) μ := by
  rw [f_is_condition, run2]
  obtain ⟨own, tup, h1, h2⟩ := its_seq hc
  have hk := h2 μ fun _ _ => rfl
  have loop : ∀ (cs : List Mi.D) (ps : List (Nat × Bool)) (last : Int) (o : Option Mi.D), All2 (PairAt μ) cs ps → ascP F last ps → ∃ a b, forL (fBody (G (n + 2)) l1_is_condition) (.nm 3) own cs [some c, some (.int F), some (.int last), o] μ
      = .nx [some c, some (.int F), a, b] μ := fun cs => by
    induction cs with
    | nil =>
      intro ps last o hp _
      exact ⟨some (.int last), o, by simp [hk]⟩
    | cons x cs ih =>
      intro ps last o hp ha
      cases ps with
      | nil => exact hp.elim
      | cons p ps =>
        obtain ⟨hx, hp⟩ := hp
        obtain ⟨k, w⟩ := p
        have hx : seqOf x μ = some [.int (k : Nat), .bl w] := hx
        obtain ⟨g1, g2, g3⟩ := ha
        obtain ⟨a, b, e⟩ := ih ps (k : Nat) (some x) hp g3
        refine ⟨a, b, ?_⟩
        simp only [l1_is_condition] at e
        rw [forL_cons, if_pos hk]
        have g4 : ¬ (k : Int) ≤ last := by omega
        have g5 : (k : Int) < F := by omega
        simp [fBody, l1_is_condition, is_sequence_ok _ hx, biD, len_seq hx, sub_seq hx, at0, at1, is_number_ok, isNum, g5, g4, isTys, isTy, e]
  obtain ⟨a, b, e⟩ := loop cs ps (-1) none hp ha
  simp [b_is_condition, is_sequence_ok _ hc, h1, e]
theorem in_ints {v : Mi.D} {μ : Mem} {S : List Nat} (h : seqOf v μ = some (intsD S)) (k : Nat) : inD (.int k) v μ = some (S.contains k) := by
  have e : ((intsD S).any fun z => eqD z (.int (k : Nat))) = S.contains k := by
    clear h
    induction S with
    | nil => rfl
    | cons a S ih =>
      simp only [intsD, List.map_cons, List.any_cons, List.contains_cons]
      have : eqD (.int (a : Nat)) (.int (k : Nat)) = (k == a) := by
        simp only [eqD]
        rw [Bool.eq_iff_iff]; simp; omega
      rw [this]
      congr 1
  have hp : (pureD lev (.int (k : Nat)) && pureDs lev (intsD S)) = true := by rw [show lev = 59 + 1 from rfl, pure_ints]; rfl
  cases v with
  | tup es => simp [seqOf] at h; subst h; simp only [inD]; rw [if_pos hp, e]
  | ref j =>
    cases q : μ[j]? with
    | none => simp [seqOf, q] at h
    | some c => cases c <;> simp [seqOf, q] at h <;> (simp only [inD, q]; subst h; rw [if_pos hp, e])
  | _ => simp [seqOf] at h
theorem ascB_ok {F : Nat} : ∀ {S : List Nat} {last : Int}, ascN F last S → ascB F last (intsD S) = true
  | [], _, _ => rfl
  | k :: S, last, h => by
    obtain ⟨h1, h2, h3⟩ := h
    have h4 : (k : Int) < F := by omega
    simp [ascB, h1, h4, ascB_ok h3]
structure DeedAt (μ : Mem) (d : Mi.D) (ps : List (Nat × Bool)) (S C : List Nat) : Prop where
  ex : ∃ c s k cs, seqOf d μ = some [c, s, k] ∧ seqOf c μ = some cs ∧ All2 (PairAt μ) cs ps ∧ seqOf s μ = some (intsD S) ∧ seqOf k μ = some (intsD C)
structure DeedOk (F : Nat) (ps : List (Nat × Bool)) (S C : List Nat) : Prop where
  p : ascP F (-1) ps
  s : ascN F (-1) S
  c : ascN F (-1) C
  d : ∀ k ∈ S, k ∉ C
def bitsV : List Bool → Nat
  | [] => 0
  | b :: bs => (if b then 1 else 0) + 2 * bitsV bs
def newF (S C : List Nat) : Nat → List Bool → List Bool
  | _, [] => []
  | k, b :: bs => (S.contains k || (b && !C.contains k)) :: newF S C (k + 1) bs
def MoveOk (L : Nat) (d : Mi.D) : Prop := d = .non ∨ ∃ i : Nat, d = .int (i : Nat) ∧ i < L
theorem seq_set {x : Mi.D} {μ : Mem} {l : List Mi.D} {r : Nat} {C : Str} {fs fs' : List (Str × Mi.D)} (hr : μ[r]? = some (.ins C fs)) (h : seqOf x μ = some l) : seqOf x (μ.set r (.ins C fs')) = some l := by
  cases x with
  | tup es => exact h
  | ref k =>
    have ne : r ≠ k := fun e => by subst e; simp [seqOf, hr] at h
    simp only [seqOf] at h ⊢
    rw [List.getElem?_set_ne ne]
    exact h
  | _ => simp [seqOf] at h
theorem put1 (a b : Mi.D) : putFld [(("_facts" : Str), a)] "_states" b = ([("_facts", a), ("_states", b)] : List (Str × Mi.D)) := by kernel_rfl
theorem put2 (a b c : Mi.D) : putFld [(("_facts" : Str), a), ("_states", b)] "_moves" c = ([("_facts", a), ("_states", b), ("_moves", c)] : List (Str × Mi.D)) := by kernel_rfl
theorem put0 (a : Mi.D) : putFld [] "_facts" a = [(("_facts" : Str), a)] := rfl
def SeqAt (μ : Mem) (x : Mi.D) (l : List Mi.D) : Prop := seqOf x μ = some l
theorem tups_run {Γ : Gam} {i : Nat} {ρ : Env'} {μ : Mem} (hi : i < ρ.length) : ∀ {ds : List Mi.D} {ls : List (List Mi.D)} {n : Nat} {own : List (Nat × Cell)}, chk own μ = true → All2 (SeqAt μ) ds ls → n + ds.length ≤ lim →
    compL (cStep Γ [i] (.nm i) .no (.tupOf (.val (.var i))) ρ) own n ds μ = .ok (ls.map Mi.D.tup) μ
  | [], [], n, own, hc, _, _ => by unfold compL; rw [if_pos hc]; rfl
  | [], _ :: _, n, own, hc, h, _ => h.elim
  | _ :: _, [], n, own, hc, h, _ => h.elim
  | d :: ds, l :: ls, n, own, hc, h, hl => by
    obtain ⟨h1, h2⟩ := h
    have h1 : seqOf d μ = some l := h1
    obtain ⟨o2, t2, e2, _⟩ := its_seq h1
    simp only [List.length_cons] at hl
    have es : cStep Γ [i] (.nm i) .no (.tupOf (.val (.var i))) ρ d μ = .ok (some (.tup l)) μ := by
      simp [cStep, wipeE, List.getElem?_set_self, hi, e2]
    unfold compL
    rw [if_pos hc, es]
    simp only [Res.bind_ok]
    rw [if_pos (by omega), tups_run hi hc h2 (by omega)]
    rfl
theorem deed_app {μ : Mem} {d : Mi.D} {ps : List (Nat × Bool)} {S C : List Nat} (ex : Mem) (h : DeedAt μ d ps S C) : DeedAt (μ ++ ex) d ps S C := by
  obtain ⟨c, s, k, cs, h1, h2, h3, h4, h5⟩ := h.ex
  exact ⟨c, s, k, cs, seq_app ex h1, seq_app ex h2, h3.mono fun a b q => seq_app ex q, seq_app ex h4, seq_app ex h5⟩
def refs (a k : Nat) : List Mi.D := (List.range k).map fun j => .ref (a + j)
theorem refs_succ (a k : Nat) : refs a (k + 1) = refs a k ++ [.ref (a + k)] := by simp [refs, List.range_succ]
theorem refs_len (a k : Nat) : (refs a k).length = k := by simp [refs]
theorem comp_new {step : Mi.D → Mem → Res (Option Mi.D)} {own : List (Nat × Cell)} {g : Mi.D → List Mi.D} {μ0 : Mem} : ∀ {ds : List Mi.D} {n : Nat} {ex : Mem}, (∀ d ∈ ds, ∀ ex, step d (μ0 ++ ex) = .ok (some (.ref (μ0 ++ ex).length)) (μ0 ++ ex ++ [.lst (g d)])) → (∀ ex, chk own (μ0 ++ ex) = true) → n + ds.length ≤ lim →
    compL step own n ds (μ0 ++ ex) = .ok (refs (μ0 ++ ex).length ds.length) (μ0 ++ ex ++ ds.map fun d => .lst (g d))
  | [], n, ex, _, hc, _ => by unfold compL; rw [if_pos (hc ex)]; simp [refs]
  | d :: ds, n, ex, hs, hc, hl => by
    simp only [List.length_cons] at hl
    unfold compL
    rw [if_pos (hc ex), hs d List.mem_cons_self ex]
    simp only [Res.bind_ok]
    rw [if_pos (by omega)]
    have ih := comp_new (ds := ds) (n := n + 1) (ex := ex ++ [.lst (g d)]) (fun x hx => hs x (List.mem_cons_of_mem _ hx)) hc (by omega)
    rw [← List.append_assoc] at ih
    rw [ih]
    simp only [Res.bind_ok, List.length_append, List.length_cons, List.length_nil, List.map_cons]
    have e1 : Mi.D.ref (μ0.length + ex.length) :: refs (μ0.length + ex.length + (0 + 1)) ds.length = refs (μ0.length + ex.length) (ds.length + 1) := by
      unfold refs
      rw [List.range_succ_eq_map, List.map_cons, List.map_map]
      congr 1
      apply List.map_congr_left
      intro j _
      simp only [Function.comp]
      congr 1
      omega
    rw [e1]
    simp
def bitF (k : Nat) : Mi.D → Mi.D
  | .int j => .bl (Builtin.bitAnd ((k : Int) / 2 ^ j.toNat) 1 == 1)
  | _ => .non
theorem bits_ok : ∀ F, F < 5 → ∀ k, k < 16 → (rngD 0 F).map (bitF k) = flagsD F k := by decide +kernel
abbrev Deed := List (Nat × Bool) × List Nat × List Nat
def moveV (t : Deed) (fl : List Bool) : Mi.D := if (t.1.all fun p => fl[p.1]? == some p.2) then .int (bitsV (newF t.2.1 t.2.2 0 fl) : Nat) else .non
def rowD (F : Nat) (ts : List Deed) (k : Nat) : List Mi.D := ts.map fun t => moveV t (flagsOf F k)
theorem asc_lt {F : Nat} : ∀ {ps : List (Nat × Bool)} {last : Int}, ascP F last ps → ∀ p ∈ ps, p.1 < F
  | [], _, _, p, h => by cases h
  | (k, w) :: ps, last, h, p, hp => by
    rcases List.mem_cons.mp hp with e | hp
    · subst e; exact h.2.1
    · exact asc_lt h.2.2 p hp
theorem bits_lt : ∀ bs : List Bool, bitsV bs < 2 ^ bs.length
  | [] => by simp [bitsV]
  | b :: bs => by
    have := bits_lt bs
    simp only [bitsV, List.length_cons, Nat.pow_succ]
    cases b <;> simp <;> omega
theorem newF_len (S C : List Nat) : ∀ (k : Nat) (fl : List Bool), (newF S C k fl).length = fl.length
  | _, [] => rfl
  | k, b :: bs => by simp [newF, newF_len S C (k + 1) bs]
theorem pow_le16 {F : Nat} (h : F ≤ 4) : 2 ^ F ≤ 16 := by
  have : ∀ F, F < 5 → 2 ^ F ≤ 16 := by decide
  exact this F (by omega)
theorem all2_refs {P : Mem → Mi.D → List Mi.D → Prop} : True := trivial
theorem refs_seq {pre cells post : Mem} {a k : Nat} {g : Nat → List Mi.D} (hc : cells = (List.range k).map fun j => Cell.lst (g j)) (hp : pre.length = a) : All2 (SeqAt (pre ++ (cells ++ post))) (refs a k) ((List.range k).map g) := by
  unfold refs
  refine all2_map fun j hj => ?_
  have hj : j < k := List.mem_range.mp hj
  have g1 : (pre ++ (cells ++ post))[a + j]? = some (.lst (g j)) := by
    rw [List.getElem?_append_right (by omega), List.getElem?_append_left (by rw [hc]; simp; omega)]
    have e : a + j - pre.length = j := by omega
    rw [e, hc]
    simp [hj]
  simp only [SeqAt, seqOf, g1]
theorem move_ok {F : Nat} {t : Deed} {k : Nat} : MoveOk (2 ^ F) (moveV t (flagsOf F k)) := by
  unfold moveV
  split
  · refine .inr ⟨_, rfl, ?_⟩
    have := bits_lt (newF t.2.1 t.2.2 0 (flagsOf F k))
    rw [newF_len, flags_len] at this
    exact this
  · exact .inl rfl
def worldC (F : Nat) (ts : List Deed) : Cell := .ins "World" [("_facts", .int F), ("_states", .tup (((List.range (2 ^ F)).map (flagsD F)).map Mi.D.tup)), ("_moves", .tup (((List.range (2 ^ F)).map (rowD F ts)).map Mi.D.tup))]
abbrev cellsF (F : Nat) : Mem := (List.range (2 ^ F)).map fun k => Cell.lst (flagsD F k)
end Lw
/-! W13: facts_world refuses. -/
namespace Lw
open PySem Mi

def ascTT (L : Int) : Mi.D → Bool
  | .tup ts => ascB L (-1) ts
  | _ => false
def AscW (Γ : Gam) : Prop := ∀ (μ : Mem) (t : Mi.D) (L : Int) (k : Nat), okD k t = true → Γ.fn "is_ascending" [t, .int L] μ = .ok (.bl (ascTT L t)) μ
def disjT (s c : Mi.D) : Bool := (seqT s).all fun x => !((seqT c).any fun z => eqD z x)
def effT (F : Int) : Mi.D → Bool
  | .tup [n, s, c] => (condTT F n && (ascTT F s && ascTT F c)) && disjT s c
  | _ => false
theorem asc_pure {L : Int} : ∀ {ds : List Mi.D} {last : Int}, ascB L last ds = true → (∀ d ∈ ds, ∃ i, d = .int i)
  | [], _, _, d, h => by cases h
  | .int i :: ds, last, hb, d, h => by
    simp only [ascB, Bool.and_eq_true] at hb
    rcases List.mem_cons.mp h with e | h
    · exact ⟨i, e⟩
    · exact asc_pure hb.2.2 d h
  | .non :: ds, last, hb, d, h => by simp [ascB] at hb
  | .bl _ :: ds, last, hb, d, h => by simp [ascB] at hb
  | .str _ :: ds, last, hb, d, h => by simp [ascB] at hb
  | .tup _ :: ds, last, hb, d, h => by simp [ascB] at hb
  | .ref _ :: ds, last, hb, d, h => by simp [ascB] at hb
theorem pure_all {ds : List Mi.D} {k : Nat} (h : ∀ d ∈ ds, ∃ i, d = .int i) : pureDs (k + 1) ds = true := by
  induction ds with
  | nil => rfl
  | cons d ds ih =>
    obtain ⟨i, e⟩ := h d List.mem_cons_self
    subst e
    simp only [pureDs, ih fun x hx => h x (List.mem_cons_of_mem _ hx)]
    rfl
theorem three_or {α : Type} {l : List α} : (∃ a b c, l = [a, b, c]) ∨ l.length ≠ 3 := by
  match l with
  | [] => simp
  | [a] => simp
  | [a, b] => simp
  | [a, b, c] => exact .inl ⟨a, b, c, rfl⟩
  | a :: b :: c :: d :: r => simp
theorem effT_len {F : Int} {ps : List Mi.D} (h : ps.length ≠ 3) : effT F (.tup ps) = false := by
  match ps, h with
  | [], _ => rfl
  | [a], _ => rfl
  | [a, b], _ => rfl
  | [a, b, c], h => simp at h
  | a :: b :: c :: d :: r, _ => rfl
def EffW (Γ : Gam) : Prop := ∀ (μ : Mem) (t : Mi.D) (F : Nat) (k : Nat), okD k t = true → Γ.fn "is_effect" [t, .int F] μ = .ok (.bl (effT F t)) μ
def fwBad (F t : Mi.D) : Option Int :=
  if betw F 0 4 = false then some 1
  else if (isSeqT t && (decide (1 ≤ (seqT t).length) && decide ((seqT t).length ≤ 5))) = false then some 2
  else if (seqT t).all (effT (numT F)) = false then some 2
  else none
def FwBadW (Γ : Gam) : Prop := ∀ (μ : Mem) (F t : Mi.D) (i : Int) (k : Nat), okD k t = true → fwBad F t = some i → OkX (Γ.fn "facts_world" [F, t] μ) (fun _ _ => False) (fun c fs μ' => c = ("BadValue" : Str) ∧ fs = [(("at" : Str), Mi.D.int i)] ∧ μ' = μ)
end Lw
/-! W14: loose data, the properties of books and worlds, the checks of arguments. -/
namespace Lw
open PySem Mi

theorem Lks.snoc {μ : Mem} {t y : Mi.D} (h2 : Lk μ t y) : ∀ {ts xs : List Mi.D}, Lks μ ts xs → Lks μ (ts ++ [t]) (xs ++ [y])
  | [], xs, h => by
    simp only [Lks] at h
    subst h
    simp only [List.nil_append, Lks]
    exact ⟨y, [], rfl, h2, rfl⟩
  | a :: ts, xs, h => by
    simp only [Lks] at h
    obtain ⟨z, ys, e, h3, h4⟩ := h
    subst e
    simp only [List.cons_append, Lks]
    exact ⟨z, ys ++ [y], rfl, h3, Lks.snoc h2 h4⟩
theorem take_snoc {α : Type} {l : List α} {j : Nat} {d : α} (h : l[j]? = some d) : l.take (j + 1) = l.take j ++ [d] := by
  rw [List.take_add_one, h]; rfl
def LooseW (k : Nat) (Γ : Gam) : Prop := ∀ (μ : Mem) (t : Mi.D) (turn : Nat), okD k t = true → OkX (Γ.fn "_law_loose" [t, .int turn] μ) (fun v μ' => Lk μ' t v ∧ Kb μ μ') X0
theorem loose_of {k : Nat} {Γ Γ' : Gam} (L : LooseW k Γ) (e : ∀ ds μ, Γ'.fn "_law_loose" ds μ = runD Γ ⟨2, 4, b__law_loose⟩ ds μ) : LooseW (k + 1) Γ' := fun μ t turn ok => by
  rw [e, run_ans _ _ _ _ rfl]
  refine okx_of fun P hP => ?_
  by_cases ht : ∃ ts, t = .tup ts
  · obtain ⟨ts, ht⟩ := ht
    subst ht
    simp only [okD, Bool.and_eq_true, decide_eq_true_eq] at ok
    simp [b__law_loose, e1__law_loose, limV, isTys, isTy, itsOf, -Bool.exists_bool]
    refine OkX.lc (fun j acc μ' => Lks μ' (ts.take j) acc ∧ Kb μ μ') ⟨by simp [Lks], Kb.rfl' μ⟩ (by rw [limV]; omega) (fun j d acc μ' hd ⟨ha, kb⟩ => ⟨rfl, fun K hK => ?_⟩) fun acc μ' ⟨ha, kb⟩ => ⟨rfl, ?_⟩
    · simp [cStep, wipeE, limV, -Bool.exists_bool]
      have := L μ' d (turn + 1) (okDs_get ok.2 hd)
      refine this.imp fun v μ2 ⟨h1, h2⟩ => ?_
      exact hK (acc ++ [v]) _ ⟨by rw [take_snoc hd]; exact Lks.snoc h1 (Lks.kb h2 ha), kb.trans h2⟩
    · rw [List.take_length] at ha
      simp [biD, -Bool.exists_bool]
      have kb2 := kb.app [Cell.lst acc]
      have ha2 := Lks.app [Cell.lst acc] ha
      have em : ∀ μ : Mem, binD .mod (.int turn) (.int 2) μ = .ok (.int ((turn : Int) % 2)) μ := fun μ => by kernel_rfl
      simp [em, -Bool.exists_bool]
      by_cases z : ((turn : Int) % 2) = 0
      · simp only [if_pos z]
        refine hP _ _ ⟨?_, kb2⟩
        simp only [Lk]
        exact ⟨acc, by simp [seqOf], ha2⟩
      · simp only [if_neg z]
        refine hP _ _ ⟨?_, kb2⟩
        simp only [Lk]
        exact ⟨acc, rfl, ha2⟩
  · have : isTys t μ [.tuple] = some false := by
      cases t with
      | tup ts => exact absurd ⟨ts, rfl⟩ ht
      | ref n => simp [okD] at ok
      | _ => rfl
    simp [b__law_loose, this, -Bool.exists_bool]
    exact hP _ _ ⟨Lk.refl μ t, Kb.rfl' μ⟩
theorem loose_w (k n : Nat) : LooseW k (G (n + k)) := by
  induction k with
  | zero => intro μ t turn ok; simp [okD] at ok
  | succ k ih => exact loose_of ih (f__law_loose (n + k))

/-! ### properties -/
abbrev bookI (r : Nat) (f d t : Mi.D) (μ : Mem) : Prop := μ[r]? = some (bookC f d t)
abbrev worldI (r : Nat) (f t u : Mi.D) (μ : Mem) : Prop := μ[r]? = some (worldK f t u)
structure PropW (Γ : Gam) : Prop where
  bf : ∀ μ r f d t, bookI r f d t μ → Γ.fn "Book.facts" [.ref r] μ = .ok f μ
  bd : ∀ μ r f d t, bookI r f d t μ → Γ.fn "Book.deeds" [.ref r] μ = .ok d μ
  bt : ∀ μ r f d t, bookI r f d t μ → Γ.fn "Book.tasks" [.ref r] μ = .ok t μ
  wf : ∀ μ r f t u, worldI r f t u μ → Γ.fn "World.facts" [.ref r] μ = .ok f μ
  ws : ∀ μ r f t u, worldI r f t u μ → Γ.fn "World.states" [.ref r] μ = .ok t μ
  wm : ∀ μ r f t u, worldI r f t u μ → Γ.fn "World.moves" [.ref r] μ = .ok u μ
  wd : ∀ μ r f t us us', worldI r f t (.tup (.tup us' :: us)) μ → Γ.fn "World.deeds" [.ref r] μ = .ok (.int us'.length) μ
  wl : ∀ μ r f ts u, worldI r f (.tup ts) u μ → Γ.fn "World.__len__" [.ref r] μ = .ok (.int ts.length) μ
theorem fB0 (f d t : Mi.D) : fldD [(("_facts" : Str), f), ("_deeds", d), ("_tasks", t)] "_facts" = some f := by kernel_rfl
theorem fB1 (f d t : Mi.D) : fldD [(("_facts" : Str), f), ("_deeds", d), ("_tasks", t)] "_deeds" = some d := by kernel_rfl
theorem fB2 (f d t : Mi.D) : fldD [(("_facts" : Str), f), ("_deeds", d), ("_tasks", t)] "_tasks" = some t := by kernel_rfl
theorem fW0 (f d t : Mi.D) : fldD [(("_facts" : Str), f), ("_states", d), ("_moves", t)] "_facts" = some f := by kernel_rfl
theorem fW1 (f d t : Mi.D) : fldD [(("_facts" : Str), f), ("_states", d), ("_moves", t)] "_states" = some d := by kernel_rfl
theorem fW2 (f d t : Mi.D) : fldD [(("_facts" : Str), f), ("_states", d), ("_moves", t)] "_moves" = some t := by kernel_rfl
/-! ### the checks -/
inductive Fit (μ : Mem) : Mi.D → Mi.D → Option Int → Prop where
  | nobook {b w : Mi.D} (h : isTys b μ [.own "Book"] = some false) : Fit μ b w (some 1)
  | noworld {r : Nat} {f d t w : Mi.D} (h : bookI r f d t μ) (g : isTys w μ [.own "World"] = some false) : Fit μ (.ref r) w (some 2)
  | off {r q F D F2 : Nat} {t st : Mi.D} {us' us : List Mi.D} (h : bookI r (.int F) (.int D) t μ) (g : worldI q (.int F2) st (.tup (.tup us' :: us)) μ) (n : ¬ (F = F2 ∧ D = us'.length)) : Fit μ (.ref r) (.ref q) (some 2)
  | fit {r q F : Nat} {t st : Mi.D} {us' us : List Mi.D} (h : bookI r (.int F) (.int us'.length) t μ) (g : worldI q (.int F) st (.tup (.tup us' :: us)) μ) : Fit μ (.ref r) (.ref q) none
abbrev bv (i : Int) : Str × List (Str × Mi.D) := (("BadValue" : Str), [(("at" : Str), Mi.D.int i)])
/-- what a check does: it passes, or it raises BadValue(i); nothing is changed -/
def Ck (Γ : Gam) (f : Str) (as : List Mi.D) (μ : Mem) (ok : Bool) (i : Int) : Prop :=
  OkX (Γ.fn f as μ) (fun _ μ' => ok = true ∧ μ' = μ) (fun c fs μ' => ok = false ∧ c = (bv i).1 ∧ fs = (bv i).2 ∧ μ' = μ)
structure CkW (Γ : Gam) : Prop where
  fit : ∀ μ b w o, Fit μ b w o → Ck Γ "check_fit" [b, w] μ o.isNone (o.getD 0)
  task : ∀ μ r f d ts t (i : Int), bookI r f d (.tup ts) μ → Ck Γ "check_task" [.ref r, t, .int i] μ (isNum t ts.length) i
  state : ∀ μ q f ts u x (i : Int), worldI q f (.tup ts) u μ → ts.length ≤ 1000 → Ck Γ "check_state" [.ref q, x, .int i] μ (isNum x ts.length) i
  want : ∀ μ q f ts u x (i : Int) (k : Nat), worldI q f (.tup ts) u μ → ts.length ≤ 1000 → okD k x = true → Ck Γ "check_wanted" [.ref q, x, .int i] μ (ascTT ts.length x) i
def BookCk (Γ : Gam) : Prop := ∀ μ b (i : Int) q, isTys b μ [.own "Book"] = some q → Ck Γ "check_book" [b, .int i] μ q i
theorem bookck_of {Γ Γ' : Gam} (x1 : Γ.xinit "BadValue" = some (["at"] : List Str)) (e : ∀ ds μ, Γ'.fn "check_book" ds μ = runD Γ ⟨2, 2, b_check_book⟩ ds μ) : BookCk Γ' := fun μ b i q h => by
  unfold Ck
  rw [e, run_ans _ _ _ _ rfl]
  refine okx_ofX fun P Y hP hY => ?_
  cases q with
  | true => simp [b_check_book, h, -Bool.exists_bool]; exact hP _ _ ⟨rfl, rfl⟩
  | false => simp [b_check_book, h, x1, -Bool.exists_bool]; exact hY _ _ _ ⟨rfl, rfl, rfl, rfl⟩
theorem bookck_w (n : Nat) : BookCk (G (n + 1)) := bookck_of (xi_BadValue _) (f_check_book n)
theorem beq_nat (a b : Nat) : (((a : Nat) : Int) == (b : Int)) = decide (a = b) := by
  by_cases h : a = b
  · simp [h]
  · have : (a : Int) ≠ b := by omega
    simp [h, this]
/-! ### books and worlds made -/
theorem Kb.lt {μ μ' : Mem} {c : Cell} (h : Kb (μ ++ [c]) μ') : μ.length < μ'.length := by
  have := h μ.length c (by simp)
  exact (List.getElem?_eq_some_iff.mp this).1
def BookOfW (Γ : Gam) : Prop := ∀ μ (F D T M loose : Nat) (ts : List (List Meth)), (F ≤ 4 ∧ (1 ≤ D ∧ D ≤ 5) ∧ (1 ≤ T ∧ T ≤ 6) ∧ M ≤ 5) → BookOk F D T M ts →
  OkX (Γ.fn "_law_book_of" [bookD F D ts, .int loose] μ) (fun v μ' => ∃ r, v = .ref r ∧ μ.length ≤ r ∧ bookI r (.int F) (.int D) (.tup (tasksD ts)) μ' ∧ Kb μ μ') X0
theorem bookof_of {Γ Γ' : Gam} (L : LooseW 6 Γ) (B : BookInitW Γ) (i1 : Γ.init "Book" = some ("Book.__init__" : Str)) (e : ∀ ds μ, Γ'.fn "_law_book_of" ds μ = runD Γ ⟨2, 2, b__law_book_of⟩ ds μ) : BookOfW Γ' := fun μ F D T M lo ts ⟨h1, ⟨h2, h2'⟩, ⟨h3, h3'⟩, h4⟩ ok => by
  rw [e, run_ans _ _ _ _ rfl]
  refine okx_of fun P hP => ?_
  have at2 : atD [Mi.D.int F, .int D, .tup (tasksD ts)] 2 = some (.tup (tasksD ts)) := at_nat (i := 2) rfl
  have at1 : atD [Mi.D.int F, .int D, .tup (tasksD ts)] 1 = some (.int D) := at_nat (i := 1) rfl
  simp [b__law_book_of, bookD, i1, at1, at2, limV, -Bool.exists_bool]
  have okt := ok_tasks (by omega) (by omega) (by omega) ok
  refine (L μ _ lo okt).imp fun v μ1 ⟨lk, kb⟩ => ?_
  refine (B (μ1 ++ [.ins "Book" []]) μ1.length (.int F) (.int D) (.tup (tasksD ts)) v 6 (by simp) (Lk.app _ lk) okt (to_tasks ts)).mono (fun w μ2 ⟨g1, g2, μ3, g3, g4⟩ => ?_) fun c fs μ2 ⟨g1, _⟩ => ?_
  · subst g2; subst g4
    have hlt := Kb.lt g3
    simp [-Bool.exists_bool]
    refine hP _ _ ⟨μ1.length, rfl, ?_, by simp [bookI, hlt], kb.trans ((((Kb.rfl' μ1).app _).trans g3).put (Nat.le_refl _) _)⟩
    exact kb.len
  · rw [book_fault_drawn h1 h2 h2' h3 h3' h4 ok] at g1
    cases g1
theorem bookof_w (n : Nat) : BookOfW (G (n + 7)) := bookof_of (loose_w 6 n) (bookinit_w (n + 1)) (init_Book _) (f__law_book_of (n + 6))
def WorldMadeW (Γ : Gam) : Prop := ∀ μ (F D C loose : Nat) (ss : List (List Bool)) (ms : List (List (Option Nat))), (F ≤ 4 ∧ (1 ≤ D ∧ D ≤ 5) ∧ (1 ≤ C ∧ C ≤ 16)) → WOk F D C ss ms →
  OkX (Γ.fn "_law_world_made" [wD F ss ms, .int loose] μ) (fun v μ' => ∃ r, v = .ref r ∧ μ.length ≤ r ∧ worldI r (.int F) (.tup (ss.map stD)) (.tup (ms.map mvD)) μ' ∧ Kb μ μ') X0
end Lw
/-! W16: `_law_so` of equal data. -/
namespace Lw
open PySem Mi

def SoEq (k : Nat) (Γ : Gam) : Prop := ∀ (μ : Mem) (t : Mi.D), okD k t = true → OkX (Γ.fn "_law_so" [t, t] μ) (fun v μ' => v = .bl true ∧ μ' = μ) X0
theorem so_of {k : Nat} {Γ Γ' : Gam} (L : SoEq k Γ) (e : ∀ ds μ, Γ'.fn "_law_so" ds μ = runD Γ ⟨2, 3, b__law_so⟩ ds μ) : SoEq (k + 1) Γ' := fun μ t ok => by
  rw [e, run_ans _ _ _ _ rfl]
  refine okx_of fun P hP => ?_
  cases t with
  | non => simp [b__law_so]; exact hP _ _ ⟨rfl, rfl⟩
  | bl b =>
    have q : cmpD .eq (.bl b) (.bl b) μ = some true := by cases b <;> rfl
    simp [b__law_so, isTys, isTy, q]; exact hP _ _ ⟨rfl, rfl⟩
  | int i =>
    simp [b__law_so, isTys, isTy]; exact hP _ _ ⟨rfl, rfl⟩
  | str x =>
    have q : cmpD .eq (.str x) (.str x) μ = some true := by simp [cmpD]
    simp [b__law_so, isTys, isTy, q]; exact hP _ _ ⟨rfl, rfl⟩
  | ref n => simp [okD] at ok
  | tup ts =>
    simp only [okD, Bool.and_eq_true, decide_eq_true_eq] at ok
    have i3 : isTys (.tup ts) μ [.tuple] = some true := rfl
    simp [b__law_so, i3, biD, rng_w (show ts.length ≤ 1000000 by omega), -Bool.exists_bool]
    refine OS.loop (fun j ρ μ' => μ = μ' ∧ ∃ a, ρ = [some (.tup ts), some (.tup ts), a]) ⟨rfl, none, rfl⟩ ?_ ?_
    · intro j d ρ μ' hd ⟨hμ, a, hρ⟩
      subst hμ; subst hρ
      obtain ⟨hj, hd⟩ := rng_get hd
      subst hd
      refine ⟨rfl, _, rfl, fun K hK => ?_⟩
      have hx : ts[j]? = some ts[j] := List.getElem?_eq_getElem hj
      have ex : atD ts (j : Int) = some ts[j] := at_nat hx
      simp [fBody, l1__law_so, ex, -Bool.exists_bool]
      refine (L μ ts[j] (okDs_get ok.2 hx)).imp fun v μ2 ⟨e1, e2⟩ => ?_
      subst e1; subst e2
      simp [-Bool.exists_bool]
      exact hK _ _ ⟨rfl, _, rfl⟩
    · intro ρ μ' ⟨hμ, a, hρ⟩
      subst hμ; subst hρ
      exact ⟨rfl, hP _ _ ⟨rfl, rfl⟩⟩
theorem so_eq (k n : Nat) : SoEq k (G (n + k)) := by
  induction k with
  | zero => intro μ t ok; simp [okD] at ok
  | succ k ih => exact so_of ih (f__law_so (n + k))
end Lw
/-! W20: where tasks end: the least ends, in plain words. -/
namespace Lw
open PySem Mi

/-- steps done one behind the other; opn t s: the steps of the methods of t that may be taken in s -/
inductive Fol (opn : Nat → Nat → List (List Step)) (mv : Nat → Nat → Option Nat) : List Step → Nat → Nat → Prop where
  | nil {s : Nat} : Fol opn mv [] s s
  | deed {d s s' e : Nat} {r : List Step} (h : mv s d = some s') (g : Fol opn mv r s' e) : Fol opn mv ((true, d) :: r) s e
  | task {t s s' e : Nat} {r st : List Step} (h : st ∈ opn t s) (f : Fol opn mv st s s') (g : Fol opn mv r s' e) : Fol opn mv ((false, t) :: r) s e
def End (opn : Nat → Nat → List (List Step)) (mv : Nat → Nat → Option Nat) (t s e : Nat) : Prop := ∃ st ∈ opn t s, Fol opn mv st s e
/-- steps done by what is known of the tasks -/
def FolK (K : Nat → Nat → Nat → Prop) (mv : Nat → Nat → Option Nat) : List Step → Nat → Nat → Prop
  | [], s, e => s = e
  | (true, d) :: r, s, e => ∃ s', mv s d = some s' ∧ FolK K mv r s' e
  | (false, t) :: r, s, e => ∃ s', K t s s' ∧ FolK K mv r s' e
theorem folK_mono {K K' : Nat → Nat → Nat → Prop} {mv : Nat → Nat → Option Nat} (h : ∀ t s e, K t s e → K' t s e) : ∀ {st : List Step} {s e : Nat}, FolK K mv st s e → FolK K' mv st s e
  | [], _, _, f => f
  | (true, d) :: r, s, e, ⟨s', h1, h2⟩ => ⟨s', h1, folK_mono h h2⟩
  | (false, t) :: r, s, e, ⟨s', h1, h2⟩ => ⟨s', h _ _ _ h1, folK_mono h h2⟩
section
variable {opn : Nat → Nat → List (List Step)} {mv : Nat → Nat → Option Nat} {K : Nat → Nat → Nat → Prop}
theorem folK_sound (h : ∀ t s e, K t s e → End opn mv t s e) : ∀ {st : List Step} {s e : Nat}, FolK K mv st s e → Fol opn mv st s e
  | [], _, _, f => by cases f; exact .nil
  | (true, d) :: r, s, e, ⟨s', h1, h2⟩ => .deed h1 (folK_sound h h2)
  | (false, t) :: r, s, e, ⟨s', h1, h2⟩ => by
    obtain ⟨st, h3, h4⟩ := h _ _ _ h1
    exact .task h3 h4 (folK_sound h h2)
theorem end_of_folK (h : ∀ t s e, K t s e → End opn mv t s e) {t s e : Nat} {st : List Step} (hs : st ∈ opn t s) (f : FolK K mv st s e) : End opn mv t s e := ⟨st, hs, folK_sound h f⟩
/-- what is closed has all ends -/
theorem fol_complete {T : Nat} (Q : Nat → Prop) (hc : ∀ t s, t < T → Q s → ∀ st ∈ opn t s, ∀ e, FolK K mv st s e → K t s e)
    (ho : ∀ t s, t < T → ∀ st ∈ opn t s, ∀ x ∈ st, x.1 = false → x.2 < T) (hm : ∀ s d s', Q s → mv s d = some s' → Q s') {st : List Step} {s e : Nat} (f : Fol opn mv st s e) : Q s → (∀ x ∈ st, x.1 = false → x.2 < T) → FolK K mv st s e ∧ Q e := by
  induction f with
  | nil => exact fun h _ => ⟨rfl, h⟩
  | deed h g ih =>
    intro q hs
    obtain ⟨h1, h2⟩ := ih (hm _ _ _ q h) fun x hx => hs x (List.mem_cons_of_mem _ hx)
    exact ⟨⟨_, h, h1⟩, h2⟩
  | task h f g ih1 ih2 =>
    intro q hs
    have ht := hs _ List.mem_cons_self rfl
    obtain ⟨h1, h2⟩ := ih1 q (ho _ _ ht _ h)
    obtain ⟨h3, h4⟩ := ih2 h2 fun x hx => hs x (List.mem_cons_of_mem _ hx)
    exact ⟨⟨_, hc _ _ ht q _ h _ h1, h3⟩, h4⟩
theorem end_complete {T : Nat} (Q : Nat → Prop) (hc : ∀ t s, t < T → Q s → ∀ st ∈ opn t s, ∀ e, FolK K mv st s e → K t s e)
    (ho : ∀ t s, t < T → ∀ st ∈ opn t s, ∀ x ∈ st, x.1 = false → x.2 < T) (hm : ∀ s d s', Q s → mv s d = some s' → Q s') {t s e : Nat} (ht : t < T) (q : Q s) (h : End opn mv t s e) : K t s e := by
  obtain ⟨st, h1, h2⟩ := h
  exact hc _ _ ht q _ h1 _ (fol_complete Q hc ho hm h2 q (ho _ _ ht _ h1)).1
end
/-! ### books and worlds -/
/-- a condition holds -/
def hold (c : List (Nat × Bool)) (fs : List Bool) : Bool := c.all fun p => fs.getD p.1 false == p.2
def opnW (ts : List (List Meth)) (ss : List (List Bool)) (t s : Nat) : List (List Step) := ((ts.getD t []).filter fun m => hold m.1 (ss.getD s [])).map (·.2)
def mvW (ms : List (List (Option Nat))) (s d : Nat) : Option Nat := (ms.getD s []).getD d none
theorem opnW_task {F D T M : Nat} {ts : List (List Meth)} (ok : BookOk F D T M ts) {ss : List (List Bool)} {t s : Nat} {st : List Step} (h : st ∈ opnW ts ss t s) : ∀ x ∈ st, x.2 < if x.1 then D else T := by
  unfold opnW at h
  obtain ⟨m, h1, e⟩ := List.mem_map.mp h
  subst e
  have h2 := (List.mem_filter.mp h1).1
  by_cases ht : t < ts.length
  · have hm : ts[t] ∈ ts := List.getElem_mem ht
    have e : ts.getD t [] = ts[t] := by simp [List.getD, ht]
    rw [e] at h2
    exact ((ok.m _ hm).2 m h2).s
  · have e : ts.getD t [] = [] := by simp [List.getD, List.getElem?_eq_none (by omega : ts.length ≤ t)]
    rw [e] at h2
    cases h2
/-! ### counting what is known -/
def tot : Nat → Nat → (Nat → Nat → List Nat) → Nat
  | 0, _, _ => 0
  | T + 1, C, f => tot T C f + ((List.range C).map fun s => (f T s).length).sum
theorem sum_le {l : List Nat} {g : Nat → Nat} {B : Nat} (h : ∀ x ∈ l, g x ≤ B) : (l.map g).sum ≤ l.length * B := by
  induction l with
  | nil => simp
  | cons a l ih =>
    simp only [List.map_cons, List.sum_cons, List.length_cons]
    have h1 := h a List.mem_cons_self
    have h2 := ih fun x hx => h x (List.mem_cons_of_mem _ hx)
    rw [Nat.succ_mul]
    omega
theorem tot_le {f : Nat → Nat → List Nat} {C B : Nat} : ∀ {T : Nat}, (∀ t s, t < T → s < C → (f t s).length ≤ B) → tot T C f ≤ T * C * B
  | 0, _ => by simp [tot]
  | T + 1, h => by
    have h1 := tot_le (f := f) (C := C) (B := B) (T := T) fun t s ht hs => h t s (by omega) hs
    have h2 : ((List.range C).map fun s => (f T s).length).sum ≤ (List.range C).length * B := sum_le fun x hx => h T x (by omega) (List.mem_range.mp hx)
    rw [List.length_range] at h2
    have e : (T + 1) * C * B = T * C * B + C * B := by rw [Nat.succ_mul, Nat.add_mul]
    rw [e, tot]
    omega
/-- one more end of a task in a state -/
def addE (f : Nat → Nat → List Nat) (t s e : Nat) : Nat → Nat → List Nat := fun t' s' => if t' = t ∧ s' = s then f t s ++ [e] else f t' s'
theorem sum_upd {l : List Nat} {g g' : Nat → Nat} {a : Nat} (h : ∀ x ∈ l, x ≠ a → g' x = g x) (ha : g' a = g a + 1) (nd : l.Nodup) (hm : a ∈ l) : (l.map g').sum = (l.map g).sum + 1 := by
  induction l with
  | nil => cases hm
  | cons b l ih =>
    rw [List.nodup_cons] at nd
    simp only [List.map_cons, List.sum_cons]
    by_cases e : b = a
    · subst e
      have : l.map g' = l.map g := List.map_congr_left fun x hx => h x (List.mem_cons_of_mem _ hx) fun z => nd.1 (z ▸ hx)
      rw [this, ha]; omega
    · have hm' : a ∈ l := (List.mem_cons.mp hm).elim (fun z => absurd z.symm e) id
      rw [ih (fun x hx => h x (List.mem_cons_of_mem _ hx)) nd.2 hm', h b List.mem_cons_self e]; omega
theorem tot_add {f : Nat → Nat → List Nat} {C t s e : Nat} (hs : s < C) : ∀ {T : Nat}, t < T → tot T C (addE f t s e) = tot T C f + 1
  | 0, h => by omega
  | T + 1, h => by
    rw [tot, tot]
    by_cases ht : t = T
    · subst ht
      have h1 : ∀ U, U ≤ t → tot U C (addE f t s e) = tot U C f := fun U => by
        induction U with
        | zero => intro _; rfl
        | succ U ih =>
          intro hU
          rw [tot, tot, ih (by omega)]
          congr 2
          refine List.map_congr_left fun x _ => ?_
          unfold addE
          rw [if_neg (by omega)]
      rw [h1 t (Nat.le_refl _)]
      have h2 : ((List.range C).map fun s' => (addE f t s e t s').length).sum = ((List.range C).map fun s' => (f t s').length).sum + 1 := by
        refine sum_upd (a := s) (fun x _ hx => ?_) ?_ List.nodup_range (List.mem_range.mpr hs)
        · unfold addE; rw [if_neg (by omega)]
        · unfold addE; simp
      rw [h2]; omega
    · rw [tot_add hs (by omega)]
      have : ((List.range C).map fun s' => (addE f t s e T s').length) = ((List.range C).map fun s' => (f T s').length) := List.map_congr_left fun x _ => by
        unfold addE
        rw [if_neg (by omega)]
      rw [this]; omega
end Lw
/-! W21: `_law_true`, `_law_open`, `_law_follow`. -/
namespace Lw
open PySem Mi

theorem any_ints (A : List Nat) (e : Nat) : ((intsD A).any fun z => eqD z (.int (e : Nat))) = decide (e ∈ A) := by
  induction A with
  | nil => rfl
  | cons a A ih =>
    simp only [intsD, List.map_cons, List.any_cons] at ih ⊢
    rw [ih]
    by_cases h : a = e
    · subst h; simp [eqD]
    · have h2 : ¬ e = a := fun z => h z.symm
      have h3 : ¬ ((a : Int) = e) := by omega
      simp [eqD, h3, h2]
theorem in_lst {μ : Mem} {m : Nat} {A : List Nat} (h : μ[m]? = some (.lst (intsD A))) (e : Nat) : inD (.int (e : Nat)) (.ref m) μ = some (decide (e ∈ A)) := by
  have hp : (pureD lev (.int (e : Nat)) && pureDs lev (intsD A)) = true := by
    rw [Bool.and_eq_true]
    exact ⟨rfl, pure_ints A 59⟩
  simp only [inD, h, hp, if_true, any_ints]
theorem notIn_lst {μ : Mem} {m : Nat} {A : List Nat} (h : μ[m]? = some (.lst (intsD A))) (e : Nat) : cmpD .notIn (.int (e : Nat)) (.ref m) μ = some (!decide (e ∈ A)) := by
  rw [c_notIn, in_lst h]; rfl
theorem getD_some {α : Type} {l : List α} {i : Nat} {d : α} (h : i < l.length) : l.getD i d = l[i] := by simp [List.getD, h]
/-- those of l that are new, behind A -/
def addAll (A l : List Nat) : List Nat := l.foldl (fun A e => if e ∈ A then A else A ++ [e]) A
theorem addAll_snoc (A l : List Nat) (e : Nat) : addAll A (l ++ [e]) = if e ∈ addAll A l then addAll A l else addAll A l ++ [e] := by
  unfold addAll; rw [List.foldl_append]; rfl
theorem mem_addAll {l : List Nat} : ∀ {A : List Nat} {e : Nat}, e ∈ addAll A l ↔ e ∈ A ∨ e ∈ l := by
  induction l with
  | nil => intro A e; simp [addAll]
  | cons x l ih =>
    intro A e
    have : addAll A (x :: l) = addAll (if x ∈ A then A else A ++ [x]) l := rfl
    rw [this, ih]
    by_cases h : x ∈ A
    · rw [if_pos h]; simp only [List.mem_cons]
      constructor
      · rintro (h1 | h1)
        · exact .inl h1
        · exact .inr (.inr h1)
      · rintro (h1 | h1 | h1)
        · exact .inl h1
        · subst h1; exact .inl h
        · exact .inr h1
    · rw [if_neg h]
      simp only [List.mem_append, List.mem_cons, List.not_mem_nil, or_false]
      exact or_assoc
theorem addAll_nodup {l : List Nat} : ∀ {A : List Nat}, A.Nodup → (addAll A l).Nodup := by
  induction l with
  | nil => intro A h; exact h
  | cons x l ih =>
    intro A h
    have : addAll A (x :: l) = addAll (if x ∈ A then A else A ++ [x]) l := rfl
    rw [this]
    refine ih ?_
    by_cases hx : x ∈ A
    · rw [if_pos hx]; exact h
    · rw [if_neg hx, List.nodup_append]
      exact ⟨h, by simp, fun a ha b hb e => by simp at hb; subst hb; subst e; exact hx ha⟩
theorem addAll_lt {A l : List Nat} {C : Nat} (h1 : ∀ e ∈ A, e < C) (h2 : ∀ e ∈ l, e < C) : ∀ e ∈ addAll A l, e < C := fun e he => (mem_addAll.mp he).elim (h1 e) (h2 e)
theorem nodup_le {S : List Nat} {T : Nat} (nd : S.Nodup) (h : ∀ y ∈ S, y < T) : S.length ≤ T := by
  have := List.Nodup.length_le_of_subset nd (l₂ := List.range T) fun y hy => List.mem_range.mpr (h y hy)
  simpa using this
/-- where a step leads from a state -/
def aims (f : Nat → Nat → List Nat) (mv : Nat → Nat → Option Nat) (x : Step) (s : Nat) : List Nat := if x.1 then (mv s x.2).toList else f x.2 s
def after (f : Nat → Nat → List Nat) (mv : Nat → Nat → Option Nat) (x : Step) (H : List Nat) : List Nat := H.foldl (fun A s => addAll A (aims f mv x s)) []
def follow (f : Nat → Nat → List Nat) (mv : Nat → Nat → Option Nat) (st : List Step) (H : List Nat) : List Nat := st.foldl (fun H x => after f mv x H) H
theorem mem_after {f : Nat → Nat → List Nat} {mv : Nat → Nat → Option Nat} {x : Step} {H : List Nat} {e : Nat} : e ∈ after f mv x H ↔ ∃ s ∈ H, e ∈ aims f mv x s := by
  have key : ∀ (H A : List Nat), e ∈ H.foldl (fun A s => addAll A (aims f mv x s)) A ↔ e ∈ A ∨ ∃ s ∈ H, e ∈ aims f mv x s := fun H => by
    induction H with
    | nil => intro A; simp
    | cons s H ih =>
      intro A
      rw [List.foldl_cons, ih, mem_addAll]
      simp only [List.mem_cons, exists_eq_or_imp, or_assoc]
  unfold after
  rw [key]
  simp
theorem mem_follow {f : Nat → Nat → List Nat} {mv : Nat → Nat → Option Nat} {e : Nat} : ∀ {st : List Step} {H : List Nat}, e ∈ follow f mv st H ↔ ∃ s ∈ H, FolK (fun t s e => e ∈ f t s) mv st s e
  | [], H => by simp [follow, FolK]
  | (q, n) :: r, H => by
    have : follow f mv ((q, n) :: r) H = follow f mv r (after f mv (q, n) H) := rfl
    rw [this, mem_follow]
    constructor
    · rintro ⟨s, hs, g⟩
      obtain ⟨s0, h0, h1⟩ := mem_after.mp hs
      refine ⟨s0, h0, ?_⟩
      cases q with
      | true => simp [aims] at h1; exact ⟨s, h1, g⟩
      | false => simp [aims] at h1; exact ⟨s, h1, g⟩
    · rintro ⟨s0, h0, g⟩
      cases q with
      | true => obtain ⟨s, h1, g⟩ := g; exact ⟨s, mem_after.mpr ⟨s0, h0, by simp [aims, h1]⟩, g⟩
      | false => obtain ⟨s, h1, g⟩ := g; exact ⟨s, mem_after.mpr ⟨s0, h0, by simpa [aims] using h1⟩, g⟩
theorem after_nodup {f : Nat → Nat → List Nat} {mv : Nat → Nat → Option Nat} {x : Step} {H : List Nat} : (after f mv x H).Nodup := by
  have key : ∀ (H A : List Nat), A.Nodup → (H.foldl (fun A s => addAll A (aims f mv x s)) A).Nodup := fun H => by
    induction H with
    | nil => exact fun A h => h
    | cons s H ih => exact fun A h => ih _ (addAll_nodup h)
  exact key H [] List.nodup_nil
/-- what is known: no end twice, all of them states -/
structure FOk (C : Nat) (f : Nat → Nat → List Nat) : Prop where
  nd : ∀ t s, (f t s).Nodup
  lt : ∀ t s, ∀ e ∈ f t s, e < C
structure MvOk (C : Nat) (mv : Nat → Nat → Option Nat) : Prop where
  lt : ∀ s d e, mv s d = some e → e < C
theorem FOk.len {C : Nat} {f : Nat → Nat → List Nat} (h : FOk C f) (t s : Nat) : (f t s).length ≤ C := nodup_le (h.nd t s) (h.lt t s)
theorem aims_lt {C : Nat} {f : Nat → Nat → List Nat} {mv : Nat → Nat → Option Nat} (h : FOk C f) (hm : MvOk C mv) (x : Step) (s : Nat) : ∀ e ∈ aims f mv x s, e < C := fun e he => by
  unfold aims at he
  split at he
  · exact hm.lt s x.2 e (by simpa using he)
  · exact h.lt _ _ e he
theorem after_lt {C : Nat} {f : Nat → Nat → List Nat} {mv : Nat → Nat → Option Nat} (h : FOk C f) (hm : MvOk C mv) (x : Step) (H : List Nat) : ∀ e ∈ after f mv x H, e < C := fun e he => by
  obtain ⟨s, _, h1⟩ := mem_after.mp he
  exact aims_lt h hm x s e h1
theorem follow_lt {C : Nat} {f : Nat → Nat → List Nat} {mv : Nat → Nat → Option Nat} (h : FOk C f) (hm : MvOk C mv) : ∀ {st : List Step} {H : List Nat}, (∀ e ∈ H, e < C) → ∀ e ∈ follow f mv st H, e < C
  | [], H, hH => hH
  | x :: r, H, _ => follow_lt h hm (st := r) (after_lt h hm x H)
theorem follow_len {C : Nat} {f : Nat → Nat → List Nat} {mv : Nat → Nat → Option Nat} (h : FOk C f) (hm : MvOk C mv) {B : Nat} (hB : C ≤ B) : ∀ {st : List Step} {H : List Nat}, H.length ≤ B → (follow f mv st H).length ≤ B
  | [], H, hH => hH
  | x :: r, H, _ => follow_len h hm hB (st := r) (Nat.le_trans (nodup_le after_nodup (after_lt h hm x H)) hB)
/-! ### what is known, in the memory -/
def keyTS (t s : Nat) : Mi.D := .tup [.int (t : Nat), .int (s : Nat)]
def keysN (kn C n : Nat) : List (Mi.D × Mi.D) := (List.range n).map fun i => (keyTS (i / C) (i % C), .ref (kn + 1 + i))
structure KN (kn T C : Nat) (lk : Bool) (f : Nat → Nat → List Nat) (μ : Mem) : Prop where
  dc : μ[kn]? = some (.dct lk (keysN kn C (T * C)))
  cl : ∀ i, i < T * C → μ[kn + 1 + i]? = some (.lst (intsD (f (i / C) (i % C))))
theorem KN.kb {kn T C : Nat} {lk : Bool} {f : Nat → Nat → List Nat} {μ μ' : Mem} (h : KN kn T C lk f μ) (k : Kb μ μ') : KN kn T C lk f μ' := ⟨k _ _ h.dc, fun i hi => k _ _ (h.cl i hi)⟩
theorem key_inj {t s t' s' : Nat} (h : keyTS t s = keyTS t' s') : t = t' ∧ s = s' := by
  simp [keyTS] at h
  omega
theorem divmod {C t s : Nat} (hs : s < C) : (t * C + s) / C = t ∧ (t * C + s) % C = s := by
  have hC : 0 < C := by omega
  constructor
  · rw [Nat.mul_comm, Nat.mul_add_div hC, Nat.div_eq_of_lt hs]; omega
  · rw [Nat.mul_comm, Nat.mul_add_mod, Nat.mod_eq_of_lt hs]
theorem ix_lt {T C t s : Nat} (ht : t < T) (hs : s < C) : t * C + s < T * C := by
  have : (t + 1) * C ≤ T * C := Nat.mul_le_mul_right C ht
  rw [Nat.succ_mul] at this
  omega
theorem find_map {g : Nat → Mi.D} {v : Nat → Mi.D} (inj : ∀ i j, g i = g j → i = j) : ∀ {l : List Nat} {n : Nat}, n ∈ l → findK (l.map fun i => (g i, v i)) (g n) = some (v n)
  | [], n, h => by cases h
  | a :: l, n, h => by
    rw [List.map_cons, findK]
    by_cases e : g a = g n
    · rw [if_pos e, inj _ _ e]
    · rw [if_neg e]
      refine find_map inj ?_
      rcases List.mem_cons.mp h with h | h
      · subst h; exact absurd rfl e
      · exact h
theorem keysN_find {kn C n t s : Nat} (hs : s < C) (h : t * C + s < n) : findK (keysN kn C n) (keyTS t s) = some (.ref (kn + 1 + (t * C + s))) := by
  have hC : 0 < C := by omega
  have q := find_map (g := fun i => keyTS (i / C) (i % C)) (v := fun i => .ref (kn + 1 + i)) (fun i j e => by
    obtain ⟨h1, h2⟩ := key_inj e
    rw [← Nat.div_add_mod i C, ← Nat.div_add_mod j C, h1, h2]) (l := List.range n) (n := t * C + s) (List.mem_range.mpr h)
  obtain ⟨h1, h2⟩ := divmod (t := t) hs
  rw [h1, h2] at q
  exact q
theorem KN.at {kn T C : Nat} {lk : Bool} {f : Nat → Nat → List Nat} {μ : Mem} (h : KN kn T C lk f μ) {t s : Nat} (ht : t < T) (hs : s < C) : μ[kn + 1 + (t * C + s)]? = some (.lst (intsD (f t s))) := by
  have q := h.cl (t * C + s) (ix_lt ht hs)
  obtain ⟨h1, h2⟩ := divmod (t := t) hs
  rwa [h1, h2] at q
theorem KN.sub {kn T C : Nat} {lk : Bool} {f : Nat → Nat → List Nat} {μ : Mem} (h : KN kn T C lk f μ) {t s : Nat} (ht : t < T) (hs : s < C) : subD (.ref kn) (.tup [.int (t : Nat), .int (s : Nat)]) μ = some (.ref (kn + 1 + (t * C + s))) := by
  have hk : isKeyT (.tup [.int (t : Nat), .int (s : Nat)]) = true := rfl
  simp only [subD, h.dc, hk, if_true]
  exact keysN_find hs (ix_lt ht hs)
/-! ### the defs -/
def TrueW (Γ : Gam) : Prop := ∀ (μ : Mem) (c : List (Nat × Bool)) (fs : List Bool), (∀ p ∈ c, p.1 < fs.length) → OkX (Γ.fn "_law_true" [.tup (pairsD c), stD fs] μ) (fun v μ' => v = .bl (hold c fs) ∧ μ' = μ) X0
theorem true_of {Γ Γ' : Gam} (e : ∀ ds μ, Γ'.fn "_law_true" ds μ = runD Γ ⟨2, 3, b__law_true⟩ ds μ) : TrueW Γ' := fun μ c fs hc => by
  rw [e, run_ans _ _ _ _ rfl]
  refine okx_of fun P hP => ?_
  simp [b__law_true, -Bool.exists_bool]
  refine OS.loop (fun i ρ μ' => ∃ a2, ρ = [some (.tup (pairsD c)), some (stD fs), a2] ∧ μ' = μ ∧ hold c fs = hold (c.drop i) fs) ⟨none, rfl, rfl, rfl⟩ ?_ ?_
  · intro j d ρ μ' hd ⟨a2, hρ, hμ, hl⟩
    subst hρ; subst hμ
    rw [List.getElem?_map] at hd
    obtain ⟨p, hp, e⟩ := Option.map_eq_some_iff.mp hd
    subst e
    refine ⟨rfl, _, rfl, fun K hK => ?_⟩
    have hlt := hc p (List.mem_of_getElem? hp)
    have ea : atD (fs.map Mi.D.bl) ((p.1 : Nat) : Int) = some (.bl (fs.getD p.1 false)) := at_nat (by rw [List.getElem?_map, List.getElem?_eq_getElem hlt, getD_some hlt]; rfl)
    rw [drop_get hp] at hl
    have hl2 : hold c fs = ((fs.getD p.1 false == p.2) && hold (c.drop (j + 1)) fs) := by rw [hl]; rfl
    simp [fBody, l1__law_true, subD, stD, at0, at1, ea, neB, -Bool.exists_bool]
    by_cases hh : fs.getD p.1 false = p.2
    · have hb : (fs.getD p.1 false == p.2) = true := by rw [hh, beq_self_eq_true]
      have hh' := hh
      simp only [List.getD] at hh'
      simp [hh']
      exact hK _ _ ⟨_, rfl, rfl, by rw [hl2, hb, Bool.true_and]⟩
    · have hb : (fs.getD p.1 false == p.2) = false := by simpa using hh
      have hh' := hh
      simp only [List.getD] at hh'
      simp [hh']
      exact hP _ _ ⟨by rw [hl2, hb, Bool.false_and], rfl⟩
  · intro ρ μ' ⟨a2, hρ, hμ, hl⟩
    subst hρ; subst hμ
    refine ⟨rfl, hP _ _ ⟨?_, rfl⟩⟩
    rw [hl]
    simp [hold]
theorem true_w (n : Nat) : TrueW (G (n + 1)) := true_of (f__law_true n)
def openL (ts : List (List Meth)) (ss : List (List Bool)) (t s : Nat) : List Nat := (List.range (ts.getD t []).length).filter fun k => hold ((ts.getD t []).getD k ([], [])).1 (ss.getD s [])
def OpenW (Γ : Gam) : Prop := ∀ (μ : Mem) (F D T M C t s : Nat) (ts : List (List Meth)) (ss : List (List Bool)) (ms : List (List (Option Nat))), BookOk F D T M ts → M ≤ 1000 → WOk F D C ss ms → t < T → s < C →
  OkX (Γ.fn "_law_open" [bookD F D ts, wD F ss ms, .int t, .int s] μ) (fun v μ' => ∃ r, v = .ref r ∧ μ.length ≤ r ∧ μ'[r]? = some (.lst (intsD (openL ts ss t s))) ∧ Kb μ μ') X0
theorem psB_lt {F : Nat} {ps : List (Nat × Bool)} (h : PsB F ps) : ∀ p ∈ ps, p.1 < F := h.2
theorem open_of {Γ Γ' : Gam} (T1 : TrueW Γ) (e : ∀ ds μ, Γ'.fn "_law_open" ds μ = runD Γ ⟨4, 6, b__law_open⟩ ds μ) : OpenW Γ' := fun μ F D T M C t s ts ss ms ok hM wk ht hs => by
  rw [e, run_ans _ _ _ _ rfl]
  refine okx_of fun P hP => ?_
  have htl : t < ts.length := by rw [ok.len]; exact ht
  have hsl : s < ss.length := by rw [wk.sl]; exact hs
  have et : atD (tasksD ts) ((t : Nat) : Int) = some (.tup (ts[t].map methD)) := at_nat (by simp [tasksD, htl])
  have es : atD (ss.map stD) ((s : Nat) : Int) = some (stD ss[s]) := at_nat (by simp [hsl])
  have gt : ts.getD t [] = ts[t] := getD_some htl
  have gs : ss.getD s [] = ss[s] := getD_some hsl
  have hml : ts[t].length ≤ 1000 := Nat.le_trans (ok.m _ (List.getElem_mem htl)).1 hM
  have hm0 : (μ ++ [Cell.lst []])[μ.length]? = some (.lst []) := by simp
  have kb0 : Kb μ (μ ++ [Cell.lst []]) := (Kb.rfl' μ).app _
  simp [b__law_open, bookD, wD, subD, at1, at2, et, biD, lenD, limV, rng_w (show ts[t].length ≤ 1000000 by omega), -Bool.exists_bool]
  generalize hm : μ.length = m at *
  generalize μ ++ [Cell.lst []] = μ1 at *
  refine OS.loop (fun i ρ μ' => ∃ a5, ρ = [some (.tup [.int F, .int D, .tup (tasksD ts)]), some (.tup [.int F, .tup (ss.map stD), .tup (ms.map mvD)]), some (.int t), some (.int s), some (.ref m), a5] ∧ Kb μ μ' ∧ μ'[m]? = some (.lst (intsD ((List.range i).filter fun k => hold (ts[t].getD k ([], [])).1 ss[s])))) ⟨none, rfl, kb0, hm0⟩ ?_ ?_
  · intro j d ρ μ' hd ⟨a5, hρ, kb, hc⟩
    obtain ⟨hj, ed⟩ := rng_get hd
    subst ed; subst hρ
    refine ⟨rfl, _, rfl, fun K hK => ?_⟩
    have gj : ts[t].getD j ([], []) = ts[t][j] := getD_some hj
    have ej : atD (ts[t].map methD) ((j : Nat) : Int) = some (methD ts[t][j]) := at_nat (by simp [hj])
    have mok := (ok.m _ (List.getElem_mem htl)).2 _ (List.getElem_mem hj)
    have hlen : ∀ p ∈ ts[t][j].1, p.1 < ss[s].length := fun p hp => by
      rw [wk.s _ (List.getElem_mem hsl)]
      exact psB_lt mok.c p hp
    simp [fBody, l1__law_open, subD, at0, at1, at2, et, es, ej, methD, isL hc, -Bool.exists_bool]
    refine (T1 μ' ts[t][j].1 ss[s] hlen).imp fun v μ2 ⟨h1, h2⟩ => ?_
    subst h1; subst h2
    have hnl : (intsD ((List.range j).filter fun k => hold (ts[t].getD k ([], [])).1 ss[s])).length < lim := by
      have := List.length_filter_le (fun k => hold (ts[t].getD k ([], [])).1 ss[s]) (List.range j)
      rw [limV]; simp at this ⊢; omega
    have er : (List.range (j + 1)).filter (fun k => hold (ts[t].getD k ([], [])).1 ss[s]) = (List.range j).filter (fun k => hold (ts[t].getD k ([], [])).1 ss[s]) ++ if hold ts[t][j].1 ss[s] then [j] else [] := by
      rw [List.range_succ, List.filter_append, List.filter_cons, gj]; rfl
    cases hh : hold ts[t][j].1 ss[s] with
    | true =>
      simp [isL hc]
      refine app_w hc hnl (hK _ _ ⟨_, rfl, kb.put (show μ.length ≤ m by omega) _, ?_⟩)
      rw [set_at hc, er, hh]; simp
    | false =>
      simp
      exact hK _ _ ⟨_, rfl, kb, by rw [er, hh]; simpa using hc⟩
  · intro ρ μ' ⟨a5, hρ, kb, hc⟩
    subst hρ
    refine ⟨rfl, ?_⟩
    simp
    refine hP _ _ ⟨m, rfl, by omega, ?_, kb⟩
    rw [rng_len] at hc
    unfold openL
    rw [gt, gs]
    exact hc
theorem open_w (n : Nat) : OpenW (G (n + 2)) := open_of (true_w n) (f__law_open (n + 1))
end Lw
/-! W22: `_law_follow`. -/
namespace Lw
open PySem Mi

theorem Kb.kp {m : Nat} {a b c : Mem} (h : Kb a b) (g : Kp m b c) (hm : a.length ≤ m) : Kb a c := fun k x hx => by
  have hl := (List.getElem?_eq_some_iff.mp hx).1
  exact g.2 k x (by omega) (h k x hx)
theorem Kb.toKp {m : Nat} {a b : Mem} (h : Kb a b) : Kp m a b := ⟨h.len, fun k c _ hx => h k c hx⟩
theorem its_lstI {μ : Mem} {m : Nat} {A : List Nat} (h : μ[m]? = some (.lst (intsD A))) : itsOf (.ref m) μ = some ⟨intsD A, [(m, .lst (intsD A))], false⟩ := its_lst h
theorem chk_lst {μ : Mem} {m : Nat} {ds : List Mi.D} (h : μ[m]? = some (.lst ds)) : chk [(m, .lst ds)] μ = true := by simp [chk, h]
section
variable {Γ : Gam} {K : Env' → Mem → Prop} {R : Mi.D → Mem → Prop} {B C : Env' → Mem → Prop} {Y : Str → List (Str × Mi.D) → Env' → Mem → Prop}
abbrev envF (w kn q st h x m s a e : Option Mi.D) : Env' := [w, kn, q, st, h, x, m, s, a, e]
/-- for aim in aims: if aim not in after: after.append(aim) -/
theorem follow_l3 {w kn q st h x s ar e : Option Mi.D} {m : Nat} {A L : List Nat} {own : List (Nat × Cell)} {μ : Mem} (hm : μ[m]? = some (.lst (intsD A))) (hb : A.length + L.length ≤ 1000000)
    (ho : ∀ μ', Kp m μ μ' → chk own μ' = true) (hK : ∀ e' μ', μ'[m]? = some (.lst (intsD (addAll A L))) → Kp m μ μ' → K (envF w kn q st h x (some (.ref m)) s ar e') μ') :
    OS (forL (fBody Γ l3__law_follow) (.nm 9) own (intsD L) (envF w kn q st h x (some (.ref m)) s ar e) μ) K R B C Y := by
  refine OS.loop (fun i ρ μ' => ∃ e', ρ = envF w kn q st h x (some (.ref m)) s ar e' ∧ μ'[m]? = some (.lst (intsD (addAll A (L.take i)))) ∧ Kp m μ μ' ∧ (addAll A (L.take i)).length ≤ A.length + i) ⟨e, rfl, by simpa [addAll] using hm, Kp.rfl' m μ, by simp [addAll]⟩ ?_ ?_
  · intro j d ρ μ' hd ⟨e', hρ, hc, kp, hl⟩
    subst hρ
    rw [List.getElem?_map] at hd
    obtain ⟨v, hv, ed⟩ := Option.map_eq_some_iff.mp hd
    subst ed
    have hj := (List.getElem?_eq_some_iff.mp hv).1
    refine ⟨ho _ kp, _, rfl, fun K' hK' => ?_⟩
    have et := addAll_snoc A (L.take j) v
    rw [← take_snoc hv] at et
    simp [fBody, l3__law_follow, notIn_lst hc, isL hc, -Bool.exists_bool]
    by_cases hin : v ∈ addAll A (L.take j)
    · simp [hin]
      rw [if_pos hin] at et
      exact hK' _ _ ⟨_, rfl, by rw [et]; exact hc, kp, by rw [et]; omega⟩
    · simp [hin]
      rw [if_neg hin] at et
      refine app_w hc (by rw [limV]; simp; omega) (hK' _ _ ⟨_, rfl, ?_, kp.trans (Kp.tk _), by rw [et]; simp; omega⟩)
      rw [set_at hc, et]; simp
  · intro ρ μ' ⟨e', hρ, hc, kp, hl⟩
    subst hρ
    rw [List.length_map, List.take_length] at hc
    exact ⟨ho _ kp, hK _ _ hc kp⟩
end
structure WCtx (F D T C kn : Nat) (lk : Bool) (f : Nat → Nat → List Nat) (ss : List (List Bool)) (ms : List (List (Option Nat))) (μ : Mem) : Prop where
  w : WOk F D C ss ms
  c : C ≤ 1000
  fo : FOk C f
  kn : KN kn T C lk f μ
theorem WCtx.kb {F D T C kn : Nat} {lk : Bool} {f : Nat → Nat → List Nat} {ss : List (List Bool)} {ms : List (List (Option Nat))} {μ μ' : Mem} (h : WCtx F D T C kn lk f ss ms μ) (k : Kb μ μ') : WCtx F D T C kn lk f ss ms μ' := ⟨h.w, h.c, h.fo, h.kn.kb k⟩
theorem WOk.mv {F D C : Nat} {ss : List (List Bool)} {ms : List (List (Option Nat))} (h : WOk F D C ss ms) : MvOk C (mvW ms) := ⟨fun s d e he => by
  unfold mvW at he
  by_cases hs : s < ms.length
  · rw [getD_some hs] at he
    by_cases hd : d < ms[s].length
    · rw [getD_some hd] at he
      exact (h.m _ (List.getElem_mem hs)).2 _ (List.getElem_mem hd) e he
    · rw [List.getD, List.getElem?_eq_none (by omega)] at he; cases he
  · have : ms.getD s [] = [] := by rw [List.getD, List.getElem?_eq_none (by omega)]; rfl
    rw [this] at he; cases he⟩
def mvRow (ms : List (List (Option Nat))) (s : Nat) : List (Option Nat) := ms.getD s []
/-- a deed's move, read -/
theorem move_at {F D C : Nat} {ss : List (List Bool)} {ms : List (List (Option Nat))} (h : WOk F D C ss ms) {s d : Nat} (hs : s < C) (hd : d < D) : atD (ms.map mvD) ((s : Nat) : Int) = some (mvD (mvRow ms s)) ∧ atD ((mvRow ms s).map moveD) ((d : Nat) : Int) = some (moveD (mvW ms s d)) := by
  have hsl : s < ms.length := by rw [h.ml]; exact hs
  have hdl : d < ms[s].length := by rw [(h.m _ (List.getElem_mem hsl)).1]; exact hd
  refine ⟨at_nat (by rw [mvRow, List.getElem?_map, List.getElem?_eq_getElem hsl, getD_some hsl]; rfl), at_nat ?_⟩
  rw [mvRow, getD_some hsl, List.getElem?_map, List.getElem?_eq_getElem hdl]
  simp only [mvW, getD_some hsl, getD_some hdl]
  rfl
def FollowW (Γ : Gam) : Prop := ∀ (μ : Mem) (F D T C kn q : Nat) (lk : Bool) (f : Nat → Nat → List Nat) (ss : List (List Bool)) (ms : List (List (Option Nat))) (S : List Nat) (st : List Step), WCtx F D T C kn lk f ss ms μ → μ[q]? = some (.lst (intsD S)) → (∀ e ∈ S, e < C) → S.length ≤ 1000 → (∀ x ∈ st, x.2 < if x.1 then D else T) →
  OkX (Γ.fn "_law_follow" [wD F ss ms, .ref kn, .ref q, .tup (st.map stepD)] μ) (fun v μ' => ∃ r, v = .ref r ∧ μ.length ≤ r ∧ μ'[r]? = some (.lst (intsD (follow f (mvW ms) st S))) ∧ Kb μ μ') X0
section
variable {Γ : Gam} {K : Env' → Mem → Prop} {R : Mi.D → Mem → Prop} {B C' : Env' → Mem → Prop} {Y : Str → List (Str × Mi.D) → Env' → Mem → Prop}
/-- one state of here -/
theorem follow_l2 {F D T C kn m : Nat} {lk : Bool} {f : Nat → Nat → List Nat} {ss : List (List Bool)} {ms : List (List (Option Nat))} {μ : Mem} (cx : WCtx F D T C kn lk f ss ms μ) {q st h ar e : Option Mi.D} {x : Step} (hx : x.2 < if x.1 then D else T) {s : Nat} (hs : s < C) {A : List Nat} (hA : A.length ≤ 1000) (hm : μ[m]? = some (.lst (intsD A))) (hmk : m < kn ∨ kn + T * C < m)
    (hK : ∀ ar' e' μ', μ'[m]? = some (.lst (intsD (addAll A (aims f (mvW ms) x s)))) → Kp m μ μ' → K (envF (some (wD F ss ms)) (some (.ref kn)) q st h (some (stepD x)) (some (.ref m)) (some (.int (s : Nat))) ar' e') μ') :
    OS (fBody Γ l2__law_follow (envF (some (wD F ss ms)) (some (.ref kn)) q st h (some (stepD x)) (some (.ref m)) (some (.int (s : Nat))) ar e) μ) K R B C' Y := by
  obtain ⟨b, n⟩ := x
  have hml := (List.getElem?_eq_some_iff.mp hm).1
  cases b with
  | true =>
    simp only [if_true] at hx
    obtain ⟨e1, e2⟩ := move_at cx.w hs hx
    have ec : ∀ μ : Mem, cmpD .eq (.str "deed") (.str "deed") μ = some true := fun μ => by
      show some (decide (("deed" : Str) = "deed")) = _
      simp
    simp [fBody, l2__law_follow, stepD, wD, ec, e1, e2, subD, mvD, limV, -Bool.exists_bool]
    cases emv : mvW ms s n with
    | none =>
      have hm1 : (μ ++ [Cell.lst []])[m]? = some (.lst (intsD A)) := by rw [List.getElem?_append_left hml]; exact hm
      have hn1 : (μ ++ [Cell.lst []])[μ.length]? = some (.lst (intsD [])) := by simp
      simp [moveD, its_lstI hn1, -Bool.exists_bool]
      refine ⟨chk_lst hn1, hK _ _ _ ?_ ((Kp.rfl' m μ).app _)⟩
      simpa [aims, emv, addAll] using hm1
    | some v =>
      have hm1 : (μ ++ [Cell.lst (intsD [v])])[m]? = some (.lst (intsD A)) := by rw [List.getElem?_append_left hml]; exact hm
      have hn1 : (μ ++ [Cell.lst (intsD [v])])[μ.length]? = some (.lst (intsD [v])) := by simp
      have hn2 : itsOf (.ref μ.length) (μ ++ [Cell.lst [.int (v : Nat)]]) = _ := its_lstI hn1
      simp [moveD, hn2, -Bool.exists_bool]
      refine follow_l3 (L := [v]) (w := some (wD F ss ms)) (x := some (stepD (true, n))) hm1 (by simp; omega) (fun μ' kp => chk_lst (kp.2 _ _ (by omega) hn1)) fun e' μ' hc kp => ?_
      refine hK _ _ _ ?_ (((Kp.rfl' m μ).app _).trans kp)
      simpa [aims, emv] using hc
  | false =>
    simp only [Bool.false_eq_true, if_false] at hx
    have ec : ∀ μ : Mem, cmpD .eq (.str "task") (.str "deed") μ = some false := fun μ => by
      have : decide (("task" : Str) = "deed") = false := by decide +kernel
      show some (decide (("task" : Str) = "deed")) = _
      rw [this]
    have ha := cx.kn.at hx hs
    have hne : kn + 1 + (n * C + s) ≠ m := by have := ix_lt hx hs; omega
    simp [fBody, l2__law_follow, stepD, ec, cx.kn.sub hx hs, its_lstI ha, limV, -Bool.exists_bool]
    have hfl := cx.fo.len n s
    have hc1 := cx.c
    refine follow_l3 (L := f n s) (w := some (wD F ss ms)) (x := some (stepD (false, n))) hm (by omega) (fun μ' kp => chk_lst (kp.2 _ _ hne ha)) fun e' μ' hc kp => ?_
    exact hK _ _ _ (by simpa [aims] using hc) kp
end
theorem follow_of {Γ Γ' : Gam} (e : ∀ ds μ, Γ'.fn "_law_follow" ds μ = runD Γ ⟨4, 10, b__law_follow⟩ ds μ) : FollowW Γ' := fun μ F D T C kn q lk f ss ms S st cx hq hS hSl hst => by
  rw [e, run_ans _ _ _ _ rfl]
  refine okx_of fun P hP => ?_
  have hkn := (List.getElem?_eq_some_iff.mp cx.kn.dc).1
  have hT : kn + T * C < μ.length ∨ T * C = 0 := by
    cases h : T * C with
    | zero => exact .inr rfl
    | succ n =>
      have := (List.getElem?_eq_some_iff.mp (cx.kn.cl n (by omega))).1
      left; omega
  have cx0 := cx.kb ((Kb.rfl' μ).app [Cell.lst (intsD S)])
  have kb0 : Kb μ (μ ++ [Cell.lst (intsD S)]) := (Kb.rfl' μ).app _
  have hh0 : (μ ++ [Cell.lst (intsD S)])[μ.length]? = some (.lst (intsD S)) := by simp
  simp [b__law_follow, its_lstI hq, -Bool.exists_bool]
  generalize μ ++ [Cell.lst (intsD S)] = μ1 at *
  refine OS.loop (fun i ρ μ' => ∃ h a5 a6 a7 a8 a9, ρ = envF (some (wD F ss ms)) (some (.ref kn)) (some (.ref q)) (some (.tup (st.map stepD))) (some (.ref h)) a5 a6 a7 a8 a9 ∧ Kb μ μ' ∧ μ.length ≤ h ∧ μ'[h]? = some (.lst (intsD (follow f (mvW ms) (st.take i) S))) ∧ WCtx F D T C kn lk f ss ms μ') ⟨μ.length, _, _, _, _, _, rfl, kb0, Nat.le_refl _, by simpa [follow] using hh0, cx0⟩ ?_ ?_
  · intro j d ρ μ' hd ⟨h, a5, a6, a7, a8, a9, hρ, kb, hhl, hh, cx⟩
    subst hρ
    rw [List.getElem?_map] at hd
    obtain ⟨x, hx, ed⟩ := Option.map_eq_some_iff.mp hd
    subst ed
    refine ⟨rfl, _, rfl, fun K hK => ?_⟩
    have hxs := hst x (List.mem_of_getElem? hx)
    have hHl : (follow f (mvW ms) (st.take j) S).length ≤ 1000 := follow_len cx.fo cx.w.mv cx.c hSl
    have hHc := follow_lt cx.fo cx.w.mv (st := st.take j) hS
    have ef : follow f (mvW ms) (st.take (j + 1)) S = after f (mvW ms) x (follow f (mvW ms) (st.take j) S) := by
      rw [take_snoc hx]; unfold follow; rw [List.foldl_append]; rfl
    generalize follow f (mvW ms) (st.take j) S = H at *
    have hlen := kb.len
    have hh1 : (μ' ++ [Cell.lst []])[h]? = some (.lst (intsD H)) := by rw [List.getElem?_append_left (List.getElem?_eq_some_iff.mp hh).1]; exact hh
    have hlt := (List.getElem?_eq_some_iff.mp hh).1
    have cx1 := cx.kb ((Kb.rfl' μ').app [Cell.lst []])
    have hm1 : (μ' ++ [Cell.lst []])[μ'.length]? = some (.lst (intsD [])) := by simp
    have kb1 : Kb μ (μ' ++ [Cell.lst []]) := kb.app _
    simp [fBody, l1__law_follow, limV, its_lstI hh1, -Bool.exists_bool]
    generalize hm : μ'.length = m at *
    generalize μ' ++ [Cell.lst []] = μ2 at *
    refine OS.loop (fun i ρ μ' => ∃ a7 a8 a9, ρ = envF (some (wD F ss ms)) (some (.ref kn)) (some (.ref q)) (some (.tup (st.map stepD))) (some (.ref h)) (some (stepD x)) (some (.ref m)) a7 a8 a9 ∧ Kp m μ2 μ' ∧ μ'[m]? = some (.lst (intsD ((H.take i).foldl (fun A s => addAll A (aims f (mvW ms) x s)) [])))) ⟨_, _, _, rfl, Kp.rfl' m μ2, by simpa using hm1⟩ ?_ ?_
    · intro i d ρ μ3 hd ⟨a7, a8, a9, hρ, kp, hc⟩
      subst hρ
      rw [List.getElem?_map] at hd
      obtain ⟨s, hs, ed⟩ := Option.map_eq_some_iff.mp hd
      subst ed
      refine ⟨chk_lst (kp.2 _ _ (by omega) hh1), _, rfl, fun K' hK' => ?_⟩
      have hsC := hHc s (List.mem_of_getElem? hs)
      have cx3 : WCtx F D T C kn lk f ss ms μ3 := ⟨cx1.w, cx1.c, cx1.fo, ⟨kp.2 _ _ (by omega) cx1.kn.dc, fun i hi => kp.2 _ _ (by omega) (cx1.kn.cl i hi)⟩⟩
      have hAl : ((H.take i).foldl (fun A s => addAll A (aims f (mvW ms) x s)) []).length ≤ 1000 := by
        have : (after f (mvW ms) x (H.take i)).length ≤ C := nodup_le after_nodup (after_lt cx.fo cx.w.mv x _)
        have h2 := cx.c
        unfold after at this; omega
      refine follow_l2 cx3 hxs hsC hAl hc (by omega) fun ar' e' μ4 hc4 kp4 => hK' _ _ ⟨_, _, _, rfl, kp.trans kp4, ?_⟩
      rw [take_snoc hs, List.foldl_append]
      exact hc4
    · intro ρ μ3 ⟨a7, a8, a9, hρ, kp, hc⟩
      subst hρ
      rw [List.length_map, List.take_length] at hc
      refine ⟨chk_lst (kp.2 _ _ (by omega) hh1), ?_⟩
      simp
      refine hK _ _ ⟨m, _, _, _, _, _, rfl, kb1.kp kp (by omega), by omega, by rw [ef]; exact hc, ?_⟩
      exact ⟨cx1.w, cx1.c, cx1.fo, ⟨kp.2 _ _ (by omega) cx1.kn.dc, fun i hi => kp.2 _ _ (by omega) (cx1.kn.cl i hi)⟩⟩
  · intro ρ μ' ⟨h, a5, a6, a7, a8, a9, hρ, kb, hhl, hh, cx⟩
    subst hρ
    refine ⟨rfl, ?_⟩
    rw [List.length_map, List.take_length] at hh
    simp
    exact hP _ _ ⟨h, rfl, hhl, hh, kb⟩
theorem follow_w (n : Nat) : FollowW (G (n + 1)) := follow_of (f__law_follow n)
end Lw
/-! W23: `_law_ends`. -/
namespace Lw
open PySem Mi

/-- all but what is known is kept -/
def Kz (kn N : Nat) (μ μ' : Mem) : Prop := μ.length ≤ μ'.length ∧ ∀ j c, (j ≤ kn ∨ kn + N < j) → μ[j]? = some c → μ'[j]? = some c
theorem Kz.rfl' (kn N : Nat) (μ : Mem) : Kz kn N μ μ := ⟨Nat.le_refl _, fun _ _ _ h => h⟩
theorem Kz.trans {kn N : Nat} {a b c : Mem} (h : Kz kn N a b) (g : Kz kn N b c) : Kz kn N a c := ⟨Nat.le_trans h.1 g.1, fun k x hk hx => g.2 k x hk (h.2 k x hk hx)⟩
theorem Kz.ofKb {kn N : Nat} {a b : Mem} (h : Kb a b) : Kz kn N a b := ⟨h.len, fun k c _ hx => h k c hx⟩
theorem Kz.tk {kn N j : Nat} {a : Mem} (h1 : kn < j) (h2 : j ≤ kn + N) (c : Cell) : Kz kn N a (a.set j c) := ⟨by simp, fun k x hk hx => by rw [List.getElem?_set_ne (by omega)]; exact hx⟩
theorem Kb.kz {kn N : Nat} {a b c : Mem} (h : Kb a b) (g : Kz kn N b c) (hm : a.length ≤ kn) : Kb a c := fun k x hx => by
  have hl := (List.getElem?_eq_some_iff.mp hx).1
  exact g.2 k x (.inl (by omega)) (h k x hx)
/-- a round, from f0 on -/
structure RI (T C : Nat) (opn : Nat → Nat → List (List Step)) (mv : Nat → Nat → Option Nat) (f0 f : Nat → Nat → List Nat) (mo : Bool) : Prop where
  fo : FOk C f
  so : ∀ t s e, e ∈ f t s → End opn mv t s e
  e0 : mo = false → f = f0
  gt : mo = true → tot T C f0 < tot T C f
theorem KN.add {kn T C : Nat} {lk : Bool} {f : Nat → Nat → List Nat} {μ : Mem} (h : KN kn T C lk f μ) {t s : Nat} (ht : t < T) (hs : s < C) (e : Nat) : KN kn T C lk (addE f t s e) (μ.set (kn + 1 + (t * C + s)) (.lst (intsD (f t s ++ [e])))) := by
  have hl := (List.getElem?_eq_some_iff.mp (h.at ht hs)).1
  refine ⟨by rw [List.getElem?_set_ne (by omega)]; exact h.dc, fun i hi => ?_⟩
  by_cases hi2 : i = t * C + s
  · subst hi2
    obtain ⟨h1, h2⟩ := divmod (t := t) hs
    rw [List.getElem?_set_self hl, h1, h2]
    simp [addE]
  · rw [List.getElem?_set_ne (by omega), h.cl i hi]
    congr 3
    unfold addE
    rw [if_neg]
    rintro ⟨h1, h2⟩
    apply hi2
    rw [← Nat.div_add_mod i C, h1, h2, Nat.mul_comm]
theorem RI.add {T C : Nat} {opn : Nat → Nat → List (List Step)} {mv : Nat → Nat → Option Nat} {f0 f : Nat → Nat → List Nat} {mo : Bool} (h : RI T C opn mv f0 f mo) {t s e : Nat} (ht : t < T) (hs : s < C) (he : e < C) (hn : e ∉ f t s) (hE : End opn mv t s e) : RI T C opn mv f0 (addE f t s e) true := by
  refine ⟨⟨fun t' s' => ?_, fun t' s' x hx => ?_⟩, fun t' s' x hx => ?_, (by simp), fun _ => ?_⟩
  · unfold addE
    split
    · rw [List.nodup_append]
      exact ⟨h.fo.nd t s, by simp, fun a ha b hb q => by simp at hb; subst hb; subst q; exact hn ha⟩
    · exact h.fo.nd t' s'
  · unfold addE at hx
    split at hx
    · rcases List.mem_append.mp hx with hx | hx
      · exact h.fo.lt t s x hx
      · simp at hx; subst hx; exact he
    · exact h.fo.lt t' s' x hx
  · unfold addE at hx
    split at hx
    · rename_i q
      obtain ⟨q1, q2⟩ := q
      subst q1; subst q2
      rcases List.mem_append.mp hx with hx | hx
      · exact h.so _ _ x hx
      · simp at hx; subst hx; exact hE
    · exact h.so t' s' x hx
  · rw [tot_add hs ht]
    cases mo with
    | false => rw [h.e0 rfl]; omega
    | true => have := h.gt rfl; omega
section
variable {Γ : Gam} {K : Env' → Mem → Prop} {R : Mi.D → Mem → Prop} {B C' : Env' → Mem → Prop} {Y : Str → List (Str × Mi.D) → Env' → Mem → Prop}
abbrev envE (b w kn ta sa tu mo p k a : Option Mi.D) : Env' := [b, w, kn, ta, sa, tu, mo, p, k, a]
variable {b w ta sa tu k a : Option Mi.D} {T C kn : Nat} {opn : Nat → Nat → List (List Step)} {mv : Nat → Nat → Option Nat} {f0 f : Nat → Nat → List Nat} {mo : Bool} {t s : Nat} {μ : Mem}
/-- the aims of one method -/
theorem ends_l4 (ht : t < T) (hs : s < C) (hkn : KN kn T C true f μ) (ri : RI T C opn mv f0 f mo) (hC : C ≤ 1000) {L : List Nat} {own : List (Nat × Cell)} (hL : ∀ e ∈ L, e < C ∧ End opn mv t s e)
    (ho : ∀ μ', Kz kn (T * C) μ μ' → chk own μ' = true)
    (hK : ∀ f' mo' a' μ', KN kn T C true f' μ' → RI T C opn mv f0 f' mo' → Kz kn (T * C) μ μ' → (mo' = false → mo = false ∧ ∀ e ∈ L, e ∈ f0 t s) → K (envE b w (some (.ref kn)) ta sa tu (some (.bl mo')) (some (keyTS t s)) k a') μ') :
    OS (forL (fBody Γ l4__law_ends) (.nm 9) own (intsD L) (envE b w (some (.ref kn)) ta sa tu (some (.bl mo)) (some (keyTS t s)) k a) μ) K R B C' Y := by
  refine OS.loop (fun i ρ μ' => ∃ f' mo' a', ρ = envE b w (some (.ref kn)) ta sa tu (some (.bl mo')) (some (keyTS t s)) k a' ∧ KN kn T C true f' μ' ∧ RI T C opn mv f0 f' mo' ∧ Kz kn (T * C) μ μ' ∧ (mo' = false → mo = false ∧ ∀ e ∈ L.take i, e ∈ f0 t s)) ⟨f, mo, a, rfl, hkn, ri, Kz.rfl' _ _ _, fun h => ⟨h, by simp⟩⟩ ?_ ?_
  · intro j d ρ μ' hd ⟨f', mo', a', hρ, kn', ri', kz, hc⟩
    subst hρ
    rw [List.getElem?_map] at hd
    obtain ⟨v, hv, ed⟩ := Option.map_eq_some_iff.mp hd
    subst ed
    refine ⟨ho _ kz, _, rfl, fun K' hK' => ?_⟩
    have hat := kn'.at ht hs
    obtain ⟨hvC, hvE⟩ := hL v (List.mem_of_getElem? hv)
    have hix := ix_lt ht hs
    simp [fBody, l4__law_ends, keyTS, kn'.sub ht hs, notIn_lst hat, isL hat, -Bool.exists_bool]
    by_cases hin : v ∈ f' t s
    · simp [hin]
      refine hK' _ _ ⟨f', mo', _, rfl, kn', ri', kz, fun hm => ?_⟩
      obtain ⟨h1, h2⟩ := hc hm
      refine ⟨h1, fun e he => ?_⟩
      rw [take_snoc hv] at he
      rcases List.mem_append.mp he with he | he
      · exact h2 e he
      · simp at he; subst he
        rw [← ri'.e0 hm]; exact hin
    · simp [hin]
      have hlen := ri'.fo.len t s
      refine app_w hat (by rw [limV]; simp; omega) ?_
      have e1 : intsD (f' t s) ++ [Mi.D.int (v : Nat)] = intsD (f' t s ++ [v]) := by simp
      rw [e1]
      exact hK' _ _ ⟨_, true, _, rfl, kn'.add ht hs v, ri'.add ht hs hvC hin hvE, kz.trans (Kz.tk (by omega) (by omega) _), fun h => by cases h⟩
  · intro ρ μ' ⟨f', mo', a', hρ, kn', ri', kz, hc⟩
    subst hρ
    rw [List.length_map, List.take_length] at hc
    exact ⟨ho _ kz, hK _ _ _ _ kn' ri' kz hc⟩
end
section
variable {Γ : Gam} {K : Env' → Mem → Prop} {R : Mi.D → Mem → Prop} {B C' : Env' → Mem → Prop} {Y : Str → List (Str × Mi.D) → Env' → Mem → Prop}
variable {ta sa tu k a : Option Mi.D} {F D T M C kn : Nat} {ts : List (List Meth)} {ss : List (List Bool)} {ms : List (List (Option Nat))} {f0 f : Nat → Nat → List Nat} {mo : Bool} {t s : Nat} {μ : Mem}
def methAt (ts : List (List Meth)) (t k : Nat) : Meth := (ts.getD t []).getD k ([], [])
theorem methAt_mem {t k : Nat} (ht : t < ts.length) (hk : k < (ts.getD t []).length) : methAt ts t k ∈ ts[t] := by
  have e : ts.getD t [] = ts[t] := getD_some ht
  unfold methAt
  rw [getD_some hk]
  exact e ▸ List.getElem_mem hk
theorem openL_opn {t s k : Nat} (h : k ∈ openL ts ss t s) : k < (ts.getD t []).length ∧ (methAt ts t k).2 ∈ opnW ts ss t s := by
  obtain ⟨h1, h2⟩ := List.mem_filter.mp h
  have h1 := List.mem_range.mp h1
  refine ⟨h1, List.mem_map.mpr ⟨methAt ts t k, List.mem_filter.mpr ⟨?_, h2⟩, rfl⟩⟩
  unfold methAt
  rw [getD_some h1]
  exact List.getElem_mem h1
theorem opn_openL {t s : Nat} {st : List Step} (h : st ∈ opnW ts ss t s) : ∃ k ∈ openL ts ss t s, (methAt ts t k).2 = st := by
  obtain ⟨m, h1, e⟩ := List.mem_map.mp h
  obtain ⟨h1, h2⟩ := List.mem_filter.mp h1
  obtain ⟨k, hk, e2⟩ := List.mem_iff_getElem.mp h1
  have em : methAt ts t k = m := by unfold methAt; rw [getD_some hk]; exact e2
  refine ⟨k, List.mem_filter.mpr ⟨List.mem_range.mpr hk, ?_⟩, by rw [em]; exact e⟩
  have : ((ts.getD t []).getD k ([], [])) = m := em
  rw [this]; exact h2
/-- one method of one pair -/
theorem ends_l3 (Fo : FollowW Γ) (ok : BookOk F D T M ts) (wk : WOk F D C ss ms) (ht : t < T) (hs : s < C) (hC : C ≤ 1000) (hkn : KN kn T C true f μ) (ri : RI T C (opnW ts ss) (mvW ms) f0 f mo) {j : Nat} (hj : j ∈ openL ts ss t s)
    (hK : ∀ f' mo' a' μ', KN kn T C true f' μ' → RI T C (opnW ts ss) (mvW ms) f0 f' mo' → Kz kn (T * C) μ μ' → (mo' = false → mo = false ∧ ∀ e ∈ follow f0 (mvW ms) (methAt ts t j).2 [s], e ∈ f0 t s) → K (envE (some (bookD F D ts)) (some (wD F ss ms)) (some (.ref kn)) ta sa tu (some (.bl mo')) (some (keyTS t s)) (some (.int (j : Nat))) a') μ') :
    OS (fBody Γ l3__law_ends (envE (some (bookD F D ts)) (some (wD F ss ms)) (some (.ref kn)) ta sa tu (some (.bl mo)) (some (keyTS t s)) (some (.int (j : Nat))) a) μ) K R B C' Y := by
  have htl : t < ts.length := by rw [ok.len]; exact ht
  obtain ⟨hjl, hop⟩ := openL_opn hj
  have gt : ts.getD t [] = ts[t] := getD_some htl
  have hjl' : j < ts[t].length := by rw [← gt]; exact hjl
  have em : methAt ts t j = ts[t][j] := by
    show (ts.getD t []).getD j ([], []) = _
    rw [gt, getD_some hjl']
  have et : atD (tasksD ts) ((t : Nat) : Int) = some (.tup (ts[t].map methD)) := at_nat (by simp [tasksD, htl])
  have ej : atD (ts[t].map methD) ((j : Nat) : Int) = some (methD ts[t][j]) := at_nat (by simp [hjl'])
  have mok := (ok.m _ (List.getElem_mem htl)).2 _ (List.getElem_mem hjl')
  simp [fBody, l3__law_ends, bookD, wD, keyTS, limV, et, ej, methD, -Bool.exists_bool]
  have kb1 : Kb μ (μ ++ [Cell.lst (intsD [s])]) := (Kb.rfl' μ).app _
  have hq : (μ ++ [Cell.lst (intsD [s])])[μ.length]? = some (.lst (intsD [s])) := by simp
  have cx : WCtx F D T C kn true f ss ms (μ ++ [Cell.lst (intsD [s])]) := ⟨wk, hC, ri.fo, hkn.kb kb1⟩
  have key := Fo (μ ++ [Cell.lst (intsD [s])]) F D T C kn μ.length true f ss ms [s] ts[t][j].2 cx hq (by simpa using hs) (by simp) mok.s
  refine OkX.imp key fun v μ2 ⟨r, e, hr, hc, kb2⟩ => ?_
  subst e
  have hkn2 := (hkn.kb kb1).kb kb2
  have hN : kn + T * C < μ.length := by
    have := (List.getElem?_eq_some_iff.mp (hkn.cl (t * C + s) (ix_lt ht hs))).1
    have h2 := (List.getElem?_eq_some_iff.mp (hkn.cl (T * C - 1) (by have := ix_lt ht hs; omega))).1
    have h3 := ix_lt ht hs
    omega
  have hrl : kn + T * C < r := by simp at hr; omega
  simp [its_lstI hc, -Bool.exists_bool]
  have hall : ∀ e ∈ follow f (mvW ms) ts[t][j].2 [s], e < C ∧ End (opnW ts ss) (mvW ms) t s e := fun e he => by
    refine ⟨follow_lt ri.fo wk.mv (by simpa using hs) e he, ?_⟩
    obtain ⟨s', h1, h2⟩ := mem_follow.mp he
    simp at h1; subst h1
    rw [em] at hop
    exact end_of_folK (K := fun t s e => e ∈ f t s) ri.so hop h2
  refine ends_l4 (b := some (bookD F D ts)) (w := some (wD F ss ms)) ht hs hkn2 ri hC hall (fun μ' kz => chk_lst (kz.2 _ _ (.inr hrl) hc)) fun f' mo' a' μ' k1 k2 k3 k4 => ?_
  refine hK f' mo' a' μ' k1 k2 ((Kz.ofKb (kb1.trans kb2)).trans k3) fun hm => ?_
  obtain ⟨h1, h2⟩ := k4 hm
  refine ⟨h1, fun e he => h2 e ?_⟩
  rw [ri.e0 h1, ← em]; exact he
/-- one pair -/
theorem ends_l2 (Op : OpenW Γ) (Fo : FollowW Γ) (ok : BookOk F D T M ts) (hM : M ≤ 1000) (wk : WOk F D C ss ms) (ht : t < T) (hs : s < C) (hC : C ≤ 1000) (hkn : KN kn T C true f μ) (ri : RI T C (opnW ts ss) (mvW ms) f0 f mo)
    (hK : ∀ f' mo' k' a' μ', KN kn T C true f' μ' → RI T C (opnW ts ss) (mvW ms) f0 f' mo' → Kz kn (T * C) μ μ' → (mo' = false → mo = false ∧ ∀ j ∈ openL ts ss t s, ∀ e ∈ follow f0 (mvW ms) (methAt ts t j).2 [s], e ∈ f0 t s) → K (envE (some (bookD F D ts)) (some (wD F ss ms)) (some (.ref kn)) ta sa tu (some (.bl mo')) (some (keyTS t s)) k' a') μ') :
    OS (fBody Γ l2__law_ends (envE (some (bookD F D ts)) (some (wD F ss ms)) (some (.ref kn)) ta sa tu (some (.bl mo)) (some (keyTS t s)) k a) μ) K R B C' Y := by
  have hN : kn + T * C < μ.length := by
    have h2 := (List.getElem?_eq_some_iff.mp (hkn.cl (T * C - 1) (by have := ix_lt ht hs; omega))).1
    have h3 := ix_lt ht hs
    omega
  simp [fBody, l2__law_ends, keyTS, -Bool.exists_bool]
  refine OkX.imp (Op μ F D T M C t s ts ss ms ok hM wk ht hs) fun v μ1 ⟨r, e, hr, hc, kb⟩ => ?_
  subst e
  simp [its_lstI hc, -Bool.exists_bool]
  refine OS.loop (fun i ρ μ' => ∃ f' mo' k' a', ρ = envE (some (bookD F D ts)) (some (wD F ss ms)) (some (.ref kn)) ta sa tu (some (.bl mo')) (some (keyTS t s)) k' a' ∧ KN kn T C true f' μ' ∧ RI T C (opnW ts ss) (mvW ms) f0 f' mo' ∧ Kz kn (T * C) μ1 μ' ∧ (mo' = false → mo = false ∧ ∀ j ∈ (openL ts ss t s).take i, ∀ e ∈ follow f0 (mvW ms) (methAt ts t j).2 [s], e ∈ f0 t s)) ⟨f, mo, k, a, rfl, hkn.kb kb, ri, Kz.rfl' _ _ _, fun h => ⟨h, by simp⟩⟩ ?_ ?_
  · intro j d ρ μ' hd ⟨f', mo', k', a', hρ, kn', ri', kz, hcl⟩
    subst hρ
    rw [List.getElem?_map] at hd
    obtain ⟨v, hv, ed⟩ := Option.map_eq_some_iff.mp hd
    subst ed
    refine ⟨chk_lst (kz.2 _ _ (.inr (by omega)) hc), _, rfl, fun K' hK' => ?_⟩
    refine ends_l3 Fo ok wk ht hs hC kn' ri' (List.mem_of_getElem? hv) fun f2 mo2 a2 μ2 k1 k2 k3 k4 => hK' _ _ ⟨f2, mo2, _, a2, rfl, k1, k2, kz.trans k3, fun hm => ?_⟩
    obtain ⟨h1, h2⟩ := k4 hm
    obtain ⟨h3, h4⟩ := hcl h1
    refine ⟨h3, fun x hx => ?_⟩
    rw [take_snoc hv] at hx
    rcases List.mem_append.mp hx with hx | hx
    · exact h4 x hx
    · simp at hx; subst hx; exact h2
  · intro ρ μ' ⟨f', mo', k', a', hρ, kn', ri', kz, hcl⟩
    subst hρ
    rw [List.length_map, List.take_length] at hcl
    exact ⟨chk_lst (kz.2 _ _ (.inr (by omega)) hc), hK _ _ _ _ _ kn' ri' ((Kz.ofKb kb).trans kz) hcl⟩
end
end Lw
/-! W24: `_law_ends`, whole. -/
namespace Lw
open PySem Mi

theorem OS.unlock {n : Nat} {o : Out} {N B C : Env' → Mem → Prop} {R : Mi.D → Mem → Prop} {Y : Str → List (Str × Mi.D) → Env' → Mem → Prop}
    (h : OS o (fun ρ μ => ∃ kvs, μ[n]? = some (.dct true kvs) ∧ N ρ (μ.set n (.dct false kvs))) (fun d μ => ∃ kvs, μ[n]? = some (.dct true kvs) ∧ R d (μ.set n (.dct false kvs))) (fun _ _ => False) (fun _ _ => False) (fun _ _ _ _ => False)) : OS (unlockO n o) N R B C Y := by
  cases o with
  | nx ρ μ =>
    rw [w_nx] at h
    obtain ⟨kvs, h1, h2⟩ := h
    simp only [unlockO, h1, w_nx]
    exact h2
  | rt d μ =>
    rw [w_rt] at h
    obtain ⟨kvs, h1, h2⟩ := h
    simp only [unlockO, h1, w_rt]
    exact h2
  | br ρ μ => rw [w_br] at h; exact h.elim
  | ct ρ μ => rw [w_ct] at h; exact h.elim
  | ex c fs ρ μ => rw [w_ex] at h; exact h.elim
  | bad => rw [w_bad] at h; exact h.elim
theorem KN.lock {kn T C : Nat} {l l' : Bool} {f : Nat → Nat → List Nat} {μ : Mem} (h : KN kn T C l f μ) : KN kn T C l' f (μ.set kn (.dct l' (keysN kn C (T * C)))) := by
  have hl := (List.getElem?_eq_some_iff.mp h.dc).1
  exact ⟨by rw [List.getElem?_set_self hl], fun i hi => by rw [List.getElem?_set_ne (by omega)]; exact h.cl i hi⟩
/-- nothing is added by one more round -/
def Closed (T C : Nat) (ts : List (List Meth)) (ss : List (List Bool)) (mv : Nat → Nat → Option Nat) (f : Nat → Nat → List Nat) : Prop := ∀ t s, t < T → s < C → ∀ j ∈ openL ts ss t s, ∀ e ∈ follow f mv (methAt ts t j).2 [s], e ∈ f t s
section
variable {Γ : Gam} {K : Env' → Mem → Prop} {R : Mi.D → Mem → Prop} {N B C' : Env' → Mem → Prop} {Y : Str → List (Str × Mi.D) → Env' → Mem → Prop}
variable {ta sa tu mo p k a : Option Mi.D} {F D T M C kn : Nat} {ts : List (List Meth)} {ss : List (List Bool)} {ms : List (List (Option Nat))} {f : Nat → Nat → List Nat} {μ0 μ : Mem}
/-- one round -/
theorem ends_l1 (Op : OpenW Γ) (Fo : FollowW Γ) (ok : BookOk F D T M ts) (hM : M ≤ 1000) (wk : WOk F D C ss ms) (hC0 : 0 < C) (hC : C ≤ 1000) (hkn : KN kn T C false f μ) (fo : FOk C f) (so : ∀ t s e, e ∈ f t s → End (opnW ts ss) (mvW ms) t s e) (kb : Kb μ0 μ) (h0 : μ0.length ≤ kn)
    (hK : ∀ f' mo' p' k' a' μ', KN kn T C false f' μ' → FOk C f' → (∀ t s e, e ∈ f' t s → End (opnW ts ss) (mvW ms) t s e) → Kb μ0 μ' → tot T C f < tot T C f' → K (envE (some (bookD F D ts)) (some (wD F ss ms)) (some (.ref kn)) ta sa tu mo' p' k' a') μ')
    (hN : ∀ mo' p' k' a' μ', KN kn T C false f μ' → Kb μ0 μ' → Closed T C ts ss (mvW ms) f → N (envE (some (bookD F D ts)) (some (wD F ss ms)) (some (.ref kn)) ta sa tu mo' p' k' a') μ') :
    OS (fBody Γ l1__law_ends (envE (some (bookD F D ts)) (some (wD F ss ms)) (some (.ref kn)) ta sa tu mo p k a) μ) K R N K Y := by
  simp [fBody, l1__law_ends, rForD, hkn.dc, -Bool.exists_bool]
  refine OS.unlock ?_
  have hl := (List.getElem?_eq_some_iff.mp hkn.dc).1
  have kn1 : KN kn T C true f (μ.set kn (.dct true (keysN kn C (T * C)))) := hkn.lock
  have kb1 : Kb μ0 (μ.set kn (.dct true (keysN kn C (T * C)))) := kb.put h0 _
  generalize μ.set kn (.dct true (keysN kn C (T * C))) = μ1 at *
  have hlen : ((keysN kn C (T * C)).map (·.1)).length = T * C := by simp [keysN]
  refine OS.loop (fun i ρ μ' => ∃ f' mo' p' k' a', ρ = envE (some (bookD F D ts)) (some (wD F ss ms)) (some (.ref kn)) ta sa tu (some (.bl mo')) p' k' a' ∧ KN kn T C true f' μ' ∧ RI T C (opnW ts ss) (mvW ms) f f' mo' ∧ Kb μ0 μ' ∧ (mo' = false → ∀ n, n < i → n < T * C → ∀ j ∈ openL ts ss (n / C) (n % C), ∀ e ∈ follow f (mvW ms) (methAt ts (n / C) j).2 [n % C], e ∈ f (n / C) (n % C))) ⟨f, false, _, _, _, rfl, kn1, ⟨fo, so, fun _ => rfl, by simp⟩, kb1, fun _ n hn => by omega⟩ ?_ ?_
  · intro i d ρ μ' hd ⟨f', mo', p', k', a', hρ, kn', ri', kb', hcl⟩
    subst hρ
    have hi : i < T * C := by rw [← hlen]; exact (List.getElem?_eq_some_iff.mp hd).1
    have ed : d = keyTS (i / C) (i % C) := by
      simp [keysN, hi] at hd
      exact hd.symm
    subst ed
    have ht : i / C < T := (Nat.div_lt_iff_lt_mul hC0).mpr hi
    have hs : i % C < C := Nat.mod_lt _ hC0
    refine ⟨by simp [chk, kn'.dc], _, rfl, fun K' hK' => ?_⟩
    refine ends_l2 Op Fo ok hM wk ht hs hC kn' ri' fun f2 mo2 k2 a2 μ2 q1 q2 q3 q4 => hK' _ _ ⟨f2, mo2, _, k2, a2, rfl, q1, q2, kb'.kz q3 h0, fun hm n hn hnT => ?_⟩
    obtain ⟨h1, h2⟩ := q4 hm
    by_cases e : n = i
    · subst e; exact h2
    · exact hcl h1 n (by omega) hnT
  · intro ρ μ' ⟨f', mo', p', k', a', hρ, kn', ri', kb', hcl⟩
    subst hρ
    rw [hlen] at hcl
    refine ⟨by simp [chk, kn'.dc], _, kn'.dc, ?_⟩
    have kn2 : KN kn T C false f' (μ'.set kn (.dct false (keysN kn C (T * C)))) := kn'.lock
    have kb2 : Kb μ0 (μ'.set kn (.dct false (keysN kn C (T * C)))) := kb'.put h0 _
    generalize μ'.set kn (.dct false (keysN kn C (T * C))) = μ2 at *
    cases mo' with
    | true =>
      simp
      exact hK f' _ _ _ _ _ kn2 ri'.fo ri'.so kb2 (ri'.gt rfl)
    | false =>
      simp
      have e := ri'.e0 rfl
      subst e
      refine hN _ _ _ _ _ kn2 kb2 fun t s ht hs => ?_
      have q := hcl rfl (t * C + s) (ix_lt ht hs) (ix_lt ht hs)
      obtain ⟨h1, h2⟩ := divmod (t := t) hs
      rwa [h1, h2] at q
end
def EndsW (Γ : Gam) : Prop := ∀ (μ : Mem) (F D T M C : Nat) (ts : List (List Meth)) (ss : List (List Bool)) (ms : List (List (Option Nat))), BookOk F D T M ts → M ≤ 1000 → T ≤ 6 → WOk F D C ss ms → 0 < C → C ≤ 50 →
  OkX (Γ.fn "_law_ends" [bookD F D ts, wD F ss ms] μ) (fun v μ' => ∃ kn f, v = .ref kn ∧ μ.length ≤ kn ∧ Kb μ μ' ∧ KN kn T C false f μ' ∧ FOk C f ∧ ∀ t s, t < T → s < C → ∀ e, e ∈ f t s ↔ End (opnW ts ss) (mvW ms) t s e) X0
theorem keysN_put {kn C t s : Nat} (hs : s < C) : putK (keysN kn C (t * C + s)) (keyTS t s) (.ref (kn + 1 + (t * C + s))) = keysN kn C (t * C + s + 1) := by
  obtain ⟨h1, h2⟩ := divmod (t := t) hs
  have hn : ((keysN kn C (t * C + s)).any fun p => decide (p.1 = keyTS t s)) = false := by
    rw [List.any_eq_false]
    intro p hp
    obtain ⟨i, hi, e⟩ := List.mem_map.mp hp
    subst e
    have hi := List.mem_range.mp hi
    simp only [decide_eq_true_eq]
    intro e
    obtain ⟨e1, e2⟩ := key_inj e
    have : i = t * C + s := by rw [← Nat.div_add_mod i C, e1, e2, Nat.mul_comm]
    omega
  unfold putK
  rw [hn, if_neg (by simp)]
  unfold keysN
  rw [List.range_succ, List.map_append, List.map_singleton, h1, h2]
/-- what stands while the keys are put in -/
structure KS (kn C n : Nat) (μ0 μ : Mem) : Prop where
  kb : Kb μ0 μ
  h0 : μ0.length ≤ kn
  len : μ.length = kn + 1 + n
  dc : μ[kn]? = some (.dct false (keysN kn C n))
  cl : ∀ i, i < n → μ[kn + 1 + i]? = some (.lst [])
theorem KS.next {kn C t s : Nat} {μ0 μ : Mem} (h : KS kn C (t * C + s) μ0 μ) (hs : s < C) : KS kn C (t * C + s + 1) μ0 ((μ ++ [Cell.lst []]).set kn (.dct false (keysN kn C (t * C + s + 1)))) := by
  have hl := (List.getElem?_eq_some_iff.mp h.dc).1
  refine ⟨(h.kb.app _).put h.h0 _, h.h0, by simp [h.len]; omega, List.getElem?_set_self (by simp; omega), fun i hi => ?_⟩
  rw [List.getElem?_set_ne (by omega)]
  by_cases e : i = t * C + s
  · subst e
    rw [← h.len]; simp
  · rw [List.getElem?_append_left (by rw [h.len]; omega)]
    exact h.cl i (by omega)
theorem mul_nat (a b : Nat) (h : b ≤ 1000) (μ : Mem) : binD .mul (.int ((a : Nat) : Int)) (.int (b : Nat)) μ = .ok (.int ((a * b : Nat) : Int)) μ := by
  rw [mulK (by omega)]
  congr 2
theorem rng_add2 (n : Nat) (h : n ≤ 900000) (μ : Mem) : rngOf (.int (((n : Nat) : Int) + 2)) μ = .ok ⟨rngD 0 (n + 2), [], false⟩ μ := by
  have := rng_w (show n + 2 ≤ 1000000 by omega) μ
  rwa [show ((n + 2 : Nat) : Int) = ((n : Nat) : Int) + 2 by omega] at this
section
variable {Γ : Gam} {K : Env' → Mem → Prop} {R : Mi.D → Mem → Prop} {N B C' : Env' → Mem → Prop} {Y : Str → List (Str × Mi.D) → Env' → Mem → Prop}
variable {F D T M C : Nat} {ts : List (List Meth)} {ss : List (List Bool)} {ms : List (List (Option Nat))} {μ : Mem}
theorem ends_p1 (ok : BookOk F D T M ts) (hT : T ≤ 1000) (wk : WOk F D C ss ms) (hC : C ≤ 1000)
    (hK : ∀ kn a3 a4 μ', KS kn C (T * C) μ μ' → K (envE (some (bookD F D ts)) (some (wD F ss ms)) (some (.ref kn)) a3 a4 none none none none none) μ') :
    OS (exSs Γ (MSs.tk 2 b__law_ends) [some (bookD F D ts), some (wD F ss ms), none, none, none, none, none, none, none, none] μ) K R B C' Y := by
  have lts : (tasksD ts).length = T := by simp [tasksD, ok.len]
  have lss : (ss.map stD).length = C := by simp [wk.sl]
  have rT := rng_w (show T ≤ 1000000 by omega)
  have rC := rng_w (show C ≤ 1000000 by omega)
  have ks0 : KS μ.length C 0 μ (μ ++ [Cell.dct false []]) := ⟨(Kb.rfl' μ).app _, Nat.le_refl _, by simp, by simp [keysN], fun i hi => by omega⟩
  have hTC : T * C ≤ 1000000 := Nat.mul_le_mul hT hC
  simp [b__law_ends, MSs.tk, bookD, biD, lts, rT, -Bool.exists_bool]
  generalize μ ++ [Cell.dct false []] = μ1 at *
  generalize μ.length = kn at *
  refine OS.loop (fun i ρ μ' => ∃ a3 a4, ρ = envE (some (bookD F D ts)) (some (wD F ss ms)) (some (.ref kn)) a3 a4 none none none none none ∧ KS kn C (i * C) μ μ') ⟨none, none, rfl, by simpa using ks0⟩ ?_ ?_
  · intro t d ρ μ' hd ⟨a3, a4, hρ, ks⟩
    obtain ⟨ht, ed⟩ := rng_get hd
    subst ed; subst hρ
    refine ⟨rfl, _, rfl, fun K' hK' => ?_⟩
    simp [fBody, l5__law_ends, wD, biD, lss, rC, -Bool.exists_bool]
    refine OS.loop (fun j ρ μ' => ∃ a4, ρ = envE (some (bookD F D ts)) (some (wD F ss ms)) (some (.ref kn)) (some (.int (t : Nat))) a4 none none none none none ∧ KS kn C (t * C + j) μ μ') ⟨a4, rfl, ks⟩ ?_ ?_
    · intro s d ρ μ2 hd ⟨a4, hρ, ks⟩
      obtain ⟨hs, ed⟩ := rng_get hd
      subst ed; subst hρ
      refine ⟨rfl, _, rfl, fun K2 hK2 => ?_⟩
      have dc1 : (μ2 ++ [Cell.lst []])[kn]? = some (.dct false (keysN kn C (t * C + s))) := by rw [List.getElem?_append_left (List.getElem?_eq_some_iff.mp ks.dc).1]; exact ks.dc
      have hk : isKeyT (.tup [.int (t : Nat), .int (s : Nat)]) = true := rfl
      have hlk : (keysN kn C (t * C + s)).length < lim := by
        have := ix_lt ht hs
        rw [limV]; simp [keysN]; omega
      have es : setD (.ref kn) (.tup [.int (t : Nat), .int (s : Nat)]) (.ref μ2.length) (μ2 ++ [Cell.lst []]) = some ((μ2 ++ [Cell.lst []]).set kn (.dct false (keysN kn C (t * C + s + 1)))) := by
        have q := keysN_put (kn := kn) (t := t) hs
        rw [← ks.len] at q
        simp only [setD, dc1, hk, hlk, and_self, if_true]
        rw [← q]; rfl
      simp [fBody, l6__law_ends, limV, es, -Bool.exists_bool]
      exact hK2 _ _ ⟨_, rfl, ks.next hs⟩
    · intro ρ μ2 ⟨a4, hρ, ks⟩
      subst hρ
      rw [rng_len] at ks
      refine ⟨rfl, hK' _ _ ⟨_, _, rfl, ?_⟩⟩
      rw [Nat.succ_mul]; exact ks
  · intro ρ μ' ⟨a3, a4, hρ, ks⟩
    subst hρ
    rw [rng_len] at ks
    exact ⟨rfl, by simpa using hK kn _ _ _ ks⟩
theorem ends_loop (Op : OpenW Γ) (Fo : FollowW Γ) (ok : BookOk F D T M ts) (hM : M ≤ 1000) (wk : WOk F D C ss ms) (hC0 : 0 < C) (hC : C ≤ 1000) {kn Nn : Nat} (hN : T * C * C < Nn) {μ0 : Mem} {a3 a4 a5 a6 a7 a8 a9 : Option Mi.D} (kn0 : KN kn T C false (fun _ _ => []) μ) (kb0 : Kb μ0 μ) (h0 : μ0.length ≤ kn)
    (hK : ∀ f a5 a6 a7 a8 a9 μ', KN kn T C false f μ' → Kb μ0 μ' → FOk C f → (∀ t s, t < T → s < C → ∀ e, e ∈ f t s ↔ End (opnW ts ss) (mvW ms) t s e) → N (envE (some (bookD F D ts)) (some (wD F ss ms)) (some (.ref kn)) a3 a4 a5 a6 a7 a8 a9) μ') :
    OS (forL (fBody Γ l1__law_ends) (.nm 5) [] (rngD 0 Nn) (envE (some (bookD F D ts)) (some (wD F ss ms)) (some (.ref kn)) a3 a4 a5 a6 a7 a8 a9) μ) N R B C' Y := by
  refine OS.loop (fun i ρ μ' => ∃ f a5 a6 a7 a8 a9, ρ = envE (some (bookD F D ts)) (some (wD F ss ms)) (some (.ref kn)) a3 a4 a5 a6 a7 a8 a9 ∧ KN kn T C false f μ' ∧ FOk C f ∧ (∀ t s e, e ∈ f t s → End (opnW ts ss) (mvW ms) t s e) ∧ Kb μ0 μ' ∧ i ≤ tot T C f) ⟨_, _, _, _, _, _, rfl, kn0, ⟨fun _ _ => List.nodup_nil, fun _ _ _ h => absurd h List.not_mem_nil⟩, (fun _ _ _ h => absurd h List.not_mem_nil), kb0, Nat.zero_le _⟩ ?_ ?_
  · intro i d ρ μ' hd ⟨f, a5, a6, a7, a8, a9, hρ, kn', fo, so, kb, hi⟩
    obtain ⟨hj, ed⟩ := rng_get hd
    subst ed; subst hρ
    refine ⟨rfl, _, rfl, fun K' hK' => ?_⟩
    refine ends_l1 Op Fo ok hM wk hC0 hC kn' fo so kb h0 (fun f2 mo2 p2 k2 a2 μ2 q1 q2 q3 q4 q5 => hK' _ _ ⟨f2, _, _, _, _, _, rfl, q1, q2, q3, q4, by omega⟩) fun mo2 p2 k2 a2 μ2 q1 q2 q3 => ?_
    refine hK f _ _ _ _ _ _ q1 q2 fo fun t s ht hs e => ⟨so t s e, fun hE => ?_⟩
    refine end_complete (T := T) (K := fun t s e => e ∈ f t s) (fun s => s < C) (fun t s ht hs st hst e he => ?_) (fun t s ht st hst x hx hx1 => ?_) (fun s d s' _ h => wk.mv.lt s d s' h) ht hs hE
    · obtain ⟨k, hk, ek⟩ := opn_openL hst
      exact q3 t s ht hs k hk e (mem_follow.mpr ⟨s, by simp, by rw [ek]; exact he⟩)
    · have := opnW_task ok hst x hx
      simpa [hx1] using this
  · intro ρ μ' ⟨f, a5, a6, a7, a8, a9, hρ, kn', fo, so, kb, hi⟩
    rw [rng_len] at hi
    have := tot_le (T := T) (C := C) (B := C) (f := f) fun t s _ _ => fo.len t s
    omega
end
theorem ends_of {Γ Γ' : Gam} (Op : OpenW Γ) (Fo : FollowW Γ) (e : ∀ ds μ, Γ'.fn "_law_ends" ds μ = runD Γ ⟨2, 10, b__law_ends⟩ ds μ) : EndsW Γ' := fun μ F D T M C ts ss ms ok hM hT wk hC0 hC => by
  rw [e, run_ans _ _ _ _ rfl]
  refine okx_of fun P hP => ?_
  have hTC : T * C ≤ 300 := Nat.mul_le_mul hT hC
  have hTCC : T * C * C ≤ 15000 := Nat.mul_le_mul hTC hC
  have lss : (ss.map stD).length = C := by simp [wk.sl]
  rw [w_ans]
  refine OS.cut 2 (fun ρ μ' => ∃ kn a3 a4, ρ = envE (some (bookD F D ts)) (some (wD F ss ms)) (some (.ref kn)) a3 a4 none none none none none ∧ KS kn C (T * C) μ μ') (fun K hK => ends_p1 ok (by omega) wk (by omega) fun kn a3 a4 μ' ks => hK _ _ ⟨kn, a3, a4, rfl, ks⟩) fun ρ μ' ⟨kn, a3, a4, hρ, ks⟩ => ?_
  subst hρ
  have hlk : (keysN kn C (T * C)).length = T * C := by simp [keysN]
  have emul := mul_nat (T * C) C (by omega) μ'
  have radd := rng_add2 (T * C * C) (by omega) μ'
  have hN : T * C * C < T * C * C + 2 := by omega
  have ekn : lenD (.ref kn) μ' = some (T * C) := by simp only [lenD, ks.dc, hlk]
  have kn0 : KN kn T C false (fun _ _ => []) μ' := ⟨ks.dc, fun i hi => by rw [ks.cl i hi]; rfl⟩
  have h0 := ks.h0
  have kb0 := ks.kb
  have eb1 : biD .len (.ref kn) μ' = some (.int ((T * C : Nat) : Int)) := by simp only [biD, ekn]; rfl
  have eb2 : biD .len (.tup (ss.map stD)) μ' = some (.int (C : Nat)) := by simp only [biD, lenD, lss]; rfl
  clear ks hTCC hTC hlk ekn
  generalize hNn : T * C * C + 2 = Nn at *
  generalize hN2 : T * C * C = N2 at *
  rw [← hN2] at hN
  generalize ((T * C : Nat) : Int) = z1 at *
  simp only [MSs.dp, b__law_ends]
  simp only [x_cons, x_for, w_thn, w_to, s_rng1, k_bind, s_bin, s_bi, s_var, s_sub, s_con, k_ok, List.getElem?_cons_succ, List.getElem?_cons_zero, eb1, eb2, wD, sub_tup, at1', Res.ofO_some, emul, b_add, radd]
  refine ends_loop Op Fo ok hM wk hC0 (by omega) hN kn0 kb0 h0 fun f a5 a6 a7 a8 a9 μ2 q1 q2 q3 q4 => ?_
  simp
  exact hP _ _ ⟨kn, f, rfl, h0, q2, q1, q3, q4⟩
theorem ends_w (n : Nat) : EndsW (G (n + 3)) := ends_of (open_w n) (follow_w (n + 1)) (f__law_ends (n + 2))
end Lw
/-! W25: the line world of a string; what the law says of it. -/
namespace Lw
open PySem Mi

def lineMv (ds : List Nat) (s d : Nat) : Option Nat := if ds[s]? = some d then some (s + 1) else none
def lineMs (D : Nat) (ds : List Nat) (L : Nat) : List (List (Option Nat)) := (List.range L).map fun k => (List.range D).map fun j => lineMv ds k j
theorem line_ok {F D L : Nat} {fs : List (List Bool)} {ds : List Nat} (hf : ∀ l ∈ fs, l.length = F) (hL : fs.length = L) (hd : L = ds.length + 1) : WOk F D L fs (lineMs D ds L) := by
  refine ⟨hL, hf, by simp [lineMs], fun l hl => ?_⟩
  obtain ⟨k, hk, e⟩ := List.mem_map.mp hl
  subst e
  refine ⟨by simp, fun x hx i hi => ?_⟩
  obtain ⟨j, hj, e⟩ := List.mem_map.mp hx
  subst e
  unfold lineMv at hi
  split at hi
  · rename_i h
    have := (List.getElem?_eq_some_iff.mp h).1
    cases hi; omega
  · cases hi
theorem lineMs_mv {D L s d : Nat} {ds : List Nat} (hs : s < L) (hd : d < D) : mvW (lineMs D ds L) s d = lineMv ds s d := by
  unfold mvW lineMs
  simp [hs, hd]
theorem lineMs_none {D L s d : Nat} {ds : List Nat} (h : ¬ (s < L ∧ d < D)) : mvW (lineMs D ds L) s d = none := by
  unfold mvW lineMs
  by_cases hs : s < L
  · have hd : ¬ d < D := fun z => h ⟨hs, z⟩
    simp [hs, List.getElem?_eq_none (show (List.range D).length ≤ d by simp; omega)]
  · simp [List.getElem?_eq_none (show (List.range L).length ≤ s by simp; omega)]
def LineW (Γ : Gam) : Prop := ∀ (μ : Mem) (F D : Nat) (ts : List (List Meth)) (fs : List (List Bool)) (ds : List Nat), D ≤ 1000 → fs.length ≤ 1000 →
  OkX (Γ.fn "_law_line_world" [bookD F D ts, .tup (fs.map stD), .tup (intsD ds)] μ) (fun v μ' => v = wD F fs (lineMs D ds fs.length) ∧ Kb μ μ') X0
theorem line_row {D k : Nat} {ds : List Nat} : mvD ((List.range D).map fun j => lineMv ds k j) = .tup ((List.range D).map fun j => moveD (lineMv ds k j)) := by
  unfold mvD; rw [List.map_map]; rfl
theorem line_of {Γ Γ' : Gam} (e : ∀ ds μ, Γ'.fn "_law_line_world" ds μ = runD Γ ⟨3, 6, b__law_line_world⟩ ds μ) : LineW Γ' := fun μ F D ts fs ds hD hL => by
  rw [e, run_ans _ _ _ _ rfl]
  refine okx_of fun P hP => ?_
  have rL := rng_w (show fs.length ≤ 1000000 by omega)
  have rD := rng_w (show D ≤ 1000000 by omega)
  have hm0 : (μ ++ [Cell.lst []])[μ.length]? = some (.lst []) := by simp
  have kb0 : Kb μ (μ ++ [Cell.lst []]) := (Kb.rfl' μ).app _
  simp [b__law_line_world, biD, limV, rL, -Bool.exists_bool]
  generalize hm : μ.length = m at *
  generalize μ ++ [Cell.lst []] = μ1 at *
  refine OS.loop (fun i ρ μ' => ∃ a4 a5, ρ = [some (bookD F D ts), some (.tup (fs.map stD)), some (.tup (intsD ds)), some (.ref m), a4, a5] ∧ Kb μ μ' ∧ μ'[m]? = some (.lst ((lineMs D ds i).map mvD))) ⟨none, none, rfl, kb0, by simpa [lineMs] using hm0⟩ ?_ ?_
  · intro j d ρ μ' hd ⟨a4, a5, hρ, kb, hc⟩
    obtain ⟨hj, ed⟩ := rng_get hd
    subst ed; subst hρ
    refine ⟨rfl, _, rfl, fun K hK => ?_⟩
    have hnl : ((lineMs D ds j).map mvD).length < lim := by rw [limV]; simp [lineMs]; omega
    simp [fBody, l1__law_line_world, bookD, rD, isL hc, -Bool.exists_bool]
    refine OkX.lc (fun i acc μ2 => acc = (List.range i).map (fun k => moveD (lineMv ds j k)) ∧ μ2 = μ') ⟨rfl, rfl⟩ (by rw [rng_len, limV]; omega) ?_ ?_
    · intro i d acc μ2 hd ⟨h1, h2⟩
      obtain ⟨hi, ed⟩ := rng_get hd
      subst ed; subst h1; subst h2
      refine ⟨rfl, fun K2 hK2 => ?_⟩
      have fin : K2 ((List.range i).map (fun k => moveD (lineMv ds j k)) ++ [moveD (lineMv ds j i)]) μ2 := hK2 _ _ ⟨by rw [List.range_succ, List.map_append]; rfl, rfl⟩
      simp [wipeE, e1__law_line_world, biD, -Bool.exists_bool]
      by_cases hjl : j < ds.length
      · have ea : atD (intsD ds) ((j : Nat) : Int) = some (.int (ds[j] : Nat)) := at_nat (by simp [hjl])
        simp [hjl, ea, -Bool.exists_bool]
        by_cases hji : ds[j] = i
        · have hb : (((ds[j] : Nat) : Int) == (i : Int)) = true := by simp [hji]
          simp [hji, -Bool.exists_bool]
          simpa [lineMv, hjl, hji, moveD] using fin
        · have hb : ¬ ((ds[j] : Nat) : Int) = (i : Int) := by omega
          simp [hb, -Bool.exists_bool]
          simpa [lineMv, hjl, hji, moveD] using fin
      · simp [hjl, -Bool.exists_bool]
        simpa [lineMv, List.getElem?_eq_none (show ds.length ≤ j by omega), moveD] using fin
    · intro acc μ2 ⟨h1, h2⟩
      subst h1; subst h2
      rw [rng_len]
      refine ⟨rfl, ?_⟩
      refine app_w hc hnl (hK _ _ ⟨_, _, rfl, kb.put (show μ.length ≤ m by omega) _, ?_⟩)
      rw [set_at hc]
      simp only [lineMs, List.range_succ, List.map_append, List.map_cons, List.map_nil, line_row]
  · intro ρ μ' ⟨a4, a5, hρ, kb, hc⟩
    subst hρ
    refine ⟨rfl, ?_⟩
    rw [rng_len] at hc
    simp [bookD, its_lst hc]
    exact hP _ _ ⟨rfl, kb⟩
theorem line_w (n : Nat) : LineW (G (n + 1)) := line_of (f__law_line_world n)
def AcceptsLW (Γ : Gam) : Prop := ∀ (μ : Mem) (F D T M t : Nat) (ts : List (List Meth)) (fs : List (List Bool)) (ds : List Nat), BookOk F D T M ts → M ≤ 1000 → T ≤ 6 → D ≤ 1000 → (∀ l ∈ fs, l.length = F) → fs.length = ds.length + 1 → ds.length < 50 → t < T →
  OkX (Γ.fn "_law_accepts" [bookD F D ts, .int t, .tup [.tup (fs.map stD), .tup (intsD ds)]] μ) (fun v μ' => ∃ b : Bool, v = .bl b ∧ Kb μ μ' ∧ (b = true ↔ End (opnW ts fs) (mvW (lineMs D ds fs.length)) t 0 ds.length)) X0
theorem acceptsl_of {Γ Γ' : Gam} (Li : LineW Γ) (En : EndsW Γ) (e : ∀ ds μ, Γ'.fn "_law_accepts" ds μ = runD Γ ⟨3, 4, b__law_accepts⟩ ds μ) : AcceptsLW Γ' := fun μ F D T M t ts fs ds ok hM hT hD hf hl hd ht => by
  rw [e, run_ans _ _ _ _ rfl]
  refine okx_of fun P hP => ?_
  have wk := line_ok (D := D) hf rfl hl
  simp [b__law_accepts, -Bool.exists_bool]
  refine (Li μ F D ts fs ds hD (by omega)).imp fun v μ1 ⟨e1, kb1⟩ => ?_
  subst e1
  simp [biD, -Bool.exists_bool]
  refine (En μ1 F D T M fs.length ts fs (lineMs D ds fs.length) ok hM hT wk (by omega) (by omega)).imp fun v μ2 ⟨kn, f, e2, hkn, kb2, k, fo, hE⟩ => ?_
  subst e2
  have hs : (0 : Nat) < fs.length := by omega
  have hsub := k.sub ht hs
  have hat := k.at ht hs
  simp at hsub
  rw [Nat.add_zero] at hat
  have hin := in_lst hat ds.length
  simp [limV, hsub, c_in, hin, -Bool.exists_bool]
  refine ⟨_, ⟨_, hin, rfl⟩, hP _ _ ⟨_, rfl, kb1.trans kb2, ?_⟩⟩
  rw [decide_eq_true_eq]
  exact hE t 0 ht hs ds.length
theorem acceptsl_w (n : Nat) : AcceptsLW (G (n + 4)) := acceptsl_of (line_w (n + 2)) (ends_w n) (f__law_accepts (n + 3))
end Lw
/-! W26: `holds`, `methods_taken`, `is_string`. -/
namespace Lw
open PySem Mi

structure BPropW (Γ : Gam) : Prop where
  pf : Γ.prop "Book" "facts" = some ("Book.facts" : Str)
  pd : Γ.prop "Book" "deeds" = some ("Book.deeds" : Str)
  pt : Γ.prop "Book" "tasks" = some ("Book.tasks" : Str)
  bf : ∀ μ r f d t, bookI r f d t μ → Γ.fn "Book.facts" [.ref r] μ = .ok f μ
  bd : ∀ μ r f d t, bookI r f d t μ → Γ.fn "Book.deeds" [.ref r] μ = .ok d μ
  bt : ∀ μ r f d t, bookI r f d t μ → Γ.fn "Book.tasks" [.ref r] μ = .ok t μ
theorem bprop_w (n : Nat) : BPropW (G (n + 1)) := by
  refine ⟨prop_Book_facts _, prop_Book_deeds _, prop_Book_tasks _, fun μ r f d t h => ?_, fun μ r f d t h => ?_, fun μ r f d t h => ?_⟩
  · rw [f_Book_facts, run1]
    unfold bookI at h
    have q : (G n).prop "Book" "_facts" = none := np_Book__facts _
    have f1 := fld_Book__facts n
    simp [b_Book_facts, h, q, f1, fldD]
  · rw [f_Book_deeds, run1]
    unfold bookI at h
    have q : (G n).prop "Book" "_deeds" = none := np_Book__deeds _
    have f1 := fld_Book__deeds n
    have e : fldD [(("_facts" : Str), f), ("_deeds", d), ("_tasks", t)] "_deeds" = some d := by kernel_rfl
    simp [b_Book_deeds, h, q, f1, e]
  · rw [f_Book_tasks, run1]
    unfold bookI at h
    have q : (G n).prop "Book" "_tasks" = none := np_Book__tasks _
    have f1 := fld_Book__tasks n
    have e : fldD [(("_facts" : Str), f), ("_deeds", d), ("_tasks", t)] "_tasks" = some t := by kernel_rfl
    simp [b_Book_tasks, h, q, f1, e]
def HoldsW (Γ : Gam) : Prop := ∀ (μ : Mem) (c : List (Nat × Bool)) (x : Mi.D) (fs : List Bool), seqOf x μ = some (fs.map Mi.D.bl) → (∀ p ∈ c, p.1 < fs.length) → OkX (Γ.fn "holds" [.tup (pairsD c), x] μ) (fun v μ' => v = .bl (hold c fs) ∧ μ' = μ) X0
theorem holds_of {Γ Γ' : Gam} (e : ∀ ds μ, Γ'.fn "holds" ds μ = runD Γ ⟨2, 4, b_holds⟩ ds μ) : HoldsW Γ' := fun μ c x fs hx hc => by
  rw [e, run_ans _ _ _ _ rfl]
  refine okx_of fun P hP => ?_
  simp [b_holds, -Bool.exists_bool]
  refine OS.loop (fun i ρ μ' => ∃ a2 a3, ρ = [some (.tup (pairsD c)), some x, a2, a3] ∧ μ' = μ ∧ hold c fs = hold (c.drop i) fs) ⟨none, none, rfl, rfl, rfl⟩ ?_ ?_
  · intro j d ρ μ' hd ⟨a2, a3, hρ, hμ, hl⟩
    subst hρ; subst hμ
    rw [List.getElem?_map] at hd
    obtain ⟨p, hp, e⟩ := Option.map_eq_some_iff.mp hd
    subst e
    refine ⟨rfl, [some (.tup (pairsD c)), some x, some (.int (p.1 : Nat)), some (.bl p.2)], rfl, fun K hK => ?_⟩
    have hlt := hc p (List.mem_of_getElem? hp)
    have ea : subD x (.int ((p.1 : Nat) : Int)) μ' = some (.bl (fs.getD p.1 false)) := by
      rw [sub_seq hx]
      exact at_nat (by rw [List.getElem?_map, List.getElem?_eq_getElem hlt, getD_some hlt]; rfl)
    rw [drop_get hp] at hl
    have hl2 : hold c fs = ((fs.getD p.1 false == p.2) && hold (c.drop (j + 1)) fs) := by rw [hl]; rfl
    generalize fs.getD p.1 false = q at *
    simp [fBody, l1_holds, ea, neB, -Bool.exists_bool]
    by_cases hh : q = p.2
    · simp [hh]
      exact hK _ _ ⟨_, _, rfl, rfl, by rw [hl2, hh, beq_self_eq_true, Bool.true_and]⟩
    · have hb : (q == p.2) = false := by simpa using hh
      simp [hh]
      exact hP _ _ ⟨by rw [hl2, hb, Bool.false_and], rfl⟩
  · intro ρ μ' ⟨a2, a3, hρ, hμ, hl⟩
    subst hρ; subst hμ
    refine ⟨rfl, hP _ _ ⟨?_, rfl⟩⟩
    rw [hl]
    simp [hold]
theorem holds_w (n : Nat) : HoldsW (G (n + 1)) := holds_of (f_holds n)
/-- the steps of the methods that may be taken -/
def takenL (ms : List Meth) (fs : List Bool) : List (List Step) := (ms.filter fun m => hold m.1 fs).map (·.2)
def stepsD (st : List Step) : Mi.D := .tup (st.map stepD)
def takenD (ts : List (List Meth)) (fs : List Bool) : Mi.D := .tup (ts.map fun ms => .tup ((takenL ms fs).map stepsD))
theorem takenL_opn {ts : List (List Meth)} {ss : List (List Bool)} {t s : Nat} : opnW ts ss t s = takenL (ts.getD t []) (ss.getD s []) := rfl
def TakenW (Γ : Gam) : Prop := ∀ (μ : Mem) (F D T M r : Nat) (ts : List (List Meth)) (x : Mi.D) (fs : List Bool), BookOk F D T M ts → M ≤ 1000 → T ≤ 1000 → bookI r (.int F) (.int D) (.tup (tasksD ts)) μ → seqOf x μ = some (fs.map Mi.D.bl) → fs.length = F →
  OkX (Γ.fn "methods_taken" [.ref r, x] μ) (fun v μ' => v = takenD ts fs ∧ μ' = μ) X0
theorem taken_of {Γ Γ' : Gam} (Q : BPropW Γ) (H : HoldsW Γ) (e : ∀ ds μ, Γ'.fn "methods_taken" ds μ = runD Γ ⟨2, 5, b_methods_taken⟩ ds μ) : TakenW Γ' := fun μ F D T M r ts x fs ok hM hT hb hx hF => by
  rw [e, run_ans _ _ _ _ rfl]
  refine okx_of fun P hP => ?_
  simp [b_methods_taken, hb, Q.pt, Q.bt _ _ _ _ _ hb, -Bool.exists_bool]
  have hb' : μ[r]? = some (bookC (.int F) (.int D) (.tup (tasksD ts))) := hb
  refine OkX.lc (fun i acc μ' => acc = (ts.take i).map (fun ms => .tup ((takenL ms fs).map stepsD)) ∧ μ' = μ) ⟨rfl, rfl⟩ (by rw [limV]; simp [tasksD, ok.len]; omega) ?_ ?_
  · intro i d acc μ' hd ⟨h1, h2⟩
    subst h1; subst h2
    rw [tasksD, List.getElem?_map] at hd
    obtain ⟨ms, hms, ed⟩ := Option.map_eq_some_iff.mp hd
    subst ed
    obtain ⟨hml, hmo⟩ := ok.m ms (List.mem_of_getElem? hms)
    refine ⟨rfl, fun K hK => ?_⟩
    simp [wipeE, e1_methods_taken, -Bool.exists_bool]
    refine OkX.lc (fun j acc μ2 => acc = (takenL (ms.take j) fs).map stepsD ∧ μ2 = μ') ⟨rfl, rfl⟩ (by rw [limV]; simp; omega) ?_ ?_
    · intro j d acc μ2 hd ⟨h1, h2⟩
      subst h1; subst h2
      rw [List.getElem?_map] at hd
      obtain ⟨m, hm, ed⟩ := Option.map_eq_some_iff.mp hd
      subst ed
      refine ⟨rfl, fun K2 hK2 => ?_⟩
      have mo := hmo m (List.mem_of_getElem? hm)
      have ea : asgn (.tp [2, 3]) (methD m) (wipeE [some (.ref r), some x, none, none, some (.tup (ms.map methD))] [2, 3]) μ2 = some [some (.ref r), some x, some (.tup (pairsD m.1)), some (stepsD m.2), some (.tup (ms.map methD))] := rfl
      have et : takenL (ms.take (j + 1)) fs = takenL (ms.take j) fs ++ if hold m.1 fs then [m.2] else [] := by
        unfold takenL
        rw [take_snoc hm, List.filter_append, List.map_append, List.filter_cons]
        cases hold m.1 fs <;> rfl
      rw [cS_step, ea]
      simp [-Bool.exists_bool]
      refine (H μ2 m.1 x fs hx (fun p hp => by rw [hF]; exact psB_lt mo.c p hp)).imp fun v μ3 ⟨e1, e2⟩ => ?_
      subst e1; subst e2
      cases hh : hold m.1 fs with
      | true =>
        simp
        refine hK2 _ _ ⟨?_, rfl⟩
        rw [et, hh]; simp
      | false =>
        simp
        refine hK2 _ _ ⟨?_, rfl⟩
        rw [et, hh]; simp
    · intro acc μ2 ⟨h1, h2⟩
      subst h1; subst h2
      rw [List.length_map, List.take_length]
      refine ⟨rfl, hK _ _ ⟨?_, rfl⟩⟩
      rw [take_snoc hms]; simp
  · intro acc μ' ⟨h1, h2⟩
    subst h1; subst h2
    rw [tasksD, List.length_map, List.take_length]
    exact ⟨rfl, hP _ _ ⟨rfl, rfl⟩⟩
theorem taken_w (n : Nat) : TakenW (G (n + 2)) := taken_of (bprop_w n) (holds_w n) (f_methods_taken (n + 1))
/-! ### is_string -/
def strT (F D : Int) : Mi.D → Bool
  | .tup [a, b] => (isSeqT a && (isSeqT b && (((seqT a).length : Int) == (seqT b).length + 1))) && ((seqT a).all (flagsT F) && (seqT b).all (isNum · D))
  | _ => false
theorem strT_len {F D : Int} {ps : List Mi.D} (h : ps.length ≠ 2) : strT F D (.tup ps) = false := by
  match ps, h with
  | [], _ => rfl
  | [a], _ => rfl
  | [a, b], h => simp at h
  | a :: b :: c :: r, _ => rfl
def IsStrW (Γ : Gam) : Prop := ∀ (μ : Mem) (r : Nat) (F D : Nat) (ts t x : Mi.D) (k : Nat), bookI r (.int F) (.int D) ts μ → Lk μ t x → okD k t = true → OkX (Γ.fn "is_string" [.ref r, x] μ) (fun v μ' => v = .bl (strT F D t) ∧ μ' = μ) X0
theorem isSeq_tup {t : Mi.D} (h : isSeqT t = true) : ∃ ts, t = .tup ts := by
  cases t with
  | tup ts => exact ⟨ts, rfl⟩
  | _ => simp [isSeqT] at h
theorem isstr_of {Γ Γ' : Gam} (S : SeqW Γ) (N : NumW Γ) (L : FlagsW Γ) (Q : BPropW Γ) (e : ∀ ds μ, Γ'.fn "is_string" ds μ = runD Γ ⟨2, 6, b_is_string⟩ ds μ) : IsStrW Γ' := fun μ r F D ts t x k hb h ok => by
  rw [e, run_ans _ _ _ _ rfl]
  refine okx_of fun P hP => ?_
  have hb' : μ[r]? = some (bookC (.int F) (.int D) ts) := hb
  simp [b_is_string, S μ t x k h ok, -Bool.exists_bool]
  rcases lk_cases h ok with ⟨ps, es, e, g1, g2, g3, g4⟩ | ⟨e, e2, e3⟩
  · subst e
    have gl := g2.len
    simp [isSeqT, biD, len_seq g1, -Bool.exists_bool]
    rcases two_or (l := ps) with ⟨a, b, e⟩ | h2
    · subst e
      obtain ⟨y, z, e, l1, l2⟩ := g2.two
      subst e
      simp only [okDs, Bool.and_eq_true] at g3
      have oka := g3.1
      have okb := g3.2.1
      have ea : asgn (.tp [2, 3]) x [some (.ref r), some x, none, none, none, none] μ = some [some (.ref r), some x, some y, some z, none, none] := by
        simp only [asgn, g1]; rfl
      have S1 := S μ a y _ l1 oka
      have S2 := S μ b z _ l2 okb
      simp [ea, S1, -Bool.exists_bool]
      cases ha : isSeqT a with
      | false =>
        simp [-Bool.exists_bool]
        exact hP _ _ ⟨by simp [strT, ha], rfl⟩
      | true =>
        simp [S2, -Bool.exists_bool]
        cases hbb : isSeqT b with
        | false =>
          simp [-Bool.exists_bool]
          exact hP _ _ ⟨by simp [strT, hbb], rfl⟩
        | true =>
          obtain ⟨as, e⟩ := isSeq_tup ha
          subst e
          obtain ⟨bs, e⟩ := isSeq_tup hbb
          subst e
          simp only [Lk] at l1 l2
          obtain ⟨ys, y1, y2⟩ := l1
          obtain ⟨zs, z1, z2⟩ := l2
          have oka' : okDs (k - 1 - 1) as = true := by
            cases hk : k - 1 with
            | zero => rw [hk] at oka; simp [okD] at oka
            | succ n => rw [hk] at oka; simp only [okD, Bool.and_eq_true] at oka; exact oka.2
          have okb' : okDs (k - 1 - 1) bs = true := by
            cases hk : k - 1 with
            | zero => rw [hk] at okb; simp [okD] at okb
            | succ n => rw [hk] at okb; simp only [okD, Bool.and_eq_true] at okb; exact okb.2
          have ly := y2.len
          have lz := z2.len
          simp [len_seq y1, len_seq z1, -Bool.exists_bool]
          by_cases hl : (ys.length : Int) = (zs.length : Int) + 1
          · have hb1 : ((ys.length : Int) == (zs.length : Int) + 1) = true := by simpa using hl
            obtain ⟨own, tup, ei, hck⟩ := its_own y1
            obtain ⟨own2, tup2, ei2, hck2⟩ := its_own z1
            simp [hb1, ei, -Bool.exists_bool]
            have hst : ∀ bb : Bool, bb = (as.all (flagsT F) && bs.all (isNum · D)) → strT F D (.tup [.tup as, .tup bs]) = bb := fun bb hbb2 => by
              have q : ((as.length : Int) == bs.length + 1) = true := by rw [ly, lz]; exact hb1
              simp only [strT, isSeqT, seqT, q, Bool.true_and, hbb2]
            refine OS.loop (fun i ρ μ' => ∃ a4, ρ = [some (.ref r), some x, some y, some z, a4, none] ∧ μ' = μ ∧ as.all (flagsT F) = (as.drop i).all (flagsT F)) ⟨none, rfl, rfl, rfl⟩ ?_ ?_
            · intro j d ρ μ' hd ⟨a4, hρ, hμ, hal⟩
              subst hρ; subst hμ
              refine ⟨hck, _, rfl, fun K hK => ?_⟩
              obtain ⟨p, hp, lp⟩ := y2.get hd
              rw [drop_get hp, List.all_cons] at hal
              simp [fBody, l2_is_string, hb', Q.pf, Q.bf _ _ _ _ _ hb, L μ' p d F _ lp (okDs_get oka' hp), -Bool.exists_bool]
              cases hpb : flagsT F p with
              | true => simp; exact hK _ _ ⟨some d, rfl, rfl, by rw [hal, hpb]; rfl⟩
              | false => simp; exact hP _ _ ⟨by rw [hst false]; rw [hal, hpb]; rfl, rfl⟩
            · intro ρ μ' ⟨a4, hρ, hμ, hal⟩
              subst hρ; subst hμ
              refine ⟨hck, ?_⟩
              rw [← ly, List.drop_length] at hal
              simp [ei2, -Bool.exists_bool]
              refine OS.loop (fun i ρ μ2 => ∃ a5, ρ = [some (.ref r), some x, some y, some z, a4, a5] ∧ μ2 = μ' ∧ bs.all (isNum · D) = (bs.drop i).all (isNum · D)) ⟨none, rfl, rfl, rfl⟩ ?_ ?_
              · intro j d ρ μ2 hd ⟨a5, hρ, hμ, hbl⟩
                subst hρ; subst hμ
                refine ⟨hck2, _, rfl, fun K hK => ?_⟩
                obtain ⟨p, hp, lp⟩ := z2.get hd
                rw [drop_get hp, List.all_cons] at hbl
                simp [fBody, l1_is_string, hb', Q.pd, Q.bd _ _ _ _ _ hb, N μ2 d D, lk_num lp, -Bool.exists_bool]
                cases hpb : isNum p D with
                | true => simp; exact hK _ _ ⟨some d, rfl, rfl, by rw [hbl, hpb]; rfl⟩
                | false => simp; exact hP _ _ ⟨by rw [hst false]; rw [hbl, hpb]; simp, rfl⟩
              · intro ρ μ2 ⟨a5, hρ, hμ, hbl⟩
                subst hρ; subst hμ
                refine ⟨hck2, ?_⟩
                rw [← lz, List.drop_length] at hbl
                refine hP _ _ ⟨?_, rfl⟩
                rw [hst true]
                rw [hal, hbl]; rfl
          · have hb1 : ((ys.length : Int) == (zs.length : Int) + 1) = false := by simpa using hl
            simp [hb1, -Bool.exists_bool]
            refine hP _ _ ⟨?_, rfl⟩
            have q : ((as.length : Int) == bs.length + 1) = false := by rw [ly, lz]; exact hb1
            simp only [strT, isSeqT, seqT, q, Bool.and_false, Bool.false_and]
    · have h2' : ((es.length : Int) == 2) = false := by simp; omega
      simp [h2', -Bool.exists_bool]
      exact hP _ _ ⟨by rw [strT_len h2], rfl⟩
  · subst e
    simp [e2, -Bool.exists_bool]
    exact hP _ _ ⟨by cases x <;> first | rfl | simp [isSeqT] at e2, rfl⟩
theorem isstr_w (n : Nat) : IsStrW (G (n + 3)) := isstr_of (seq_w (n + 1)) (num_w n) (flags_w n) (bprop_w (n + 1)) (f_is_string (n + 2))
end Lw
/-! W27: bits; `ends_of_steps`. -/
namespace Lw
open PySem Mi

theorem bitAnd_nat (a b : Nat) : Builtin.bitAnd (a : Int) (b : Int) = ((a &&& b : Nat) : Int) := by
  unfold Builtin.bitAnd
  have h1 : decide ((0 : Int) ≤ (a : Int)) = true := by simp
  have h2 : decide ((0 : Int) ≤ (b : Int)) = true := by simp
  rw [h1, h2]
  simp
theorem bitNot_neg (a : Nat) : decide ((0 : Int) ≤ Builtin.bitNot (a : Int)) = false := by
  unfold Builtin.bitNot; simp; omega
theorem bitNot_not (x : Int) : Builtin.bitNot (Builtin.bitNot x) = x := by unfold Builtin.bitNot; omega
theorem bitOr_nat (a b : Nat) : Builtin.bitOr (a : Int) (b : Int) = ((a ||| b : Nat) : Int) := by
  unfold Builtin.bitOr Builtin.bitAnd
  rw [bitNot_neg, bitNot_neg]
  simp only [bitNot_not]
  simp
/-- kept out of simp's sight -/
def shrN (r p : Nat) : Nat := r >>> p
def orN (a b : Nat) : Nat := a ||| b
def powN (p : Nat) : Nat := 2 ^ p
theorem b_shr (r p : Nat) (μ : Mem) : binD .shr (.int (r : Nat)) (.int (p : Nat)) μ = .ok (.int (shrN r p : Nat)) μ := by
  show Res.ofO ((binI .shr r p).map Mi.D.int) μ = _
  simp only [binI]
  rw [if_pos (by omega), shrN, Nat.shiftRight_eq_div_pow]
  simp
theorem b_bit (r p : Nat) (μ : Mem) : binD .band (.int (shrN r p : Nat)) (.int 1) μ = .ok (.int (if r.testBit p then 1 else 0)) μ := by
  show Res.ofO ((binI .band ((shrN r p : Nat) : Int) ((1 : Nat) : Int)).map Mi.D.int) μ = _
  simp only [binI, bitAnd_nat]
  have e : shrN r p &&& 1 = if r.testBit p then 1 else 0 := by
    rw [shrN, Nat.and_one_is_mod, Nat.testBit, Nat.and_comm, Nat.and_one_is_mod]
    have : (r >>> p) % 2 = 0 ∨ (r >>> p) % 2 = 1 := by omega
    rcases this with h | h <;> simp [h]
  rw [e]
  cases r.testBit p <;> rfl
theorem b_shl1 (p : Nat) (h : p ≤ 1000) (μ : Mem) : binD .shl (.int 1) (.int (p : Nat)) μ = .ok (.int (powN p : Nat)) μ := by
  show Res.ofO ((binI .shl 1 p).map Mi.D.int) μ = _
  simp only [binI]
  rw [if_pos ⟨by omega, by omega, by decide⟩]
  simp [powN]
theorem bor_nat (a b : Nat) : binI .bor (a : Int) (b : Int) = some ((orN a b : Nat) : Int) := by simp only [binI, bitOr_nat, orN]
theorem folK_snoc {K : Nat → Nat → Nat → Prop} {mv : Nat → Nat → Option Nat} {x : Step} : ∀ {a : List Step} {s e : Nat}, FolK K mv (a ++ [x]) s e ↔ ∃ m, FolK K mv a s m ∧ FolK K mv [x] m e
  | [], s, e => by simp [FolK]
  | (true, d) :: r, s, e => by
    simp only [List.cons_append, FolK, folK_snoc (a := r)]
    constructor
    · rintro ⟨s', h1, m, h2, h3⟩; exact ⟨m, ⟨s', h1, h2⟩, h3⟩
    · rintro ⟨m, ⟨s', h1, h2⟩, h3⟩; exact ⟨s', h1, m, h2, h3⟩
  | (false, t) :: r, s, e => by
    simp only [List.cons_append, FolK, folK_snoc (a := r)]
    constructor
    · rintro ⟨s', h1, m, h2, h3⟩; exact ⟨m, ⟨s', h1, h2⟩, h3⟩
    · rintro ⟨m, ⟨s', h1, h2⟩, h3⟩; exact ⟨s', h1, m, h2, h3⟩
theorem folK_one {K : Nat → Nat → Nat → Prop} {mv : Nat → Nat → Option Nat} {x : Step} {s e : Nat} : FolK K mv [x] s e ↔ if x.1 then mv s x.2 = some e else K x.2 s e := by
  obtain ⟨b, n⟩ := x
  cases b <;> simp [FolK]
/-- ends known so far, as bits -/
abbrev bitK (g : Nat → Nat → Nat) : Nat → Nat → Nat → Prop := fun t s e => (g s t).testBit e = true
structure BOk (dl : Nat) (g : Nat → Nat → Nat) : Prop where
  b : ∀ s t e, (g s t).testBit e = true → s ≤ e ∧ e ≤ dl
/-- the rows of ends -/
structure EM (eo L T : Nat) (ad : Nat → Nat) (g : Nat → Nat → Nat) (μ : Mem) : Prop where
  eo : μ[eo]? = some (.lst ((List.range L).map fun i => .ref (ad i)))
  cl : ∀ i, i < L → μ[ad i]? = some (.lst ((List.range T).map fun t => .int ((g i t : Nat) : Int)))
theorem EM.at {eo L T : Nat} {ad : Nat → Nat} {g : Nat → Nat → Nat} {μ : Mem} (h : EM eo L T ad g μ) {p t : Nat} (hp : p < L) (ht : t < T) : subD (.ref eo) (.int (p : Nat)) μ = some (.ref (ad p)) ∧ subD (.ref (ad p)) (.int (t : Nat)) μ = some (.int ((g p t : Nat) : Int)) := by
  refine ⟨?_, ?_⟩
  · rw [sub_lst h.eo]; exact at_nat (by simp [hp])
  · rw [sub_lst (h.cl p hp)]; exact at_nat (by simp [ht])
def EosW (Γ : Gam) : Prop := ∀ (μ : Mem) (T D eo : Nat) (ad : Nat → Nat) (g : Nat → Nat → Nat) (ds : List Nat) (x : Mi.D) (st : List Step) (at_ : Nat), ds.length ≤ 100 → EM eo (ds.length + 1) T ad g μ → BOk ds.length g → seqOf x μ = some (intsD ds) → (∀ y ∈ st, y.2 < if y.1 then D else T) → st.length ≤ 1000 → at_ ≤ ds.length →
  OkX (Γ.fn "ends_of_steps" [stepsD st, .int at_, x, .ref eo] μ) (fun v μ' => ∃ n : Nat, v = .int (n : Nat) ∧ μ' = μ ∧ ∀ e, n.testBit e = true ↔ FolK (bitK g) (lineMv ds) st at_ e) X0
theorem rng2_w (a b : Nat) (h1 : a ≤ 1000000) (h2 : b ≤ 1000000) (Γ : Gam) (ρ : Env') (μ : Mem) (x y : ME) (μ1 : Mem) (hx : evE Γ x ρ μ = .ok (.int (a : Nat)) μ1) {μ2 : Mem} (hy : evE Γ y ρ μ1 = .ok (.int (b : Nat)) μ2) : evI Γ (.rng2 x y) ρ μ = .ok ⟨rngD (a : Int) (b - a), [], false⟩ μ2 := by
  have e : evI Γ (.rng2 x y) ρ μ = (evE Γ x ρ μ).bind fun x μ1 => (evE Γ y ρ μ1).bind fun y μ2 => match x, y with
    | .int i, .int j => if -(2 ^ 62) ≤ i ∧ i < 2 ^ 62 ∧ -(2 ^ 62) ≤ j ∧ j < 2 ^ 62 then .ok ⟨rngD i (j - i).toNat, [], false⟩ μ2 else .bad
    | _, _ => .bad := rfl
  rw [e, hx, Res.bind_ok, hy, Res.bind_ok]
  have c1 : (-(2 ^ 62) : Int) ≤ -1000000 := by decide
  have c2 : (1000000 : Int) < 2 ^ 62 := by decide
  have b1 : (-1000000 : Int) ≤ (a : Int) := by omega
  have b2 : (a : Int) ≤ 1000000 := by omega
  have b3 : (-1000000 : Int) ≤ (b : Int) := by omega
  have b4 : (b : Int) ≤ 1000000 := by omega
  have et : ((b : Int) - (a : Int)).toNat = b - a := by omega
  dsimp only
  rw [if_pos ⟨Int.le_trans c1 b1, Int.lt_of_le_of_lt b2 c2, Int.le_trans c1 b3, Int.lt_of_le_of_lt b4 c2⟩, et]
theorem rng2_get {a n j : Nat} {d : Mi.D} (h : (rngD (a : Int) n)[j]? = some d) : j < n ∧ d = .int ((a + j : Nat) : Int) := by
  have hj : j < n := by
    have := (List.getElem?_eq_some_iff.mp h).1
    simpa [rngD] using this
  refine ⟨hj, ?_⟩
  simp [rngD, hj] at h
  rw [← h]
  congr 1
theorem eos_of {Γ Γ' : Gam} (e : ∀ ds μ, Γ'.fn "ends_of_steps" ds μ = runD Γ ⟨4, 9, b_ends_of_steps⟩ ds μ) : EosW Γ' := fun μ T D eo ad g ds x st at_ hdl em bo hx hst hsl hat => by
  rw [e, run_ans _ _ _ _ rfl]
  refine okx_of fun P hP => ?_
  simp [b_ends_of_steps, stepsD, b_shl1 at_ (by omega), -Bool.exists_bool]
  refine OS.loop (fun i ρ μ' => ∃ (n : Nat) (a5 a6 a7 a8 : Option Mi.D), ρ = [some (.tup (st.map stepD)), some (.int at_), some x, some (.ref eo), some (.int (n : Nat)), a5, a6, a7, a8] ∧ μ' = μ ∧ ∀ e, n.testBit e = true ↔ FolK (bitK g) (lineMv ds) (st.take i) at_ e) ⟨powN at_, none, none, none, none, rfl, rfl, fun e => ?_⟩ ?_ ?_
  · rw [powN, Nat.testBit_two_pow]
    simp [FolK]
  · intro i d ρ μ' hd ⟨n, a5, a6, a7, a8, hρ, hμ, hn⟩
    subst hρ; subst hμ
    rw [List.getElem?_map] at hd
    obtain ⟨y, hy, ed⟩ := Option.map_eq_some_iff.mp hd
    subst ed
    obtain ⟨q, m⟩ := y
    have hym := hst _ (List.mem_of_getElem? hy)
    refine ⟨rfl, [some (.tup (st.map stepD)), some (.int at_), some x, some (.ref eo), some (.int (n : Nat)), some (.str (if q then "deed" else "task")), some (.int (m : Nat)), a7, a8], rfl, fun K hK => ?_⟩
    have el : lenD x μ' = some ds.length := by rw [len_seq hx]; simp
    have e2 : evI Γ (.rng2 (.var 1) (.bin .add (.bi .len (.var 2)) (.con (.int 1)))) [some (.tup (st.map stepD)), some (.int at_), some x, some (.ref eo), some (.int (n : Nat)), some (.str (if q then "deed" else "task")), some (.int (m : Nat)), some (.int 0), a8] μ' = .ok ⟨rngD ((at_ : Nat) : Int) (ds.length + 1 - at_), [], false⟩ μ' :=
      rng2_w at_ (ds.length + 1) (by omega) (by omega) Γ _ μ' _ _ μ' (by simp) (by simp [biD, el])
    simp [fBody, l1_ends_of_steps, e2, -Bool.exists_bool]
    refine OS.loop (fun j ρ μ2 => ∃ (b : Nat) (a8 : Option Mi.D), ρ = [some (.tup (st.map stepD)), some (.int at_), some x, some (.ref eo), some (.int (n : Nat)), some (.str (if q then "deed" else "task")), some (.int (m : Nat)), some (.int (b : Nat)), a8] ∧ μ2 = μ' ∧ ∀ e, b.testBit e = true ↔ ∃ p, p < at_ + j ∧ n.testBit p = true ∧ FolK (bitK g) (lineMv ds) [(q, m)] p e) ⟨0, a8, rfl, rfl, fun e => ?_⟩ ?_ ?_
    · simp only [Nat.zero_testBit, Bool.false_eq_true, false_iff, Nat.add_zero]
      rintro ⟨p, hp, h1, _⟩
      have := (hn p).mp h1
      have hge : ∀ (st : List Step) (s e : Nat), FolK (bitK g) (lineMv ds) st s e → s ≤ e := fun st => by
        induction st with
        | nil => intro s e h; exact Nat.le_of_eq h
        | cons y r ih =>
          intro s e h
          obtain ⟨q, m⟩ := y
          cases q with
          | true =>
            obtain ⟨s', h1, h2⟩ := h
            unfold lineMv at h1
            split at h1
            · cases h1; have := ih _ _ h2; omega
            · cases h1
          | false =>
            obtain ⟨s', h1, h2⟩ := h
            have := (bo.b _ _ _ h1).1
            have := ih _ _ h2
            omega
      have := hge _ _ _ this
      omega
    · intro j d ρ μ2 hd ⟨b, a8, hρ, hμ, hb⟩
      obtain ⟨hj, ed⟩ := rng2_get hd
      subst ed; subst hρ; subst hμ
      refine ⟨rfl, _, rfl, fun K2 hK2 => ?_⟩
      generalize hp : at_ + j = p at *
      have hpl : p < ds.length + 1 := by omega
      have split' : ∀ e, (∃ p', p' < at_ + (j + 1) ∧ n.testBit p' = true ∧ FolK (bitK g) (lineMv ds) [(q, m)] p' e) ↔ (b.testBit e = true ∨ (n.testBit p = true ∧ FolK (bitK g) (lineMv ds) [(q, m)] p e)) := fun e => by
        rw [hb e]
        constructor
        · rintro ⟨p', h1, h2, h3⟩
          by_cases hpp : p' = p
          · subst hpp; exact .inr ⟨h2, h3⟩
          · exact .inl ⟨p', by omega, h2, h3⟩
        · rintro (⟨p', h1, h2, h3⟩ | ⟨h2, h3⟩)
          · exact ⟨p', by omega, h2, h3⟩
          · exact ⟨p, by omega, h2, h3⟩
      simp [fBody, l2_ends_of_steps, b_shr, b_bit, -Res.bind_ok, -Bool.exists_bool]
      cases htb : n.testBit p with
      | false =>
        simp [-Bool.exists_bool]
        exact hK2 _ _ ⟨b, _, rfl, rfl, fun e => by rw [split' e]; simp [htb]⟩
      | true =>
        have e0 : ((1 : Int) == 0) = false := by decide
        cases q with
        | false =>
          simp only [Bool.false_eq_true, if_false] at hym
          obtain ⟨s1, s2⟩ := em.at hpl hym
          have ec : ∀ μ : Mem, cmpD .eq (.str "task") (.str "task") μ = some true := fun μ => by
            show some (decide (("task" : Str) = "task")) = _
            simp
          simp [ec, s1, s2, bor_nat, -Bool.exists_bool]
          refine hK2 _ _ ⟨orN b (g p m), _, rfl, rfl, fun e => ?_⟩
          rw [split' e, orN, Nat.testBit_or, Bool.or_eq_true, folK_one]
          simp [htb]
        | true =>
          have ec : ∀ μ : Mem, cmpD .eq (.str "deed") (.str "task") μ = some false := fun μ => by
            have : decide (("deed" : Str) = "task") = false := by decide +kernel
            show some (decide (("deed" : Str) = "task")) = _
            rw [this]
          simp [ec, biD, el, -Bool.exists_bool]
          by_cases hpd : p < ds.length
          · have es : subD x (.int (p : Nat)) μ2 = some (.int (ds[p] : Nat)) := by rw [sub_seq hx]; exact at_nat (by simp [hpd])
            simp [hpd, es, -Bool.exists_bool]
            by_cases hdm : ds[p] = m
            · have hb2 : (((ds[p] : Nat) : Int) == (m : Int)) = true := by simp [hdm]
              have eadd : ((p : Int) + 1) = ((p + 1 : Nat) : Int) := by omega
              simp [hdm, -Bool.exists_bool]
              rw [eadd, b_shl1 (p + 1) (by omega)]
              simp [bor_nat, -Bool.exists_bool]
              refine hK2 _ _ ⟨orN b (powN (p + 1)), _, rfl, rfl, fun e => ?_⟩
              rw [split' e, orN, Nat.testBit_or, Bool.or_eq_true, folK_one, powN, Nat.testBit_two_pow]
              simp [htb, lineMv, hpd, hdm]
            · have hb2 : ¬ ((ds[p] : Nat) : Int) = (m : Int) := by omega
              simp [hb2, -Bool.exists_bool]
              refine hK2 _ _ ⟨b, _, rfl, rfl, fun e => ?_⟩
              rw [split' e, folK_one]
              simp [lineMv, hpd, hdm]
          · simp [hpd, -Bool.exists_bool]
            refine hK2 _ _ ⟨b, _, rfl, rfl, fun e => ?_⟩
            rw [split' e, folK_one]
            simp [lineMv, List.getElem?_eq_none (show ds.length ≤ p by omega)]
    · intro ρ μ2 ⟨b, a8, hρ, hμ, hb⟩
      subst hρ; subst hμ
      refine ⟨rfl, ?_⟩
      simp
      refine hK _ _ ⟨b, _, _, _, _, rfl, rfl, fun e => ?_⟩
      have er : (rngD ((at_ : Nat) : Int) (ds.length + 1 - at_)).length = ds.length + 1 - at_ := by simp [rngD]
      rw [er] at hb
      rw [hb e, take_snoc hy, folK_snoc]
      constructor
      · rintro ⟨p, _, h2, h3⟩; exact ⟨p, (hn p).mp h2, h3⟩
      · rintro ⟨p, h2, h3⟩
        refine ⟨p, ?_, (hn p).mpr h2, h3⟩
        rw [folK_one] at h3
        cases q with
        | true =>
          simp only [if_true] at h3
          unfold lineMv at h3
          split at h3
          · rename_i h4
            have := (List.getElem?_eq_some_iff.mp h4).1
            omega
          · cases h3
        | false =>
          simp only [Bool.false_eq_true, if_false] at h3
          have := bo.b _ _ _ h3
          omega
  · intro ρ μ' ⟨n, a5, a6, a7, a8, hρ, hμ, hn⟩
    subst hρ; subst hμ
    rw [List.length_map, List.take_length] at hn
    refine ⟨rfl, ?_⟩
    simp
    exact hP _ _ ⟨n, rfl, rfl, hn⟩
theorem eos_w (n : Nat) : EosW (G (n + 1)) := eos_of (f_ends_of_steps n)
end Lw
/-! W28: `accepts`: the rounds at one place. -/
namespace Lw
open PySem Mi

/-! ### counting bits -/
def cnt (dl n : Nat) : Nat := ((List.range (dl + 1)).filter fun e => n.testBit e).length
def rowS (dl T : Nat) (h : Nat → Nat) : Nat := ((List.range T).map fun t => cnt dl (h t)).sum
theorem cnt_le (dl n : Nat) : cnt dl n ≤ dl + 1 := by
  have := List.length_filter_le (fun e => n.testBit e) (List.range (dl + 1))
  simpa [cnt] using this
theorem filter_lt {α : Type} {p q : α → Bool} : ∀ {l : List α}, (∀ a ∈ l, p a = true → q a = true) → (∃ a ∈ l, q a = true ∧ p a = false) → (l.filter p).length < (l.filter q).length
  | [], _, h => by obtain ⟨a, h, _⟩ := h; cases h
  | x :: l, h1, ⟨a, ha, h2, h3⟩ => by
    have mono : ∀ {l : List α}, (∀ a ∈ l, p a = true → q a = true) → (l.filter p).length ≤ (l.filter q).length := fun {l} h => by
      induction l with
      | nil => simp
      | cons y l ih =>
        have i1 := ih fun a ha => h a (List.mem_cons_of_mem _ ha)
        have h0 := h y List.mem_cons_self
        rw [List.filter_cons, List.filter_cons]
        cases hp : p y with
        | true => rw [h0 hp]; simpa using i1
        | false => cases q y <;> simp <;> omega
    have h1' := fun b hb => h1 b (List.mem_cons_of_mem x hb)
    rw [List.filter_cons, List.filter_cons]
    rcases List.mem_cons.mp ha with e | ha
    · subst e
      rw [h2, h3]
      have := mono h1'
      simp; omega
    · have i1 := filter_lt h1' ⟨a, ha, h2, h3⟩
      have h0 := h1 x List.mem_cons_self
      cases hp : p x with
      | true => rw [h0 hp]; simpa using i1
      | false => cases q x <;> simp <;> omega
theorem cnt_lt {dl n r : Nat} (h : ∀ e, n.testBit e = true → r.testBit e = true) (hr : ∀ e, r.testBit e = true → e ≤ dl) (ne : r ≠ n) : cnt dl n < cnt dl r := by
  refine filter_lt (fun e _ => h e) ?_
  refine Classical.byContradiction fun hc => ne (Nat.eq_of_testBit_eq fun e => ?_)
  cases h1 : r.testBit e with
  | false =>
    cases h2 : n.testBit e with
    | false => rfl
    | true => rw [h e h2] at h1; cases h1
  | true =>
    cases h2 : n.testBit e with
    | true => rfl
    | false => exact absurd ⟨e, List.mem_range.mpr (by have := hr e h1; omega), h1, h2⟩ hc
theorem sum_lt {l : List Nat} {g g' : Nat → Nat} {a : Nat} (h : ∀ x ∈ l, x ≠ a → g' x = g x) (ha : g a < g' a) (nd : l.Nodup) (hm : a ∈ l) : (l.map g).sum < (l.map g').sum := by
  induction l with
  | nil => cases hm
  | cons b l ih =>
    rw [List.nodup_cons] at nd
    simp only [List.map_cons, List.sum_cons]
    by_cases e : b = a
    · subst e
      have : l.map g' = l.map g := List.map_congr_left fun x hx => h x (List.mem_cons_of_mem _ hx) fun z => nd.1 (z ▸ hx)
      rw [this]; omega
    · have hm' : a ∈ l := (List.mem_cons.mp hm).elim (fun z => absurd z.symm e) id
      have := ih (fun x hx => h x (List.mem_cons_of_mem _ hx)) nd.2 hm'
      rw [h b List.mem_cons_self e]; omega
theorem rowS_le (dl T : Nat) (h : Nat → Nat) : rowS dl T h ≤ T * (dl + 1) := by
  have := sum_le (l := List.range T) (g := fun t => cnt dl (h t)) (B := dl + 1) fun x _ => cnt_le _ _
  simpa [rowS] using this
def updG (g : Nat → Nat → Nat) (s t n : Nat) : Nat → Nat → Nat := fun s' t' => if s' = s ∧ t' = t then n else g s' t'
theorem folK_bd {g : Nat → Nat → Nat} {ds : List Nat} (bo : BOk ds.length g) : ∀ {st : List Step} {s e : Nat}, s ≤ ds.length → FolK (bitK g) (lineMv ds) st s e → s ≤ e ∧ e ≤ ds.length
  | [], s, e, hs, h => by have : s = e := h; omega
  | (true, d) :: r, s, e, hs, ⟨s', h1, h2⟩ => by
    unfold lineMv at h1
    split at h1
    · rename_i h
      have := (List.getElem?_eq_some_iff.mp h).1
      cases h1
      have := folK_bd bo (by omega) h2
      omega
    · cases h1
  | (false, t) :: r, s, e, hs, ⟨s', h1, h2⟩ => by
    have := bo.b _ _ _ h1
    have := folK_bd bo this.2 h2
    omega
/-- a round at one place, from g0 on -/
structure RB (dl T at_ : Nat) (opn : Nat → Nat → List (List Step)) (mv : Nat → Nat → Option Nat) (g0 g : Nat → Nat → Nat) (gr : Bool) : Prop where
  bo : BOk dl g
  so : ∀ s t e, (g s t).testBit e = true → End opn mv t s e
  row : ∀ s, s ≠ at_ → g s = g0 s
  e0 : gr = false → g = g0
  gt : gr = true → rowS dl T (g0 at_) < rowS dl T (g at_)
theorem RB.upd {dl T at_ t n : Nat} {opn : Nat → Nat → List (List Step)} {mv : Nat → Nat → Option Nat} {g0 g : Nat → Nat → Nat} {gr : Bool} (h : RB dl T at_ opn mv g0 g gr) (ht : t < T) (h1 : ∀ e, (g at_ t).testBit e = true → n.testBit e = true) (h2 : ∀ e, n.testBit e = true → at_ ≤ e ∧ e ≤ dl) (h3 : ∀ e, n.testBit e = true → End opn mv t at_ e) (ne : n ≠ g at_ t) : RB dl T at_ opn mv g0 (updG g at_ t n) true := by
  refine ⟨⟨fun s t' e he => ?_⟩, fun s t' e he => ?_, fun s hs => ?_, (by simp), fun _ => ?_⟩
  · unfold updG at he
    split at he
    · rename_i q; rw [q.1]; exact h2 e he
    · exact h.bo.b _ _ _ he
  · unfold updG at he
    split at he
    · rename_i q; rw [q.1, q.2]; exact h3 e he
    · exact h.so _ _ _ he
  · rw [← h.row s hs]
    funext t'
    unfold updG
    rw [if_neg (by simp [hs])]
  · have h4 : rowS dl T (g at_) < rowS dl T (updG g at_ t n at_) := by
      refine sum_lt (a := t) (fun x _ hx => ?_) ?_ List.nodup_range (List.mem_range.mpr ht)
      · unfold updG; rw [if_neg (by simp [hx])]
      · have e : updG g at_ t n at_ t = n := by unfold updG; simp
        rw [e]
        exact cnt_lt h1 (fun e he => (h2 e he).2) ne
    cases gr with
    | false => rw [← h.e0 rfl]; exact h4
    | true => have := h.gt rfl; omega
/-- the rows stand apart -/
structure AdOk (eo L : Nat) (ad : Nat → Nat) : Prop where
  inj : ∀ i j, i < L → j < L → ad i = ad j → i = j
  ne : ∀ i, i < L → ad i ≠ eo
theorem EM.upd {eo L T : Nat} {ad : Nat → Nat} {g : Nat → Nat → Nat} {μ : Mem} (h : EM eo L T ad g μ) (ao : AdOk eo L ad) {p t n : Nat} (hp : p < L) (ht : t < T) : setD (.ref (ad p)) (.int (t : Nat)) (.int (n : Nat)) μ = some (μ.set (ad p) (.lst ((List.range T).map fun t' => .int ((updG g p t n p t' : Nat) : Int)))) ∧ EM eo L T ad (updG g p t n) (μ.set (ad p) (.lst ((List.range T).map fun t' => .int ((updG g p t n p t' : Nat) : Int)))) := by
  have hl := (List.getElem?_eq_some_iff.mp (h.cl p hp)).1
  refine ⟨?_, ⟨by rw [List.getElem?_set_ne (ao.ne p hp)]; exact h.eo, fun i hi => ?_⟩⟩
  · have e1 : ((List.range T).map fun t' => Mi.D.int ((g p t' : Nat) : Int)).set t (.int (n : Nat)) = (List.range T).map fun t' => .int ((updG g p t n p t' : Nat) : Int) := by
      apply List.ext_getElem?
      intro i
      by_cases hi : i < T
      · by_cases e : t = i
        · subst e
          rw [List.getElem?_set_self (by simpa using hi)]
          simp [hi, updG]
        · rw [List.getElem?_set_ne e]
          simp [hi, updG, Ne.symm e]
      · rw [List.getElem?_eq_none (by simp; omega), List.getElem?_eq_none (by simp; omega)]
    have e2 : ixOf ((List.range T).map fun t' => Mi.D.int ((g p t' : Nat) : Int)).length (t : Int) = some t := by
      unfold ixOf
      rw [if_pos (by omega), if_pos (by simpa using ht)]
      simp
    simp only [setD, h.cl p hp, e2, Option.map_some, e1]
  · by_cases e : i = p
    · subst e
      rw [List.getElem?_set_self hl]
    · rw [List.getElem?_set_ne (fun z => e (ao.inj _ _ hi hp z.symm)), h.cl i hi]
      congr 3
      funext t'
      unfold updG
      rw [if_neg (by simp [e])]
/-- what stands while accepts works -/
structure AC (r F D T M eo : Nat) (ad : Nat → Nat) (ts : List (List Meth)) (fs : List (List Bool)) (ds : List Nat) (y z : Mi.D) (ys : List Mi.D) (μ0 : Mem) : Prop where
  ok : BookOk F D T M ts
  hM : M ≤ 1000
  hT : T ≤ 6
  bk : bookI r (.int F) (.int D) (.tup (tasksD ts)) μ0
  fl : ∀ l ∈ fs, l.length = F
  len : fs.length = ds.length + 1
  dl : ds.length ≤ 40
  ye : seqOf y μ0 = some ys
  yl : ys.length = fs.length
  yi : ∀ (i : Nat) (x : Mi.D), ys[i]? = some x → ∃ l : List Bool, fs[i]? = some l ∧ seqOf x μ0 = some (l.map Mi.D.bl)
  ze : seqOf z μ0 = some (intsD ds)
  dd : ∀ d ∈ ds, d < D
  ao : AdOk eo (ds.length + 1) ad
  al : ∀ i, i < ds.length + 1 → μ0.length ≤ ad i
section
variable {Γ : Gam} {K : Env' → Mem → Prop} {R : Mi.D → Mem → Prop} {B C' : Env' → Mem → Prop} {Y : Str → List (Str × Mi.D) → Env' → Mem → Prop}
variable {r F D T M eo at_ : Nat} {ad : Nat → Nat} {ts : List (List Meth)} {fs : List (List Bool)} {ds : List Nat} {y z : Mi.D} {ys : List Mi.D} {μ0 μ : Mem} {g0 g : Nat → Nat → Nat} {gr : Bool}
abbrev envA (r : Nat) (ta st : Option Mi.D) (y z : Mi.D) (eo : Nat) (u a tk gr nu ro re se : Option Mi.D) : Env' := [some (.ref r), ta, st, some y, some z, some (.ref eo), u, a, tk, gr, nu, ro, re, se]
variable {ta st u a tk nu ro re se : Option Mi.D}
theorem acc_l4 (E : EosW Γ) (ac : AC r F D T M eo ad ts fs ds y z ys μ0) (em : EM eo (ds.length + 1) T ad g μ) (bo : BOk ds.length g) (kb : Kb μ0 μ) (hat : at_ ≤ ds.length) {sts : List (List Step)} (hs : ∀ s ∈ sts, s.length ≤ 1000 ∧ ∀ x ∈ s, x.2 < if x.1 then D else T) {gv : Option Mi.D} {n0 : Nat}
    (hK : ∀ (n : Nat) (se' : Option Mi.D), (∀ e, n.testBit e = true ↔ n0.testBit e = true ∨ ∃ s ∈ sts, FolK (bitK g) (lineMv ds) s at_ e) → K (envA r ta st y z eo u (some (.int (at_ : Nat))) tk gv nu ro (some (.int (n : Nat))) se') μ) :
    OS (forL (fBody Γ l4_accepts) (.nm 13) [] (sts.map stepsD) (envA r ta st y z eo u (some (.int (at_ : Nat))) tk gv nu ro (some (.int (n0 : Nat))) se) μ) K R B C' Y := by
  refine OS.loop (fun i ρ μ' => ∃ (n : Nat) (se' : Option Mi.D), ρ = envA r ta st y z eo u (some (.int (at_ : Nat))) tk gv nu ro (some (.int (n : Nat))) se' ∧ μ' = μ ∧ ∀ e, n.testBit e = true ↔ n0.testBit e = true ∨ ∃ s ∈ sts.take i, FolK (bitK g) (lineMv ds) s at_ e) ⟨n0, se, rfl, rfl, by simp⟩ ?_ ?_
  · intro i d ρ μ' hd ⟨n, se', hρ, hμ, hn⟩
    subst hρ; subst hμ
    rw [List.getElem?_map] at hd
    obtain ⟨s, hsi, ed⟩ := Option.map_eq_some_iff.mp hd
    subst ed
    obtain ⟨hl, hx⟩ := hs s (List.mem_of_getElem? hsi)
    refine ⟨rfl, _, rfl, fun K' hK' => ?_⟩
    simp [fBody, l4_accepts, -Res.bind_ok, -Bool.exists_bool]
    refine (E μ' T D eo ad g ds z s at_ (by have := ac.dl; omega) em bo (kb.seq ac.ze) hx hl hat).imp fun v μ2 ⟨m, e1, e2, hm⟩ => ?_
    subst e1; subst e2
    simp [bor_nat, -Res.bind_ok, -Bool.exists_bool]
    refine hK' _ _ ⟨orN n m, _, rfl, rfl, fun e => ?_⟩
    rw [orN, Nat.testBit_or, Bool.or_eq_true, hn e, hm e, take_snoc hsi]
    simp only [List.mem_append, List.mem_singleton]
    constructor
    · rintro ((h | ⟨s', h1, h2⟩) | h)
      · exact .inl h
      · exact .inr ⟨s', .inl h1, h2⟩
      · exact .inr ⟨s, .inr rfl, h⟩
    · rintro (h | ⟨s', h1 | h1, h2⟩)
      · exact .inl (.inl h)
      · exact .inl (.inr ⟨s', h1, h2⟩)
      · subst h1; exact .inr h2
  · intro ρ μ' ⟨n, se', hρ, hμ, hn⟩
    subst hρ; subst hμ
    rw [List.length_map, List.take_length] at hn
    exact ⟨rfl, hK n _ hn⟩
/-- one task at one place -/
theorem acc_l3 (E : EosW Γ) (ac : AC r F D T M eo ad ts fs ds y z ys μ0) (em : EM eo (ds.length + 1) T ad g μ) (rb : RB ds.length T at_ (opnW ts fs) (lineMv ds) g0 g gr) (kb : Kb μ0 μ) (hat : at_ ≤ ds.length) {t : Nat} (ht : t < T)
    (hK : ∀ g' gr' re' se' μ', EM eo (ds.length + 1) T ad g' μ' → RB ds.length T at_ (opnW ts fs) (lineMv ds) g0 g' gr' → Kb μ0 μ' → (gr' = false → gr = false ∧ ∀ st ∈ opnW ts fs t at_, ∀ e, FolK (bitK g0) (lineMv ds) st at_ e → (g0 at_ t).testBit e = true) → K (envA r ta st y z eo u (some (.int (at_ : Nat))) tk (some (.bl gr')) (some (.int (t : Nat))) (some (.tup ((opnW ts fs t at_).map stepsD))) re' se') μ') :
    OS (fBody Γ l3_accepts (envA r ta st y z eo u (some (.int (at_ : Nat))) tk (some (.bl gr)) (some (.int (t : Nat))) (some (.tup ((opnW ts fs t at_).map stepsD))) re se) μ) K R B C' Y := by
  obtain ⟨s1, s2⟩ := em.at (show at_ < ds.length + 1 by omega) ht
  simp [fBody, l3_accepts, s1, s2, -Res.bind_ok, -Bool.exists_bool]
  have hs : ∀ s ∈ opnW ts fs t at_, s.length ≤ 1000 ∧ ∀ x ∈ s, x.2 < if x.1 then D else T := fun s hs => by
    refine ⟨?_, opnW_task ac.ok hs⟩
    obtain ⟨m, h1, e⟩ := List.mem_map.mp hs
    subst e
    have h2 := (List.mem_filter.mp h1).1
    have htl : t < ts.length := by rw [ac.ok.len]; exact ht
    rw [getD_some htl] at h2
    have := ((ac.ok.m _ (List.getElem_mem htl)).2 m h2).l
    omega
  refine acc_l4 E ac em rb.bo kb hat hs fun n se' hn => ?_
  simp [s1, s2, -Res.bind_ok, -Bool.exists_bool]
  have sub1 : ∀ e, (g at_ t).testBit e = true → n.testBit e = true := fun e he => (hn e).mpr (.inl he)
  have sub2 : ∀ e, n.testBit e = true → at_ ≤ e ∧ e ≤ ds.length := fun e he => by
    rcases (hn e).mp he with h | ⟨s, _, h⟩
    · exact rb.bo.b _ _ _ h
    · exact folK_bd rb.bo hat h
  have sub3 : ∀ e, n.testBit e = true → End (opnW ts fs) (lineMv ds) t at_ e := fun e he => by
    rcases (hn e).mp he with h | ⟨s, h1, h⟩
    · exact rb.so _ _ _ h
    · exact end_of_folK (K := bitK g) (fun t s e h => rb.so s t e h) h1 h
  by_cases hne : n = g at_ t
  · have hb : ((n : Int) == (g at_ t : Int)) = true := by simp [hne]
    simp [hne, -Res.bind_ok, -Bool.exists_bool]
    refine hK g gr _ _ _ em rb kb fun hg => ⟨hg, fun s hs e he => ?_⟩
    have e0 := rb.e0 hg
    rw [← e0] at he ⊢
    rw [← hne]
    exact (hn e).mpr (.inr ⟨s, hs, he⟩)
  · have hb : (((n : Nat) : Int) == ((g at_ t : Nat) : Int)) = false := by simp; omega
    obtain ⟨u1, u2⟩ := em.upd ac.ao (n := n) (show at_ < ds.length + 1 by omega) ht
    simp [hb, s1, u1, -Res.bind_ok, -Bool.exists_bool]
    refine hK _ true _ _ _ u2 (rb.upd ht sub1 sub2 sub3 hne) (kb.put (ac.al at_ (by omega)) _) fun h => by cases h
def takenRows (ts : List (List Meth)) (fl : List Bool) : List Mi.D := ts.map fun ms => .tup ((takenL ms fl).map stepsD)
theorem its_taken (ts : List (List Meth)) (fl : List Bool) (μ : Mem) : itsOf (takenD ts fl) μ = some ⟨takenRows ts fl, [], true⟩ := rfl
/-- all tasks at one place, once -/
theorem acc_l2 (E : EosW Γ) (ac : AC r F D T M eo ad ts fs ds y z ys μ0) (em : EM eo (ds.length + 1) T ad g μ) (bo : BOk ds.length g) (so : ∀ s t e, (g s t).testBit e = true → End (opnW ts fs) (lineMv ds) t s e) (kb : Kb μ0 μ) (hat : at_ ≤ ds.length) {gv : Option Mi.D}
    (hK : ∀ (g' : Nat → Nat → Nat) (gr' : Bool) (nu' ro' re' se' : Option Mi.D) (μ' : Mem), EM eo (ds.length + 1) T ad g' μ' → BOk ds.length g' → (∀ s t e, (g' s t).testBit e = true → End (opnW ts fs) (lineMv ds) t s e) → (∀ s, s ≠ at_ → g' s = g s) → Kb μ0 μ' → (gr' = true → rowS ds.length T (g at_) < rowS ds.length T (g' at_)) → (gr' = false → ∀ t, t < T → ∀ st ∈ opnW ts fs t at_, ∀ e, FolK (bitK g') (lineMv ds) st at_ e → (g' at_ t).testBit e = true) → K (envA r ta st y z eo u (some (.int (at_ : Nat))) (some (takenD ts (fs.getD at_ []))) (some (.bl gr')) nu' ro' re' se') μ') :
    OS (fBody Γ l2_accepts (envA r ta st y z eo u (some (.int (at_ : Nat))) (some (takenD ts (fs.getD at_ []))) gv nu ro re se) μ) K R B C' Y := by
  simp [fBody, l2_accepts, its_taken, -Res.bind_ok, -Bool.exists_bool]
  refine OS.loop (fun i ρ μ' => ∃ g' gr' nu' ro' re' se', ρ = envA r ta st y z eo u (some (.int (at_ : Nat))) (some (takenD ts (fs.getD at_ []))) (some (.bl gr')) nu' ro' re' se' ∧ EM eo (ds.length + 1) T ad g' μ' ∧ RB ds.length T at_ (opnW ts fs) (lineMv ds) g g' gr' ∧ Kb μ0 μ' ∧ (gr' = false → ∀ t, t < i → t < T → ∀ st ∈ opnW ts fs t at_, ∀ e, FolK (bitK g) (lineMv ds) st at_ e → (g at_ t).testBit e = true)) ⟨g, false, nu, ro, re, se, by simp, em, ⟨bo, so, fun _ _ => rfl, fun _ => rfl, by simp⟩, kb, fun _ t h => by omega⟩ ?_ ?_
  · intro t d ρ μ' hd ⟨g', gr', nu', ro', re', se', hρ, em', rb', kb', hcl⟩
    subst hρ
    obtain ⟨d0, h0, ed⟩ := enum_get hd
    rw [takenRows, List.getElem?_map] at h0
    obtain ⟨ms, hms, e0⟩ := Option.map_eq_some_iff.mp h0
    have htl := (List.getElem?_eq_some_iff.mp hms).1
    have ht : t < T := by rw [← ac.ok.len]; exact htl
    have eo1 : opnW ts fs t at_ = takenL ms (fs.getD at_ []) := by
      rw [takenL_opn]
      congr 1
      rw [getD_some htl]
      rw [List.getElem?_eq_getElem htl] at hms
      cases hms; rfl
    have e3 : (Nat.cast (0 + t) : Int) = (t : Nat) := by omega
    subst ed; subst e0
    rw [e3]
    refine ⟨rfl, envA r ta st y z eo u (some (.int (at_ : Nat))) (some (takenD ts (fs.getD at_ []))) (some (.bl gr')) (some (.int (t : Nat))) (some (.tup ((opnW ts fs t at_).map stepsD))) re' se', ?_, fun K' hK' => ?_⟩
    · rw [eo1]; rfl
    · refine acc_l3 E ac em' rb' kb' hat ht fun g2 gr2 re2 se2 μ2 q1 q2 q3 q4 => hK' _ _ ⟨g2, gr2, _, _, _, _, rfl, q1, q2, q3, fun hg t' ht' hT' => ?_⟩
      obtain ⟨h1, h2⟩ := q4 hg
      by_cases e : t' = t
      · subst e; exact h2
      · exact hcl h1 t' (by omega) hT'
  · intro ρ μ' ⟨g', gr', nu', ro', re', se', hρ, em', rb', kb', hcl⟩
    subst hρ
    rw [enum_len, takenRows, List.length_map, ac.ok.len] at hcl
    refine ⟨rfl, ?_⟩
    refine hK g' gr' _ _ _ _ μ' em' rb'.bo rb'.so rb'.row kb' rb'.gt fun hg t ht => ?_
    rw [rb'.e0 hg]
    exact hcl hg t ht ht
end
end Lw
/-! W29: `accepts`, whole. -/
namespace Lw
open PySem Mi

/-- a while, by a word and a number that falls; what the body is to reach is kept out of sight -/
theorem OS.whl {test : Env' → Mem → Res Bool} {body : Env' → Mem → Out} {N B C : Env' → Mem → Prop} {R : Mi.D → Mem → Prop} {X : Str → List (Str × Mi.D) → Env' → Mem → Prop} (P : Nat → Env' → Mem → Prop) {m n : Nat} {ρ : Env'} {μ : Mem}
    (hs : ∀ n ρ μ, P n ρ μ → ∀ K : Env' → Mem → Prop, (∀ n' ρ2 μ2, n' < n → P n' ρ2 μ2 → K ρ2 μ2) → OkX (test ρ μ) (fun t μ1 => if t = true then OS (body ρ μ1) K R N K X else N ρ μ1) (fun c fs μ1 => X c fs ρ μ1)) (h : P n ρ μ) (hn : n < m) : OS (whileL test body m ρ μ) N R B C X :=
  OS.while_ P (fun n ρ μ hp => hs n ρ μ hp _ fun n' ρ2 μ2 h1 h2 => ⟨n', h1, h2⟩) h hn
section
variable {Γ : Gam} {K : Env' → Mem → Prop} {R : Mi.D → Mem → Prop} {B C' : Env' → Mem → Prop} {Y : Str → List (Str × Mi.D) → Env' → Mem → Prop}
variable {r F D T M eo at_ : Nat} {ad : Nat → Nat} {ts : List (List Meth)} {fs : List (List Bool)} {ds : List Nat} {y z : Mi.D} {ys : List Mi.D} {μ0 μ : Mem} {g0 g : Nat → Nat → Nat} {gr : Bool}
variable {ta st u a tk gv nu ro re se : Option Mi.D}
/-- one place -/
theorem acc_l1 (hw : 1000 ≤ Γ.w) (Tk : TakenW Γ) (E : EosW Γ) (ac : AC r F D T M eo ad ts fs ds y z ys μ0) (em : EM eo (ds.length + 1) T ad g μ) (bo : BOk ds.length g) (so : ∀ s t e, (g s t).testBit e = true → End (opnW ts fs) (lineMv ds) t s e) (kb : Kb μ0 μ) (hat : at_ ≤ ds.length)
    (hK : ∀ (g' : Nat → Nat → Nat) (tk' gv' nu' ro' re' se' : Option Mi.D) (μ' : Mem), EM eo (ds.length + 1) T ad g' μ' → BOk ds.length g' → (∀ s t e, (g' s t).testBit e = true → End (opnW ts fs) (lineMv ds) t s e) → (∀ s, s ≠ at_ → g' s = g s) → Kb μ0 μ' → (∀ t, t < T → ∀ st ∈ opnW ts fs t at_, ∀ e, FolK (bitK g') (lineMv ds) st at_ e → (g' at_ t).testBit e = true) → K (envA r ta st y z eo u (some (.int (at_ : Nat))) tk' gv' nu' ro' re' se') μ') :
    OS (fBody Γ l1_accepts (envA r ta st y z eo u (some (.int (at_ : Nat))) tk gv nu ro re se) μ) K R B C' Y := by
  have hys : at_ < ys.length := by rw [ac.yl, ac.len]; omega
  obtain ⟨l, hl1, hl2⟩ := ac.yi at_ ys[at_] (List.getElem?_eq_getElem hys)
  have hfl := ac.fl l (List.mem_of_getElem? hl1)
  have eget : fs.getD at_ [] = l := by simp [hl1]
  have es : subD y (.int (at_ : Nat)) μ = some ys[at_] := by rw [sub_seq (kb.seq ac.ye)]; exact at_lt hys
  simp [fBody, l1_accepts, es, -Res.bind_ok, -Bool.exists_bool]
  refine (Tk μ F D T M r ts ys[at_] l ac.ok ac.hM (by have := ac.hT; omega) (kb _ _ ac.bk) (kb.seq hl2) hfl).imp fun v μ1 ⟨e1, e2⟩ => ?_
  subst e1; subst e2
  rw [← eget]
  simp only [List.getD_eq_getElem?_getD]
  have eget2 : (fs[at_]?.getD []) = fs.getD at_ [] := by simp
  rw [eget2]
  have hB : T * (ds.length + 1) ≤ 300 := by
    have h1 := ac.hT
    have h2 := ac.dl
    have := Nat.mul_le_mul h1 (show ds.length + 1 ≤ 41 by omega)
    omega
  generalize hBB : T * (ds.length + 1) = BB at *
  refine OS.whl (n := BB + 1 - rowS ds.length T (g at_)) (fun n ρ μ' => ∃ (g' : Nat → Nat → Nat) (gr' : Bool) (nu' ro' re' se' : Option Mi.D), ρ = envA r ta st y z eo u (some (.int (at_ : Nat))) (some (takenD ts (fs.getD at_ []))) (some (.bl gr')) nu' ro' re' se' ∧ EM eo (ds.length + 1) T ad g' μ' ∧ BOk ds.length g' ∧ (∀ s t e, (g' s t).testBit e = true → End (opnW ts fs) (lineMv ds) t s e) ∧ (∀ s, s ≠ at_ → g' s = g s) ∧ Kb μ0 μ' ∧ (gr' = false → ∀ t, t < T → ∀ st ∈ opnW ts fs t at_, ∀ e, FolK (bitK g') (lineMv ds) st at_ e → (g' at_ t).testBit e = true) ∧ (gr' = true → n = BB + 1 - rowS ds.length T (g' at_))) ?_ ⟨g, true, nu, ro, re, se, rfl, em, bo, so, fun _ _ => rfl, kb, (by simp), fun _ => rfl⟩ (by omega)
  intro n ρ μ' ⟨g', gr', nu', ro', re', se', hρ, em', bo', so', row', kb', hcl, hn⟩ K' hK'
  subst hρ
  cases gr' with
  | false =>
    simp [-Res.bind_ok]
    exact hK g' _ _ _ _ _ _ μ' em' bo' so' row' kb' (hcl rfl)
  | true =>
    simp [-Res.bind_ok]
    have hle := rowS_le ds.length T (g' at_)
    rw [hBB] at hle
    have hn := hn rfl
    refine acc_l2 E ac em' bo' so' kb' hat fun g2 gr2 nu2 ro2 re2 se2 μ2 q1 q2 q3 q4 q5 q6 q7 => ?_
    have hrow : ∀ s, s ≠ at_ → g2 s = g s := fun s hs => by rw [q4 s hs, row' s hs]
    have hle2 := rowS_le ds.length T (g2 at_)
    rw [hBB] at hle2
    cases gr2 with
    | true =>
      have := q6 rfl
      exact hK' (BB + 1 - rowS ds.length T (g2 at_)) _ _ (by omega) ⟨g2, true, _, _, _, _, rfl, q1, q2, q3, hrow, q5, (by simp), fun _ => rfl⟩
    | false =>
      exact hK' 0 _ _ (by omega) ⟨g2, false, _, _, _, _, rfl, q1, q2, q3, hrow, q5, fun _ => q7 rfl, by simp⟩
theorem rev_get {L i : Nat} {d : Mi.D} (h : (rngD 0 L).reverse[i]? = some d) : i < L ∧ d = .int ((L - 1 - i : Nat) : Int) := by
  have hi : i < L := by
    have := (List.getElem?_eq_some_iff.mp h).1
    simpa [rng_len] using this
  rw [List.getElem?_reverse (by rw [rng_len]; exact hi), rng_len] at h
  exact ⟨hi, (rng_get h).2⟩
/-- all places -/
theorem acc_main (hw : 1000 ≤ Γ.w) (Tk : TakenW Γ) (E : EosW Γ) (ac : AC r F D T M eo ad ts fs ds y z ys μ0) (em : EM eo (ds.length + 1) T ad (fun _ _ => 0) μ) (kb : Kb μ0 μ)
    (hK : ∀ (g' : Nat → Nat → Nat) (a' tk' gv' nu' ro' re' se' : Option Mi.D) (μ' : Mem), EM eo (ds.length + 1) T ad g' μ' → Kb μ0 μ' → (∀ s t e, s ≤ ds.length → t < T → ((g' s t).testBit e = true ↔ End (opnW ts fs) (lineMv ds) t s e)) → K (envA r ta st y z eo u a' tk' gv' nu' ro' re' se') μ') :
    OS (forL (fBody Γ l1_accepts) (.nm 7) [] (rngD 0 (ds.length + 1)).reverse (envA r ta st y z eo u a tk gv nu ro re se) μ) K R B C' Y := by
  refine OS.loop (fun i ρ μ' => ∃ (g' : Nat → Nat → Nat) (a' tk' gv' nu' ro' re' se' : Option Mi.D), ρ = envA r ta st y z eo u a' tk' gv' nu' ro' re' se' ∧ EM eo (ds.length + 1) T ad g' μ' ∧ BOk ds.length g' ∧ (∀ s t e, (g' s t).testBit e = true → End (opnW ts fs) (lineMv ds) t s e) ∧ Kb μ0 μ' ∧ (∀ s t e, ds.length + 1 - i ≤ s → s ≤ ds.length → t < T → End (opnW ts fs) (lineMv ds) t s e → (g' s t).testBit e = true)) ⟨_, a, tk, gv, nu, ro, re, se, rfl, em, ⟨fun s t e h => by simp at h⟩, fun s t e h => by simp at h, kb, fun s t e h1 h2 => by omega⟩ ?_ ?_
  · intro i d ρ μ' hd ⟨g', a', tk', gv', nu', ro', re', se', hρ, em', bo', so', kb', hc⟩
    obtain ⟨hi, ed⟩ := rev_get hd
    subst ed; subst hρ
    refine ⟨rfl, _, rfl, fun K' hK' => ?_⟩
    generalize hat : ds.length + 1 - 1 - i = at_ at *
    have hatl : at_ ≤ ds.length := by omega
    refine acc_l1 hw Tk E ac em' bo' so' kb' hatl fun g2 tk2 gv2 nu2 ro2 re2 se2 μ2 q1 q2 q3 q4 q5 q6 => hK' _ _ ⟨g2, _, _, _, _, _, _, _, rfl, q1, q2, q3, q5, fun s t e h1 h2 h3 hE => ?_⟩
    by_cases hs : s = at_
    · subst hs
      refine end_complete (T := T) (K := bitK g2) (fun s' => s ≤ s' ∧ s' ≤ ds.length) (fun t' s' ht' hs' st' hst e' he' => ?_) (fun t' s' ht' st' hst x hx hx1 => ?_) (fun s1 d1 s2 hQ hm => ?_) h3 ⟨Nat.le_refl _, h2⟩ hE
      · by_cases hss : s' = s
        · subst hss; exact q6 t' ht' st' hst e' he'
        · show (g2 s' t').testBit e' = true
          rw [q4 s' hss]
          refine hc s' t' e' (by omega) hs'.2 ht' ?_
          exact end_of_folK (K := bitK g2) (fun t s e h => q3 s t e h) hst he'
      · have := opnW_task ac.ok hst x hx
        simpa [hx1] using this
      · unfold lineMv at hm
        split at hm
        · rename_i h
          have := (List.getElem?_eq_some_iff.mp h).1
          cases hm
          omega
        · cases hm
    · rw [q4 s hs]
      exact hc s t e (by omega) h2 h3 hE
  · intro ρ μ' ⟨g', a', tk', gv', nu', ro', re', se', hρ, em', bo', so', kb', hc⟩
    subst hρ
    rw [List.length_reverse, rng_len] at hc
    exact ⟨rfl, hK g' _ _ _ _ _ _ _ μ' em' kb' fun s t e h1 h2 => ⟨so' s t e, hc s t e (by omega) h1 h2⟩⟩
end
structure StrOk (F D : Nat) (fs : List (List Bool)) (ds : List Nat) : Prop where
  fl : ∀ l ∈ fs, l.length = F
  len : fs.length = ds.length + 1
  dd : ∀ d ∈ ds, d < D
def strD (fs : List (List Bool)) (ds : List Nat) : Mi.D := .tup [.tup (fs.map stD), .tup (intsD ds)]
theorem strT_ok {F D : Nat} {fs : List (List Bool)} {ds : List Nat} (h : StrOk F D fs ds) : strT F D (strD fs ds) = true := by
  have h1 : ((fs.map stD).all (flagsT F)) = true := by
    rw [List.all_eq_true]
    intro x hx
    obtain ⟨l, hl, e⟩ := List.mem_map.mp hx
    subst e
    exact st_flags (h.fl l hl)
  have h2 : ((intsD ds).all (isNum · D)) = true := by
    rw [List.all_eq_true]
    intro x hx
    obtain ⟨l, hl, e⟩ := List.mem_map.mp hx
    subst e
    have := h.dd l hl
    simp [isNum]; omega
  have h3 : (((fs.map stD).length : Int) == ((intsD ds).length : Int) + 1) = true := by
    have := h.len
    simp; omega
  simp only [strD, strT, isSeqT, seqT, h1, h2, h3, Bool.and_self]
structure AccW (Γ : Gam) : Prop where
  no : ∀ (μ : Mem) (r F D T M tn k : Nat) (ts : List (List Meth)) (t x : Mi.D), BookOk F D T M ts → bookI r (.int F) (.int D) (.tup (tasksD ts)) μ → tn < T → Lk μ t x → okD k t = true → strT F D t = false → OkX (Γ.fn "accepts" [.ref r, .int tn, x] μ) (fun v μ' => v = .bl false ∧ μ' = μ) X0
  long : ∀ (μ : Mem) (r F D T M tn : Nat) (ts : List (List Meth)) (x : Mi.D) (fs : List (List Bool)) (ds : List Nat), BookOk F D T M ts → bookI r (.int F) (.int D) (.tup (tasksD ts)) μ → tn < T → F ≤ 1000 → Lk μ (strD fs ds) x → StrOk F D fs ds → 40 < ds.length → ds.length < 900 → OkX (Γ.fn "accepts" [.ref r, .int tn, x] μ) (fun v μ' => v = .bl false ∧ μ' = μ) X0
  yes : ∀ (μ : Mem) (r F D T M tn : Nat) (ts : List (List Meth)) (x : Mi.D) (fs : List (List Bool)) (ds : List Nat), BookOk F D T M ts → M ≤ 1000 → T ≤ 6 → bookI r (.int F) (.int D) (.tup (tasksD ts)) μ → tn < T → F ≤ 1000 → Lk μ (strD fs ds) x → StrOk F D fs ds → ds.length ≤ 40 → OkX (Γ.fn "accepts" [.ref r, .int tn, x] μ) (fun v μ' => ∃ b : Bool, v = .bl b ∧ Kb μ μ' ∧ (b = true ↔ End (opnW ts fs) (lineMv ds) tn 0 ds.length)) X0
theorem okD_str {F D : Nat} {fs : List (List Bool)} {ds : List Nat} (h : StrOk F D fs ds) (hF : F ≤ 1000) (hd : ds.length < 900) : okD 6 (strD fs ds) = true := by
  have h1 : okDs 4 (fs.map stD) = true := okDs_map fun l hl => okD_tup (by simp [h.fl l hl]; omega) (okDs_map fun _ _ => rfl)
  have h2 : okDs 4 (intsD ds) = true := okDs_map fun _ _ => rfl
  refine okD_tup (by simp) ?_
  have e1 : okD 5 (.tup (fs.map stD)) = true := okD_tup (by have := h.len; simp; omega) h1
  have e2 : okD 5 (.tup (intsD ds)) = true := okD_tup (by simp; omega) h2
  simp [okDs, e1, e2]
theorem lk_str {μ : Mem} {fs : List (List Bool)} {ds : List Nat} {x : Mi.D} (h : Lk μ (strD fs ds) x) : ∃ y z ys, seqOf x μ = some [y, z] ∧ seqOf y μ = some ys ∧ Lks μ (fs.map stD) ys ∧ seqOf z μ = some (intsD ds) := by
  simp only [strD, Lk] at h
  obtain ⟨l, h1, h2⟩ := h
  obtain ⟨y, z, e, l1, l2⟩ := h2.two
  subst e
  simp only [Lk] at l1 l2
  obtain ⟨ys, y1, y2⟩ := l1
  obtain ⟨zs, z1, z2⟩ := l2
  have ez : zs = intsD ds := lks_flat (k := 1) z2 (okDs_map fun _ _ => rfl) (by rw [List.all_eq_true]; intro t ht; obtain ⟨d, _, e⟩ := List.mem_map.mp ht; subst e; rfl)
  subst ez
  exact ⟨y, z, ys, h1, y1, y2, z1⟩
end Lw
/-! W30: `accepts`, its answers. -/
namespace Lw
open PySem Mi

def TaskCk (Γ : Gam) : Prop := ∀ (μ : Mem) (r : Nat) (f d : Mi.D) (ts : List Mi.D) (n : Nat) (i : Int), bookI r f d (.tup ts) μ → n < ts.length → OkX (Γ.fn "check_task" [.ref r, .int (n : Nat), .int i] μ) (fun _ μ' => μ' = μ) X0
theorem taskck_of {Γ Γ' : Gam} (Q : BPropW Γ) (N : NumW Γ) (e : ∀ ds μ, Γ'.fn "check_task" ds μ = runD Γ ⟨3, 3, b_check_task⟩ ds μ) : TaskCk Γ' := fun μ r f d ts n i hb hn => by
  rw [e, run_ans _ _ _ _ rfl]
  refine okx_of fun P hP => ?_
  have hb' : μ[r]? = some (bookC f d (.tup ts)) := hb
  have hnum : isNum (.int (n : Nat)) ((ts.length : Nat) : Int) = true := by simp [isNum]; omega
  simp [b_check_task, hb', Q.pt, Q.bt _ _ _ _ _ hb, biD, N μ, hnum, -Bool.exists_bool]
  exact hP _ _ rfl
theorem taskck_w (n : Nat) : TaskCk (G (n + 3)) := taskck_of (bprop_w (n + 1)) (num_w n) (f_check_task (n + 2))
theorem b_mulL {μ : Mem} {m T : Nat} {d : Mi.D} (h : μ[m]? = some (.lst [d])) (hT : T ≤ 1000) : binD .mul (.ref m) (.int (T : Nat)) μ = .ok (.ref μ.length) (μ ++ [Cell.lst (List.replicate T d)]) := by
  have c1 : (-(2 ^ 63) : Int) ≤ 0 := by decide
  have c2 : (1000 : Int) < 2 ^ 63 := by decide
  have b1 : (0 : Int) ≤ (T : Int) := by omega
  have b2 : (T : Int) ≤ 1000 := by omega
  have hl : ([d] : List Mi.D).length * ((T : Nat) : Int).toNat ≤ lim := by rw [limV]; simp; omega
  have e : (List.replicate ((T : Nat) : Int).toNat [d]).flatten = List.replicate T d := by simp
  simp only [binD, h]
  rw [if_pos ⟨Int.le_trans c1 b1, Int.lt_of_le_of_lt b2 c2, hl⟩, e]
  rfl
/-- the rows while they are made -/
structure RM (b T i : Nat) (μ0 μ : Mem) : Prop where
  kb : Kb μ0 μ
  h0 : μ0.length = b
  len : μ.length = b + 2 * i
  cl : ∀ k, k < i → μ[b + 2 * k + 1]? = some (.lst (List.replicate T (.int 0)))
theorem RM.next {b T i : Nat} {μ0 μ : Mem} (h : RM b T i μ0 μ) (c : Cell) : RM b T (i + 1) μ0 (μ ++ [c] ++ [Cell.lst (List.replicate T (.int 0))]) := by
  have hl := h.len
  refine ⟨(h.kb.app _).app _, h.h0, by simp [h.len]; omega, fun k hk => ?_⟩
  by_cases e : k = i
  · subst e
    rw [show b + 2 * k + 1 = (μ ++ [c]).length by simp [hl]]
    simp
  · have := h.cl k (by omega)
    have hlt : b + 2 * k + 1 < μ.length := by rw [h.len]; omega
    rw [List.append_assoc, List.getElem?_append_left hlt]
    exact this
section
variable {Γ : Gam}
theorem accw_of {Γ Γ' : Gam} (hw : 1000 ≤ Γ.w) (Bk : BookCk Γ) (Tc : TaskCk Γ) (S : IsStrW Γ) (Tk : TakenW Γ) (E : EosW Γ) (Q : BPropW Γ) (c1 : Γ.cst "MOST_STRING_DEEDS" = some (.int 40)) (e : ∀ ds μ, Γ'.fn "accepts" ds μ = runD Γ ⟨3, 14, b_accepts⟩ ds μ) : AccW Γ' := by
  refine ⟨fun μ r F D T M tn k ts t x ok bi ht lk okd hn => ?_, fun μ r F D T M tn ts x fs ds ok bi ht hF lk so h40 h900 => ?_, fun μ r F D T M tn ts x fs ds ok hM hT bi ht hF lk so h40 => ?_⟩
  · rw [e, run_ans _ _ _ _ rfl]
    refine okx_of fun P hP => ?_
    have bi' : μ[r]? = some (bookC (.int F) (.int D) (.tup (tasksD ts))) := bi
    simp [b_accepts, -Res.bind_ok, -Bool.exists_bool]
    refine (Bk μ (.ref r) 1 true (by simp [isTys, isTy, bi'])).mono (fun v μ1 ⟨_, h2⟩ => ?_) fun c fs μ1 ⟨h1, _⟩ => by simp at h1
    subst h2
    refine (Tc μ1 r _ _ (tasksD ts) tn 2 bi (by simp [tasksD, ok.len]; exact ht)).imp fun v μ2 e2 => ?_
    subst e2
    refine (S μ2 r F D _ t x k bi lk okd).imp fun v μ3 ⟨e3, e4⟩ => ?_
    subst e3; subst e4
    simp [hn, -Res.bind_ok, -Bool.exists_bool]
    exact hP _ _ ⟨rfl, rfl⟩
  · rw [e, run_ans _ _ _ _ rfl]
    refine okx_of fun P hP => ?_
    have bi' : μ[r]? = some (bookC (.int F) (.int D) (.tup (tasksD ts))) := bi
    obtain ⟨y, z, ys, h1, h2, h3, h4⟩ := lk_str lk
    simp [b_accepts, -Res.bind_ok, -Bool.exists_bool]
    refine (Bk μ (.ref r) 1 true (by simp [isTys, isTy, bi'])).mono (fun v μ1 ⟨_, h2⟩ => ?_) fun c fs μ1 ⟨h1, _⟩ => by simp at h1
    subst h2
    refine (Tc μ1 r _ _ (tasksD ts) tn 2 bi (by simp [tasksD, ok.len]; exact ht)).imp fun v μ2 e2 => ?_
    subst e2
    refine (S μ2 r F D _ _ x 6 bi lk (okD_str so hF h900)).imp fun v μ3 ⟨e3, e4⟩ => ?_
    subst e3; subst e4
    have hgt : (40 : Int) < (ds.length : Int) := by omega
    simp [strT_ok so, sub_seq h1, biD, len_seq h4, c1, hgt, -Res.bind_ok, -Bool.exists_bool]
    exact hP _ _ ⟨rfl, rfl⟩
  · rw [e, run_ans _ _ _ _ rfl]
    refine okx_of fun P hP => ?_
    have bi' : μ[r]? = some (bookC (.int F) (.int D) (.tup (tasksD ts))) := bi
    obtain ⟨y, z, ys, h1, h2, h3, h4⟩ := lk_str lk
    simp [b_accepts, -Res.bind_ok, -Bool.exists_bool]
    refine (Bk μ (.ref r) 1 true (by simp [isTys, isTy, bi'])).mono (fun v μ1 ⟨_, h2⟩ => ?_) fun c fs μ1 ⟨h1, _⟩ => by simp at h1
    subst h2
    refine (Tc μ1 r _ _ (tasksD ts) tn 2 bi (by simp [tasksD, ok.len]; exact ht)).imp fun v μ2 e2 => ?_
    subst e2
    refine (S μ2 r F D _ _ x 6 bi lk (okD_str so hF (by omega))).imp fun v μ3 ⟨e3, e4⟩ => ?_
    subst e3; subst e4
    have hgt : ¬ (40 : Int) < (ds.length : Int) := by omega
    have easg : asgn (.tp [3, 4]) x [some (.ref r), some (.int (tn : Nat)), some x, none, none, none, none, none, none, none, none, none, none, none] μ3 = some [some (.ref r), some (.int (tn : Nat)), some x, some y, some z, none, none, none, none, none, none, none, none, none] := by
      simp only [asgn, h1]; rfl
    obtain ⟨own, tup, ei, hck⟩ := its_own h2
    simp [strT_ok so, sub_seq h1, biD, len_seq h4, c1, hgt, easg, ei, -Res.bind_ok, -Bool.exists_bool]
    have hyl := h3.len
    have lys : ys.length = fs.length := by rw [← hyl]; simp
    have ltl : (tasksD ts).length = T := by simp [tasksD, ok.len]
    refine OkX.lc (fun i acc μ' => acc = (List.range i).map (fun k => Mi.D.ref (μ3.length + 2 * k + 1)) ∧ RM μ3.length T i μ3 μ') ⟨rfl, Kb.rfl' _, rfl, rfl, fun k hk => by omega⟩ (by have := so.len; rw [limV]; omega) ?_ ?_
    · intro i d acc μ' hd ⟨h5, rm⟩
      subst h5
      refine ⟨chk_kb rm.kb hck, fun K hK => ?_⟩
      have bi4 := rm.kb _ _ bi'
      have bi5 : (μ' ++ [Cell.lst [Mi.D.int 0]])[r]? = some (bookC (.int F) (.int D) (.tup (tasksD ts))) := by
        rw [List.getElem?_append_left (List.getElem?_eq_some_iff.mp bi4).1]; exact bi4
      have em := b_mulL (μ := μ' ++ [Cell.lst [Mi.D.int 0]]) (m := μ'.length) (T := T) (d := .int 0) (by simp) (by omega)
      simp [wipeE, e1_accepts, limV, bi5, Q.pt, Q.bt _ _ _ _ _ bi5, biD, ltl, em, -Res.bind_ok, -Bool.exists_bool]
      refine hK _ _ ⟨?_, by simpa using rm.next (Cell.lst [Mi.D.int 0])⟩
      rw [List.range_succ, List.map_append, List.map_singleton]
      congr 3
      have := rm.len
      omega
    · intro acc μ' ⟨h5, rm⟩
      subst h5
      rw [lys, so.len]
      rw [lys, so.len] at rm
      refine ⟨chk_kb rm.kb hck, ?_⟩
      have hb : bookI r (.int F) (.int D) (.tup (tasksD ts)) μ3 := bi
      have kb1 : Kb μ3 (μ' ++ [Cell.lst ((List.range (ds.length + 1)).map fun k => Mi.D.ref (μ3.length + 2 * k + 1))]) := rm.kb.app _
      have hlen := rm.len
      have ac : AC r F D T M μ'.length (fun k => μ3.length + 2 * k + 1) ts fs ds y z ys μ3 := by
        refine ⟨ok, hM, hT, hb, so.fl, so.len, h40, h2, lys, fun i w hi => ?_, h4, so.dd, ⟨fun i j _ _ h => by omega, fun i hi => by omega⟩, fun i hi => by omega⟩
        obtain ⟨t, ht1, ht2⟩ := h3.get hi
        rw [List.getElem?_map] at ht1
        obtain ⟨l, hl, e9⟩ := Option.map_eq_some_iff.mp ht1
        subst e9
        refine ⟨l, hl, ?_⟩
        simp only [stD, Lk] at ht2
        obtain ⟨xs, q1, q2⟩ := ht2
        have : xs = l.map Mi.D.bl := lks_flat (k := 1) q2 (okDs_map fun _ _ => rfl) (by rw [List.all_eq_true]; intro t ht; obtain ⟨d, _, e⟩ := List.mem_map.mp ht; subst e; rfl)
        rw [← this]; exact q1
      have em0 : EM μ'.length (ds.length + 1) T (fun k => μ3.length + 2 * k + 1) (fun _ _ => 0) (μ' ++ [Cell.lst ((List.range (ds.length + 1)).map fun k => Mi.D.ref (μ3.length + 2 * k + 1))]) := by
        refine ⟨by simp, fun i hi => ?_⟩
        have q := rm.cl i hi
        rw [List.getElem?_append_left (List.getElem?_eq_some_iff.mp q).1, q]
        congr 2
        apply List.ext_getElem?
        intro j
        by_cases hj : j < T
        · simp [hj]
        · rw [List.getElem?_eq_none (by simp; omega), List.getElem?_eq_none (by simp; omega)]
      generalize μ' ++ [Cell.lst ((List.range (ds.length + 1)).map fun k => Mi.D.ref (μ3.length + 2 * k + 1))] = μ4 at *
      have hyl4 : lenD y μ4 = some (ds.length + 1) := by rw [len_seq (kb1.seq h2), lys, so.len]
      have rr := rng_w (show ds.length + 1 ≤ 1000000 by omega) μ4
      simp [hyl4, -Res.bind_ok, -Bool.exists_bool] at rr ⊢
      rw [rr]
      simp [-Res.bind_ok, -Bool.exists_bool]
      refine acc_main hw Tk E ac em0 kb1 fun g' a' tk' gv' nu' ro' re' se' μ5 q1 q2 q3 => ?_
      have s1 := (q1.at (p := 0) (t := tn) (by omega) ht)
      have hz5 : lenD z μ5 = some ds.length := by rw [len_seq (q2.seq h4)]; simp
      have s11 := s1.1
      have s12 := s1.2
      simp at s11 s12
      simp [s11, s12, hz5, b_shr, b_bit, -Res.bind_ok, -Bool.exists_bool]
      refine hP _ _ ⟨_, rfl, q2, ?_⟩
      rw [← q3 0 tn ds.length (Nat.zero_le _) ht]
      cases (g' 0 tn).testBit ds.length <;> simp
end
theorem accw_w (n : Nat) : AccW (G (n + 5)) := accw_of (by rw [G_w]; decide) (bookck_w (n + 3)) (taskck_w (n + 1)) (isstr_w (n + 1)) (taken_w (n + 2)) (eos_w (n + 3)) (bprop_w (n + 3)) (cst_MOST_STRING_DEEDS _) (f_accepts (n + 4))
end Lw
/-! L31: drawn strings; the two written books of the law. -/
namespace Lw
open PySem Mi

def DStrW (Γ : Gam) : Prop := ∀ r s (F D T many : Nat) (ts : List (List Meth)), F ≤ 1000 → 0 < D → many ≤ 100 → Drawn Γ r s "_law_drawn_string" [bookD F D ts, .int many] (fun v => ∃ fs ds, StrOk F D fs ds ∧ ds.length ≤ many ∧ v = strD fs ds)
theorem dstr_of {Γ Γ' : Gam} (T1 : TakeW Γ) (e : ∀ ds μ, Γ'.fn "_law_drawn_string" ds μ = runD Γ ⟨4, 8, b__law_drawn_string⟩ ds μ) : DStrW Γ' := fun r s F D T many ts hF hD hm μ sp => by
  rw [e, run_ans _ _ _ _ rfl]
  refine okx_of fun P hP => ?_
  have rF := rng_w (show F ≤ 1000000 by omega)
  simp [b__law_drawn_string, bookD, limV, -Res.bind_ok, -Bool.exists_bool]
  refine (T1 r s _ (by omega) _ sp).imp fun v μ1 ⟨⟨n, hn, e⟩, sp1, kp1⟩ => ?_
  subst e
  simp [rng_w (show n ≤ 1000000 by omega), -Res.bind_ok, -Bool.exists_bool]
  refine lc_draw (r := r) (s := s) (Pd := fun x => ∃ d : Nat, d < D ∧ x = .int (d : Nat)) (fun d hd μ4 sp4 K2 hK2 => ?_) sp1 (by rw [rng_len, limV]; omega) fun l μ2 hl1 hl2 sp2 kp2 => ?_
  · simp [wipeE, e3__law_drawn_string, -Res.bind_ok, -Bool.exists_bool]
    exact (T1 r s D (by omega) μ4 sp4).imp fun v μ5 ⟨⟨k, hk, e⟩, sp5, kp5⟩ => hK2 v μ5 ⟨k, by omega, e⟩ sp5 kp5
  · obtain ⟨ds, e, hds⟩ := all_map (P := fun d => d < D) (f := fun d : Nat => Mi.D.int (d : Nat)) hl2
    subst e
    rw [rng_len] at hl1
    simp at hl1
    have rn := rng_w (show ds.length + 1 ≤ 1000000 by omega) μ2
    simp at rn
    simp [biD, rn, -Res.bind_ok, -Bool.exists_bool]
    refine lc_draw (r := r) (s := s) (Pd := fun x => ∃ l : List Bool, l.length = F ∧ x = stD l) (fun d hd μ4 sp4 K2 hK2 => ?_) sp2 (by rw [rng_len, limV]; omega) fun l μ3 hl3 hl4 sp3 kp3 => ?_
    · simp [wipeE, e1__law_drawn_string, rF, -Res.bind_ok, -Bool.exists_bool]
      refine lc_draw (r := r) (s := s) (Pd := fun x => ∃ b : Bool, True ∧ x = .bl b) (fun d hd μ5 sp5 K3 hK3 => ?_) sp4 (by rw [rng_len, limV]; omega) fun l μ5 hl5 hl6 sp5 kp5 => ?_
      · simp [wipeE, e2__law_drawn_string, -Res.bind_ok, -Bool.exists_bool]
        exact (T1 r s 2 (by decide) μ5 sp5).imp fun v μ6 ⟨⟨k, hk, e⟩, sp6, kp6⟩ => by
          subst e
          simp
          exact hK3 _ μ6 ⟨_, trivial, rfl⟩ sp6 kp6
      · obtain ⟨bs, e, _⟩ := all_map (P := fun _ => True) (f := Mi.D.bl) hl6
        subst e
        rw [rng_len] at hl5
        simp at hl5
        exact hK2 _ _ ⟨bs, hl5, rfl⟩ sp5 kp5
    · obtain ⟨fs, e, hfs⟩ := all_map (P := fun l : List Bool => l.length = F) (f := stD) hl4
      subst e
      rw [rng_len] at hl3
      simp at hl3
      exact hP _ _ ⟨⟨fs, ds, ⟨hfs, hl3, hds⟩, by omega, rfl⟩, sp3, (kp1.trans kp2).trans kp3⟩
theorem dstr_w (n : Nat) : DStrW (G (n + 3)) := dstr_of (take_w n) (f__law_drawn_string (n + 2))
/-! ### the moves of a line -/
theorem line_mv {F D : Nat} {fs : List (List Bool)} {ds : List Nat} (h : StrOk F D fs ds) : mvW (lineMs D ds fs.length) = lineMv ds := by
  funext s d
  by_cases hsd : s < fs.length ∧ d < D
  · exact lineMs_mv hsd.1 hsd.2
  · rw [lineMs_none hsd]
    unfold lineMv
    rw [if_neg]
    intro z
    obtain ⟨h1, h2⟩ := List.getElem?_eq_some_iff.mp z
    have := h.dd d (by rw [← h2]; exact List.getElem_mem h1)
    have := h.len
    exact hsd ⟨by omega, by omega⟩
/-- the least ends are in all that is closed -/
theorem end_least {opn : Nat → Nat → List (List Step)} {mv : Nat → Nat → Option Nat} {K : Nat → Nat → Nat → Prop} {T : Nat} (hc : ∀ t s, t < T → ∀ st ∈ opn t s, ∀ e, FolK K mv st s e → K t s e)
    (ho : ∀ t s, t < T → ∀ st ∈ opn t s, ∀ x ∈ st, x.1 = false → x.2 < T) {t s e : Nat} (ht : t < T) (h : End opn mv t s e) : K t s e :=
  end_complete (T := T) (fun _ => True) (fun t s ht _ st hst e he => hc t s ht st hst e he) ho (fun _ _ _ _ _ => trivial) ht trivial h
/-! ### half: a deed 0 and a deed 1 behind it, where the fact holds -/
def tsH : List (List Meth) := [[([], [(true, 0), (false, 1)]), ([], [])], [([(0, true)], [(true, 1), (false, 0)])]]
theorem okH : BookOk 1 2 2 2 tsH := by
  refine ⟨rfl, fun ms hms => ?_⟩
  simp [tsH] at hms
  rcases hms with e | e <;> subst e
  · refine ⟨by simp, fun m hm => ?_⟩
    simp at hm
    rcases hm with e | e <;> subst e <;> exact ⟨⟨by simp, by simp⟩, by simp, by simp⟩
  · refine ⟨by simp, fun m hm => ?_⟩
    simp at hm
    subst hm
    exact ⟨⟨by simp, by simp⟩, by simp, by simp⟩
def factAt (fs : List (List Bool)) (i : Nat) : Bool := (fs.getD i []).getD 0 false
/-- a chain of deeds 0, 1, 0, 1 .. from s to e, beginning with t -/
def Chain (fs : List (List Bool)) (ds : List Nat) (t s e : Nat) : Prop := s ≤ e ∧ (e - s + t) % 2 = 0 ∧ ∀ i, s ≤ i → i < e → ds[i]? = some ((i - s + t) % 2) ∧ ((i - s + t) % 2 = 1 → factAt fs i = true)
theorem opnH0 (fs : List (List Bool)) (s : Nat) : opnW tsH fs 0 s = [[(true, 0), (false, 1)], []] := rfl
theorem opnH1 (fs : List (List Bool)) (s : Nat) : opnW tsH fs 1 s = if factAt fs s then [[(true, 1), (false, 0)]] else [] := by
  have e : hold [(0, true)] (fs.getD s []) = factAt fs s := by
    unfold hold factAt
    simp only [List.all_cons, List.all_nil, Bool.and_true]
    cases (fs.getD s []).getD 0 false <;> rfl
  show (([([(0, true)], [(true, 1), (false, 0)])] : List Meth).filter fun m => hold m.1 (fs.getD s [])).map (·.2) = _
  rw [List.filter_cons]
  dsimp only
  rw [e]
  cases factAt fs s <;> rfl
theorem lineMv_some {ds : List Nat} {s d s' : Nat} (h : lineMv ds s d = some s') : ds[s]? = some d ∧ s' = s + 1 := by
  unfold lineMv at h
  split at h
  · rename_i q; cases h; exact ⟨q, rfl⟩
  · cases h
theorem chain_of_end {fs : List (List Bool)} {ds : List Nat} {e : Nat} (h : End (opnW tsH fs) (lineMv ds) 0 0 e) : Chain fs ds 0 0 e := by
  refine end_least (T := 2) (K := Chain fs ds) (fun t s ht st hst e he => ?_) (fun t s ht st hst x hx hx1 => ?_) (by omega) h
  · have : t = 0 ∨ t = 1 := by omega
    rcases this with e0 | e0 <;> subst e0
    · rw [opnH0] at hst
      simp at hst
      rcases hst with e1 | e1 <;> subst e1
      · obtain ⟨s1, h0, s2, ⟨c1, c2, c3⟩, h3⟩ := he
        obtain ⟨h1, e2⟩ := lineMv_some h0
        have : s2 = e := h3
        subst e2; subst this
        refine ⟨by omega, by omega, fun i hi1 hi2 => ?_⟩
        by_cases hi : i = s
        · subst hi
          refine ⟨by rw [h1]; congr 1; omega, fun z => by omega⟩
        · have := c3 i (by omega) hi2
          rw [show i - (s + 1) + 1 = i - s + 0 by omega] at this
          exact this
      · have : s = e := he
        subst this
        exact ⟨Nat.le_refl _, by omega, fun i h1 h2 => by omega⟩
    · rw [opnH1] at hst
      by_cases hf : factAt fs s = true
      · rw [if_pos hf] at hst
        simp at hst
        subst hst
        obtain ⟨s1, h0, s2, ⟨c1, c2, c3⟩, h3⟩ := he
        obtain ⟨h1, e2⟩ := lineMv_some h0
        have : s2 = e := h3
        subst e2; subst this
        refine ⟨by omega, by omega, fun i hi1 hi2 => ?_⟩
        by_cases hi : i = s
        · subst hi
          refine ⟨by rw [h1]; congr 1; omega, fun _ => hf⟩
        · have := c3 i (by omega) hi2
          rw [show (i - s + 1) % 2 = (i - (s + 1) + 0) % 2 by omega]
          exact this
      · rw [if_neg hf] at hst
        cases hst
  · have := opnW_task okH hst x hx
    simpa [hx1] using this
theorem end_of_chain {fs : List (List Bool)} {ds : List Nat} : ∀ (n s t : Nat), t < 2 → Chain fs ds t s (s + n) → End (opnW tsH fs) (lineMv ds) t s (s + n)
  | 0, s, t, ht, ⟨_, h2, _⟩ => by
    have : t = 0 := by omega
    subst this
    exact ⟨[], by rw [opnH0]; simp, .nil⟩
  | n + 1, s, t, ht, ⟨h1, h2, h3⟩ => by
    obtain ⟨h4, h5⟩ := h3 s (Nat.le_refl _) (by omega)
    have : t = 0 ∨ t = 1 := by omega
    rcases this with e0 | e0 <;> subst e0
    · have ih := end_of_chain n (s + 1) 1 (by omega) ⟨by omega, by omega, fun i hi1 hi2 => by
        have := h3 i (by omega) (by omega)
        rw [show i - (s + 1) + 1 = i - s + 0 by omega]
        exact this⟩
      rw [show s + 1 + n = s + (n + 1) by omega] at ih
      obtain ⟨st, i1, i2⟩ := ih
      refine ⟨[(true, 0), (false, 1)], by rw [opnH0]; simp, .deed (s' := s + 1) ?_ (.task i1 i2 .nil)⟩
      unfold lineMv
      rw [h4]
      simp
    · have hf := h5 (by omega)
      have ih := end_of_chain n (s + 1) 0 (by omega) ⟨by omega, by omega, fun i hi1 hi2 => by
        have := h3 i (by omega) (by omega)
        rw [show (i - (s + 1) + 0) % 2 = (i - s + 1) % 2 by omega]
        exact this⟩
      rw [show s + 1 + n = s + (n + 1) by omega] at ih
      obtain ⟨st, i1, i2⟩ := ih
      refine ⟨[(true, 1), (false, 0)], by rw [opnH1, if_pos hf]; simp, .deed (s' := s + 1) ?_ (.task i1 i2 .nil)⟩
      unfold lineMv
      rw [h4]
      simp
theorem half_iff {fs : List (List Bool)} {ds : List Nat} {L : Nat} : End (opnW tsH fs) (lineMv ds) 0 0 L ↔ Chain fs ds 0 0 L := by
  refine ⟨chain_of_end, fun h => ?_⟩
  have := end_of_chain (fs := fs) (ds := ds) L 0 0 (by omega) (by rw [Nat.zero_add]; exact h)
  rwa [Nat.zero_add] at this
def fsH (n : Nat) : List (List Bool) := (List.range n).map fun k => [k % 2 == 1]
def dsH (n : Nat) : List Nat := (List.range n).map fun k => k % 2
theorem factH {n i : Nat} (h : i < n) : factAt (fsH n) i = (i % 2 == 1) := by simp [factAt, fsH, h]
theorem halfA (n : Nat) : Chain (fsH (n + 1)) (dsH n) 0 0 n ↔ n % 2 = 0 := by
  refine ⟨fun h => by have := h.2.1; omega, fun h => ⟨Nat.zero_le _, by omega, fun i _ hi => ⟨by simp [dsH, hi], fun z => ?_⟩⟩⟩
  rw [factH (by omega)]
  simp; omega
theorem halfB {n at_ : Nat} (h : at_ < n) (fs : List (List Bool)) : ¬ Chain fs ((dsH n).set at_ (1 - at_ % 2)) 0 0 n := fun hc => by
  have := (hc.2.2 at_ (Nat.zero_le _) h).1
  rw [List.getElem?_set_self (by simp [dsH]; exact h)] at this
  simp at this
  omega
theorem halfC {n at_ : Nat} (h : at_ < n) (ho : at_ % 2 = 1) (ds : List Nat) : ¬ Chain ((fsH (n + 1)).set at_ [false]) ds 0 0 n := fun hc => by
  have := (hc.2.2 at_ (Nat.zero_le _) h).2 (by omega)
  have e : ((fsH (n + 1)).set at_ [false]).getD at_ [] = [false] := by
    rw [List.getD, List.getElem?_set_self (by simp [fsH]; omega)]; rfl
  unfold factAt at this
  rw [e] at this
  cases this
theorem strH (n : Nat) : StrOk 1 2 (fsH (n + 1)) (dsH n) := by
  refine ⟨fun l hl => ?_, by simp [fsH, dsH], fun d hd => ?_⟩
  · obtain ⟨k, _, e⟩ := List.mem_map.mp hl
    subst e; rfl
  · obtain ⟨k, _, e⟩ := List.mem_map.mp hd
    omega
/-! ### loop: deeds without end -/
def tsL : List (List Meth) := [[([], [(true, 0), (false, 0)]), ([], [])]]
theorem okL : BookOk 0 1 1 2 tsL := by
  refine ⟨rfl, fun ms hms => ?_⟩
  simp [tsL] at hms
  subst hms
  refine ⟨by simp, fun m hm => ?_⟩
  simp at hm
  rcases hm with e | e <;> subst e <;> exact ⟨⟨by simp, by simp⟩, by simp, by simp⟩
theorem loop_end {fs : List (List Bool)} {L : Nat} : ∀ (n s : Nat), s + n = L → End (opnW tsL fs) (lineMv (List.replicate L 0)) 0 s L
  | 0, s, h => by
    have e : s = L := by omega
    subst e
    exact ⟨[], by show ([] : List Step) ∈ [[(true, 0), (false, 0)], []]; simp, .nil⟩
  | n + 1, s, h => by
    obtain ⟨st, i1, i2⟩ := loop_end (fs := fs) (L := L) n (s + 1) (by omega)
    refine ⟨[(true, 0), (false, 0)], by show ([(true, 0), (false, 0)] : List Step) ∈ [[(true, 0), (false, 0)], []]; simp, .deed (s' := s + 1) ?_ (.task i1 i2 .nil)⟩
    unfold lineMv
    rw [if_pos]
    rw [List.getElem?_replicate, if_pos (show s < L by omega)]
end Lw
/-! L31b: the law of strings accepted. -/
namespace Lw
open PySem Mi

theorem Spot.kb {μ μ' : Mem} {r s : Nat} (h : Spot μ r s) (g : Kb μ μ') : Spot μ' r s := by
  obtain ⟨⟨rs, h1, h2⟩, ⟨a, h3⟩, h4⟩ := h
  exact ⟨⟨rs, h1, g _ _ h2⟩, ⟨a, g _ _ h3⟩, h4⟩
/-- a book stays while the law draws -/
theorem book_kp {μ μ' : Mem} {rr s r : Nat} {f d t : Mi.D} (sp : Spot μ rr s) (h : bookI r f d t μ) (k : Kp s μ μ') : bookI r f d t μ' := by
  refine k.2 _ _ (fun e => ?_) h
  subst e
  obtain ⟨a, h3⟩ := sp.at_
  have h' : μ[r]? = some (bookC f d t) := h
  rw [h3] at h'
  cases h'
theorem mem_at' {l : List Mi.D} {k : Nat} (h : k < l.length) : ∃ x ∈ l, atD l (k : Int) = some x := ⟨l[k], List.getElem_mem _, at_lt h⟩
section
variable {Γ : Gam} {K : Env' → Mem → Prop} {R : Mi.D → Mem → Prop} {B X : Env' → Mem → Prop} {Y : Str → List (Str × Mi.D) → Env' → Mem → Prop} {μ : Mem}
variable {rr s F D T t r : Nat} {ts : List (List Meth)}
structure LS (rr s F D T t r : Nat) (ts : List (List Meth)) (μ : Mem) : Prop where
  sp : Spot μ rr s
  ok : BookOk F D T 3 ts
  bi : bookI r (.int F) (.int D) (.tup (tasksD ts)) μ
  hF : F ≤ 2
  hD : 1 ≤ D ∧ D ≤ 3
  hT : 1 ≤ T ∧ T ≤ 4
  ht : t < T
theorem LS.kb (h : LS rr s F D T t r ts μ) {μ' : Mem} (g : Kb μ μ') : LS rr s F D T t r ts μ' := ⟨h.sp.kb g, h.ok, g _ _ h.bi, h.hF, h.hD, h.hT, h.ht⟩
theorem LS.kp (h : LS rr s F D T t r ts μ) {μ' : Mem} (sp : Spot μ' rr s) (g : Kp s μ μ') : LS rr s F D T t r ts μ' := ⟨sp, h.ok, book_kp h.sp h.bi g, h.hF, h.hD, h.hT, h.ht⟩
theorem law_b1 (T1 : TakeW Γ) (B1 : BookW Γ) (BO : BookOfW Γ) {ns : List Int} (h : μ[0]? = some (.rol (intsZ ns)))
    (N1' : ∃ rs μ', rs ≠ [] ∧ Γ.fn "_law_numbers" [.ref 0] μ = .ok (.ref μ.length) μ' ∧ μ'[μ.length]? = some (.lst (intsZ rs)))
    (hK : ∀ rr s F D T t r ts μ, LS rr s F D T t r ts μ → K [some (.ref 0), some (.ref rr), some (.ref s), some (bookD F D ts), some (.int (t : Nat)), some (.ref r), none, none, none, none, none, none, none, none, none, none, none, none] μ) :
    OS (exSs Γ (MSs.tk 5 b_law) (some (.ref 0) :: List.replicate 17 none) μ) K R B X Y := by
  obtain ⟨rs, μ1, hrs, hn, h1⟩ := N1'
  simp [b_law, MSs.tk, hn, limV, -Res.bind_ok, -Bool.exists_bool]
  have hl1 : μ.length < μ1.length := (List.getElem?_eq_some_iff.mp h1).1
  have sp0 : Spot (μ1 ++ [Cell.lst [.int 0]]) μ.length μ1.length := ⟨⟨rs, hrs, by rw [List.getElem?_append_left hl1]; exact h1⟩, ⟨0, by simp⟩, by omega⟩
  generalize μ1 ++ [Cell.lst [.int 0]] = μ2 at *
  generalize μ.length = rr at *
  generalize μ1.length = s at *
  refine (T1 rr s 3 (by decide) _ sp0).imp fun v μ3 ⟨⟨F, hF, e⟩, sp1, kp1⟩ => ?_
  subst e
  refine (T1 rr s 3 (by decide) _ sp1).imp fun v μ4 ⟨⟨d, hd, e⟩, sp2, kp2⟩ => ?_
  subst e
  simp [-Res.bind_ok, -Bool.exists_bool]
  refine (T1 rr s 4 (by decide) _ sp2).imp fun v μ5 ⟨⟨t, ht, e⟩, sp3, kp3⟩ => ?_
  subst e
  simp [-Res.bind_ok, -Bool.exists_bool]
  obtain ⟨D, hD⟩ : ∃ D : Nat, D = 1 + d := ⟨_, rfl⟩
  obtain ⟨T, hT⟩ : ∃ T : Nat, T = 1 + t := ⟨_, rfl⟩
  rw [show (1 : Int) + (d : Nat) = (D : Int) by omega, show (1 : Int) + (t : Nat) = (T : Int) by omega]
  refine (B1 rr s F D T 3 false (by omega) (by omega) (by omega) (by omega) (by omega) (by omega) _ sp3).imp fun v μ6 ⟨⟨ts, hb, e⟩, sp4, kp4⟩ => ?_
  subst e
  have lts : (tasksD ts).length = T := by simp [tasksD, hb.len]
  simp [bookD, biD, lts, -Res.bind_ok, -Bool.exists_bool]
  refine (T1 rr s T (by omega) _ sp4).imp fun v μ7 ⟨⟨tn, htn, e⟩, sp5, kp5⟩ => ?_
  subst e
  have bo := BO μ7 F D T 3 0 ts ⟨by omega, ⟨by omega, by omega⟩, ⟨by omega, by omega⟩, by omega⟩ hb
  simp [bookD] at bo
  refine bo.imp fun v μ8 ⟨r, e, hr, bi, kb1⟩ => ?_
  subst e
  have := hK rr s F D T tn r ts μ8 ⟨sp5.kb kb1, hb, bi, by omega, ⟨by omega, by omega⟩, ⟨by omega, by omega⟩, by omega⟩
  simpa [bookD] using this
/-- one string -/
theorem law_l1 (T1 : TakeW Γ) (Ds : DStrW Γ) (L6 : LooseW 6 Γ) (A : AccW Γ) (Al : AcceptsLW Γ) (So : SoEq 6 Γ) (ls : LS rr s F D T t r ts μ) {a6 a7 : Option Mi.D}
    (hK : ∀ a7' μ', LS rr s F D T t r ts μ' → K [some (.ref 0), some (.ref rr), some (.ref s), some (bookD F D ts), some (.int (t : Nat)), some (.ref r), a6, a7', none, none, none, none, none, none, none, none, none, none] μ') :
    OS (fBody Γ l1_law [some (.ref 0), some (.ref rr), some (.ref s), some (bookD F D ts), some (.int (t : Nat)), some (.ref r), a6, a7, none, none, none, none, none, none, none, none, none, none] μ) K R B X Y := by
  simp [fBody, l1_law, limV, -Res.bind_ok, -Bool.exists_bool]
  refine (T1 rr s 3 (by decide) _ ls.sp).imp fun v μ1 ⟨⟨k, hk, e⟩, sp1, kp1⟩ => ?_
  subst e
  have ls1 := ls.kp sp1 kp1
  obtain ⟨many, hm, em⟩ : ∃ many : Nat, many ≤ 12 ∧ atD [Mi.D.int 6, .int 6, .int 12] (k : Int) = some (.int (many : Nat)) := by
    have : k = 0 ∨ k = 1 ∨ k = 2 := by omega
    rcases this with e | e | e <;> subst e
    · exact ⟨6, by omega, rfl⟩
    · exact ⟨6, by omega, rfl⟩
    · exact ⟨12, by omega, rfl⟩
  simp [em, -Res.bind_ok, -Bool.exists_bool]
  refine (Ds rr s F D T many ts (by have := ls.hF; omega) (by have := ls.hD; omega) (by omega) _ sp1).imp fun v μ2 ⟨⟨fs, ds, so, hdl, e⟩, sp2, kp2⟩ => ?_
  subst e
  have ls2 := ls1.kp sp2 kp2
  refine (T1 rr s 2 (by decide) _ sp2).imp fun v μ3 ⟨⟨q, hq, e⟩, sp3, kp3⟩ => ?_
  subst e
  have ls3 := ls2.kp sp3 kp3
  have hF := ls.hF
  have hD := ls.hD
  have hT := ls.hT
  have ht := ls.ht
  refine (L6 μ3 (strD fs ds) q (okD_str so (by omega) (by omega))).imp fun x μ4 ⟨lk, kb4⟩ => ?_
  have ls4 := ls3.kb kb4
  refine (A.yes μ4 r F D T 3 t ts x fs ds ls.ok (by omega) (by omega) ls4.bi ht (by omega) lk so (by omega)).imp fun v μ5 ⟨b, e, kb5, hb⟩ => ?_
  subst e
  have ls5 := ls4.kb kb5
  refine (Al μ5 F D T 3 t ts fs ds ls.ok (by omega) (by omega) (by omega) so.fl so.len (by omega) ht).imp fun v μ6 ⟨b', e, kb6, hb'⟩ => ?_
  subst e
  rw [line_mv so] at hb'
  have ee : b' = b := by
    cases b <;> cases b'
    · rfl
    · exact absurd (hb.mpr (hb'.mp rfl)) (by simp)
    · exact absurd (hb'.mpr (hb.mp rfl)) (by simp)
    · rfl
  subst ee
  refine (So μ6 (.bl b') rfl).imp fun v μ7 ⟨e1, e2⟩ => ?_
  subst e1; subst e2
  simp
  exact hK _ _ (ls5.kb kb6)
end
end Lw
/-! L31c: the law of strings accepted, from the odd values on. -/
namespace Lw
open PySem Mi

def fineD (F : Nat) : Mi.D := .tup (List.replicate F (.bl false))
def odd1 (F D : Nat) : List Mi.D := [.non, .int 5, .tup [], .tup [.tup [fineD F]], .tup [.tup [fineD F], .tup [.int 0]], .tup [.tup [fineD F, fineD F], .tup []], .tup [.tup [fineD F, fineD F], .tup [.int D]], .tup [.tup [fineD F, fineD F], .tup [.bl true]]]
def odd2 (F : Nat) : List Mi.D := [.tup [.tup [.tup (List.replicate F (.bl false) ++ [.bl true])], .tup []], .tup [.tup [.non], .tup []], .tup [.tup [fineD F], .non], .tup [.tup [fineD F], .tup [], .tup []]]
theorem ok_fine {F : Nat} (h : F ≤ 2) (k : Nat) : okD (k + 2) (fineD F) = true := by
  refine okD_tup (by simp; omega) ?_
  have : F = 0 ∨ F = 1 ∨ F = 2 := by omega
  rcases this with e | e | e <;> subst e <;> rfl
theorem odd_bad {F D : Nat} (hF : F ≤ 2) : ∀ x ∈ odd1 F D ++ odd2 F, okD 6 x = true ∧ strT F D x = false := fun x hx => by
  have h3 := ok_fine hF 2
  have h4 : okD 3 (fineD F) = true := ok_fine hF 1
  simp only [odd1, odd2, List.cons_append, List.nil_append, List.mem_cons, List.not_mem_nil, or_false] at hx
  have ofx : okD 4 (.tup (List.replicate F (.bl false) ++ [.bl true])) = true := by
    have : F = 0 ∨ F = 1 ∨ F = 2 := by omega
    rcases this with e | e | e <;> subst e <;> rfl
  have fl1 : flagsT F (.tup (List.replicate F (.bl false) ++ [.bl true])) = false := by
    simp only [flagsT]
    have : (((List.replicate F (Mi.D.bl false) ++ [Mi.D.bl true]).length : Int) == (F : Int)) = false := by simp; omega
    rw [this]; rfl
  rcases hx with e | e | e | e | e | e | e | e | e | e | e | e <;> subst e
  · exact ⟨rfl, rfl⟩
  · exact ⟨rfl, rfl⟩
  · exact ⟨rfl, rfl⟩
  · exact ⟨by simp [okD, okDs, h3], rfl⟩
  · exact ⟨by simp [okD, okDs, h3], by simp [strT, isSeqT, seqT]⟩
  · exact ⟨by simp [okD, okDs, h3], by simp [strT, isSeqT, seqT]⟩
  · exact ⟨by simp [okD, okDs, h3], by simp [strT, isSeqT, seqT, isNum]⟩
  · exact ⟨by simp [okD, okDs, h3], by simp [strT, isSeqT, seqT, isNum]⟩
  · exact ⟨by simp only [okD, okDs] at ofx ⊢; simp [okD, okDs, ofx] <;> (have := ofx; simp at this; omega), by simp [strT, isSeqT, seqT, fl1]⟩
  · exact ⟨by simp [okD, okDs], by simp [strT, isSeqT, seqT, flagsT]⟩
  · exact ⟨by simp [okD, okDs, h3], by simp [strT, isSeqT]⟩
  · exact ⟨by simp [okD, okDs, h3], rfl⟩
theorem map_rep {α β : Type} (d : β) : ∀ l : List α, l.map (fun _ => d) = List.replicate l.length d
  | [] => rfl
  | a :: l => by rw [List.map_cons, map_rep d l]; rfl
/-- a comprehension of one and the same thing -/
theorem lc_rep {step : Mi.D → Mem → Res (Option Mi.D)} {d0 : Mi.D} {ds : List Mi.D} {μ : Mem} {Q : List Mi.D → Mem → Prop} {X : Str → List (Str × Mi.D) → Mem → Prop} (hs : ∀ d ∈ ds, step d μ = .ok (some d0) μ) (hl : ds.length ≤ lim) (hq : Q (List.replicate ds.length d0) μ) : OkX (compL step [] 0 ds μ) Q X := by
  have := comp_map (f := fun _ => d0) (own := []) (n := 0) (ds := ds) rfl hs (by omega)
  rw [this, k_ok]
  rw [map_rep]
  exact hq
section
variable {Γ : Gam} {K : Env' → Mem → Prop} {R : Mi.D → Mem → Prop} {B X : Env' → Mem → Prop} {Y : Str → List (Str × Mi.D) → Env' → Mem → Prop} {μ : Mem}
variable {rr s F D T t r : Nat} {ts : List (List Meth)}
theorem law_c (T1 : TakeW Γ) (A : AccW Γ) (So : SoEq 6 Γ) (ls : LS rr s F D T t r ts μ) {a6 a7 : Option Mi.D}
    (hK : ∀ (a8 a9 a10 : Option Mi.D) μ', LS rr s F D T t r ts μ' → K [some (.ref 0), some (.ref rr), some (.ref s), some (bookD F D ts), some (.int (t : Nat)), some (.ref r), a6, a7, a8, a9, a10, none, none, none, none, none, none, none] μ') :
    OS (exSs Γ (MSs.tk 4 (MSs.dp 6 b_law)) [some (.ref 0), some (.ref rr), some (.ref s), some (bookD F D ts), some (.int (t : Nat)), some (.ref r), a6, a7, none, none, none, none, none, none, none, none, none, none] μ) K R B X Y := by
  have hF := ls.hF
  have hD := ls.hD
  have hT := ls.hT
  have ht := ls.ht
  have rF := rng_w (show F ≤ 1000000 by omega) μ
  simp [b_law, MSs.dp, MSs.tk, bookD, limV, rF, -Res.bind_ok, -Bool.exists_bool]
  refine lc_rep (d0 := .bl false) (fun d hd => ?_) (by rw [rng_len, limV]; omega) ?_
  · simp [cStep, wipeE]
  · rw [rng_len]
    have kb1 : Kb μ (μ ++ [Cell.lst (odd1 F D)]) := (Kb.rfl' μ).app _
    have h1 : (μ ++ [Cell.lst (odd1 F D)])[μ.length]? = some (.lst (odd1 F D)) := by simp
    have e1 : odd1 F D = [.non, .int 5, .tup [], .tup [.tup [.tup (List.replicate F (.bl false))]], .tup [.tup [.tup (List.replicate F (.bl false))], .tup [.int 0]], .tup [.tup [.tup (List.replicate F (.bl false)), .tup (List.replicate F (.bl false))], .tup []], .tup [.tup [.tup (List.replicate F (.bl false)), .tup (List.replicate F (.bl false))], .tup [.int D]], .tup [.tup [.tup (List.replicate F (.bl false)), .tup (List.replicate F (.bl false))], .tup [.bl true]]] := rfl
    have eadd : ∀ μ : Mem, binD .add (.tup (List.replicate F (.bl false))) (.tup [.bl true]) μ = .ok (.tup (List.replicate F (.bl false) ++ [.bl true])) μ := fun μ => by
      simp only [binD]
      rw [if_pos (by rw [limV]; simp; omega)]
    rw [← e1]
    simp [eadd, -Res.bind_ok, -Bool.exists_bool]
    have e2 : odd2 F = [.tup [.tup [.tup (List.replicate F (.bl false) ++ [.bl true])], .tup []], .tup [.tup [.non], .tup []], .tup [.tup [.tup (List.replicate F (.bl false))], .non], .tup [.tup [.tup (List.replicate F (.bl false))], .tup [], .tup []]] := rfl
    rw [← e2]
    have kb2 : Kb μ (μ ++ [Cell.lst (odd1 F D), Cell.lst (odd2 F)]) := (Kb.rfl' μ).app _
    have h2 : (μ ++ [Cell.lst (odd1 F D), Cell.lst (odd2 F)])[μ.length]? = some (.lst (odd1 F D)) := by simp
    have h3 : (μ ++ [Cell.lst (odd1 F D), Cell.lst (odd2 F)])[μ.length + 1]? = some (.lst (odd2 F)) := by
      rw [List.getElem?_append_right (by omega)]; simp
    generalize μ ++ [Cell.lst (odd1 F D), Cell.lst (odd2 F)] = μ2 at *
    have eb : binD .add (.ref μ.length) (.ref (μ.length + 1)) μ2 = .ok (.ref μ2.length) (μ2 ++ [Cell.lst (odd1 F D ++ odd2 F)]) := by
      simp only [binD, h2, h3]
      rw [if_pos (by rw [limV]; simp [odd1, odd2])]
      rfl
    simp [eb, -Res.bind_ok, -Bool.exists_bool]
    have kb3 := kb2.app [Cell.lst (odd1 F D ++ odd2 F)]
    have h4 : (μ2 ++ [Cell.lst (odd1 F D ++ odd2 F)])[μ2.length]? = some (.lst (odd1 F D ++ odd2 F)) := by simp
    generalize μ2 ++ [Cell.lst (odd1 F D ++ odd2 F)] = μ3 at *
    have ls3 := ls.kb kb3
    refine (T1 rr s 12 (by decide) _ ls3.sp).imp fun v μ4 ⟨⟨k, hk, e⟩, sp4, kp4⟩ => ?_
    subst e
    have ls4 := ls3.kp sp4 kp4
    have hs2 : μ2.length ≠ s := by
      have := ls.sp.lt
      have := kb2.len
      omega
    have h5 := kp4.2 _ _ hs2 h4
    obtain ⟨x, hx, ex⟩ := mem_at' (l := odd1 F D ++ odd2 F) (k := k) (by simp [odd1, odd2]; omega)
    obtain ⟨q1, q2⟩ := odd_bad hF x hx
    have esub : subD (.ref μ2.length) (.int (k : Nat)) μ4 = some x := by rw [sub_lst h5]; exact ex
    simp [esub, -Res.bind_ok, -Bool.exists_bool]
    refine (A.no μ4 r F D T 3 t 6 ts x x ls.ok ls4.bi ht (Lk.refl μ4 x) q1 q2).imp fun v μ5 ⟨e3, e4⟩ => ?_
    subst e3; subst e4
    refine (So μ5 (.bl false) rfl).imp fun v μ6 ⟨e3, e4⟩ => ?_
    subst e3; subst e4
    simp
    exact hK _ _ _ _ ls4
end
end Lw
/-! L31d: the law of strings accepted: the written books; the whole. -/
namespace Lw
open PySem Mi

def NewBookW (Γ : Gam) : Prop := ∀ (μ : Mem) (F D T M : Nat) (ts : List (List Meth)), (F ≤ 4 ∧ (1 ≤ D ∧ D ≤ 5) ∧ (1 ≤ T ∧ T ≤ 6) ∧ M ≤ 5) → BookOk F D T M ts →
  OkX (Γ.fn "Book.__init__" [.ref μ.length, .int F, .int D, .tup (tasksD ts)] (μ ++ [.ins "Book" []])) (fun v μ' => v = .non ∧ bookI μ.length (.int F) (.int D) (.tup (tasksD ts)) μ' ∧ Kb μ μ') X0
theorem newbook_of {Γ : Gam} (B : BookInitW Γ) : NewBookW Γ := fun μ F D T M ts ⟨h1, ⟨h2, h2'⟩, ⟨h3, h3'⟩, h4⟩ ok => by
  have okt := ok_tasks (by omega) (by omega) (by omega) ok
  refine (B (μ ++ [.ins "Book" []]) μ.length (.int F) (.int D) (.tup (tasksD ts)) (.tup (tasksD ts)) 6 (by simp) (Lk.refl _ _) okt (to_tasks ts)).mono (fun w μ2 ⟨g1, g2, μ3, g3, g4⟩ => ?_) fun c fs μ2 ⟨g1, _⟩ => ?_
  · subst g2; subst g4
    have hlt := Kb.lt g3
    refine ⟨rfl, by simp [bookI, hlt], ?_⟩
    exact (((Kb.rfl' μ).app _).trans g3).put (Nat.le_refl _) _
  · rw [book_fault_drawn h1 h2 h2' h3 h3' h4 ok] at g1
    cases g1
/-- accepts of half -/
def HalfW (Γ : Gam) : Prop := ∀ (μ : Mem) (r : Nat) (fs : List (List Bool)) (ds : List Nat), bookI r (.int 1) (.int 2) (.tup (tasksD tsH)) μ → StrOk 1 2 fs ds → ds.length ≤ 41 →
  OkX (Γ.fn "accepts" [.ref r, .int 0, strD fs ds] μ) (fun v μ' => ∃ b : Bool, v = .bl b ∧ Kb μ μ' ∧ (b = true ↔ ds.length ≤ 40 ∧ Chain fs ds 0 0 ds.length)) X0
theorem half_of {Γ : Gam} (A : AccW Γ) : HalfW Γ := fun μ r fs ds bi so hl => by
  by_cases h40 : ds.length ≤ 40
  · refine (A.yes μ r 1 2 2 2 0 tsH (strD fs ds) fs ds okH (by omega) (by omega) bi (by omega) (by omega) (Lk.refl _ _) so h40).imp fun v μ1 ⟨b, e, kb, hb⟩ => ⟨b, e, kb, ?_⟩
    rw [hb, half_iff]
    exact ⟨fun h => ⟨h40, h⟩, fun h => h.2⟩
  · refine (A.long μ r 1 2 2 2 0 tsH (strD fs ds) fs ds okH bi (by omega) (by omega) (Lk.refl _ _) so (by omega) (by omega)).imp fun v μ1 ⟨e1, e2⟩ => ⟨false, e1, by rw [e2]; exact Kb.rfl' _, ?_⟩
    simp; omega
/-- accepts of loop -/
def LoopW (Γ : Gam) : Prop := ∀ (μ : Mem) (r n : Nat), bookI r (.int 0) (.int 1) (.tup (tasksD tsL)) μ → n ≤ 50 →
  OkX (Γ.fn "accepts" [.ref r, .int 0, strD (List.replicate (n + 1) []) (List.replicate n 0)] μ) (fun v μ' => v = .bl (decide (n ≤ 40)) ∧ Kb μ μ') X0
theorem strL (n : Nat) : StrOk 0 1 (List.replicate (n + 1) []) (List.replicate n 0) := ⟨fun l hl => by rw [List.eq_of_mem_replicate hl]; rfl, by simp, fun d hd => by rw [List.eq_of_mem_replicate hd]; omega⟩
theorem loop_of {Γ : Gam} (A : AccW Γ) : LoopW Γ := fun μ r n bi hl => by
  by_cases h40 : n ≤ 40
  · refine (A.yes μ r 0 1 1 2 0 tsL _ _ _ okL (by omega) (by omega) bi (by omega) (by omega) (Lk.refl _ _) (strL n) (by simpa using h40)).imp fun v μ1 ⟨b, e, kb, hb⟩ => ⟨?_, kb⟩
    have : b = true := by
      rw [hb]
      have := loop_end (fs := List.replicate (n + 1) []) (L := n) n 0 (by omega)
      simpa using this
    rw [e, this]; simp [h40]
  · refine (A.long μ r 0 1 1 2 0 tsL _ _ _ okL bi (by omega) (by omega) (Lk.refl _ _) (strL n) (by simp; omega) (by simp; omega)).imp fun v μ1 ⟨e1, e2⟩ => ⟨?_, by rw [e2]; exact Kb.rfl' _⟩
    rw [e1]; simp [h40]
section
variable {Γ : Gam} {K : Env' → Mem → Prop} {R : Mi.D → Mem → Prop} {B X : Env' → Mem → Prop} {Y : Str → List (Str × Mi.D) → Env' → Mem → Prop} {μ : Mem}
variable {rr s n h fa de : Nat}
/-- half stands, the facts and the deeds beside -/
structure HS (rr s n h fa de : Nat) (μ : Mem) : Prop where
  sp : Spot μ rr s
  bi : bookI h (.int 1) (.int 2) (.tup (tasksD tsH)) μ
  hn : n < 42
  fc : μ[fa]? = some (.lst ((fsH (n + 1)).map stD))
  dc : μ[de]? = some (.lst (intsD (dsH n)))
  n1 : fa ≠ s
  n2 : de ≠ s
theorem HS.kb (x : HS rr s n h fa de μ) {μ' : Mem} (g : Kb μ μ') : HS rr s n h fa de μ' := ⟨x.sp.kb g, g _ _ x.bi, x.hn, g _ _ x.fc, g _ _ x.dc, x.n1, x.n2⟩
theorem HS.kp (x : HS rr s n h fa de μ) {μ' : Mem} (sp : Spot μ' rr s) (g : Kp s μ μ') : HS rr s n h fa de μ' := ⟨sp, book_kp x.sp x.bi g, x.hn, g.2 _ _ x.n1 x.fc, g.2 _ _ x.n2 x.dc, x.n1, x.n2⟩
abbrev envH (rr s : Nat) (b t m a6 a7 a8 a9 a10 : Option Mi.D) (h n fa de : Nat) (at_ : Option Mi.D) : Env' := [some (.ref 0), some (.ref rr), some (.ref s), b, t, m, a6, a7, a8, a9, a10, some (.ref h), some (.int (n : Nat)), some (.ref fa), some (.ref de), at_, none, none]
variable {b t m a6 a7 a8 a9 a10 at_ : Option Mi.D}
theorem law_d (i1 : Γ.init "Book" = some ("Book.__init__" : Str)) (Nb : NewBookW Γ) (T1 : TakeW Γ) (sp : Spot μ rr s)
    (hK : ∀ (n h fa de : Nat) (a6' : Option Mi.D) μ', HS rr s n h fa de μ' → K (envH rr s b t m a6' a7 a8 a9 a10 h n fa de none) μ') :
    OS (exSs Γ (MSs.tk 4 (MSs.dp 10 b_law)) [some (.ref 0), some (.ref rr), some (.ref s), b, t, m, a6, a7, a8, a9, a10, none, none, none, none, none, none, none] μ) K R B X Y := by
  simp [b_law, MSs.dp, MSs.tk, limV, i1, -Res.bind_ok, -Bool.exists_bool]
  have nb := Nb μ 1 2 2 2 tsH ⟨by omega, ⟨by omega, by omega⟩, ⟨by omega, by omega⟩, by omega⟩ okH
  refine OkX.imp nb fun v μ1 ⟨e1, bi, kb⟩ => ?_
  subst e1
  simp [-Res.bind_ok, -Bool.exists_bool]
  have sp1 := sp.kb kb
  refine (T1 rr s 42 (by decide) _ sp1).imp fun v μ2 ⟨⟨n, hn, e⟩, sp2, kp2⟩ => ?_
  subst e
  have bi2 := book_kp sp1 bi kp2
  have r1 := rng_w (show n + 1 ≤ 1000000 by omega) μ2
  have r2 := fun μ => rng_w (show n ≤ 1000000 by omega) μ
  simp at r1
  have em : ∀ (k : Nat) (μ : Mem), binD .mod (.int (k : Nat)) (.int 2) μ = .ok (.int ((k % 2 : Nat) : Int)) μ := fun k μ => by
    rw [modK (by decide)]
    congr 2
  simp [r1, -Res.bind_ok, -Bool.exists_bool]
  refine OkX.lc (fun i acc μ' => acc = (fsH i).map stD ∧ μ' = μ2) ⟨rfl, rfl⟩ (by rw [rng_len, limV]; omega) (fun j d acc μ' hd ⟨e1, e2⟩ => ⟨rfl, fun K2 hK2 => ?_⟩) fun acc μ' ⟨e1, e2⟩ => ?_
  · obtain ⟨hj, ed⟩ := rng_get hd
    subst ed; subst e1; subst e2
    simp [wipeE, e4_law, biD, em, limV, -Res.bind_ok, -Bool.exists_bool, -Int.natCast_emod]
    refine hK2 _ _ ⟨?_, rfl⟩
    have : (((j % 2 : Nat) : Int) == 1) = (j % 2 == 1) := by
      have := Nat.mod_two_eq_zero_or_one j
      rcases this with h | h <;> simp [h]
    simp [fsH, List.range_succ, stD]
    have e2 : ((j : Int) % 2) = ((j % 2 : Nat) : Int) := by omega
    rw [e2]; exact this
  · subst e1; subst e2
    rw [rng_len]
    refine ⟨rfl, ?_⟩
    simp [r2, -Res.bind_ok, -Bool.exists_bool]
    have h3 : (μ' ++ [Cell.lst ((fsH (n + 1)).map stD)])[μ'.length]? = some (.lst ((fsH (n + 1)).map stD)) := by simp
    have sp3 := sp2.app [Cell.lst ((fsH (n + 1)).map stD)]
    have kb3 : Kb μ' (μ' ++ [Cell.lst ((fsH (n + 1)).map stD)]) := (Kb.rfl' _).app _
    have bi3 := kb3 _ _ bi2
    have hs3 := sp2.lt
    generalize μ' ++ [Cell.lst ((fsH (n + 1)).map stD)] = μ3 at *
    refine OkX.lc (fun i acc μ4 => acc = intsD (dsH i) ∧ μ4 = μ3) ⟨rfl, rfl⟩ (by rw [rng_len, limV]; omega) (fun j d acc μ4 hd ⟨e1, e2⟩ => ⟨rfl, fun K2 hK2 => ?_⟩) fun acc μ4 ⟨e1, e2⟩ => ?_
    · obtain ⟨hj, ed⟩ := rng_get hd
      subst ed; subst e1; subst e2
      simp [wipeE, e3_law, biD, em, limV, -Res.bind_ok, -Bool.exists_bool, -Int.natCast_emod]
      refine hK2 _ _ ⟨?_, rfl⟩
      simp [dsH, List.range_succ]
    · subst e1; subst e2
      rw [rng_len]
      refine ⟨rfl, ?_⟩
      have kb4 : Kb μ4 (μ4 ++ [Cell.lst (intsD (dsH n))]) := (Kb.rfl' _).app _
      have hl4 := (List.getElem?_eq_some_iff.mp h3).1
      refine hK n μ.length μ'.length μ4.length _ _ ⟨sp3.kb kb4, kb4 _ _ bi3, by omega, kb4 _ _ h3, by simp, by omega, by omega⟩
theorem le_dec (n : Nat) (μ : Mem) : cmpD .le (.int (n : Nat)) (.int 40) μ = some (decide (n ≤ 40)) := by
  rw [c_le]
  congr 1
  rw [decide_eq_decide]; omega
theorem em2 (k : Nat) (μ : Mem) : binD .mod (.int (k : Nat)) (.int 2) μ = .ok (.int ((k % 2 : Nat) : Int)) μ := by
  rw [modK (by decide)]
  congr 2
theorem law_e (Hf : HalfW Γ) (So : SoEq 6 Γ) (hs : HS rr s n h fa de μ)
    (hK : ∀ μ', HS rr s n h fa de μ' → K (envH rr s b t m a6 a7 a8 a9 a10 h n fa de none) μ') :
    OS (exSs Γ (MSs.tk 1 (MSs.dp 14 b_law)) (envH rr s b t m a6 a7 a8 a9 a10 h n fa de none) μ) K R B X Y := by
  have hn := hs.hn
  have so := strH n
  simp [b_law, MSs.dp, MSs.tk, limV, its_lst hs.fc, its_lst hs.dc, -Res.bind_ok, -Bool.exists_bool]
  have hf := Hf μ h (fsH (n + 1)) (dsH n) hs.bi so (by simp [dsH]; omega)
  refine OkX.imp hf fun v μ1 ⟨q, e, kb1, hq⟩ => ?_
  subst e
  have hs1 := hs.kb kb1
  have l1 : (dsH n).length = n := by simp [dsH]
  rw [l1, halfA] at hq
  have eb : (((n % 2 : Nat) : Int) == 0) = decide (n % 2 = 0) := by
    have := Nat.mod_two_eq_zero_or_one n
    rcases this with h | h <;> simp [h]
  have fin : OkX (Γ.fn "_law_so" [.bl q, .bl q] μ1) (fun a μ => ∃ a_2, truthD a μ = some a_2 ∧ ∃ a, a_2 = !a ∧ if a = true then R (.bl false) μ else K (envH rr s b t m a6 a7 a8 a9 a10 h n fa de none) μ) (fun c fs μ => Y c fs (envH rr s b t m a6 a7 a8 a9 a10 h n fa de none) μ) := by
    refine (So μ1 (.bl q) rfl).imp fun v μ2 ⟨e1, e2⟩ => ?_
    subst e1; subst e2
    simp
    exact hK _ hs1
  by_cases h40 : n ≤ 40
  · have h40' : (n : Int) ≤ 40 := by omega
    have eq : q = (((n % 2 : Nat) : Int) == 0) := by
      rw [eb]
      by_cases h2 : n % 2 = 0
      · simp [h2]; exact hq.mpr ⟨h40, h2⟩
      · simp [h2]
        cases q with
        | false => rfl
        | true => exact absurd (hq.mp rfl).2 h2
    simp [h40', biD, em2, -Res.bind_ok, -Bool.exists_bool, -Int.natCast_emod]
    rw [← eq]
    simpa [-Bool.exists_bool] using fin
  · have h40' : ¬ (n : Int) ≤ 40 := by omega
    have eq : q = false := by
      cases q with
      | false => rfl
      | true => exact absurd (hq.mp rfl).1 h40
    subst eq
    simp [h40', -Res.bind_ok, -Bool.exists_bool]
    simpa [-Bool.exists_bool] using fin
theorem chain_false {q : Bool} {fs : List (List Bool)} {ds : List Nat} (hq : q = true ↔ ds.length ≤ 40 ∧ Chain fs ds 0 0 ds.length) (hn : ¬ Chain fs ds 0 0 ds.length) : q = false := by
  cases q with
  | false => rfl
  | true => exact absurd (hq.mp rfl).2 hn
theorem law_f (Hf : HalfW Γ) (T1 : TakeW Γ) (So : SoEq 6 Γ) (St : SetW Γ) (hs1 : HS rr s n h fa de μ)
    (hK : ∀ (at' : Option Mi.D) μ', Spot μ' rr s → K (envH rr s b t m a6 a7 a8 a9 a10 h n fa de at') μ') :
    OS (exSs Γ (MSs.tk 1 (MSs.dp 15 b_law)) (envH rr s b t m a6 a7 a8 a9 a10 h n fa de none) μ) K R B X Y := by
  have hn := hs1.hn
  have so := strH n
  simp [b_law, MSs.dp, MSs.tk, -Res.bind_ok, -Bool.exists_bool]
  by_cases h0 : 0 < n
  · simp [h0, i1_law, -Res.bind_ok, -Bool.exists_bool]
    refine (T1 rr s n (by omega) _ hs1.sp).imp fun v μ2 ⟨⟨at_, hat, e⟩, sp2, kp2⟩ => ?_
    subst e
    have hs2 := hs1.kp sp2 kp2
    have hat' : at_ < n := by omega
    have eat : subD (.ref de) (.int (at_ : Nat)) μ2 = some (.int ((at_ % 2 : Nat) : Int)) := by
      rw [sub_lst hs2.dc]; exact at_nat (by simp [dsH, hat'])
    simp [its_lst hs2.fc, its_lst hs2.dc, eat, limV, -Res.bind_ok, -Bool.exists_bool, -Int.natCast_emod]
    have esub : (1 : Int) - ((at_ % 2 : Nat) : Int) = ((1 - at_ % 2 : Nat) : Int) := by omega
    rw [esub]
    have hst := St μ2 (intsD (dsH n)) at_ (.int ((1 - at_ % 2 : Nat) : Int)) (by simp [dsH]; exact hat') (by simp [dsH]; omega)
    refine OkX.imp hst fun v μ3 ⟨e, kb3⟩ => ?_
    subst e
    have hs3 := hs2.kb kb3
    have ei : (intsD (dsH n)).set at_ (.int ((1 - at_ % 2 : Nat) : Int)) = intsD ((dsH n).set at_ (1 - at_ % 2)) := by simp
    have soB : StrOk 1 2 (fsH (n + 1)) ((dsH n).set at_ (1 - at_ % 2)) := ⟨so.fl, by simpa using so.len, fun d hd => by
      rcases List.mem_or_eq_of_mem_set hd with h | h
      · exact so.dd d h
      · omega⟩
    have lB : ((dsH n).set at_ (1 - at_ % 2)).length = n := by simp [dsH]
    have hB := Hf μ3 h (fsH (n + 1)) ((dsH n).set at_ (1 - at_ % 2)) hs3.bi soB (by rw [lB]; omega)
    rw [strD, ← ei] at hB
    refine ⟨_, rfl, ?_⟩
    refine OkX.imp hB fun v μ4 ⟨q, e, kb4, hq⟩ => ?_
    subst e
    have eq := chain_false hq (by rw [lB]; exact halfB hat' _)
    subst eq
    have hs4 := hs3.kb kb4
    refine (So μ4 (.bl false) rfl).imp fun v μ5 ⟨e1, e2⟩ => ?_
    subst e1; subst e2
    simp [biD, em2, -Res.bind_ok, -Bool.exists_bool, -Int.natCast_emod]
    by_cases ho : at_ % 2 = 1
    · simp [ho, its_lst hs4.fc, its_lst hs4.dc, limV, -Res.bind_ok, -Bool.exists_bool, -Int.natCast_emod]
      have hst2 := St μ5 ((fsH (n + 1)).map stD) at_ (.tup [.bl false]) (by simp [fsH]; omega) (by simp [fsH]; omega)
      refine OkX.imp hst2 fun v μ6 ⟨e, kb6⟩ => ?_
      subst e
      have hs6 := hs4.kb kb6
      have ei2 : ((fsH (n + 1)).map stD).set at_ (.tup [.bl false]) = (((fsH (n + 1)).set at_ [false])).map stD := by rw [List.map_set]; rfl
      rw [ei2]
      have soC : StrOk 1 2 ((fsH (n + 1)).set at_ [false]) (dsH n) := ⟨fun l hl => by
        rcases List.mem_or_eq_of_mem_set hl with h | h
        · exact so.fl l h
        · subst h; rfl, by simpa using so.len, so.dd⟩
      have l1 : (dsH n).length = n := by simp [dsH]
      have hC := Hf μ6 h ((fsH (n + 1)).set at_ [false]) (dsH n) hs6.bi soC (by rw [l1]; omega)
      simp [its_lst hs6.dc, limV, -Res.bind_ok, -Bool.exists_bool, -Int.natCast_emod, -List.map_set]
      refine OkX.imp hC fun v μ7 ⟨q, e, kb7, hq⟩ => ?_
      subst e
      have eq := chain_false hq (by rw [l1]; exact halfC hat' ho _)
      subst eq
      refine (So μ7 (.bl false) rfl).imp fun v μ8 ⟨e1, e2⟩ => ?_
      subst e1; subst e2
      simp
      exact hK _ _ (hs6.kb kb7).sp
    · have h00 : at_ % 2 = 0 := by omega
      simp [h00, -Res.bind_ok, -Bool.exists_bool, -Int.natCast_emod]
      exact hK _ _ hs4.sp
  · simp [h0, -Res.bind_ok]
    exact hK _ _ hs1.sp
theorem law_g (i1 : Γ.init "Book" = some ("Book.__init__" : Str)) (Nb : NewBookW Γ) (T1 : TakeW Γ) (Lp : LoopW Γ) (So : SoEq 6 Γ) (sp : Spot μ rr s) {ρ0 : List (Option Mi.D)}
    (hR : ∀ μ', R (.bl true) μ') : OS (exSs Γ (MSs.dp 16 b_law) (envH rr s b t m a6 a7 a8 a9 a10 h n fa de at_) μ) K R B X Y := by
  simp [b_law, MSs.dp, -Res.bind_ok, -Bool.exists_bool]
  refine (T1 rr s 5 (by decide) _ sp).imp fun v μ1 ⟨⟨k, hk, e⟩, sp1, kp1⟩ => ?_
  subst e
  simp [limV, i1, -Res.bind_ok, -Bool.exists_bool]
  obtain ⟨many, hm⟩ : ∃ many : Nat, many = 38 + k := ⟨_, rfl⟩
  rw [show (38 : Int) + (k : Nat) = (many : Int) by omega]
  have nb := Nb μ1 0 1 1 2 tsL ⟨by omega, ⟨by omega, by omega⟩, ⟨by omega, by omega⟩, by omega⟩ okL
  refine OkX.imp nb fun v μ2 ⟨e1, bi, kb⟩ => ?_
  subst e1
  have r1 := rng_w (show many + 1 ≤ 1000000 by omega) μ2
  have r2 := rng_w (show many ≤ 1000000 by omega) μ2
  simp at r1
  simp [r1, -Res.bind_ok, -Bool.exists_bool]
  refine lc_rep (d0 := .tup []) (fun d hd => by simp [cStep, wipeE]) (by rw [rng_len, limV]; omega) ?_
  rw [rng_len]
  simp [r2, -Res.bind_ok, -Bool.exists_bool]
  refine lc_rep (d0 := .int 0) (fun d hd => by simp [cStep, wipeE]) (by rw [rng_len, limV]; omega) ?_
  rw [rng_len]
  have lp := Lp μ2 μ1.length many bi (by omega)
  rw [strD, List.map_replicate, intsD, List.map_replicate] at lp
  refine OkX.imp lp fun v μ3 ⟨e, kb3⟩ => ?_
  subst e
  have ed : decide ((many : Int) ≤ 40) = decide (many ≤ 40) := by rw [decide_eq_decide]; omega
  simp [ed, -Res.bind_ok, -Bool.exists_bool]
  refine (So μ3 (.bl (decide (many ≤ 40))) rfl).imp fun v μ8 ⟨e1, e2⟩ => ?_
  subst e1
  exact hR _
end
end Lw
/-! L31e: the law of strings accepted, whole. -/
namespace Lw
open PySem Mi

theorem law_b {Γ : Gam} {μ : Mem} {ns : List Int} (i1 : Γ.init "Book" = some ("Book.__init__" : Str)) (Nb : NewBookW Γ) (T1 : TakeW Γ) (B1 : BookW Γ) (BO : BookOfW Γ) (Ds : DStrW Γ) (L6 : LooseW 6 Γ) (A : AccW Γ) (Al : AcceptsLW Γ) (So : SoEq 6 Γ) (St : SetW Γ) (h : μ[0]? = some (.rol (intsZ ns)))
    (N1' : ∃ rs μ', rs ≠ [] ∧ Γ.fn "_law_numbers" [.ref 0] μ = .ok (.ref μ.length) μ' ∧ μ'[μ.length]? = some (.lst (intsZ rs))) :
    OkX (ans (exSs Γ b_law (some (.ref 0) :: List.replicate 17 none) μ)) (fun v _ => v = .bl true) X0 := by
  refine okx_of fun P hP => ?_
  rw [w_ans]
  refine OS.cut 5 (fun ρ μ' => ∃ rr s F D T t r ts, LS rr s F D T t r ts μ' ∧ ρ = [some (.ref 0), some (.ref rr), some (.ref s), some (bookD F D ts), some (.int (t : Nat)), some (.ref r), none, none, none, none, none, none, none, none, none, none, none, none]) (fun K hK => law_b1 T1 B1 BO h N1' fun rr s F D T t r ts μ ls => hK _ _ ⟨rr, s, F, D, T, t, r, ts, ls, rfl⟩) fun ρ μ1 ⟨rr, s, F, D, T, t, r, ts, ls, e⟩ => ?_
  subst e
  refine OS.cut 1 (fun ρ μ' => ∃ a6 a7, LS rr s F D T t r ts μ' ∧ ρ = [some (.ref 0), some (.ref rr), some (.ref s), some (bookD F D ts), some (.int (t : Nat)), some (.ref r), a6, a7, none, none, none, none, none, none, none, none, none, none]) (fun K hK => ?_) fun ρ μ2 ⟨a6, a7, ls2, e⟩ => ?_
  · have r4 := rng_w (show 4 ≤ 1000000 by omega) μ1
    simp at r4
    simp [b_law, MSs.dp, MSs.tk, r4, -Res.bind_ok, -Bool.exists_bool]
    refine OS.loop (fun i ρ μ' => ∃ a6 a7, LS rr s F D T t r ts μ' ∧ ρ = [some (.ref 0), some (.ref rr), some (.ref s), some (bookD F D ts), some (.int (t : Nat)), some (.ref r), a6, a7, none, none, none, none, none, none, none, none, none, none]) ⟨none, none, ls, rfl⟩ (fun j d ρ μ' hd ⟨a6, a7, ls', e⟩ => ?_) fun ρ μ' ⟨a6, a7, ls', e⟩ => ⟨rfl, hK _ _ ⟨a6, a7, ls', e⟩⟩
    subst e
    exact ⟨rfl, _, rfl, fun K2 hK2 => law_l1 T1 Ds L6 A Al So ls' fun a7' μ3 ls3 => hK2 _ _ ⟨_, a7', ls3, rfl⟩⟩
  · subst e
    refine OS.cut 4 (fun ρ μ' => ∃ a8 a9 a10, LS rr s F D T t r ts μ' ∧ ρ = [some (.ref 0), some (.ref rr), some (.ref s), some (bookD F D ts), some (.int (t : Nat)), some (.ref r), a6, a7, a8, a9, a10, none, none, none, none, none, none, none]) (fun K hK => law_c T1 A So ls2 fun a8 a9 a10 μ' ls' => hK _ _ ⟨a8, a9, a10, ls', rfl⟩) fun ρ μ3 ⟨a8, a9, a10, ls3, e⟩ => ?_
    subst e
    refine OS.cut 4 (fun ρ μ' => ∃ n h fa de a6', HS rr s n h fa de μ' ∧ ρ = envH rr s (some (bookD F D ts)) (some (.int (t : Nat))) (some (.ref r)) a6' a7 a8 a9 a10 h n fa de none) (fun K hK => law_d i1 Nb T1 ls3.sp fun n h fa de a6' μ' hs => hK _ _ ⟨n, h, fa, de, a6', hs, rfl⟩) fun ρ μ4 ⟨n, h, fa, de, a6', hs, e⟩ => ?_
    subst e
    refine OS.cut 1 (fun ρ μ' => HS rr s n h fa de μ' ∧ ρ = envH rr s (some (bookD F D ts)) (some (.int (t : Nat))) (some (.ref r)) a6' a7 a8 a9 a10 h n fa de none) (fun K hK => law_e (half_of A) So hs fun μ' hs' => hK _ _ ⟨hs', rfl⟩) fun ρ μ5 ⟨hs5, e⟩ => ?_
    subst e
    refine OS.cut 1 (fun ρ μ' => ∃ at', Spot μ' rr s ∧ ρ = envH rr s (some (bookD F D ts)) (some (.int (t : Nat))) (some (.ref r)) a6' a7 a8 a9 a10 h n fa de at') (fun K hK => law_f (half_of A) T1 So St hs5 fun at' μ' sp' => hK _ _ ⟨at', sp', rfl⟩) fun ρ μ6 ⟨at', sp6, e⟩ => ?_
    subst e
    exact law_g (ρ0 := []) i1 Nb T1 (loop_of A) So sp6 fun μ' => hP _ _ rfl
theorem law_of {Γ Γ' : Gam} (i1 : Γ.init "Book" = some ("Book.__init__" : Str)) (Nb : NewBookW Γ) (T1 : TakeW Γ) (B1 : BookW Γ) (BO : BookOfW Γ) (Ds : DStrW Γ) (L6 : LooseW 6 Γ) (A : AccW Γ) (Al : AcceptsLW Γ) (So : SoEq 6 Γ) (St : SetW Γ) (e : ∀ ds μ, Γ'.fn "law" ds μ = runD Γ ⟨1, 18, b_law⟩ ds μ)
    (N1 : ∀ (μ : Mem) (ns : List Int), μ[0]? = some (.rol (intsZ ns)) → ∃ rs μ', rs ≠ [] ∧ Γ.fn "_law_numbers" [.ref 0] μ = .ok (.ref μ.length) μ' ∧ μ'[μ.length]? = some (.lst (intsZ rs))) (ns : List Int) :
    ∃ μ, Γ'.fn "law" [.ref 0] [.rol (ns.map Mi.D.int)] = .ok (.bl true) μ := by
  have q := law_b i1 Nb T1 B1 BO Ds L6 A Al So St (μ := [.rol (intsZ ns)]) (ns := ns) rfl (N1 _ ns rfl)
  obtain ⟨v, μ, h1, h2⟩ := q.eq
  subst h2
  refine ⟨μ, ?_⟩
  rw [e, run_ans _ _ _ _ rfl]
  exact h1
theorem law_ok : ∀ ns : List Int, ns.length ≤ 63 → ∃ μ, (G 8).fn ("law" : Str) [.ref 0] [.rol (ns.map Mi.D.int)] = .ok (.bl true) μ := fun ns _ =>
  law_of (init_Book _) (newbook_of (bookinit_w 2)) (take_w 5) (book_w 2) (bookof_w 0) (dstr_w 4) (loose_w 6 1) (accw_w 2) (acceptsl_w 3) (so_eq 6 1) (set_w 6) (f_law 7) (fun μ ns h => numbers_ok 6 h) ns
end Lw
open PySem PySem.W PyProof.Rows
set_option maxRecDepth 100000 in
set_option maxHeartbeats 0 in
theorem PySem.Challenge.cw_methodworlds_k31_strings_accepted_holds : PySem.Challenge.rw_methodworlds_k31_strings_accepted.Holds := by
  w_on; o_law; k_headL; (case hw => w_witness2)
  k_fill
  refine Mi.walkM Lw.tab 8 Lw.r_law rfl rfl rfl ⟨rfl, by decide, by decide⟩ (fun w h Y => PySem.W.kIn_of Y) (fun _ => by kernel_rfl) Lw.law_mem rfl rfl rfl Lw.t_law ?F (by rw [← Lw.G_eq]; exact Lw.law_ok)
  case F =>
    intro w mg fa h KX G hmg
    refine' Lw.head KX G ?g_Book ?pa_Book_facts ?pr_Book_facts ?pg_Book_facts ?pt_Book_facts ?pa_Book_deeds ?pr_Book_deeds ?pg_Book_deeds ?pt_Book_deeds ?pa_Book_tasks ?pr_Book_tasks ?pg_Book_tasks ?pt_Book_tasks ?ni_Book ?me_Book___eq__ ?a_is_integer ?l_is_integer ?c_is_integer ?k_is_integer ?a_is_between ?l_is_between ?c_is_between ?k_is_between ?a_is_number ?l_is_number ?c_is_number ?k_is_number ?a_is_sequence ?l_is_sequence ?c_is_sequence ?k_is_sequence ?a_is_flags ?l_is_flags ?c_is_flags ?k_is_flags ?a_is_condition ?l_is_condition ?c_is_condition ?k_is_condition ?a_is_steps ?l_is_steps ?c_is_steps ?k_is_steps ?a_is_method ?l_is_method ?c_is_method ?k_is_method ?a_is_task_list ?l_is_task_list ?c_is_task_list ?k_is_task_list ?a_method_copy ?l_method_copy ?c_method_copy ?k_method_copy ?l_Book___init__ ?c_Book___init__ ?k_Book___init__ ?l_Book_facts ?c_Book_facts ?k_Book_facts ?l_Book_deeds ?c_Book_deeds ?k_Book_deeds ?l_Book_tasks ?c_Book_tasks ?k_Book_tasks ?l_Book___eq__ ?c_Book___eq__ ?k_Book___eq__ ?a_check_book ?l_check_book ?c_check_book ?k_check_book ?a_check_task ?l_check_task ?c_check_task ?k_check_task ?a_holds ?l_holds ?c_holds ?k_holds ?a_methods_taken ?l_methods_taken ?c_methods_taken ?k_methods_taken ?a_is_string ?l_is_string ?c_is_string ?k_is_string ?a_ends_of_steps ?l_ends_of_steps ?c_ends_of_steps ?k_ends_of_steps ?a_accepts ?l_accepts ?c_accepts ?k_accepts ?a__law_so ?l__law_so ?c__law_so ?k__law_so ?a__law_numbers ?l__law_numbers ?c__law_numbers ?k__law_numbers ?a__law_draw ?l__law_draw ?c__law_draw ?k__law_draw ?a__law_take ?l__law_take ?c__law_take ?k__law_take ?a__law_loose ?l__law_loose ?c__law_loose ?k__law_loose ?a__law_set ?l__law_set ?c__law_set ?k__law_set ?a__law_cond ?l__law_cond ?c__law_cond ?k__law_cond ?a__law_method ?l__law_method ?c__law_method ?k__law_method ?a__law_book ?l__law_book ?c__law_book ?k__law_book ?a__law_book_of ?l__law_book_of ?c__law_book_of ?k__law_book_of ?a__law_true ?l__law_true ?c__law_true ?k__law_true ?a__law_open ?l__law_open ?c__law_open ?k__law_open ?a__law_follow ?l__law_follow ?c__law_follow ?k__law_follow ?a__law_ends ?l__law_ends ?c__law_ends ?k__law_ends ?a__law_line_world ?l__law_line_world ?c__law_line_world ?k__law_line_world ?a__law_accepts ?l__law_accepts ?c__law_accepts ?k__law_accepts ?a__law_drawn_string ?l__law_drawn_string ?c__law_drawn_string ?k__law_drawn_string ?a_law ?l_law ?c_law ?k_law ?cp_Book ?ch_Book ?co_Book ?cs_Book ?cm_Book ?ck_Book ?if_Book ?nf_Book__facts ?nf_Book__deeds ?nf_Book__tasks ?mf_Book___eq__ ?ib0_Book ?ib1_Book ?ib2_Book ?ib3_Book ?ib4_Book ?io0_Book ?io1_Book ?io2_Book ?io3_Book ?io4_Book ?io5_Book ?io6_Book ?ic_Book ?it_Book ?iz_Book ?im_Book ?xg_BadValue ?xa_BadValue ?xn_BadValue ?xe_BadValue ?xh_BadValue ?xt_BadValue ?xg_BadMethod ?xa_BadMethod ?xn_BadMethod ?xe_BadMethod ?xh_BadMethod ?xt_BadMethod ?xi_BadValue ?xo_BadValue ?xs_BadValue ?xk_BadValue ?xf_BadValue ?xq_BadValue ?xl_BadValue ?xc_BadValue ?xy_BadValue ?xz_BadValue_at ?xi_BadMethod ?xo_BadMethod ?xs_BadMethod ?xk_BadMethod ?xf_BadMethod ?xq_BadMethod ?xl_BadMethod ?xc_BadMethod ?xy_BadMethod ?xz_BadMethod_task ?xz_BadMethod_method ?xp_BadValue_BadValue ?xp_BadValue_BadMethod ?xp_BadMethod_BadValue ?xp_BadMethod_BadMethod ?y1 ?y2 ?v_MOST_FACTS ?v_MOST_DEEDS ?v_MOST_TASKS ?v_MOST_METHODS ?v_MOST_STEPS ?v_MOST_STRING_DEEDS ?z_len ?z_isinstance ?z_tuple ?z_int ?z_list ?z_sorted ?z_sum ?z_any ?z_all ?z_range ?z_reversed ?z_enumerate ?z_zip ?z_bool ?z_str
    (case g_Book => k_is)
    (case pa_Book_facts => k_is)
    (case pr_Book_facts => k_is)
    (case pg_Book_facts => k_is)
    (case pt_Book_facts => k_is)
    (case pa_Book_deeds => k_is)
    (case pr_Book_deeds => k_is)
    (case pg_Book_deeds => k_is)
    (case pt_Book_deeds => k_is)
    (case pa_Book_tasks => k_is)
    (case pr_Book_tasks => k_is)
    (case pg_Book_tasks => k_is)
    (case pt_Book_tasks => k_is)
    (case ni_Book => k_is)
    (case me_Book___eq__ => k_is)
    (case a_is_integer => k_is)
    (case l_is_integer => k_is)
    (case c_is_integer => k_is)
    (case k_is_integer => k_is)
    (case a_is_between => k_is)
    (case l_is_between => k_is)
    (case c_is_between => k_is)
    (case k_is_between => k_is)
    (case a_is_number => k_is)
    (case l_is_number => k_is)
    (case c_is_number => k_is)
    (case k_is_number => k_is)
    (case a_is_sequence => k_is)
    (case l_is_sequence => k_is)
    (case c_is_sequence => k_is)
    (case k_is_sequence => k_is)
    (case a_is_flags => k_is)
    (case l_is_flags => k_is)
    (case c_is_flags => k_is)
    (case k_is_flags => k_is)
    (case a_is_condition => k_is)
    (case l_is_condition => k_is)
    (case c_is_condition => k_is)
    (case k_is_condition => k_is)
    (case a_is_steps => k_is)
    (case l_is_steps => k_is)
    (case c_is_steps => k_is)
    (case k_is_steps => k_is)
    (case a_is_method => k_is)
    (case l_is_method => k_is)
    (case c_is_method => k_is)
    (case k_is_method => k_is)
    (case a_is_task_list => k_is)
    (case l_is_task_list => k_is)
    (case c_is_task_list => k_is)
    (case k_is_task_list => k_is)
    (case a_method_copy => k_is)
    (case l_method_copy => k_is)
    (case c_method_copy => k_is)
    (case k_method_copy => k_is)
    (case l_Book___init__ => k_is)
    (case c_Book___init__ => k_is)
    (case k_Book___init__ => k_is)
    (case l_Book_facts => k_is)
    (case c_Book_facts => k_is)
    (case k_Book_facts => k_is)
    (case l_Book_deeds => k_is)
    (case c_Book_deeds => k_is)
    (case k_Book_deeds => k_is)
    (case l_Book_tasks => k_is)
    (case c_Book_tasks => k_is)
    (case k_Book_tasks => k_is)
    (case l_Book___eq__ => k_is)
    (case c_Book___eq__ => k_is)
    (case k_Book___eq__ => k_is)
    (case a_check_book => k_is)
    (case l_check_book => k_is)
    (case c_check_book => k_is)
    (case k_check_book => k_is)
    (case a_check_task => k_is)
    (case l_check_task => k_is)
    (case c_check_task => k_is)
    (case k_check_task => k_is)
    (case a_holds => k_is)
    (case l_holds => k_is)
    (case c_holds => k_is)
    (case k_holds => k_is)
    (case a_methods_taken => k_is)
    (case l_methods_taken => k_is)
    (case c_methods_taken => k_is)
    (case k_methods_taken => k_is)
    (case a_is_string => k_is)
    (case l_is_string => k_is)
    (case c_is_string => k_is)
    (case k_is_string => k_is)
    (case a_ends_of_steps => k_is)
    (case l_ends_of_steps => k_is)
    (case c_ends_of_steps => k_is)
    (case k_ends_of_steps => k_is)
    (case a_accepts => k_is)
    (case l_accepts => k_is)
    (case c_accepts => k_is)
    (case k_accepts => k_is)
    (case a__law_so => k_is)
    (case l__law_so => k_is)
    (case c__law_so => k_is)
    (case k__law_so => k_is)
    (case a__law_numbers => k_is)
    (case l__law_numbers => k_is)
    (case c__law_numbers => k_is)
    (case k__law_numbers => k_is)
    (case a__law_draw => k_is)
    (case l__law_draw => k_is)
    (case c__law_draw => k_is)
    (case k__law_draw => k_is)
    (case a__law_take => k_is)
    (case l__law_take => k_is)
    (case c__law_take => k_is)
    (case k__law_take => k_is)
    (case a__law_loose => k_is)
    (case l__law_loose => k_is)
    (case c__law_loose => k_is)
    (case k__law_loose => k_is)
    (case a__law_set => k_is)
    (case l__law_set => k_is)
    (case c__law_set => k_is)
    (case k__law_set => k_is)
    (case a__law_cond => k_is)
    (case l__law_cond => k_is)
    (case c__law_cond => k_is)
    (case k__law_cond => k_is)
    (case a__law_method => k_is)
    (case l__law_method => k_is)
    (case c__law_method => k_is)
    (case k__law_method => k_is)
    (case a__law_book => k_is)
    (case l__law_book => k_is)
    (case c__law_book => k_is)
    (case k__law_book => k_is)
    (case a__law_book_of => k_is)
    (case l__law_book_of => k_is)
    (case c__law_book_of => k_is)
    (case k__law_book_of => k_is)
    (case a__law_true => k_is)
    (case l__law_true => k_is)
    (case c__law_true => k_is)
    (case k__law_true => k_is)
    (case a__law_open => k_is)
    (case l__law_open => k_is)
    (case c__law_open => k_is)
    (case k__law_open => k_is)
    (case a__law_follow => k_is)
    (case l__law_follow => k_is)
    (case c__law_follow => k_is)
    (case k__law_follow => k_is)
    (case a__law_ends => k_is)
    (case l__law_ends => k_is)
    (case c__law_ends => k_is)
    (case k__law_ends => k_is)
    (case a__law_line_world => k_is)
    (case l__law_line_world => k_is)
    (case c__law_line_world => k_is)
    (case k__law_line_world => k_is)
    (case a__law_accepts => k_is)
    (case l__law_accepts => k_is)
    (case c__law_accepts => k_is)
    (case k__law_accepts => k_is)
    (case a__law_drawn_string => k_is)
    (case l__law_drawn_string => k_is)
    (case c__law_drawn_string => k_is)
    (case k__law_drawn_string => k_is)
    (case a_law => k_is)
    (case l_law => k_is)
    (case c_law => k_is)
    (case k_law => k_is)
    (case cp_Book => k_is)
    (case ch_Book => k_is)
    (case co_Book => k_is)
    (case cs_Book => k_is)
    (case cm_Book => k_is)
    (case ck_Book => k_is)
    (case if_Book => k_is)
    (case nf_Book__facts => k_is)
    (case nf_Book__deeds => k_is)
    (case nf_Book__tasks => k_is)
    (case mf_Book___eq__ => k_is)
    (case ib0_Book => k_is)
    (case ib1_Book => k_is)
    (case ib2_Book => k_is)
    (case ib3_Book => k_is)
    (case ib4_Book => k_is)
    (case io0_Book => k_is)
    (case io1_Book => k_is)
    (case io2_Book => k_is)
    (case io3_Book => k_is)
    (case io4_Book => k_is)
    (case io5_Book => k_is)
    (case io6_Book => k_is)
    (case ic_Book => k_is)
    (case it_Book => k_is)
    (case iz_Book => k_is)
    (case im_Book => k_is)
    (case xg_BadValue => k_is)
    (case xa_BadValue => k_is)
    (case xn_BadValue => k_is)
    (case xe_BadValue => k_is)
    (case xh_BadValue => k_is)
    (case xt_BadValue => k_is)
    (case xg_BadMethod => k_is)
    (case xa_BadMethod => k_is)
    (case xn_BadMethod => k_is)
    (case xe_BadMethod => k_is)
    (case xh_BadMethod => k_is)
    (case xt_BadMethod => k_is)
    (case xi_BadValue => kx_is)
    (case xo_BadValue => kx_is)
    (case xs_BadValue => k_is)
    (case xk_BadValue => k_is)
    (case xf_BadValue => k_is)
    (case xq_BadValue => k_is)
    (case xl_BadValue => k_is)
    (case xc_BadValue => k_is)
    (case xy_BadValue => k_is)
    (case xz_BadValue_at => k_is)
    (case xi_BadMethod => kx_is)
    (case xo_BadMethod => kx_is)
    (case xs_BadMethod => k_is)
    (case xk_BadMethod => k_is)
    (case xf_BadMethod => k_is)
    (case xq_BadMethod => k_is)
    (case xl_BadMethod => k_is)
    (case xc_BadMethod => k_is)
    (case xy_BadMethod => k_is)
    (case xz_BadMethod_task => k_is)
    (case xz_BadMethod_method => k_is)
    (case xp_BadValue_BadValue => k_is)
    (case xp_BadValue_BadMethod => k_is)
    (case xp_BadMethod_BadValue => k_is)
    (case xp_BadMethod_BadMethod => k_is)
    (case y1 => k_is)
    (case y2 => k_is)
    (case v_MOST_FACTS => k_is)
    (case v_MOST_DEEDS => k_is)
    (case v_MOST_TASKS => k_is)
    (case v_MOST_METHODS => k_is)
    (case v_MOST_STEPS => k_is)
    (case v_MOST_STRING_DEEDS => k_is)
    (case z_len => k_is)
    (case z_isinstance => k_is)
    (case z_tuple => k_is)
    (case z_int => k_is)
    (case z_list => k_is)
    (case z_sorted => k_is)
    (case z_sum => k_is)
    (case z_any => k_is)
    (case z_all => k_is)
    (case z_range => k_is)
    (case z_reversed => k_is)
    (case z_enumerate => k_is)
    (case z_zip => k_is)
    (case z_bool => k_is)
    (case z_str => k_is)
