import PyProof.Rows.All
import PySem.PyData
import Wide.All
import OpenK.AllK
import Wide.FinOn
import HandS.ForMost
import HandS.Exc
import HandS.TryOnly
import HandS.ExcOwn
import HandS.WordsExc
import HandS.IsInst
import HandS.Flow
import HandS.TupAny
import HandS.Conv
import HandS.HeadHook2
import HandS.Deep
import HandS.SortInts
import HandS.TupLen
import HandS.DictTup
import HandS.HeadNt
import HandS.Head0
import HandS.Head1
import HandS.Head2
import HandS.HeadEnd
import HandS.HeadHook3
import HandS.HeadHook4
import HandS.SortOrd
import HandS.SortRule
import KE.KSortTupAny
import KE.GoesEnum
import HandS.HotCalls
import HandS.ExcIs
import HandS.CallLocal
import PyProof.StrOps2
import HandS.TupMul
import KE.KDictCopyH
import KE.KDictWalk
import HandS.Iter
import HandS.Style
import HandS.Text
import PySem.Challenge.RW_wanthouse_k29_whole_texts
set_option linter.all false
set_option maxRecDepth 100000
/-! A pure semantics of the Python that the laws use: values without addresses, a store of the mutable objects, runs in a result type. Plain Lean. -/
namespace Py
open PySem

abbrev Key := Sum Int Str
/-- the largest length of a list, a tuple, a text, a dict -/
abbrev cap : Nat := 16777216
/-- the turns that a while may take -/
def fuel : Nat := 1000000000

/-- values: tup, lst are frozen data; ktup a tuple of the module's top; scr the script; ref a mutable object of the store; glo what a global name stands for -/
inductive D where
  | non | bl (b : Bool) | int (i : Int) | str (x : Str) | ty (n : String) | glo (x : Str)
  | tup (l : List D) | ktup (l : List Str) | lst (l : List D) | scr (ns : List Int) | ref (i : Nat) | raw (a : Nat)

/-- mutable objects; fz: one that was frozen -/
inductive O where
  | lst (l : List D) | dK (l : List (Key × D)) | dT (l : List (List Key × D)) | ins (C : Str) (fs : List (Str × D)) | fz (d : D)

abbrev Store := List O
abbrev Env := List (Option D)

inductive Res (α : Type) where
  | ok (a : α) (st : Store)
  | exn (C : Str) (st : Store)
  | bad

def Res.bind {α β : Type} (r : Res α) (f : α → Store → Res β) : Res β := match r with
  | .ok a st => f a st
  | .exn C st => .exn C st
  | .bad => .bad
@[simp] theorem Res.bind_ok {α β : Type} (a : α) (st : Store) (f : α → Store → Res β) : (Res.ok a st).bind f = f a st := rfl
@[simp] theorem Res.bind_exn {α β : Type} (C : Str) (st : Store) (f : α → Store → Res β) : (Res.exn C st : Res α).bind f = .exn C st := rfl
@[simp] theorem Res.bind_bad {α β : Type} (f : α → Store → Res β) : (Res.bad : Res α).bind f = .bad := rfl

theorem Res.bind_assoc {α β γ : Type} (r : Res α) (f : α → Store → Res β) (g : β → Store → Res γ) : (r.bind f).bind g = r.bind fun a st => (f a st).bind g := by
  cases r <;> rfl

inductive SR where
  | nx (e : Env) (st : Store)
  | rt (d : D) (st : Store)
  | exn (C : Str) (e : Env) (st : Store)
  | bad

abbrev RE := Env → Store → Res D
abbrev RT := Env → Store → Res Bool
abbrev RA := Env → Store → Res (List D)
abbrev RL := Env → Store → Res (List D)
abbrev RI := Env → Store → Res (List D)
abbrev RS := Env → Store → SR
abbrev TGt := D → Env → Option Env

/-! ### data -/
def isRef : D → Bool
  | .ref _ => true
  | _ => false
def flat : D → Bool
  | .non => true | .bl _ => true | .int _ => true | .str _ => true | _ => false
/-- data of depth at most n, without objects -/
def okD : Nat → D → Bool
  | _, .non => true
  | _, .bl _ => true
  | _, .int _ => true
  | _, .str _ => true
  | n + 1, .tup l => l.all (okD n)
  | n + 1, .lst l => l.all (okD n)
  | _, _ => false
def b2i (b : Bool) : Int := if b then 1 else 0
def all2 (f : D → D → Bool) : List D → List D → Bool
  | [], [] => true
  | a :: as, b :: bs => f a b && all2 f as bs
  | _, _ => false
/-- == of data (True == 1) -/
def eqD : Nat → D → D → Bool
  | _, .non, .non => true
  | _, .bl a, .bl b => a == b
  | _, .bl a, .int j => b2i a == j
  | _, .int i, .bl b => i == b2i b
  | _, .int i, .int j => i == j
  | _, .str x, .str y => decide (x = y)
  | n + 1, .tup a, .tup b => all2 (eqD n) a b
  | n + 1, .lst a, .lst b => all2 (eqD n) a b
  | _, _, _ => false
/-- what a value is to be read as -/
def top (st : Store) : D → D
  | .ref k => (match st[k]? with
    | some (.lst l) => .lst l
    | some (.fz d) => d
    | _ => .ref k)
  | .scr ns => .lst (ns.map .int)
  | d => d
def asL (st : Store) (d : D) : Option (List D) := match d with
  | .lst l => some l
  | .ref k => (match st[k]? with
    | some (.lst l) => some l
    | some (.fz (.lst l)) => some l
    | _ => none)
  | _ => none
def asT (d : D) : Option (List D) := match d with
  | .tup l => some l
  | .ktup l => some (l.map .str)
  | _ => none
def asS (st : Store) (d : D) : Option (List D) := match d with
  | .tup l => some l
  | .ktup l => some (l.map .str)
  | _ => asL st d

def asStrs : List D → Option (List Str)
  | [] => some []
  | .str x :: r => (asStrs r).map (x :: ·)
  | _ => none
def asInts : List D → Option (List Int)
  | [] => some []
  | .int x :: r => (asInts r).map (x :: ·)
  | _ => none
def asBools : List D → Option (List Bool)
  | [] => some []
  | .bl x :: r => (asBools r).map (x :: ·)
  | _ => none
def keyOf : D → Option Key
  | .int i => some (.inl i)
  | .str x => some (.inr x)
  | _ => none
def keysOf : List D → Option (List Key)
  | [] => some []
  | d :: r => match keyOf d, keysOf r with
    | some k, some ks => some (k :: ks)
    | _, _ => none
def kD : Key → D
  | .inl i => .int i
  | .inr x => .str x

/-! ### environments -/
def gName (i : Nat) : TGt := fun d e => some (e.set i (some d))
def gAll : List TGt → List D → Env → Option Env
  | [], [], e => some e
  | g :: gs, d :: ds, e => (g d e).bind (gAll gs ds)
  | _, _, _ => none
def gTup (gs : List TGt) : TGt := fun d e => match d with
  | .tup l => gAll gs l e
  | _ => none
def wipe (e : Env) : List Nat → Env
  | [] => e
  | v :: vs => (wipe e vs).set v none

/-! ### the store behind a turn: what was made in it goes -/
mutual
/-- all objects that a value names are below n -/
def bel (n : Nat) : D → Bool
  | .ref i => decide (i < n)
  | .tup l => bels n l
  | .lst l => bels n l
  | _ => true
def bels (n : Nat) : List D → Bool
  | [] => true
  | d :: r => bel n d && bels n r
end
@[simp] theorem bels_all (n : Nat) : ∀ l : List D, bels n l = l.all (bel n)
  | [] => by simp [bels]
  | d :: r => by simp [bels, bels_all n r]
@[simp] theorem bel_tup (n : Nat) (l : List D) : bel n (.tup l) = l.all (bel n) := by rw [bel, bels_all]
@[simp] theorem bel_lst (n : Nat) (l : List D) : bel n (.lst l) = l.all (bel n) := by rw [bel, bels_all]
@[simp] theorem bel_ref (n i : Nat) : bel n (.ref i) = decide (i < n) := by rw [bel]
@[simp] theorem bel_non (n : Nat) : bel n .non = true := by rw [bel] <;> intros <;> contradiction
@[simp] theorem bel_bl (n : Nat) (b : Bool) : bel n (.bl b) = true := by rw [bel] <;> intros <;> contradiction
@[simp] theorem bel_int (n : Nat) (b : Int) : bel n (.int b) = true := by rw [bel] <;> intros <;> contradiction
@[simp] theorem bel_str (n : Nat) (b : Str) : bel n (.str b) = true := by rw [bel] <;> intros <;> contradiction
@[simp] theorem bel_ty (n : Nat) (b : String) : bel n (.ty b) = true := by rw [bel] <;> intros <;> contradiction
@[simp] theorem bel_glo (n : Nat) (b : Str) : bel n (.glo b) = true := by rw [bel] <;> intros <;> contradiction
@[simp] theorem bel_ktup (n : Nat) (b : List Str) : bel n (.ktup b) = true := by rw [bel] <;> intros <;> contradiction
@[simp] theorem bel_scr (n : Nat) (b : List Int) : bel n (.scr b) = true := by rw [bel] <;> intros <;> contradiction
def belowO (n : Nat) : O → Bool
  | .lst l => l.all (bel n)
  | .dK l => l.all fun p => bel n p.2
  | .dT l => l.all fun p => bel n p.2
  | .ins _ fs => fs.all fun p => bel n p.2
  | .fz d => bel n d
def cutE (n : Nat) (e : Env) : Env := e.map fun o => match o with
  | some d => if bel n d then some d else none
  | none => none
def gc (n : Nat) (e : Env) (st : Store) : Option (Env × Store) :=
  if st.length = n then some (e, st) else if (st.take n).all (belowO n) ∧ n ≤ st.length then some (cutE n e, st.take n) else none
@[simp] theorem gc_same (e : Env) (st : Store) : gc st.length e st = some (e, st) := by simp [gc]

/-! ### expressions -/
def rVar (i : Nat) : RE := fun e st => match e[i]? with
  | some (some d) => .ok d st
  | _ => .bad
def rC (d : D) : RE := fun _ st => .ok d st
def rBin (f : D → D → Store → Res D) (a b : RE) : RE := fun e st => (a e st).bind fun x st1 => (b e st1).bind fun y st2 => f x y st2
def rUn (f : D → Store → Res D) (a : RE) : RE := fun e st => (a e st).bind fun x st1 => f x st1
def aNil : RA := fun _ st => .ok [] st
def aCons (a : RE) (r : RA) : RA := fun e st => (a e st).bind fun x st1 => (r e st1).bind fun xs st2 => .ok (x :: xs) st2
def rCall (f : List D → Store → Res D) (a : RA) : RE := fun e st => (a e st).bind fun xs st1 => f xs st1
def rTup (a : RA) : RE := fun e st => (a e st).bind fun xs st1 => if xs.length ≤ cap then .ok (.tup xs) st1 else .bad
/-- a fresh list -/
def lDisp (a : RA) : RL := fun e st => (a e st).bind fun xs st1 => if xs.length ≤ cap then .ok xs st1 else .bad
def lCall (f : List D → Store → Res (List D)) (a : RA) : RL := fun e st => (a e st).bind fun xs st1 => f xs st1
def lBin (f : D → D → Store → Res (List D)) (a b : RE) : RL := fun e st => (a e st).bind fun x st1 => (b e st1).bind fun y st2 => f x y st2
/-- .. frozen, .. kept mutable -/
def rFrz (r : RL) : RE := fun e st => (r e st).bind fun l st1 => .ok (.lst l) st1
def rNew (r : RL) : RE := fun e st => (r e st).bind fun l st1 => .ok (.ref st1.length) (st1 ++ [.lst l])

/-! tests -/
def tVal (r : RE) : RT := fun e st => (r e st).bind fun d st1 => match d with
  | .bl b => .ok b st1
  | _ => .bad
def tAnd (a b : RT) : RT := fun e st => (a e st).bind fun c st1 => if c = true then b e st1 else .ok false st1
def tOr (a b : RT) : RT := fun e st => (a e st).bind fun c st1 => if c = true then .ok true st1 else b e st1
def tNot (a : RT) : RT := fun e st => (a e st).bind fun c st1 => .ok (!c) st1
def tYes : RT := fun _ st => .ok true st
def rAndV (a b : RE) : RE := fun e st => (a e st).bind fun x st1 => match x with
  | .bl c => if c = true then b e st1 else .ok (.bl false) st1
  | _ => .bad
def rOrV (a b : RE) : RE := fun e st => (a e st).bind fun x st1 => match x with
  | .bl c => if c = true then .ok (.bl true) st1 else b e st1
  | _ => .bad
def rNotV (a : RE) : RE := fun e st => (a e st).bind fun x st1 => match x with
  | .bl c => .ok (.bl (!c)) st1
  | _ => .bad
/-- a or b by truth: None, a text -/
def rOrT (a b : RE) : RE := fun e st => (a e st).bind fun x st1 => match x with
  | .non => b e st1
  | .str z => if z.length = 0 then b e st1 else .ok (.str z) st1
  | _ => .bad
/-- x op y op' z -/
def rChain (f g : D → D → Store → Res D) (a b c : RE) : RE := fun e st => (a e st).bind fun x st1 => (b e st1).bind fun y st2 => (f x y st2).bind fun z st3 => match z with
  | .bl k => if k = true then (c e st3).bind fun u st4 => g y u st4 else .ok (.bl false) st3
  | _ => .bad

/-! ### operators -/
def fAdd (x y : D) (st : Store) : Res D := match x, y with
  | .int i, .int j => .ok (.int (i + j)) st
  | .str a, .str b => if a.length + b.length ≤ cap then .ok (.str (a ++ b)) st else .bad
  | .tup a, .tup b => if a.length + b.length ≤ cap then .ok (.tup (a ++ b)) st else .bad
  | x, y => match asL st x, asL st y with
    | some a, some b => if a.length + b.length ≤ cap then .ok (.lst (a ++ b)) st else .bad
    | _, _ => .bad
def fCat (x y : D) (st : Store) : Res (List D) := match asL st x, asL st y with
  | some a, some b => if a.length + b.length ≤ cap then .ok (a ++ b) st else .bad
  | _, _ => .bad
def fSub (x y : D) (st : Store) : Res D := match x, y with
  | .int i, .int j => .ok (.int (i - j)) st
  | _, _ => .bad
def lim64 (i : Int) : Bool := decide (-18446744073709551616 < i) && decide (i < 18446744073709551616)
def fMul (x y : D) (st : Store) : Res D := match x, y with
  | .int i, .int j => if lim64 i || lim64 j then .ok (.int (i * j)) st else .bad
  | _, _ => .bad
def fMod (x y : D) (st : Store) : Res D := match x, y with
  | .int i, .int j => if 0 < j then .ok (.int (i % j)) st else .bad
  | _, _ => .bad
def fDiv (x y : D) (st : Store) : Res D := match x, y with
  | .int i, .int j => if 0 < j ∧ j < 1073741824 then .ok (.int (i / j)) st else .bad
  | _, _ => .bad
def fNeg (x : D) (st : Store) : Res D := match x with
  | .int i => .ok (.int (-i)) st
  | _ => .bad
def ltS (a b : Str) : Bool := decide (a.cps.toList < b.cps.toList)
def fLt (x y : D) (st : Store) : Res D := match x, y with
  | .int i, .int j => .ok (.bl (decide (i < j))) st
  | .str a, .str b => .ok (.bl (ltS a b)) st
  | _, _ => .bad
def fLe (x y : D) (st : Store) : Res D := match x, y with
  | .int i, .int j => .ok (.bl (decide (i ≤ j))) st
  | _, _ => .bad
def fGt (x y : D) (st : Store) : Res D := match x, y with
  | .int i, .int j => .ok (.bl (decide (j < i))) st
  | _, _ => .bad
def fGe (x y : D) (st : Store) : Res D := match x, y with
  | .int i, .int j => .ok (.bl (decide (j ≤ i))) st
  | _, _ => .bad
def fEq (x y : D) (st : Store) : Res D := if okD 60 (top st x) && okD 60 (top st y) then .ok (.bl (eqD 60 (top st x) (top st y))) st else .bad
def fNe (x y : D) (st : Store) : Res D := if okD 60 (top st x) && okD 60 (top st y) then .ok (.bl (!eqD 60 (top st x) (top st y))) st else .bad
def isNone : D → Bool
  | .non => true
  | _ => false
def fIsN (x : D) (st : Store) : Res D := .ok (.bl (isNone x)) st
def fNotN (x : D) (st : Store) : Res D := .ok (.bl (!isNone x)) st
/-- == of flat data -/
def eqF : D → D → Bool
  | .non, .non => true
  | .bl a, .bl b => a == b
  | .bl a, .int j => b2i a == j
  | .int i, .bl b => i == b2i b
  | .int i, .int j => i == j
  | .str x, .str y => decide (x = y)
  | _, _ => false
def inF (x : D) (l : List D) : Bool := l.any fun y => eqF y x

/-! ### subscripts -/
def ixN (n : Nat) (i : Int) : Option Nat := if 0 ≤ i then (if i < n then some i.toNat else none) else if -(n : Int) ≤ i then some (i + n).toNat else none
def atI {α : Type} (xs : List α) (i : Int) : Option α := (ixN xs.length i).bind fun j => xs[j]?
def fIx (x y : D) (st : Store) : Res D := match y with
  | .int i => (match x with
    | .str z => (match atI z.cps.toList i with
      | some c => .ok (.str ⟨#[c]⟩) st
      | none => .bad)
    | .scr ns => (match atI ns i with
      | some n => .ok (.int n) st
      | none => .bad)
    | _ => (match asS st x with
      | some l => (match atI l i with
        | some d => .ok d st
        | none => .bad)
      | none => .bad))
  | _ => .bad
def sIx (n d : Nat) : Option Int → Nat
  | none => d
  | some v => if v < 0 then (v + n).toNat else min v.toNat n
def cut {α : Type} (xs : List α) (lo hi : Option Int) : List α := (xs.drop (sIx xs.length 0 lo)).take (sIx xs.length xs.length hi - sIx xs.length 0 lo)
abbrev RO := Env → Store → Res (Option Int)
def oNone : RO := fun _ st => .ok none st
def oSome (r : RE) : RO := fun e st => (r e st).bind fun d st1 => match d with
  | .int i => .ok (some i) st1
  | _ => .bad
def rSl (f : D → Option Int → Option Int → Store → Res D) (r : RE) (lo hi : RO) : RE := fun e st => (r e st).bind fun x st1 => (lo e st1).bind fun l st2 => (hi e st2).bind fun h st3 => f x l h st3
def fSl (x : D) (lo hi : Option Int) (st : Store) : Res D := match x with
  | .tup l => .ok (.tup (cut l lo hi)) st
  | .str z => .ok (.str ⟨(cut z.cps.toList lo hi).toArray⟩) st
  | _ => match asL st x with
    | some l => .ok (.lst (cut l lo hi)) st
    | none => .bad
def fSlL (x : D) (lo hi : Option Int) (st : Store) : Res (List D) := match asL st x with
  | some l => .ok (cut l lo hi) st
  | none => .bad
def lSl (f : D → Option Int → Option Int → Store → Res (List D)) (r : RE) (lo hi : RO) : RL := fun e st => (r e st).bind fun x st1 => (lo e st1).bind fun l st2 => (hi e st2).bind fun h st3 => f x l h st3

/-! ### built-ins -/
def fLen (xs : List D) (st : Store) : Res D := match xs with
  | [.str z] => .ok (.int z.length) st
  | [.scr ns] => .ok (.int ns.length) st
  | [.ref k] => (match st[k]? with
    | some (.dK l) => .ok (.int l.length) st
    | some (.dT l) => .ok (.int l.length) st
    | some (.lst l) => .ok (.int l.length) st
    | some (.fz (.lst l)) => .ok (.int l.length) st
    | _ => .bad)
  | [x] => (match asS st x with
    | some l => .ok (.int l.length) st
    | none => .bad)
  | _ => .bad
def tyOf (st : Store) : D → Option String
  | .non => some "NoneType" | .bl _ => some "bool" | .int _ => some "int" | .str _ => some "str"
  | .tup _ => some "tuple" | .ktup _ => some "tuple" | .lst _ => some "list" | .scr _ => some "list"
  | .ref k => (match st[k]? with
    | some (.lst _) => some "list"
    | some (.fz (.lst _)) => some "list"
    | _ => none)
  | _ => none
def isTy (t c : String) : Bool := t == c || (t == "bool" && c == "int")
def tyCs : List String := ["str", "int", "bool", "tuple", "list"]
def fIsi (xs : List D) (st : Store) : Res D := match xs with
  | [x, .ty c] => (match tyOf st x with
    | some t => if tyCs.contains c then .ok (.bl (isTy t c)) st else .bad
    | none => .bad)
  | _ => .bad
def fAll (xs : List D) (st : Store) : Res D := match xs with
  | [x] => (match (asL st x).bind asBools with
    | some l => .ok (.bl (l.all id)) st
    | none => .bad)
  | _ => .bad
def fAny (xs : List D) (st : Store) : Res D := match xs with
  | [x] => (match (asL st x).bind asBools with
    | some l => .ok (.bl (l.any id)) st
    | none => .bad)
  | _ => .bad
def fInt (xs : List D) (st : Store) : Res D := match xs with
  | [.int i] => .ok (.int i) st
  | [.bl b] => .ok (.int (b2i b)) st
  | _ => .bad
def fTuple (xs : List D) (st : Store) : Res D := match xs with
  | [.tup l] => .ok (.tup l) st
  | [x] => (match asL st x with
    | some l => .ok (.tup l) st
    | none => .bad)
  | _ => .bad
def fList (xs : List D) (st : Store) : Res (List D) := match xs with
  | [.ref k] => (match st[k]? with
    | some (.dK l) => .ok (l.map fun p => kD p.1) st
    | some (.dT l) => .ok (l.map fun p => .tup (p.1.map kD)) st
    | some (.lst l) => .ok l st
    | some (.fz (.lst l)) => .ok l st
    | _ => .bad)
  | [.ktup _] => .bad
  | [x] => (match asS st x with
    | some l => .ok l st
    | none => .bad)
  | _ => .bad
/-- insertion by an order -/
def ins {α : Type} (le : α → α → Bool) (x : α) : List α → List α
  | [] => [x]
  | y :: r => if le x y then x :: y :: r else y :: ins le x r
def isort {α : Type} (le : α → α → Bool) : List α → List α
  | [] => []
  | x :: r => ins le x (isort le r)
def leS (a b : Str) : Bool := !ltS b a
def leI (a b : Int) : Bool := decide (a ≤ b)
def leP (a b : Str × Str) : Bool := if a.1 = b.1 then leS a.2 b.2 else ltS a.1 b.1
def asPairs : List D → Option (List (Str × Str))
  | [] => some []
  | .tup [.str x, .str y] :: r => (asPairs r).map ((x, y) :: ·)
  | _ => none
def fSorted (xs : List D) (st : Store) : Res (List D) := match xs with
  | [x] => (match asL st x with
    | some l => (match asStrs l with
      | some ss => if ss.length < 64 then .ok ((isort leS ss).map .str) st else .bad
      | none => (match asInts l with
        | some ns => .ok ((isort leI ns).map .int) st
        | none => .bad))
    | none => .bad)
  | _ => .bad

/-! ### dicts -/
def look {κ α : Type} [DecidableEq κ] (l : List (κ × α)) (k : κ) : Option α := (l.find? fun kv => decide (kv.1 = k)).map (·.2)
def put {κ α : Type} [DecidableEq κ] (l : List (κ × α)) (k : κ) (v : α) : List (κ × α) :=
  if (l.any fun kv => decide (kv.1 = k)) = true then l.map fun kv => if kv.1 = k then (kv.1, v) else kv else l ++ [(k, v)]
def drop {κ α : Type} [DecidableEq κ] (l : List (κ × α)) (k : κ) : List (κ × α) := l.filter fun kv => decide (kv.1 ≠ k)
def merge {κ α : Type} [DecidableEq κ] (l more : List (κ × α)) : List (κ × α) := more.foldl (fun acc kv => put acc kv.1 kv.2) l
def rDictK : RE := fun _ st => .ok (.ref st.length) (st ++ [.dK []])
def rDictT : RE := fun _ st => .ok (.ref st.length) (st ++ [.dT []])
/-- what a dict has at a key: none: no dict, no key -/
def dget (st : Store) (d k : D) : Option (Option D) := match d with
  | .ref i => (match st[i]? with
    | some (.dK l) => (keyOf k).map fun k => look l k
    | some (.dT l) => (match k with
      | .tup ks => (keysOf ks).map fun k => look l k
      | _ => none)
    | _ => none)
  | _ => none
def fDGet (x y : D) (st : Store) : Res D := match dget st x y with
  | some (some d) => .ok d st
  | _ => .bad
/-- x in a list or tuple, a sign in a text, a key in a dict -/
def inB (x y : D) (st : Store) : Option Bool := match y with
  | .str z => (match x with
    | .str c => (match c.cps.toList with
      | [n] => some (decide (n ∈ z.cps.toList))
      | _ => none)
    | _ => none)
  | _ => match dget st y x with
    | some o => some o.isSome
    | none => (match asS st y with
      | some l => if flat x && l.all flat then some (inF x l) else (match y with
        | .ktup _ => none
        | _ => if okD 58 x && l.all (okD 58) then some (l.any fun z => eqD 58 z x) else none)
      | none => none)
def fIn (x y : D) (st : Store) : Res D := match inB x y st with
  | some b => .ok (.bl b) st
  | none => .bad
def fNotIn (x y : D) (st : Store) : Res D := match inB x y st with
  | some b => .ok (.bl (!b)) st
  | none => .bad
/-- x[y]: a dict's, or a sequence's -/
def fSub2 (x y : D) (st : Store) : Res D := match dget st x y with
  | some (some d) => .ok d st
  | some none => .bad
  | none => fIx x y st
/-- d[k] = v -/
def dput (st : Store) (d k v : D) : Option Store := match d with
  | .ref i => (match st[i]? with
    | some (.dK l) => (match keyOf k with
      | some k => if l.length < cap then some (st.set i (.dK (put l k v))) else none
      | none => none)
    | some (.dT l) => (match k with
      | .tup ks => (match keysOf ks with
        | some k => if l.length < cap then some (st.set i (.dT (put l k v))) else none
        | none => none)
      | _ => none)
    | _ => none)
  | _ => none
/-- dict([(k, v), ..]) -/
def pairsK : List D → Option (List (Key × D))
  | [] => some []
  | .tup [k, v] :: r => (match keyOf k, pairsK r with
    | some k, some l => some ((k, v) :: l)
    | _, _ => none)
  | _ => none
def fDict (xs : List D) (st : Store) : Res D := match xs with
  | [x] => (match (asL st x).bind pairsK with
    | some l => .ok (.ref st.length) (st ++ [.dK (merge [] l)])
    | none => .bad)
  | _ => .bad

/-! ### methods of lists -/
def fAppend (x : D) (xs : List D) (st : Store) : Res D := match x, xs with
  | .ref i, [y] => (match st[i]? with
    | some (.lst l) => if l.length < cap then .ok .non (st.set i (.lst (l ++ [y]))) else .bad
    | _ => .bad)
  | _, _ => .bad
def fExtend (x : D) (xs : List D) (st : Store) : Res D := match x, xs with
  | .ref i, [y] => (match st[i]?, asL st y with
    | some (.lst l), some m => if l.length + m.length ≤ cap then .ok .non (st.set i (.lst (l ++ m))) else .bad
    | _, _ => .bad)
  | _, _ => .bad
def fPop (x : D) (xs : List D) (st : Store) : Res D := match x, xs with
  | .ref i, [] => (match st[i]? with
    | some (.lst l) => (match l[l.length - 1]? with
      | some y => .ok y (st.set i (.lst l.dropLast))
      | none => .bad)
    | _ => .bad)
  | _, _ => .bad
def isLst (st : Store) (x : D) : Bool := (asL st x).isSome
def isDct (st : Store) (x : D) : Bool := match x with
  | .ref k => (match st[k]? with
    | some (.dK _) => true
    | some (.dT _) => true
    | _ => false)
  | _ => false
def isStr (st : Store) (x : D) : Bool := match x with
  | .str _ => true
  | _ => false
/-- a method of a built-in type: ty says what the receiver is to be -/
def rMeth (ty : Store → D → Bool) (f : D → List D → Store → Res D) (o : RE) (a : RA) : RE := fun e st => (o e st).bind fun x st1 => if ty st1 x = true then (a e st1).bind fun xs st2 => f x xs st2 else .bad
/-- d.get(k), d.get(k, x), d.pop(k) -/
def fGet (x : D) (xs : List D) (st : Store) : Res D := match xs with
  | [k] => (match dget st x k with
    | some o => .ok (o.getD .non) st
    | none => .bad)
  | [k, y] => (match dget st x k with
    | some o => .ok (o.getD y) st
    | none => .bad)
  | _ => .bad
def fDPop (x : D) (xs : List D) (st : Store) : Res D := match x, xs with
  | .ref i, [k] => (match st[i]? with
    | some (.dK l) => (match keyOf k with
      | some k => (match look l k with
        | some v => .ok v (st.set i (.dK (drop l k)))
        | none => .bad)
      | none => .bad)
    | some (.dT l) => (match k with
      | .tup ks => (match keysOf ks with
        | some k => (match look l k with
          | some v => .ok v (st.set i (.dT (drop l k)))
          | none => .bad)
        | none => .bad)
      | _ => .bad)
    | _ => .bad)
  | _, _ => .bad

/-! ### calls of defs -/
inductive PRes where
  | ok (d : D) | exn (C : Str) | bad
/-- a pure def -/
def rP (m : List D → PRes) (a : RA) : RE := fun e st => (a e st).bind fun xs st1 => if xs.all (bel 0) = true then (match m xs with
  | .ok d => .ok d st1
  | .exn C => .exn C st1
  | .bad => .bad) else .bad
/-- what is frozen at a def's end -/
def frz0 (st : Store) (d : D) : Option D := match d with
  | .ref i => (match st[i]? with
    | some (.fz d) => if bel 0 d = true then some d else none
    | some (.lst l) => if l.all (bel 0) = true then some (.lst l) else none
    | _ => none)
  | d => if bel 0 d = true then some d else none
def frzL (st : Store) : List D → Option (List D)
  | [] => some []
  | d :: ds => match frz0 st d, frzL st ds with
    | some d, some ds => some (d :: ds)
    | _, _ => none
/-- .. in a tuple, too -/
def frz (st : Store) (d : D) : Option D := match frz0 st d with
  | some d => some d
  | none => (match d with
    | .tup ds => (frzL st ds).map .tup
    | _ => none)
def startE (n : Nat) (ds : List D) : Env := ds.map some ++ List.replicate (n - ds.length) none
/-- a def by its body's run; n: the number of its names -/
def pureOf (k n : Nat) (r : RS) (ds : List D) : PRes := if ds.length = k then (match r (startE n ds) [] with
  | .rt d st => (match frz st d with
    | some d => .ok d
    | none => .bad)
  | .nx _ _ => .ok .non
  | .exn C _ _ => .exn C
  | .bad => .bad) else .bad

/-! ### comprehensions -/
def compL (n0 : Nat) (g : TGt) (t : RT) (r : RE) (e : Env) : List D → Store → Res (List D)
  | [], st => .ok [] st
  | x :: xs, st => match g x e with
    | none => .bad
    | some e1 => match t e1 st with
      | .ok true st1 => (match r e1 st1 with
        | .ok d st2 => if st2.length = n0 then (match compL n0 g t r e xs st2 with
          | .ok ds st3 => .ok (d :: ds) st3
          | _ => .bad) else .bad
        | _ => .bad)
      | .ok false st1 => if st1.length = n0 then compL n0 g t r e xs st1 else .bad
      | _ => .bad
/-- [r for g in items if t]; vs: the slots of its own names -/
def lComp (vs : List Nat) (is : RI) (g : TGt) (t : RT) (r : RE) : RL := fun e st => (is e st).bind fun xs st1 => compL st1.length g t r (wipe e vs) xs st1

/-! ### what is walked -/
def iTup (r : RE) : RI := fun e st => (r e st).bind fun d st1 => match d with
  | .tup l => .ok l st1
  | _ => .bad
/-- a frozen list -/
def iLst (r : RE) : RI := fun e st => (r e st).bind fun d st1 => match d with
  | .lst l => .ok l st1
  | .ref k => (match st1[k]? with
    | some (.fz (.lst l)) => .ok l st1
    | _ => .bad)
  | _ => .bad
/-- a tuple, a frozen list, a text -/
def iAny (r : RE) : RI := fun e st => (r e st).bind fun d st1 => match d with
  | .tup l => .ok l st1
  | .lst l => .ok l st1
  | .str z => .ok (z.cps.toList.map fun c => .str ⟨#[c]⟩) st1
  | .ref k => (match st1[k]? with
    | some (.fz (.lst l)) => .ok l st1
    | _ => .bad)
  | _ => .bad
def iStr (r : RE) : RI := fun e st => (r e st).bind fun d st1 => match d with
  | .str z => .ok (z.cps.toList.map fun c => .str ⟨#[c]⟩) st1
  | _ => .bad
def lim62 (i : Int) : Bool := decide (-4611686018427387904 ≤ i) && decide (i < 4611686018427387904)
def rng (lo hi : Int) : List D := (List.range (hi - lo).toNat).map fun k => .int (lo + (k : Nat))
def rngDown (hi lo : Int) : List D := (List.range (hi - lo).toNat).map fun k => .int (hi + (k : Nat) * (-1))
def iRng1 (a : RA) : RI := fun e st => (a e st).bind fun ds st1 => match ds with
  | [.int n] => if lim62 n && decide (n.toNat ≤ cap) then .ok (rng 0 n) st1 else .bad
  | _ => .bad
def iRng2 (a : RA) : RI := fun e st => (a e st).bind fun ds st1 => match ds with
  | [.int i, .int j] => if lim62 i && lim62 j && decide ((j - i).toNat ≤ cap) then .ok (rng i j) st1 else .bad
  | _ => .bad
/-- range(a, b, -1) -/
def iRngD (a : RA) : RI := fun e st => (a e st).bind fun ds st1 => match ds with
  | [.int i, .int j, .int k] => if lim62 i && lim62 j && decide ((i - j).toNat ≤ cap) && decide (k = -1) then .ok (rngDown i j) st1 else .bad
  | _ => .bad
def enumL : Nat → List D → List D
  | _, [] => []
  | k, x :: xs => .tup [.int k, x] :: enumL (k + 1) xs
def iEnum (a : RA) : RI := fun e st => (a e st).bind fun ds st1 => match ds with
  | [.lst l] => .ok (enumL 0 l) st1
  | [.tup l] => .ok (enumL 0 l) st1
  | [.ref k] => (match st1[k]? with
    | some (.fz (.lst l)) => .ok (enumL 0 l) st1
    | _ => .bad)
  | _ => .bad
/-- from here on a list is only read -/
def sFz (i : Nat) : RS := fun e st => match e[i]? with
  | some (some (.ref k)) => (match st[k]? with
    | some (.lst l) => .nx e (st.set k (.fz (.lst l)))
    | _ => .bad)
  | _ => .bad

/-! ### statements -/
def sNx : RS := fun e st => .nx e st
def sSeq (a b : RS) : RS := fun e st => match a e st with
  | .nx e1 st1 => b e1 st1
  | r => r
def sOf (r : RE) (k : D → Env → Store → SR) : RS := fun e st => match r e st with
  | .ok d st1 => k d e st1
  | .exn C st1 => .exn C e st1
  | .bad => .bad
def sExpr (r : RE) : RS := sOf r fun _ e st => .nx e st
def sRet (r : RE) : RS := sOf r fun d _ st => .rt d st
def sRetN : RS := fun _ st => .rt .non st
def sSet (i : Nat) (r : RE) : RS := sOf r fun d e st => .nx (e.set i (some d)) st
def sTgt (g : TGt) (r : RE) : RS := sOf r fun d e st => match g d e with
  | some e1 => .nx e1 st
  | none => .bad
def sIf (t : RT) (a b : RS) : RS := fun e st => match t e st with
  | .ok true st1 => a e st1
  | .ok false st1 => b e st1
  | .exn C st1 => .exn C e st1
  | .bad => .bad
def sRaise (C : Str) : RS := fun e st => .exn C e st
/-- d[k] = v -/
def sDPut (d k v : RE) : RS := fun e st => match (v e st).bind fun y st1 => (d e st1).bind fun x st2 => (k e st2).bind fun z st3 => match dput st3 x z y with
    | some st4 => .ok () st4
    | none => .bad with
  | .ok _ st1 => .nx e st1
  | .exn C st1 => .exn C e st1
  | .bad => .bad
def forL (n0 : Nat) (g : TGt) (b : RS) : List D → Env → Store → SR
  | [], e, st => .nx e st
  | x :: xs, e, st => match g x e with
    | none => .bad
    | some e1 => match b e1 st with
      | .nx e2 st2 => (match gc n0 e2 st2 with
        | some (e3, st3) => forL n0 g b xs e3 st3
        | none => .bad)
      | r => r
def sFor (is : RI) (g : TGt) (b : RS) : RS := fun e st => match is e st with
  | .ok xs st1 => forL st1.length g b xs e st1
  | .exn C st1 => .exn C e st1
  | .bad => .bad
def whileL (n0 : Nat) (t : RT) (b : RS) : Nat → Env → Store → SR
  | 0, _, _ => .bad
  | k + 1, e, st => match t e st with
    | .ok true st1 => (match b e st1 with
      | .nx e2 st2 => (match gc n0 e2 st2 with
        | some (e3, st3) => whileL n0 t b k e3 st3
        | none => .bad)
      | r => r)
    | .ok false st1 => if st1.length = n0 then .nx e st1 else .bad
    | .exn C st1 => .exn C e st1
    | .bad => .bad
def sWhile (t : RT) (b : RS) : RS := fun e st => whileL st.length t b fuel e st
end Py
namespace Py
def pairD (p : PySem.Str × PySem.Str) : D := .tup [.str p.1, .str p.2]
/-- .. of pairs of texts, too -/
def fSorted2 (xs : List D) (st : Store) : Res (List D) := match fSorted xs st with
  | .bad => (match xs with
    | [x] => (match (asL st x).bind asPairs with
      | some ps => .ok ((isort leP ps).map pairD) st
      | none => .bad)
    | _ => .bad)
  | r => r
end Py
namespace Py
/-! ### defs that see the caller's objects -/
def gcS (n : Nat) (st : Store) : Store := match gc n [] st with
  | some (_, st') => st'
  | none => st
/-- a def's end: what it made and does not hand out goes -/
def finD (n : Nat) (d : D) (st : Store) : Res D := match gc n [] st with
  | none => .ok d st
  | some (_, st') => (match d with
    | .ref i => if i < n then .ok (.ref i) st' else (match st[i]? with
      | some (.lst l) => if l.all (bel n) = true then .ok (.lst l) st' else .ok (.ref i) st
      | _ => .ok (.ref i) st)
    | d => if bel n d = true then .ok d st' else .ok d st)
def stOf (k n : Nat) (r : RS) (ds : List D) (st : Store) : Res D := if ds.length = k then (match r (startE n ds) st with
  | .rt d st1 => finD st.length d st1
  | .nx _ st1 => .ok .non (gcS st.length st1)
  | .exn C _ st1 => .exn C (gcS st.length st1)
  | .bad => .bad) else .bad
end Py
namespace Py
/-- l.index(y), flat items -/
def fIndex (x : D) (xs : List D) (st : Store) : Res D := match xs with
  | [y] => (match asL st x with
    | some l => if flat y && l.all flat then (match l.findIdx? fun z => eqF z y with
      | some j => .ok (.int (j : Nat)) st
      | none => .bad) else .bad
    | none => .bad)
  | _ => .bad
/-- len(set(texts)), no text twice -/
def fLenSet (x : D) (st : Store) : Res D := match x with
  | .lst l => (match asStrs l with
    | some xs => if xs.Nodup ∧ xs.length ≤ 1000 then .ok (.int (xs.length : Nat)) st else .bad
    | none => .bad)
  | _ => .bad
open PySem
/-- l.count(x) -/
def fCount (x : D) (xs : List D) (st : Store) : Res D := match xs with
  | [y] => (match asL st x with
    | some l => if flat y && l.all flat then .ok (.int ((l.countP fun z => eqF z y : Nat) : Int)) st else .bad
    | none => .bad)
  | _ => .bad
/-! ### refusals -/
def errs : List Str := ["NoWant", "NoMaker", "NoBooks", "TooBig", "Missing", "Unsound", "NoScope", "Shut", "NoThing", "Gone", "NoNeed", "NoText"]
/-- isinstance(e, c) of the exception at a, of the class C -/
def isTbl (C : Str) (c : D) : Option Bool := match c with
  | .glo x => if x ∈ errs then some (decide (x = C)) else none
  | .ty n => if n = "ValueError" then some true else none
  | _ => none
def fIsE (a : Nat) (C : Str) (xs : List D) (st : Store) : Res D := match xs with
  | [.raw b, c] => if b = a then (match isTbl C c with
    | some r => .ok (.bl r) st
    | none => .bad) else .bad
  | _ => .bad
def errIx (C : Str) : Option Nat := errs.findIdx? fun x => decide (x = C)
def refD (i : Nat) : D := .tup [.str "refused", .int (i : Int)]
/-- try: return call; except HouseError as e: return _law_which(e) -/
def sTold (i : Nat) (r : RE) : RS := fun e st => match r e st with
  | .ok d st1 => .rt d st1
  | .exn C st1 => (match errIx C with
    | some j => if i < e.length then .rt (refD j) st1 else .bad
    | none => .bad)
  | .bad => .bad
/-- a call of the def that the slot i holds -/
def rLoc (i : Nat) (S : Str → Option (List D → PRes)) (a : RA) : RE := fun e st => match e[i]? with
  | some (some (.glo f)) => (match S f with
    | some m => rP m a e st
    | none => .bad)
  | _ => .bad
def repS (z : Str) (n : Nat) : Str := ⟨(List.replicate n z.cps.toList).flatten.toArray⟩
/-- x * n of ints, texts, tuples -/
def fMul2 (x y : D) (st : Store) : Res D := match x, y with
  | .str z, .int k => if 1 ≤ z.length ∧ z.length ≤ 1000 ∧ 2 ≤ k ∧ k ≤ 1000 then .ok (.str (repS z k.toNat)) st else .bad
  | .tup l, .int k => if l ≠ [] ∧ l.length ≤ 1000 ∧ 2 ≤ k ∧ k ≤ 1000 then .ok (.tup (List.replicate k.toNat l).flatten) st else .bad
  | x, y => fMul x y st
end Py

namespace Py
open PySem
/-- {k: v} -/
def rDict1 (k v : RE) : RE := fun e st => (k e (st ++ [.dK []])).bind fun x st1 => (v e st1).bind fun y st2 => match keyOf x with
  | some kk => (match st2[st.length]? with
    | some (.dK l) => if l.isEmpty then .ok (.ref st.length) (st2.set st.length (.dK [(kk, y)])) else .bad
    | _ => .bad)
  | none => .bad
end Py
namespace Py
open PySem
def putA (f : Str) (v : D) : List (Str × D) → List (Str × D)
  | [] => [(f, v)]
  | (g, x) :: r => if g = f then (g, v) :: r else (g, x) :: putA f v r
/-- o.x, o of the class C -/
def atA (C x : Str) (d : D) (st : Store) : Res D := match d with
  | .ref k => (match st[k]? with
    | some (.ins C' fs) => if C' = C then (match fs.lookup x with
      | some v => .ok v st
      | none => .bad) else .bad
    | _ => .bad)
  | _ => .bad
def rAttr (C x : Str) (r : RE) : RE := fun e st => (r e st).bind fun d st1 => atA C x d st1
/-- o.x = v -/
def setA (C x : Str) (d y : D) (st : Store) : Res Unit := match d with
  | .ref k => (match st[k]? with
    | some (.ins C' fs) => if C' = C ∧ fs.length < 1000 then .ok () (st.set k (.ins C (putA x y fs))) else .bad
    | _ => .bad)
  | _ => .bad
def sAttr (C x : Str) (o v : RE) : RS := fun e st => match (v e st).bind fun y st1 => (o e st1).bind fun d st2 => setA C x d y st2 with
  | .ok _ st3 => .nx e st3
  | .exn C st3 => .exn C e st3
  | .bad => .bad
/-- o.m(e, ..) -/
def isIns (C m : Str) (d : D) (st : Store) : Bool := match d with
  | .ref k => (match st[k]? with
    | some (.ins C' fs) => decide (C' = C) && (fs.lookup m).isNone
    | _ => false)
  | _ => false
def rMe (C mn : Str) (m : List D → Store → Res D) (o : RE) (a : RA) : RE := fun e st => (o e st).bind fun d st1 => if isIns C mn d st1 = true then (a e st1).bind fun ds st2 => m (d :: ds) st2 else .bad
/-- C(e, ..) -/
def rMake (C : Str) (m : List D → Store → Res D) (a : RA) : RE := fun e st => (a e st).bind fun ds st1 => (m (.ref st1.length :: ds) (st1 ++ [.ins C []])).bind fun d st2 => match d with
  | .non => .ok (.ref st1.length) st2
  | _ => .bad
end Py
namespace Py
open PySem
/-- max(ints) -/
def maxI : List Int → Int
  | [] => 0
  | [a] => a
  | a :: r => max a (maxI r)
def fMax (xs : List D) (st : Store) : Res D := match xs with
  | [x] => (match (asL st x).bind asInts with
    | some ns => if ns = [] then .bad else .ok (.int (maxI ns)) st
    | none => .bad)
  | _ => .bad
/-- list(d.values()) -/
def lVals (r : RE) : RL := fun e st => (r e st).bind fun d st1 => match d with
  | .ref k => (match st1[k]? with
    | some (.dK l) => .ok (l.map (·.2)) st1
    | some (.dT l) => .ok (l.map (·.2)) st1
    | _ => .bad)
  | _ => .bad
/-- try: body except HouseError as e: return _law_which(e) -/
def sTry (i : Nat) (b : RS) : RS := fun e st => match b e st with
  | .exn C e1 st1 => (match errIx C with
    | some j => if i < e1.length then .rt (refD j) st1 else .bad
    | none => .bad)
  | r => r
end Py
namespace Py
open PySem
/-- x[::-1] of a list -/
def fRev (x : D) (st : Store) : Res D := match asL st x with
  | some l => .ok (.lst l.reverse) st
  | none => .bad
end Py

set_option Elab.async false
set_option linter.all false
set_option maxRecDepth 100000
set_option maxHeartbeats 1000000
set_option autoImplicit false
namespace Py
open PySem
theorem ltS_irrefl (a : Str) : ltS a a = false := by
  unfold ltS; exact decide_eq_false (List.lt_irrefl _)
theorem ltS_trans {a b c : Str} (h : ltS a b = true) (h2 : ltS b c = true) : ltS a c = true := by
  unfold ltS at *
  simp only [decide_eq_true_eq] at *
  exact List.lt_trans h h2
theorem ltS_tri (a b : Str) : ltS a b = true ∨ a = b ∨ ltS b a = true := by
  unfold ltS
  simp only [decide_eq_true_eq]
  by_cases h : a.cps.toList < b.cps.toList
  · exact .inl h
  · by_cases h2 : b.cps.toList < a.cps.toList
    · exact .inr (.inr h2)
    · refine .inr (.inl ?_)
      have e := List.le_antisymm (List.not_lt.mp h2) (List.not_lt.mp h)
      obtain ⟨a⟩ := a
      obtain ⟨b⟩ := b
      exact congrArg Str.mk (Array.ext' e)
theorem leS_total (a b : Str) : leS a b = true ∨ leS b a = true := by
  unfold leS
  rcases ltS_tri a b with h | h | h
  · refine .inl ?_
    cases h2 : ltS b a with
    | false => rfl
    | true => exact absurd (ltS_trans h h2) (by rw [ltS_irrefl]; decide)
  · subst h; rw [ltS_irrefl]; exact .inl rfl
  · refine .inr ?_
    cases h2 : ltS a b with
    | false => rfl
    | true => exact absurd (ltS_trans h h2) (by rw [ltS_irrefl]; decide)
theorem leS_anti {a b : Str} (h : leS a b = true) (h2 : leS b a = true) : a = b := by
  unfold leS at *
  rcases ltS_tri a b with q | q | q
  · rw [q] at h2; cases h2
  · exact q
  · rw [q] at h; cases h
theorem leS_trans {a b c : Str} (h : leS a b = true) (h2 : leS b c = true) : leS a c = true := by
  unfold leS at *
  cases q : ltS c a with
  | false => rfl
  | true =>
    rcases ltS_tri b c with r | r | r
    · rw [ltS_trans r q] at h; cases h
    · subst r; rw [q] at h; cases h
    · rw [r] at h2; cases h2
theorem ins_perm {α : Type} (le : α → α → Bool) (x : α) : ∀ l : List α, (ins le x l).Perm (x :: l)
  | [] => List.Perm.refl _
  | y :: l => by
    unfold ins
    split
    · exact List.Perm.refl _
    · exact (List.Perm.cons y (ins_perm le x l)).trans (List.Perm.swap x y l)
theorem isort_perm {α : Type} (le : α → α → Bool) : ∀ l : List α, (isort le l).Perm l
  | [] => List.Perm.refl _
  | x :: l => (ins_perm le x _).trans (List.Perm.cons x (isort_perm le l))
theorem ins_sorted {α : Type} {le : α → α → Bool} (ht : ∀ a b, le a b = true ∨ le b a = true) (htr : ∀ a b c, le a b = true → le b c = true → le a c = true) (x : α) : ∀ l : List α, l.Pairwise (fun a b => le a b = true) → (ins le x l).Pairwise fun a b => le a b = true
  | [], _ => by unfold ins; exact List.pairwise_cons.mpr ⟨by simp, List.Pairwise.nil⟩
  | y :: l, h => by
    unfold ins
    obtain ⟨h1, h2⟩ := List.pairwise_cons.mp h
    split
    · rename_i hxy
      refine List.pairwise_cons.mpr ⟨fun z hz => ?_, h⟩
      rcases List.mem_cons.mp hz with e | hz
      · rw [e]; exact hxy
      · exact htr _ _ _ hxy (h1 z hz)
    · rename_i hxy
      have hyx : le y x = true := (ht x y).resolve_left hxy
      refine List.pairwise_cons.mpr ⟨fun z hz => ?_, ins_sorted ht htr x l h2⟩
      rcases List.mem_cons.mp ((ins_perm le x l).mem_iff.mp hz) with e | hz
      · rw [e]; exact hyx
      · exact h1 z hz
theorem isort_sorted {α : Type} {le : α → α → Bool} (ht : ∀ a b, le a b = true ∨ le b a = true) (htr : ∀ a b c, le a b = true → le b c = true → le a c = true) : ∀ l : List α, (isort le l).Pairwise fun a b => le a b = true
  | [] => List.Pairwise.nil
  | x :: l => ins_sorted ht htr x _ (isort_sorted ht htr l)
/-- a sorted list that holds the same is the one -/
theorem isort_unique {α : Type} {le : α → α → Bool} (ht : ∀ a b, le a b = true ∨ le b a = true) (htr : ∀ a b c, le a b = true → le b c = true → le a c = true) (ha : ∀ a b, le a b = true → le b a = true → a = b) {l m : List α} (hp : m.Perm l) (hs : m.Pairwise fun a b => le a b = true) : m = isort le l :=
  List.Perm.eq_of_pairwise (fun a b _ _ => ha a b) hs (isort_sorted ht htr l) (hp.trans (isort_perm le l).symm)
def lexS (p q : Str × Str) : Bool := if p.1 = q.1 then ltS p.2 q.2 else ltS p.1 q.1
theorem ltS_asym {a b : Str} (h : ltS a b = true) : ltS b a = false := by
  cases q : ltS b a with
  | false => rfl
  | true => have := ltS_trans h q; rw [ltS_irrefl] at this; cases this
theorem lexS_irrefl (p : Str × Str) : lexS p p = false := by unfold lexS; rw [if_pos rfl]; exact ltS_irrefl _
theorem lexS_trans {p q r : Str × Str} (h : lexS p q = true) (h2 : lexS q r = true) : lexS p r = true := by
  unfold lexS at *
  by_cases e : p.1 = q.1
  · rw [if_pos e] at h
    by_cases e2 : q.1 = r.1
    · rw [if_pos e2] at h2; rw [if_pos (e.trans e2)]; exact ltS_trans h h2
    · rw [if_neg e2] at h2; rw [if_neg (by rw [e]; exact e2), e]; exact h2
  · rw [if_neg e] at h
    by_cases e2 : q.1 = r.1
    · rw [if_pos e2] at h2; rw [if_neg (by rw [← e2]; exact e), ← e2]; exact h
    · rw [if_neg e2] at h2
      have t := ltS_trans h h2
      rw [if_neg (fun q => by rw [q, ltS_irrefl] at t; cases t)]; exact t
theorem lexS_tri (p q : Str × Str) : lexS p q = true ∨ p = q ∨ lexS q p = true := by
  unfold lexS
  by_cases e : p.1 = q.1
  · rw [if_pos e, if_pos e.symm]
    rcases ltS_tri p.2 q.2 with h | h | h
    · exact .inl h
    · exact .inr (.inl (Prod.ext e h))
    · exact .inr (.inr h)
  · rw [if_neg e, if_neg (fun q => e q.symm)]
    rcases ltS_tri p.1 q.1 with h | h | h
    · exact .inl h
    · exact absurd h e
    · exact .inr (.inr h)
theorem leP_lexS (a b : Str × Str) : leP a b = !lexS b a := by
  unfold leP lexS
  by_cases e : a.1 = b.1
  · rw [if_pos e, if_pos e.symm]; rfl
  · rw [if_neg e, if_neg (fun q => e q.symm)]
    rcases ltS_tri a.1 b.1 with h | h | h
    · rw [h, ltS_asym h]; rfl
    · exact absurd h e
    · rw [h, ltS_asym h]; rfl
theorem leP_total (a b : Str × Str) : leP a b = true ∨ leP b a = true := by
  rw [leP_lexS, leP_lexS]
  cases h : lexS b a with
  | false => exact .inl rfl
  | true =>
    cases h2 : lexS a b with
    | false => exact .inr rfl
    | true => have := lexS_trans h h2; rw [lexS_irrefl] at this; cases this
theorem leP_trans (a b c : Str × Str) (h : leP a b = true) (h2 : leP b c = true) : leP a c = true := by
  rw [leP_lexS, Bool.not_eq_true'] at *
  cases q : lexS c a with
  | false => rfl
  | true =>
    rcases lexS_tri b c with r | r | r
    · have := lexS_trans r q; rw [h] at this; cases this
    · rw [← r, h] at q; cases q
    · rw [r] at h2; cases h2
theorem leP_anti (a b : Str × Str) (h : leP a b = true) (h2 : leP b a = true) : a = b := by
  rw [leP_lexS, Bool.not_eq_true'] at *
  rcases lexS_tri a b with q | q | q
  · rw [q] at h2; cases h2
  · exact q
  · rw [q] at h; cases h
end Py

set_option linter.all false
set_option maxRecDepth 100000
set_option autoImplicit false
namespace Py
open PySem
/-! sorted of pairs of a text and a whole number -/
def pairI (p : Str × Int) : D := .tup [.str p.1, .int p.2]
def asSI : List D → Option (List (Str × Int))
  | [] => some []
  | .tup [.str x, .int y] :: r => (asSI r).map ((x, y) :: ·)
  | _ => none
def lexI (p q : Str × Int) : Bool := if p.1 = q.1 then decide (p.2 < q.2) else ltS p.1 q.1
def leSI (a b : Str × Int) : Bool := !lexI b a
def fSorted3 (xs : List D) (st : Store) : Res (List D) := match fSorted2 xs st with
  | .bad => (match xs with
    | [x] => (match (asL st x).bind asSI with
      | some ps => .ok ((isort leSI ps).map pairI) st
      | none => .bad)
    | _ => .bad)
  | r => r
theorem lexI_irrefl (p : Str × Int) : lexI p p = false := by unfold lexI; rw [if_pos rfl]; simp
theorem lexI_trans {p q r : Str × Int} (h : lexI p q = true) (h2 : lexI q r = true) : lexI p r = true := by
  unfold lexI at *
  by_cases e : p.1 = q.1
  · rw [if_pos e] at h
    by_cases e2 : q.1 = r.1
    · rw [if_pos e2] at h2; rw [if_pos (e.trans e2)]; simp at *; omega
    · rw [if_neg e2] at h2; rw [if_neg (by rw [e]; exact e2), e]; exact h2
  · rw [if_neg e] at h
    by_cases e2 : q.1 = r.1
    · rw [if_pos e2] at h2; rw [if_neg (by rw [← e2]; exact e), ← e2]; exact h
    · rw [if_neg e2] at h2
      have t := ltS_trans h h2
      rw [if_neg (fun q => by rw [q, ltS_irrefl] at t; cases t)]; exact t
theorem lexI_tri (p q : Str × Int) : lexI p q = true ∨ p = q ∨ lexI q p = true := by
  unfold lexI
  by_cases e : p.1 = q.1
  · rw [if_pos e, if_pos e.symm]
    rcases Int.lt_trichotomy p.2 q.2 with h | h | h
    · exact .inl (by simpa using h)
    · exact .inr (.inl (Prod.ext e h))
    · exact .inr (.inr (by simpa using h))
  · rw [if_neg e, if_neg (fun q => e q.symm)]
    rcases ltS_tri p.1 q.1 with h | h | h
    · exact .inl h
    · exact absurd h e
    · exact .inr (.inr h)
theorem leSI_total (a b : Str × Int) : leSI a b = true ∨ leSI b a = true := by
  unfold leSI
  rcases lexI_tri a b with h | h | h
  · refine .inl ?_
    cases h2 : lexI b a with
    | false => rfl
    | true => exact absurd (lexI_trans h h2) (by rw [lexI_irrefl]; decide)
  · subst h; rw [lexI_irrefl]; exact .inl rfl
  · refine .inr ?_
    cases h2 : lexI a b with
    | false => rfl
    | true => exact absurd (lexI_trans h h2) (by rw [lexI_irrefl]; decide)
theorem leSI_anti (a b : Str × Int) (h : leSI a b = true) (h2 : leSI b a = true) : a = b := by
  unfold leSI at *
  rcases lexI_tri a b with q | q | q
  · rw [q] at h2; cases h2
  · exact q
  · rw [q] at h; cases h
theorem leSI_trans (a b c : Str × Int) (h : leSI a b = true) (h2 : leSI b c = true) : leSI a c = true := by
  unfold leSI at *
  cases q : lexI c a with
  | false => rfl
  | true =>
    rcases lexI_tri b c with r | r | r
    · rw [lexI_trans r q] at h; cases h
    · subst r; rw [q] at h; cases h
    · rw [r] at h2; cases h2
end Py
namespace Py
open PySem
/-- l.pop(k) -/
def fPopAt (x : D) (xs : List D) (st : Store) : Res D := match x, xs with
  | .ref i, [.int k] => (match st[i]? with
    | some (.lst l) => if 0 ≤ k ∧ k < 1000000 then (match l[k.toNat]? with
      | some y => .ok y (st.set i (.lst (l.eraseIdx k.toNat)))
      | none => .bad) else .bad
    | _ => .bad)
  | _, _ => .bad
/-- sum(ints) -/
def fSum (xs : List D) (st : Store) : Res D := match xs with
  | [x] => (match (asL st x).bind asInts with
    | some ns => .ok (.int ns.sum) st
    | none => .bad)
  | _ => .bad
end Py
namespace Py
open PySem
/-- from here on a list is only read, as data -/
def sUn (i : Nat) : RS := fun e st => match e[i]? with
  | some (some (.ref k)) => (match st[k]? with
    | some (.lst l) => .nx (e.set i (some (.lst l))) (st.set k (.fz (.lst l)))
    | _ => .bad)
  | _ => .bad
end Py
namespace Py
open PySem
/-- dict(d): a copy -/
def fDictC (xs : List D) (st : Store) : Res D := match xs with
  | [.ref k] => (match st[k]? with
    | some (.dK l) => .ok (.ref st.length) (st ++ [.dK l])
    | _ => .bad)
  | _ => .bad
end Py
namespace Py
open PySem
/-- d.get(k), k may be a tuple with None ahead -/
def fGetN (x : D) (xs : List D) (st : Store) : Res D := match fGet x xs st with
  | .bad => (match x, xs with
    | .ref i, [.tup [.non, .int _]] => (match st[i]? with
      | some (.dT _) => .ok .non st
      | _ => .bad)
    | _, _ => .bad)
  | r => r
end Py

set_option Elab.async false
set_option linter.all false
set_option autoImplicit false
namespace Py
open PySem
/-- texts, joined -/
def joinN (s : List Nat) : List (List Nat) → List Nat
  | [] => []
  | [p] => p
  | p :: q :: r => p ++ (s ++ joinN s (q :: r))
def joinS (a : Str) (ys : List Str) : Str := ⟨(joinN a.cps.toList (ys.map fun y => y.cps.toList)).toArray⟩
/-- the parts between signs c -/
def splitC (c : Nat) : List Nat → List (List Nat)
  | [] => [[]]
  | x :: r => if x = c then [] :: splitC c r else (match splitC c r with
    | [] => [[x]]
    | p :: ps => (x :: p) :: ps)
def fJoin (x : D) (xs : List D) (st : Store) : Res D := match x, xs with
  | .str a, [y] => (match (asL st y).bind asStrs with
    | some ys => if (ys.map fun y => y.length).sum + ys.length * a.length ≤ 1000000 then .ok (.str (joinS a ys)) st else .bad
    | none => .bad)
  | _, _ => .bad
def fSplit (x : D) (xs : List D) (st : Store) : Res D := match x, xs with
  | .str z, [.str s] => (match s.cps.toList with
    | [c] => if c < 256 ∧ z.length ≤ 1000000 then .ok (.lst ((splitC c z.cps.toList).map fun p => .str ⟨p.toArray⟩)) st else .bad
    | _ => .bad)
  | _, _ => .bad
/-- str(i), a figure -/
def fStrI (xs : List D) (st : Store) : Res D := match xs with
  | [.int i] => if 0 ≤ i ∧ i ≤ 9 then .ok (.str ⟨#[48 + i.toNat]⟩) st else .bad
  | _ => .bad
/-- int(z), a figure -/
def fIntS (xs : List D) (st : Store) : Res D := match xs with
  | [.str z] => (match z.cps.toList with
    | [c] => if 48 ≤ c ∧ c ≤ 57 then .ok (.int ((c - 48 : Nat) : Int)) st else .bad
    | _ => .bad)
  | _ => .bad
/-- z * k -/
def fMulS (x y : D) (st : Store) : Res D := match x, y with
  | .str z, .int k => if 1 ≤ z.length ∧ z.length ≤ 1000 ∧ 0 ≤ k ∧ k ≤ 1000 then .ok (.str (repS z k.toNat)) st else .bad
  | _, _ => .bad
/-- range(0, n, 2) -/
def iRngS (a : RA) : RI := fun e st => (a e st).bind fun ds st1 => match ds with
  | [.int i, .int j, .int k] => if i = 0 ∧ k = 2 ∧ 0 ≤ j ∧ j ≤ 1000000 then .ok ((List.range ((j.toNat + 1) / 2)).map fun t => .int ((0 : Int) + (t : Nat) * 2)) st1 else .bad
  | _ => .bad
end Py

set_option Elab.async false
set_option linter.all false
set_option maxRecDepth 100000
set_option maxHeartbeats 1000000
set_option autoImplicit false
namespace Py
open PySem PySem.Spec L2

theorem cap_eq : sizeLine = cap := sizeLine_eq
mutual
/-- a value v of the abstract heap F (frozen) stands for d; rho: where the store's objects are -/
inductive RD (K : PySem.W.Frag) (ρ : List Addr) (F : Hp) : D → V → Prop
  | non : RD K ρ F .non .non
  | bl (b : Bool) : RD K ρ F (.bl b) (.bl b)
  | int (i : Int) : RD K ρ F (.int i) (.int i)
  | str (x : Str) : PyData.strOk x = true → x.length ≤ cap → RD K ρ F (.str x) (.str x)
  | ty (n : String) : RD K ρ F (.ty n) (.ty n)
  | glo (x : Str) : RD K ρ F (.glo x) (.ref (He.ga K x))
  | tup {a : Addr} {xs : List V} {ds : List D} : F a = some (.tup xs) → xs.length ≤ cap → RDs K ρ F ds xs → RD K ρ F (.tup ds) (.ref a)
  | ktup {a : Addr} {l : List Str} : SqT K (fun _ => none) a (l.map V.str) → (∀ x ∈ l, PyData.strOk x = true ∧ x.length ≤ cap) → RD K ρ F (.ktup l) (.ref a)
  | lst {a : Addr} {xs : List V} {ds : List D} : F a = some (.lst xs) → xs.length ≤ cap → RDs K ρ F ds xs → RD K ρ F (.lst ds) (.ref a)
  | scr {a : Addr} {ns : List Int} : SqL K F a (ns.map V.int) → ns.length ≤ cap → RD K ρ F (.scr ns) (.ref a)
  | ref {i : Nat} {a : Addr} : ρ[i]? = some a → RD K ρ F (.ref i) (.ref a)
  | raw (a : Addr) : RD K ρ F (.raw a) (.ref a)
inductive RDs (K : PySem.W.Frag) (ρ : List Addr) (F : Hp) : List D → List V → Prop
  | nil : RDs K ρ F [] []
  | cons {d : D} {v : V} {ds : List D} {vs : List V} : RD K ρ F d v → RDs K ρ F ds vs → RDs K ρ F (d :: ds) (v :: vs)
end
def Sub (ρ ρ' : List Addr) : Prop := ∀ (i : Nat) (a : Addr), ρ[i]? = some a → ρ'[i]? = some a
theorem Sub.refl (ρ : List Addr) : Sub ρ ρ := fun _ _ h => h
theorem Sub.trans {a b c : List Addr} (h : Sub a b) (h' : Sub b c) : Sub a c := fun i x q => h' i x (h i x q)
theorem Sub.app (a b : List Addr) : Sub a (a ++ b) := fun i x q => by
  rw [List.getElem?_append_left (List.getElem?_eq_some_iff.mp q).1]; exact q
section
variable {K : PySem.W.Frag} {ρ ρ' : List Addr} {F F' G H H' : Hp} {st st' : Store} {d : D} {v : V} {ds : List D} {vs : List V}
mutual
theorem RD.mono (s : Sub ρ ρ') (f : Same F F') : ∀ {d : D} {v : V}, RD K ρ F d v → RD K ρ' F' d v
  | _, _, .non => .non
  | _, _, .bl b => .bl b
  | _, _, .int i => .int i
  | _, _, .str x h1 h2 => .str x h1 h2
  | _, _, .ty n => .ty n
  | _, _, .glo x => .glo x
  | _, _, .tup h l r => .tup (f _ _ h) l (RDs.mono s f r)
  | _, _, .ktup h r => .ktup h r
  | _, _, .lst h l r => .lst (f _ _ h) l (RDs.mono s f r)
  | _, _, .scr h l => .scr (f.seq h) l
  | _, _, .ref h => .ref (s _ _ h)
  | _, _, .raw a => .raw a
theorem RDs.mono (s : Sub ρ ρ') (f : Same F F') : ∀ {ds : List D} {vs : List V}, RDs K ρ F ds vs → RDs K ρ' F' ds vs
  | _, _, .nil => .nil
  | _, _, .cons h t => .cons (RD.mono s f h) (RDs.mono s f t)
end
theorem RDs.length : ∀ {ds : List D} {vs : List V}, RDs K ρ F ds vs → ds.length = vs.length
  | _, _, .nil => rfl
  | _, _, .cons _ t => by simp [RDs.length t]
theorem RDs.get : ∀ {ds : List D} {vs : List V} {i : Nat} {d : D}, RDs K ρ F ds vs → ds[i]? = some d → ∃ v, vs[i]? = some v ∧ RD K ρ F d v
  | _, _, _, _, .nil, e => by simp at e
  | _, _, 0, _, .cons h _, e => by simp at e; subst e; exact ⟨_, rfl, h⟩
  | _, _, i + 1, d, .cons _ t, e => by
    obtain ⟨v, h1, h2⟩ := RDs.get (i := i) (d := d) t (by simpa using e)
    exact ⟨v, by simpa using h1, h2⟩
theorem RDs.append : ∀ {ds es : List D} {vs us : List V}, RDs K ρ F ds vs → RDs K ρ F es us → RDs K ρ F (ds ++ es) (vs ++ us)
  | _, _, _, _, .nil, s => s
  | _, _, _, _, .cons h t, s => .cons h (RDs.append t s)
theorem RDs.take : ∀ {ds : List D} {vs : List V} (n : Nat), RDs K ρ F ds vs → RDs K ρ F (ds.take n) (vs.take n)
  | _, _, 0, _ => .nil
  | _, _, _ + 1, .nil => .nil
  | _, _, n + 1, .cons h t => .cons h (RDs.take n t)
theorem RDs.drop : ∀ {ds : List D} {vs : List V} (n : Nat), RDs K ρ F ds vs → RDs K ρ F (ds.drop n) (vs.drop n)
  | _, _, 0, r => r
  | _, _, _ + 1, .nil => .nil
  | _, _, n + 1, .cons _ t => RDs.drop n t
theorem RDs.dropLast {ds : List D} {vs : List V} (h : RDs K ρ F ds vs) : RDs K ρ F ds.dropLast vs.dropLast := by
  rw [List.dropLast_eq_take, List.dropLast_eq_take, ← h.length]; exact h.take _
theorem RDs.ints : ∀ (ns : List Int), RDs K ρ F (ns.map D.int) (ns.map V.int)
  | [] => .nil
  | n :: r => .cons (.int n) (RDs.ints r)

/-- a key's text is as texts are -/
def KOk : L2.Key → Prop
  | .inl _ => True
  | .inr x => PyData.strOk x = true ∧ x.length ≤ cap
/-- an object of the store, at a -/
def OOk (K : PySem.W.Frag) (ρ : List Addr) (F G H : Hp) (a : Addr) : O → Prop
  | .lst ds => F a = none ∧ G a = none ∧ ∃ xs, H a = some (.lst xs) ∧ xs.length ≤ cap ∧ RDs K ρ F ds xs
  | .dK kvs => F a = none ∧ G a = none ∧ ∃ ys, H a = some (.dK ys) ∧ ys.length ≤ cap ∧ ys.map (·.1) = kvs.map (·.1) ∧ RDs K ρ F (kvs.map (·.2)) (ys.map (·.2)) ∧ ∀ p ∈ kvs, KOk p.1
  | .dT kvs => F a = none ∧ G a = none ∧ ∃ ys, H a = some (.dT ys) ∧ ys.length ≤ cap ∧ ys.map (·.1) = kvs.map (·.1) ∧ RDs K ρ F (kvs.map (·.2)) (ys.map (·.2)) ∧ ∀ p ∈ kvs, p.1.length ≤ cap ∧ ∀ k ∈ p.1, KOk k
  | .ins C fs => F a = none ∧ G a = none ∧ ∃ dx ys, H a = some (.ins (He.ga K C) dx ys) ∧ ys.map (·.1) = fs.map (·.1) ∧ RDs K ρ F (fs.map (·.2)) (ys.map (·.2))
  | .fz d => (∃ u, F a = some u) ∧ RD K ρ F d (.ref a)

structure Good (K : PySem.W.Frag) (ρ : List Addr) (F G H : Hp) (st : Store) : Prop where
  f : Same F H
  g : Same G H
  fg : ∀ a o, G a = some o → F a = none ∨ ∃ xs, o = .tup xs
  len : ρ.length = st.length
  nd : ∀ (i j : Nat) (a : Addr), ρ[i]? = some a → ρ[j]? = some a → i = j
  obj : ∀ (i : Nat) (a : Addr) (o : O), ρ[i]? = some a → st[i]? = some o → OOk K ρ F G H a o

theorem Good.at (g : Good K ρ F G H st) {i : Nat} {o : O} (h : st[i]? = some o) : ∃ a, ρ[i]? = some a ∧ OOk K ρ F G H a o := by
  have hi : i < ρ.length := by rw [g.len]; exact (List.getElem?_eq_some_iff.mp h).1
  exact ⟨ρ[i], by simp [hi], g.obj i _ o (by simp [hi]) h⟩
theorem Good.at' (g : Good K ρ F G H st) {i : Nat} {a : Addr} (h : ρ[i]? = some a) : ∃ o, st[i]? = some o ∧ OOk K ρ F G H a o := by
  have hi : i < st.length := by rw [← g.len]; exact (List.getElem?_eq_some_iff.mp h).1
  exact ⟨st[i], by simp [hi], g.obj i a _ h (by simp [hi])⟩
/-- an object's description where F grew, H kept it -/
theorem OOk.keep {a : Addr} {o : O} (h : OOk K ρ F G H a o) (s : Sub ρ ρ') (f : Same F F') (hf : (∀ d, o ≠ .fz d) → F a = none → F' a = none) (hh : ∀ u, H a = some u → H' a = some u) : OOk K ρ' F' G H' a o := by
  cases o with
  | lst ds => obtain ⟨h1, h2, xs, h3, h4, h5⟩ := h; exact ⟨hf (by intro d q; cases q) h1, h2, xs, hh _ h3, h4, h5.mono s f⟩
  | dK ds => obtain ⟨h1, h2, xs, h3, h4, h5, h6⟩ := h; exact ⟨hf (by intro d q; cases q) h1, h2, xs, hh _ h3, h4, h5, h6.1.mono s f, h6.2⟩
  | dT ds => obtain ⟨h1, h2, xs, h3, h4, h5, h6⟩ := h; exact ⟨hf (by intro d q; cases q) h1, h2, xs, hh _ h3, h4, h5, h6.1.mono s f, h6.2⟩
  | ins C fs => obtain ⟨h1, h2, dx, ys, h3, h4, h5⟩ := h; exact ⟨hf (by intro d q; cases q) h1, h2, dx, ys, hh _ h3, h4, h5.mono s f⟩
  | fz d => obtain ⟨⟨u, h1⟩, h2⟩ := h; exact ⟨⟨u, f _ _ h1⟩, RD.mono s f h2⟩
theorem OOk.none {a : Addr} {o : O} (h : OOk K ρ F G H a o) (n : ∀ d, o ≠ .fz d) : F a = none ∧ G a = none ∧ ∃ u, H a = some u := by
  cases o with
  | lst ds => obtain ⟨h1, h2, xs, h3, _⟩ := h; exact ⟨h1, h2, _, h3⟩
  | dK ds => obtain ⟨h1, h2, xs, h3, _⟩ := h; exact ⟨h1, h2, _, h3⟩
  | dT ds => obtain ⟨h1, h2, xs, h3, _⟩ := h; exact ⟨h1, h2, _, h3⟩
  | ins C fs => obtain ⟨h1, h2, dx, ys, h3, _⟩ := h; exact ⟨h1, h2, _, h3⟩
  | fz d => exact absurd rfl (n d)
/-- everything that stood is kept, F grows over new places -/
theorem Good.grow (g : Good K ρ F G H st) (ff : Same F F') (fh : Same F' H') (hh : Same H H') (new : ∀ a o, H a = some o → F a = none → F' a = none) : Good K ρ F' G H' st :=
  ⟨fh, fun a o q => hh a o (g.g a o q), fun a o q => (g.fg a o q).imp_left (new a o (g.g a o q)), g.len, g.nd, fun i a o h1 h2 =>
    (g.obj i a o h1 h2).keep (Sub.refl _) ff (fun n fa => by obtain ⟨_, _, u, hu⟩ := (g.obj i a o h1 h2).none n; exact new a u hu fa) fun u q => hh a u q⟩
/-- a new frozen object -/
theorem Good.newF (g : Good K ρ F G H st) {p : Addr} (hp : H p = none) (o : HO) : Good K ρ (upd F p o) G (upd H p o) st ∧ Same F (upd F p o) := by
  have fp : F p = none := g.f.free hp
  have s1 : Same F (upd F p o) := fun a u q => by rw [upd_ne (ne_of_none q fp)]; exact q
  refine ⟨g.grow s1 (fun a u q => ?_) (fun a u q => by rw [upd_ne (ne_of_none q hp)]; exact q) (fun a u q fa => by rw [upd_ne (ne_of_none q hp)]; exact fa), s1⟩
  by_cases e : a = p
  · subst e; rw [upd_same] at q ⊢; exact q
  · rw [upd_ne e] at q ⊢; exact g.f a u q
/-- a new mutable object -/
theorem Good.newO (g : Good K ρ F G H st) {p : Addr} (hp : H p = none) {u : HO} {o : O} (ok : OOk K (ρ ++ [p]) F G (upd H p u) p o) : Good K (ρ ++ [p]) F G (upd H p u) (st ++ [o]) := by
  have hh : Same H (upd H p u) := fun a w q => by rw [upd_ne (ne_of_none q hp)]; exact q
  have fp : F p = none := g.f.free hp
  have np : ∀ (i : Nat) (a : Addr) (o' : O), ρ[i]? = some a → st[i]? = some o' → a ≠ p := fun i a o' h1 h2 e => by
    subst e
    have ok' := g.obj i a o' h1 h2
    cases o' with
    | fz d => obtain ⟨⟨w, hw⟩, _⟩ := ok'; rw [fp] at hw; cases hw
    | _ => obtain ⟨_, _, w, hw⟩ := ok'.none (by intro d q; cases q); rw [hw] at hp; cases hp
  have np' : ∀ (i : Nat) (a : Addr), ρ[i]? = some a → a ≠ p := fun i a h1 => by
    obtain ⟨o', h2, _⟩ := g.at' h1
    exact np i a o' h1 h2
  refine ⟨fun a w q => hh a w (g.f a w q), fun a w q => hh a w (g.g a w q), g.fg, by simp [g.len], fun i j a h1 h2 => ?_, fun i a o' h1 h2 => ?_⟩
  · by_cases hi : i < ρ.length
    · rw [List.getElem?_append_left hi] at h1
      by_cases hj : j < ρ.length
      · rw [List.getElem?_append_left hj] at h2
        exact g.nd i j a h1 h2
      · rw [List.getElem?_append_right (by omega)] at h2
        have e : a = p := by
          have := List.mem_of_getElem? h2
          simpa using this
        exact absurd e (np' i a h1)
    · rw [List.getElem?_append_right (by omega)] at h1
      have hi' := (List.getElem?_eq_some_iff.mp h1).1
      have e : a = p := by
        have := List.mem_of_getElem? h1
        simpa using this
      by_cases hj : j < ρ.length
      · rw [List.getElem?_append_left hj] at h2
        exact absurd e (np' j a h2)
      · rw [List.getElem?_append_right (by omega)] at h2
        have hj' := (List.getElem?_eq_some_iff.mp h2).1
        simp at hi' hj'
        omega
  · by_cases hi : i < ρ.length
    · rw [List.getElem?_append_left hi] at h1
      rw [List.getElem?_append_left (by rw [← g.len]; exact hi)] at h2
      exact (g.obj i a o' h1 h2).keep (Sub.app _ _) (Same.refl _) (fun _ q => q) fun w q => hh a w q
    · rw [List.getElem?_append_right (by omega)] at h1
      rw [List.getElem?_append_right (by rw [← g.len]; omega)] at h2
      have e1 : a = p := by
        have := List.mem_of_getElem? h1
        simpa using this
      have e2 : o' = o := by
        have := List.mem_of_getElem? h2
        simpa using this
      subst e1 e2
      exact ok
/-- a mutable object is written -/
theorem Good.setO (g : Good K ρ F G H st) {i : Nat} {p : Addr} (hi : ρ[i]? = some p) {o' : O} (h' : st[i]? = some o') (nf : ∀ d, o' ≠ .fz d) {u : HO} {o : O} (ok : OOk K ρ F G (upd H p u) p o) : Good K ρ F G (upd H p u) (st.set i o) := by
  obtain ⟨fp, gp, w, hw⟩ := (g.obj i p o' hi h').none nf
  refine ⟨fun a v q => by rw [upd_ne (ne_of_none q fp)]; exact g.f a v q, fun a v q => by rw [upd_ne (ne_of_none q gp)]; exact g.g a v q, g.fg, by simp [g.len], g.nd, fun j a o2 h1 h2 => ?_⟩
  by_cases e : i = j
  · subst e
    rw [hi] at h1; cases h1
    rw [List.getElem?_set_self (List.getElem?_eq_some_iff.mp h').1] at h2
    cases h2
    exact ok
  · rw [List.getElem?_set_ne e] at h2
    have na : a ≠ p := fun q => e (g.nd i j p hi (q ▸ h1))
    exact (g.obj j a o2 h1 h2).keep (Sub.refl _) (Same.refl _) (fun _ q => q) fun v q => by rw [upd_ne na]; exact q
/-- a mutable object is frozen -/
theorem Good.frzO (g : Good K ρ F G H st) {i : Nat} {p : Addr} (hi : ρ[i]? = some p) {o' : O} (h' : st[i]? = some o') (nf : ∀ d, o' ≠ .fz d) {u : HO} (hu : H p = some u) {d : D} (r : RD K ρ (upd F p u) d (.ref p)) : Good K ρ (upd F p u) G H (st.set i (.fz d)) ∧ Same F (upd F p u) := by
  obtain ⟨fp, gp, w, hw⟩ := (g.obj i p o' hi h').none nf
  have s1 : Same F (upd F p u) := fun a v q => by rw [upd_ne (ne_of_none q fp)]; exact q
  refine ⟨⟨fun a v q => ?_, g.g, fun a v q => ?_, by simp [g.len], g.nd, fun j a o2 h1 h2 => ?_⟩, s1⟩
  · by_cases e : a = p
    · subst e; rw [upd_same] at q; cases q; exact hu
    · rw [upd_ne e] at q; exact g.f a v q
  · rw [upd_ne (ne_of_none q gp)]; exact g.fg a v q
  · by_cases e : i = j
    · subst e
      rw [hi] at h1; cases h1
      rw [List.getElem?_set_self (List.getElem?_eq_some_iff.mp h').1] at h2
      cases h2
      exact ⟨⟨u, upd_same⟩, r⟩
    · rw [List.getElem?_set_ne e] at h2
      have na : a ≠ p := fun q => e (g.nd i j p hi (q ▸ h1))
      exact (g.obj j a o2 h1 h2).keep (Sub.refl _) s1 (fun _ q => by rw [upd_ne na]; exact q) fun v q => q
end
end Py

set_option Elab.async false
set_option linter.all false
set_option maxRecDepth 100000
set_option maxHeartbeats 1000000
set_option autoImplicit false
namespace Py
open PySem PySem.Spec L2

def EnvR (K : PySem.W.Frag) (ρ : List Addr) (F : Hp) (e : Env) (σ : St) : Prop := e.length = σ.length ∧ ∀ (i : Nat) (d : D), e[i]? = some (some d) → ∃ v, σ[i]? = some (some v) ∧ RD K ρ F d v

/-- what is wanted behind a run -/
def Pst {α : Type} (K : PySem.W.Frag) (W : WX) (ρ : List Addr) (F G : Hp) (σ : St) (r : Res α) (Q : List Addr → Hp → Hp → α → Store → Prop) : Prop := match r with
  | .ok a st' => ∀ (ρ' : List Addr) (F' H' : Hp), Sub ρ ρ' → Same F F' → Good K ρ' F' G H' st' → Q ρ' F' H' a st'
  | .exn C st' => ∀ (ρ' : List Addr) (F' H' : Hp), Sub ρ ρ' → Same F F' → Good K ρ' F' G H' st' → W (.ref (He.ga K C)) none σ H'
  | .bad => False
section
variable {α β : Type} {K : PySem.W.Frag} {W : WX} {ρ ρ' : List Addr} {F F' G H H' : Hp} {σ : St} {e : Env} {st st' : Store} {Q : List Addr → Hp → Hp → α → Store → Prop}
theorem EnvR.mono (h : EnvR K ρ F e σ) (s : Sub ρ ρ') (f : Same F F') : EnvR K ρ' F' e σ := ⟨h.1, fun i d q => by
  obtain ⟨v, h1, h2⟩ := h.2 i d q
  exact ⟨v, h1, h2.mono s f⟩⟩
theorem EnvR.set {i : Nat} {d : D} {v : V} (h : EnvR K ρ F e σ) (r : RD K ρ F d v) : EnvR K ρ F (e.set i (some d)) (σ.set i (some v)) := ⟨by simp [h.1], fun j d' q => by
  by_cases hj : i = j
  · subst hj
    by_cases hi : i < e.length
    · rw [List.getElem?_set_self hi] at q
      rw [List.getElem?_set_self (by rw [← h.1]; exact hi)]
      cases q
      exact ⟨v, rfl, r⟩
    · rw [List.getElem?_eq_none (by simpa using hi)] at q; cases q
  · rw [List.getElem?_set_ne hj] at q ⊢
    exact h.2 j d' q⟩
theorem EnvR.unset {i : Nat} (h : EnvR K ρ F e σ) : EnvR K ρ F (e.set i none) (σ.set i none) := ⟨by simp [h.1], fun j d' q => by
  by_cases hj : i = j
  · subst hj
    by_cases hi : i < e.length
    · rw [List.getElem?_set_self hi] at q; cases q
    · rw [List.getElem?_eq_none (by simpa using hi)] at q; cases q
  · rw [List.getElem?_set_ne hj] at q ⊢
    exact h.2 j d' q⟩
theorem EnvR.wipe (h : EnvR K ρ F e σ) : ∀ vs : List Nat, EnvR K ρ F (wipe e vs) (L2.wipe σ vs)
  | [] => h
  | v :: vs => by unfold Py.wipe L2.wipe; exact (EnvR.wipe h vs).unset
theorem Pst.weak {r : Res α} (p : Pst K W ρ F G σ r Q) (s : Sub ρ ρ') (f : Same F F') : Pst K W ρ' F' G σ r Q := by
  cases r with
  | ok a st' => exact fun r' f' h' s' sf g => p r' f' h' (s.trans s') (f.trans sf) g
  | exn C st' => exact fun r' f' h' s' sf g => p r' f' h' (s.trans s') (f.trans sf) g
  | bad => exact p
theorem Pst.mp {r : Res α} {Q' : List Addr → Hp → Hp → α → Store → Prop} (p : Pst K W ρ F G σ r Q) (h : ∀ ρ' F' H' a st', Sub ρ ρ' → Same F F' → Good K ρ' F' G H' st' → r = .ok a st' → Q ρ' F' H' a st' → Q' ρ' F' H' a st') : Pst K W ρ F G σ r Q' := by
  cases r with
  | ok a st' => exact fun r' f' h' s' sf g => h r' f' h' a st' s' sf g rfl (p r' f' h' s' sf g)
  | exn C st' => exact p
  | bad => exact p
theorem Pst.bind {r : Res β} {k : β → Store → Res α} (p : Pst K W ρ F G σ (r.bind k) Q) : Pst K W ρ F G σ r (fun ρ' F' H' b st' => Pst K W ρ' F' G σ (k b st') Q) := by
  cases r with
  | ok a st' => exact fun r' f' h' s' sf g => Pst.weak p s' sf
  | exn C st' => exact p
  | bad => exact p
/-- .. of a value that is handed on at once -/
theorem Pst.now {a : α} (p : Pst K W ρ F G σ (.ok a st) Q) (g : Good K ρ F G H st) : Q ρ F H a st := p ρ F H (Sub.refl _) (Same.refl _) g
theorem Pst.to {a : α} (p : Pst K W ρ F G σ (.ok a st) Q) (s : Sub ρ ρ') (f : Same F F') (g : Good K ρ' F' G H' st) : Q ρ' F' H' a st := p ρ' F' H' s f g
end

/-! ### the readings -/
def toTE (K : PySem.W.Frag) (W : WX) (r : RE) : TE := fun σ H Q => ∃ (ρ : List Addr) (F G : Hp) (e : Env) (st : Store), Good K ρ F G H st ∧ EnvR K ρ F e σ ∧ Pst K W ρ F G σ (r e st) (fun ρ' F' H' d _ => ∀ v, RD K ρ' F' d v → Q v H')
def toTT (K : PySem.W.Frag) (W : WX) (r : RT) : TT := fun σ H Q => ∃ (ρ : List Addr) (F G : Hp) (e : Env) (st : Store), Good K ρ F G H st ∧ EnvR K ρ F e σ ∧ Pst K W ρ F G σ (r e st) (fun _ _ H' b _ => Q b H')
def toTA (K : PySem.W.Frag) (W : WX) (r : RA) : TA := fun σ H Q => ∃ (ρ : List Addr) (F G : Hp) (e : Env) (st : Store), Good K ρ F G H st ∧ EnvR K ρ F e σ ∧ Pst K W ρ F G σ (r e st) (fun ρ' F' H' ds _ => ∀ vs, RDs K ρ' F' ds vs → Q vs H')
/-- a fresh list -/
def toTL (K : PySem.W.Frag) (W : WX) (r : RL) : TE := fun σ H Q => ∃ (ρ : List Addr) (F G : Hp) (e : Env) (st : Store), Good K ρ F G H st ∧ EnvR K ρ F e σ ∧ Pst K W ρ F G σ (r e st) (fun ρ' F' H' ds _ => ∀ vs p, RDs K ρ' F' ds vs → H' p = none → vs.length ≤ cap → Q (.ref p) (upd H' p (.lst vs)))
/-- statements -/
def Sst (K : PySem.W.Frag) (W : WX) (ρ : List Addr) (F G : Hp) (r : SR) (E : Ends) : Prop := match r with
  | .nx e st => ∀ (ρ' : List Addr) (F' H' : Hp) (σ' : St), Sub ρ ρ' → Same F F' → Good K ρ' F' G H' st → EnvR K ρ' F' e σ' → E.nx σ' H'
  | .rt d st => ∀ (ρ' : List Addr) (F' H' : Hp) (v : V), Sub ρ ρ' → Same F F' → Good K ρ' F' G H' st → RD K ρ' F' d v → E.rt v H'
  | .exn C e st => ∀ (ρ' : List Addr) (F' H' : Hp) (σ' : St), Sub ρ ρ' → Same F F' → Good K ρ' F' G H' st → EnvR K ρ' F' e σ' → W (.ref (He.ga K C)) none σ' H'
  | .bad => False
def toTS (K : PySem.W.Frag) (W : WX) (r : RS) : TS := fun E σ H => ∃ (ρ : List Addr) (F G : Hp) (e : Env) (st : Store), Good K ρ F G H st ∧ EnvR K ρ F e σ ∧ Sst K W ρ F G (r e st) E

section
variable {X : Cx} {e e2 : Expr} {t t' : TE}
theorem PE.imp (h : PE X e t) (i : ∀ σ H Q, t' σ H Q → t σ H Q) : PE X e t' := ⟨fun pins s σ H Q I q => h.run pins s σ H Q I (i σ H Q q)⟩
theorem PE.or (h : PE X e t) (h' : PE X e t') : PE X e (fun σ H Q => t σ H Q ∨ t' σ H Q) := ⟨fun pins s σ H Q I q => q.elim (h.run pins s σ H Q I) (h'.run pins s σ H Q I)⟩
theorem PT.imp {t t' : TT} (h : PT X e t) (i : ∀ σ H Q, t' σ H Q → t σ H Q) : PT X e t' := ⟨fun pins s σ H Q I q => h.run pins s σ H Q I (i σ H Q q)⟩
theorem PW.imp {t t' : TT} (h : PW X e t) (i : ∀ σ H Q, t' σ H Q → t σ H Q) : PW X e t' := ⟨fun w pins s σ H Q I q => h.run w pins s σ H Q I (i σ H Q q)⟩
theorem PA.imp {es : List Expr} {t t' : TA} (h : PA X es t) (i : ∀ σ H Q, t' σ H Q → t σ H Q) : PA X es t' := ⟨fun pos pins s σ H Q I q => h.run pos pins s σ H Q I (i σ H Q q)⟩
theorem PS.imp {s : Stmt} {t t' : TS} (h : PS X s t) (i : ∀ E σ H, t' E σ H → t E σ H) : PS X s t' := ⟨fun pins s σ H E I q => h.run pins s σ H E I (i E σ H q)⟩
theorem PS.or {s : Stmt} {t t' : TS} (h : PS X s t) (h' : PS X s t') : PS X s (fun E σ H => t E σ H ∨ t' E σ H) := ⟨fun pins s σ H E I q => q.elim (h.run pins s σ H E I) (h'.run pins s σ H E I)⟩
theorem PSs.imp {s : List Stmt} {t t' : TS} (h : PSs X s t) (i : ∀ E σ H, t' E σ H → t E σ H) : PSs X s t' := ⟨fun pins s σ H E I q => h.run pins s σ H E I (i E σ H q)⟩
end

section
variable {α : Type} {K : PySem.W.Frag} {W : WX} {ρ : List Addr} {F G H : Hp} {σ : St} {e : Env} {st : Store} {Q : List Addr → Hp → Hp → α → Store → Prop}
/-- a part is run first -/
theorem te_bind {r : RE} {k : D → Store → Res α} {T : V → Hp → Prop} (g : Good K ρ F G H st) (ev : EnvR K ρ F e σ) (p : Pst K W ρ F G σ ((r e st).bind k) Q)
    (h : ∀ (ρ1 : List Addr) (F1 H1 : Hp) (d : D) (st1 : Store) (v : V), Sub ρ ρ1 → Same F F1 → Good K ρ1 F1 G H1 st1 → EnvR K ρ1 F1 e σ → RD K ρ1 F1 d v → Pst K W ρ1 F1 G σ (k d st1) Q → T v H1) : toTE K W r σ H T :=
  ⟨ρ, F, G, e, st, g, ev, p.bind.mp fun ρ' F' H' a st' s f g' _ q v r' => h ρ' F' H' a st' v s f g' (ev.mono s f) r' q⟩
theorem tt_bind {r : RT} {k : Bool → Store → Res α} {T : Bool → Hp → Prop} (g : Good K ρ F G H st) (ev : EnvR K ρ F e σ) (p : Pst K W ρ F G σ ((r e st).bind k) Q)
    (h : ∀ (ρ1 : List Addr) (F1 H1 : Hp) (b : Bool) (st1 : Store), Sub ρ ρ1 → Same F F1 → Good K ρ1 F1 G H1 st1 → EnvR K ρ1 F1 e σ → Pst K W ρ1 F1 G σ (k b st1) Q → T b H1) : toTT K W r σ H T :=
  ⟨ρ, F, G, e, st, g, ev, p.bind.mp fun ρ' F' H' a st' s f g' _ q => h ρ' F' H' a st' s f g' (ev.mono s f) q⟩
theorem ta_bind {r : RA} {k : List D → Store → Res α} {T : List V → Hp → Prop} (g : Good K ρ F G H st) (ev : EnvR K ρ F e σ) (p : Pst K W ρ F G σ ((r e st).bind k) Q)
    (h : ∀ (ρ1 : List Addr) (F1 H1 : Hp) (ds : List D) (st1 : Store) (vs : List V), Sub ρ ρ1 → Same F F1 → Good K ρ1 F1 G H1 st1 → EnvR K ρ1 F1 e σ → RDs K ρ1 F1 ds vs → Pst K W ρ1 F1 G σ (k ds st1) Q → T vs H1) : toTA K W r σ H T :=
  ⟨ρ, F, G, e, st, g, ev, p.bind.mp fun ρ' F' H' a st' s f g' _ q vs r' => h ρ' F' H' a st' vs s f g' (ev.mono s f) r' q⟩
end

/-! ### what an operator, a call is to keep -/
/-- two values: f over data, r over the heap -/
def Op2 (K : PySem.W.Frag) (f : D → D → Store → Res D) (r : R2) : Prop := ∀ {W : WX} {σ : St} {ρ : List Addr} {F G H : Hp} {st : Store} {x y : D} {u v : V} {Q : VK}, Good K ρ F G H st → RD K ρ F x u → RD K ρ F y v →
  Pst K W ρ F G σ (f x y st) (fun ρ' F' H' d _ => ∀ w, RD K ρ' F' d w → Q w H') → r u v H Q
def Op2L (K : PySem.W.Frag) (f : D → D → Store → Res (List D)) (r : R2) : Prop := ∀ {W : WX} {σ : St} {ρ : List Addr} {F G H : Hp} {st : Store} {x y : D} {u v : V} {Q : VK}, Good K ρ F G H st → RD K ρ F x u → RD K ρ F y v →
  Pst K W ρ F G σ (f x y st) (fun ρ' F' H' ds _ => ∀ vs p, RDs K ρ' F' ds vs → H' p = none → vs.length ≤ cap → Q (.ref p) (upd H' p (.lst vs))) → r u v H Q
def Un1 (K : PySem.W.Frag) (f : D → Store → Res D) (r : V → Hp → VK → Prop) : Prop := ∀ {W : WX} {σ : St} {ρ : List Addr} {F G H : Hp} {st : Store} {x : D} {u : V} {Q : VK}, Good K ρ F G H st → RD K ρ F x u →
  Pst K W ρ F G σ (f x st) (fun ρ' F' H' d _ => ∀ w, RD K ρ' F' d w → Q w H') → r u H Q
def CallS (K : PySem.W.Frag) (f : List D → Store → Res D) (r : List V → Hp → VK → Prop) : Prop := ∀ {W : WX} {σ : St} {ρ : List Addr} {F G H : Hp} {st : Store} {xs : List D} {us : List V} {Q : VK}, Good K ρ F G H st → RDs K ρ F xs us →
  Pst K W ρ F G σ (f xs st) (fun ρ' F' H' d _ => ∀ w, RD K ρ' F' d w → Q w H') → r us H Q
def CallL (K : PySem.W.Frag) (f : List D → Store → Res (List D)) (r : List V → Hp → VK → Prop) : Prop := ∀ {W : WX} {σ : St} {ρ : List Addr} {F G H : Hp} {st : Store} {xs : List D} {us : List V} {Q : VK}, Good K ρ F G H st → RDs K ρ F xs us →
  Pst K W ρ F G σ (f xs st) (fun ρ' F' H' ds _ => ∀ vs p, RDs K ρ' F' ds vs → H' p = none → vs.length ≤ cap → Q (.ref p) (upd H' p (.lst vs))) → r us H Q
def MtS (K : PySem.W.Frag) (f : D → List D → Store → Res D) (T : String) (r : V → List V → Hp → VK → Prop) : Prop := ∀ {W : WX} {σ : St} {ρ : List Addr} {F G H : Hp} {st : Store} {x : D} {xs : List D} {u : V} {us : List V} {Q : VK}, Good K ρ F G H st → RD K ρ F x u → RDs K ρ F xs us →
  Pst K W ρ F G σ (f x xs st) (fun ρ' F' H' d _ => ∀ w, RD K ρ' F' d w → Q w H') → r u us H Q

section
variable {X : Cx} {W : WX} {a b : Expr} {es : List Expr} {pos : Pos} {ra rb rc : RE} {ta tb : RT} {aa : RA}

/-! ### expressions -/
theorem x_var (i : Nat) {x : Str} (hN : X.N[i]? = some x := by rfl) (hv : Vis X.env.scope x := by first | exact Or.inl rfl | exact Or.inr (Or.inl rfl) | exact Or.inr (Or.inr rfl)) (hd : (x == ("__debug__" : Str)) = false := by decide)
    (hcd : (x == ("__classdict__" : Str)) = false := by decide) : PE X (.Name x pos) (toTE X.K W (rVar i)) :=
  PE.imp (pe_var (i := i) hN hv hd hcd) fun σ H Q ⟨ρ, F, G, e, st, g, ev, p⟩ => by
    unfold rVar at p
    cases h : e[i]? with
    | none => rw [h] at p; exact p.elim
    | some o =>
      cases o with
      | none => rw [h] at p; exact p.elim
      | some d =>
        rw [h] at p
        obtain ⟨v, h1, h2⟩ := ev.2 i d h
        exact ⟨v, h1, p.now g v h2⟩
theorem x_c {e : Expr} {v : V} {d : D} (h : PE X e (tC v)) (r : ∀ ρ F, RD X.K ρ F d v) : PE X e (toTE X.K W (rC d)) :=
  PE.imp h fun σ H Q ⟨ρ, F, G, e, st, g, ev, p⟩ => p.now g v (r ρ F)
theorem x_int {i : Int} {j : Nat} : PE X (.Constant (.int i) j pos) (toTE X.K W (rC (.int i))) := x_c pe_int fun _ _ => .int i
theorem x_bl {b : Bool} {j : Nat} : PE X (.Constant (.bool b) j pos) (toTE X.K W (rC (.bl b))) := x_c pe_bl fun _ _ => .bl b
theorem x_non {j : Nat} : PE X (.Constant .none j pos) (toTE X.K W (rC .non)) := x_c pe_non fun _ _ => .non
theorem x_str {x : Str} {j : Nat} (h : (PyData.strOk x && Nat.ble x.length cap) = true := by decide +kernel) : PE X (.Constant (.str x) j pos) (toTE X.K W (rC (.str x))) :=
  x_c pe_str fun _ _ => .str x (Bool.and_eq_true_iff.mp h).1 (Nat.le_of_ble_eq_true (Bool.and_eq_true_iff.mp h).2)
theorem x_op {op : Operator} {f : D → D → Store → Res D} {r : R2} (ho : OpR X (binaryOp op) r) (s : Op2 X.K f r) (ha : PE X a (toTE X.K W ra)) (hb : PE X b (toTE X.K W rb)) : PE X (.BinOp a op b pos) (toTE X.K W (rBin f ra rb)) :=
  PE.imp (pe_op ho ha hb) fun σ H Q ⟨ρ, F, G, e, st, g, ev, p⟩ => te_bind g ev p fun ρ1 F1 H1 d st1 v _ _ g1 ev1 r1 p1 => te_bind g1 ev1 p1 fun ρ2 F2 H2 d2 st2 v2 s2 f2 g2 ev2 r2 p2 => s g2 (r1.mono s2 f2) r2 p2
theorem x_cmp {op : CmpOp} {f : D → D → Store → Res D} {r : R2} (ho : OpR X (compareOp op) r) (s : Op2 X.K f r) (hm : behindInMarks op b = false) (ha : PE X a (toTE X.K W ra)) (hb : PE X b (toTE X.K W rb)) : PE X (.Compare a [op] [b] pos) (toTE X.K W (rBin f ra rb)) :=
  PE.imp (pe_cmpR ho ha hb hm) fun σ H Q ⟨ρ, F, G, e, st, g, ev, p⟩ => te_bind g ev p fun ρ1 F1 H1 d st1 v _ _ g1 ev1 r1 p1 => te_bind g1 ev1 p1 fun ρ2 F2 H2 d2 st2 v2 s2 f2 g2 ev2 r2 p2 => s g2 (r1.mono s2 f2) r2 p2
theorem x_un {op : UnaryOp} {f : D → Store → Res D} {r : V → Hp → VK → Prop} (ho : UnR X (unaryOp op) r) (s : Un1 X.K f r) (ha : PE X a (toTE X.K W ra)) : PE X (.UnaryOp op a pos) (toTE X.K W (rUn f ra)) :=
  PE.imp (pe_un ho ha) fun σ H Q ⟨ρ, F, G, e, st, g, ev, p⟩ => te_bind g ev p fun ρ1 F1 H1 d st1 v _ _ g1 ev1 r1 p1 => s g1 r1 p1
theorem x_ix {f : D → D → Store → Res D} {r : R2} (ho : IxR X r) (s : Op2 X.K f r) (hs : PlainIx b) (ha : PE X a (toTE X.K W ra)) (hb : PE X b (toTE X.K W rb)) : PE X (.Subscript a b pos) (toTE X.K W (rBin f ra rb)) :=
  PE.imp (pe_ix ho ha hb hs) fun σ H Q ⟨ρ, F, G, e, st, g, ev, p⟩ => te_bind g ev p fun ρ1 F1 H1 d st1 v _ _ g1 ev1 r1 p1 => te_bind g1 ev1 p1 fun ρ2 F2 H2 d2 st2 v2 s2 f2 g2 ev2 r2 p2 => s g2 (r1.mono s2 f2) r2 p2

/-! arguments -/
theorem a_nil : PA X [] (toTA X.K W aNil) := PA.imp pa_nil fun σ H Q ⟨ρ, F, G, e, st, g, ev, p⟩ => p.now g [] .nil
theorem a_cons (ha : PE X a (toTE X.K W ra)) (hr : PA X es (toTA X.K W aa)) (hs : starEach (a :: es) X.env = (false, eval a X.env) :: starEach es X.env := by rfl) : PA X (a :: es) (toTA X.K W (aCons ra aa)) :=
  PA.imp (pa_cons ha hr hs) fun σ H Q ⟨ρ, F, G, e, st, g, ev, p⟩ => te_bind g ev p fun ρ1 F1 H1 d st1 v _ _ g1 ev1 r1 p1 => ta_bind g1 ev1 p1 fun ρ2 F2 H2 d2 st2 v2 s2 f2 g2 ev2 r2 p2 => p2.now g2 _ (.cons (r1.mono s2 f2) r2)
theorem x_tup {x1 : Nat} (h : PA X es (toTA X.K W aa)) : PE X (.Tuple es x1 pos) (toTE X.K W (rTup aa)) :=
  PE.imp (pe_tup h) fun σ H Q ⟨ρ, F, G, e, st, g, ev, p⟩ => ta_bind g ev p fun ρ1 F1 H1 ds st1 vs _ _ g1 ev1 r1 p1 => by
    by_cases hl : ds.length ≤ cap
    · rw [if_pos hl] at p1
      refine ⟨by rw [cap_eq, ← r1.length]; exact hl, fun q hq => ?_⟩
      obtain ⟨g2, f2⟩ := g1.newF hq (.tup vs)
      exact p1.to (Sub.refl _) f2 g2 _ (.tup upd_same (by rw [← r1.length]; exact hl) (r1.mono (Sub.refl _) f2))
    · rw [if_neg hl] at p1; exact p1.elim
/-- a fresh list, frozen -/
theorem x_frz {ex : Expr} {r : RL} (h : PE X ex (toTL X.K W r)) : PE X ex (toTE X.K W (rFrz r)) :=
  PE.imp h fun σ H Q ⟨ρ, F, G, e, st, g, ev, p⟩ => ⟨ρ, F, G, e, st, g, ev, p.bind.mp fun ρ1 F1 H1 ds st1 s1 f1 g1 _ q vs a r1 ha hl => by
    obtain ⟨g2, f2⟩ := g1.newF ha (.lst vs)
    exact q.to (Sub.refl _) f2 g2 _ (.lst upd_same hl (r1.mono (Sub.refl _) f2))⟩
theorem x_new {ex : Expr} {r : RL} (h : PE X ex (toTL X.K W r)) : PE X ex (toTE X.K W (rNew r)) :=
  PE.imp h fun σ H Q ⟨ρ, F, G, e, st, g, ev, p⟩ => ⟨ρ, F, G, e, st, g, ev, p.bind.mp fun ρ1 F1 H1 ds st1 s1 f1 g1 _ q vs a r1 ha hl => by
    have g2 : Good X.K (ρ1 ++ [a]) F1 G (upd H1 a (.lst vs)) (st1 ++ [.lst ds]) := g1.newO ha ⟨g1.f.free ha, g1.g.free ha, vs, upd_same, hl, r1.mono (Sub.app _ _) (Same.refl _)⟩
    exact q.to (Sub.app _ _) (Same.refl _) g2 _ (.ref (by rw [← g1.len]; simp))⟩
theorem l_disp (h : PA X es (toTA X.K W aa)) : PE X (.List es pos) (toTL X.K W (lDisp aa)) :=
  PE.imp (pe_lst h) fun σ H Q ⟨ρ, F, G, e, st, g, ev, p⟩ => ta_bind g ev p fun ρ1 F1 H1 ds st1 vs _ _ g1 ev1 r1 p1 => by
    by_cases hl : ds.length ≤ cap
    · rw [if_pos hl] at p1
      have hl2 : vs.length ≤ cap := by rw [← r1.length]; exact hl
      exact ⟨by rw [cap_eq]; exact hl2, fun q hq => p1.now g1 vs q r1 hq hl2⟩
    · rw [if_neg hl] at p1; exact p1.elim
theorem l_op {op : Operator} {f : D → D → Store → Res (List D)} {r : R2} (ho : OpR X (binaryOp op) r) (s : Op2L X.K f r) (ha : PE X a (toTE X.K W ra)) (hb : PE X b (toTE X.K W rb)) : PE X (.BinOp a op b pos) (toTL X.K W (lBin f ra rb)) :=
  PE.imp (pe_op ho ha hb) fun σ H Q ⟨ρ, F, G, e, st, g, ev, p⟩ => te_bind g ev p fun ρ1 F1 H1 d st1 v _ _ g1 ev1 r1 p1 => te_bind g1 ev1 p1 fun ρ2 F2 H2 d2 st2 v2 s2 f2 g2 ev2 r2 p2 => s g2 (r1.mono s2 f2) r2 p2

/-! tests -/
theorem t_val {ex : Expr} {r : RE} (h : PE X ex (toTE X.K W r)) (he : ∀ whole, isTrue ex X.env whole = (do let v ← whole; standAt ex.pos; holding [v] (truthy v)) := by intro _; rfl) : PT X ex (toTT X.K W (tVal r)) :=
  PT.imp (pt_val h he) fun σ H Q ⟨ρ, F, G, e, st, g, ev, p⟩ => te_bind g ev p fun ρ1 F1 H1 d st1 v _ _ g1 ev1 r1 p1 => by
    cases r1 with
    | bl b => exact ⟨b, rfl, p1.now g1⟩
    | _ => exact p1.elim
theorem t_cmp {op : CmpOp} {f : D → D → Store → Res D} {r : R2} (ho : OpR X (compareOp op) r) (s : Op2 X.K f r) (hm : behindInMarks op b = false) (ha : PE X a (toTE X.K W ra)) (hb : PE X b (toTE X.K W rb)) : PT X (.Compare a [op] [b] pos) (toTT X.K W (tVal (rBin f ra rb))) :=
  PT.imp (pt_cmpR ho ha hb hm) fun σ H Q ⟨ρ, F, G, e, st, g, ev, p⟩ => by
    have p' := p
    unfold tVal rBin at p'
    simp only [Res.bind_assoc] at p'
    refine te_bind g ev p' fun ρ1 F1 H1 d st1 v _ _ g1 ev1 r1 p1 => te_bind g1 ev1 p1 fun ρ2 F2 H2 d2 st2 v2 s2 f2 g2 ev2 r2 p2 => ?_
    refine s (W := W) (σ := σ) g2 (r1.mono s2 f2) r2 (p2.bind.mp fun ρ3 F3 H3 d3 st3 s3 f3 g3 _ q w rw => ?_)
    cases rw with
    | bl b => exact ⟨b, rfl, q.now g3⟩
    | _ => exact q.elim
theorem t_and1 (ha : PT X a (toTT X.K W ta)) : PW X (.BoolOp .And [a] pos) (toTT X.K W ta) := pw_and1 ha
theorem t_or1 (ha : PT X a (toTT X.K W ta)) : PW X (.BoolOp .Or [a] pos) (toTT X.K W ta) := pw_or1 ha
theorem t_and {rest : List Expr} (ha : PT X a (toTT X.K W ta)) (hb : PW X (.BoolOp .And (b :: rest) pos) (toTT X.K W tb)) : PW X (.BoolOp .And (a :: b :: rest) pos) (toTT X.K W (tAnd ta tb)) :=
  PW.imp (pw_and ha hb) fun σ H Q ⟨ρ, F, G, e, st, g, ev, p⟩ => tt_bind g ev p fun ρ1 F1 H1 c st1 _ _ g1 ev1 p1 => by
    cases c with
    | true => rw [if_pos rfl]; rw [if_pos rfl] at p1; exact ⟨ρ1, F1, G, e, st1, g1, ev1, p1⟩
    | false => rw [if_neg Bool.false_ne_true]; rw [if_neg Bool.false_ne_true] at p1; exact p1.now g1
theorem t_or {rest : List Expr} (ha : PT X a (toTT X.K W ta)) (hb : PW X (.BoolOp .Or (b :: rest) pos) (toTT X.K W tb)) : PW X (.BoolOp .Or (a :: b :: rest) pos) (toTT X.K W (tOr ta tb)) :=
  PW.imp (pw_or ha hb) fun σ H Q ⟨ρ, F, G, e, st, g, ev, p⟩ => tt_bind g ev p fun ρ1 F1 H1 c st1 _ _ g1 ev1 p1 => by
    cases c with
    | true => rw [if_pos rfl]; rw [if_pos rfl] at p1; exact p1.now g1
    | false => rw [if_neg Bool.false_ne_true]; rw [if_neg Bool.false_ne_true] at p1; exact ⟨ρ1, F1, G, e, st1, g1, ev1, p1⟩
theorem t_not (ha : PT X a (toTT X.K W ta)) : PT X (.UnaryOp .Not a pos) (toTT X.K W (tNot ta)) :=
  PT.imp (pt_not ha) fun σ H Q ⟨ρ, F, G, e, st, g, ev, p⟩ => tt_bind g ev p fun ρ1 F1 H1 c st1 _ _ g1 ev1 p1 => p1.now g1
theorem x_one {op : BoolOp} (h : PE X a (toTE X.K W ra)) : PE X (.BoolOp op [a] pos) (toTE X.K W ra) := pe_one h
theorem x_and {rest : List Expr} (ha : PE X a (toTE X.K W ra)) (hb : PE X (.BoolOp .And (b :: rest) pos) (toTE X.K W rb)) : PE X (.BoolOp .And (a :: b :: rest) pos) (toTE X.K W (rAndV ra rb)) :=
  PE.imp (pe_and ha hb) fun σ H Q ⟨ρ, F, G, e, st, g, ev, p⟩ => te_bind g ev p fun ρ1 F1 H1 d st1 v _ _ g1 ev1 r1 p1 => by
    cases r1 with
    | bl c =>
      refine ⟨c, rfl, ?_⟩
      cases c with
      | true => rw [if_pos rfl]; simp only [if_true] at p1; exact ⟨ρ1, F1, G, e, st1, g1, ev1, p1⟩
      | false => rw [if_neg Bool.false_ne_true]; exact p1.now g1 _ (.bl false)
    | _ => exact p1.elim
theorem x_or {rest : List Expr} (ha : PE X a (toTE X.K W ra)) (hb : PE X (.BoolOp .Or (b :: rest) pos) (toTE X.K W rb)) : PE X (.BoolOp .Or (a :: b :: rest) pos) (toTE X.K W (rOrV ra rb)) :=
  PE.imp (pe_or ha hb) fun σ H Q ⟨ρ, F, G, e, st, g, ev, p⟩ => te_bind g ev p fun ρ1 F1 H1 d st1 v _ _ g1 ev1 r1 p1 => by
    cases r1 with
    | bl c =>
      refine ⟨c, rfl, ?_⟩
      cases c with
      | true => rw [if_pos rfl]; exact p1.now g1 _ (.bl true)
      | false => rw [if_neg Bool.false_ne_true]; simp only [Bool.false_eq_true, if_false] at p1; exact ⟨ρ1, F1, G, e, st1, g1, ev1, p1⟩
    | _ => exact p1.elim
theorem x_not (ha : PE X a (toTE X.K W ra)) : PE X (.UnaryOp .Not a pos) (toTE X.K W (rNotV ra)) :=
  PE.imp (pe_not ha) fun σ H Q ⟨ρ, F, G, e, st, g, ev, p⟩ => te_bind g ev p fun ρ1 F1 H1 d st1 v _ _ g1 ev1 r1 p1 => by
    cases r1 with
    | bl c => exact ⟨c, rfl, p1.now g1 _ (.bl _)⟩
    | _ => exact p1.elim
/-- a or b by truth -/
theorem x_orT {rest : List Expr} (ha : PE X a (toTE X.K W ra)) (hb : PE X (.BoolOp .Or (b :: rest) pos) (toTE X.K W rb)) : PE X (.BoolOp .Or (a :: b :: rest) pos) (toTE X.K W (rOrT ra rb)) :=
  PE.imp (pe_orT ha hb) fun σ H Q ⟨ρ, F, G, e, st, g, ev, p⟩ => te_bind g ev p fun ρ1 F1 H1 d st1 v _ _ g1 ev1 r1 p1 => by
    cases r1 with
    | non => exact ⟨false, rfl, by rw [if_neg Bool.false_ne_true]; exact ⟨ρ1, F1, G, e, st1, g1, ev1, p1⟩⟩
    | str z h1 h2 =>
      dsimp only at p1
      by_cases hz : z.length = 0
      · rw [if_pos hz] at p1
        exact ⟨false, ⟨by rw [cap_eq]; exact h2, by simp [hz]⟩, by rw [if_neg Bool.false_ne_true]; exact ⟨ρ1, F1, G, e, st1, g1, ev1, p1⟩⟩
      · rw [if_neg hz] at p1
        exact ⟨true, ⟨by rw [cap_eq]; exact h2, by simp [hz]⟩, by rw [if_pos rfl]; exact p1.now g1 _ (.str z h1 h2)⟩
    | _ => exact p1.elim
theorem x_chain {c : Expr} {op op' : CmpOp} {f f' : D → D → Store → Res D} {r r' : R2} (ho : OpR X (compareOp op) r) (s : Op2 X.K f r) (ho' : OpR X (compareOp op') r') (s' : Op2 X.K f' r')
    (ha : PE X a (toTE X.K W ra)) (hb : PE X b (toTE X.K W rb)) (hc : PE X c (toTE X.K W rc)) (hm : lastMarks [op, op'] [b, c] = false := by with_unfolding_all rfl) : PE X (.Compare a [op, op'] [b, c] pos) (toTE X.K W (rChain f f' ra rb rc)) :=
  PE.imp (pe_chain ho ho' ha hb hc (hm := hm)) fun σ H Q ⟨ρ, F, G, e, st, g, ev, p⟩ => te_bind g ev p fun ρ1 F1 H1 d st1 v _ _ g1 ev1 r1 p1 => te_bind g1 ev1 p1 fun ρ2 F2 H2 d2 st2 v2 s2 f2 g2 ev2 r2 p2 =>
    s g2 (r1.mono s2 f2) r2 (p2.bind.mp fun ρ3 F3 H3 d3 st3 s3 f3 g3 _ q w rw => by
      cases rw with
      | bl k =>
        refine ⟨k, rfl, ?_⟩
        cases k with
        | true =>
          rw [if_pos rfl]
          simp only [if_true] at q
          exact te_bind g3 (ev2.mono s3 f3) q fun ρ4 F4 H4 d4 st4 v4 s4 f4 g4 ev4 r4 p4 => s' g4 ((r2.mono s3 f3).mono s4 f4) r4 p4
        | false => rw [if_neg Bool.false_ne_true]; exact q.now g3 _ (.bl false)
      | _ => exact q.elim)
end
end Py

set_option Elab.async false
set_option linter.all false
set_option maxRecDepth 100000
set_option maxHeartbeats 1000000
set_option autoImplicit false
namespace Py
open PySem PySem.Spec L2

section
variable {X : Cx} {W : WX} {s : Stmt} {ss : List Stmt} {ex : Expr} {pos : Pos} {r : RE} {ra rb : RS} {t : RT} {K : PySem.W.Frag} {ρ ρ' : List Addr} {F F' G H H' : Hp} {σ : St} {e : Env} {st st' : Store}
theorem Sst.weak {q : SR} {E : Ends} (p : Sst K W ρ F G q E) (s : Sub ρ ρ') (f : Same F F') : Sst K W ρ' F' G q E := by
  cases q with
  | nx e st => exact fun r' f' h' σ' s' sf g => p r' f' h' σ' (s.trans s') (f.trans sf) g
  | rt d st => exact fun r' f' h' σ' s' sf g => p r' f' h' σ' (s.trans s') (f.trans sf) g
  | exn C e st => exact fun r' f' h' σ' s' sf g => p r' f' h' σ' (s.trans s') (f.trans sf) g
  | bad => exact p
/-- a statement that begins with an expression -/
theorem ts_of {k : D → Env → Store → SR} {E : Ends} {T : V → Hp → Prop} (g : Good K ρ F G H st) (ev : EnvR K ρ F e σ) (p : Sst K W ρ F G (sOf r k e st) E)
    (h : ∀ (ρ1 : List Addr) (F1 H1 : Hp) (d : D) (st1 : Store) (v : V), Sub ρ ρ1 → Same F F1 → Good K ρ1 F1 G H1 st1 → EnvR K ρ1 F1 e σ → RD K ρ1 F1 d v → Sst K W ρ1 F1 G (k d e st1) E → T v H1) : toTE K W r σ H T := by
  refine ⟨ρ, F, G, e, st, g, ev, ?_⟩
  unfold sOf at p
  cases q : r e st with
  | ok d st1 =>
    rw [q] at p
    exact fun ρ1 F1 H1 s1 f1 g1 v rv => h ρ1 F1 H1 d st1 v s1 f1 g1 (ev.mono s1 f1) rv (Sst.weak p s1 f1)
  | exn C st1 =>
    rw [q] at p
    exact fun ρ1 F1 H1 s1 f1 g1 => p ρ1 F1 H1 σ s1 f1 g1 (ev.mono s1 f1)
  | bad => rw [q] at p; exact p
theorem ss_nil : PSs X [] (toTS X.K W sNx) := PSs.imp pss_nil fun E σ H ⟨ρ, F, G, e, st, g, ev, p⟩ => p ρ F H σ (Sub.refl _) (Same.refl _) g ev
theorem ss_cons (h1 : PS X s (toTS X.K W ra)) (h2 : PSs X ss (toTS X.K W rb)) : PSs X (s :: ss) (toTS X.K W (sSeq ra rb)) :=
  PSs.imp (pss_cons h1 h2) fun E σ H ⟨ρ, F, G, e, st, g, ev, p⟩ => by
    refine ⟨ρ, F, G, e, st, g, ev, ?_⟩
    unfold sSeq at p
    cases q : ra e st with
    | nx e1 st1 => rw [q] at p; exact fun ρ1 F1 H1 σ1 s1 f1 g1 ev1 => ⟨ρ1, F1, G, e1, st1, g1, ev1, Sst.weak p s1 f1⟩
    | rt d st1 => rw [q] at p; exact p
    | exn C e1 st1 => rw [q] at p; exact p
    | bad => rw [q] at p; exact p
theorem ss_one (h1 : PS X s (toTS X.K W ra)) : PSs X [s] (toTS X.K W ra) := pss_one h1
theorem s_pass : PS X (.Pass pos) (toTS X.K W sNx) := PS.imp ps_pass fun E σ H ⟨ρ, F, G, e, st, g, ev, p⟩ => p ρ F H σ (Sub.refl _) (Same.refl _) g ev
theorem s_expr (h : PE X ex (toTE X.K W r)) (hs : swapsWith ex none pos.line X.env = pure false := by rfl) : PS X (.Expr ex pos) (toTS X.K W (sExpr r)) :=
  PS.imp (ps_expr h hs) fun E σ H ⟨ρ, F, G, e, st, g, ev, p⟩ => ts_of g ev p fun ρ1 F1 H1 d st1 v _ _ g1 ev1 r1 p1 => p1 ρ1 F1 H1 σ (Sub.refl _) (Same.refl _) g1 ev1
theorem s_ret (h : PE X ex (toTE X.K W r)) : PS X (.Return (some ex) pos) (toTS X.K W (sRet r)) :=
  PS.imp (ps_ret h) fun E σ H ⟨ρ, F, G, e, st, g, ev, p⟩ => ts_of g ev p fun ρ1 F1 H1 d st1 v _ _ g1 ev1 r1 p1 => p1 ρ1 F1 H1 v (Sub.refl _) (Same.refl _) g1 r1
theorem s_retN : PS X (.Return none pos) (toTS X.K W sRetN) :=
  PS.imp ps_retN fun E σ H ⟨ρ, F, G, e, st, g, ev, p⟩ => p ρ F H .non (Sub.refl _) (Same.refl _) g .non
theorem s_set (i : Nat) {x : Str} {pos' : Pos} (hN : X.N.Nodup) (h : PE X ex (toTE X.K W r)) (hi : X.N[i]? = some x := by rfl) (hx : Loc X.env.scope x := by first | exact Or.inl rfl | exact Or.inr rfl) (hs : swapsWith ex (some (.Name x pos')) pos.line X.env = pure false := by rfl)
    (hf : X.fn x = true ∨ X.env.scope.names.lookup x = some .local := by first | exact .inl rfl | exact .inr rfl | assumption) : PS X (.Assign [.Name x pos'] ex pos) (toTS X.K W (sSet i r)) :=
  PS.imp (ps_set (i := i) hN hi hx h hs hf) fun E σ H ⟨ρ, F, G, e, st, g, ev, p⟩ => ts_of g ev p fun ρ1 F1 H1 d st1 v _ _ g1 ev1 r1 p1 => p1 ρ1 F1 H1 _ (Sub.refl _) (Same.refl _) g1 (ev1.set r1)
theorem s_if {c : Expr} {a b : List Stmt} (hc : PT X c (toTT X.K W t)) (ha : PSs X a (toTS X.K W ra)) (hb : PSs X b (toTS X.K W rb)) : PS X (.If c a b pos) (toTS X.K W (sIf t ra rb)) :=
  PS.imp (ps_if hc ha hb) fun E σ H ⟨ρ, F, G, e, st, g, ev, p⟩ => by
    refine ⟨ρ, F, G, e, st, g, ev, ?_⟩
    unfold sIf at p
    cases q : t e st with
    | ok c st1 =>
      rw [q] at p
      intro ρ1 F1 H1 s1 f1 g1
      cases c with
      | true => rw [if_pos rfl]; exact ⟨ρ1, F1, G, e, st1, g1, ev.mono s1 f1, Sst.weak p s1 f1⟩
      | false => rw [if_neg Bool.false_ne_true]; exact ⟨ρ1, F1, G, e, st1, g1, ev.mono s1 f1, Sst.weak p s1 f1⟩
    | exn C st1 => rw [q] at p; exact fun ρ1 F1 H1 s1 f1 g1 => p ρ1 F1 H1 σ s1 f1 g1 (ev.mono s1 f1)
    | bad => rw [q] at p; exact p
end

/-! ### targets -/
/-- a target keeps to its run; cm: tuples want it -/
def Wpd (is : List Nat) (σ σ' : St) : Prop := ∀ vs : List Nat, (∀ i ∈ is, i ∈ vs) → L2.wipe σ' vs = L2.wipe σ vs
def TgS (K : PySem.W.Frag) (g : TGt) (t : TG) (is : List Nat) : Prop := ∀ {ρ : List Addr} {F H : Hp} {e e' : Env} {σ : St} {d : D} {v : V} {Q : St → Hp → Prop}, Same F H → EnvR K ρ F e σ → RD K ρ F d v → g d e = some e' → (∀ σ', EnvR K ρ F e' σ' → Wpd is σ σ' → Q σ' H) → t v σ H Q
def TgsS (K : PySem.W.Frag) (gs : List TGt) (t : TGs) (is : List Nat) : Prop := ∀ {ρ : List Addr} {F H : Hp} {e e' : Env} {σ : St} {ds : List D} {vs : List V} {Q : St → Hp → Prop}, Same F H → EnvR K ρ F e σ → RDs K ρ F ds vs → gAll gs ds e = some e' → (∀ σ', EnvR K ρ F e' σ' → Wpd is σ σ' → Q σ' H) → t vs σ H Q
theorem wipe_set {σ : St} {i : Nat} {o : Option V} : ∀ {vs : List Nat}, i ∈ vs → L2.wipe (σ.set i o) vs = L2.wipe σ vs
  | [], h => by cases h
  | v :: vs, h => by
    unfold L2.wipe
    by_cases hv : i ∈ vs
    · rw [wipe_set hv]
    · have e : i = v := by
        cases h with
        | head => rfl
        | tail _ h => exact absurd h hv
      subst e
      have go : ∀ (vs : List Nat), i ∉ vs → (L2.wipe (σ.set i o) vs) = (L2.wipe σ vs).set i o := by
        intro vs
        induction vs with
        | nil => intro _; rfl
        | cons w vs ih =>
          intro hn
          unfold L2.wipe
          rw [ih (fun q => hn (List.mem_cons_of_mem _ q)), List.set_comm _ _ (fun q => hn (by rw [q]; exact List.mem_cons_self))]
      rw [go vs hv, List.set_set]
theorem wipe_idem (σ : St) : ∀ (ws vs : List Nat), (∀ i ∈ ws, i ∈ vs) → L2.wipe (L2.wipe σ ws) vs = L2.wipe σ vs
  | [], _, _ => rfl
  | w :: ws, vs, h => by
    show L2.wipe ((L2.wipe σ ws).set w none) vs = _
    rw [wipe_set (h w List.mem_cons_self), wipe_idem σ ws vs fun i hi => h i (List.mem_cons_of_mem _ hi)]
section
variable {X : Cx} {W : WX} {pos : Pos} {K : PySem.W.Frag}
theorem tg_name (i : Nat) : TgS K (gName i) (L2.gName i) [i] := fun _ ev r h q => by
  cases h
  exact q _ (ev.set r) fun vs hv => wipe_set (hv i List.mem_cons_self)
theorem tgs_nil : TgsS K [] L2.gNil [] := fun {ρ F H e e' σ ds vs Q} _ ev r h q => by
  cases r with
  | nil => cases h; exact ⟨rfl, q _ ev fun _ _ => rfl⟩
  | cons _ _ => cases h
theorem tgs_cons {g : TGt} {gs : List TGt} {t : TG} {u : TGs} {is js : List Nat} (h1 : TgS K g t is) (h2 : TgsS K gs u js) : TgsS K (g :: gs) (L2.gCons t u) (is ++ js) := fun {ρ F H e e' σ ds vs Q} f ev r h q => by
  cases r with
  | nil => cases h
  | cons rd rr =>
    unfold gAll at h
    obtain ⟨e1, a1, a2⟩ := Option.bind_eq_some_iff.mp h
    exact ⟨_, _, rfl, h1 f ev rd a1 fun σ' ev' w1 => h2 f ev' rr a2 fun σ2 ev2 w2 => q σ2 ev2 fun vs hv => (w2 vs fun i hi => hv i (List.mem_append_right _ hi)).trans (w1 vs fun i hi => hv i (List.mem_append_left _ hi))⟩
theorem tg_tup {gs : List TGt} {n : Nat} {t : TGs} {is : List Nat} (h : TgsS K gs t is) (hn : gs.length = n := by rfl) : TgS K (gTup gs) (L2.gTup K n t) is := fun {ρ F H e e' σ d v Q} f ev r hh q => by
  cases r with
  | tup hf hl rs =>
    have hh : gAll gs _ e = some e' := hh
    refine ⟨_, _, rfl, SqT.of (f _ _ hf), ?_, h f ev rs hh q⟩
    rw [← rs.length, ← hn]
    have : ∀ (gs : List TGt) (ds : List D) (e e' : Env), gAll gs ds e = some e' → ds.length = gs.length := by
      intro gs
      induction gs with
      | nil => intro ds e e' q; cases ds with
        | nil => rfl
        | cons _ _ => cases q
      | cons g gs ih => intro ds e e' q; cases ds with
        | nil => cases q
        | cons d ds =>
          unfold gAll at q
          obtain ⟨e1, a1, a2⟩ := Option.bind_eq_some_iff.mp q
          simp [ih _ _ _ a2]
    exact this _ _ _ _ hh
  | _ => cases hh
/-- g = r -/
theorem s_tgt {tg ex : Expr} {g : TGt} {t : TG} {r : RE} (he : PE X ex (toTE X.K W r)) {is : List Nat} (hg : PG X tg t) (hs : TgS X.K g t is) (h1 : swapsWithSole [tg] ex pos.line X.env = pure false := by rfl) (hw : swappedStores [tg] ex X.env = pure none := by rfl)
    (h2 : (assignEach [tg] X.env).map (·.2) = [assign tg X.env] := by rfl) : PS X (.Assign [tg] ex pos) (toTS X.K W (sTgt g r)) :=
  PS.imp (ps_asg he hg h1 hw h2) fun E σ H ⟨ρ, F, G, e, st, g', ev, p⟩ => ts_of g' ev p fun ρ1 F1 H1 d st1 v _ _ g1 ev1 r1 p1 => by
    cases q : g d e with
    | none => rw [q] at p1; exact p1.elim
    | some e1 =>
      rw [q] at p1
      exact hs g1.f ev1 r1 q fun σ' ev' _ => p1 ρ1 F1 H1 σ' (Sub.refl _) (Same.refl _) g1 ev'
end

/-! ### what is walked: by the turn, what is handed out -/
/-- the iterator J, asked turn by turn over a state in which F1 stands, gives out the items xs -/
structure ItS (K : PySem.W.Frag) (ρ : List Addr) (F : Hp) (J : It) (xs : List D) : Prop where
  len : xs.length ≤ cap
  go : ∀ (i : Nat) (d : D) (ρ' : List Addr) (F' G' H' : Hp) (st' : Store), Sub ρ ρ' → Same F F' → Good K ρ' F' G' H' st' → xs[i]? = some d → J.go i H' ∧ ∀ x H2, J.yld i H' x H2 → ∃ F2, Same F' F2 ∧ Good K ρ' F2 G' H2 st' ∧ RD K ρ' F2 d x
  stop : ∀ (ρ' : List Addr) (F' G' H' : Hp) (st' : Store), Sub ρ ρ' → Same F F' → Good K ρ' F' G' H' st' → J.stop xs.length H'
def toTI (K : PySem.W.Frag) (W : WX) (r : RI) : TI := fun σ H R => ∃ (ρ : List Addr) (F G : Hp) (e : Env) (st : Store), Good K ρ F G H st ∧ EnvR K ρ F e σ ∧ Pst K W ρ F G σ (r e st) (fun ρ' F' H' xs st' => ∀ J, ItS K ρ' F' J xs → R J H')
section
variable {X : Cx} {W : WX} {tg iter : Expr} {pos : Pos} {K : PySem.W.Frag}
theorem PI.imp {t t' : TI} (h : PI X tg iter t) (i : ∀ σ H R, t' σ H R → t σ H R) : PI X tg iter t' := ⟨fun pins s σ H R I q => h.run pins s σ H R I (i σ H R q)⟩
/- cutting the store back -/
mutual
theorem RD.cut {n : Nat} {ρ ρ' : List Addr} {F : Hp} (hs : ∀ (i : Nat) (a : Addr), ρ[i]? = some a → i < n → ρ'[i]? = some a) : ∀ (d : D) (v : V), bel n d = true → RD K ρ F d v → RD K ρ' F d v := fun d v b h => match d, v, h, b with
  | _, _, .ref h, b => .ref (hs _ _ h (by simpa using b))
  | _, _, .tup h l r, b => .tup h l (RDs.cut hs _ _ (by simpa using b) r)
  | _, _, .lst h l r, b => .lst h l (RDs.cut hs _ _ (by simpa using b) r)
  | _, _, .non, _ => .non
  | _, _, .bl x, _ => .bl x
  | _, _, .int x, _ => .int x
  | _, _, .str x h1 h2, _ => .str x h1 h2
  | _, _, .ty x, _ => .ty x
  | _, _, .raw x, _ => .raw x
  | _, _, .glo x, _ => .glo x
  | _, _, .ktup h r, _ => .ktup h r
  | _, _, .scr h l, _ => .scr h l
theorem RDs.cut {n : Nat} {ρ ρ' : List Addr} {F : Hp} (hs : ∀ (i : Nat) (a : Addr), ρ[i]? = some a → i < n → ρ'[i]? = some a) : ∀ (ds : List D) (vs : List V), ds.all (bel n) = true → RDs K ρ F ds vs → RDs K ρ' F ds vs
  | _, _, _, .nil => .nil
  | _, _, b, .cons h t => .cons (RD.cut hs _ _ (by simp only [List.all_cons, Bool.and_eq_true] at b; exact b.1) h) (RDs.cut hs _ _ (by simp only [List.all_cons, Bool.and_eq_true] at b; exact b.2) t)
end
theorem all_map2 {κ : Type} (f : D → Bool) : ∀ l : List (κ × D), (l.all fun p => f p.2) = (l.map (·.2)).all f
  | [] => rfl
  | p :: r => by simp only [List.all_cons, List.map_cons, all_map2 f r]
theorem OOk.cut {n : Nat} {ρ ρ' : List Addr} {F G H : Hp} (hs : ∀ (i : Nat) (a : Addr), ρ[i]? = some a → i < n → ρ'[i]? = some a) {a : Addr} {o : O} (b : belowO n o = true) (h : OOk K ρ F G H a o) : OOk K ρ' F G H a o := by
  cases o with
  | lst ds => obtain ⟨h1, h2, xs, h3, h4, h5⟩ := h; exact ⟨h1, h2, xs, h3, h4, RDs.cut hs _ _ b h5⟩
  | dK ds => obtain ⟨h1, h2, xs, h3, h4, h5, h6⟩ := h; exact ⟨h1, h2, xs, h3, h4, h5, RDs.cut hs _ _ (by rw [← all_map2]; exact b) h6.1, h6.2⟩
  | dT ds => obtain ⟨h1, h2, xs, h3, h4, h5, h6⟩ := h; exact ⟨h1, h2, xs, h3, h4, h5, RDs.cut hs _ _ (by rw [← all_map2]; exact b) h6.1, h6.2⟩
  | ins C fs => obtain ⟨h1, h2, dx, ys, h3, h4, h5⟩ := h; exact ⟨h1, h2, dx, ys, h3, h4, RDs.cut hs _ _ (by rw [← all_map2]; exact b) h5⟩
  | fz d => obtain ⟨u, h2⟩ := h; exact ⟨u, RD.cut hs d _ b h2⟩
/-- behind a turn -/
theorem Good.gc {ρ : List Addr} {F G H : Hp} {st st' : Store} {n : Nat} {e e' : Env} {σ : St} (g : Good K ρ F G H st) (ev : EnvR K ρ F e σ) (h : Py.gc n e st = some (e', st')) : Good K (ρ.take n) F G H st' ∧ EnvR K (ρ.take n) F e' σ ∧ st'.length = n := by
  unfold Py.gc at h
  by_cases hl : st.length = n
  · rw [if_pos hl] at h
    cases h
    have : ρ.take n = ρ := List.take_of_length_le (by rw [g.len, hl]; exact Nat.le_refl _)
    rw [this]
    exact ⟨g, ev, hl⟩
  · rw [if_neg hl] at h
    split at h
    · rename_i hb
      cases h
      have hs : ∀ (i : Nat) (a : Addr), ρ[i]? = some a → i < n → (ρ.take n)[i]? = some a := fun i a q hi => by rw [List.getElem?_take_of_lt hi]; exact q
      have up : ∀ (i : Nat) (a : Addr), (ρ.take n)[i]? = some a → ρ[i]? = some a := fun i a q => by
        have hi : i < n := by have := (List.getElem?_eq_some_iff.mp q).1; simp at this; omega
        rw [List.getElem?_take_of_lt hi] at q; exact q
      refine ⟨⟨g.f, g.g, g.fg, by simp [g.len], fun i j a h1 h2 => g.nd i j a (up i a h1) (up j a h2), fun i a o h1 h2 => ?_⟩, ⟨?_, fun i d q => ?_⟩, by rw [List.length_take]; omega⟩
      · have hi : i < n := by have := (List.getElem?_eq_some_iff.mp h2).1; simp at this; omega
        have h2' : st[i]? = some o := by rw [List.getElem?_take_of_lt hi] at h2; exact h2
        exact OOk.cut hs (List.all_eq_true.mp hb.1 o (List.mem_of_getElem? h2)) (g.obj i a o (up i a h1) h2')
      · unfold cutE; rw [List.length_map]; exact ev.1
      · unfold cutE at q
        rw [List.getElem?_map] at q
        cases q1 : e[i]? with
        | none => rw [q1] at q; cases q
        | some o =>
          rw [q1] at q
          cases o with
          | none => cases q
          | some d' =>
            simp only [Option.map_some, Option.some.injEq] at q
            split at q
            · rename_i hbd
              cases q
              obtain ⟨v, a1, a2⟩ := ev.2 i d q1
              exact ⟨v, a1, RD.cut hs d v hbd a2⟩
            · cases q
    · cases h
theorem Sub.take {ρ ρ' : List Addr} {n : Nat} (s : Sub ρ ρ') (h : ρ.length ≤ n) : Sub ρ (ρ'.take n) := fun i a q => by
  have hi := (List.getElem?_eq_some_iff.mp q).1
  rw [List.getElem?_take_of_lt (by omega)]
  exact s i a q

/-! ### for -/
theorem s_for {body : List Stmt} {is : RI} {g : TGt} {t : TG} {sl : List Nat} {b : RS} (hp : PassesOwn (model X.prog X.w) X.A X.env X.xe) (hc : X.calm = true) (hi : PI X tg iter (toTI X.K W is)) (hg : PG X tg t) (hs : TgS X.K g t sl) (hb : PSs X body (toTS X.K W b))
    (hf : ∀ x, foldedSetIterable iter X.env x = pure x := by intro _; rfl) : PS X (.For tg iter body [] pos) (toTS X.K W (sFor is g b)) :=
  PS.imp (ps_for hp hc hi hg hb hf) fun E σ H ⟨ρ, F, G, e, st, gd, ev, p⟩ => by
    refine ⟨ρ, F, G, e, st, gd, ev, ?_⟩
    unfold sFor at p
    cases q : is e st with
    | exn C st1 => rw [q] at p; exact fun ρ1 F1 H1 s1 f1 g1 => p ρ1 F1 H1 σ s1 f1 g1 (ev.mono s1 f1)
    | bad => rw [q] at p; exact p
    | ok xs st0 =>
      rw [q] at p
      intro ρ0 F0 H0 s0 f0 g0 J hJ
      refine ⟨fun i m σ' H' => i ≤ xs.length ∧ m = xs.length - i ∧ ∃ (ρ1 : List Addr) (F1 : Hp) (e1 : Env) (st1 : Store), Sub ρ0 ρ1 ∧ Same F0 F1 ∧ Good X.K ρ1 F1 G H' st1 ∧ EnvR X.K ρ1 F1 e1 σ' ∧ st1.length = st0.length ∧ Sst X.K W ρ1 F1 G (forL st0.length g b (xs.drop i) e1 st1) E,
        ⟨xs.length, Nat.zero_le _, rfl, ρ0, F0, e, st0, Sub.refl _, Same.refl _, g0, ev.mono s0 f0, rfl, Sst.weak p s0 f0⟩, ?_⟩
      rintro i m σ' H' ⟨hi, rfl, ρ1, F1, e1, st1, s1, f1, g1, ev1, hl1, p1⟩
      by_cases hlt : i < xs.length
      · refine .inr ?_
        have hx : xs[i]? = some xs[i] := by simp [hlt]
        obtain ⟨jgo, jy⟩ := hJ.go i xs[i] ρ1 F1 G H' st1 s1 f1 g1 hx
        rw [List.drop_eq_getElem_cons hlt] at p1
        unfold forL at p1
        cases qg : g xs[i] e1 with
        | none => rw [qg] at p1; exact p1.elim
        | some e2 =>
          rw [qg] at p1
          refine ⟨jgo, fun σ2 H2 => i + 1 ≤ xs.length ∧ ∃ (ρ2 : List Addr) (F2 : Hp) (e2 : Env) (st2 : Store), Sub ρ0 ρ2 ∧ Same F0 F2 ∧ Good X.K ρ2 F2 G H2 st2 ∧ EnvR X.K ρ2 F2 e2 σ2 ∧ st2.length = st0.length ∧ Sst X.K W ρ2 F2 G (forL st0.length g b (xs.drop (i + 1)) e2 st2) E,
            fun σ2 H2 ⟨a1, a2⟩ => ⟨xs.length - (i + 1), by omega, a1, rfl, a2⟩, fun x H2 y => ?_⟩
          obtain ⟨F2, f2, g2, r2⟩ := jy x H2 y
          refine hs g2.f (ev1.mono (Sub.refl _) f2) r2 qg fun σ3 ev3 _ => ?_
          refine ⟨ρ1, F2, G, e2, st1, g2, ev3, ?_⟩
          dsimp only at p1
          cases qb : b e2 st1 with
          | rt d st3 => rw [qb] at p1; exact Sst.weak p1 (Sub.refl _) f2
          | exn C e3 st3 => rw [qb] at p1; exact Sst.weak p1 (Sub.refl _) f2
          | bad => rw [qb] at p1; exact p1
          | nx e3 st3 =>
            rw [qb] at p1
            dsimp only at p1
            intro ρ3 F3 H3 σ4 s3 f3 g3 ev4
            cases qc : gc st0.length e3 st3 with
            | none => rw [qc] at p1; exact p1.elim
            | some z =>
              obtain ⟨e4, st4⟩ := z
              rw [qc] at p1
              obtain ⟨g4, ev5, hl4⟩ := g3.gc ev4 qc
              have s4 : Sub ρ1 (ρ3.take st0.length) := s3.take (by rw [g1.len, hl1]; exact Nat.le_refl _)
              exact ⟨hlt, _, F3, e4, st4, s1.trans s4, (f1.trans f2).trans f3, g4, ev5, hl4, Sst.weak p1 s4 (f2.trans f3)⟩
      · have he : i = xs.length := by omega
        subst he
        rw [List.drop_length] at p1
        exact .inl ⟨hJ.stop ρ1 F1 G H' st1 s1 f1 g1, p1 ρ1 F1 H' σ' (Sub.refl _) (Same.refl _) g1 ev1⟩
theorem s_while {c : Expr} {body : List Stmt} {t : RT} {b : RS} (hp : PassesOwn (model X.prog X.w) X.A X.env X.xe) (hc : PT X c (toTT X.K W t)) (hb : PSs X body (toTS X.K W b)) : PS X (.While c body [] pos) (toTS X.K W (sWhile t b)) :=
  PS.imp (ps_while hp hc hb) fun E σ H ⟨ρ, F, G, e, st, gd, ev, p⟩ => by
    unfold sWhile at p
    refine ⟨fun m σ' H' => ∃ (ρ1 : List Addr) (F1 : Hp) (e1 : Env) (st1 : Store), Sub ρ ρ1 ∧ Same F F1 ∧ Good X.K ρ1 F1 G H' st1 ∧ EnvR X.K ρ1 F1 e1 σ' ∧ st1.length = st.length ∧ Sst X.K W ρ1 F1 G (whileL st.length t b m e1 st1) E,
      ⟨fuel, ρ, F, e, st, Sub.refl _, Same.refl _, gd, ev, rfl, p⟩, ?_⟩
    rintro m σ' H' ⟨ρ1, F1, e1, st1, s1, f1, g1, ev1, hl1, p1⟩
    cases m with
    | zero => exact p1.elim
    | succ m =>
      unfold whileL at p1
      refine ⟨ρ1, F1, G, e1, st1, g1, ev1, ?_⟩
      cases qt : t e1 st1 with
      | exn C st2 => rw [qt] at p1; exact fun ρ2 F2 H2 s2 f2 g2 => p1 ρ2 F2 H2 σ' s2 f2 g2 (ev1.mono s2 f2)
      | bad => rw [qt] at p1; exact p1
      | ok c st2 =>
        rw [qt] at p1
        intro ρ2 F2 H2 s2 f2 g2
        cases c with
        | false =>
          rw [if_neg Bool.false_ne_true]
          dsimp only at p1
          split at p1
          · exact p1 ρ2 F2 H2 σ' s2 f2 g2 (ev1.mono s2 f2)
          · exact p1.elim
        | true =>
          rw [if_pos rfl]
          dsimp only at p1
          refine ⟨fun σ3 H3 => ∃ (ρ3 : List Addr) (F3 : Hp) (e3 : Env) (st3 : Store), Sub ρ ρ3 ∧ Same F F3 ∧ Good X.K ρ3 F3 G H3 st3 ∧ EnvR X.K ρ3 F3 e3 σ3 ∧ st3.length = st.length ∧ Sst X.K W ρ3 F3 G (whileL st.length t b m e3 st3) E,
            fun σ3 H3 h => ⟨m, Nat.lt_succ_self _, h⟩, ρ2, F2, G, e1, st2, g2, ev1.mono s2 f2, ?_⟩
          cases qb : b e1 st2 with
          | rt d st3 => rw [qb] at p1; exact Sst.weak p1 s2 f2
          | exn C e3 st3 => rw [qb] at p1; exact Sst.weak p1 s2 f2
          | bad => rw [qb] at p1; exact p1
          | nx e3 st3 =>
            rw [qb] at p1
            dsimp only at p1
            intro ρ3 F3 H3 σ4 s3 f3 g3 ev4
            cases qc : gc st.length e3 st3 with
            | none => rw [qc] at p1; exact p1.elim
            | some z =>
              obtain ⟨e4, st4⟩ := z
              rw [qc] at p1
              obtain ⟨g4, ev5, hl4⟩ := g3.gc ev4 qc
              have s4 : Sub ρ1 (ρ3.take st.length) := (s2.trans s3).take (by rw [g1.len, hl1]; exact Nat.le_refl _)
              exact ⟨_, F3, e4, st4, s1.trans s4, (f1.trans f2).trans f3, g4, ev5, hl4, Sst.weak p1 s4 (f2.trans f3)⟩

/-! ### comprehensions -/
abbrev W0 : WX := fun _ _ _ _ => False
theorem Good.reG {ρ : List Addr} {F G G' H H' : Hp} {st : Store} {D : Addr} {u u' : HO} (g : Good K ρ F (upd G D u) H st) (hD : G D = none) (nu : ∀ xs, u ≠ .tup xs := by intro xs q; cases q) : Good K ρ F (upd G D u') (upd H D u') st := by
  have hFD : F D = none := (g.fg D u upd_same).elim id fun ⟨xs, q⟩ => absurd q (nu xs)
  have hH : ∀ a o, a ≠ D → H a = some o → upd H D u' a = some o := fun a o n q => by rw [upd_ne n]; exact q
  refine ⟨fun a o q => hH a o (ne_of_none q hFD) (g.f a o q), fun a o q => ?_, fun a o q => ?_, g.len, g.nd, fun i a o h1 h2 => ?_⟩
  · by_cases e : a = D
    · subst e; rw [upd_same] at q ⊢; exact q
    · rw [upd_ne e] at q ⊢
      have := g.g a o (by rw [upd_ne e]; exact q)
      exact this
  · by_cases e : a = D
    · subst e; exact .inl hFD
    · rw [upd_ne e] at q
      exact g.fg a o (by rw [upd_ne e]; exact q)
  · have ok := g.obj i a o h1 h2
    have na : a ≠ D := fun e => by
      subst e
      cases o with
      | fz d => obtain ⟨⟨w, hw⟩, _⟩ := ok; rw [hFD] at hw; cases hw
      | _ => obtain ⟨_, q, _⟩ := ok.none (by intro d q; cases q); rw [upd_same] at q; cases q
    cases o with
    | lst ds => obtain ⟨h1, h2, xs, h3, h4⟩ := ok; exact ⟨h1, by rw [upd_ne na] at h2 ⊢; exact h2, xs, hH _ _ na h3, h4⟩
    | dK ds => obtain ⟨h1, h2, xs, h3, h4⟩ := ok; exact ⟨h1, by rw [upd_ne na] at h2 ⊢; exact h2, xs, hH _ _ na h3, h4⟩
    | dT ds => obtain ⟨h1, h2, xs, h3, h4⟩ := ok; exact ⟨h1, by rw [upd_ne na] at h2 ⊢; exact h2, xs, hH _ _ na h3, h4⟩
    | ins C fs => obtain ⟨h1, h2, dx, ys, h3, h4⟩ := ok; exact ⟨h1, by rw [upd_ne na] at h2 ⊢; exact h2, dx, ys, hH _ _ na h3, h4⟩
    | fz d => exact ok
/-- a new object in the frame -/
theorem Good.inG {ρ : List Addr} {F G H : Hp} {st : Store} {D : Addr} {u : HO} (g : Good K ρ F G H st) (hD : H D = none) : Good K ρ F (upd G D u) (upd H D u) st := by
  have hGD : G D = none := g.g.free hD
  have hFD : F D = none := g.f.free hD
  have hH : ∀ a o, H a = some o → upd H D u a = some o := fun a o q => by rw [upd_ne (ne_of_none q hD)]; exact q
  refine ⟨fun a o q => hH a o (g.f a o q), fun a o q => ?_, fun a o q => ?_, g.len, g.nd, fun i a o h1 h2 => ?_⟩
  · by_cases e : a = D
    · subst e; rw [upd_same] at q ⊢; exact q
    · rw [upd_ne e] at q; exact hH a o (g.g a o q)
  · by_cases e : a = D
    · subst e; exact .inl hFD
    · rw [upd_ne e] at q; exact g.fg a o q
  · have ok := g.obj i a o h1 h2
    have na : (∀ d, o ≠ .fz d) → a ≠ D := fun n e => by
      subst e
      obtain ⟨_, _, w, q⟩ := ok.none n; rw [hD] at q; cases q
    cases o with
    | lst ds => obtain ⟨h1, h2, xs, h3, h4⟩ := ok; exact ⟨h1, by rw [upd_ne (na (by intro d q; cases q))]; exact h2, xs, hH _ _ h3, h4⟩
    | dK ds => obtain ⟨h1, h2, xs, h3, h4⟩ := ok; exact ⟨h1, by rw [upd_ne (na (by intro d q; cases q))]; exact h2, xs, hH _ _ h3, h4⟩
    | dT ds => obtain ⟨h1, h2, xs, h3, h4⟩ := ok; exact ⟨h1, by rw [upd_ne (na (by intro d q; cases q))]; exact h2, xs, hH _ _ h3, h4⟩
    | ins C fs => obtain ⟨h1, h2, dx, ys, h3, h4⟩ := ok; exact ⟨h1, by rw [upd_ne (na (by intro d q; cases q))]; exact h2, dx, ys, hH _ _ h3, h4⟩
    | fz d => exact ok
/-- the frame's object taken out again -/
theorem Good.outG {ρ : List Addr} {F G H : Hp} {st : Store} {D : Addr} {u : HO} (g : Good K ρ F (upd G D u) H st) (hD : G D = none) (nu : ∀ xs, u ≠ .tup xs := by intro xs q; cases q) : ∃ H' : Hp, H' D = none ∧ upd H' D u = H ∧ Good K ρ F G H' st := by
  have hFD : F D = none := (g.fg D u upd_same).elim id fun ⟨xs, q⟩ => absurd q (nu xs)
  refine ⟨fun a => if a = D then none else H a, if_pos rfl, ?_, ?_⟩
  · funext a
    by_cases e : a = D
    · subst e; rw [upd_same]; exact (g.g a u upd_same).symm
    · rw [upd_ne e]; exact if_neg e
  · have hH : ∀ a o, a ≠ D → H a = some o → (if a = D then none else H a) = some o := fun a o n q => by rw [if_neg n]; exact q
    refine ⟨fun a o q => hH a o (ne_of_none q hFD) (g.f a o q), fun a o q => ?_, fun a o q => ?_, g.len, g.nd, fun i a o h1 h2 => ?_⟩
    · have n : a ≠ D := ne_of_none q hD
      exact hH a o n (g.g a o (by rw [upd_ne n]; exact q))
    · have n : a ≠ D := ne_of_none q hD
      exact g.fg a o (by rw [upd_ne n]; exact q)
    · have ok := g.obj i a o h1 h2
      have na : (∀ d, o ≠ .fz d) → a ≠ D := fun n e => by
        subst e
        obtain ⟨_, q, _⟩ := ok.none n; rw [upd_same] at q; cases q
      cases o with
      | lst ds => obtain ⟨h1, h2, xs, h3, h4⟩ := ok; have n := na (by intro d q; cases q); exact ⟨h1, by rw [upd_ne n] at h2; exact h2, xs, hH _ _ n h3, h4⟩
      | dK ds => obtain ⟨h1, h2, xs, h3, h4⟩ := ok; have n := na (by intro d q; cases q); exact ⟨h1, by rw [upd_ne n] at h2; exact h2, xs, hH _ _ n h3, h4⟩
      | dT ds => obtain ⟨h1, h2, xs, h3, h4⟩ := ok; have n := na (by intro d q; cases q); exact ⟨h1, by rw [upd_ne n] at h2; exact h2, xs, hH _ _ n h3, h4⟩
      | ins C fs => obtain ⟨h1, h2, dx, ys, h3, h4⟩ := ok; have n := na (by intro d q; cases q); exact ⟨h1, by rw [upd_ne n] at h2; exact h2, dx, ys, hH _ _ n h3, h4⟩
      | fz d => exact ok
theorem compL_noexn (g : TGt) (tt : RT) (r : RE) (e : Env) : ∀ (xs : List D) (st0 : Store) (n : Nat) (C : Str) (stf : Store), compL n g tt r e xs st0 ≠ .exn C stf := by
  intro xs
  induction xs with
  | nil => intro st0 n C stf q; cases q
  | cons x xs ih =>
    intro st0 n C stf q
    unfold compL at q
    cases qg : g x e with
    | none => rw [qg] at q; cases q
    | some e1 =>
      rw [qg] at q
      dsimp only at q
      cases qt : tt e1 st0 with
      | exn _ _ => rw [qt] at q; cases q
      | bad => rw [qt] at q; cases q
      | ok c st1 =>
        rw [qt] at q
        cases c with
        | false =>
          dsimp only at q
          split at q
          · exact ih _ _ _ _ q
          · cases q
        | true =>
          dsimp only at q
          cases qr : r e1 st1 with
          | exn _ _ => rw [qr] at q; cases q
          | bad => rw [qr] at q; cases q
          | ok d st2 =>
            rw [qr] at q
            dsimp only at q
            split at q
            · cases qn : compL n g tt r e xs st2 with
              | ok a b => rw [qn] at q; cases q
              | exn a b => rw [qn] at q; cases q
              | bad => rw [qn] at q; cases q
            · cases q
theorem lc_read {is : RI} {g : TGt} {t : TG} {sl vs : List Nat} {tt : RT} {r : RE} {σ : St} {H : Hp} {Q : VK} (hs : TgS K g t sl) (hv : ∀ i ∈ sl, i ∈ vs) (h : toTL K W (lComp vs is g tt r) σ H Q) : tLc (toTI K W is) t (toTT K W0 tt) (toTE K W0 r) vs σ H Q := by
  obtain ⟨ρ, F, G, e, st, gd, ev, p⟩ := h
  refine ⟨ρ, F, G, e, st, gd, ev, p.bind.mp fun ρ0 F0 H0 xs st0 s0 f0 g0 _ p0 J hJ L0 hL0 => ?_⟩
  have hG : G L0 = none := g0.g.free hL0
  have ev0 := ev.mono s0 f0
  cases qc : compL st0.length g tt r (wipe e vs) xs st0 with
  | exn C stf =>
    exfalso
    exact compL_noexn g tt r (wipe e vs) _ _ _ _ _ qc
  | bad => rw [qc] at p0; exact p0.elim
  | ok total stf =>
    rw [qc] at p0
    refine ⟨fun i m H' => i ≤ xs.length ∧ m = xs.length - i ∧ ∃ (ρ1 : List Addr) (F1 : Hp) (st1 : Store) (done rest : List D) (acc : List V), Sub ρ0 ρ1 ∧ Same F0 F1 ∧ Good K ρ1 F1 (upd G L0 (.lst acc)) H' st1 ∧ st1.length = st0.length ∧ RDs K ρ1 F1 done acc ∧ acc.length ≤ i ∧
        total = done ++ rest ∧ compL st0.length g tt r (wipe e vs) (xs.drop i) st1 = .ok rest stf, ⟨xs.length, Nat.zero_le _, rfl, ρ0, F0, st0, [], total, [], Sub.refl _, Same.refl _, g0.inG hL0, rfl, .nil, Nat.le_refl _, rfl, qc⟩, ?_⟩
    rintro i m H' ⟨hi, rfl, ρ1, F1, st1, done, rest, acc, s1, f1, g1, hl1, rd1, ha1, ht1, hc1⟩
    by_cases hlt : i < xs.length
    · refine .inr ?_
      have hx : xs[i]? = some xs[i] := by simp [hlt]
      obtain ⟨jgo, jy⟩ := hJ.go i xs[i] ρ1 F1 (upd G L0 (.lst acc)) H' st1 s1 f1 g1 hx
      refine ⟨jgo, fun H2 => i + 1 ≤ xs.length ∧ ∃ (ρ1 : List Addr) (F1 : Hp) (st1 : Store) (done rest : List D) (acc : List V), Sub ρ0 ρ1 ∧ Same F0 F1 ∧ Good K ρ1 F1 (upd G L0 (.lst acc)) H2 st1 ∧ st1.length = st0.length ∧ RDs K ρ1 F1 done acc ∧ acc.length ≤ i + 1 ∧
        total = done ++ rest ∧ compL st0.length g tt r (wipe e vs) (xs.drop (i + 1)) st1 = .ok rest stf, fun H2 ⟨a1, a2⟩ => ⟨xs.length - (i + 1), by omega, a1, rfl, a2⟩, fun x H2 y => ?_⟩
      obtain ⟨F2, f2, g2, r2⟩ := jy x H2 y
      rw [List.drop_eq_getElem_cons hlt] at hc1
      unfold compL at hc1
      cases qg : g xs[i] (wipe e vs) with
      | none => rw [qg] at hc1; cases hc1
      | some e2 =>
        rw [qg] at hc1
        dsimp only at hc1
        refine hs g2.f ((ev0.mono s1 (f1.trans f2)).wipe vs) r2 qg fun σ3 ev3 wp => ⟨(wp vs hv).trans (wipe_idem σ vs vs fun _ h => h), ?_⟩
        refine ⟨ρ1, F2, _, e2, st1, g2, ev3, ?_⟩
        cases qt : tt e2 st1 with
        | exn C st3 => rw [qt] at hc1; cases hc1
        | bad => rw [qt] at hc1; cases hc1
        | ok c st3 =>
          rw [qt] at hc1
          intro ρ3 F3 H3 s3 f3 g3
          cases c with
          | false =>
            rw [if_neg Bool.false_ne_true]
            dsimp only at hc1
            split at hc1
            · rename_i hl3
              exact ⟨hlt, ρ3, F3, st3, done, rest, acc, s1.trans s3, (f1.trans f2).trans f3, g3, hl3, rd1.mono s3 (f2.trans f3), by omega, ht1, hc1⟩
            · cases hc1
          | true =>
            rw [if_pos rfl]
            dsimp only at hc1
            refine ⟨ρ3, F3, _, e2, st3, g3, ev3.mono s3 f3, ?_⟩
            cases qr : r e2 st3 with
            | exn C st4 => rw [qr] at hc1; cases hc1
            | bad => rw [qr] at hc1; cases hc1
            | ok d st4 =>
              rw [qr] at hc1
              dsimp only at hc1
              split at hc1
              · rename_i hl4
                intro ρ4 F4 H4 s4 f4 g4 v rv
                cases qn : compL st0.length g tt r (wipe e vs) (xs.drop (i + 1)) st4 with
                | exn C st5 => rw [qn] at hc1; cases hc1
                | bad => rw [qn] at hc1; cases hc1
                | ok rest2 st5 =>
                  rw [qn] at hc1
                  dsimp only at hc1
                  injection hc1 with e1 e2'
                  subst e1 e2'
                  have hsz : acc.length < sizeLine := by
                    have := hJ.len
                    rw [cap_eq]
                    omega
                  refine ⟨acc, g4.g L0 _ upd_same, hsz, hlt, ρ4, F4, st4, done ++ [d], rest2, acc ++ [v], (s1.trans s3).trans s4, ((f1.trans f2).trans f3).trans f4, g4.reG (G' := G) (H' := H4) hG, hl4, (rd1.mono (s3.trans s4) ((f2.trans f3).trans f4)).append (.cons rv .nil), by simp; omega, by simp [ht1], qn⟩
              · cases hc1
    · have he : i = xs.length := by omega
      subst he
      rw [List.drop_length] at hc1
      cases hc1
      obtain ⟨H2, a1, a2, a3⟩ := g1.outG hG
      refine .inl ⟨hJ.stop ρ1 F1 _ H' _ s1 f1 g1, ?_⟩
      rw [← a2]
      have q := p0 ρ1 F1 H2 s1 f1 a3
      rw [ht1, List.append_nil] at q
      exact q acc L0 rd1 a1 (Nat.le_trans ha1 hJ.len)
end
end Py

set_option Elab.async false
set_option linter.all false
set_option maxRecDepth 100000
set_option maxHeartbeats 1000000
set_option autoImplicit false
namespace Py
open PySem PySem.Spec L2

section
variable {X : Cx} {W : WX} {tg iter elt : Expr} {ifs : List Expr} {scope : Scope} {own : List (Str × Nat)} {pos : Pos} {K : PySem.W.Frag} {is : RI} {g : TGt} {t : TG} {sl : List Nat} {tt : RT} {r : RE}
/-- [elt for tg in iter if ..] -/
theorem l_comp (own : List (Str × Nat)) (hc : X.calm = true) (hN : X.N.Nodup) (hi : PI X tg iter (toTI X.K W is)) (hs : TgS X.K g t sl)
    (hg : ∀ (s : Shared) (H : Hp) (C : Addr) (cl : List (Str × Addr)) (fp : List Addr), PG (X.blk s H scope (compEnvC scope cl C X.env) fp) tg t)
    (ht : ∀ (s : Shared) (H : Hp) (C : Addr) (cl : List (Str × Addr)) (fp : List Addr), PTs (X.blk s H scope (compEnvC scope cl C X.env) fp) ifs (toTT X.K W0 tt))
    (he : ∀ (s : Shared) (H : Hp) (C : Addr) (cl : List (Str × Addr)) (fp : List Addr), PE (X.blk s H scope (compEnvC scope cl C X.env) fp) elt (toTE X.K W0 r))
    (ok : blkC X.N X.env.scope scope own = true := by kernel_rfl) (hv : (sl.all fun i => (own.map (·.2)).contains i) = true := by decide) (hf : ∀ x, foldedSetIterable iter X.env x = pure x := by intro _; rfl) :
    PE X (.ListComp elt [⟨tg, iter, ifs, 0⟩] scope pos) (toTL X.K W (lComp (own.map (·.2)) is g tt r)) :=
  PE.imp (pe_lc hc hN hi (blkOk_by ok) hg ht he hf) fun σ H Q h => lc_read hs (fun i hi => by simpa using List.all_eq_true.mp hv i hi) h
/-- y = [..] on one line, y a local -/
theorem s_setLc (i : Nat) {y : Str} {py spos : Pos} (own : List (Str × Nat)) (hc : X.calm = true) (hN : X.N.Nodup) (hi : PI X tg iter (toTI X.K W is)) (hs : TgS X.K g t sl)
    (hg : ∀ (s : Shared) (H : Hp) (C : Addr) (cl : List (Str × Addr)) (fp : List Addr), PG (X.blk s H scope (compEnvC scope cl C X.env) fp) tg t)
    (ht : ∀ (s : Shared) (H : Hp) (C : Addr) (cl : List (Str × Addr)) (fp : List Addr), PTs (X.blk s H scope (compEnvC scope cl C X.env) fp) ifs (toTT X.K W0 tt))
    (he : ∀ (s : Shared) (H : Hp) (C : Addr) (cl : List (Str × Addr)) (fp : List Addr), PE (X.blk s H scope (compEnvC scope cl C X.env) fp) elt (toTE X.K W0 r))
    (hy : X.N[i]? = some y := by rfl) (hyl : X.env.scope.names.lookup y = some .local := by rfl) (hsw : swapsWith (.ListComp elt [⟨tg, iter, ifs, 0⟩] scope pos) (some (.Name y py)) spos.line X.env = pure true := by exact sw_true rfl rfl rfl (by decide +kernel))
    (ok : blkC X.N X.env.scope scope own = true := by kernel_rfl) (hv : (sl.all fun i => (own.map (·.2)).contains i) = true := by decide) (hf : ∀ x, foldedSetIterable iter X.env x = pure x := by intro _; rfl) :
    PS X (.Assign [.Name y py] (.ListComp elt [⟨tg, iter, ifs, 0⟩] scope pos) spos) (toTS X.K W (sSet i (rFrz (lComp (own.map (·.2)) is g tt r)))) :=
  PS.imp (ps_setLc (i := i) hc hN hy hyl hsw hi (blkOk_by ok) hg ht he hf) fun E σ H ⟨ρ, F, G, e, st, gd, ev, p⟩ => by
    refine lc_read (W := W) hs (fun i hi => by simpa using List.all_eq_true.mp hv i hi) ⟨ρ, F, G, e, st, gd, ev, ?_⟩
    unfold sSet sOf rFrz at p
    cases q : lComp (own.map (·.2)) is g tt r e st with
    | bad => rw [q] at p; exact p
    | exn C st1 => rw [q] at p; exact fun ρ1 F1 H1 s1 f1 g1 => p ρ1 F1 H1 σ s1 f1 g1 (ev.mono s1 f1)
    | ok ds st1 =>
      rw [q] at p
      intro ρ1 F1 H1 s1 f1 g1 vs a r1 ha hl
      obtain ⟨g2, f2⟩ := g1.newF ha (.lst vs)
      exact p ρ1 _ _ _ s1 (f1.trans f2) g2 ((ev.mono s1 (f1.trans f2)).set (.lst upd_same hl (r1.mono (Sub.refl _) f2)))
theorem ts_nil : PTs X [] (toTT X.K W tYes) := ⟨fun pins s σ H Q I ⟨ρ, F, G, e, st, g, ev, p⟩ => pts_nil.run pins s σ H Q I (p.now g)⟩
theorem ts_one {c : Expr} (h : PT X c (toTT X.K W tt)) : PTs X [c] (toTT X.K W tt) := pts_one h

/-! ### what is walked -/
theorem ti_bind {ra : RE} {k : D → Store → Res (List D)} {σ : St} {H : Hp} {R : It → Hp → Prop} {T : V → Hp → Prop} (h : toTI K W (fun e st => (ra e st).bind k) σ H R)
    (q : ∀ (ρ1 : List Addr) (F1 G H1 : Hp) (e : Env) (d : D) (st1 : Store) (v : V), Good K ρ1 F1 G H1 st1 → EnvR K ρ1 F1 e σ → RD K ρ1 F1 d v → Pst K W ρ1 F1 G σ (k d st1) (fun ρ' F' H' xs st' => ∀ J, ItS K ρ' F' J xs → R J H') → T v H1) : toTE K W ra σ H T := by
  obtain ⟨ρ, F, G, e, st, g, ev, p⟩ := h
  exact te_bind g ev p fun ρ1 F1 H1 d st1 v _ _ g1 ev1 r1 p1 => q ρ1 F1 G H1 e d st1 v g1 ev1 r1 p1
theorem its_lst {ρ : List Addr} {F : Hp} {a : Addr} {xs : List V} {ds : List D} (h : F a = some (.lst xs)) (hl : xs.length ≤ cap) (rs : RDs K ρ F ds xs) : ItS K ρ F (Itl K a) ds where
  len := by rw [rs.length]; exact hl
  go := fun i d ρ' F' G' H' st' s f g hd => by
    obtain ⟨v, h1, h2⟩ := rs.get hd
    have hq : SqL K H' a xs := SqL.of (g.f _ _ (f _ _ h))
    refine ⟨⟨xs, v, hq, h1⟩, fun x H2 ⟨e, y⟩ => ?_⟩
    subst e
    have := y xs hq
    rw [h1] at this
    cases this
    exact ⟨F', Same.refl _, g, h2.mono s f⟩
  stop := fun ρ' F' G' H' st' s f g => ⟨xs, SqL.of (g.f _ _ (f _ _ h)), by rw [rs.length]; exact Nat.le_refl _⟩
theorem its_tup {ρ : List Addr} {F : Hp} {a : Addr} {xs : List V} {ds : List D} (h : F a = some (.tup xs)) (hl : xs.length ≤ cap) (rs : RDs K ρ F ds xs) : ItS K ρ F (Itt K a) ds where
  len := by rw [rs.length]; exact hl
  go := fun i d ρ' F' G' H' st' s f g hd => by
    obtain ⟨v, h1, h2⟩ := rs.get hd
    have hq : SqT K H' a xs := SqT.of (g.f _ _ (f _ _ h))
    refine ⟨⟨xs, v, hq, h1⟩, fun x H2 ⟨e, y⟩ => ?_⟩
    subst e
    have := y xs hq
    rw [h1] at this
    cases this
    exact ⟨F', Same.refl _, g, h2.mono s f⟩
  stop := fun ρ' F' G' H' st' s f g => ⟨xs, SqT.of (g.f _ _ (f _ _ h)), by rw [rs.length]; exact Nat.le_refl _⟩
theorem i_tup {ex : Expr} {ra : RE} (h : PE X ex (toTE X.K W ra)) : PI X tg ex (toTI X.K W (iTup ra)) :=
  PI.imp (pi_tup h) fun σ H R q => ti_bind q fun ρ1 F1 G H1 e d st1 v g1 ev1 r1 p1 => by
    cases r1 with
    | tup hf hl rs => exact ⟨_, rfl, ⟨_, SqT.of (g1.f _ _ hf)⟩, p1.now g1 _ (its_tup hf hl rs)⟩
    | _ => exact p1.elim
theorem fz_lst {ρ : List Addr} {F G H : Hp} {st : Store} {k : Nat} {a : Addr} {l : List D} (g : Good K ρ F G H st) (hr : ρ[k]? = some a) (h : st[k]? = some (.fz (.lst l))) : ∃ xs, F a = some (.lst xs) ∧ xs.length ≤ cap ∧ RDs K ρ F l xs := by
  obtain ⟨_, q⟩ := g.obj k a _ hr h
  cases q with
  | lst a b c => exact ⟨_, a, b, c⟩
theorem i_lst {ex : Expr} {ra : RE} (h : PE X ex (toTE X.K W ra)) : PI X tg ex (toTI X.K W (iLst ra)) :=
  PI.imp (pi_list h) fun σ H R q => ti_bind q fun ρ1 F1 G H1 e d st1 v g1 ev1 r1 p1 => by
    cases r1 with
    | lst hf hl rs => exact ⟨_, rfl, ⟨_, SqL.of (g1.f _ _ hf)⟩, p1.now g1 _ (its_lst hf hl rs)⟩
    | @ref k a hr =>
      dsimp only at p1
      split at p1
      · rename_i l hk
        obtain ⟨xs, b1, b2, b3⟩ := fz_lst g1 hr hk
        exact ⟨_, rfl, ⟨_, SqL.of (g1.f _ _ b1)⟩, p1.now g1 _ (its_lst b1 b2 b3)⟩
      · exact p1.elim
    | _ => exact p1.elim
theorem strOk_one {x : Str} (h : PyData.strOk x = true) {c : Nat} (hc : c ∈ x.cps.toList) : PyData.strOk ⟨#[c]⟩ = true := by
  unfold PyData.strOk at h ⊢
  rw [← Array.all_toList] at h ⊢
  have := List.all_eq_true.mp h c hc
  simpa using this
theorem one_le : (1 : Nat) ≤ cap := by decide
theorem i_str {ex : Expr} {ra : RE} (h : PE X ex (toTE X.K W ra)) : PI X tg ex (toTI X.K W (iStr ra)) :=
  PI.imp (pi_str h) fun σ H R q => ti_bind q fun ρ1 F1 G H1 e d st1 v g1 ev1 r1 p1 => by
    cases r1 with
    | str x h1 h2 =>
      refine ⟨x, rfl, p1.now g1 _ ⟨by simpa [Str.length] using h2, fun i d ρ' F' G' H' st' s f g hd => ?_, fun ρ' F' G' H' st' s f g => ?_⟩⟩
      · rw [List.getElem?_map] at hd
        cases hc : x.cps.toList[i]? with
        | none => rw [hc] at hd; cases hd
        | some c =>
          rw [hc] at hd
          cases hd
          have hc' : x.cps[i]? = some c := by simpa using hc
          refine ⟨(Array.getElem?_eq_some_iff.mp hc').1, fun y H2 ⟨e, c', b1, b2⟩ => ?_⟩
          subst e b2
          rw [hc'] at b1
          cases b1
          exact ⟨F', Same.refl _, g, .str _ (strOk_one h1 (List.mem_of_getElem? hc)) one_le⟩
      · show x.cps.size ≤ _
        simp
    | _ => exact p1.elim
theorem rng_get {lo hi : Int} {i : Nat} {d : D} (h : (rng lo hi)[i]? = some d) : i < (hi - lo).toNat ∧ d = .int (lo + i) := by
  unfold rng at h
  rw [List.getElem?_map] at h
  cases q : (List.range (hi - lo).toNat)[i]? with
  | none => rw [q] at h; cases h
  | some k =>
    rw [q] at h
    obtain ⟨a, b⟩ := List.getElem?_eq_some_iff.mp q
    rw [List.getElem_range] at b
    subst b
    cases h
    exact ⟨by simpa using a, rfl⟩
theorem its_rng {ρ : List Addr} {F : Hp} {lo hi : Int} (hl : (hi - lo).toNat ≤ cap) : ItS K ρ F (Itr lo (hi - lo).toNat) (rng lo hi) where
  len := by unfold rng; simpa using hl
  go := fun i d ρ' F' G' H' st' s f g hd => by
    obtain ⟨a, rfl⟩ := rng_get hd
    exact ⟨a, fun x H2 ⟨e, y⟩ => by subst e y; exact ⟨F', Same.refl _, g, .int _⟩⟩
  stop := fun ρ' F' G' H' st' s f g => by
    show (hi - lo).toNat ≤ (rng lo hi).length
    unfold rng; simp
theorem lim62_ok {i : Int} (h : lim62 i = true) : -(2 ^ 62) ≤ i ∧ i < 2 ^ 62 := by
  unfold lim62 at h
  simp only [Bool.and_eq_true, decide_eq_true_eq] at h
  omega
theorem i_rng1 {a : Expr} {ra : RA} {p : Pos} (hm : X.mg "range" = none) (ha : PA X [a] (toTA X.K W ra)) (hg : Gl X "range" := by rfl) (hs : starEach [a] X.env = [(false, eval a X.env)] := by rfl) : PI X tg (.Call (.Name "range" p) [a] [] pos) (toTI X.K W (iRng1 ra)) :=
  PI.imp (pi_range1 hg hm ha hs) fun σ H R ⟨ρ, F, G, e, st, g, ev, q⟩ => by
    unfold iRng1 at q
    refine ta_bind g ev q fun ρ1 F1 H1 ds st1 vs _ _ g1 ev1 r1 p1 => ?_
    cases r1 with
    | nil => exact p1.elim
    | cons r1 rr =>
      cases rr with
      | cons _ _ => cases r1 <;> exact p1.elim
      | nil =>
        cases r1 with
        | int n =>
          dsimp only at p1
          split at p1
          · rename_i hn
            simp only [Bool.and_eq_true, decide_eq_true_eq] at hn
            obtain ⟨b1, b2⟩ := lim62_ok hn.1
            have := p1.now g1 _ (its_rng (lo := 0) (hi := n) (by simpa using hn.2))
            rw [Int.sub_zero] at this
            exact ⟨n, rfl, b1, b2, this⟩
          · exact p1.elim
        | _ => exact p1.elim
theorem i_rng2 {a b : Expr} {ra : RA} {p : Pos} (hm : X.mg "range" = none) (ha : PA X [a, b] (toTA X.K W ra)) (hg : Gl X "range" := by rfl) (hs : starEach [a, b] X.env = [(false, eval a X.env), (false, eval b X.env)] := by rfl) (hs2 : starEach [b] X.env = [(false, eval b X.env)] := by rfl) :
    PI X tg (.Call (.Name "range" p) [a, b] [] pos) (toTI X.K W (iRng2 ra)) :=
  PI.imp (pi_range2 hg hm ha hs hs2) fun σ H R ⟨ρ, F, G, e, st, g, ev, q⟩ => by
    unfold iRng2 at q
    refine ta_bind g ev q fun ρ1 F1 H1 ds st1 vs _ _ g1 ev1 r1 p1 => ?_
    cases r1 with
    | nil => exact p1.elim
    | cons r1 rr =>
      cases rr with
      | nil => cases r1 <;> exact p1.elim
      | cons r2 rr =>
        cases rr with
        | cons _ _ => cases r1 <;> cases r2 <;> exact p1.elim
        | nil =>
          cases r1 with
          | int i =>
            cases r2 with
            | int j =>
              dsimp only at p1
              split at p1
              · rename_i hn
                simp only [Bool.and_eq_true, decide_eq_true_eq] at hn
                obtain ⟨b1, b2⟩ := lim62_ok hn.1.1
                obtain ⟨b3, b4⟩ := lim62_ok hn.1.2
                exact ⟨i, j, rfl, ⟨b1, b2, b3, b4⟩, p1.now g1 _ (its_rng hn.2)⟩
              · exact p1.elim
            | _ => exact p1.elim
          | _ => cases r2 <;> exact p1.elim
theorem enum_get : ∀ {l : List D} {k i : Nat} {d : D}, (enumL k l)[i]? = some d → ∃ x, l[i]? = some x ∧ d = .tup [.int ((k + i : Nat) : Int), x]
  | [], _, _, _, h => by simp [enumL] at h
  | x :: l, k, 0, d, h => by
    simp only [enumL, List.getElem?_cons_zero, Option.some.injEq] at h
    exact ⟨x, rfl, by rw [← h]; simp⟩
  | x :: l, k, i + 1, d, h => by
    simp only [enumL, List.getElem?_cons_succ] at h
    obtain ⟨y, a, b⟩ := enum_get h
    refine ⟨y, by simpa using a, ?_⟩
    rw [b]
    have : k + 1 + i = k + (i + 1) := by omega
    rw [this]
theorem enum_len : ∀ (l : List D) (k : Nat), (enumL k l).length = l.length
  | [], _ => rfl
  | _ :: l, k => by simp [enumL, enum_len l]
theorem its_enum {ρ : List Addr} {F : Hp} {a : Addr} {xs : List V} {ds : List D} (h : F a = some (.lst xs)) (hl : xs.length ≤ cap) (rs : RDs K ρ F ds xs) : ItS K ρ F (Ite K a) (enumL 0 ds) where
  len := by rw [enum_len, rs.length]; exact hl
  go := fun i d ρ' F' G' H' st' s f g hd => by
    obtain ⟨x, h0, rfl⟩ := enum_get hd
    obtain ⟨v, h1, h2⟩ := rs.get h0
    have hq : SqL K H' a xs := SqL.of (g.f _ _ (f _ _ h))
    refine ⟨⟨xs, v, hq, h1⟩, fun y H2 ⟨T, z, e1, e2, e3, e4⟩ => ?_⟩
    subst e1 e3
    have := e4 xs hq
    rw [h1] at this
    cases this
    obtain ⟨g2, f2⟩ := g.newF e2 (.tup [.int (i : Nat), v])
    refine ⟨_, f2, g2, .tup upd_same (by show 2 ≤ cap; decide) (.cons ?_ (.cons ((h2.mono s f).mono (Sub.refl _) f2) .nil))⟩
    rw [Nat.zero_add]
    exact .int _
  stop := fun ρ' F' G' H' st' s f g => ⟨xs, SqL.of (g.f _ _ (f _ _ h)), by rw [enum_len, rs.length]; exact Nat.le_refl _⟩
end
end Py

set_option Elab.async false
set_option linter.all false
set_option maxRecDepth 100000
set_option maxHeartbeats 1000000
set_option autoImplicit false
namespace Py
open PySem PySem.Spec L2

section
variable {X : Cx} {W : WX} {K : PySem.W.Frag} {ρ : List Addr} {F G H : Hp} {st : Store} {σ : St}
theorem asL_ok {d : D} {v : V} {l : List D} (g : Good K ρ F G H st) (r : RD K ρ F d v) (h : asL st d = some l) : ∃ a xs, v = .ref a ∧ H a = some (.lst xs) ∧ xs.length ≤ cap ∧ RDs K ρ F l xs := by
  unfold asL at h
  cases r with
  | lst hf hl rs => cases h; exact ⟨_, _, rfl, g.f _ _ hf, hl, rs⟩
  | @ref k a hr =>
    dsimp only at h
    cases hk : st[k]? with
    | none => rw [hk] at h; cases h
    | some o =>
      rw [hk] at h
      cases o with
      | lst l' =>
        cases h
        obtain ⟨_, _, xs, h1, h2, h3⟩ := g.obj k a _ hr hk
        exact ⟨_, xs, rfl, h1, h2, h3⟩
      | fz d' =>
        cases d' with
        | lst l' =>
          cases h
          obtain ⟨xs, h1, h2, h3⟩ := fz_lst g hr hk
          exact ⟨_, xs, rfl, g.f _ _ h1, h2, h3⟩
        | _ => cases h
      | _ => cases h
  | _ => cases h
theorem strs_rds {l : List Str} (h : ∀ x ∈ l, PyData.strOk x = true ∧ x.length ≤ cap) : RDs K ρ F (l.map D.str) (l.map V.str) := by
  induction l with
  | nil => exact .nil
  | cons x l ih => exact .cons (.str x (h x List.mem_cons_self).1 (h x List.mem_cons_self).2) (ih fun y hy => h y (List.mem_cons_of_mem _ hy))
theorem sqT_none {a : Addr} {xs : List V} (h : SqT K (fun _ => none) a xs) (H : Hp) : SqT K H a xs := by
  rcases h with (h | ⟨_, h⟩) | h
  · cases h
  · cases h
  · exact .inr h
theorem asS_ok {d : D} {v : V} {l : List D} (g : Good K ρ F G H st) (r : RD K ρ F d v) (h : asS st d = some l) : ∃ a xs, v = .ref a ∧ (SqL K H a xs ∨ SqT K H a xs) ∧ RDs K ρ F l xs := by
  unfold asS at h
  cases r with
  | tup hf hl rs => cases h; exact ⟨_, _, rfl, .inr (SqT.of (g.f _ _ hf)), rs⟩
  | ktup hs hl => cases h; exact ⟨_, _, rfl, .inr (sqT_none hs H), strs_rds hl⟩
  | lst hf hl rs =>
    obtain ⟨a, xs, h1, h2, _, h4⟩ := asL_ok g (.lst hf hl rs) h
    exact ⟨a, xs, h1, .inl (SqL.of h2), h4⟩
  | ref hr =>
    obtain ⟨a, xs, h1, h2, _, h4⟩ := asL_ok g (.ref hr) h
    exact ⟨a, xs, h1, .inl (SqL.of h2), h4⟩
  | _ => cases h

/-! ### arithmetic -/
theorem strOk_app {a b : Str} (ha : PyData.strOk a = true) (hb : PyData.strOk b = true) : PyData.strOk (a ++ b) = true := by
  unfold PyData.strOk at *
  show (a.cps ++ b.cps).all _ = true
  rw [Array.all_append, ha, hb]; rfl
theorem len_app (a b : Str) : (a ++ b).length = a.length + b.length := by
  show (a.cps ++ b.cps).size = _
  rw [Array.size_append]; rfl
def rAddA (K : PySem.W.Frag) : R2 := fun x y H Q => (∃ i j, x = .int i ∧ y = .int j ∧ Q (.int (i + j)) H) ∨ (∃ i j, x = .str i ∧ y = .str j ∧ i.length + j.length ≤ sizeLine ∧ Q (.str (i ++ j)) H) ∨ rCatA K x y H Q ∨ rCat x y H Q
theorem op_addA : OpR X (binaryOp .Add) (rAddA X.K) := op_add.or (op_add_str.or (op_catA.or op_cat))
theorem s_add : Op2 K fAdd (rAddA K) := fun {W σ ρ F G H st x y u v Q} g rx ry p => by
  have lists : ∀ (a b : List D), asL st x = some a → asL st y = some b → Pst K W ρ F G σ (if a.length + b.length ≤ cap then .ok (.lst (a ++ b)) st else .bad) (fun ρ' F' H' d _ => ∀ w, RD K ρ' F' d w → Q w H') → rAddA K u v H Q := fun a b ha hb p => by
    obtain ⟨p1, xs, e1, h1, l1, r1⟩ := asL_ok g rx ha
    obtain ⟨p2, ys, e2, h2, l2, r2⟩ := asL_ok g ry hb
    subst e1 e2
    by_cases hl : a.length + b.length ≤ cap
    · rw [if_pos hl] at p
      have hl' : xs.length + ys.length ≤ cap := by rw [← r1.length, ← r2.length]; exact hl
      refine .inr (.inr (.inr ⟨p1, p2, xs, ys, rfl, rfl, h1, h2, by rw [cap_eq]; exact hl', fun q hq => ?_⟩))
      obtain ⟨g2, f2⟩ := g.newF hq (.lst (xs ++ ys))
      exact p.to (Sub.refl _) f2 g2 _ (.lst upd_same (by rw [List.length_append]; exact hl') ((r1.append r2).mono (Sub.refl _) f2))
    · rw [if_neg hl] at p; exact p.elim
  unfold fAdd at p
  split at p
  · cases rx; cases ry
    exact .inl ⟨_, _, rfl, rfl, p.now g _ (.int _)⟩
  · cases rx with
    | str a h1 h2 =>
      cases ry with
      | str b h3 h4 =>
        split at p
        · rename_i hl
          exact .inr (.inl ⟨_, _, rfl, rfl, by rw [cap_eq]; exact hl, p.now g _ (.str _ (strOk_app h1 h3) (by rw [len_app]; exact hl))⟩)
        · exact p.elim
  · cases rx with
    | @tup a xs ds hf hl rs =>
      cases ry with
      | @tup b ys es hf2 hl2 rs2 =>
        split at p
        · rename_i hl3
          have hl3' : xs.length + ys.length ≤ cap := by rw [← rs.length, ← rs2.length]; exact hl3
          refine .inr (.inr (.inl ⟨a, b, xs, ys, rfl, rfl, SqT.of (g.f _ _ hf), SqT.of (g.f _ _ hf2), by rw [cap_eq]; exact hl3', fun e => ?_, fun _ e => ?_, fun _ _ q hq => ?_⟩))
          · subst e
            cases rs
            exact p.now g _ (.tup hf2 hl2 rs2)
          · subst e
            cases rs2
            rw [List.append_nil] at p
            exact p.now g _ (.tup hf hl rs)
          · obtain ⟨g2, f2⟩ := g.newF hq (.tup (xs ++ ys))
            exact p.to (Sub.refl _) f2 g2 _ (.tup upd_same (by rw [List.length_append]; exact hl3') ((rs.append rs2).mono (Sub.refl _) f2))
        · exact p.elim
  · cases ha : asL st x with
    | none => rw [ha] at p; exact p.elim
    | some a =>
      cases hb : asL st y with
      | none => rw [ha, hb] at p; exact p.elim
      | some b => rw [ha, hb] at p; exact lists a b ha hb p
theorem s_cat : Op2L K fCat rCat := fun {W σ ρ F G H st x y u v Q} g rx ry p => by
  unfold fCat at p
  cases ha : asL st x with
  | none => rw [ha] at p; exact p.elim
  | some a =>
    cases hb : asL st y with
    | none => rw [ha, hb] at p; exact p.elim
    | some b =>
      rw [ha, hb] at p
      obtain ⟨p1, xs, e1, h1, l1, r1⟩ := asL_ok g rx ha
      obtain ⟨p2, ys, e2, h2, l2, r2⟩ := asL_ok g ry hb
      subst e1 e2
      dsimp only at p
      split at p
      · rename_i hl
        have hl' : xs.length + ys.length ≤ cap := by rw [← r1.length, ← r2.length]; exact hl
        exact ⟨p1, p2, xs, ys, rfl, rfl, h1, h2, by rw [cap_eq]; exact hl', fun q hq => p.now g _ _ (r1.append r2) hq (by rw [List.length_append]; exact hl')⟩
      · exact p.elim
theorem s_sub : Op2 K fSub (rI0 fun i j => .int (i - j)) := fun {W σ ρ F G H st x y u v Q} g rx ry p => by
  unfold fSub at p
  split at p
  · cases rx; cases ry; exact ⟨_, _, rfl, rfl, p.now g _ (.int _)⟩
  · exact p.elim
theorem s_mul : Op2 K fMul (rI CMul fun i j => .int (i * j)) := fun {W σ ρ F G H st x y u v Q} g rx ry p => by
  unfold fMul at p
  split at p
  · cases rx; cases ry
    split at p
    · rename_i h
      refine ⟨_, _, rfl, rfl, ?_, p.now g _ (.int _)⟩
      unfold lim64 at h
      simp only [Bool.or_eq_true, Bool.and_eq_true, decide_eq_true_eq] at h
      unfold CMul
      rcases h with h | h
      · exact .inl ⟨by omega, by omega⟩
      · exact .inr ⟨by omega, by omega⟩
    · exact p.elim
  · exact p.elim
theorem s_mod : Op2 K fMod (rI (fun _ j => 0 < j) fun i j => .int (i % j)) := fun {W σ ρ F G H st x y u v Q} g rx ry p => by
  unfold fMod at p
  split at p
  · cases rx; cases ry
    split at p
    · rename_i h
      exact ⟨_, _, rfl, rfl, h, p.now g _ (.int _)⟩
    · exact p.elim
  · exact p.elim
theorem s_div : Op2 K fDiv (rI CDiv fun i j => .int (i / j)) := fun {W σ ρ F G H st x y u v Q} g rx ry p => by
  unfold fDiv at p
  split at p
  · cases rx; cases ry
    split at p
    · rename_i h
      exact ⟨_, _, rfl, rfl, h, p.now g _ (.int _)⟩
    · exact p.elim
  · exact p.elim
theorem s_neg : Un1 K fNeg (rU fun i => .int (-i)) := fun {W σ ρ F G H st x u Q} g rx p => by
  unfold fNeg at p
  split at p
  · cases rx; exact ⟨_, rfl, p.now g _ (.int _)⟩
  · exact p.elim
def rLtA : R2 := fun x y H Q => (∃ i j, x = .int i ∧ y = .int j ∧ Q (.bl (decide (i < j))) H) ∨ ∃ i j, x = .str i ∧ y = .str j ∧ Q (.bl (decide (i.cps.toList < j.cps.toList))) H
theorem op_ltA : OpR X (compareOp .Lt) rLtA := op_lt.or op_lt_str
theorem s_lt : Op2 K fLt rLtA := fun {W σ ρ F G H st x y u v Q} g rx ry p => by
  unfold fLt at p
  split at p
  · cases rx; cases ry; exact .inl ⟨_, _, rfl, rfl, p.now g _ (.bl _)⟩
  · cases rx; cases ry; exact .inr ⟨_, _, rfl, rfl, p.now g _ (.bl _)⟩
  · exact p.elim
theorem s_le : Op2 K fLe (rI0 fun i j => .bl (decide (i ≤ j))) := fun {W σ ρ F G H st x y u v Q} g rx ry p => by
  unfold fLe at p
  split at p
  · cases rx; cases ry; exact ⟨_, _, rfl, rfl, p.now g _ (.bl _)⟩
  · exact p.elim
theorem s_gt : Op2 K fGt (rI0 fun i j => .bl (decide (j < i))) := fun {W σ ρ F G H st x y u v Q} g rx ry p => by
  unfold fGt at p
  split at p
  · cases rx; cases ry; exact ⟨_, _, rfl, rfl, p.now g _ (.bl _)⟩
  · exact p.elim
theorem s_ge : Op2 K fGe (rI0 fun i j => .bl (decide (j ≤ i))) := fun {W σ ρ F G H st x y u v Q} g rx ry p => by
  unfold fGe at p
  split at p
  · cases rx; cases ry; exact ⟨_, _, rfl, rfl, p.now g _ (.bl _)⟩
  · exact p.elim

/-! ### == -/
def pyOf : Nat → D → PyData
  | _, .non => .none
  | _, .bl b => .bool b
  | _, .int i => .int i
  | _, .str x => .str x
  | n + 1, .tup l => .tuple (l.map (pyOf n))
  | n + 1, .lst l => .list (l.map (pyOf n))
  | _, _ => .none
theorem depthAll_le {n : Nat} : ∀ (l : List PyData), (∀ x ∈ l, x.depth ≤ n) → PyData.depthAll l ≤ n
  | [], _ => Nat.zero_le _
  | x :: l, h => by
    show max (PyData.depth x) (PyData.depthAll l) ≤ n
    exact Nat.max_le.mpr ⟨h x List.mem_cons_self, depthAll_le l fun y hy => h y (List.mem_cons_of_mem _ hy)⟩
theorem canAll {l : List PyData} : (∀ x ∈ l, x.canLay0 = true) → PyData.canLayAll0 l = true := by
  induction l with
  | nil => intro _; rfl
  | cons x l ih =>
    intro h
    show (PyData.canLay0 x && PyData.canLayAll0 l) = true
    rw [h x List.mem_cons_self, ih fun y hy => h y (List.mem_cons_of_mem _ hy)]; rfl
/-- data as PyData, read off the heap -/
theorem dp_of (fH : Same F H) : ∀ (n : Nat) (d : D) (v : V), okD n d = true → RD K ρ F d v → Dp K H v (pyOf n d) ∧ (pyOf n d).canLay0 = true ∧ (pyOf n d).depth ≤ n := by
  intro n
  induction n with
  | zero =>
    intro d v h r
    cases r with
    | non => exact ⟨.non, rfl, Nat.le_refl _⟩
    | bl b => exact ⟨.bl b, rfl, Nat.le_refl _⟩
    | int b => exact ⟨.int b, rfl, Nat.le_refl _⟩
    | str x h1 h2 => exact ⟨.str x, h1, Nat.le_refl _⟩
    | _ => cases h
  | succ n ih =>
    have all : ∀ (l : List D) (vs : List V), l.all (okD n) = true → RDs K ρ F l vs → DpAll K H vs (l.map (pyOf n)) ∧ (∀ x ∈ l.map (pyOf n), x.canLay0 = true) ∧ ∀ x ∈ l.map (pyOf n), x.depth ≤ n := by
      intro l
      induction l with
      | nil => intro vs _ r; cases r; exact ⟨.nil, by simp, by simp⟩
      | cons d l ih2 =>
        intro vs h r
        cases r with
        | cons r1 rr =>
          simp only [List.all_cons, Bool.and_eq_true] at h
          obtain ⟨a1, a2, a3⟩ := ih d _ h.1 r1
          obtain ⟨b1, b2, b3⟩ := ih2 _ h.2 rr
          refine ⟨.cons a1 b1, ?_, ?_⟩
          · simp only [List.map_cons, List.mem_cons, forall_eq_or_imp]; exact ⟨a2, b2⟩
          · simp only [List.map_cons, List.mem_cons, forall_eq_or_imp]; exact ⟨a3, b3⟩
    intro d v h r
    cases r with
    | non => exact ⟨.non, rfl, Nat.zero_le _⟩
    | bl b => exact ⟨.bl b, rfl, Nat.zero_le _⟩
    | int b => exact ⟨.int b, rfl, Nat.zero_le _⟩
    | str x h1 h2 => exact ⟨.str x, h1, Nat.zero_le _⟩
    | tup hf hl rs =>
      obtain ⟨b1, b2, b3⟩ := all _ _ h rs
      exact ⟨.tup (SqT.of (fH _ _ hf)) b1, canAll b2, Nat.succ_le_succ (depthAll_le _ b3)⟩
    | lst hf hl rs =>
      obtain ⟨b1, b2, b3⟩ := all _ _ h rs
      exact ⟨.lst (SqL.of (fH _ _ hf)) b1, canAll b2, Nat.succ_le_succ (depthAll_le _ b3)⟩
    | _ => cases h
theorem dps_of (fH : Same F H) (n : Nat) : ∀ (l : List D) (vs : List V), l.all (okD n) = true → RDs K ρ F l vs → DpAll K H vs (l.map (pyOf n)) ∧ (∀ x ∈ l.map (pyOf n), x.canLay0 = true) ∧ ∀ x ∈ l.map (pyOf n), x.depth ≤ n := by
  intro l
  induction l with
  | nil => intro vs _ r; cases r; exact ⟨.nil, by simp, by simp⟩
  | cons d l ih2 =>
    intro vs h r
    cases r with
    | cons r1 rr =>
      simp only [List.all_cons, Bool.and_eq_true] at h
      obtain ⟨a1, a2, a3⟩ := dp_of fH n d _ h.1 r1
      obtain ⟨b1, b2, b3⟩ := ih2 _ h.2 rr
      refine ⟨.cons a1 b1, ?_, ?_⟩
      · simp only [List.map_cons, List.mem_cons, forall_eq_or_imp]; exact ⟨a2, b2⟩
      · simp only [List.map_cons, List.mem_cons, forall_eq_or_imp]; exact ⟨a3, b3⟩
theorem beq_dec (x y : Str) : (x == y) = decide (x = y) := by
  by_cases h : x = y
  · subst h; simp
  · simp [h]
theorem eqv_of : ∀ (n : Nat) (d e : D), okD n d = true → okD n e = true → PyData.eqv (pyOf n d) (pyOf n e) = eqD n d e := by
  intro n
  induction n with
  | zero =>
    intro d e h1 h2
    cases d <;> first | (cases h1; done) | skip
    all_goals (cases e <;> first | (cases h2; done) | rfl | exact beq_dec _ _)
  | succ n ih =>
    have all : ∀ (l m : List D), l.all (okD n) = true → m.all (okD n) = true → PyData.eqvAll (l.map (pyOf n)) (m.map (pyOf n)) = all2 (eqD n) l m := by
      intro l
      induction l with
      | nil => intro m _ _; cases m <;> rfl
      | cons d l ih2 =>
        intro m h1 h2
        cases m with
        | nil => rfl
        | cons e m =>
          simp only [List.all_cons, Bool.and_eq_true] at h1 h2
          show (PyData.eqv (pyOf n d) (pyOf n e) && PyData.eqvAll (l.map (pyOf n)) (m.map (pyOf n))) = (eqD n d e && all2 (eqD n) l m)
          rw [ih d e h1.1 h2.1, ih2 m h1.2 h2.2]
    intro d e h1 h2
    cases d <;> first | cases h1; done | skip
    all_goals (cases e <;> first | (cases h2; done) | rfl | exact beq_dec _ _ | exact all _ _ h1 h2)
theorem shaped_of {p : PyData} {n : Nat} (hn : n ≤ 64) (h1 : p.canLay0 = true) (h2 : p.depth ≤ n) : SeqAt.shaped p = true := by
  unfold SeqAt.shaped
  rw [h1, decide_eq_true (Nat.le_trans h2 hn)]; rfl
theorem top_dp {d : D} {v : V} (g : Good K ρ F G H st) (r : RD K ρ F d v) (h : okD 60 (top st d) = true) : Dp K H v (pyOf 60 (top st d)) ∧ (pyOf 60 (top st d)).canLay0 = true ∧ (pyOf 60 (top st d)).depth ≤ 60 := by
  have lists : ∀ (l : List D) (a : Addr) (xs : List V), SqL K H a xs → RDs K ρ F l xs → okD 60 (.lst l) = true → Dp K H (.ref a) (pyOf 60 (.lst l)) ∧ (pyOf 60 (.lst l)).canLay0 = true ∧ (pyOf 60 (.lst l)).depth ≤ 60 := fun l a xs ha rs hk => by
    obtain ⟨b1, b2, b3⟩ := dps_of g.f 59 l xs hk rs
    exact ⟨.lst ha b1, canAll b2, Nat.succ_le_succ (depthAll_le _ b3)⟩
  cases r with
  | scr hf hl => exact lists _ _ _ (g.f.seq hf) (RDs.ints _) h
  | @ref k a hr =>
    unfold top at h ⊢
    dsimp only at h ⊢
    cases hk : st[k]? with
    | none => rw [hk] at h; cases h
    | some o =>
      rw [hk] at h
      cases o with
      | lst l =>
        obtain ⟨_, _, xs, h1, h2, h3⟩ := g.obj k a _ hr hk
        exact lists l a xs (SqL.of h1) h3 h
      | fz d =>
        obtain ⟨_, q⟩ := g.obj k a _ hr hk
        exact dp_of g.f 60 d _ h q
      | _ => cases h
  | tup hf hl rs => exact dp_of g.f 60 _ _ h (.tup hf hl rs)
  | lst hf hl rs => exact dp_of g.f 60 _ _ h (.lst hf hl rs)
  | ktup _ _ => cases h
  | ty _ => cases h
  | glo _ => cases h
  | raw _ => cases h
  | non => exact dp_of (ρ := ρ) g.f 60 _ _ h .non
  | bl b => exact dp_of (ρ := ρ) g.f 60 _ _ h (.bl b)
  | int b => exact dp_of (ρ := ρ) g.f 60 _ _ h (.int b)
  | str b h1 h2 => exact dp_of (ρ := ρ) g.f 60 _ _ h (.str b h1 h2)
theorem s_eq : Op2 K fEq (rEqD K) := fun {W σ ρ F G H st x y u v Q} g rx ry p => by
  unfold fEq at p
  split at p
  · rename_i h
    simp only [Bool.and_eq_true] at h
    obtain ⟨a1, a2, a3⟩ := top_dp g rx h.1
    obtain ⟨b1, b2, b3⟩ := top_dp g ry h.2
    refine ⟨_, _, a1, b1, shaped_of (by decide) a2 a3, shaped_of (by decide) b2 b3, ?_⟩
    rw [eqv_of _ _ _ h.1 h.2]
    exact p.now g _ (.bl _)
  · exact p.elim
theorem s_ne : Op2 K fNe (rNeD K) := fun {W σ ρ F G H st x y u v Q} g rx ry p => by
  unfold fNe at p
  split at p
  · rename_i h
    simp only [Bool.and_eq_true] at h
    obtain ⟨a1, a2, a3⟩ := top_dp g rx h.1
    obtain ⟨b1, b2, b3⟩ := top_dp g ry h.2
    refine ⟨_, _, a1, b1, shaped_of (by decide) a2 a3, shaped_of (by decide) b2 b3, ?_⟩
    rw [eqv_of _ _ _ h.1 h.2]
    exact p.now g _ (.bl _)
  · exact p.elim
theorem isNone_ok {d : D} {v : V} (r : RD K ρ F d v) : decide (v = .non) = isNone d := by
  cases r <;> first | rfl | exact decide_eq_false (by intro q; cases q)
variable {a b : Expr} {pos : Pos} {ra rb : RE}
theorem x_isN {j : Nat} {pos' : Pos} (ha : PE X a (toTE X.K W ra)) : PE X (.Compare a [.Is] [.Constant .none j pos'] pos) (toTE X.K W (rUn fIsN ra)) :=
  PE.imp (pe_cmp (pc_isN ha)) fun σ H Q ⟨ρ, F, G, e, st, g, ev, p⟩ => te_bind g ev p fun ρ1 F1 H1 d st1 v _ _ g1 ev1 r1 p1 => by
    rw [isNone_ok r1]; exact p1.now g1 _ (.bl _)
theorem x_notN {j : Nat} {pos' : Pos} (ha : PE X a (toTE X.K W ra)) : PE X (.Compare a [.IsNot] [.Constant .none j pos'] pos) (toTE X.K W (rUn fNotN ra)) :=
  PE.imp (pe_cmp (pc_notN ha)) fun σ H Q ⟨ρ, F, G, e, st, g, ev, p⟩ => te_bind g ev p fun ρ1 F1 H1 d st1 v _ _ g1 ev1 r1 p1 => by
    rw [isNone_ok r1]; exact p1.now g1 _ (.bl _)
theorem t_isN {j : Nat} {pos' : Pos} (ha : PE X a (toTE X.K W ra)) : PT X (.Compare a [.Is] [.Constant .none j pos'] pos) (toTT X.K W (tVal (rUn fIsN ra))) :=
  PT.imp (pt_cmp (pc_isN ha)) fun σ H Q ⟨ρ, F, G, e, st, g, ev, p⟩ => by
    unfold tVal rUn at p
    rw [Res.bind_assoc] at p
    exact te_bind g ev p fun ρ1 F1 H1 d st1 v _ _ g1 ev1 r1 p1 => ⟨_, by rw [isNone_ok r1], p1.now g1⟩
theorem t_notN {j : Nat} {pos' : Pos} (ha : PE X a (toTE X.K W ra)) : PT X (.Compare a [.IsNot] [.Constant .none j pos'] pos) (toTT X.K W (tVal (rUn fNotN ra))) :=
  PT.imp (pt_cmp (pc_notN ha)) fun σ H Q ⟨ρ, F, G, e, st, g, ev, p⟩ => by
    unfold tVal rUn at p
    rw [Res.bind_assoc] at p
    exact te_bind g ev p fun ρ1 F1 H1 d st1 v _ _ g1 ev1 r1 p1 => ⟨_, by rw [isNone_ok r1], p1.now g1⟩

/-! ### subscripts -/
theorem ixN_eq (n : Nat) (i : Int) : L2.ixN n i = ixN n i := rfl
theorem atI_rd {l : List D} {xs : List V} {i : Int} {d : D} (rs : RDs K ρ F l xs) (h : atI l i = some d) : ∃ v, L2.atI xs i = some v ∧ RD K ρ F d v := by
  unfold atI at h
  obtain ⟨j, h1, h2⟩ := Option.bind_eq_some_iff.mp h
  obtain ⟨v, h3, h4⟩ := rs.get h2
  refine ⟨v, ?_, h4⟩
  unfold L2.atI
  rw [← rs.length, ixN_eq, h1]
  exact h3
theorem s_ix : Op2 K fIx (rIx K) := fun {W σ ρ F G H st x y u v Q} g rx ry p => by
  unfold fIx at p
  cases ry with
  | int i =>
    dsimp only at p
    split at p
    · rename_i z
      cases rx with
      | str _ h1 h2 =>
        cases hc : atI z.cps.toList i with
        | none => rw [hc] at p; exact p.elim
        | some c =>
          rw [hc] at p
          obtain ⟨j, q1, q2⟩ := Option.bind_eq_some_iff.mp hc
          exact .inr (.inr ⟨z, i, c, rfl, rfl, by rw [cap_eq]; exact h2, hc, p.now g _ (.str _ (strOk_one h1 (List.mem_of_getElem? q2)) one_le)⟩)
    · rename_i ns
      cases rx with
      | @scr a _ hf hl =>
        cases hc : atI ns i with
        | none => rw [hc] at p; exact p.elim
        | some n =>
          rw [hc] at p
          refine .inl ⟨_, _, i, .int n, rfl, rfl, g.f.seq hf, ?_, p.now g _ (.int _)⟩
          unfold atI at hc
          unfold L2.atI
          rw [List.length_map]
          obtain ⟨j, q1, q2⟩ := Option.bind_eq_some_iff.mp hc
          rw [ixN_eq, q1]
          simp [q2]
    · cases ha : asS st x with
      | none => rw [ha] at p; exact p.elim
      | some l =>
        rw [ha] at p
        dsimp only at p
        obtain ⟨q, xs, e1, h1, rs⟩ := asS_ok g rx ha
        subst e1
        cases hc : atI l i with
        | none => rw [hc] at p; exact p.elim
        | some d =>
          rw [hc] at p
          obtain ⟨w, c1, c2⟩ := atI_rd rs hc
          rcases h1 with h1 | h1
          · exact .inl ⟨_, _, _, _, rfl, rfl, h1, c1, p.now g _ c2⟩
          · exact .inr (.inl ⟨_, _, _, _, rfl, rfl, h1, c1, p.now g _ c2⟩)
  | _ => exact p.elim
theorem sIx_eq (n d : Nat) (o : Option Int) : HT.sIx n d o = sIx n d o := by
  cases o with
  | none => rfl
  | some v => rfl
theorem cut_rd {l : List D} {xs : List V} (rs : RDs K ρ F l xs) (lo hi : Option Int) : RDs K ρ F (cut l lo hi) (cutV xs lo hi) := by
  unfold cut cutV
  rw [sIx_eq, sIx_eq, rs.length]
  exact (rs.drop _).take _
def rSlAny (K : PySem.W.Frag) : V → Option Int → Option Int → Hp → VK → Prop := fun x lo hi H Q => rSlA K x lo hi H Q ∨ L2.rSlS x lo hi H Q ∨ rSlL K x lo hi H Q
theorem sl_any : SlR X (rSlAny X.K) := sl_tupA.or (sl_str.or sl_list)
theorem strOk_sub {x : Str} (h : PyData.strOk x = true) {l : List Nat} (hl : ∀ c ∈ l, c ∈ x.cps.toList) : PyData.strOk ⟨l.toArray⟩ = true := by
  unfold PyData.strOk at h ⊢
  rw [← Array.all_toList] at h ⊢
  simp only [List.all_eq_true] at h ⊢
  exact fun c hc => h c (hl c (by simpa using hc))
theorem cutV_len (xs : List V) (lo hi : Option Int) : (cutV xs lo hi).length ≤ xs.length := cutV_length xs lo hi
/-! a part of a slice -/
def toTO (K : PySem.W.Frag) (W : WX) (r : Py.RO) : TO := fun σ H Q => ∃ (ρ : List Addr) (F G : Hp) (e : Env) (st : Store), Good K ρ F G H st ∧ EnvR K ρ F e σ ∧ Pst K W ρ F G σ (r e st) (fun _ _ H' o _ => Q o H')
theorem PO.imp {eo : Option Expr} {t t' : TO} (h : PO X eo t) (i : ∀ σ H Q, t' σ H Q → t σ H Q) : PO X eo t' := ⟨fun pins s σ H Q I q => h.run pins s σ H Q I (i σ H Q q)⟩
theorem o_none : PO X none (toTO X.K W oNone) := PO.imp po_none fun σ H Q ⟨ρ, F, G, e, st, g, ev, p⟩ => p.now g
theorem o_some (ha : PE X a (toTE X.K W ra)) : PO X (some a) (toTO X.K W (oSome ra)) :=
  PO.imp (po_some ha) fun σ H Q ⟨ρ, F, G, e, st, g, ev, p⟩ => te_bind g ev p fun ρ1 F1 H1 d st1 v _ _ g1 ev1 r1 p1 => by
    cases r1 with
    | int i => exact ⟨i, rfl, p1.now g1⟩
    | _ => exact p1.elim
theorem to_bind {α : Type} {Q : List Addr → Hp → Hp → α → Store → Prop} {r : Py.RO} {e : Env} {k : Option Int → Store → Res α} {T : Option Int → Hp → Prop} (g : Good K ρ F G H st) (ev : EnvR K ρ F e σ) (p : Pst K W ρ F G σ ((r e st).bind k) Q)
    (h : ∀ (ρ1 : List Addr) (F1 H1 : Hp) (b : Option Int) (st1 : Store), Sub ρ ρ1 → Same F F1 → Good K ρ1 F1 G H1 st1 → EnvR K ρ1 F1 e σ → Pst K W ρ1 F1 G σ (k b st1) Q → T b H1) : toTO K W r σ H T :=
  ⟨ρ, F, G, e, st, g, ev, p.bind.mp fun ρ' F' H' a st' s f g' _ q => h ρ' F' H' a st' s f g' (ev.mono s f) q⟩
theorem x_sl {lo hi : Option Expr} {p2 : Pos} {rl rh : Py.RO} (ha : PE X a (toTE X.K W ra)) (hl : PO X lo (toTO X.K W rl)) (hh : PO X hi (toTO X.K W rh)) : PE X (.Subscript a (.Slice lo hi none p2) pos) (toTE X.K W (rSl fSl ra rl rh)) :=
  PE.imp (pe_slice sl_any ha hl hh) fun σ H Q ⟨ρ, F, G, e, st, g, ev, p⟩ => te_bind g ev p fun ρ1 F1 H1 d st1 v _ _ g1 ev1 r1 p1 =>
    to_bind g1 ev1 p1 fun ρ2 F2 H2 o st2 s2 f2 g2 ev2 p2 => to_bind g2 ev2 p2 fun ρ3 F3 H3 o2 st3 s3 f3 g3 ev3 p3 => by
      have rx := (r1.mono s2 f2).mono s3 f3
      unfold fSl at p3
      split at p3
      · rename_i ds
        cases rx with
        | @tup a xs _ hf hl rs =>
          refine .inl ⟨a, xs, rfl, SqT.of (g3.f _ _ hf), fun hw => ?_, fun _ q hq => ?_⟩
          · have e : cut ds o o2 = ds := by
              unfold cut
              rw [← sIx_eq, ← sIx_eq, rs.length, hw.1, hw.2]
              simp only [List.drop_zero, Nat.sub_zero]
              exact List.take_of_length_le (by rw [rs.length]; exact Nat.le_refl _)
            rw [e] at p3
            exact p3.now g3 _ (.tup hf hl rs)
          · obtain ⟨g4, f4⟩ := g3.newF hq (.tup (cutV xs o o2))
            exact p3.to (Sub.refl _) f4 g4 _ (.tup upd_same (Nat.le_trans (cutV_len _ _ _) hl) ((cut_rd rs o o2).mono (Sub.refl _) f4))
      · rename_i z
        cases rx with
        | str _ h1 h2 =>
          have e : L2.cutS z o o2 = ⟨(cut z.cps.toList o o2).toArray⟩ := by
            unfold L2.cutS cut
            rw [sIx_eq, sIx_eq]
            simp only [Array.length_toList]
            rfl
          refine .inr (.inl ⟨z, rfl, by rw [cap_eq]; exact h2, ?_⟩)
          have hlen : (L2.cutS z o o2).length ≤ cap := Nat.le_trans (L2.cutS_length z o o2) h2
          rw [e] at hlen ⊢
          exact p3.now g3 _ (.str _ (strOk_sub h1 fun c hc => List.mem_of_mem_drop (List.mem_of_mem_take hc)) hlen)
      · cases ha : asL st3 d with
        | none => rw [ha] at p3; exact p3.elim
        | some l =>
          rw [ha] at p3
          obtain ⟨q, xs, e1, h1, h2, rs⟩ := asL_ok g3 rx ha
          subst e1
          refine .inr (.inr ⟨q, xs, rfl, SqL.of h1, fun w hw => ?_⟩)
          obtain ⟨g4, f4⟩ := g3.newF hw (.lst (cutV xs o o2))
          exact p3.to (Sub.refl _) f4 g4 _ (.lst upd_same (Nat.le_trans (cutV_len _ _ _) h2) ((cut_rd rs o o2).mono (Sub.refl _) f4))
end
end Py

set_option Elab.async false
set_option linter.all false
set_option maxRecDepth 100000
set_option maxHeartbeats 1000000
set_option autoImplicit false
namespace Py
open PySem PySem.Spec L2

section
variable {X : Cx} {W : WX} {K : PySem.W.Frag} {ρ : List Addr} {F G H : Hp} {st : Store} {σ : St}

/-! ### keys and dicts -/
theorem keyOf_ok {d : D} {v : V} {k : L2.Key} (r : RD K ρ F d v) (h : keyOf d = some k) : v = kV k ∧ KOk k ∧ d = kD k := by
  cases r <;> first | (cases h; done) | skip
  · cases h; exact ⟨rfl, True.intro, rfl⟩
  · rename_i x h1 h2; cases h; exact ⟨rfl, ⟨h1, h2⟩, rfl⟩
theorem keysOf_ok : ∀ {ds : List D} {vs : List V} {ks : List L2.Key}, RDs K ρ F ds vs → keysOf ds = some ks → vs = ks.map kV ∧ ∀ k ∈ ks, KOk k
  | _, _, _, .nil, h => by cases h; exact ⟨rfl, by simp⟩
  | _, _, ks, .cons r rs, h => by
    unfold keysOf at h
    split at h
    · rename_i k ks' h1 h2
      cases h
      obtain ⟨e1, k1, _⟩ := keyOf_ok r h1
      obtain ⟨e2, k2⟩ := keysOf_ok rs h2
      exact ⟨by rw [e1, e2]; rfl, by simp only [List.mem_cons, forall_eq_or_imp]; exact ⟨k1, k2⟩⟩
    · cases h
theorem keysOf_len : ∀ {ds : List D} {ks : List L2.Key}, keysOf ds = some ks → ks.length = ds.length
  | [], _, h => by cases h; rfl
  | d :: ds, ks, h => by
    unfold keysOf at h
    split at h
    · rename_i k ks' h1 h2
      cases h
      simp [keysOf_len h2]
    · cases h
/-- two tables with the same keys, values standing for one another -/
theorem look_ok {κ : Type} [DecidableEq κ] : ∀ {l : List (κ × D)} {m : List (κ × V)} (k : κ), m.map (·.1) = l.map (·.1) → RDs K ρ F (l.map (·.2)) (m.map (·.2)) → (look l k = none ∧ valV m k = none) ∨ ∃ d v, look l k = some d ∧ valV m k = some v ∧ RD K ρ F d v
  | [], [], k, _, _ => .inl ⟨rfl, rfl⟩
  | [], _ :: _, k, h, _ => by cases h
  | _ :: _, [], k, h, _ => by cases h
  | (a, d) :: l, (b, v) :: m, k, h, r => by
    simp only [List.map_cons, List.cons.injEq] at h
    obtain ⟨e, h⟩ := h
    subst e
    cases r with
    | cons r1 rs =>
      by_cases e : b = k
      · exact .inr ⟨d, v, by simp [look, List.find?_cons, e], valV_pos e, r1⟩
      · rcases look_ok k h rs with ⟨h1, h2⟩ | ⟨d', v', h1, h2, h3⟩
        · refine .inl ⟨?_, by rw [valV_neg e]; exact h2⟩
          unfold look at h1 ⊢
          simpa [List.find?_cons, e] using h1
        · refine .inr ⟨d', v', ?_, by rw [valV_neg e]; exact h2, h3⟩
          unfold look at h1 ⊢
          simpa [List.find?_cons, e] using h1
theorem any_fst {κ α : Type} [DecidableEq κ] (k : κ) : ∀ (l : List (κ × α)), (l.any fun kv => decide (kv.1 = k)) = (l.map (·.1)).any fun a => decide (a = k)
  | [] => rfl
  | _ :: l => by simp only [List.any_cons, List.map_cons, any_fst k l]
theorem put_ok {κ : Type} [DecidableEq κ] {l : List (κ × D)} {m : List (κ × V)} {k : κ} {d : D} {v : V} (h : m.map (·.1) = l.map (·.1)) (rs : RDs K ρ F (l.map (·.2)) (m.map (·.2))) (r : RD K ρ F d v) :
    (putK m k v).map (·.1) = (put l k d).map (·.1) ∧ RDs K ρ F ((put l k d).map (·.2)) ((putK m k v).map (·.2)) := by
  unfold put putK
  rw [any_fst, any_fst, h]
  split
  · rename_i hk
    clear hk
    constructor
    · have e1 : ∀ (l : List (κ × D)), (l.map fun kv => if kv.1 = k then (kv.1, d) else kv).map (·.1) = l.map (·.1) := fun l => by
        rw [List.map_map]; exact List.map_congr_left fun a _ => by simp only [Function.comp]; split <;> rfl
      have e2 : ∀ (l : List (κ × V)), (l.map fun kv => if kv.1 = k then (kv.1, v) else kv).map (·.1) = l.map (·.1) := fun l => by
        rw [List.map_map]; exact List.map_congr_left fun a _ => by simp only [Function.comp]; split <;> rfl
      rw [e1, e2, h]
    · have go : ∀ (l : List (κ × D)) (m : List (κ × V)), m.map (·.1) = l.map (·.1) → RDs K ρ F (l.map (·.2)) (m.map (·.2)) → RDs K ρ F ((l.map fun kv => if kv.1 = k then (kv.1, d) else kv).map (·.2)) ((m.map fun kv => if kv.1 = k then (kv.1, v) else kv).map (·.2)) := by
        intro l
        induction l with
        | nil => intro m h _; cases m with
          | nil => exact .nil
          | cons _ _ => cases h
        | cons p l ih => intro m h rs; cases m with
          | nil => cases h
          | cons q m =>
            simp only [List.map_cons, List.cons.injEq] at h
            cases rs with
            | cons r1 rr =>
              simp only [List.map_cons]
              rw [h.1]
              refine .cons ?_ (ih m h.2 rr)
              by_cases e : p.1 = k
              · rw [if_pos e, if_pos e]; exact r
              · rw [if_neg e, if_neg e]; exact r1
      exact go l m h rs
  · rw [List.map_append, List.map_append, List.map_append, List.map_append, h]
    exact ⟨rfl, rs.append (.cons r .nil)⟩
theorem drop_ok {κ : Type} [DecidableEq κ] {k : κ} : ∀ {l : List (κ × D)} {m : List (κ × V)}, m.map (·.1) = l.map (·.1) → RDs K ρ F (l.map (·.2)) (m.map (·.2)) →
    (dropK m k).map (·.1) = (drop l k).map (·.1) ∧ RDs K ρ F ((drop l k).map (·.2)) ((dropK m k).map (·.2))
  | [], [], _, _ => ⟨rfl, .nil⟩
  | [], _ :: _, h, _ => by cases h
  | _ :: _, [], h, _ => by cases h
  | p :: l, q :: m, h, r => by
    simp only [List.map_cons, List.cons.injEq] at h
    cases r with
    | cons r1 rs =>
      obtain ⟨a1, a2⟩ := drop_ok (k := k) h.2 rs
      unfold drop dropK at a1 a2 ⊢
      rw [List.filter_cons, List.filter_cons, h.1]
      split
      · exact ⟨by rw [List.map_cons, List.map_cons, a1, h.1], .cons r1 a2⟩
      · exact ⟨a1, a2⟩
theorem put_keys {κ : Type} [DecidableEq κ] {P : κ → Prop} {l : List (κ × D)} {k : κ} {d : D} (h : ∀ p ∈ l, P p.1) (hk : P k) : ∀ p ∈ put l k d, P p.1 := by
  unfold put
  split
  · intro p hp
    obtain ⟨q, h1, h2⟩ := List.mem_map.mp hp
    have := h q h1
    rw [← h2]
    split <;> exact this
  · intro p hp
    rcases List.mem_append.mp hp with hp | hp
    · exact h p hp
    · have e : p = (k, d) := by simpa using hp
      rw [e]; exact hk
/-- what dget tells -/
theorem dget_ok {x y : D} {u v : V} {o : Option D} (g : Good K ρ F G H st) (rx : RD K ρ F x u) (ry : RD K ρ F y v) (h : dget st x y = some o) : ∃ a ov, u = .ref a ∧ IsD H a ∧ DGet H a v ov ∧ ((o = none ∧ ov = none) ∨ ∃ d w, o = some d ∧ ov = some w ∧ RD K ρ F d w) := by
  unfold dget at h
  cases rx <;> first | (cases h; done) | skip
  rename_i k a hr
  dsimp only at h
  split at h
  · rename_i l hk
    obtain ⟨_, _, ys, h1, h2, h3, h4, h5⟩ := g.obj k a _ hr hk
    cases hky : keyOf y with
    | none => rw [hky] at h; cases h
    | some ky =>
      rw [hky] at h
      cases h
      obtain ⟨e1, _, _⟩ := keyOf_ok ry hky
      subst e1
      refine ⟨a, valV ys ky, rfl, .inl ⟨ys, .inl h1⟩, DGet.k h1, ?_⟩
      rcases look_ok ky h3 h4 with ⟨b1, b2⟩ | ⟨d, w, b1, b2, b3⟩
      · exact .inl ⟨b1, b2⟩
      · exact .inr ⟨d, w, b1, b2, b3⟩
  · rename_i l hk
    obtain ⟨_, _, ys, h1, h2, h3, h4, h5⟩ := g.obj k a _ hr hk
    cases ry <;> first | (cases h; done) | skip
    rename_i b xs ds hf hl rs
    dsimp only at h
    cases hky : keysOf ds with
    | none => rw [hky] at h; cases h
    | some ky =>
      rw [hky] at h
      cases h
      obtain ⟨e1, _⟩ := keysOf_ok rs hky
      subst e1
      refine ⟨a, valV ys ky, rfl, .inr ⟨ys, .inl h1⟩, DGet.t h1 (g.f _ _ hf), ?_⟩
      rcases look_ok ky h3 h4 with ⟨b1, b2⟩ | ⟨d, w, b1, b2, b3⟩
      · exact .inl ⟨b1, b2⟩
      · exact .inr ⟨d, w, b1, b2, b3⟩
  · cases h

/-! ### in -/
def rDIn (b : Bool) : R2 := fun y x H Q => ∃ a o, x = .ref a ∧ DGet H a y o ∧ Q (.bl (if b then !o.isSome else o.isSome)) H
theorem op_dIn (hu : X.A.units + 1 < cLine) : OpR X (compareOp .In) (rDIn false) := by
  intro pins s σ H x y v u Q I rx ry h
  obtain ⟨a, o, e, g, q⟩ := h
  subst e
  cases ry
  exact d_in hu I g rx fun s' I' => ⟨.bl _, H, I', rfl, q⟩
theorem op_dNotIn (hu : X.A.units + 1 < cLine) : OpR X (compareOp .NotIn) (rDIn true) := by
  intro pins s σ H x y v u Q I rx ry h
  obtain ⟨a, o, e, g, q⟩ := h
  subst e
  cases ry
  exact d_notIn hu I g rx fun s' I' => ⟨.bl _, H, I', rfl, q⟩
def rInDT (K : PySem.W.Frag) (b : Bool) : R2 := fun x y H Q => ∃ d ds, Dp K H x d ∧ Dp K H y (.tuple ds) ∧ SeqAt.shaped d = true ∧ SeqAt.shaped (.tuple ds) = true ∧ Q (.bl (if b then !(ds.any fun z => PyData.eqv z d) else ds.any fun z => PyData.eqv z d)) H
theorem op_inDT (hu : X.A.units + 65 < cLine) : OpR X (compareOp .In) (rInDT X.K false) := by
  intro pins s σ H x y v u Q I rx ry h
  obtain ⟨d, ds, hd, he, sd, se, q⟩ := h
  obtain ⟨as, r1⟩ := Dp.reads I d x v hd rx
  obtain ⟨bs, r2⟩ := Dp.reads I (.tuple ds) y u he ry
  exact SeqAt.in_tuple_reads r2 r1 (SeqAt.canLay_of_shaped se) (SeqAt.canLay_of_shaped sd) (PyProof.Rows.room_in_shaped sd hu) ⟨.bl _, H, I, rfl, q⟩
theorem op_notInDT (hu : X.A.units + 65 < cLine) : OpR X (compareOp .NotIn) (rInDT X.K true) := by
  intro pins s σ H x y v u Q I rx ry h
  obtain ⟨d, ds, hd, he, sd, se, q⟩ := h
  obtain ⟨as, r1⟩ := Dp.reads I d x v hd rx
  obtain ⟨bs, r2⟩ := Dp.reads I (.tuple ds) y u he ry
  exact SeqAt.notIn_tuple_reads r2 r1 (SeqAt.canLay_of_shaped se) (SeqAt.canLay_of_shaped sd) (PyProof.Rows.room_in_shaped sd hu) ⟨.bl _, H, I, rfl, q⟩
def rSign (b : Bool) : R2 := fun x y H Q => ∃ (c : Nat) (z : Str), x = .str ⟨#[c]⟩ ∧ y = .str z ∧ Q (.bl (if b then !decide (c ∈ z.cps.toList) else decide (c ∈ z.cps.toList))) H
def rInDL (K : PySem.W.Frag) (b : Bool) : R2 := fun x y H Q => ∃ d ds, Dp K H x d ∧ Dp K H y (.list ds) ∧ SeqAt.shaped d = true ∧ SeqAt.shaped (.list ds) = true ∧ Q (.bl (if b then !(ds.any fun z => PyData.eqv z d) else ds.any fun z => PyData.eqv z d)) H
def rInA (K : PySem.W.Frag) (b : Bool) : R2 := fun x y H Q => rIn K b x y H Q ∨ rSign b x y H Q ∨ rDIn b x y H Q ∨ rInDL K b x y H Q ∨ rInDT K b x y H Q
theorem op_inA (hu : X.A.units + 65 < cLine) : OpR X (compareOp .In) (rInA X.K false) := op_in_seq.or (op_in_sign.or ((op_dIn (by omega)).or ((op_inD hu).or (op_inDT hu))))
theorem op_notInA (hu : X.A.units + 65 < cLine) : OpR X (compareOp .NotIn) (rInA X.K true) := op_notIn_seq.or (op_notIn_sign.or ((op_dNotIn (by omega)).or ((op_notInD hu).or (op_notInDT hu))))
theorem flat_ok {d : D} {v : V} (r : RD K ρ F d v) (h : flat d = true) : flatV v = true := by
  cases r <;> first | rfl | (cases h; done)
theorem flats_ok : ∀ {ds : List D} {vs : List V}, RDs K ρ F ds vs → ds.all flat = true → vs.all flatV = true
  | _, _, .nil, _ => rfl
  | _, _, .cons r rs, h => by
    simp only [List.all_cons, Bool.and_eq_true] at h ⊢
    exact ⟨flat_ok r h.1, flats_ok rs h.2⟩
theorem eqF_ok {d e : D} {v u : V} (r : RD K ρ F d v) (r2 : RD K ρ F e u) (h : flat d = true) (h2 : flat e = true) : eqV v u = eqF d e := by
  cases r <;> first | (cases h; done) | skip
  all_goals (cases r2 <;> first | (cases h2; done) | rfl | skip)
theorem inF_ok {x : D} {u : V} (r : RD K ρ F x u) (h : flat x = true) : ∀ {ds : List D} {vs : List V}, RDs K ρ F ds vs → ds.all flat = true → inV u vs = inF x ds
  | _, _, .nil, _ => rfl
  | _, _, .cons r1 rs, h1 => by
    simp only [List.all_cons, Bool.and_eq_true] at h1
    unfold inV inF
    simp only [List.any_cons]
    rw [eqF_ok r1 r h1.1 h]
    have := inF_ok r h rs h1.2
    unfold inV inF at this
    rw [this]
theorem any_eqv {n : Nat} {x : D} (hx : okD n x = true) : ∀ (l : List D), l.all (okD n) = true → ((l.map (pyOf n)).any fun z => PyData.eqv z (pyOf n x)) = l.any fun z => eqD n z x
  | [], _ => rfl
  | d :: l, h => by
    simp only [List.all_cons, Bool.and_eq_true] at h
    simp only [List.map_cons, List.any_cons, any_eqv hx l h.2, eqv_of n d x h.1 hx]
theorem inB_ok {b : Bool} {x y : D} {u v : V} {c : Bool} {Q : VK} (g : Good K ρ F G H st) (rx : RD K ρ F x u) (ry : RD K ρ F y v) (h : inB x y st = some c) (q : Q (.bl (if b then !c else c)) H) : rInA K b u v H Q := by
  unfold inB at h
  split at h
  · rename_i z
    cases ry with
    | str _ h1 h2 =>
      cases rx with
      | str w h3 h4 =>
        dsimp only at h
        split at h
        · rename_i n hw
          cases h
          refine .inr (.inl ⟨n, z, ?_, rfl, q⟩)
          have : w.cps = #[n] := by
            apply Array.ext'
            simpa using hw
          obtain ⟨cps⟩ := w
          cases this
          rfl
        · cases h
      | _ => cases h
  · rename_i hy
    cases hd : dget st y x with
    | some o =>
      rw [hd] at h
      cases h
      obtain ⟨a, ov, e1, _, g1, hc⟩ := dget_ok g ry rx hd
      refine .inr (.inr (.inl ⟨a, ov, e1, g1, ?_⟩))
      have : ov.isSome = o.isSome := by
        rcases hc with ⟨c1, c2⟩ | ⟨d, w, c1, c2, _⟩
        · rw [c1, c2]; rfl
        · rw [c1, c2]; rfl
      rw [this]; exact q
    | none =>
      rw [hd] at h
      dsimp only at h
      cases hs : asS st y with
      | none => rw [hs] at h; cases h
      | some l =>
        rw [hs] at h
        dsimp only at h
        obtain ⟨a, xs, e1, hq, rs⟩ := asS_ok g ry hs
        subst e1
        split at h
        · rename_i hf
          cases h
          simp only [Bool.and_eq_true] at hf
          refine .inl ⟨a, xs, rfl, hq, flat_ok rx hf.1, flats_ok rs hf.2, ?_⟩
          rw [inF_ok rx hf.1 rs hf.2]
          exact q
        · have deep : ∀ (hk : (okD 58 x && l.all (okD 58)) = true) (hc : c = l.any fun z => eqD 58 z x), (SqL K H a xs → rInDL K b u (.ref a) H Q) ∧ (SqT K H a xs → rInDT K b u (.ref a) H Q) := fun hk hc => by
            simp only [Bool.and_eq_true] at hk
            obtain ⟨a1, a2, a3⟩ := dp_of g.f 58 x u hk.1 rx
            obtain ⟨b1, b2, b3⟩ := dps_of g.f 58 l xs hk.2 rs
            have sh1 := shaped_of (by decide) a2 a3
            refine ⟨fun hL => ⟨_, _, a1, .lst hL b1, sh1, ?_, ?_⟩, fun hT => ⟨_, _, a1, .tup hT b1, sh1, ?_, ?_⟩⟩
            · exact shaped_of (n := 59) (by decide) (canAll b2) (Nat.succ_le_succ (depthAll_le _ b3))
            · rw [any_eqv hk.1 l hk.2, ← hc]; exact q
            · exact shaped_of (n := 59) (by decide) (canAll b2) (Nat.succ_le_succ (depthAll_le _ b3))
            · rw [any_eqv hk.1 l hk.2, ← hc]; exact q
          split at h
          · cases h
          · split at h
            · rename_i hk
              cases h
              obtain ⟨d1, d2⟩ := deep hk rfl
              rcases hq with hq | hq
              · exact .inr (.inr (.inr (.inl (d1 hq))))
              · exact .inr (.inr (.inr (.inr (d2 hq))))
            · cases h
theorem s_in : Op2 K fIn (rInA K false) := fun {W σ ρ F G H st x y u v Q} g rx ry p => by
  unfold fIn at p
  cases h : inB x y st with
  | none => rw [h] at p; exact p.elim
  | some c => rw [h] at p; exact inB_ok (b := false) g rx ry h (p.now g _ (.bl _))
theorem s_notIn : Op2 K fNotIn (rInA K true) := fun {W σ ρ F G H st x y u v Q} g rx ry p => by
  unfold fNotIn at p
  cases h : inB x y st with
  | none => rw [h] at p; exact p.elim
  | some c => rw [h] at p; exact inB_ok (b := true) g rx ry h (p.now g _ (.bl _))

variable {a b c : Expr} {es : List Expr} {pos : Pos} {ra rb rc : RE} {aa : RA}
/-- d[k] -/
theorem x_dget (hu : X.A.units + 1 < cLine) (ha : PE X a (toTE X.K W ra)) (hb : PE X b (toTE X.K W rb)) (hs : PlainIx b) : PE X (.Subscript a b pos) (toTE X.K W (rBin fDGet ra rb)) :=
  PE.imp (pe_dget hu ha hb hs) fun σ H Q ⟨ρ, F, G, e, st, g, ev, p⟩ => te_bind g ev p fun ρ1 F1 H1 d st1 v _ _ g1 ev1 r1 p1 => te_bind g1 ev1 p1 fun ρ2 F2 H2 d2 st2 v2 s2 f2 g2 ev2 r2 p2 => by
    unfold fDGet at p2
    cases h : dget st2 d d2 with
    | none => rw [h] at p2; exact p2.elim
    | some o =>
      rw [h] at p2
      obtain ⟨q, ov, e1, _, g3, hc⟩ := dget_ok g2 (r1.mono s2 f2) r2 h
      rcases hc with ⟨c1, c2⟩ | ⟨d', w, c1, c2, c3⟩
      · subst c1; exact p2.elim
      · subst c1 c2
        exact ⟨q, w, e1, g3, p2.now g2 _ c3⟩
/-- x[y]: by a dict, or by a sequence -/
theorem x_sub (hu : X.A.units + 1 < cLine) (ha : PE X a (toTE X.K W ra)) (hb : PE X b (toTE X.K W rb)) (hs : PlainIx b := by exact fun _ _ => rfl) : PE X (.Subscript a b pos) (toTE X.K W (rBin fSub2 ra rb)) :=
  PE.imp (PE.or (x_dget hu ha hb hs) (x_ix ix_seq s_ix hs ha hb)) fun σ H Q ⟨ρ, F, G, e, st, g, ev, p⟩ => by
    have key : rBin fSub2 ra rb e st = rBin fDGet ra rb e st ∨ rBin fSub2 ra rb e st = rBin fIx ra rb e st := by
      unfold rBin
      cases h1 : ra e st with
      | exn C s1 => exact .inl rfl
      | bad => exact .inl rfl
      | ok d st1 =>
        simp only [Res.bind_ok]
        cases h2 : rb e st1 with
        | exn C s1 => exact .inl rfl
        | bad => exact .inl rfl
        | ok d2 st2 =>
          simp only [Res.bind_ok]
          unfold fSub2 fDGet
          cases h : dget st2 d d2 with
          | none => exact .inr rfl
          | some o => cases o with
            | none => exact .inl rfl
            | some o => exact .inl rfl
    rcases key with k | k
    · exact .inl ⟨ρ, F, G, e, st, g, ev, by rw [← k]; exact p⟩
    · exact .inr ⟨ρ, F, G, e, st, g, ev, by rw [← k]; exact p⟩

/-! ### calls of built-ins -/
variable {x : Str} {pp : Pos} {id T : String}
theorem x_callB {f : List D → Store → Res D} {r : List V → Hp → VK → Prop} (hc : CallR X (.builtin id) r) (s : CallS X.K f r) (hm : X.mg x = none) (hv : bootBuiltins x = some (.builtin id)) (ha : PA X (a :: es) (toTA X.K W aa)) (hg : Gl X x := by rfl) (hn : x ≠ "__name__" := by decide) (hdb : (x == ("__debug__" : Str)) = false := by decide)
    (he : starEach (a :: es) X.env = (false, eval a X.env) :: starEach es X.env := by rfl) (hpl : (backTo pos (starEach es X.env)).any (·.1) = false := by rfl) : PE X (.Call (.Name x pp) (a :: es) [] pos) (toTE X.K W (rCall f aa)) :=
  PE.imp (pe_callB hc hg hm hv ha hn hdb he hpl) fun σ H Q ⟨ρ, F, G, e, st, g, ev, p⟩ => ta_bind g ev p fun ρ1 F1 H1 ds st1 vs _ _ g1 ev1 r1 p1 => s g1 r1 p1
theorem x_callT {f : List D → Store → Res D} {r : List V → Hp → VK → Prop} (hc : CallR X (.type T) r) (s : CallS X.K f r) (hm : X.mg x = none) (hv : bootBuiltins x = some (.type T)) (ha : PA X (a :: es) (toTA X.K W aa)) (hg : Gl X x := by rfl) (hn : x ≠ "__name__" := by decide) (hdb : (x == ("__debug__" : Str)) = false := by decide)
    (he : starEach (a :: es) X.env = (false, eval a X.env) :: starEach es X.env := by rfl) (hpl : (backTo pos (starEach es X.env)).any (·.1) = false := by rfl) : PE X (.Call (.Name x pp) (a :: es) [] pos) (toTE X.K W (rCall f aa)) :=
  PE.imp (pe_callTy hc hg hm hv ha hn hdb he hpl) fun σ H Q ⟨ρ, F, G, e, st, g, ev, p⟩ => ta_bind g ev p fun ρ1 F1 H1 ds st1 vs _ _ g1 ev1 r1 p1 => s g1 r1 p1
theorem l_callB {f : List D → Store → Res (List D)} {r : List V → Hp → VK → Prop} (hc : CallR X (.builtin id) r) (s : CallL X.K f r) (hm : X.mg x = none) (hv : bootBuiltins x = some (.builtin id)) (ha : PA X (a :: es) (toTA X.K W aa)) (hg : Gl X x := by rfl) (hn : x ≠ "__name__" := by decide) (hdb : (x == ("__debug__" : Str)) = false := by decide)
    (he : starEach (a :: es) X.env = (false, eval a X.env) :: starEach es X.env := by rfl) (hpl : (backTo pos (starEach es X.env)).any (·.1) = false := by rfl) : PE X (.Call (.Name x pp) (a :: es) [] pos) (toTL X.K W (lCall f aa)) :=
  PE.imp (pe_callB hc hg hm hv ha hn hdb he hpl) fun σ H Q ⟨ρ, F, G, e, st, g, ev, p⟩ => ta_bind g ev p fun ρ1 F1 H1 ds st1 vs _ _ g1 ev1 r1 p1 => s g1 r1 p1
theorem l_callT {f : List D → Store → Res (List D)} {r : List V → Hp → VK → Prop} (hc : CallR X (.type T) r) (s : CallL X.K f r) (hm : X.mg x = none) (hv : bootBuiltins x = some (.type T)) (ha : PA X (a :: es) (toTA X.K W aa)) (hg : Gl X x := by rfl) (hn : x ≠ "__name__" := by decide) (hdb : (x == ("__debug__" : Str)) = false := by decide)
    (he : starEach (a :: es) X.env = (false, eval a X.env) :: starEach es X.env := by rfl) (hpl : (backTo pos (starEach es X.env)).any (·.1) = false := by rfl) : PE X (.Call (.Name x pp) (a :: es) [] pos) (toTL X.K W (lCall f aa)) :=
  PE.imp (pe_callTy hc hg hm hv ha hn hdb he hpl) fun σ H Q ⟨ρ, F, G, e, st, g, ev, p⟩ => ta_bind g ev p fun ρ1 F1 H1 ds st1 vs _ _ g1 ev1 r1 p1 => s g1 r1 p1

/-- one argument -/
theorem rds1 {ds : List D} {vs : List V} {d : D} (r : RDs K ρ F ds vs) (h : ds = [d]) : ∃ v, vs = [v] ∧ RD K ρ F d v := by
  subst h
  cases r with
  | cons r rr => cases rr; exact ⟨_, rfl, r⟩
def rLenA (K : PySem.W.Frag) : List V → Hp → VK → Prop := fun xs H Q => (∃ x n, xs = [x] ∧ LenV K x H n ∧ Q (.int n) H) ∨ (∃ (p : Addr) (kvs : List (L2.Key × V)), xs = [.ref p] ∧ H p = some (.dK kvs) ∧ Q (.int kvs.length) H) ∨ rLenT xs H Q
theorem call_lenD2 : CallR X (.builtin "len") (fun xs H Q => ∃ (p : Addr) (kvs : List (L2.Key × V)), xs = [.ref p] ∧ H p = some (.dK kvs) ∧ Q (.int kvs.length) H) := by
  intro pins s σ H xs us Q I r h
  obtain ⟨p, kvs, e, hk, q⟩ := h
  subst e
  obtain ⟨u, eu, rx⟩ := vals1 r
  subst eu
  obtain rfl : u = Value.ref p := rx
  exact d_len I (.inl hk) fun t s' I' => ⟨.int _, H, I', ⟨t, rfl⟩, q⟩
theorem call_lenA : CallR X (.builtin "len") (rLenA X.K) := call_len.or (call_lenD2.or call_len_dT)
theorem s_len : CallS K fLen (rLenA K) := fun {W σ ρ F G H st xs us Q} g rs p => by
  unfold fLen at p
  split at p
  · obtain ⟨v, e, r⟩ := rds1 rs rfl
    subst e
    cases r with
    | str z h1 h2 => exact .inl ⟨_, _, rfl, ⟨by rw [cap_eq]; exact h2, rfl⟩, p.now g _ (.int _)⟩
  · obtain ⟨v, e, r⟩ := rds1 rs rfl
    subst e
    cases r with
    | scr hf hl => exact .inl ⟨_, _, rfl, .inl ⟨_, g.f.seq hf, by rw [List.length_map]⟩, p.now g _ (.int _)⟩
  · rename_i k
    obtain ⟨v, e, r⟩ := rds1 rs rfl
    subst e
    cases r with
    | @ref _ a hr =>
      split at p
      · rename_i l hk
        obtain ⟨_, _, ys, h1, h2, h3, h4, h5⟩ := g.obj k a _ hr hk
        have hl : ys.length = l.length := by simpa using congrArg List.length h3
        refine .inr (.inl ⟨a, ys, rfl, h1, ?_⟩)
        rw [hl]; exact p.now g _ (.int _)
      · rename_i l hk
        obtain ⟨_, _, ys, h1, h2, h3, h4, h5⟩ := g.obj k a _ hr hk
        have hl : ys.length = l.length := by simpa using congrArg List.length h3
        refine .inr (.inr ⟨a, ys, rfl, h1, ?_⟩)
        rw [hl]; exact p.now g _ (.int _)
      · rename_i l hk
        obtain ⟨_, _, ys, h1, h2, h3⟩ := g.obj k a _ hr hk
        exact .inl ⟨_, _, rfl, .inl ⟨ys, SqL.of h1, h3.length⟩, p.now g _ (.int _)⟩
      · rename_i l hk
        obtain ⟨ys, h1, h2, h3⟩ := fz_lst g hr hk
        exact .inl ⟨_, _, rfl, .inl ⟨ys, SqL.of (g.f _ _ h1), h3.length⟩, p.now g _ (.int _)⟩
      · exact p.elim
  · rename_i d _ _ _
    obtain ⟨v, e, r⟩ := rds1 rs rfl
    subst e
    cases ha : asS st d with
    | none => rw [ha] at p; exact p.elim
    | some l =>
      rw [ha] at p
      obtain ⟨a, ys, e1, hq, rr⟩ := asS_ok g r ha
      subst e1
      refine .inl ⟨_, l.length, rfl, ?_, p.now g _ (.int _)⟩
      rcases hq with hq | hq
      · exact .inl ⟨ys, hq, rr.length⟩
      · exact .inr ⟨ys, hq, rr.length⟩
  · exact p.elim
theorem ty_ok {d : D} {v : V} {t : String} (g : Good K ρ F G H st) (r : RD K ρ F d v) (h : tyOf st d = some t) : TyX K H v (.type t) ∧ t ∈ ["NoneType", "bool", "int", "str", "tuple", "list"] := by
  cases r with
  | non => cases h; exact ⟨.base .non, by decide⟩
  | bl b => cases h; exact ⟨.base (.bl b), by decide⟩
  | int b => cases h; exact ⟨.base (.int b), by decide⟩
  | str b _ _ => cases h; exact ⟨.base (.str b), by decide⟩
  | tup hf hl rs => cases h; exact ⟨.base (.tup (g.f _ _ hf)), by decide⟩
  | lst hf hl rs => cases h; exact ⟨.base (.lst (g.f _ _ hf)), by decide⟩
  | scr hf hl =>
    cases h
    refine ⟨?_, by decide⟩
    rcases g.f.seq hf with (q | ⟨o, q⟩) | ⟨o, its, n, q1, q2, _⟩
    · exact .base (.lst q)
    · exact .base (.frz q)
    · exact .kList q1 q2
  | ktup hs hl =>
    cases h
    rcases hs with (hs | ⟨_, hs⟩) | ⟨o, its, n, h1, h2, _⟩
    · cases hs
    · cases hs
    · exact ⟨.kTuple h1 h2, by decide⟩
  | ty n => cases h
  | glo n => cases h
  | raw n => cases h
  | @ref k a hr =>
    unfold tyOf at h
    dsimp only at h
    split at h
    · rename_i l hk
      cases h
      obtain ⟨_, _, ys, h1, h2, h3⟩ := g.obj k a _ hr hk
      exact ⟨.base (.lst h1), by decide⟩
    · rename_i l hk
      cases h
      obtain ⟨ys, h1, h2, h3⟩ := fz_lst g hr hk
      exact ⟨.base (.lst (g.f _ _ h1)), by decide⟩
    · cases h
theorem kit_table : (["NoneType", "bool", "int", "str", "tuple", "list"].all fun t => tyCs.all fun c => kitB t c == some (isTy t c)) = true := by decide +kernel
theorem s_isi : CallS K fIsi (rIsi K) := fun {W σ ρ F G H st xs us Q} g rs p => by
  unfold fIsi at p
  split at p
  · rename_i d c
    cases rs with
    | cons r rr =>
      cases rr with
      | cons r2 rr =>
        cases rr
        cases r2
        cases ht : tyOf st d with
        | none => rw [ht] at p; exact p.elim
        | some t =>
          rw [ht] at p
          dsimp only at p
          split at p
          · rename_i hc
            obtain ⟨h1, h2⟩ := ty_ok g r ht
            have hk := List.all_eq_true.mp (List.all_eq_true.mp kit_table t h2) c (by simpa using hc)
            exact ⟨_, _, _, _, _, rfl, .ty c, h1, kit_ty (by simpa using hk), p.now g _ (.bl _)⟩
          · exact p.elim
  · exact p.elim
theorem asBools_ok : ∀ {ds : List D} {vs : List V} {bs : List Bool}, RDs K ρ F ds vs → asBools ds = some bs → vs = bs.map V.bl
  | _, _, _, .nil, h => by cases h; rfl
  | _, _, bs, .cons r rs, h => by
    cases r <;> first | (cases h; done) | skip
    rename_i b
    unfold asBools at h
    cases hb : asBools _ with
    | none => rw [hb] at h; cases h
    | some l =>
      rw [hb] at h
      cases h
      rw [asBools_ok rs hb]; rfl
theorem asInts_ok : ∀ {ds : List D} {vs : List V} {bs : List Int}, RDs K ρ F ds vs → asInts ds = some bs → vs = bs.map V.int
  | _, _, _, .nil, h => by cases h; rfl
  | _, _, bs, .cons r rs, h => by
    cases r <;> first | (cases h; done) | skip
    rename_i b
    unfold asInts at h
    cases hb : asInts _ with
    | none => rw [hb] at h; cases h
    | some l =>
      rw [hb] at h
      cases h
      rw [asInts_ok rs hb]; rfl
theorem asStrs_ok : ∀ {ds : List D} {vs : List V} {bs : List Str}, RDs K ρ F ds vs → asStrs ds = some bs → vs = bs.map V.str ∧ ∀ x ∈ bs, PyData.strOk x = true ∧ x.length ≤ cap
  | _, _, _, .nil, h => by cases h; exact ⟨rfl, by simp⟩
  | _, _, bs, .cons r rs, h => by
    cases r <;> first | (cases h; done) | skip
    rename_i b h1 h2
    unfold asStrs at h
    cases hb : asStrs _ with
    | none => rw [hb] at h; cases h
    | some l =>
      rw [hb] at h
      cases h
      obtain ⟨e, q⟩ := asStrs_ok rs hb
      exact ⟨by rw [e]; rfl, by simp only [List.mem_cons, forall_eq_or_imp]; exact ⟨⟨h1, h2⟩, q⟩⟩
theorem s_all : CallS K fAll (rAll K) := fun {W σ ρ F G H st xs us Q} g rs p => by
  unfold fAll at p
  split at p
  · rename_i d
    obtain ⟨v, e, r⟩ := rds1 rs rfl
    subst e
    split at p
    · rename_i l hl
      obtain ⟨m, h1, h2⟩ := Option.bind_eq_some_iff.mp hl
      obtain ⟨a, ys, e1, h3, h4, h5⟩ := asL_ok g r h1
      subst e1
      rw [asBools_ok h5 h2] at h3
      exact ⟨_, _, rfl, SqL.of h3, p.now g _ (.bl _)⟩
    · exact p.elim
  · exact p.elim
theorem s_any : CallS K fAny (rAny K) := fun {W σ ρ F G H st xs us Q} g rs p => by
  unfold fAny at p
  split at p
  · rename_i d
    obtain ⟨v, e, r⟩ := rds1 rs rfl
    subst e
    split at p
    · rename_i l hl
      obtain ⟨m, h1, h2⟩ := Option.bind_eq_some_iff.mp hl
      obtain ⟨a, ys, e1, h3, h4, h5⟩ := asL_ok g r h1
      subst e1
      rw [asBools_ok h5 h2] at h3
      exact ⟨_, _, rfl, SqL.of h3, p.now g _ (.bl _)⟩
    · exact p.elim
  · exact p.elim
theorem s_int : CallS K fInt (fun xs H Q => (∃ i, xs = [.int i] ∧ Q (.int i) H) ∨ ∃ k, xs = [.bl k] ∧ Q (.int (if k then 1 else 0)) H) := fun {W σ ρ F G H st xs us Q} g rs p => by
  unfold fInt at p
  split at p
  · obtain ⟨v, e, r⟩ := rds1 rs rfl
    subst e
    cases r
    exact .inl ⟨_, rfl, p.now g _ (.int _)⟩
  · obtain ⟨v, e, r⟩ := rds1 rs rfl
    subst e
    cases r
    exact .inr ⟨_, rfl, p.now g _ (.int _)⟩
  · exact p.elim
theorem s_tuple : CallS K fTuple (fun xs H Q => ∃ p ys, xs = [.ref p] ∧ ((SqL K H p ys ∧ ∀ l, H l = none → Q (.ref l) (upd H l (.tup ys))) ∨ (SqT K H p ys ∧ Q (.ref p) H))) := fun {W σ ρ F G H st xs us Q} g rs p => by
  unfold fTuple at p
  split at p
  · obtain ⟨v, e, r⟩ := rds1 rs rfl
    subst e
    cases r with
    | tup hf hl rr => exact ⟨_, _, rfl, .inr ⟨SqT.of (g.f _ _ hf), p.now g _ (.tup hf hl rr)⟩⟩
  · rename_i d _
    obtain ⟨v, e, r⟩ := rds1 rs rfl
    subst e
    cases ha : asL st d with
    | none => rw [ha] at p; exact p.elim
    | some l =>
      rw [ha] at p
      obtain ⟨a, ys, e1, h3, h4, h5⟩ := asL_ok g r ha
      subst e1
      refine ⟨_, _, rfl, .inl ⟨SqL.of h3, fun q hq => ?_⟩⟩
      obtain ⟨g2, f2⟩ := g.newF hq (.tup ys)
      exact p.to (Sub.refl _) f2 g2 _ (.tup upd_same h4 (h5.mono (Sub.refl _) f2))
  · exact p.elim
end
end Py

set_option Elab.async false
set_option linter.all false
set_option maxRecDepth 100000
set_option maxHeartbeats 1000000
set_option autoImplicit false
namespace Py
open PySem PySem.Spec L2

/-! ### sorts -/
theorem sortedS_pw : ∀ (l : List Str), PyProof.Rows.sortedS l = true → l.Pairwise fun a b => leS a b = true
  | [], _ => List.Pairwise.nil
  | [x], _ => List.pairwise_cons.mpr ⟨by simp, List.Pairwise.nil⟩
  | x :: y :: l, h => by
    have h' : (!PySem.Spec.ltCps y.cps.toList x.cps.toList && PyProof.Rows.risingS y l) = true := h
    simp only [Bool.and_eq_true] at h'
    have hxy : leS x y = true := by
      unfold leS ltS
      rw [← PyProof.Rows.ltCps_eq]; exact h'.1
    have ih := sortedS_pw (y :: l) h'.2
    refine List.pairwise_cons.mpr ⟨fun z hz => ?_, ih⟩
    rcases List.mem_cons.mp hz with e | hz
    · rw [e]; exact hxy
    · exact leS_trans hxy ((List.pairwise_cons.mp ih).1 z hz)
section
variable {X : Cx} {W : WX} {K : PySem.W.Frag} {ρ : List Addr} {F G H : Hp} {st : Store} {σ : St}
def rSortA (K : PySem.W.Frag) : List V → Hp → VK → Prop := fun vs H Q => rSortedS K vs H Q ∨ rSortedI K vs H Q
theorem call_sortA : CallR X (.builtin "sorted") (rSortA X.K) := cr_sortedS.or cr_sortedI
theorem s_sorted : CallL K fSorted (rSortA K) := fun {W σ ρ F G H st xs us Q} g rs p => by
  unfold fSorted at p
  split at p
  · rename_i d
    obtain ⟨v, e, r⟩ := rds1 rs rfl
    subst e
    cases ha : asL st d with
    | none => rw [ha] at p; exact p.elim
    | some l =>
      rw [ha] at p
      dsimp only at p
      obtain ⟨a, ys, e1, h3, h4, h5⟩ := asL_ok g r ha
      subst e1
      cases hs : asStrs l with
      | some ss =>
        rw [hs] at p
        dsimp only at p
        obtain ⟨e2, hok⟩ := asStrs_ok h5 hs
        subst e2
        split at p
        · rename_i h64
          refine .inl ⟨a, ss, rfl, SqL.of h3, h64, fun zs q hp hsrt hq => ?_⟩
          have e3 := isort_unique leS_total (fun _ _ _ => leS_trans) (fun _ _ => leS_anti) hp (sortedS_pw zs hsrt)
          rw [← e3] at p
          refine p.now g _ _ (strs_rds fun x hx => hok x (hp.mem_iff.mp hx)) hq ?_
          rw [List.length_map, hp.length_eq]
          simpa using h4
        · exact p.elim
      | none =>
        rw [hs] at p
        dsimp only at p
        cases hi : asInts l with
        | some ns =>
          rw [hi] at p
          dsimp only at p
          have e2 := asInts_ok h5 hi
          subst e2
          refine .inr ⟨a, ns, rfl, SqL.of h3, fun zs q hp hsrt hq => ?_⟩
          have e3 : zs = isort leI ns := isort_unique (le := leI) (fun a b => by unfold leI; simp only [decide_eq_true_eq]; omega) (fun a b c => by unfold leI; simp only [decide_eq_true_eq]; omega) (fun a b => by unfold leI; simp only [decide_eq_true_eq]; omega) hp (hsrt.imp fun h => by unfold leI; simpa using h)
          rw [← e3] at p
          refine p.now g _ _ (RDs.ints _) hq ?_
          rw [List.length_map, hp.length_eq]
          simpa using h4
        | none => rw [hi] at p; exact p.elim
  · exact p.elim
/-! ### list(x), dict(x) -/
theorem kD_rd {k : L2.Key} (h : KOk k) : RD K ρ F (kD k) (kV k) := by
  cases k with
  | inl i => exact .int i
  | inr x => exact .str x h.1 h.2
theorem kDs_rd : ∀ {ks : List L2.Key}, (∀ k ∈ ks, KOk k) → RDs K ρ F (ks.map kD) (ks.map kV)
  | [], _ => .nil
  | k :: ks, h => .cons (kD_rd (h k List.mem_cons_self)) (kDs_rd fun q hq => h q (List.mem_cons_of_mem _ hq))
/-- tuples that stand are frozen -/
theorem Good.tups (g : Good K ρ F G H st) : ∀ (bs : List (Addr × List V)), (∀ p ∈ bs, H p.1 = some (.tup p.2)) → ∃ F', Same F F' ∧ Good K ρ F' G H st ∧ ∀ p ∈ bs, F' p.1 = some (.tup p.2)
  | [], _ => ⟨F, Same.refl _, g, by simp⟩
  | (b, xs) :: bs, h => by
    obtain ⟨F1, f1, g1, h1⟩ := Good.tups g bs fun p hp => h p (List.mem_cons_of_mem _ hp)
    have hb : H b = some (.tup xs) := h (b, xs) List.mem_cons_self
    have s2 : Same F1 (upd F1 b (.tup xs)) := fun a o q => by
      by_cases e : a = b
      · subst e; rw [upd_same, ← hb]; exact (g1.f a o q).symm ▸ rfl
      · rw [upd_ne e]; exact q
    refine ⟨upd F1 b (.tup xs), f1.trans s2, ⟨fun a o q => ?_, g1.g, fun a o q => ?_, g1.len, g1.nd, fun i a o h1' h2 => ?_⟩, fun p hp => ?_⟩
    · by_cases e : a = b
      · subst e; rw [upd_same] at q; rw [← q]; exact hb
      · rw [upd_ne e] at q; exact g1.f a o q
    · by_cases e : a = b
      · subst e
        have := g1.g a o q
        rw [hb] at this
        cases this
        exact .inr ⟨xs, rfl⟩
      · rw [upd_ne e]; exact g1.fg a o q
    · refine (g1.obj i a o h1' h2).keep (Sub.refl _) s2 (fun n fa => ?_) fun u q => q
      have na : a ≠ b := fun e => by
        subst e
        have ok := g1.obj i a o h1' h2
        cases o with
        | lst ds => obtain ⟨_, _, ys, q, _⟩ := ok; rw [hb] at q; cases q
        | dK ds => obtain ⟨_, _, ys, q, _⟩ := ok; rw [hb] at q; cases q
        | dT ds => obtain ⟨_, _, ys, q, _⟩ := ok; rw [hb] at q; cases q
        | ins C fs => obtain ⟨_, _, dx, ys, q, _⟩ := ok; rw [hb] at q; cases q
        | fz d => exact n d rfl
      rw [upd_ne na]; exact fa
    · rcases List.mem_cons.mp hp with e | hp
      · rw [e]; exact upd_same
      · exact s2 _ _ (h1 p hp)
def rListA (K : PySem.W.Frag) : List V → Hp → VK → Prop := fun xs H Q => (∃ p ys, xs = [.ref p] ∧ (SqL K H p ys ∨ SqT K H p ys) ∧ ∀ l, H l = none → Q (.ref l) (upd H l (.lst ys))) ∨ rListD xs H Q ∨ (∃ d kvs, xs = [V.ref d] ∧ Rd H d (.dT kvs) ∧ ∀ p bs, H p = none → IsKeys H kvs bs → Q (.ref p) (upd H p (.lst (bs.map V.ref))))
theorem call_listA (hc : X.calm = true) : CallR X (.type "list") (rListA X.K) := call_list_of.or ((call_list_dK hc).or (call_list_dT hc))
theorem isKeys_list : ∀ {kvs : List (List L2.Key × V)} {bs : List Addr}, IsKeys H kvs bs → bs.length = kvs.length ∧ ∀ p ∈ bs.zip (kvs.map fun p => p.1.map kV), H p.1 = some (.tup p.2) := by
  intro kvs bs h
  induction h with
  | nil => exact ⟨rfl, by simp⟩
  | cons h1 h2 ih =>
    refine ⟨by simp [ih.1], fun p hp => ?_⟩
    simp only [List.map_cons, List.zip_cons_cons, List.mem_cons] at hp
    rcases hp with e | hp
    · rw [e]; exact h1
    · exact ih.2 p hp
theorem s_list : CallL K fList (rListA K) := fun {W σ ρ F G H st xs us Q} g rs p => by
  unfold fList at p
  split at p
  · rename_i k
    obtain ⟨v, e, r⟩ := rds1 rs rfl
    subst e
    cases r with
    | @ref _ a hr =>
      split at p
      · rename_i l hk
        obtain ⟨_, _, ys, h1, h2, h3, h4, h5⟩ := g.obj k a _ hr hk
        refine .inr (.inl ⟨a, ys, rfl, h1, fun q hq => ?_⟩)
        have e1 : (ys.map fun kv => kV kv.1) = (l.map (·.1)).map kV := by rw [← h3, List.map_map]; rfl
        have e2 : (l.map fun p => kD p.1) = (l.map (·.1)).map kD := by rw [List.map_map]; rfl
        rw [e2] at p
        rw [e1]
        refine p.now g _ _ (kDs_rd fun k hk => ?_) hq ?_
        · obtain ⟨z, hz, ez⟩ := List.mem_map.mp hk
          rw [← ez]; exact h5 z hz
        · rw [List.length_map, List.length_map]
          have : ys.length = l.length := by simpa using congrArg List.length h3
          omega
      · rename_i l hk
        obtain ⟨_, _, ys, h1, h2, h3, h4, h5⟩ := g.obj k a _ hr hk
        refine .inr (.inr ⟨a, ys, rfl, .inl h1, fun q bs hq hb => ?_⟩)
        obtain ⟨hl, hbs⟩ := isKeys_list hb
        obtain ⟨F', f', g', h'⟩ := g.tups _ hbs
        refine p.to (Sub.refl _) f' g' _ _ ?_ hq (by rw [List.length_map, hl]; exact h2)
        have go : ∀ (l : List (List L2.Key × D)) (ys : List (List L2.Key × V)) (bs : List Addr), ys.map (·.1) = l.map (·.1) → bs.length = ys.length → (∀ p ∈ l, p.1.length ≤ cap ∧ ∀ k ∈ p.1, KOk k) → (∀ p ∈ bs.zip (ys.map fun p => p.1.map kV), F' p.1 = some (.tup p.2)) → RDs K ρ F' (l.map fun p => D.tup (p.1.map kD)) (bs.map V.ref) := by
          intro l
          induction l with
          | nil =>
            intro ys bs e1 e2 _ _
            cases ys with
            | nil => cases bs with
              | nil => exact .nil
              | cons _ _ => cases e2
            | cons _ _ => cases e1
          | cons z l ih =>
            intro ys bs e1 e2 hk hF
            cases ys with
            | nil => cases e1
            | cons y ys => cases bs with
              | nil => cases e2
              | cons b bs =>
                simp only [List.map_cons, List.cons.injEq] at e1
                have hz := hk z List.mem_cons_self
                refine .cons ?_ (ih ys bs e1.2 (by simpa using e2) (fun p hp => hk p (List.mem_cons_of_mem _ hp)) fun p hp => hF p (by simp only [List.map_cons, List.zip_cons_cons]; exact List.mem_cons_of_mem _ hp))
                have hb := hF (b, y.1.map kV) (by simp only [List.map_cons, List.zip_cons_cons]; exact List.mem_cons_self)
                rw [e1.1] at hb
                exact .tup hb (by rw [List.length_map]; exact hz.1) (kDs_rd hz.2)
        exact go l ys bs h3 hl h5 h'
      · rename_i l hk
        obtain ⟨_, _, ys, h1, h2, h3⟩ := g.obj k a _ hr hk
        exact .inl ⟨a, ys, rfl, .inl (SqL.of h1), fun q hq => p.now g _ _ h3 hq h2⟩
      · rename_i l hk
        obtain ⟨ys, h1, h2, h3⟩ := fz_lst g hr hk
        exact .inl ⟨a, ys, rfl, .inl (SqL.of (g.f _ _ h1)), fun q hq => p.now g _ _ h3 hq h2⟩
      · exact p.elim
  · exact p.elim
  · rename_i d _ hnk
    obtain ⟨v, e, r⟩ := rds1 rs rfl
    subst e
    cases ha : asS st d with
    | none => rw [ha] at p; exact p.elim
    | some l =>
      rw [ha] at p
      dsimp only at p
      cases r with
      | tup hf hl rr => cases ha; exact .inl ⟨_, _, rfl, .inr (SqT.of (g.f _ _ hf)), fun q hq => p.now g _ _ rr hq hl⟩
      | lst hf hl rr => cases ha; exact .inl ⟨_, _, rfl, .inl (SqL.of (g.f _ _ hf)), fun q hq => p.now g _ _ rr hq hl⟩
      | ref hr =>
        obtain ⟨a, ys, e1, h1, h2, h3⟩ := asL_ok g (.ref hr) ha
        cases e1
        exact .inl ⟨_, _, rfl, .inl (SqL.of h1), fun q hq => p.now g _ _ h3 hq h2⟩
      | ktup hs hl => exact absurd rfl (hnk _)
      | _ => cases ha
  · exact p.elim
end
end Py

set_option Elab.async false
set_option linter.all false
set_option maxRecDepth 100000
set_option maxHeartbeats 1000000
set_option autoImplicit false
namespace Py
open PySem PySem.Spec L2

section
variable {X : Cx} {W : WX} {K : PySem.W.Frag} {ρ : List Addr} {F G H : Hp} {st : Store} {σ : St} {a b c : Expr} {es : List Expr} {pos apos cpos : Pos} {ra rb rc : RE} {aa : RA}

/-! ### new dicts -/
theorem x_dictK : PE X (.Dict [] [] pos) (toTE X.K W rDictK) :=
  PE.imp pe_dnewK fun σ H Q ⟨ρ, F, G, e, st, g, ev, p⟩ => fun q hq => by
    have g2 : Good X.K (ρ ++ [q]) F G (upd H q (.dK [])) (st ++ [.dK []]) := g.newO hq ⟨g.f.free hq, g.g.free hq, [], upd_same, Nat.zero_le _, rfl, .nil, by simp⟩
    exact p.to (Sub.app _ _) (Same.refl _) g2 _ (.ref (by rw [← g.len]; simp))
theorem x_dictT : PE X (.Dict [] [] pos) (toTE X.K W rDictT) :=
  PE.imp pe_dnewT fun σ H Q ⟨ρ, F, G, e, st, g, ev, p⟩ => fun q hq => by
    have g2 : Good X.K (ρ ++ [q]) F G (upd H q (.dT [])) (st ++ [.dT []]) := g.newO hq ⟨g.f.free hq, g.g.free hq, [], upd_same, Nat.zero_le _, rfl, .nil, by simp⟩
    exact p.to (Sub.app _ _) (Same.refl _) g2 _ (.ref (by rw [← g.len]; simp))
theorem len_put {κ α : Type} [DecidableEq κ] (l : List (κ × α)) (k : κ) (v : α) : (put l k v).length ≤ l.length + 1 := by
  unfold put
  split
  · simp
  · simp
theorem merge_ok : ∀ {l acc : List (L2.Key × D)} {m acm : List (L2.Key × V)}, m.map (·.1) = l.map (·.1) → RDs K ρ F (l.map (·.2)) (m.map (·.2)) → acm.map (·.1) = acc.map (·.1) → RDs K ρ F (acc.map (·.2)) (acm.map (·.2)) →
    (mergeK acm m).map (·.1) = (merge acc l).map (·.1) ∧ RDs K ρ F ((merge acc l).map (·.2)) ((mergeK acm m).map (·.2))
  | [], _, [], _, _, _, h, r => ⟨h, r⟩
  | [], _, _ :: _, _, h, _, _, _ => by cases h
  | _ :: _, _, [], _, h, _, _, _ => by cases h
  | p :: l, acc, q :: m, acm, h, r, h2, r2 => by
    simp only [List.map_cons, List.cons.injEq] at h
    cases r with
    | cons r1 rr =>
      obtain ⟨a1, a2⟩ := put_ok (k := p.1) h2 r2 r1
      have := merge_ok h.2 rr a1 a2
      show (mergeK (putK acm q.1 q.2) m).map (·.1) = (merge (put acc p.1 p.2) l).map (·.1) ∧ _
      rw [h.1]
      refine ⟨this.1, ?_⟩
      show RDs K ρ F ((merge (put acc p.1 p.2) l).map (·.2)) ((mergeK (putK acm q.1 q.2) m).map (·.2))
      rw [h.1]
      exact this.2
theorem merge_keys {P : L2.Key → Prop} : ∀ {l acc : List (L2.Key × D)}, (∀ p ∈ l, P p.1) → (∀ p ∈ acc, P p.1) → ∀ p ∈ merge acc l, P p.1
  | [], _, _, h => h
  | q :: l, acc, h1, h2 => merge_keys (l := l) (acc := put acc q.1 q.2) (fun p hp => h1 p (List.mem_cons_of_mem _ hp)) (put_keys h2 (h1 q List.mem_cons_self))
theorem len_mergeK (l acc : List (L2.Key × V)) : (mergeK acc l).length ≤ acc.length + l.length := length_mergeK l acc
theorem pairsK_ok (g : Good K ρ F G H st) : ∀ {ds : List D} {vs : List V} {l : List (L2.Key × D)}, RDs K ρ F ds vs → pairsK ds = some l → ∃ (ps : List Addr) (m : List (L2.Key × V)), vs = ps.map V.ref ∧ Paired (fun p kv => SqT K H p [kV kv.1, kv.2]) ps m ∧ m.map (·.1) = l.map (·.1) ∧ RDs K ρ F (l.map (·.2)) (m.map (·.2)) ∧ ∀ p ∈ l, KOk p.1
  | _, _, _, .nil, h => by cases h; exact ⟨[], [], rfl, .nil, rfl, .nil, by simp⟩
  | _, _, l, .cons r rs, h => by
    cases r <;> first | (cases h; done) | skip
    rename_i q xs ds hf hl rr
    unfold pairsK at h
    split at h
    · rename_i heq; cases heq
    · rename_i k v r' heq
      cases heq
      split at h
      · rename_i k' l' h1 h2
        cases h
        obtain ⟨ps, m, e1, e2, e3, e4, e5⟩ := pairsK_ok g rs h2
        cases rr with
        | cons r1 rr => cases rr with
          | cons r2 rr =>
            cases rr
            obtain ⟨c1, c2, _⟩ := keyOf_ok r1 h1
            subst c1
            refine ⟨q :: ps, (k', _) :: m, by rw [e1]; rfl, .cons (SqT.of (g.f _ _ hf)) e2, by simp [e3], .cons r2 e4, ?_⟩
            simp only [List.mem_cons, forall_eq_or_imp]
            exact ⟨c2, e5⟩
      · cases h
    · cases h
theorem s_dict : CallS K fDict (fun xs H Q => ∃ (a : Addr) (ps : List Addr) (kvs : List (L2.Key × V)), xs = [.ref a] ∧ SqL K H a (ps.map V.ref) ∧ Paired (fun p kv => SqT K H p [kV kv.1, kv.2]) ps kvs ∧ ∀ p, H p = none → Q (.ref p) (upd H p (.dK (mergeK [] kvs)))) := fun {W σ ρ F G H st xs us Q} g rs p => by
  unfold fDict at p
  split at p
  · rename_i d
    obtain ⟨v, e, r⟩ := rds1 rs rfl
    subst e
    split at p
    · rename_i l hl
      obtain ⟨m, h1, h2⟩ := Option.bind_eq_some_iff.mp hl
      obtain ⟨q, ys, e1, h3, h4, h5⟩ := asL_ok g r h1
      subst e1
      obtain ⟨ps, kvs, e2, e3, e4, e5, e6⟩ := pairsK_ok g h5 h2
      subst e2
      refine ⟨q, ps, kvs, rfl, SqL.of h3, e3, fun w hw => ?_⟩
      obtain ⟨m1, m2⟩ := merge_ok (acc := []) (acm := []) e4 e5 rfl .nil
      have hlen : (mergeK [] kvs).length ≤ cap := by
        have a1 := len_mergeK kvs []
        have a2 : ps.length = kvs.length := Paired.length e3
        rw [List.length_map] at h4
        simp only [List.length_nil] at a1
        omega
      have g2 : Good K (ρ ++ [w]) F G (upd H w (.dK (mergeK [] kvs))) (st ++ [.dK (merge [] l)]) := g.newO hw ⟨g.f.free hw, g.g.free hw, _, upd_same, hlen, m1, m2.mono (Sub.app _ _) (Same.refl _), merge_keys e6 (by simp)⟩
      exact p.to (Sub.app _ _) (Same.refl _) g2 _ (.ref (by rw [← g.len]; simp))
    · exact p.elim
  · exact p.elim
/-- d[k] = v -/
theorem dput_ok {x y z : D} {u v w : V} {st' : Store} (g : Good K ρ F G H st) (rx : RD K ρ F x u) (ry : RD K ρ F y v) (rz : RD K ρ F z w) (h : dput st x y z = some st') : ∃ q H', u = .ref q ∧ DPut H q v w H' ∧ Good K ρ F G H' st' := by
  unfold dput at h
  cases rx <;> first | (cases h; done) | skip
  rename_i k q hr
  dsimp only at h
  split at h
  · rename_i l hk
    obtain ⟨h0, h00, ys, h1, h2, h3, h4, h5⟩ := g.obj k q _ hr hk
    cases hky : keyOf y with
    | none => rw [hky] at h; cases h
    | some ky =>
      rw [hky] at h
      dsimp only at h
      split at h
      · rename_i hl
        cases h
        obtain ⟨e1, e2, _⟩ := keyOf_ok ry hky
        subst e1
        have hlen : ys.length = l.length := by simpa using congrArg List.length h3
        obtain ⟨m1, m2⟩ := put_ok (k := ky) h3 h4 rz
        refine ⟨q, _, rfl, DPut.k h1 (by rw [cap_eq]; omega), g.setO hr hk (by intro d q; cases q) ⟨h0, h00, _, upd_same, ?_, m1, m2, put_keys h5 e2⟩⟩
        have := length_putK ys ky w
        omega
      · cases h
  · rename_i l hk
    obtain ⟨h0, h00, ys, h1, h2, h3, h4, h5⟩ := g.obj k q _ hr hk
    cases ry <;> first | (cases h; done) | skip
    rename_i b xs ds hf hl rs
    dsimp only at h
    cases hky : keysOf ds with
    | none => rw [hky] at h; cases h
    | some ky =>
      rw [hky] at h
      dsimp only at h
      split at h
      · rename_i hl2
        cases h
        obtain ⟨e1, e2⟩ := keysOf_ok rs hky
        have hkl := keysOf_len hky
        subst e1
        have hlen : ys.length = l.length := by simpa using congrArg List.length h3
        obtain ⟨m1, m2⟩ := put_ok (k := ky) h3 h4 rz
        refine ⟨q, _, rfl, DPut.t h1 (g.f _ _ hf) (by rw [cap_eq]; omega), g.setO hr hk (by intro d q; cases q) ⟨h0, h00, _, upd_same, ?_, m1, m2, put_keys (P := fun k => k.length ≤ cap ∧ ∀ z ∈ k, KOk z) h5 ⟨by rw [List.length_map] at hl; exact hl, e2⟩⟩⟩
        have := length_putK ys ky w
        omega
      · cases h
  · cases h
theorem s_dput {pos' : Pos} (hu : X.A.units + 1 < cLine) (ha : PE X a (toTE X.K W ra)) (hb : PE X b (toTE X.K W rb)) (hc : PE X c (toTE X.K W rc)) (hs : swapsWith c (some (.Subscript a b pos')) pos.line X.env = pure false := by rfl) : PS X (.Assign [.Subscript a b pos'] c pos) (toTS X.K W (sDPut ra rb rc)) :=
  PS.imp (ps_dput hu ha hb hc hs) fun E σ H ⟨ρ, F, G, e, st, g, ev, p⟩ => by
    unfold sDPut at p
    have p' : Pst X.K W ρ F G σ ((rc e st).bind fun y st1 => (ra e st1).bind fun x st2 => (rb e st2).bind fun z st3 => match dput st3 x z y with | some st4 => .ok () st4 | none => .bad) (fun _ _ H' _ _ => E.nx σ H') := by
      generalize ((rc e st).bind fun y st1 => (ra e st1).bind fun x st2 => (rb e st2).bind fun z st3 => match dput st3 x z y with | some st4 => .ok () st4 | none => .bad : Res Unit) = q at p ⊢
      cases q with
      | ok u st1 => exact fun ρ' F' H' s f g' => p ρ' F' H' σ s f g' (ev.mono s f)
      | exn C st1 => exact fun ρ' F' H' s f g' => p ρ' F' H' σ s f g' (ev.mono s f)
      | bad => exact p
    refine te_bind g ev p' fun ρ1 F1 H1 d st1 v _ _ g1 ev1 r1 p1 => te_bind g1 ev1 p1 fun ρ2 F2 H2 d2 st2 v2 s2 f2 g2 ev2 r2 p2 => te_bind g2 ev2 p2 fun ρ3 F3 H3 d3 st3 v3 s3 f3 g3 ev3 r3 p3 => ?_
    cases h : dput st3 d2 d3 d with
    | none => rw [h] at p3; exact p3.elim
    | some st4 =>
      rw [h] at p3
      obtain ⟨q, H4, e1, e2, g4⟩ := dput_ok g3 (r2.mono s3 f3) r3 ((r1.mono s2 f2).mono s3 f3) h
      exact ⟨q, H4, e1, e2, p3.to (Sub.refl _) (Same.refl _) g4⟩

/-! ### methods -/
theorem x_bm {T id : String} {name : Str} {ty : Store → D → Bool} {f : D → List D → Store → Res D} {r : V → List V → Hp → VK → Prop} (pa : PlainAttrs T) (slot : Slot T name id) (hty : typeOf (.builtin id) = pure (.type "method_descriptor")) (hm : MtR X id r) (s : MtS X.K f T r)
    (hT : ∀ {ρ : List Addr} {F G H : Hp} {st : Store} {d : D} {v : V}, Good X.K ρ F G H st → RD X.K ρ F d v → ty st d = true → tyV X.K T v H) (ho : PE X a (toTE X.K W ra)) (ha : PA X (b :: es) (toTA X.K W aa))
    (hbase : attributeBase a name X.env (eval a X.env) = eval a X.env := by rfl)
    (hfew : ((backTo cpos (starEach (b :: es) X.env)).all (fun x => !x.1) && (backToKw cpos (keywordEach [] X.env)).all (fun x => x.1.isSome)
      && decide ((b :: es).length + ([] : List Keyword).length + (if ([] : List Keyword).isEmpty then 0 else 1) < 30)) = true := by rfl)
    (hline : (apos.endLine == cpos.line) = true := by rfl) (hs : starEach (b :: es) X.env = (false, eval b X.env) :: starEach es X.env := by rfl) (hplain : (backTo cpos (starEach es X.env)).any (·.1) = false := by rfl) :
    PE X (.Call (.Attribute a name apos) (b :: es) [] cpos) (toTE X.K W (rMeth ty f ra aa)) :=
  PE.imp (pe_bm pa slot hty hm ho ha hbase hfew hline hs hplain) fun σ H Q ⟨ρ, F, G, e, st, g, ev, p⟩ => te_bind g ev p fun ρ1 F1 H1 d st1 v _ _ g1 ev1 r1 p1 => by
    split at p1
    · rename_i ht
      exact ⟨hT g1 r1 ht, ta_bind g1 ev1 p1 fun ρ2 F2 H2 ds st2 vs s2 f2 g2 ev2 r2 p2 => s g2 (r1.mono s2 f2) r2 p2⟩
    · exact p1.elim
theorem x_bm0 {T id : String} {name : Str} {ty : Store → D → Bool} {f : D → List D → Store → Res D} {r : V → List V → Hp → VK → Prop} (pa : PlainAttrs T) (slot : Slot T name id) (hty : typeOf (.builtin id) = pure (.type "method_descriptor")) (hm : MtR X id r) (s : MtS X.K f T r)
    (hT : ∀ {ρ : List Addr} {F G H : Hp} {st : Store} {d : D} {v : V}, Good X.K ρ F G H st → RD X.K ρ F d v → ty st d = true → tyV X.K T v H) (ho : PE X a (toTE X.K W ra))
    (hbase : attributeBase a name X.env (eval a X.env) = eval a X.env := by rfl) (hline : (apos.endLine == cpos.line) = true := by rfl) :
    PE X (.Call (.Attribute a name apos) [] [] cpos) (toTE X.K W (rMeth ty f ra aNil)) :=
  PE.imp (pe_bm0 pa slot hty hm ho hbase hline) fun σ H Q ⟨ρ, F, G, e, st, g, ev, p⟩ => te_bind g ev p fun ρ1 F1 H1 d st1 v _ _ g1 ev1 r1 p1 => by
    split at p1
    · rename_i ht
      exact ⟨hT g1 r1 ht, s g1 r1 .nil p1⟩
    · exact p1.elim
theorem tyL {d : D} {v : V} (g : Good K ρ F G H st) (r : RD K ρ F d v) (h : isLst st d = true) : tyV K "list" v H := by
  unfold isLst at h
  obtain ⟨l, hl⟩ := Option.isSome_iff_exists.mp h
  obtain ⟨q, ys, e1, h3, h4, h5⟩ := asL_ok g r hl
  subst e1
  exact .inl ⟨rfl, _, SqL.of h3⟩
theorem isD_of {d : D} {v : V} (g : Good K ρ F G H st) (r : RD K ρ F d v) (h : isDct st d = true) : ∃ q, v = .ref q ∧ IsD H q ∧ ((∃ kvs, H q = some (.dK kvs)) ∨ ∃ kvs, H q = some (.dT kvs)) := by
  unfold isDct at h
  cases r <;> first | (cases h; done) | skip
  rename_i k q hr
  dsimp only at h
  split at h
  · rename_i l hk
    obtain ⟨_, _, ys, h1, _⟩ := g.obj k q _ hr hk
    exact ⟨q, rfl, .inl ⟨ys, .inl h1⟩, .inl ⟨ys, h1⟩⟩
  · rename_i l hk
    obtain ⟨_, _, ys, h1, _⟩ := g.obj k q _ hr hk
    exact ⟨q, rfl, .inr ⟨ys, .inl h1⟩, .inr ⟨ys, h1⟩⟩
  · cases h
theorem m_append : MtS K fAppend "list" rAppend := fun {W σ ρ F G H st x xs u us Q} g rx rs p => by
  unfold fAppend at p
  split at p
  · rename_i i y
    obtain ⟨v, e, r⟩ := rds1 rs rfl
    subst e
    cases rx with
    | @ref _ q hr =>
      split at p
      · rename_i l hk
        obtain ⟨h0, h00, ys, h1, h2, h3⟩ := g.obj i q _ hr hk
        split at p
        · rename_i hl
          have hlen : ys.length < cap := by rw [← h3.length]; exact hl
          refine ⟨q, ys, v, rfl, rfl, h1, by rw [cap_eq]; exact hlen, ?_⟩
          have g2 : Good K ρ F G (upd H q (.lst (ys ++ [v]))) (st.set i (.lst (l ++ [y]))) := g.setO hr hk (by intro d q; cases q) ⟨h0, h00, _, upd_same, by rw [List.length_append]; exact hlen, h3.append (.cons r .nil)⟩
          exact p.to (Sub.refl _) (Same.refl _) g2 _ .non
        · exact p.elim
      · exact p.elim
  · exact p.elim
theorem m_extend : MtS K fExtend "list" rExtend := fun {W σ ρ F G H st x xs u us Q} g rx rs p => by
  unfold fExtend at p
  split at p
  · rename_i i y
    obtain ⟨v, e, r⟩ := rds1 rs rfl
    subst e
    cases rx with
    | @ref _ q hr =>
      split at p
      · rename_i l m hk hm
        obtain ⟨h0, h00, ys, h1, h2, h3⟩ := g.obj i q _ hr hk
        obtain ⟨q2, zs, e2, h4, h5, h6⟩ := asL_ok g r hm
        subst e2
        split at p
        · rename_i hl
          have hlen : ys.length + zs.length ≤ cap := by rw [← h3.length, ← h6.length]; exact hl
          refine ⟨q, q2, ys, zs, rfl, rfl, h1, h4, by rw [cap_eq]; exact hlen, ?_⟩
          have g2 : Good K ρ F G (upd H q (.lst (ys ++ zs))) (st.set i (.lst (l ++ m))) := g.setO hr hk (by intro d q; cases q) ⟨h0, h00, _, upd_same, by rw [List.length_append]; exact hlen, h3.append h6⟩
          exact p.to (Sub.refl _) (Same.refl _) g2 _ .non
        · exact p.elim
      · exact p.elim
  · exact p.elim
theorem m_pop : MtS K fPop "list" rPop := fun {W σ ρ F G H st x xs u us Q} g rx rs p => by
  unfold fPop at p
  split at p
  · rename_i i
    cases rs
    cases rx with
    | @ref _ q hr =>
      split at p
      · rename_i l hk
        obtain ⟨h0, h00, ys, h1, h2, h3⟩ := g.obj i q _ hr hk
        split at p
        · rename_i y hy
          obtain ⟨w, c1, c2⟩ := h3.get hy
          rw [h3.length] at c1
          refine ⟨q, ys, w, rfl, rfl, h1, c1, ?_⟩
          have g2 : Good K ρ F G (upd H q (.lst ys.dropLast)) (st.set i (.lst l.dropLast)) := g.setO hr hk (by intro d q; cases q) ⟨h0, h00, _, upd_same, by rw [List.length_dropLast]; omega, h3.dropLast⟩
          exact p.to (Sub.refl _) (Same.refl _) g2 _ c2
        · exact p.elim
      · exact p.elim
  · exact p.elim
theorem x_get1 (hu : X.A.units + 1 < cLine) (ho : PE X a (toTE X.K W ra)) (hb : PE X b (toTE X.K W rb)) (m : M1 X a "get" apos b cpos := by exact ⟨rfl, rfl, rfl, rfl⟩) : PE X (.Call (.Attribute a "get" apos) [b] [] cpos) (toTE X.K W (rMeth isDct fGet ra (aCons rb aNil))) :=
  PE.imp (pe_dget1 hu ho hb m) fun σ H Q ⟨ρ, F, G, e, st, g, ev, p⟩ => te_bind g ev p fun ρ1 F1 H1 d st1 v _ _ g1 ev1 r1 p1 => by
    split at p1
    · rename_i ht
      obtain ⟨q, e1, h1, _⟩ := isD_of g1 r1 ht
      subst e1
      refine ⟨q, rfl, h1, ?_⟩
      unfold aCons aNil at p1
      simp only [Res.bind_assoc, Res.bind_ok] at p1
      refine te_bind g1 ev1 p1 fun ρ2 F2 H2 d2 st2 v2 s2 f2 g2 ev2 r2 p2 => ?_
      unfold fGet at p2
      dsimp only at p2
      cases h : dget st2 d d2 with
      | none => rw [h] at p2; exact p2.elim
      | some o =>
        rw [h] at p2
        obtain ⟨q', ov, e1, _, g3, hc⟩ := dget_ok g2 (r1.mono s2 f2) r2 h
        cases e1
        refine ⟨ov, g3, ?_⟩
        rcases hc with ⟨c1, c2⟩ | ⟨d', w, c1, c2, c3⟩
        · subst c1 c2; exact p2.now g2 _ .non
        · subst c1 c2; exact p2.now g2 _ c3
    · exact p1.elim
theorem x_get2 (hu : X.A.units + 1 < cLine) (ho : PE X a (toTE X.K W ra)) (hb : PE X b (toTE X.K W rb)) (hc : PE X c (toTE X.K W rc)) (m : M2 X a "get" apos b c cpos := by exact ⟨rfl, rfl, rfl, rfl⟩) : PE X (.Call (.Attribute a "get" apos) [b, c] [] cpos) (toTE X.K W (rMeth isDct fGet ra (aCons rb (aCons rc aNil)))) :=
  PE.imp (pe_dget2 hu ho hb hc m) fun σ H Q ⟨ρ, F, G, e, st, g, ev, p⟩ => te_bind g ev p fun ρ1 F1 H1 d st1 v _ _ g1 ev1 r1 p1 => by
    split at p1
    · rename_i ht
      obtain ⟨q, e1, h1, _⟩ := isD_of g1 r1 ht
      subst e1
      refine ⟨q, rfl, h1, ?_⟩
      simp only [aCons, aNil, Res.bind_assoc, Res.bind_ok] at p1
      refine te_bind g1 ev1 p1 fun ρ2 F2 H2 d2 st2 v2 s2 f2 g2 ev2 r2 p2 => te_bind g2 ev2 p2 fun ρ3 F3 H3 d3 st3 v3 s3 f3 g3 ev3 r3 p3 => ?_
      unfold fGet at p3
      dsimp only at p3
      cases h : dget st3 d d2 with
      | none => rw [h] at p3; exact p3.elim
      | some o =>
        rw [h] at p3
        obtain ⟨q', ov, e1, _, g4, hc⟩ := dget_ok g3 ((r1.mono s2 f2).mono s3 f3) (r2.mono s3 f3) h
        cases e1
        refine ⟨ov, g4, ?_⟩
        rcases hc with ⟨c1, c2⟩ | ⟨d', w, c1, c2, c3⟩
        · subst c1 c2; exact p3.now g3 _ r3
        · subst c1 c2; exact p3.now g3 _ c3
    · exact p1.elim

/-! ### raise -/
theorem s_raise {x m : Str} {j : Nat} {p p2 : Pos} (hc : X.calm = true) (tk : Takes X W) (xc : PySem.W.excIn X.K (He.ga X.K x) He.veBase "ValueError.__new__" = true ∧ PySem.W.keepIn X.K (.ref (He.ga X.K x)) = true ∧ PySem.W.subIn X.K (.ref (He.ga X.K x)) (.type "BaseException") = some true ∧ PySem.W.typeIn X.K (.ref (He.ga X.K x)) = some (.type "type"))
    (gC : X.mg x = some (.ref (He.ga X.K x))) (hg : Gl X x := by rfl) (hdb : (x == ("__debug__" : Str)) = false := by decide) : PS X (.Raise (some (.Call (.Name x p) [.Constant (.str m) j p2] [] pos)) none cpos) (toTS X.K W (sRaise x)) :=
  PS.imp (ps_raise hc tk (pmk_own PySem.F.excBase_ValueError xc.1 gC xc.2.1 (raises_own xc.2.2.1 xc.2.2.2) hg hdb)) fun E σ H ⟨ρ, F, G, e, st, g, ev, p⟩ => p ρ F H σ (Sub.refl _) (Same.refl _) g ev
end

/-! ### a pure def -/
/-- what stood outside of F is as it was -/
def Frm (F H F' H' : Hp) : Prop := ∀ a o, H a = some o → F a = none → H' a = some o ∧ (F' a = none ∨ ∃ xs, o = .tup xs)
def spP (K : PySem.W.Frag) (n : Nat) (m : List D → PRes) : Sp := fun vs H Q E => vs.length = n ∧ ∃ (F : Hp) (ds : List D), Same F H ∧ RDs K [] F ds vs ∧ (match m ds with
  | .ok d => ∀ (F' H' : Hp) (v : V), Same F F' → Same F' H' → Frm F H F' H' → RD K [] F' d v → Q v H'
  | .exn C => ∀ (F' H' : Hp), Same F F' → Same F' H' → Frm F H F' H' → E (.ref (He.ga K C)) none H'
  | .bad => False)
section
variable {P : Program} {w : World} {K : PySem.W.Frag} {mg : Str → Option Value} {base : Heap}
abbrev WE0 (E : XK) : WX := fun cls d _ H => E cls d H
theorem start_env {ρ : List Addr} {F : Hp} {N : List Str} {ds : List D} {vs : List V} (rs : RDs K ρ F ds vs) : EnvR K ρ F (startE N.length ds) (L2.start N vs) := by
  unfold startE L2.start
  refine ⟨by simp [rs.length], fun i d h => ?_⟩
  by_cases hi : i < ds.length
  · rw [List.getElem?_append_left (by simpa using hi), List.getElem?_map] at h
    cases q : ds[i]? with
    | none => rw [q] at h; cases h
    | some d' =>
      rw [q] at h
      cases h
      obtain ⟨v, h1, h2⟩ := rs.get q
      refine ⟨v, ?_, h2⟩
      rw [List.getElem?_append_left (by rw [List.length_map, ← rs.length]; exact hi), List.getElem?_map, h1]; rfl
  · rw [List.getElem?_append_right (by simpa using hi), List.getElem?_replicate] at h
    split at h <;> cases h
theorem frz0_ok {ρ : List Addr} {F G H : Hp} {st : Store} {d d' : D} {v : V} (g : Good K ρ F G H st) (r : RD K ρ F d v) (h : frz0 st d = some d') : ∃ F' st', Same F F' ∧ Good K ρ F' G H st' ∧ RD K ρ F' d' v ∧ bel 0 d' = true ∧ ∀ x, frz0 st' x = frz0 st x := by
  unfold frz0 at h
  split at h
  · rename_i i
    cases r with
    | @ref _ a hi =>
      split at h
      · rename_i d2 hk2
        split at h
        · rename_i hb
          cases h
          obtain ⟨_, q2⟩ := g.obj i a _ hi hk2
          exact ⟨F, st, Same.refl _, g, q2, hb, fun _ => rfl⟩
        · cases h
      · rename_i l hk2
        split at h
        · rename_i hb
          cases h
          obtain ⟨h0, h00, ys, h1, h2, h3⟩ := g.obj i a _ hi hk2
          have s2 : Same F (upd F a (.lst ys)) := fun c o q => by rw [upd_ne (ne_of_none q h0)]; exact q
          have rr : RD K ρ (upd F a (.lst ys)) (.lst l) (.ref a) := .lst upd_same h2 (h3.mono (Sub.refl _) s2)
          obtain ⟨g2, _⟩ := g.frzO hi hk2 (by intro d q; cases q) h1 rr
          refine ⟨_, _, s2, g2, rr, by simpa using hb, fun x => ?_⟩
          have hil := (List.getElem?_eq_some_iff.mp hk2).1
          cases x with
          | ref j =>
            unfold frz0
            dsimp only
            by_cases e : i = j
            · subst e
              rw [List.getElem?_set_self hil, hk2]
              dsimp only
              rw [bel_lst]
            · rw [List.getElem?_set_ne e]
          | _ => rfl
        · cases h
      · cases h
  · split at h
    · rename_i hb
      cases h
      exact ⟨F, st, Same.refl _, g, r, hb, fun _ => rfl⟩
    · cases h
theorem frzL_cg {st st' : Store} (h : ∀ x, frz0 st' x = frz0 st x) : ∀ ds : List D, frzL st' ds = frzL st ds
  | [] => rfl
  | d :: ds => by rw [frzL, frzL, h, frzL_cg h ds]
theorem frzL_ok {G H : Hp} : ∀ {ds ds' : List D} {vs : List V} {ρ : List Addr} {F : Hp} {st : Store}, Good K ρ F G H st → RDs K ρ F ds vs → frzL st ds = some ds' → ∃ F' st', Same F F' ∧ Good K ρ F' G H st' ∧ RDs K ρ F' ds' vs ∧ ds'.all (bel 0) = true
  | [], _, _, ρ, F, st, g, .nil, h => by cases h; exact ⟨F, st, Same.refl _, g, .nil, rfl⟩
  | d :: ds, _, _, ρ, F, st, g, .cons r rs, h => by
    rw [frzL] at h
    cases h1 : frz0 st d with
    | none => rw [h1] at h; cases h
    | some d1 =>
      cases h2 : frzL st ds with
      | none => rw [h1, h2] at h; cases h
      | some ds1 =>
        rw [h1, h2] at h
        cases h
        obtain ⟨F1, st1, s1, g1, r1, b1, c1⟩ := frz0_ok g r h1
        obtain ⟨F2, st2, s2, g2, r2, b2⟩ := frzL_ok g1 (rs.mono (Sub.refl _) s1) ((frzL_cg c1 ds).trans h2)
        exact ⟨F2, st2, s1.trans s2, g2, .cons (r1.mono (Sub.refl _) s2) r2, by simp only [List.all_cons, b1, b2, Bool.and_self]⟩
theorem frz_ok {ρ : List Addr} {F G H : Hp} {st : Store} {d d' : D} {v : V} (g : Good K ρ F G H st) (r : RD K ρ F d v) (h : frz st d = some d') : ∃ F' st', Same F F' ∧ Good K ρ F' G H st' ∧ RD K ρ F' d' v ∧ bel 0 d' = true := by
  unfold frz at h
  cases h0 : frz0 st d with
  | some d1 =>
    rw [h0] at h
    cases h
    obtain ⟨F1, st1, s1, g1, r1, b1, _⟩ := frz0_ok g r h0
    exact ⟨F1, st1, s1, g1, r1, b1⟩
  | none =>
    rw [h0] at h
    dsimp only at h
    split at h
    · rename_i ds
      cases h2 : frzL st ds with
      | none => rw [h2] at h; cases h
      | some ds1 =>
        rw [h2] at h
        cases h
        cases r with
        | tup hf hl rr =>
          obtain ⟨F2, st2, s2, g2, r2, b2⟩ := frzL_ok g rr h2
          exact ⟨F2, st2, s2, g2, .tup (s2 _ _ hf) hl r2, by simpa using b2⟩
    · cases h
theorem pure_end {E : XK} {F H : Hp} {Q : VK} {k n : Nat} {r : RS} {ds : List D} (hF : Same F H) (hr : (match pureOf k n r ds with
    | .ok d => ∀ (F' H' : Hp) (v : V), Same F F' → Same F' H' → Frm F H F' H' → RD K [] F' d v → Q v H'
    | .exn C => ∀ (F' H' : Hp), Same F F' → Same F' H' → Frm F H F' H' → E (.ref (He.ga K C)) none H'
    | .bad => False)) : Sst K (WE0 E) [] F (fun a => match F a with | none => H a | some _ => none) (r (startE n ds) []) { nx := fun _ H' => Q .non H', rt := Q } := by
  have hk : ds.length = k := by
    by_cases h : ds.length = k
    · exact h
    · unfold pureOf at hr
      rw [if_neg h] at hr
      exact hr.elim
  unfold pureOf at hr
  rw [if_pos hk] at hr
  have frm : ∀ {ρ' : List Addr} {F' H' : Hp} {st' : Store}, Good K ρ' F' (fun a => match F a with | none => H a | some _ => none) H' st' → Frm F H F' H' := fun {ρ' F' H' st'} g a o h1 h2 => by
    have hG : (fun a => match F a with | none => H a | some _ => none) a = some o := by
      show (match F a with | none => H a | some _ => none) = some o
      rw [h2]; exact h1
    exact ⟨g.g a o hG, g.fg a o hG⟩
  have cut0 : ∀ {ρ' : List Addr} (i : Nat) (a : Addr), ρ'[i]? = some a → i < 0 → ([] : List Addr)[i]? = some a := fun i a _ h => absurd h (Nat.not_lt_zero _)
  cases q : r (startE n ds) [] with
  | bad => rw [q] at hr; exact hr
  | nx e st' => rw [q] at hr; exact fun ρ' F' H' σ' s f g ev => hr F' H' .non f g.f (frm g) .non
  | exn C e st' => rw [q] at hr; exact fun ρ' F' H' σ' s f g ev => hr F' H' f g.f (frm g)
  | rt d st' =>
    rw [q] at hr
    dsimp only at hr
    intro ρ' F' H' v s f g rv
    cases hd : frz st' d with
    | none => rw [hd] at hr; exact hr.elim
    | some d' =>
      rw [hd] at hr
      dsimp only at hr
      obtain ⟨F2, st2, s2, g2, r2, b2⟩ := frz_ok g rv hd
      exact hr F2 H' v (f.trans s2) g2.f (frm g2) (RD.cut cut0 _ _ b2 r2)
theorem pureOf_len {k n : Nat} {r : RS} (ds : List D) (h : pureOf k n r ds ≠ .bad) : ds.length = k := by
  by_cases e : ds.length = k
  · exact e
  · exact absurd (by unfold pureOf; rw [if_neg e]) h
theorem good_start {F H : Hp} (hF : Same F H) : Good K [] F (fun a => match F a with | none => H a | some _ => none) H [] := by
  refine ⟨hF, fun a o q => ?_, fun a o q => ?_, rfl, fun i j a h => by simp at h, fun i a o h => by simp at h⟩
  · have q' : (match F a with | none => H a | some _ => none) = some o := q
    cases e : F a with
    | none => rw [e] at q'; exact q'
    | some u => rw [e] at q'; cases q'
  · have q' : (match F a with | none => H a | some _ => none) = some o := q
    cases e : F a with
    | none => exact .inl rfl
    | some u => rw [e] at q'; cases q'
theorem pure_fn {x qual : Str} {stt : Stmt} {f : Addr} {fd : FuncData} {N ps : List Str} {k : Nat} {r : RS} (F : Fun K x qual stt f fd) (S : FnScope N ps (defScope stt))
    (hbody : ∀ (cdv : Value) (A : Around) (outer : List PySem.Env) (s : Shared) (H : Hp) (E : XK), Room k (A.deeper (PyProof.Rows.envOfC qual (defScope stt) s.heap.objs.size f cdv)) →
      PSs (cxOf (L2.CX P w) P w K mg base N qual (defScope stt) f cdv A outer s H E) (defBody stt) (toTS K (WE0 E) r)) : FnOk P w K mg base (L2.CX P w) (k + 1) f fd ps (spP K ps.length (pureOf ps.length N.length r)) :=
  F.okX S (fun vs H Q E h => h.1) fun cdv A outer s H vs Q E hr ⟨hl, F0, ds, hF, rs, hm⟩ =>
    ⟨_, hbody cdv A outer s H E hr, [], F0, _, _, [], good_start hF, start_env rs, pure_end hF hm⟩
end
section
variable {X : Cx} {W : WX} {a : Expr} {es : List Expr} {pos p : Pos} {aa : RA} {k n : Nat} {f : Addr} {fd : FuncData} {ps : List Str} {m : List D → PRes} {x : Str}
theorem Good.after {K : PySem.W.Frag} {ρ : List Addr} {F G H F' H' : Hp} {st : Store} (g : Good K ρ F G H st) (f : Same F F') (f' : Same F' H') (fr : Frm F H F' H') : Good K ρ F' G H' st := by
  have hh : Same H H' := fun a o q => by
    cases e : F a with
    | none => exact (fr a o q e).1
    | some u =>
      have := g.f a u e
      rw [q] at this
      cases this
      exact f' a _ (f a _ e)
  refine ⟨f', fun a o q => hh a o (g.g a o q), fun a o q => ?_, g.len, g.nd, fun i a o h1 h2 => ?_⟩
  · rcases g.fg a o q with z | z
    · exact (fr a o (g.g a o q) z).2
    · exact .inr z
  · have ok := g.obj i a o h1 h2
    refine ok.keep (Sub.refl _) f (fun nz fa => ?_) fun u q => hh a u q
    obtain ⟨_, _, u, hu⟩ := ok.none nz
    rcases (fr a u hu fa).2 with z | ⟨xs, z⟩
    · exact z
    · subst z
      cases o with
      | lst ds => obtain ⟨_, _, ys, q, _⟩ := ok; rw [hu] at q; cases q
      | dK ds => obtain ⟨_, _, ys, q, _⟩ := ok; rw [hu] at q; cases q
      | dT ds => obtain ⟨_, _, ys, q, _⟩ := ok; rw [hu] at q; cases q
      | ins C fs => obtain ⟨_, _, dx, ys, q, _⟩ := ok; rw [hu] at q; cases q
      | fz d => exact absurd rfl (nz d)
theorem sp_call {K : PySem.W.Frag} {ρ : List Addr} {F G H : Hp} {st : Store} {σ : St} {ds : List D} {vs : List V} {Q : VK} (hn : ∀ ds, m ds ≠ .bad → ds.length = n) (g : Good K ρ F G H st) (rs : RDs K ρ F ds vs)
    (p1 : Pst K W ρ F G σ (if ds.all (bel 0) = true then (match m ds with | .ok d => .ok d st | .exn C => .exn C st | .bad => .bad) else .bad) (fun ρ' F' H' d _ => ∀ v, RD K ρ' F' d v → Q v H')) : spP K n m vs H Q (WE W σ) := by
  split at p1
  · rename_i hb
    refine ⟨by
      rw [← rs.length]
      refine hn ds fun q => ?_
      rw [q] at p1
      exact p1, F, ds, g.f, RDs.cut (fun i a _ h => absurd h (Nat.not_lt_zero _)) _ _ hb rs, ?_⟩
    cases q : m ds with
    | bad => rw [q] at p1; exact p1
    | exn C => rw [q] at p1; exact fun F' H' f f' fr => p1 ρ F' H' (Sub.refl _) f (g.after f f' fr)
    | ok d => rw [q] at p1; exact fun F' H' v f f' fr rv => p1 ρ F' H' (Sub.refl _) f (g.after f f' fr) v (rv.mono (fun i a h => by simp at h) (Same.refl _))
  · exact p1.elim
/-- f(e, ..), f a pure def -/
theorem x_call (hl : ∀ ds, m ds ≠ .bad → ds.length = ps.length) (G : FnOk X.prog X.w X.K X.mg X.base (L2.CX X.prog X.w) k f fd ps (spP X.K ps.length m)) (hr : Room k X.A) (hm : X.mg x = some (.ref f)) (hk : PySem.W.keepIn X.K (.ref f) = true) (hb : Binds X.K fd ps []) (tk : Takes X W) (ha : PA X (a :: es) (toTA X.K W aa))
    (hg : Gl X x := by rfl) (hdb : (x == ("__debug__" : Str)) = false := by decide) (he : starEach (a :: es) X.env = (false, eval a X.env) :: starEach es X.env := by rfl) (hpl : (backTo pos (starEach es X.env)).any (·.1) = false := by rfl) :
    PE X (.Call (.Name x p) (a :: es) [] pos) (toTE X.K W (rP m aa)) :=
  PE.imp (pe_callS G hr hg hm hk hb (fun σ => passAt tk σ) ha hdb he hpl) fun σ H Q ⟨ρ, F, G, e, st, g, ev, p⟩ => ta_bind g ev p fun ρ1 F1 H1 ds st1 vs _ _ g1 ev1 r1 p1 => sp_call hl g1 r1 p1
end
end Py

set_option Elab.async false
set_option linter.all false
set_option maxRecDepth 100000
set_option maxHeartbeats 1000000
set_option autoImplicit false
namespace Py
open PySem PySem.Spec L2
section
variable {X : Cx} {W : WX} {a b c tg iter : Expr} {es : List Expr} {pos : Pos} {ra rb rc : RE} {x : Str}
theorem t_chain {op op' : CmpOp} {f f' : D → D → Store → Res D} {r r' : R2} (ho : OpR X (compareOp op) r) (s : Op2 X.K f r) (ho' : OpR X (compareOp op') r') (s' : Op2 X.K f' r')
    (ha : PE X a (toTE X.K W ra)) (hb : PE X b (toTE X.K W rb)) (hc : PE X c (toTE X.K W rc)) (hm : lastMarks [op, op'] [b, c] = false := by with_unfolding_all rfl) : PT X (.Compare a [op, op'] [b, c] pos) (toTT X.K W (tVal (rChain f f' ra rb rc))) :=
  PT.imp (pt_chain ho ho' ha hb hc (hm := hm)) fun σ H Q ⟨ρ, F, G, e, st, g, ev, p⟩ => by
    unfold tVal rChain at p
    simp only [Res.bind_assoc] at p
    refine te_bind g ev p fun ρ1 F1 H1 d st1 v _ _ g1 ev1 r1 p1 => te_bind g1 ev1 p1 fun ρ2 F2 H2 d2 st2 v2 s2 f2 g2 ev2 r2 p2 => ?_
    refine s (W := W) (σ := σ) g2 (r1.mono s2 f2) r2 (p2.bind.mp fun ρ3 F3 H3 d3 st3 s3 f3 g3 _ q w rw => ?_)
    cases rw with
    | bl k =>
      refine ⟨k, rfl, ?_⟩
      cases k with
      | true =>
        rw [if_pos rfl]
        simp only [if_true, Res.bind_assoc] at q
        refine te_bind g3 (ev2.mono s3 f3) q fun ρ4 F4 H4 d4 st4 v4 s4 f4 g4 ev4 r4 p4 => ?_
        refine s' (W := W) (σ := σ) g4 ((r2.mono s3 f3).mono s4 f4) r4 (p4.bind.mp fun ρ5 F5 H5 d5 st5 s5 f5 g5 _ q5 w5 rw5 => ?_)
        cases rw5 with
        | bl k => exact ⟨k, rfl, q5.now g5⟩
        | _ => exact q5.elim
      | false => rw [if_neg Bool.false_ne_true]; exact ⟨false, rfl, q.now g3⟩
    | _ => exact q.elim
theorem PI.or {t t' : TI} (h : PI X tg iter t) (h' : PI X tg iter t') : PI X tg iter (fun σ H R => t σ H R ∨ t' σ H R) := ⟨fun pins s σ H R I q => q.elim (h.run pins s σ H R I) (h'.run pins s σ H R I)⟩
theorem i_any (h : PE X iter (toTE X.K W ra)) : PI X tg iter (toTI X.K W (iAny ra)) :=
  PI.imp (PI.or (i_tup h) (PI.or (i_lst h) (i_str h))) fun σ H R ⟨ρ, F, G, e, st, g, ev, p⟩ => by
    have key : iAny ra e st = iTup ra e st ∨ iAny ra e st = iLst ra e st ∨ iAny ra e st = iStr ra e st := by
      unfold iAny iTup iLst iStr
      cases h1 : ra e st with
      | exn C s1 => exact .inl rfl
      | bad => exact .inl rfl
      | ok d st1 =>
        simp only [Res.bind_ok]
        cases d <;> first | exact .inl rfl | exact .inr (.inl rfl) | exact .inr (.inr rfl)
    rcases key with k | k | k
    · exact .inl ⟨ρ, F, G, e, st, g, ev, by rw [← k]; exact p⟩
    · exact .inr (.inl ⟨ρ, F, G, e, st, g, ev, by rw [← k]; exact p⟩)
    · exact .inr (.inr ⟨ρ, F, G, e, st, g, ev, by rw [← k]; exact p⟩)
/-! ### the module's names -/
theorem x_gstr {z : Str} (h : ∃ t, X.mg x = some (.str z t)) (ok : (PyData.strOk z && Nat.ble z.length cap) = true := by decide +kernel) (hg : Gl X x := by rfl) (hd : (x == ("__debug__" : Str)) = false := by decide) : PE X (.Name x pos) (toTE X.K W (rC (.str z))) := by
  obtain ⟨t, h⟩ := h
  exact x_c (pe_glob (v := .str z) hg h ⟨t, rfl⟩ hd) fun _ _ => .str z (Bool.and_eq_true_iff.mp ok).1 (Nat.le_of_ble_eq_true (Bool.and_eq_true_iff.mp ok).2)
theorem x_gint {z : Int} (h : ∃ t, X.mg x = some (.int z t)) (hg : Gl X x := by rfl) (hd : (x == ("__debug__" : Str)) = false := by decide) : PE X (.Name x pos) (toTE X.K W (rC (.int z))) := by
  obtain ⟨t, h⟩ := h
  exact x_c (pe_glob (v := .int z) hg h ⟨t, rfl⟩ hd) fun _ _ => .int z
theorem x_gtup {l : List Str} (h : X.mg x = some (.ref (He.ga X.K x))) (h2 : SqT X.K (fun _ => none) (He.ga X.K x) (l.map V.str)) (ok : (l.all fun z => PyData.strOk z && Nat.ble z.length cap) = true := by decide +kernel) (hg : Gl X x := by rfl) (hd : (x == ("__debug__" : Str)) = false := by decide) : PE X (.Name x pos) (toTE X.K W (rC (.ktup l))) :=
  x_c (pe_glob (v := .ref (He.ga X.K x)) hg h rfl hd) fun _ _ => .ktup h2 fun z hz => by
    have := List.all_eq_true.mp ok z hz
    exact ⟨(Bool.and_eq_true_iff.mp this).1, Nat.le_of_ble_eq_true (Bool.and_eq_true_iff.mp this).2⟩
theorem x_gglo (h : X.mg x = some (.ref (He.ga X.K x))) (hg : Gl X x := by rfl) (hd : (x == ("__debug__" : Str)) = false := by decide) : PE X (.Name x pos) (toTE X.K W (rC (.glo x))) :=
  x_c (pe_glob (v := .ref (He.ga X.K x)) hg h rfl hd) fun _ _ => .glo x
theorem x_ty {n : String} (hm : X.mg x = none) (hv : bootBuiltins x = some (.type n) := by decide +kernel) (hg : Gl X x := by rfl) (hn : x ≠ "__name__" := by decide) (hd : (x == ("__debug__" : Str)) = false := by decide) : PE X (.Name x pos) (toTE X.K W (rC (.ty n))) :=
  x_c (pe_bltn (v := .ty n) hg hm hv rfl hn hd) fun _ _ => .ty n
/-! ### defs by their names -/
/-- the def x of the text keeps to m -/
def OkF (P : Program) (w : World) (K : PySem.W.Frag) (mg : Str → Option Value) (x : Str) (ps : List Str) (k : Nat) (m : List D → PRes) : Prop :=
  (∀ ds, m ds ≠ .bad → ds.length = ps.length) ∧ mg x = some (.ref (He.ga K x)) ∧ PySem.W.keepIn K (.ref (He.ga K x)) = true ∧ ∃ fd, (∀ us : List Value, us.length = ps.length → bindArgs fd ⟨us, []⟩ = pure (ps.zip us)) ∧ ∀ base, FnOk P w K mg base (L2.CX P w) k (He.ga K x) fd ps (spP K ps.length m)
theorem x_callO {p : Pos} {aa : RA} {k j : Nat} {ps : List Str} {m : List D → PRes} (O : OkF X.prog X.w X.K X.mg x ps k m) (hr : Room j X.A) (tk : Takes X W) (ha : PA X (a :: es) (toTA X.K W aa)) (hj : k ≤ j := by decide)
    (hg : Gl X x := by rfl) (hdb : (x == ("__debug__" : Str)) = false := by decide) (he : starEach (a :: es) X.env = (false, eval a X.env) :: starEach es X.env := by rfl) (hpl : (backTo pos (starEach es X.env)).any (·.1) = false := by rfl) :
    PE X (.Call (.Name x p) (a :: es) [] pos) (toTE X.K W (rP m aa)) := by
  obtain ⟨hl, hm, hk, fd, hb, G⟩ := O
  exact x_call hl (G X.base) (hr.mono hj) hm hk (Binds.all hb) tk ha hg hdb he hpl
end
theorem mk_ok {P : Program} {w : World} {K : PySem.W.Frag} {mg : Str → Option Value} {x : Str} {stt : Stmt} {N ps : List Str} {k : Nat} {r : RS} (d : ∃ fd, Fun K x x stt (He.ga K x) fd) (g : mg x = some (.ref (He.ga K x))) (S : FnScope N ps (defScope stt))
    (hb : ∀ (kV doc pm : Value) (an : Option Addr) (cdv ct : Value) (us : List Value), us.length = ps.length → bindArgs (PySem.W.fnOf x x (defArgs stt) (defBody stt) (defScope stt) .none kV doc pm an cdv ct) ⟨us, []⟩ = pure (ps.zip us))
    (hbody : ∀ (base : Heap) (cdv : Value) (A : Around) (outer : List PySem.Env) (s : Shared) (H : Hp) (E : XK), Room k (A.deeper (PyProof.Rows.envOfC x (defScope stt) s.heap.objs.size (He.ga K x) cdv)) → Takes (cxOf (L2.CX P w) P w K mg base N x (defScope stt) (He.ga K x) cdv A outer s H E) (WE0 E) →
      PassesOwn (model P w) (A.deeper (PyProof.Rows.envOfC x (defScope stt) s.heap.objs.size (He.ga K x) cdv)) (PyProof.Rows.envOfC x (defScope stt) s.heap.objs.size (He.ga K x) cdv) (cxOf (L2.CX P w) P w K mg base N x (defScope stt) (He.ga K x) cdv A outer s H E).xe →
      PSs (cxOf (L2.CX P w) P w K mg base N x (defScope stt) (He.ga K x) cdv A outer s H E) (defBody stt) (toTS K (WE0 E) r)) : OkF P w K mg x ps (k + 1) (pureOf ps.length N.length r) := by
  obtain ⟨fd, F⟩ := d
  refine ⟨fun ds h => pureOf_len ds h, g, F.kp, fd, ?_, fun base => pure_fn F S fun cdv A outer s H E hr => hbody base cdv A outer s H E hr (takes_of rfl rfl rfl rfl) (passes_of rfl)⟩
  obtain ⟨oc, od, kV, doc, pm, an, cdv, ct, osl, rfl, lk, hcd⟩ := F.ex
  exact hb kV doc pm an cdv ct
end Py

set_option Elab.async false
set_option linter.all false
set_option maxRecDepth 100000
set_option maxHeartbeats 1000000
set_option autoImplicit false
namespace Py
open PySem PySem.Spec L2
/-- nothing leaves the law -/
theorem cx_false {P : Program} {w : World} {l : List PySem.Env} {H : Hp} {s : Shared} {e : Value} {s' : Shared} (h : L2.CX P w l H s (fun _ _ _ => False) e s') : False := by
  obtain ⟨_, _, _, _, _, _, _, _, _, _, _, _, z⟩ := h
  exact z
/-- the law's end, by its promise -/
theorem end_law {l : PySem.W.OpenLaw} {k : Nat} {q : Program} {loose : List Str} {XP : (Str → Option Value) → Heap → Prop} {YP : World → Heap → Prop} {d : DefRec} {m : List D → PRes}
    (hn : l.most = some 63) (hdf : d.params.defaults = []) (hr : Room k callerA) (hd : d.name = ("law" : Str)) (good : ∀ ns : List Int, ns.length ≤ 63 → m [.scr ns] = .ok (.bl true))
    (Fk : ∀ (w : World) (mg : Str → Option Value) (h : Heap), YP w h → h.Ns mainGlobals mg → ∃ K : PySem.W.Frag, K.In h ∧ OkF l.prog w K mg "law" ["script"] k m) :
    PySem.W.WalkO q loose XP YP l.row.toRowW d [] (fun f vs => PySem.call f vs) := by
  refine Att.attach_call hn hdf fun w s₀ s₁ mg mb fa o pm cd doc a vs ns G Y ho hd' hcd hmg hobj hints hlen hg => ?_
  obtain ⟨K, KX, _, hm, _, fd, hb, hF⟩ := Fk w mg _ Y G.T.g
  rw [hd, hm] at hmg
  cases hmg
  refine law_call (CX := L2.CX l.prog w) (sp := spP K 1 m) KX G.T.g G.T.b G.T.builtins G.T.nolimit hg hobj hints (Nat.le_trans hlen (by decide)) hr (fun base _ _ => hF base) (fun s u => .of_eq (hb [u] rfl)) (fun H hO hS => ?_) fun H e s' z => cx_false z
  refine ⟨rfl, H, [.scr ns], Same.refl _, .cons (.scr hS (Nat.le_trans hlen (by decide))) .nil, ?_⟩
  rw [good ns hlen]
  intro F' H' v _ _ _ rv
  cases rv
  rfl
end Py

set_option Elab.async false
set_option linter.all false
set_option maxRecDepth 100000
set_option maxHeartbeats 1000000
set_option autoImplicit false
/-! sorted of pairs of texts -/
namespace Py
open PySem
theorem lexS_swo {α : Type} (k : α → Str × Str) : SrtO.Swo fun x y => lexS (k x) (k y) := by
  refine ⟨fun x y h => ?_, fun x y z h1 h2 => ?_⟩
  · cases q : lexS (k y) (k x) with
    | false => rfl
    | true => have := lexS_trans h q; rw [lexS_irrefl] at this; cases this
  · cases q : lexS (k z) (k x) with
    | false => rfl
    | true =>
      rcases lexS_tri (k y) (k z) with r | r | r
      · have := lexS_trans r q; rw [h1] at this; cases this
      · rw [← r, h1] at q; cases q
      · rw [r] at h2; cases h2
def IsPS (h : Heap) (v : Value) (p : Str × Str) : Prop := ∃ a o t u n, v = .ref a ∧ h.get? a = some o ∧ o.cls = .type "tuple" ∧ o.data = .seq #[.str p.1 t, .str p.2 u] n
section
variable {prog : Program} {w : World} {A : Around} {E : Value → Shared → Prop} {s : Shared}
theorem ps_cmp {vs : List Value} {k : Value → Str × Str} (hp : ∀ v ∈ vs, IsPS s.heap v (k v)) : SrtO.Cmp prog w A s (PyProof.Rows.tuples' true) (fun p => p.1 ∈ vs) (SrtO.lt2 fun v u => lexS (k v) (k u)) := by
  intro p q hm hm'
  have h1 := hp _ hm
  have h2 := hp _ hm'
  show wpAny (model prog w) A (PyProof.Rows.keyLt' (PyProof.Rows.tuples' true) p.1 q.1) (fun r s' => s' = s ∧ r = lexS (k p.1) (k q.1)) (fun _ _ => False) s
  unfold lexS
  generalize k p.1 = x at h1 ⊢
  generalize k q.1 = x' at h2 ⊢
  obtain ⟨x, y⟩ := x
  obtain ⟨x', y'⟩ := x'
  obtain ⟨a, o, t, u, n, e, ho, hc, hd⟩ := h1
  obtain ⟨a', o', t', u', n', e', ho', hc', hd'⟩ := h2
  rw [e, e']
  dsimp only at hd hd' ⊢
  refine PySem.W.kat_lt ho hd ho' hd' ?_
  show PySem.W.KatLex prog w A true (decide (2 < 2)) _ [(.str x t, .str x' t'), (.str y u, .str y' u')] 0 s
  refine PySem.W.kat_cons (PySem.wpAny_eqBool_str ?_)
  refine PySem.W.kat_go (fun e1 => ?_) (fun e1 => ?_)
  · have ex : x = x' := of_decide_eq_true e1
    refine PySem.W.kat_yes (PySem.W.kat_cons (PySem.wpAny_eqBool_str ?_))
    refine PySem.W.kat_go (fun e2 => ?_) (fun e2 => ?_)
    · have ey : y = y' := of_decide_eq_true e2
      refine PySem.W.kat_yes (PySem.W.kat_nil ⟨rfl, ?_⟩)
      rw [if_pos ex, ey, ltS_irrefl]; rfl
    · refine PySem.W.kat_no (PyProof.Rows.oneLt_any_str ?_)
      refine ⟨rfl, ?_⟩
      rw [if_pos ex]; rfl
  · have ex : ¬ x = x' := of_decide_eq_false e1
    refine PySem.W.kat_no (PyProof.Rows.oneLt_any_str ?_)
    refine ⟨rfl, ?_⟩
    rw [if_neg ex]; rfl
theorem IsPS.keeps {h h' : Heap} {v : Value} {p : Str × Str} (t : IsPS h v p) (kp : ∀ b o, h.get? b = some o → o.cls = .type "tuple" → h'.get? b = some o) : IsPS h' v p := by
  obtain ⟨a, o, t1, u, n, e, ho, hc, hd⟩ := t
  exact ⟨a, o, t1, u, n, e, kp a o ho hc, hc, hd⟩
theorem ps_firsts {h : Heap} : ∀ {vs : List Value}, (∀ v ∈ vs, ∃ p, IsPS h v p) → ∃ fs : List Value, PySem.W.KatTups h vs fs ∧ fs.length = vs.length ∧ ∀ f ∈ fs, ∃ x t, f = Value.str x t
  | [], _ => ⟨[], PySem.W.KatTups.nil, rfl, by simp⟩
  | v :: vs, hp => by
    obtain ⟨fs, h1, h2, h3⟩ := ps_firsts fun u hu => hp u (List.mem_cons_of_mem _ hu)
    obtain ⟨p, a, o, t, u, n, e, ho, hc, hd⟩ := hp v List.mem_cons_self
    rw [e]
    refine ⟨Value.str p.1 t :: fs, PySem.W.KatTups.cons ho hc hd rfl h1, by rw [List.length_cons, List.length_cons, h2], fun f hf => ?_⟩
    rcases List.mem_cons.mp hf with q | q
    · exact ⟨_, _, q⟩
    · exact h3 f q
theorem ps_sortable {a : Addr} {vs : List Value} {k : Value → Str × Str} (h0 : 0 < vs.length) (hp : ∀ v ∈ vs, IsPS s.heap v (k v)) (ha : ∀ o, s.heap.get? a = some o → o.cls ≠ .type "tuple") : SrtO.SortableO prog w A s a vs fun v u => lexS (k v) (k u) := by
  intro h' keep
  have hp' : ∀ v ∈ vs, IsPS h' v (k v) := fun v hm => (hp v hm).keeps fun b o e c => keep b o (fun z => by subst z; exact ha o e c) e
  obtain ⟨fs, h1, h2, h3⟩ := ps_firsts fun v hm => ⟨_, hp' v hm⟩
  refine ⟨PyProof.Rows.tuples' true, fun Q E hq => ?_, ps_cmp hp'⟩
  refine PySem.W.kat_kind (T := .type "str") h1 (by omega) (fun f hm => ?_) (by rfl) ?_
  · obtain ⟨x, t, rfl⟩ := h3 f hm
    exact PySem.W.Looks.of_pure rfl
  · have e : (Value.type "str" != Value.type "tuple") = true := by first | rfl | decide
    rw [e]
    exact hq
theorem ps_sorted {l : Addr} {vs : List Value} {k : Value → Str × Str} {Q : Value → Shared → Prop} (hl : s.heap.IsList l vs.toArray) (hz : vs.length ≤ sizeLine) (hp : ∀ v ∈ vs, IsPS s.heap v (k v))
    (h : ∀ (h' : Heap) (d : Addr) (out : List Value), SrtO.Srtd (fun v u => lexS (k v) (k u)) out → SrtO.Stb (fun v u => lexS (k v) (k u)) out vs → (∀ b o, s.heap.get? b = some o → h'.get? b = some o) → s.heap.objs.size ≤ d → (∃ n, h'.get? d = some (PyProof.Rows.seqObj "list" out.toArray n)) → Q (.ref d) { s with heap := h' }) :
    wpAny (model prog w) A (call (.builtin "sorted") [.ref l]) Q E s := by
  refine SrtO.sorted_ord (lexS_swo k) hl hz (fun h2 h₁ a ha kk => ?_) fun out hs hb => ?_
  · refine ps_sortable (s := { s with heap := h₁ }) (by omega) (fun v hm => (hp v hm).keeps fun b o e _ => (kk b o e).2) fun o e c => ?_
    have e' : some o = some (PyProof.Rows.seqObj "list" vs.toArray 0) := e.symm.trans ha
    cases e'
    exact absurd (Value.type.inj c) (by decide)
  · exact h _ _ out hs hb (fun b o e => PyProof.Rows.sortedAll_old e) (Nat.le_succ _) (PyProof.Rows.sortedAll_at s.heap vs out.toArray)
end
end Py
namespace Py
open PySem PySem.Spec L2
abbrev ltPS (k : V → Str × Str) (x y : V) : Bool := lexS (k x) (k y)
def rSortedPS (K : PySem.W.Frag) : List V → Hp → VK → Prop := fun vs H Q => ∃ (a : Addr) (xs : List V) (k : V → Str × Str), vs = [V.ref a] ∧ SqL K H a xs ∧ (∀ x ∈ xs, ∃ t, x = V.ref t ∧ H t = some (.tup [.str (k x).1, .str (k x).2])) ∧
  ∀ ys p, SrtO.Srtd (ltPS k) ys → SrtO.Stb (ltPS k) ys xs → H p = none → Q (.ref p) (upd H p (.lst ys))
section
variable {X : Cx}
theorem cr_sortedPS : CallR X (.builtin "sorted") (rSortedPS X.K) := by
  intro pins s σ H vs us Q I r h
  obtain ⟨a, xs, k, rfl, hs, hx, q⟩ := h
  obtain ⟨its, rv, hl, hz⟩ := I.list hs
  obtain ⟨u, rfl, ru⟩ := vals1 r
  obtain rfl : u = Value.ref a := ru
  obtain ⟨e1, e2⟩ := refs_back rv fun x m => by
    obtain ⟨t, e, _⟩ := hx x m
    exact ⟨t, e⟩
  refine ps_sorted (k := fun u => k (backV u)) hl.isList (by rw [← rv.length]; exact hz) (fun v hv => ?_) fun h' d out h1 h2 kp hd hn => ?_
  · obtain ⟨t, rfl⟩ := e2 v hv
    have hm : V.ref t ∈ xs := by rw [e1]; exact List.mem_map.mpr ⟨_, hv, rfl⟩
    obtain ⟨t', e, ht⟩ := hx _ hm
    cases e
    obtain ⟨_, its2, r2, o, ho, hc, n, hd⟩ := I.hok _ _ ht
    obtain ⟨u1, u2, rfl, ri, rj⟩ := vals2 r2
    obtain ⟨t1, rfl⟩ := ri
    obtain ⟨t2, rfl⟩ := rj
    exact ⟨t, o, t1, t2, n, rfl, ho, hc, hd⟩
  · have h3 : ∀ u ∈ out, ∃ a, u = Value.ref a := fun u hu => e2 u (h2.perm.mem_iff.mp hu)
    obtain ⟨n, hn⟩ := hn
    have hb : SrtO.Stb (ltPS k) (out.map backV) xs := by
      rw [e1]
      exact SrtO.Stb.map (lexS_swo k) backV h2
    refine ⟨.ref d, upd H d (.lst (out.map backV)), I.laid (t' := s.toks) kp hd ⟨?_, out, n, vals_back h3, hn⟩, rfl, q _ d (SrtO.srtd_map h1) hb (I.hok.fresh hd)⟩
    rw [hb.len]
    exact hz
end
/-- the pair that a value is -/
def kPS (H : Hp) (v : V) : Str × Str := match v with
  | .ref t => (match H t with
    | some (.tup [.str a, .str b]) => (a, b)
    | _ => ("", ""))
  | _ => ("", "")
section
variable {K : PySem.W.Frag} {ρ : List Addr} {F G H : Hp} {st : Store}
theorem pairs_rd (fh : Same F H) : ∀ {l : List D} {xs : List V} {ps : List (Str × Str)}, RDs K ρ F l xs → asPairs l = some ps → xs.map (kPS H) = ps ∧ ∀ x ∈ xs, (∃ t, x = V.ref t ∧ F t = some (.tup [.str (kPS H x).1, .str (kPS H x).2])) ∧ RD K ρ F (pairD (kPS H x)) x
  | _, _, _, .nil, e => by cases e; exact ⟨rfl, by simp⟩
  | _, _, _, .cons (d := d) (v := v) (ds := ds) h t, e => by
    unfold asPairs at e
    split at e
    · rename_i h0; cases h0
    · rename_i x y r he
      cases he
      cases hr : asPairs ds with
      | none => rw [hr] at e; cases e
      | some q =>
        rw [hr] at e
        cases e
        obtain ⟨i1, i2⟩ := pairs_rd fh t hr
        cases h with
        | @tup aa _ _ hf hl rr =>
          cases rr with
          | cons r1 r2 => cases r2 with
            | cons r2 r3 =>
              cases r3
              cases r1 with
              | str _ o1 o2 => cases r2 with
                | str _ o3 o4 =>
                  have hk : kPS H (V.ref aa) = (x, y) := by unfold kPS; dsimp only; rw [fh _ _ hf]
                  refine ⟨by rw [List.map_cons, hk, i1], fun z hz => ?_⟩
                  rcases List.mem_cons.mp hz with e | hz
                  · rw [e, hk]
                    exact ⟨⟨_, rfl, hf⟩, .tup hf hl (.cons (.str _ o1 o2) (.cons (.str _ o3 o4) .nil))⟩
                  · exact i2 z hz
    · cases e
theorem rds_map {k : V → Str × Str} : ∀ {ys : List V}, (∀ y ∈ ys, RD K ρ F (pairD (k y)) y) → RDs K ρ F (ys.map fun y => pairD (k y)) ys
  | [], _ => .nil
  | y :: ys, h => .cons (h y List.mem_cons_self) (rds_map fun z hz => h z (List.mem_cons_of_mem _ hz))
end
def rSortB (K : PySem.W.Frag) : List V → Hp → VK → Prop := fun vs H Q => rSortA K vs H Q ∨ rSortedPS K vs H Q
theorem call_sortB {X : Cx} : CallR X (.builtin "sorted") (rSortB X.K) := call_sortA.or cr_sortedPS
theorem s_sorted2 {K : PySem.W.Frag} : CallL K fSorted2 (rSortB K) := fun {W σ ρ F G H st xs us Q} g rs p => by
  unfold fSorted2 at p
  split at p
  · split at p
    · rename_i _ d _
      obtain ⟨v, e, r⟩ := rds1 rs rfl
      subst e
      cases ha : asL st d with
      | none => rw [ha] at p; exact p.elim
      | some l =>
        rw [ha] at p
        dsimp only [Option.bind_some] at p
        obtain ⟨a, ys, e1, h3, h4, h5⟩ := asL_ok g r ha
        subst e1
        cases hs : asPairs l with
        | none => rw [hs] at p; exact p.elim
        | some ps =>
          rw [hs] at p
          dsimp only at p
          obtain ⟨i1, i2⟩ := pairs_rd g.f h5 hs
          refine .inr ⟨a, ys, kPS H, rfl, SqL.of h3, fun x hx => ?_, fun zs q hsrt hstb hq => ?_⟩
          · obtain ⟨⟨t, e, ht⟩, _⟩ := i2 x hx
            exact ⟨t, e, g.f _ _ ht⟩
          · have e3 : zs.map (kPS H) = isort leP ps := by
              rw [← i1]
              refine isort_unique leP_total leP_trans leP_anti (hstb.perm.map _) (List.pairwise_map.mpr (hsrt.imp fun h => ?_))
              rw [leP_lexS]; exact congrArg (!·) h
            rw [← e3, List.map_map] at p
            refine p.now g _ _ (rds_map fun y hy => (i2 y (hstb.perm.mem_iff.mp hy)).2) hq ?_
            rw [hstb.perm.length_eq]; exact h4
    · exact p.elim
  · exact .inl (s_sorted g rs p)
end Py

set_option Elab.async false
set_option linter.all false
set_option maxRecDepth 100000
set_option maxHeartbeats 1000000
set_option autoImplicit false
namespace Py
open PySem PySem.Spec L2
/-- a def over the caller's store -/
def spS (K : PySem.W.Frag) (n : Nat) (m : List D → Store → Res D) : Sp := fun vs H Q E => vs.length = n ∧ ∃ (ρ : List Addr) (F G : Hp) (st : Store) (ds : List D), Good K ρ F G H st ∧ RDs K ρ F ds vs ∧ Pst K (WE0 E) ρ F G [] (m ds st) (fun ρ' F' H' d _ => ∀ v, RD K ρ' F' d v → Q v H')
section
variable {P : Program} {w : World} {K : PySem.W.Frag} {mg : Str → Option Value} {base : Heap}
theorem envR_nil (ρ : List Addr) (F : Hp) : EnvR K ρ F [] [] := ⟨rfl, fun i d h => by simp at h⟩
theorem sub_take {ρ ρ' : List Addr} {n : Nat} (s : Sub ρ ρ') (h : ρ.length = n) : Sub ρ (ρ'.take n) := fun i a q => by
  have hi : i < n := by rw [← h]; exact (List.getElem?_eq_some_iff.mp q).1
  rw [List.getElem?_take_of_lt hi]; exact s i a q
theorem take_sub (ρ : List Addr) (n : Nat) : ∀ (i : Nat) (a : Addr), ρ[i]? = some a → i < n → (ρ.take n)[i]? = some a := fun i a q hi => by
  rw [List.getElem?_take_of_lt hi]; exact q
theorem good_gcS {ρ ρ' : List Addr} {F G H : Hp} {st : Store} {n : Nat} (g : Good K ρ' F G H st) (s : Sub ρ ρ') (h : ρ.length = n) : ∃ ρ2, Sub ρ ρ2 ∧ Good K ρ2 F G H (gcS n st) := by
  unfold gcS
  cases q : gc n [] st with
  | none => exact ⟨ρ', s, g⟩
  | some p =>
    obtain ⟨e', st'⟩ := p
    exact ⟨_, sub_take s h, (g.gc (envR_nil _ _) q).1⟩
theorem fin_ok {ρ ρ' : List Addr} {F F' G H' : Hp} {st' : Store} {W : WX} {n : Nat} {d : D} {v : V} {Q : VK} (hn : ρ.length = n) (s : Sub ρ ρ') (f : Same F F') (g : Good K ρ' F' G H' st') (r : RD K ρ' F' d v)
    (p : Pst K W ρ F G [] (finD n d st') (fun ρ' F' H' d _ => ∀ v, RD K ρ' F' d v → Q v H')) : Q v H' := by
  unfold finD at p
  cases q : gc n [] st' with
  | none => rw [q] at p; exact p.to s f g v r
  | some z =>
    obtain ⟨e', st2⟩ := z
    rw [q] at p
    dsimp only at p
    have g2 := (g.gc (envR_nil _ _) q).1
    have s2 := sub_take (n := n) s hn
    split at p
    · rename_i i
      split at p
      · rename_i hi
        exact p.to s2 f g2 v (RD.cut (take_sub ρ' n) _ _ (by simpa using hi) r)
      · rename_i hi
        split at p
        · rename_i l hk
          split at p
          · rename_i hb
            cases r with
            | @ref _ a ha =>
              obtain ⟨h0, h00, ys, h1, h2, h3⟩ := g.obj i a _ ha hk
              have s3 : Same F' (upd F' a (.lst ys)) := fun c o q => by rw [upd_ne (ne_of_none q h0)]; exact q
              have hrd : RD K ρ' (upd F' a (.lst ys)) (.lst l) (.ref a) := .lst upd_same h2 (h3.mono (Sub.refl _) s3)
              obtain ⟨g3, _⟩ := g.frzO ha hk (by intro d q; cases q) h1 hrd
              have q3 : gc n [] (st'.set i (.fz (.lst l))) = some ([], st2) := by
                unfold gc at q ⊢
                rw [List.length_set]
                have et : (st'.set i (.fz (.lst l))).take n = st'.take n := by rw [List.take_set_of_le (by omega)]
                rw [et]
                split at q
                · rename_i hl
                  have : i < st'.length := (List.getElem?_eq_some_iff.mp hk).1
                  omega
                · split at q
                  · rename_i hh
                    rw [if_pos hh]
                    cases q
                    simp [*, cutE]
                  · cases q
              have g4 := (g3.gc (envR_nil _ _) q3).1
              exact p.to s2 (f.trans s3) g4 _ (RD.cut (take_sub ρ' n) _ _ (by simpa using hb) hrd)
          · exact p.to s f g v r
        · exact p.to s f g v r
    · split at p
      · rename_i hb
        exact p.to s2 f g2 v (RD.cut (take_sub ρ' n) _ _ hb r)
      · exact p.to s f g v r
theorem st_end {E : XK} {ρ : List Addr} {F G H : Hp} {st : Store} {Q : VK} {k n : Nat} {r : RS} {ds : List D} (g : Good K ρ F G H st) (hr : Pst K (WE0 E) ρ F G [] (stOf k n r ds st) (fun ρ' F' H' d _ => ∀ v, RD K ρ' F' d v → Q v H')) :
    Sst K (WE0 E) ρ F G (r (startE n ds) st) { nx := fun _ H' => Q .non H', rt := Q } := by
  unfold stOf at hr
  split at hr
  · cases q : r (startE n ds) st with
    | bad => rw [q] at hr; exact hr
    | nx e st' =>
      rw [q] at hr
      intro ρ' F' H' σ' s f g' ev
      obtain ⟨ρ2, s2, g2⟩ := good_gcS (n := st.length) g' s g.len
      exact hr ρ2 F' H' s2 f g2 _ .non
    | exn C e st' =>
      rw [q] at hr
      intro ρ' F' H' σ' s f g' ev
      obtain ⟨ρ2, s2, g2⟩ := good_gcS (n := st.length) g' s g.len
      exact hr ρ2 F' H' s2 f g2
    | rt d st' =>
      rw [q] at hr
      exact fun ρ' F' H' v s f g' rv => fin_ok g.len s f g' rv hr
  · exact hr.elim
theorem stOf_len {k n : Nat} {r : RS} (ds : List D) (st : Store) (h : stOf k n r ds st ≠ .bad) : ds.length = k := by
  by_cases e : ds.length = k
  · exact e
  · exact absurd (by unfold stOf; rw [if_neg e]) h
theorem st_fn {x qual : Str} {stt : Stmt} {f : Addr} {fd : FuncData} {N ps : List Str} {k : Nat} {r : RS} (F : Fun K x qual stt f fd) (S : FnScope N ps (defScope stt))
    (hbody : ∀ (cdv : Value) (A : Around) (outer : List PySem.Env) (s : Shared) (H : Hp) (E : XK), Room k (A.deeper (PyProof.Rows.envOfC qual (defScope stt) s.heap.objs.size f cdv)) →
      PSs (cxOf (L2.CX P w) P w K mg base N qual (defScope stt) f cdv A outer s H E) (defBody stt) (toTS K (WE0 E) r)) : FnOk P w K mg base (L2.CX P w) (k + 1) f fd ps (spS K ps.length (stOf ps.length N.length r)) :=
  F.okX S (fun vs H Q E h => h.1) fun cdv A outer s H vs Q E hr ⟨hl, ρ, F0, G0, st, ds, g, rs, hm⟩ =>
    ⟨_, hbody cdv A outer s H E hr, ρ, F0, G0, _, st, g, start_env rs, st_end g hm⟩
end
section
variable {X : Cx} {W : WX} {a : Expr} {es : List Expr} {p pos : Pos} {aa : RA} {k : Nat} {x : Str} {f : Addr} {fd : FuncData} {ps : List Str} {m : List D → Store → Res D}
theorem sp_callS {K : PySem.W.Frag} {ρ : List Addr} {F G H : Hp} {st : Store} {σ : St} {ds : List D} {vs : List V} {Q : VK} {n : Nat} (hn : ∀ ds st, m ds st ≠ .bad → ds.length = n) (g : Good K ρ F G H st) (rs : RDs K ρ F ds vs)
    (p1 : Pst K W ρ F G σ (m ds st) (fun ρ' F' H' d _ => ∀ v, RD K ρ' F' d v → Q v H')) : spS K n m vs H Q (WE W σ) := by
  refine ⟨?_, ρ, F, G, st, ds, g, rs, ?_⟩
  · rw [← rs.length]
    refine hn ds st fun q => ?_
    rw [q] at p1
    exact p1
  · cases q : m ds st with
    | bad => rw [q] at p1; exact p1
    | ok d st' => rw [q] at p1; exact p1
    | exn C st' => rw [q] at p1; exact p1
/-- f(e, ..), f a def over the caller's store -/
theorem x_callSt (hl : ∀ ds st, m ds st ≠ .bad → ds.length = ps.length) (G : FnOk X.prog X.w X.K X.mg X.base (L2.CX X.prog X.w) k f fd ps (spS X.K ps.length m)) (hr : Room k X.A) (hm : X.mg x = some (.ref f)) (hk : PySem.W.keepIn X.K (.ref f) = true) (hb : Binds X.K fd ps []) (tk : Takes X W) (ha : PA X (a :: es) (toTA X.K W aa))
    (hg : Gl X x := by rfl) (hdb : (x == ("__debug__" : Str)) = false := by decide) (he : starEach (a :: es) X.env = (false, eval a X.env) :: starEach es X.env := by rfl) (hpl : (backTo pos (starEach es X.env)).any (·.1) = false := by rfl) :
    PE X (.Call (.Name x p) (a :: es) [] pos) (toTE X.K W (rCall m aa)) :=
  PE.imp (pe_callS G hr hg hm hk hb (fun σ => passAt tk σ) ha hdb he hpl) fun σ H Q ⟨ρ, F, G, e, st, g, ev, p⟩ => ta_bind g ev p fun ρ1 F1 H1 ds st1 vs _ _ g1 ev1 r1 p1 => sp_callS hl g1 r1 p1
/-- the def x keeps to m, over the store -/
def OkS (P : Program) (w : World) (K : PySem.W.Frag) (mg : Str → Option Value) (x : Str) (ps : List Str) (k : Nat) (m : List D → Store → Res D) : Prop :=
  (∀ ds st, m ds st ≠ .bad → ds.length = ps.length) ∧ mg x = some (.ref (He.ga K x)) ∧ PySem.W.keepIn K (.ref (He.ga K x)) = true ∧ ∃ fd, (∀ us : List Value, us.length = ps.length → bindArgs fd ⟨us, []⟩ = pure (ps.zip us)) ∧ ∀ base, FnOk P w K mg base (L2.CX P w) k (He.ga K x) fd ps (spS K ps.length m)
theorem x_callOS {j : Nat} (O : OkS X.prog X.w X.K X.mg x ps k m) (hr : Room j X.A) (tk : Takes X W) (ha : PA X (a :: es) (toTA X.K W aa)) (hj : k ≤ j := by decide)
    (hg : Gl X x := by rfl) (hdb : (x == ("__debug__" : Str)) = false := by decide) (he : starEach (a :: es) X.env = (false, eval a X.env) :: starEach es X.env := by rfl) (hpl : (backTo pos (starEach es X.env)).any (·.1) = false := by rfl) :
    PE X (.Call (.Name x p) (a :: es) [] pos) (toTE X.K W (rCall m aa)) := by
  obtain ⟨hl, hm, hk, fd, hb, G⟩ := O
  exact x_callSt hl (G X.base) (hr.mono hj) hm hk (Binds.all hb) tk ha hg hdb he hpl
end
theorem mk_okS {P : Program} {w : World} {K : PySem.W.Frag} {mg : Str → Option Value} {x : Str} {stt : Stmt} {N ps : List Str} {k : Nat} {r : RS} (d : ∃ fd, Fun K x x stt (He.ga K x) fd) (g : mg x = some (.ref (He.ga K x))) (S : FnScope N ps (defScope stt))
    (hb : ∀ (kV doc pm : Value) (an : Option Addr) (cdv ct : Value) (us : List Value), us.length = ps.length → bindArgs (PySem.W.fnOf x x (defArgs stt) (defBody stt) (defScope stt) .none kV doc pm an cdv ct) ⟨us, []⟩ = pure (ps.zip us))
    (hbody : ∀ (base : Heap) (cdv : Value) (A : Around) (outer : List PySem.Env) (s : Shared) (H : Hp) (E : XK), Room k (A.deeper (PyProof.Rows.envOfC x (defScope stt) s.heap.objs.size (He.ga K x) cdv)) → Takes (cxOf (L2.CX P w) P w K mg base N x (defScope stt) (He.ga K x) cdv A outer s H E) (WE0 E) →
      PassesOwn (model P w) (A.deeper (PyProof.Rows.envOfC x (defScope stt) s.heap.objs.size (He.ga K x) cdv)) (PyProof.Rows.envOfC x (defScope stt) s.heap.objs.size (He.ga K x) cdv) (cxOf (L2.CX P w) P w K mg base N x (defScope stt) (He.ga K x) cdv A outer s H E).xe →
      PSs (cxOf (L2.CX P w) P w K mg base N x (defScope stt) (He.ga K x) cdv A outer s H E) (defBody stt) (toTS K (WE0 E) r)) : OkS P w K mg x ps (k + 1) (stOf ps.length N.length r) := by
  obtain ⟨fd, F⟩ := d
  refine ⟨fun ds st h => stOf_len ds st h, g, F.kp, fd, ?_, fun base => st_fn F S fun cdv A outer s H E hr => hbody base cdv A outer s H E hr (takes_of rfl rfl rfl rfl) (passes_of rfl)⟩
  obtain ⟨oc, od, kV, doc, pm, an, cdv, ct, osl, rfl, lk, hcd⟩ := F.ex
  exact hb kV doc pm an cdv ct
end Py

set_option Elab.async false
set_option linter.all false
set_option maxRecDepth 100000
set_option maxHeartbeats 1000000
set_option autoImplicit false
namespace Py
open PySem PySem.Spec L2
section
variable {K : PySem.W.Frag}
theorem m_index : MtS K fIndex "list" (rIndex K) := fun {W σ ρ F G H st x xs u us Q} g r rs p => by
  unfold fIndex at p
  split at p
  · rename_i y
    obtain ⟨w, e, ry⟩ := rds1 rs rfl
    subst e
    cases ha : asL st x with
    | none => rw [ha] at p; exact p.elim
    | some l =>
      rw [ha] at p
      dsimp only at p
      obtain ⟨a, ys, e1, h3, h4, h5⟩ := asL_ok g r ha
      subst e1
      split at p
      · rename_i hf
        obtain ⟨fy, fl⟩ := Bool.and_eq_true_iff.mp hf
        cases hj : l.findIdx? fun z => eqF z y with
        | none => rw [hj] at p; exact p.elim
        | some j =>
          rw [hj] at p
          dsimp only at p
          obtain ⟨hjl, hj1, hj2⟩ := List.findIdx?_eq_some_iff_getElem.mp hj
          have flt : ∀ (i : Nat) (h : i < l.length), flat l[i] = true := fun i h => List.all_eq_true.mp fl _ (List.getElem_mem h)
          obtain ⟨z, hz, rz⟩ := h5.get (i := j) (d := l[j]) (by simp [hjl])
          refine ⟨a, ys, w, j, z, rfl, rfl, SqL.of h3, flat_ok ry fy, flats_ok h5 fl, hz, ?_, fun m z' hm hz' => ?_, p.now g _ (.int _)⟩
          · rw [eqF_ok rz ry (flt j hjl) fy]; exact hj1
          · have hml : m < l.length := by omega
            obtain ⟨z2, hz2, rz2⟩ := h5.get (i := m) (d := l[m]) (by simp [hml])
            rw [hz'] at hz2
            cases hz2
            rw [eqF_ok rz2 ry (flt m hml) fy]
            have := hj2 m hm
            simpa using this
      · exact p.elim
  · exact p.elim
end
end Py

set_option Elab.async false
set_option linter.all false
set_option maxRecDepth 100000
set_option maxHeartbeats 1000000
set_option autoImplicit false
/-! enumerate over a tuple -/
namespace Py
open PySem PySem.Spec L2
/-- the tuple at a, each item in a new pair -/
def IteT (K : PySem.W.Frag) (a : Addr) : It :=
  ⟨fun i H => ∃ (xs : List V) (x : V), SqT K H a xs ∧ xs[i]? = some x, fun i H v H' => ∃ T x, v = .ref T ∧ H T = none ∧ H' = upd H T (.tup [.int (i : Nat), x]) ∧ ∀ xs, SqT K H a xs → xs[i]? = some x, fun i H => ∃ xs : List V, SqT K H a xs ∧ xs.length ≤ i⟩
theorem tup_not_iter {h : Heap} {a it : Addr} {its : Array Value} {i : Nat} (h1 : h.IsTuple a its) (h2 : h.IsTupleIter it a i) : a ≠ it := by
  rintro rfl
  obtain ⟨o, ho, hc, _⟩ := h1
  obtain ⟨o', ho', hc', _⟩ := h2
  rw [ho] at ho'
  cases ho'
  rw [hc] at hc'
  exact absurd hc' (by decide)
theorem enum_not_tup {h : Heap} {a e it : Addr} {its : Array Value} {i : Int} {old : Value} (h1 : h.IsTuple a its) (h2 : IsEnum h e it i old) : e ≠ a := by
  rintro rfl
  obtain ⟨o, ho, hc, _⟩ := h1
  rw [show h.get? e = _ from h2] at ho
  cases ho
  exact absurd hc (show ¬ (Value.type "enumerate" = Value.type "tuple") by decide)
section
variable {prog : Program} {w : World} {A : Around} {E : Value → Shared → Prop} {s : Shared}
theorem enum_tup_end {e it l : Addr} {i : Nat} {items : Array Value} {old : Value} {Q : Option Value → Shared → Prop} (hh : A.handled = none)
    (he : IsEnum s.heap e it i old) (hit : s.heap.IsTupleIter it l i) (hl : s.heap.IsTuple l items) (hx : items[i]? = none)
    (hQ : ∀ h', Heap.ExtBut it s.heap h' → Q none { s with heap := h' }) : wpAny (model prog w) A (pyNext (.ref e)) Q E s := by
  have hT : s.TypeIs (.ref e) "enumerate" := ⟨_, he, rfl⟩
  unfold pyNext
  refine wpAny_bind (wpAny_attempt (wpAny_callSpecial?_slot (name := Str.ofString "__next__") hT F.slot_enumerate_next
    (wpAny_call_entry F.slot_enumerate_next hT F.entry_enumerate_next ?_ (F.args_enumerate_next_1 _))))
  show wpAny _ _ (field (.ref e) 2 >>= _) _ _ _
  refine wpAny_bind (wpAny_field he rfl (x := .ref it) rfl ?_)
  refine wpAny_bind (wpAny_nextOf_tuple_end hh hit hl hx fun h' x he' hx' => ?_)
  obtain ⟨o, ho, hc⟩ := hx'
  refine wpAny_bind (wpAny_isInstance (T := "StopIteration") (b := true) ⟨o, ho, hc⟩ isSubtype_stop ?_)
  exact wpAny_pure (hQ _ he')
set_option maxHeartbeats 1000000 in
theorem meets_enum_newT (l : Addr) (items : Array Value) :
    Meets (Builtin.«enumerate.__new__» ⟨[.type "enumerate", .ref l], []⟩) (fun _ R s => s.heap.IsTuple l items ∧
      R (.ok (.ret (.ref (s.heap.push { cls := .type "tuple_iterator", data := .fields #[.ref l, .int 0 0] }).objs.size)))
        { s with heap := (s.heap.push { cls := .type "tuple_iterator", data := .fields #[.ref l, .int 0 0] }).push { cls := .type "enumerate", data := .fields #[.none, .bool false, .ref s.heap.objs.size, rawInt 0, .none, .none] } }) :=
  .of_wp fun prog w A R s h => by
    obtain ⟨hp, g, d, tk, os⟩ := s; obtain ⟨h1, h⟩ := h
    have hsub := sub_enumerate
    have q1 : ∀ {A' : Around} {E : Value → Shared → Prop} {Q : Value → Shared → Prop}, Q (.ref hp.objs.size) ⟨hp.push { cls := .type "tuple_iterator", data := .fields #[.ref l, .int 0 0] }, g, d, tk, os⟩ → wpAny (model prog w) A' (pyIter (.ref l)) Q E ⟨hp, g, d, tk, os⟩ :=
      fun q => (begins_tuple l items).iter prog w _ _ ⟨hp, g, d, tk, os⟩ _ h1 q
    wp_walk using q1
    refine wpAny_stack_any fun st => wpAny_pure ?_
    split
    · rename_i c _ _ _ _ _
      cases (c == Value.type "enumerate")
      · wp_walk using q1
        exact ⟨_, rfl, h⟩
      · wp_walk using q1
        exact ⟨_, rfl, h⟩
    · wp_walk using q1
      exact ⟨_, rfl, h⟩
theorem call_enum_tuple {l : Addr} {items : Array Value} {Q : Value → Shared → Prop} (hL : s.heap.IsTuple l items)
    (h : ∀ h', IsEnum h' (s.heap.objs.size + 1) s.heap.objs.size 0 .none → h'.IsTupleIter s.heap.objs.size l 0 → h'.objs.size = s.heap.objs.size + 2 →
      (∀ b o, s.heap.get? b = some o → h'.get? b = some o) → Q (.ref (s.heap.objs.size + 1)) { s with heap := h' }) :
    wpAny (model prog w) A (call (.type "enumerate") [.ref l]) Q E s := by
  refine callType_new F.called_enumerate (by decide) (F.typeCall_enumerate_1 _) (F.newCall_enumerate_1 _) (fun obj => F.args_object_init_2 obj _) F.entry_enumerate_new
    (meets_enum_newT l items) ⟨hL, ?_⟩
  have hz : (s.heap.push { cls := .type "tuple_iterator", data := .fields #[.ref l, .int 0 0] }).objs.size = s.heap.objs.size + 1 := Heap.size_push ..
  show _ ∧ _
  rw [hz]
  have he : IsEnum ((s.heap.push { cls := .type "tuple_iterator", data := .fields #[.ref l, .int 0 0] }).push
      { cls := .type "enumerate", data := .fields #[.none, .bool false, .ref s.heap.objs.size, rawInt 0, .none, .none] }) (s.heap.objs.size + 1) s.heap.objs.size 0 .none := by
    have := Heap.get?_push_size (s.heap.push { cls := .type "tuple_iterator", data := .fields #[.ref l, .int 0 0] })
      (o := { cls := .type "enumerate", data := .fields #[.none, .bool false, .ref s.heap.objs.size, rawInt 0, .none, .none] }) rfl
    rw [hz] at this; exact this
  refine ⟨⟨_, he, rfl⟩, h _ he ⟨_, Heap.get?_push_of_some _ (Heap.get?_push_size _ rfl), rfl, rfl⟩ (by rw [Heap.size_push, hz]) fun b o x => Heap.get?_push_of_some _ (Heap.get?_push_of_some _ x)⟩
end
theorem turn_enumT {P : Program} {w : World} {K : PySem.W.Frag} {elts : List Expr} {kk : Nat} {tpos : Pos} (a e it : Addr) :
    Turn P w K (.Tuple elts kk tpos) (IteT K a) [e, it] e (fun i h => (∃ old, IsEnum h e it ((i : Nat) : Int) old) ∧ h.IsTupleIter it a i ∧ e ≠ it) where
  mem := by simp
  obj := fun i h st b hb => by
    obtain ⟨⟨old, he⟩, ⟨o, ho, hc, hd⟩, _⟩ := st
    have e' : b = e ∨ b = it := by simpa using hb
    rcases e' with z | z
    · rw [z]; exact ⟨_, he, fun v q => nomatch q⟩
    · rw [z]; exact ⟨o, ho, fun v q => by rw [hd] at q; cases q⟩
  keep := fun i h h' st k => let ⟨⟨old, he⟩, hi, hne⟩ := st; ⟨⟨old, k e (by simp) _ he⟩, hi.at fun o q => k it (by simp) o q, hne⟩
  item := by
    intro X hP hw hK hc i pins s σ H E I hf st hg
    subst hP hw hK
    obtain ⟨⟨old, he⟩, hit, hne⟩ := st
    obtain ⟨xs, x, hq, hx⟩ := hg
    obtain ⟨its, rv, p, hz⟩ := I.tuple hq
    have p : s.heap.IsTuple a its.toArray := p
    obtain ⟨u, hu, ru⟩ := rv.get hx
    have hel : e < s.heap.objs.size := Heap.lt_size he
    have hil : it < s.heap.objs.size := by obtain ⟨_, q, _⟩ := hit; exact Heap.lt_size q
    have hai := tup_not_iter p hit
    have hea := enum_not_tup p he
    refine wpAny_pyNext_enum_itemD (Draws.tuple (A := X.A.in1) (I.ok.hd hc) it a hai its.toArray) he ⟨hit, p⟩ (by have := (List.getElem?_eq_some_iff.mp hu).1; simpa using this) hne (by simp [hne, hea]) fun x' h' tk hpx ho hst hT hsz hk => ?_
    have hxu : x' = u := by
      have : its[i]? = some x' := by simpa using hpx
      rw [hu] at this; cases this; rfl
    subst hxu
    obtain ⟨hit', ht'⟩ := hst
    refine ⟨_, rfl, wpAny_letOwnedTupleGo_enum (s := { s with heap := h', toks := tk + 1 }) ho fun h'' he' sb => ?_⟩
    have hT2 : h''.get? s.heap.objs.size = some { cls := .type "tuple", data := .seq #[.int i tk, x'] } := (sb.2 _ (Nat.ne_of_gt hel)).trans hT
    have new : ObjOk X.prog X.w (upd H s.heap.objs.size (.tup [.int (i : Nat), x])) h'' s.heap.objs.size (.tup [.int (i : Nat), x]) :=
      ⟨by show 2 ≤ sizeLine; decide, [.int i tk, x'], .cons ⟨_, rfl⟩ (.cons ru .nil), ⟨_, hT2, rfl, _, rfl⟩⟩
    have I1 : Inv X pins σ (upd H s.heap.objs.size (.tup [.int (i : Nat), x])) { s with heap := h'', toks := tk + 1 } :=
      I.turnedNew (ch := [e, it]) (fun b ob hb q => (sb.2 b (fun z => hb (by simp [z]))).trans (hk b ob (fun z => hb (by simp [z])) (fun z => hb (by simp [z])) q)) hf (Nat.le_refl _) new
    refine ⟨.ref s.heap.objs.size, _, I1, rfl, ⟨_, x, rfl, I.hok.fresh (Nat.le_refl _), rfl, fun ys hy => by rw [I.tuple_inj hy hq]; exact hx⟩, ⟨⟨x', ?_⟩, hit'.at fun o q => (sb.2 it (Ne.symm hne)).trans q, hne⟩, fun b hb => ?_⟩
    · have e1 : ((i + 1 : Nat) : Int) = (i : Int) + 1 := by omega
      rw [e1]; exact he'
    · have hb' : b < s.heap.objs.size := by
        have e' : b = e ∨ b = it := by simpa using hb
        rcases e' with z | z
        · rw [z]; exact hel
        · rw [z]; exact hil
      rw [upd_ne (Nat.ne_of_lt hb')]
      exact (hf b hb).1
  done := by
    intro X hP hw hK hc i pins s σ H E I hf st hg
    subst hP hw hK
    obtain ⟨⟨old, he⟩, hit, hne⟩ := st
    obtain ⟨xs, hq, hx⟩ := hg
    obtain ⟨its, rv, p, hz⟩ := I.tuple hq
    have p : s.heap.IsTuple a its.toArray := p
    obtain ⟨f0, f1, f2, f3, f4, f5⟩ := hf it (by simp)
    have hl := rv.length
    exact enum_tup_end (I.ok.hd hc) he hit p (by simp; omega) fun h' eb => ⟨rfl, I.turned (t' := s.toks) (fun b o hb q => eb b o hb q) f0 f1 f3 f4 f5⟩
  self := fun A i s Q E st h => let ⟨⟨_, he⟩, _⟩ := st; wpAny_pyIter_enum he h
def iEnumT (K : PySem.W.Frag) (ta : TA) : TI := fun σ H R => ta σ H fun vs H1 => ∃ a, vs = [.ref a] ∧ ((∃ xs, SqL K H1 a xs ∧ R (Ite K a) H1) ∨ ∃ xs, SqT K H1 a xs ∧ R (IteT K a) H1)
theorem pi_enumT {X : Cx} {e : Expr} {ta : TA} {p pos tpos : Pos} {elts : List Expr} {kk : Nat} (hg : Gl X "enumerate") (hm : X.mg "enumerate" = none) (ha : PA X [e] ta) (hs : starEach [e] X.env = [(false, eval e X.env)] := by rfl) :
    PI X (.Tuple elts kk tpos) (.Call (.Name "enumerate" p) [e] [] pos) (iEnumT X.K ta) := by
  refine ⟨fun pins s σ H R I h => ?_⟩
  refine PyProof.Rows.Call_ (ld_blt I hg hm PyProof.Rows.boot_enumerate (PyProof.Rows.callWith_type1 (thn (ha.run pos pins s σ H _ I h) fun us s1 ⟨vs, H1, I1, r1, q1⟩ => ?_) hs rfl))
  obtain ⟨a, ex, q⟩ := q1
  subst ex
  have fin : ∀ b, b ∈ [s1.heap.objs.size + 1, s1.heap.objs.size] → FpOk X pins H1 b := fun b hb => by
    have e' : b = s1.heap.objs.size + 1 ∨ b = s1.heap.objs.size := by simpa using hb
    have hle : s1.heap.objs.size ≤ b := by
      rcases e' with z | z
      · rw [z]; exact Nat.le_add_right _ _
      · rw [z]; exact Nat.le_refl _
    exact I1.fpOk hle (I1.hok.fresh hle)
  cases r1 with
  | cons r rr =>
    cases rr
    cases r
    rcases q with ⟨xs, hq, q⟩ | ⟨xs, hq, q⟩
    · obtain ⟨its, rv, p', hz⟩ := I1.list hq
      refine call_enumerate_list p'.isList fun h' he hit hsz hk => wpAny_pyIter_enum he ?_
      have I2 : Inv X pins σ H1 { s1 with heap := h' } := I1.kept (t' := s1.toks) hk
      exact ⟨s1.heap.objs.size + 1, [s1.heap.objs.size + 1, s1.heap.objs.size], _, _, H1, rfl, I2, turn_enum a (s1.heap.objs.size + 1) s1.heap.objs.size, ⟨⟨.none, he⟩, hit, Nat.succ_ne_self _⟩, fin, q⟩
    · obtain ⟨its, rv, p', hz⟩ := I1.tuple hq
      have p' : s1.heap.IsTuple a its.toArray := p'
      refine call_enum_tuple p' fun h' he hit hsz hk => wpAny_pyIter_enum he ?_
      have I2 : Inv X pins σ H1 { s1 with heap := h' } := I1.kept (t' := s1.toks) hk
      exact ⟨s1.heap.objs.size + 1, [s1.heap.objs.size + 1, s1.heap.objs.size], _, _, H1, rfl, I2, turn_enumT a (s1.heap.objs.size + 1) s1.heap.objs.size, ⟨⟨.none, he⟩, hit, Nat.succ_ne_self _⟩, fin, q⟩
section
variable {X : Cx} {W : WX} {K : PySem.W.Frag} {pos : Pos}
theorem its_enumT {ρ : List Addr} {F : Hp} {a : Addr} {xs : List V} {ds : List D} (h : F a = some (.tup xs)) (hl : xs.length ≤ cap) (rs : RDs K ρ F ds xs) : ItS K ρ F (IteT K a) (enumL 0 ds) where
  len := by rw [enum_len, rs.length]; exact hl
  go := fun i d ρ' F' G' H' st' s f g hd => by
    obtain ⟨x, h0, rfl⟩ := enum_get hd
    obtain ⟨v, h1, h2⟩ := rs.get h0
    have hq : SqT K H' a xs := SqT.of (g.f _ _ (f _ _ h))
    refine ⟨⟨xs, v, hq, h1⟩, fun y H2 ⟨T, z, e1, e2, e3, e4⟩ => ?_⟩
    subst e1 e3
    have := e4 xs hq
    rw [h1] at this
    cases this
    obtain ⟨g2, f2⟩ := g.newF e2 (.tup [.int (i : Nat), v])
    refine ⟨_, f2, g2, .tup upd_same (by show 2 ≤ cap; decide) (.cons ?_ (.cons ((h2.mono s f).mono (Sub.refl _) f2) .nil))⟩
    rw [Nat.zero_add]
    exact .int _
  stop := fun ρ' F' G' H' st' s f g => ⟨xs, SqT.of (g.f _ _ (f _ _ h)), by rw [enum_len, rs.length]; exact Nat.le_refl _⟩
theorem i_enum {a : Expr} {ra : RA} {p tpos : Pos} {elts : List Expr} {kk : Nat} (hm : X.mg "enumerate" = none) (ha : PA X [a] (toTA X.K W ra)) (hg : Gl X "enumerate" := by rfl) (hs : starEach [a] X.env = [(false, eval a X.env)] := by rfl) :
    PI X (.Tuple elts kk tpos) (.Call (.Name "enumerate" p) [a] [] pos) (toTI X.K W (iEnum ra)) :=
  PI.imp (pi_enumT hg hm ha hs) fun σ H R ⟨ρ, F, G, e, st, g, ev, q⟩ => by
    unfold iEnum at q
    refine ta_bind g ev q fun ρ1 F1 H1 ds st1 vs _ _ g1 ev1 r1 p1 => ?_
    cases r1 with
    | nil => exact p1.elim
    | cons r1 rr =>
      cases rr with
      | cons _ _ => cases r1 <;> exact p1.elim
      | nil =>
        cases r1 with
        | lst hf hl rs => exact ⟨_, rfl, .inl ⟨_, SqL.of (g1.f _ _ hf), p1.now g1 _ (its_enum hf hl rs)⟩⟩
        | tup hf hl rs => exact ⟨_, rfl, .inr ⟨_, SqT.of (g1.f _ _ hf), p1.now g1 _ (its_enumT hf hl rs)⟩⟩
        | @ref k a hr =>
          dsimp only at p1
          split at p1
          · rename_i l hk
            obtain ⟨xs, b1, b2, b3⟩ := fz_lst g1 hr hk
            exact ⟨_, rfl, .inl ⟨_, SqL.of (g1.f _ _ b1), p1.now g1 _ (its_enum b1 b2 b3)⟩⟩
          · exact p1.elim
        | _ => exact p1.elim
/-! ### a list that is only read from here on -/
theorem Good.freeze {ρ : List Addr} {F G H : Hp} {st : Store} {k : Nat} {a : Addr} {l : List D} (g : Good K ρ F G H st) (hr : ρ[k]? = some a) (hk : st[k]? = some (.lst l)) : ∃ F', Same F F' ∧ Good K ρ F' G H (st.set k (.fz (.lst l))) := by
  obtain ⟨f0, g0, xs, h1, h2, h3⟩ := g.obj k a _ hr hk
  have sf : Same F (upd F a (.lst xs)) := fun b u q => by rw [upd_ne (ne_of_none q f0)]; exact q
  refine ⟨upd F a (.lst xs), sf, fun b u q => ?_, g.g, fun b o q => ?_, by rw [List.length_set]; exact g.len, g.nd, fun i b o hb ho => ?_⟩
  · by_cases e : b = a
    · subst e; rw [upd_same] at q; cases q; exact h1
    · rw [upd_ne e] at q; exact g.f b u q
  · rw [upd_ne (ne_of_none q g0)]; exact g.fg b o q
  · by_cases e : i = k
    · subst e
      rw [hr] at hb
      cases hb
      have hl : i < st.length := (List.getElem?_eq_some_iff.mp hk).1
      rw [List.getElem?_set_self hl] at ho
      cases ho
      exact ⟨⟨_, upd_same⟩, .lst upd_same h2 (h3.mono (Sub.refl _) sf)⟩
    · rw [List.getElem?_set_ne (Ne.symm e)] at ho
      refine (g.obj i b o hb ho).keep (Sub.refl _) sf (fun _ q => ?_) fun _ q => q
      rw [upd_ne (fun q' : b = a => e (g.nd i k a (by rw [← q']; exact hb) hr))]; exact q
theorem ss_fz (i : Nat) {s : List Stmt} {r : RS} (h : PSs X s (toTS X.K W r)) : PSs X s (toTS X.K W (sSeq (sFz i) r)) :=
  PSs.imp h fun E σ H ⟨ρ, F, G, e, st, g, ev, p⟩ => by
    unfold sSeq sFz at p
    cases q : e[i]? with
    | none => rw [q] at p; exact p.elim
    | some o =>
      rw [q] at p
      cases o with
      | none => exact p.elim
      | some d =>
        cases d with
        | ref k =>
          dsimp only at p
          cases q2 : st[k]? with
          | none => rw [q2] at p; exact p.elim
          | some o =>
            rw [q2] at p
            cases o with
            | lst l =>
              dsimp only at p
              obtain ⟨a, ha, _⟩ := g.at q2
              obtain ⟨F', sf, g'⟩ := g.freeze ha q2
              exact ⟨ρ, F', G, e, _, g', ev.mono (Sub.refl _) sf, Sst.weak p (Sub.refl _) sf⟩
            | _ => exact p.elim
        | _ => exact p.elim
end
end Py

set_option Elab.async false
set_option linter.all false
set_option maxRecDepth 100000
set_option maxHeartbeats 1000000
set_option autoImplicit false
/-! refusals that are caught -/
namespace Py
open PySem PySem.Spec L2 PyProof.Rows
section
variable {X : Cx} {K : PySem.W.Frag}
/-! ### list.count -/
def rCountF (K : PySem.W.Frag) : V → List V → Hp → VK → Prop := fun x xs H Q => ∃ (a : Addr) (ys : List V) (y : V), x = V.ref a ∧ xs = [y] ∧ SqL K H a ys ∧ flatV y = true ∧ ys.all flatV = true ∧ Q (.int (ys.countP fun z => eqV z y : Nat)) H
theorem count_vals {y : V} : ∀ {ys : List V} {us : List Value}, Vals ys us → ys.all flatV = true → us.countP (eqU y) = ys.countP fun z => eqV z y
  | _, _, .nil, _ => rfl
  | z :: ys, u :: us, .cons r t, f => by
    rw [List.all_cons, Bool.and_eq_true] at f
    rw [List.countP_cons, List.countP_cons, count_vals t f.2, eqU_of r f.1]
theorem mt_countF : MtR X "list.count" (rCountF X.K) := by
  intro pins s σ H x xs v us Q I rx rxs h
  obtain ⟨a, ys, y, rfl, rfl, hs, fy, fys, q⟩ := h
  cases rx
  cases rxs with
  | cons ry rt =>
    rename_i uy ut
    cases rt
    obtain ⟨its, rv, ⟨⟨cls, dd, data, sl⟩, n, ho, hc, hdn, hd⟩, hlen⟩ := I.list hs
    simp only at hc hd
    subst hc hd
    refine call_meets PySem.F.slot_list_count ⟨_, ho, rfl⟩ PySem.F.entry_list_count (PySem.F.args_list_count_2 _ _)
      (SeqAt.list_countAt a its.toArray n dd sl uy (eqU y)) ⟨ho, fun u' hu' => mem_eqAt ry fy rv fys u' (by simpa using hu'), ?_⟩
    have ec : its.toArray.toList.countP (eqU y) = ys.countP fun z => eqV z y := count_vals rv fys
    refine ⟨.int (ys.countP fun z => eqV z y : Nat), H, I.tok _, ⟨s.toks, ?_⟩, q⟩
    rw [ec]
theorem count_rds {ρ : List Addr} {F : Hp} {y : D} {w : V} (ry : RD K ρ F y w) (fy : flat y = true) : ∀ {ds : List D} {vs : List V}, RDs K ρ F ds vs → ds.all flat = true → vs.countP (fun z => eqV z w) = ds.countP fun z => eqF z y
  | _, _, .nil, _ => rfl
  | _, _, .cons r t, f => by
    rw [List.all_cons, Bool.and_eq_true] at f
    rw [List.countP_cons, List.countP_cons, count_rds ry fy t f.2, eqF_ok r ry f.1 fy]
theorem m_count : MtS K fCount "list" (rCountF K) := fun {W σ ρ F G H st x xs u us Q} g r rs p => by
  unfold fCount at p
  split at p
  · rename_i y
    obtain ⟨w, e, ry⟩ := rds1 rs rfl
    subst e
    cases ha : asL st x with
    | none => rw [ha] at p; exact p.elim
    | some l =>
      rw [ha] at p
      dsimp only at p
      obtain ⟨a, ys, e1, h3, h4, h5⟩ := asL_ok g r ha
      subst e1
      split at p
      · rename_i hf
        obtain ⟨fy, fl⟩ := Bool.and_eq_true_iff.mp hf
        refine ⟨a, ys, w, rfl, rfl, SqL.of h3, flat_ok ry fy, flats_ok h5 fl, ?_⟩
        rw [count_rds ry fy h5 fl]
        exact p.now g _ (.int _)
      · exact p.elim
  · exact p.elim
/-! ### isinstance of the exception that is handled -/
theorem call_isP {a D : Addr} {oe : Obj} (hp : (a, oe) ∈ X.pn) (C : ExcC X.K D) (hz : Zc (.ref D) none oe) (hf : ∃ vs, oe.data = .fields vs) : CallR X (.builtin "isinstance") (rIsE X.K D a) := by
  intro pins s σ H xs us Q I r h
  obtain ⟨c, cv, b, rfl, hcv, e, q⟩ := h
  cases r with
  | cons rx rr =>
    cases rr with
    | cons rt rr =>
      cases rr
      cases rx
      have ec := hcv _ rt
      subst ec
      obtain ⟨hget, _⟩ := I.pin (a, oe) (List.mem_append.mpr (.inl hp))
      obtain ⟨vs, hv⟩ := hf
      have J : PySem.W.InstAt s.heap a oe D none := by
        obtain ⟨oc, od, oda, osl⟩ := oe
        obtain ⟨h1, h2⟩ := hz
        dsimp only at h1 h2 hv
        subst h1 h2 hv
        exact ⟨hget, rfl, rfl, trivial⟩
      exact PySem.W.kia_one (PySem.W.handS_kitx_exc C.hg C.hk C.hs C.hd C.ha C.hn C.ht C.hm) I.kIn J e (fun z => nomatch z) fun tk => ⟨.bl b, H, I.kept (t' := tk) fun _ _ z => z, rfl, q⟩
/-- what the fragment says of a class of refusals -/
structure ErrOk (K : PySem.W.Frag) (C : Str) : Prop where
  ex : ExcC K (He.ga K C)
  kit : ∀ x ∈ errs, PySem.W.kitOne K (.ref (He.ga K C)) (.ref (He.ga K x)) = some (decide (x = C))
  ve : PySem.W.kitOne K (.ref (He.ga K C)) (.type "ValueError") = some true
  exm : PySem.W.exmOne K (.ref (He.ga K C)) (.ref (He.ga K "HouseError")) = some true
theorem s_isE {a : Addr} {C : Str} (E : ErrOk K C) : CallS K (fIsE a C) (rIsE K (He.ga K C) a) := fun {W σ ρ F G H st xs us Q} g rs p => by
  unfold fIsE at p
  split at p
  · rename_i b c
    cases rs with
    | cons r1 rs =>
      cases rs with
      | cons r2 rs =>
        cases rs
        split at p
        · rename_i hba
          subst hba
          cases r1
          cases hc : isTbl C c with
          | none => rw [hc] at p; exact p.elim
          | some r =>
            rw [hc] at p
            dsimp only at p
            unfold isTbl at hc
            split at hc
            · rename_i x
              split at hc
              · rename_i hx
                cases hc
                cases r2
                exact ⟨_, .ref (He.ga K x), _, rfl, fun u ru => by cases ru; rfl, E.kit x hx, p.now g _ (.bl _)⟩
              · cases hc
            · rename_i n
              split at hc
              · rename_i hx
                cases hc
                subst hx
                cases r2
                exact ⟨_, .type "ValueError", _, rfl, fun u ru => by cases ru; rfl, E.ve, p.now g _ (.bl _)⟩
              · cases hc
            · cases hc
        · exact p.elim
  · exact p.elim
end
/-! ### a def that is called with the exception that is handled -/
structure FnQ (P : Program) (w : World) (K : PySem.W.Frag) (mg : Str → Option Value) (base : Heap) (CX : CXT) (k : Nat) (f : Addr) (fd : FuncData) (ps : List Str) (sp : Addr × Obj → Sp) : Prop where
  len : ∀ p vs H Q E, sp p vs H Q E → vs.length = ps.length
  run : ∀ (A : Around) (outer : List PySem.Env) (s : Shared) (H : Hp) (args : Args) (us : List Value) (vs : List V) (Q : VK) (E : XK) (p : Addr × Obj), L2H.RoomH k A → L2H.PinOk outer H s p → Env0 P w K mg base A outer s H → BindsTo s fd args (ps.zip us) → Vals vs us → sp p vs H Q E →
    codeAny (model P w) A (.call (.ref f) args) (CR CX outer P w H s Q E) s
theorem fn_ofQ {CX : CXT} {P : Program} {w : World} {K : PySem.W.Frag} {mg : Str → Option Value} {base : Heap} {k : Nat} {f : Addr} {x qual : Str} {stt : Stmt} {fd : FuncData} {N ps : List Str} {sp : Addr × Obj → Sp} (F : Fun K x qual stt f fd) (S : FnScope N ps (defScope stt))
    (len : ∀ p vs H Q E, sp p vs H Q E → vs.length = ps.length)
    (hbody : ∀ (cdv : Value) (A : Around) (outer : List PySem.Env) (s : Shared) (H : Hp) (vs : List V) (Q : VK) (E : XK) (p : Addr × Obj), L2H.RoomH k (A.deeper (envOfC qual (defScope stt) s.heap.objs.size f cdv)) → sp p vs H Q E →
      ∃ t, PSs (L2H.cxH CX P w K mg base N qual (defScope stt) f cdv A outer s H E p) (defBody stt) t ∧ t { nx := fun _ H' => Q .non H', rt := Q } (L2.start N vs) H) :
    FnQ P w K mg base CX (k + 1) f fd ps sp := by
  obtain ⟨oc, od, kV, doc, pm, an, cdv, ct, osl, rfl, lk, hcd⟩ := F.ex
  refine ⟨len, fun A outer s H args us vs Q E p hr hpin e0 hb r hsp => ?_⟩
  have hl := len _ _ _ _ _ hsp
  have KX : K.In s.heap := e0.mod.kin.keeps fun b o e => (e0.bs b o e).1
  have lim : s.heap.NoLimit := e0.mod.nolimit.keeps fun b o e => (e0.bs b o e).1
  have hkind : ∀ y ∈ ps.zip us, (defScope stt).names.lookup y.1 = some .local ∨ ((defScope stt).names.lookup y.1 = some .cell ∧ ((cellsFrom (s.heap.objs.size + 1) (defScope stt).names []).lookup y.1).isSome = true) := fun ⟨n, v⟩ hy => by
    rcases S.par n (List.of_mem_zip hy).1 with q | q
    · exact .inl q
    · exact .inr ⟨q, PySem.W.cellsFrom_some _ _ _ (.inl q)⟩
  refine codeAny_call_function hr.depth (KX _ _ lk) rfl S.co S.gen rfl (PySem.W.codeRec_of KX hcd) (hb _ _ _ _ ?_)
  refine wpAny_newFunctionEnv_cells S.kind hkind fun env he s1 x => ?_
  subst he
  refine ⟨lim.keeps x.toInCall.keep, codeAny_func ?_⟩
  obtain ⟨t, ht, hq⟩ := hbody cdv A outer s H vs Q E p (hr.deeper _) hsp
  have I : Inv (L2H.cxH CX P w K mg base N qual (defScope stt) f cdv A outer s H E p) [] (L2.start N vs) H s1 := L2H.inv_startH S hpin e0 hl r x
  refine wpAny_mono (ht.run [] s1 (L2.start N vs) H _ I hq) (fun fl s' hs => ?_) fun e s' hs => hs
  have fin : ∀ {σ' : L2.St} {H' : Hp} {v : V} {u : Value}, Inv (L2H.cxH CX P w K mg base N qual (defScope stt) f cdv A outer s H E p) [] σ' H' s' → RelV v u → Q v H' → CE outer P w H s Q u s' :=
    fun {σ' H' v u} J rv q => ⟨v, H', J.os, J.bare, J.base, J.hok, rv, q⟩
  cases fl with
  | ret u =>
    obtain ⟨v, σ', H', J, rv, q⟩ := hs
    exact fin J rv q
  | next =>
    obtain ⟨σ', H', J, q⟩ := hs
    exact fin (v := V.non) (u := Value.none) J rfl q
  | brk =>
    obtain ⟨_, _, _, q⟩ := hs
    exact False.elim q
  | cont =>
    obtain ⟨_, _, _, q⟩ := hs
    exact False.elim q
section
variable {X : Cx} {CX : CXT} {k : Nat} {f : Addr} {fd : FuncData} {ps : List Str} {x : Str} {q pos : Pos} {e : Expr} {es : List Expr} {t : TA}
theorem pe_callQ {sp : Addr × Obj → Sp} {p : Addr × Obj} {E : XK} (F : FnQ X.prog X.w X.K X.mg X.base CX k f fd ps sp) (hr : L2H.RoomH k X.A) (hp : p ∈ X.pn) (hg : Gl X x) (hm : X.mg x = some (.ref f)) (hk : PySem.W.keepIn X.K (.ref f) = true) (hb : Binds X.K fd ps []) (hx : ∀ σ, PassesAt CX X σ E)
    (ha : PA X (e :: es) t) (hdb : (x == ("__debug__" : Str)) = false := by decide) (he : starEach (e :: es) X.env = (false, eval e X.env) :: starEach es X.env := by rfl) (hpl : (backTo pos (starEach es X.env)).any (·.1) = false := by rfl) :
    PE X (.Call (.Name x q) (e :: es) [] pos) (fun σ H Q => t σ H fun vs H1 => sp p vs H1 Q E) := by
  refine ⟨fun pins s σ H Q I h => ?_⟩
  refine wpAny_Call_Name_kw (ld_glob I hg hm ?_ hdb)
  refine PySem.W.callWith_K (h₀ := X.base) I.ok.mod.kin hk (thn (ha.run pos pins s σ H _ I h) fun us s1 ⟨vs, H1, I1, r, q⟩ => ⟨I1.kIn, ?_⟩) he hpl
  have hl : us.length = ps.length := by rw [← r.length]; exact F.len _ _ _ _ _ q
  have b := hb s1 us I1.kIn (by rw [List.append_nil]; exact hl)
  rw [List.append_nil] at b
  have P1 := I1.pin p (List.mem_append_left _ hp)
  have hpin : L2H.PinOk X.stack H1 s1 p := ⟨P1.1, P1.2.1, fun hm => (List.mem_cons.mp (I1.stkSub p.1 hm)).elim P1.2.2.1 P1.2.2.2.1, P1.2.2.2.2⟩
  refine wpAny_call (codeAny_mono (F.run X.A X.stack s1 H1 ⟨us, []⟩ us vs Q E p hr hpin I1.env0 b r q) fun r s' hq => ?_)
  cases r with
  | error e => exact hx σ pins H1 s1 e s' I1 hq
  | ok fl =>
    cases fl with
    | ret u => exact I1.after hq
    | next => exact False.elim hq
    | brk => exact False.elim hq
    | cont => exact False.elim hq
end
/-- what _law_which tells of the exception p -/
def spW (K : PySem.W.Frag) (mw : Nat → Str → List D → PRes) (p : Addr × Obj) : Sp := fun vs H Q E => ∃ C, C ∈ errs ∧ Zc (.ref (He.ga K C)) none p.2 ∧ (∃ ws, p.2.data = .fields ws) ∧ spP K 1 (mw p.1 C) vs H Q E
def OkW (P : Program) (w : World) (K : PySem.W.Frag) (mg : Str → Option Value) (x : Str) (k : Nat) (mw : Nat → Str → List D → PRes) : Prop :=
  mg x = some (.ref (He.ga K x)) ∧ PySem.W.keepIn K (.ref (He.ga K x)) = true ∧ ∃ fd, (∀ us : List Value, us.length = 1 → bindArgs fd ⟨us, []⟩ = pure ((["e"] : List Str).zip us)) ∧ ∀ base, FnQ P w K mg base (L2.CX P w) k (He.ga K x) fd ["e"] (spW K mw)
theorem mk_okW {P : Program} {w : World} {K : PySem.W.Frag} {mg : Str → Option Value} {x : Str} {stt : Stmt} {N : List Str} {k : Nat} {r : Nat → Str → RS} (d : ∃ fd, Fun K x x stt (He.ga K x) fd) (g : mg x = some (.ref (He.ga K x))) (S : FnScope N ["e"] (defScope stt))
    (hb : ∀ (kV doc pm : Value) (an : Option Addr) (cdv ct : Value) (us : List Value), us.length = 1 → bindArgs (PySem.W.fnOf x x (defArgs stt) (defBody stt) (defScope stt) .none kV doc pm an cdv ct) ⟨us, []⟩ = pure ((["e"] : List Str).zip us))
    (hbody : ∀ (base : Heap) (cdv : Value) (A : Around) (outer : List PySem.Env) (s : Shared) (H : Hp) (E : XK) (p : Addr × Obj) (C : Str), C ∈ errs → Zc (.ref (He.ga K C)) none p.2 → (∃ ws, p.2.data = .fields ws) → L2H.RoomH k (A.deeper (envOfC x (defScope stt) s.heap.objs.size (He.ga K x) cdv)) →
      PSs (L2H.cxH (L2.CX P w) P w K mg base N x (defScope stt) (He.ga K x) cdv A outer s H E p) (defBody stt) (toTS K (WE0 E) (r p.1 C))) : OkW P w K mg x (k + 1) (fun a C => pureOf 1 N.length (r a C)) := by
  obtain ⟨fd, F⟩ := d
  refine ⟨g, F.kp, fd, ?_, fun base => fn_ofQ F S (fun p vs H Q E ⟨C, _, _, _, h⟩ => h.1) fun cdv A outer s H vs Q E p hr ⟨C, hC, hz, hf, hl, F0, ds, hF, rs, hm⟩ =>
    ⟨_, hbody base cdv A outer s H E p C hC hz hf hr, [], F0, _, _, [], good_start hF, start_env rs, pure_end hF hm⟩⟩
  obtain ⟨oc, od, kV, doc, pm, an, cdv, ct, osl, rfl, lk, hcd⟩ := F.ex
  exact hb kV doc pm an cdv ct
theorem errIx_mem {C : Str} {j : Nat} (h : errIx C = some j) : C ∈ errs := by
  unfold errIx at h
  obtain ⟨hj, h1, _⟩ := List.findIdx?_eq_some_iff_getElem.mp h
  rw [← of_decide_eq_true h1]; exact List.getElem_mem _
section
variable {X : Cx} {W : WX} {k j i : Nat} {n x : Str} {ex : Expr} {p1 p2 np pos' pos wp ep cp : Pos} {r : RE} {mw : Nat → Str → List D → PRes}
theorem s_told (O : OkW X.prog X.w X.K X.mg x k mw) (hmw : ∀ a C j, errIx C = some j → mw a C [.raw a] = .ok (refD j)) (T : ∀ C ∈ errs, ErrOk X.K C) (hr : Room j X.A) (tk : Takes X W) (hN : X.N.Nodup) (hi : X.N[i]? = some n) (hln : X.env.kindOf n = some .local)
    (hH : X.mg "HouseError" = some (.ref (He.ga X.K "HouseError")))
    (hcall : ∀ (W' : WX) (pn : List (Addr × Obj)) (xe : Value → Shared → Prop), Takes (X.tr pn xe) W' → PassesOwn (model X.prog X.w) X.A X.env xe → PE (X.tr pn xe) ex (toTE X.K W' r))
    (hj : k ≤ j := by decide) (hs : X.stack = X.env :: X.outer := by rfl) (hf : X.env.frame = some X.env.locals := by rfl) (hg1 : Gl X "HouseError" := by rfl) (hg : Gl X x := by rfl) (hdx : (x == ("__debug__" : Str)) = false := by decide) (hdb : (n == ("__debug__" : Str)) = false := by decide) (hcd : (n == ("__classdict__" : Str)) = false := by decide)
    (hst : starEach [.Name n ep] X.env = (false, eval (.Name n ep) X.env) :: starEach [] X.env := by rfl) (hpl : (backTo cp (starEach [] X.env)).any (·.1) = false := by rfl) :
    PS X (.Try [.Return (some ex) p1] [.ExceptHandler (some (.Name "HouseError" np)) (some n) [.Return (some (.Call (.Name x wp) [.Name n ep] [] cp)) p2] pos'] [] [] pos) (toTS X.K W (sTold i r)) := by
  obtain ⟨hm, hk, fd, hb, G⟩ := O
  have hsu : ∀ (a : Addr) (oe : Obj) (cls : Value) (d : Option Addr) (pn : List (Addr × Obj)), Zc cls d oe → (∃ vs, oe.data = .fields vs) →
      PSs (X.suite a ((a, oe) :: pn)) [.Return (some (.Call (.Name x wp) [.Name n ep] [] cp)) p2] (fun D σ H => σ[i]? = some (some (.ref a)) ∧ ∃ C, C ∈ errs ∧ cls = .ref (He.ga X.K C) ∧ d = none ∧ spP X.K 1 (mw a C) [.ref a] H D.rt (fun _ _ _ => False)) := fun a oe cls d pn hz hfl => by
    have hroom : L2H.RoomH k (X.suite a ((a, oe) :: pn)).A := by
      have := L2H.roomH_of (hr.mono hj)
      exact ⟨this.dp, this.un⟩
    have call := pe_callQ (X := X.suite a ((a, oe) :: pn)) (p := (a, oe)) (E := fun _ _ _ => False) (q := wp) (pos := cp) (G X.base) hroom (List.mem_cons_self ..) hg hm hk (Binds.all (ps := ["e"]) hb) (fun σ pins H s e s' I c => by
      obtain ⟨_, _, _, _, _, _, _, _, _, _, _, _, z⟩ := c
      exact z.elim) (pa_cons (pe_var (pos := ep) hi (.inl hln) hdb hcd) pa_nil hst) hdx hst hpl
    refine PSs.imp (pss_one (ps_ret call)) fun D σ H ⟨h1, C, hC, e1, e2, hsp⟩ => ?_
    subst e1 e2
    exact ⟨.ref a, h1, C, hC, hz, hfl, hsp⟩
  refine PS.imp (ps_try_as (i := i) (tb := fun W' => toTS X.K W' (sRet r)) hs hf hN hi hln (show Names X "HouseError" (.ref (He.ga X.K "HouseError")) from ⟨hg1, by decide, .inl hH⟩) tk (fun W' pn xe tk' po => ss_one (s_ret (hcall W' pn xe tk' po))) hsu) fun D σ H ⟨ρ, F, G', e, st, g, ev, p⟩ => ?_
  refine ⟨ρ, F, G', e, st, g, ev, ?_⟩
  unfold sTold at p
  unfold sRet sOf
  cases q : r e st with
  | bad => rw [q] at p; exact p.elim
  | ok d st1 => rw [q] at p; exact p
  | exn C st1 =>
    rw [q] at p
    dsimp only at p ⊢
    cases hC : errIx C with
    | none => rw [hC] at p; exact p.elim
    | some ix =>
      rw [hC] at p
      dsimp only at p
      split at p
      case isFalse => exact p.elim
      rename_i hie
      have hCe := errIx_mem hC
      intro ρ' F' H' σ' s1 f1 g1 ev1
      refine ⟨true, (T C hCe).exm, fun _ a ha => ⟨?_, C, hCe, rfl, rfl, rfl, F', [.raw a], g1.f, .cons (.raw a) .nil, ?_⟩, fun z => by cases z⟩
      · have hil : i < σ'.length := by rw [← ev1.1]; exact hie
        rw [List.getElem?_set_self hil]
      · rw [hmw a C ix hC]
        intro F2 H2 v f2 f3 fr rv
        exact p ρ' F2 H2 v s1 (f1.trans f2) (g1.after f2 f3 fr) (rv.mono (fun i a h => by simp at h) (Same.refl _))
end
section
variable {X : Cx} {W : WX} {k j i : Nat} {x : Str} {a : Expr} {es : List Expr} {p pos : Pos} {aa : RA}
/-- a call of the def that the slot i holds -/
theorem x_callL (S : Str → Option (List D → PRes)) (O : ∀ f m, S f = some m → ∃ ps k, OkF X.prog X.w X.K X.mg f ps k m ∧ k ≤ j) (hr : Room j X.A) (tk : Takes X W) (ha : PA X (a :: es) (toTA X.K W aa)) (hN : X.N[i]? = some x) (hv : Vis X.env.scope x)
    (hdb : (x == ("__debug__" : Str)) = false := by decide) (hcd : (x == ("__classdict__" : Str)) = false := by decide) (he : starEach (a :: es) X.env = (false, eval a X.env) :: starEach es X.env := by rfl) (hpl : (backTo pos (starEach es X.env)).any (·.1) = false := by rfl) :
    PE X (.Call (.Name x p) (a :: es) [] pos) (toTE X.K W (rLoc i S aa)) := by
  refine ⟨fun pins s σ H Q I h => ?_⟩
  obtain ⟨ρ, F, G, e, st, g, ev, q⟩ := h
  unfold rLoc at q
  cases h1 : e[i]? with
  | none => rw [h1] at q; exact q.elim
  | some o =>
    rw [h1] at q
    cases o with
    | none => exact q.elim
    | some d =>
      cases d with
      | glo f =>
        dsimp only at q
        cases h2 : S f with
        | none => rw [h2] at q; exact q.elim
        | some m =>
          rw [h2] at q
          dsimp only at q
          obtain ⟨ps, k, ⟨hl, hm, hk, fd, hb, G'⟩, hkj⟩ := O f m h2
          obtain ⟨v, hs, rv⟩ := ev.2 i _ h1
          cases rv
          refine wpAny_Call_Name_kw (thn ((pe_var (pos := p) hN hv hdb hcd).run pins s σ H (fun v H1 => v = .ref (He.ga X.K f) ∧ H1 = H) I ⟨.ref (He.ga X.K f), hs, rfl, rfl⟩) fun u s1 ⟨v, H1, I1, r1, q1⟩ => ?_)
          obtain ⟨e1, e2⟩ := q1
          subst e1 e2
          cases r1
          refine PySem.W.callWith_K (h₀ := X.base) I.ok.mod.kin hk (thn (ha.run pos pins s1 σ _ (fun vs H2 => spP X.K ps.length m vs H2 Q (WE W σ)) I1 (ta_bind g ev q fun ρ1 F1 H1 ds st1 vs _ _ g1 ev1 r1 p1 => sp_call hl g1 r1 p1)) fun us s2 ⟨vs, H2, I2, r, q⟩ => ⟨I2.kIn, ?_⟩) he hpl
          exact run_fnS (E := fun σ => WE W σ) (G' X.base) (hr.mono hkj) (Binds.all hb) (passAt tk σ) I2 r q
      | _ => exact q.elim
end
/-- the fragment says so of all classes of refusals -/
def errB (K : PySem.W.Frag) : Bool := errs.all fun C =>
  decide (PySem.W.findIn K (.ref (He.ga K C)) "__getattribute__" = some (some (.builtin "BaseException.__getattribute__"))) &&
  (decide (PySem.W.findIn K (.ref (He.ga K C)) "__getattr__" = some none) &&
  (decide (PySem.W.subIn K (.ref (He.ga K C)) (.type "BaseException") = some true) &&
  (PySem.W.hasDictIn K (He.ga K C) &&
  (decide (PySem.W.findIn K (.ref (He.ga K C)) "__class__" = some (some (.builtin "object.__class__"))) &&
  (decide (PySem.W.specialIn K (.builtin "object.__class__") "__get__" = some (some (.builtin "getset_descriptor.__get__"))) &&
  (decide (PySem.W.takesIn K (.builtin "object.__class__") = some true) &&
  (decide (PySem.W.mroIn K (He.ga K C) (.type "object") = some true) &&
  ((errs.all fun x => decide (PySem.W.kitOne K (.ref (He.ga K C)) (.ref (He.ga K x)) = some (decide (x = C)))) &&
  (decide (PySem.W.kitOne K (.ref (He.ga K C)) (.type "ValueError") = some true) &&
  decide (PySem.W.exmOne K (.ref (He.ga K C)) (.ref (He.ga K "HouseError")) = some true))))))))))
theorem errB_ok {K : PySem.W.Frag} (h : errB K = true) : ∀ C ∈ errs, ErrOk K C := fun C hC => by
  have q := List.all_eq_true.mp h C hC
  simp only [Bool.and_eq_true, decide_eq_true_eq, List.all_eq_true] at q
  obtain ⟨h1, h2, h3, h4, h5, h6, h7, h8, h9, h10, h11⟩ := q
  exact ⟨⟨h1, h2, h3, h4, h5, h6, h7, h8⟩, h9, h10, h11⟩
end Py

set_option Elab.async false
set_option linter.all false
set_option maxRecDepth 100000
set_option maxHeartbeats 1000000
set_option autoImplicit false
/-! x * n of texts and tuples -/
namespace Py
open PySem PySem.Spec L2
section
variable {X : Cx} {K : PySem.W.Frag}
theorem foldl_cps (z : Array Nat) : ∀ (n : Nat) (a : List Nat), (List.replicate n z).foldl (· ++ ·) a.toArray = (a ++ (List.replicate n z.toList).flatten).toArray
  | 0, a => by simp
  | n + 1, a => by
    rw [List.replicate_succ, List.foldl_cons]
    have e : a.toArray ++ z = (a ++ z.toList).toArray := by simp
    rw [e, foldl_cps z n, List.replicate_succ, List.flatten_cons, List.append_assoc]
def rRepS : R2 := fun x y H Q => ∃ z k, x = .str z ∧ y = .int k ∧ 1 ≤ z.length ∧ z.length ≤ 1000 ∧ 2 ≤ k ∧ k ≤ 1000 ∧ Q (.str (repS z k.toNat)) H
theorem rep_len (z : Str) (n : Nat) : (repS z n).length = n * z.length := by
  unfold repS Str.length
  simp
theorem op_repS : OpR X (binaryOp .Mult) rRepS := by
  intro pins s σ H x y v u Q I rx ry h
  obtain ⟨z, k, rfl, rfl, h1, h2, h3, h4, q⟩ := h
  obtain ⟨t, rfl⟩ := rx
  obtain ⟨t', rfl⟩ := ry
  have hk : ((k.toNat : Nat) : Int) = k := Int.toNat_of_nonneg (by omega)
  have hkn : k.toNat ≤ 1000 := by omega
  have hm : z.length * k.toNat ≤ 1000 * 1000 := Nat.mul_le_mul h2 hkn
  have hne : (k == 1 || z.length == 0) = false := by
    rw [Bool.or_eq_false_iff]
    exact ⟨beq_eq_false_iff_ne.mpr (by omega), beq_eq_false_iff_ne.mpr (by omega)⟩
  refine PySem.P.mul_str (by rw [decide_eq_false (by omega), decide_eq_false (by omega)]; rfl) (fun _ _ => ?_) (fun _ _ => ?_) ?_
  · have h5 : (z.length : Int) * k ≤ 2 ^ 63 - 1 := by
      have : (z.length : Int) * k ≤ 1000 * 1000 := Int.mul_le_mul (by omega) h4 (by omega) (by decide)
      omega
    have := Int.le_ediv_of_mul_le (show 0 < k by omega) h5
    omega
  · unfold Builtin.Str.tooLong
    have := sizeLine_eq
    rw [this]
    exact decide_eq_false (by omega)
  · rw [if_neg (by omega), if_neg (by rw [hne]; exact Bool.false_ne_true)]
    have e := foldl_cps z.cps k.toNat []
    rw [List.nil_append] at e
    have e2 : (⟨(List.replicate k.toNat z.cps).foldl (· ++ ·) #[]⟩ : Str) = repS z k.toNat := congrArg Str.mk e
    rw [e2]
    exact ⟨by rw [rep_len, sizeLine_eq]; have := Nat.mul_comm k.toNat z.length; omega, .str (repS z k.toNat), H, I.tok _, ⟨_, rfl⟩, q⟩
def rMulA (K : PySem.W.Frag) : R2 := fun x y H Q => rI CMul (fun i j => .int (i * j)) x y H Q ∨ rRepS x y H Q ∨ rRepT K x y H Q
theorem op_mulA : OpR X (binaryOp .Mult) (rMulA X.K) := op_mul.or (op_repS.or op_repT)
theorem RDs.rep {ρ : List Addr} {F : Hp} {ds : List D} {vs : List V} (r : RDs K ρ F ds vs) : ∀ n, RDs K ρ F (List.replicate n ds).flatten (List.replicate n vs).flatten
  | 0 => .nil
  | n + 1 => by
    rw [List.replicate_succ, List.replicate_succ, List.flatten_cons, List.flatten_cons]
    exact r.append (RDs.rep r n)
theorem s_mul2 : Op2 K fMul2 (rMulA K) := fun {W σ ρ F G H st x y u v Q} g rx ry p => by
  unfold fMul2 at p
  split at p
  · rename_i z k
    cases ry
    cases rx with
    | str _ h1 h2 =>
      split at p
      · rename_i hc
        refine .inr (.inl ⟨_, _, rfl, rfl, hc.1, hc.2.1, hc.2.2.1, hc.2.2.2, p.now g _ (.str _ (strOk_sub h1 fun c hc => ?_) ?_)⟩)
        · obtain ⟨l, hl, hcl⟩ := List.mem_flatten.mp hc
          rw [(List.mem_replicate.mp hl).2] at hcl
          exact hcl
        · rw [rep_len]
          have : k.toNat * z.length ≤ 1000 * 1000 := Nat.mul_le_mul (by omega) hc.2.1
          show _ ≤ 16777216
          omega
      · exact p.elim
  · rename_i l k
    cases ry
    cases rx with
    | tup hf hl rs =>
      split at p
      · rename_i hc
        refine .inr (.inr ⟨_, _, _, rfl, rfl, SqT.of (g.f _ _ hf), ?_, hc.2.2.1, hc.2.2.2, by rw [← rs.length]; exact hc.2.1, fun q hq => ?_⟩)
        · intro e
          subst e
          cases rs
          exact hc.1 rfl
        · obtain ⟨g2, f2⟩ := g.newF hq (.tup (List.replicate k.toNat _).flatten)
          refine p.to (Sub.refl _) f2 g2 _ (.tup upd_same ?_ ((rs.rep k.toNat).mono (Sub.refl _) f2))
          have h5 := hc.2.1
          have h6 := rs.length
          have : k.toNat * l.length ≤ 1000 * 1000 := Nat.mul_le_mul (by omega) h5
          show _ ≤ 16777216
          rw [List.length_flatten]
          simp only [List.map_replicate, List.sum_replicate_nat, ← h6]
          omega
      · exact p.elim
  · exact .inl (s_mul g rx ry p)
end
end Py

set_option Elab.async false
set_option linter.all false
set_option maxRecDepth 100000
set_option maxHeartbeats 1000000
set_option autoImplicit false
/-! {k: v} -/
namespace Py
open PySem PySem.Spec L2
section
variable {X : Cx} {W : WX} {a b : Expr} {pos : Pos} {ra rb : RE}
theorem x_dict1 (ha : PE X a (toTE X.K W ra)) (hb : PE X b (toTE X.K W rb)) : PE X (.Dict [some a] [b] pos) (toTE X.K W (rDict1 ra rb)) :=
  PE.imp (pe_disp (pps_cons ha hb pps_nil) rfl rfl (by simp) (by simp)) fun σ H Q ⟨ρ, F, G, e, st, g, ev, p⟩ => fun q hq => by
    have g0 : Good X.K (ρ ++ [q]) F G (upd H q (.dK [])) (st ++ [.dK []]) := g.newO hq ⟨g.f.free hq, g.g.free hq, [], upd_same, Nat.zero_le _, rfl, .nil, by simp⟩
    have hqn : (ρ ++ [q])[st.length]? = some q := by rw [← g.len]; simp
    unfold rDict1 at p
    have p' := Pst.weak p (Sub.app ρ [q]) (Same.refl F)
    refine te_bind g0 (ev.mono (Sub.app _ _) (Same.refl _)) p' fun ρ1 F1 H1 x st1 v1 s1 f1 g1 ev1 r1 p1 => te_bind g1 ev1 p1 fun ρ2 F2 H2 y st2 v2 s2 f2 g2 ev2 r2 p2 => ?_
    cases hk : keyOf x with
    | none => rw [hk] at p2; exact p2.elim
    | some kk =>
      rw [hk] at p2
      dsimp only at p2
      split at p2
      · rename_i l hl
        split at p2
        · rename_i hle
          have hl0 : l = [] := by simpa using hle
          subst hl0
          have hq2 : ρ2[st.length]? = some q := s2 _ _ (s1 _ _ hqn)
          obtain ⟨fq, gq, ys, h3, h4, h5, h6, h7⟩ := g2.obj _ _ _ hq2 hl
          have hy0 : ys = [] := by simpa using h5
          subst hy0
          obtain ⟨e1, hkok, _⟩ := keyOf_ok (r1.mono s2 f2) hk
          subst e1
          refine ⟨h3, [(kk, v2)], rfl, by simp, ?_⟩
          have g4 : Good X.K ρ2 F2 G (upd H2 q (.dK (mergeK [] [(kk, v2)]))) (st2.set st.length (.dK [(kk, y)])) :=
            g2.setO hq2 hl (by intro d z; cases z) ⟨fq, gq, [(kk, v2)], upd_same, by show 1 ≤ cap; decide, rfl, .cons r2 .nil, by simpa using hkok⟩
          exact p2.to (Sub.refl _) (Same.refl _) g4 _ (.ref hq2)
        · exact p2.elim
      · exact p2.elim
end
end Py

set_option Elab.async false
set_option linter.all false
set_option maxRecDepth 100000
set_option maxHeartbeats 1000000
set_option autoImplicit false
/-! own classes -/
namespace Py
open PySem PySem.Spec L2
section
variable {K : PySem.W.Frag} {ρ : List Addr} {F G H : Hp} {st : Store}
theorem look_rds {x : Str} : ∀ {fs : List (Str × D)} {ys : List (Str × V)}, ys.map (·.1) = fs.map (·.1) → RDs K ρ F (fs.map (·.2)) (ys.map (·.2)) → ∀ {d : D}, fs.lookup x = some d → ∃ v, ys.lookup x = some v ∧ RD K ρ F d v
  | [], [], _, _, _, h => by cases h
  | (a, d0) :: fs, (b, v0) :: ys, e, r, d, h => by
    simp only [List.map_cons, List.cons.injEq] at e r
    obtain ⟨e1, e2⟩ := e
    subst e1
    cases r with
    | cons r1 r2 =>
      by_cases q : x = b
      · subst q
        rw [List.lookup_cons_self] at h ⊢
        cases h
        exact ⟨v0, rfl, r1⟩
      · have hb : (x == b) = false := beq_eq_false_iff_ne.mpr q
        rw [List.lookup_cons, hb] at h ⊢
        exact look_rds e2 r2 h
  | [], _ :: _, e, _, _, _ => by simp at e
  | _ :: _, [], e, _, _, _ => by simp at e
theorem look_none {x : Str} : ∀ {fs : List (Str × D)} {ys : List (Str × V)}, ys.map (·.1) = fs.map (·.1) → fs.lookup x = none → ys.lookup x = none
  | [], [], _, h => rfl
  | (a, d0) :: fs, (b, v0) :: ys, e, h => by
    simp only [List.map_cons, List.cons.injEq] at e
    obtain ⟨e1, e2⟩ := e
    subst e1
    by_cases q : x = b
    · subst q; rw [List.lookup_cons_self] at h; cases h
    · have hb : (x == b) = false := beq_eq_false_iff_ne.mpr q
      rw [List.lookup_cons, hb] at h ⊢
      exact look_none e2 h
  | [], _ :: _, e, _ => by simp at e
  | _ :: _, [], e, _ => by simp at e
theorem put_rds {x : Str} {d : D} {v : V} (rv : RD K ρ F d v) : ∀ {fs : List (Str × D)} {ys : List (Str × V)}, ys.map (·.1) = fs.map (·.1) → RDs K ρ F (fs.map (·.2)) (ys.map (·.2)) → (putF x v ys).map (·.1) = (putA x d fs).map (·.1) ∧ RDs K ρ F ((putA x d fs).map (·.2)) ((putF x v ys).map (·.2))
  | [], [], _, _ => ⟨rfl, .cons rv .nil⟩
  | (a, d0) :: fs, (b, v0) :: ys, e, r => by
    simp only [List.map_cons, List.cons.injEq] at e r
    obtain ⟨e1, e2⟩ := e
    subst e1
    cases r with
    | cons r1 r2 =>
      unfold putF putA
      by_cases q : b = x
      · rw [if_pos q, if_pos q]
        exact ⟨by simp [e2], .cons rv r2⟩
      · rw [if_neg q, if_neg q]
        obtain ⟨h1, h2⟩ := put_rds rv e2 r2
        exact ⟨by simp [h1], .cons r1 h2⟩
  | [], _ :: _, e, _ => by simp at e
  | _ :: _, [], e, _ => by simp at e
end
section
variable {X : Cx} {W : WX} {o value a : Expr} {es : List Expr} {pos pos' apos p : Pos} {ro rv : RE} {aa : RA} {C x : Str}
theorem x_attr (c : Cls X.K (He.ga X.K C)) (n : NoAttr X.K (He.ga X.K C) x) (ho : PE X o (toTE X.K W ro)) (hb : attributeBase o x X.env (eval o X.env) = eval o X.env := by rfl) : PE X (.Attribute o x pos) (toTE X.K W (rAttr C x ro)) :=
  PE.imp (pe_fld ho hb) fun σ H Q ⟨ρ, F, G, e, st, g, ev, q⟩ => te_bind g ev q fun ρ1 F1 H1 d st1 v _ _ g1 ev1 r1 p1 => by
    unfold atA at p1
    cases r1 with
    | @ref k a' hr =>
      dsimp only at p1
      split at p1
      · rename_i C' fs hk
        split at p1
        · rename_i hC
          subst hC
          split at p1
          · rename_i v hv
            obtain ⟨_, _, dx, ys, h3, h4, h5⟩ := g1.obj k a' _ hr hk
            obtain ⟨w, hw, rw'⟩ := look_rds h4 h5 hv
            exact ⟨a', _, dx, ys, w, rfl, h3, c, n, hw, p1.now g1 _ rw'⟩
          · exact p1.elim
        · exact p1.elim
      · exact p1.elim
    | _ => exact p1.elim
theorem s_attr (c : Cls X.K (He.ga X.K C)) (n : NoAttr X.K (He.ga X.K C) x) (ho : PE X o (toTE X.K W ro)) (hv : PE X value (toTE X.K W rv)) (hs : swapsWith value (some (.Attribute o x pos')) pos.line X.env = pure false := by rfl) : PS X (.Assign [.Attribute o x pos'] value pos) (toTS X.K W (sAttr C x ro rv)) :=
  PS.imp (ps_fld ho hv hs) fun E σ H ⟨ρ, F, G, e, st, g, ev, q⟩ => by
    unfold sAttr at q
    have q' : Pst X.K W ρ F G σ ((rv e st).bind fun y st1 => (ro e st1).bind fun d st2 => setA C x d y st2) (fun _ _ H' _ _ => E.nx σ H') := by
      generalize ((rv e st).bind fun y st1 => (ro e st1).bind fun d st2 => setA C x d y st2 : Res Unit) = z at q ⊢
      cases z with
      | ok u st1 => exact fun ρ' F' H' s f g' => q ρ' F' H' σ s f g' (ev.mono s f)
      | exn C st1 => exact fun ρ' F' H' s f g' => q ρ' F' H' σ s f g' (ev.mono s f)
      | bad => exact q
    refine te_bind g ev q' fun ρ1 F1 H1 y st1 v1 _ _ g1 ev1 r1 p1 => te_bind g1 ev1 p1 fun ρ2 F2 H2 d st2 v2 s2 f2 g2 ev2 r2 p2 => ?_
    unfold setA at p2
    cases r2 with
    | @ref k a' hr =>
      dsimp only at p2
      split at p2
      · rename_i C' fs hk
        split at p2
        · rename_i hC
          obtain ⟨hC, hl⟩ := hC
          subst hC
          obtain ⟨h1, h2, dx, ys, h3, h4, h5⟩ := g2.obj k a' _ hr hk
          obtain ⟨h6, h7⟩ := put_rds (x := x) (r1.mono s2 f2) h4 h5
          have hyl : ys.length = fs.length := by have := congrArg List.length h4; simpa using this
          refine ⟨a', _, dx, ys, rfl, h3, c, n, by omega, ?_⟩
          exact p2.to (Sub.refl _) (Same.refl _) (g2.setO hr hk (by intro d z; cases z) ⟨h1, h2, dx, _, upd_same, h6, h7⟩)
        · exact p2.elim
      · exact p2.elim
    | _ => exact p2.elim
/-! ### methods -/
/-- the method mn of the class C keeps to m -/
def OkMth (P : Program) (w : World) (K : PySem.W.Frag) (mg : Str → Option Value) (C mn : Str) (ps : List Str) (k : Nat) (m : List D → Store → Res D) : Prop :=
  (∀ ds st, m ds st ≠ .bad → ds.length = ps.length) ∧ ∃ fd, (∀ us : List Value, us.length = ps.length → bindArgs fd ⟨us, []⟩ = pure (ps.zip us)) ∧ ∀ base, FnOk P w K mg base (L2.CX P w) k (He.ma K (He.ga K C) mn) fd ps (spS K ps.length m)
theorem pe_methW {CX : CXT} {k : Nat} {f Ca : Addr} {fd : FuncData} {ps : List Str} {sp : Sp} {E : St → XK} {m : Str} {ta : TE} {t : TA} {pl : Sem Bool} (he : PE X o ta) (c : Cls X.K Ca) (hm : Meth X.K Ca m f) (F : FnOk X.prog X.w X.K X.mg X.base CX k f fd ps sp) (hr : Room k X.A) (hb : Binds X.K fd ps []) (hx : ∀ σ, PassesAt CX X σ (E σ)) (ha : PA X (a :: es) t)
    (hst : starEach (a :: es) X.env = (false, eval a X.env) :: starEach es X.env := by rfl) (hpl : (backTo pos (starEach es X.env)).any (·.1) = false := by rfl)
    (ht : eval (.Call (.Attribute o m apos) (a :: es) [] pos) X.env = (do
      let ov ← eval o X.env
      standAt apos.atName
      let (f, first) ← holding [ov] (getMethod ov m pl)
      callWith pos f first (backTo pos (starEach (a :: es) X.env)) (backToKw pos (keywordEach [] X.env))) := by rfl) :
    PE X (.Call (.Attribute o m apos) (a :: es) [] pos) (L2H.tMethH Ca m sp E ta t) := by
  refine ⟨fun pins s σ H Q I h => ?_⟩
  refine PySem.W.methodCall_KW (pl := pl) (thn (he.run pins s σ H _ I h) fun u s1 ⟨x, H1, I1, rx, a, dx, fs, ex, ea, l, q⟩ => ?_) ht
  subst ex
  obtain rfl : u = Value.ref a := rx
  refine getmeth_ok I1 ea c hm l ?_
  refine PySem.W.callWith_K (first := [.ref a]) (h₀ := X.base) I.ok.mod.kin hm.kp (thn (ha.run pos pins s1 σ H1 _ I1 q) fun us s2 ⟨vs, H2, I2, r, q2⟩ => ⟨I2.kIn, ?_⟩) hst hpl
  exact run_fnS (us := .ref a :: us) (vs := .ref a :: vs) F hr hb (hx σ) I2 (.cons rfl r) q2
theorem x_me {k j : Nat} {ps : List Str} {mn : Str} {m : List D → Store → Res D} {pl : Sem Bool} (O : OkMth X.prog X.w X.K X.mg C mn ps k m) (c : Cls X.K (He.ga X.K C)) (hm : Meth X.K (He.ga X.K C) mn (He.ma X.K (He.ga X.K C) mn)) (hr : Room j X.A) (tk : Takes X W) (ho : PE X o (toTE X.K W ro)) (ha : PA X (a :: es) (toTA X.K W aa)) (hj : k ≤ j := by decide)
    (hst : starEach (a :: es) X.env = (false, eval a X.env) :: starEach es X.env := by rfl) (hpl : (backTo pos (starEach es X.env)).any (·.1) = false := by rfl)
    (ht : eval (.Call (.Attribute o mn apos) (a :: es) [] pos) X.env = (do
      let ov ← eval o X.env
      standAt apos.atName
      let (f, first) ← holding [ov] (getMethod ov mn pl)
      callWith pos f first (backTo pos (starEach (a :: es) X.env)) (backToKw pos (keywordEach [] X.env))) := by rfl) :
    PE X (.Call (.Attribute o mn apos) (a :: es) [] pos) (toTE X.K W (rMe C mn m ro aa)) := by
  obtain ⟨hl, fd, hb, G'⟩ := O
  refine PE.imp (pe_methW (E := fun σ => WE W σ) ho c hm (G' X.base) (hr.mono hj) (Binds.all hb) (fun σ => passAt tk σ) ha hst hpl ht) fun σ H Q ⟨ρ, F, G, e, st, g, ev, q⟩ => te_bind g ev q fun ρ1 F1 H1 d st1 v _ _ g1 ev1 r1 p1 => ?_
  split at p1
  · rename_i hI
    unfold isIns at hI
    cases r1 with
    | @ref k' a' hr' =>
      dsimp only at hI
      split at hI
      · rename_i C' fs hk
        rw [Bool.and_eq_true, decide_eq_true_eq] at hI
        obtain ⟨hC, hn⟩ := hI
        subst hC
        obtain ⟨_, _, dx, ys, h3, h4, h5⟩ := g1.obj k' a' _ hr' hk
        refine ⟨a', dx, ys, rfl, h3, look_none h4 (by simpa using hn), ta_bind g1 ev1 p1 fun ρ2 F2 H2 ds st2 vs s2 f2 g2 ev2 r2 p2 => ?_⟩
        exact sp_callS hl g2 (.cons (.ref (s2 _ _ hr')) r2) p2
      · cases hI
    | _ => cases hI
  · exact p1.elim
/-! ### new instances -/
theorem run_makeW {CX : CXT} {k : Nat} {f Ca : Addr} {fd : FuncData} {ps : List Str} {sp : Sp} {E : St → XK} {pins : List (Addr × Obj)} {σ : St} {H : Hp} {s : Shared} {Q : VK} {us : List Value} {vs : List V} (M : Mk X.K Ca f) (F : FnOk X.prog X.w X.K X.mg X.base CX k f fd ps sp) (hr : Room (k + 1) X.A) (hb : Binds X.K fd ps [])
    (hx : ∀ σ, PassesAt CX X σ (E σ)) (I : Inv X pins σ H s) (r : Vals vs us)
    (h : ∀ x dx, H x = none → H dx = none → dx ≠ x → sp (.ref x :: vs) (upd (upd H dx (.own x)) x (.ins Ca dx [])) (fun v H2 => v = .non ∧ Q (.ref x) H2) (E σ)) :
    wpAny (model X.prog X.w) X.A (call (.ref Ca) us) (EP X pins σ Q) X.xe s := by
  have hq := h (s.heap.objs.size + 1) s.heap.objs.size (I.hok.fresh (Nat.le_succ _)) (I.hok.fresh (Nat.le_refl _)) (Nat.ne_of_lt (Nat.lt_succ_self _))
  have I2 := Inv.made (C := Ca) I
  have r2 : Vals (V.ref (s.heap.objs.size + 1) :: vs) (Value.ref (s.heap.objs.size + 1) :: us) := .cons rfl r
  have hl : (Value.ref (s.heap.objs.size + 1) :: us).length = ps.length := by
    have e := r2.length
    rw [F.len _ _ _ _ hq] at e
    exact e.symm
  have b := hb _ (Value.ref (s.heap.objs.size + 1) :: us) I2.kIn (by rw [List.append_nil]; exact hl)
  rw [List.append_nil] at b
  refine wpAny_call (make_map (f := f) I.kIn M.makes M.init (beq_iff_eq.mp M.fn) (codeAny_mono (F.run _ X.stack _ _ ⟨Value.ref (s.heap.objs.size + 1) :: us, []⟩ (Value.ref (s.heap.objs.size + 1) :: us) _ _ (E σ) (hr.make Ca us [])
    (I2.env0.make Ca us []) b r2 hq) fun r s' hq' => ?_))
  cases r with
  | error e => exact hx σ pins _ _ e s' I2 hq'
  | ok fl =>
    cases fl with
    | ret u =>
      obtain ⟨v, H', I3, rv, ev, q3⟩ := I2.after hq'
      subst ev
      exact ⟨rv, ⟨V.ref (s.heap.objs.size + 1), H', I3, rfl, q3⟩⟩
    | next => exact False.elim hq'
    | brk => exact False.elim hq'
    | cont => exact False.elim hq'
theorem x_make {k j : Nat} {ps : List Str} {m : List D → Store → Res D} (O : OkMth X.prog X.w X.K X.mg C "__init__" ps k m) (M : Mk X.K (He.ga X.K C) (He.ma X.K (He.ga X.K C) "__init__")) (hm : X.mg C = some (.ref (He.ga X.K C))) (hr : Room j X.A) (tk : Takes X W) (ha : PA X (a :: es) (toTA X.K W aa)) (hj : k + 1 ≤ j := by decide)
    (hg : Gl X C := by rfl) (hdb : (C == ("__debug__" : Str)) = false := by decide) (he : starEach (a :: es) X.env = (false, eval a X.env) :: starEach es X.env := by rfl) (hpl : (backTo pos (starEach es X.env)).any (·.1) = false := by rfl) :
    PE X (.Call (.Name C p) (a :: es) [] pos) (toTE X.K W (rMake C m aa)) := by
  obtain ⟨hl, fd, hb, G'⟩ := O
  refine ⟨fun pins s σ H Q I ⟨ρ, F, G, e, st, g, ev, q⟩ => ?_⟩
  refine wpAny_Call_Name_kw (ld_glob I hg hm ?_ hdb)
  refine PySem.W.callWith_K (h₀ := X.base) I.ok.mod.kin M.kp (thn (ha.run pos pins s σ H (fun vs H1 => ∀ x dx, H1 x = none → H1 dx = none → dx ≠ x → spS X.K ps.length m (.ref x :: vs) (upd (upd H1 dx (.own x)) x (.ins (He.ga X.K C) dx [])) (fun v H2 => v = .non ∧ Q (.ref x) H2) (WE W σ)) I (ta_bind g ev q fun ρ1 F1 H1 ds st1 vs s1 f1 g1 ev1 r1 p1 => ?_)) fun us s1 ⟨vs, H1, I1, r, q⟩ => ⟨I1.kIn, ?_⟩) he hpl
  · intro x dx hx hdx hne
    have g2 : Good X.K ρ1 F1 G (upd H1 dx (.own x)) st1 := g1.grow (Same.refl _) (fun b u z => by rw [upd_ne (ne_of_none (g1.f b u z) hdx)]; exact g1.f b u z) (fun b u z => by rw [upd_ne (ne_of_none z hdx)]; exact z) (fun _ _ _ z => z)
    have hx2 : (upd H1 dx (.own x)) x = none := by rw [upd_ne (Ne.symm hne)]; exact hx
    have g3 : Good X.K (ρ1 ++ [x]) F1 G (upd (upd H1 dx (.own x)) x (.ins (He.ga X.K C) dx [])) (st1 ++ [.ins C []]) := g2.newO hx2 ⟨g2.f.free hx2, g2.g.free hx2, dx, [], upd_same, rfl, .nil⟩
    have hix : (ρ1 ++ [x])[st1.length]? = some x := by rw [← g1.len]; simp
    have p2 := Pst.weak p1 (Sub.app ρ1 [x]) (Same.refl F1)
    refine sp_callS (W := W) (σ := σ) hl g3 (.cons (.ref hix) (r1.mono (Sub.app _ _) (Same.refl _))) (p2.bind.mp fun ρ' F' H' d st' s' f' g' _ q' v rv => ?_)
    cases d with
    | non =>
      cases rv
      exact ⟨rfl, q'.now g' _ (.ref (s' _ _ hix))⟩
    | _ => exact q'.elim
  · exact run_makeW (E := fun σ => WE W σ) M (G' X.base) (hr.mono hj) (Binds.all hb) (fun σ => passAt tk σ) I1 r q
end
theorem mk_okM {P : Program} {w : World} {K : PySem.W.Frag} {mg : Str → Option Value} {C mn qual : Str} {stt : Stmt} {N ps : List Str} {k : Nat} {r : RS} (d : ∃ fd, Fun K mn qual stt (He.ma K (He.ga K C) mn) fd) (S : FnScope N ps (defScope stt))
    (hb : ∀ (kV doc pm : Value) (an : Option Addr) (cdv ct : Value) (us : List Value), us.length = ps.length → bindArgs (PySem.W.fnOf mn qual (defArgs stt) (defBody stt) (defScope stt) .none kV doc pm an cdv ct) ⟨us, []⟩ = pure (ps.zip us))
    (hbody : ∀ (base : Heap) (cdv : Value) (A : Around) (outer : List PySem.Env) (s : Shared) (H : Hp) (E : XK), Room k (A.deeper (PyProof.Rows.envOfC qual (defScope stt) s.heap.objs.size (He.ma K (He.ga K C) mn) cdv)) → Takes (cxOf (L2.CX P w) P w K mg base N qual (defScope stt) (He.ma K (He.ga K C) mn) cdv A outer s H E) (WE0 E) →
      PassesOwn (model P w) (A.deeper (PyProof.Rows.envOfC qual (defScope stt) s.heap.objs.size (He.ma K (He.ga K C) mn) cdv)) (PyProof.Rows.envOfC qual (defScope stt) s.heap.objs.size (He.ma K (He.ga K C) mn) cdv) (cxOf (L2.CX P w) P w K mg base N qual (defScope stt) (He.ma K (He.ga K C) mn) cdv A outer s H E).xe →
      PSs (cxOf (L2.CX P w) P w K mg base N qual (defScope stt) (He.ma K (He.ga K C) mn) cdv A outer s H E) (defBody stt) (toTS K (WE0 E) r)) : OkMth P w K mg C mn ps (k + 1) (stOf ps.length N.length r) := by
  obtain ⟨fd, F⟩ := d
  refine ⟨fun ds st h => stOf_len ds st h, fd, ?_, fun base => st_fn F S fun cdv A outer s H E hr => hbody base cdv A outer s H E hr (takes_of rfl rfl rfl rfl) (passes_of rfl)⟩
  obtain ⟨oc, od, kV, doc, pm, an, cdv, ct, osl, rfl, lk, hcd⟩ := F.ex
  exact hb kV doc pm an cdv ct
/-- nothing is promised: the ground of a recursion -/
theorem bad_okM {P : Program} {w : World} {K : PySem.W.Frag} {mg : Str → Option Value} {C mn qual : Str} {stt : Stmt} {ps : List Str} {k : Nat} (d : ∃ fd, Fun K mn qual stt (He.ma K (He.ga K C) mn) fd)
    (hb : ∀ (kV doc pm : Value) (an : Option Addr) (cdv ct : Value) (us : List Value), us.length = ps.length → bindArgs (PySem.W.fnOf mn qual (defArgs stt) (defBody stt) (defScope stt) .none kV doc pm an cdv ct) ⟨us, []⟩ = pure (ps.zip us)) : OkMth P w K mg C mn ps k (fun _ _ => .bad) := by
  obtain ⟨fd, F⟩ := d
  refine ⟨fun ds st h => absurd rfl h, fd, ?_, fun base => ⟨fun vs H Q E h => h.1, fun A outer s H args us vs Q E _ _ _ _ h => ?_⟩⟩
  · obtain ⟨oc, od, kV, doc, pm, an, cdv, ct, osl, rfl, lk, hcd⟩ := F.ex
    exact hb kV doc pm an cdv ct
  · obtain ⟨_, _, _, _, _, _, _, _, z⟩ := h
    exact z.elim
theorem bad_okS {P : Program} {w : World} {K : PySem.W.Frag} {mg : Str → Option Value} {x : Str} {stt : Stmt} {ps : List Str} {k : Nat} (d : ∃ fd, Fun K x x stt (He.ga K x) fd) (g : mg x = some (.ref (He.ga K x)))
    (hb : ∀ (kV doc pm : Value) (an : Option Addr) (cdv ct : Value) (us : List Value), us.length = ps.length → bindArgs (PySem.W.fnOf x x (defArgs stt) (defBody stt) (defScope stt) .none kV doc pm an cdv ct) ⟨us, []⟩ = pure (ps.zip us)) : OkS P w K mg x ps k (fun _ _ => .bad) := by
  obtain ⟨fd, F⟩ := d
  refine ⟨fun ds st h => absurd rfl h, g, F.kp, fd, ?_, fun base => ⟨fun vs H Q E h => h.1, fun A outer s H args us vs Q E _ _ _ _ h => ?_⟩⟩
  · obtain ⟨oc, od, kV, doc, pm, an, cdv, ct, osl, rfl, lk, hcd⟩ := F.ex
    exact hb kV doc pm an cdv ct
  · obtain ⟨_, _, _, _, _, _, _, _, z⟩ := h
    exact z.elim
end Py

set_option Elab.async false
set_option linter.all false
set_option maxRecDepth 100000
set_option maxHeartbeats 1000000
set_option autoImplicit false
/-! max, dict.pop, list(d.values()), methods without arguments, try -/
namespace Py
open PySem PySem.Spec L2
section
variable {X : Cx} {W : WX} {K : PySem.W.Frag} {ρ : List Addr} {F G H : Hp} {st : Store}
/-! ### max -/
theorem maxI_mem : ∀ ns : List Int, ns ≠ [] → maxI ns ∈ ns
  | [], h => absurd rfl h
  | [a], _ => by simp [maxI]
  | a :: b :: r, _ => by
    have ih := maxI_mem (b :: r) (by simp)
    rw [maxI]
    · by_cases h : a ≤ maxI (b :: r)
      · rw [Int.max_eq_right h]; exact List.mem_cons_of_mem _ ih
      · rw [Int.max_eq_left (by omega)]; exact List.mem_cons_self ..
    · simp
theorem maxI_le : ∀ (ns : List Int) (y : Int), y ∈ ns → y ≤ maxI ns
  | [], y, h => by simp at h
  | [a], y, h => by simp at h; simp [maxI, h]
  | a :: b :: r, y, h => by
    have ih := maxI_le (b :: r) y
    rw [maxI]
    · rcases List.mem_cons.mp h with e | h
      · rw [e]; omega
      · have := ih h; omega
    · simp
theorem asInts_rds : ∀ {ds : List D} {vs : List V} {ns : List Int}, RDs K ρ F ds vs → asInts ds = some ns → vs = ns.map V.int
  | _, _, _, .nil, h => by cases h; rfl
  | d :: ds, _, ns, .cons r rs, h => by
    cases d with
    | int x =>
      rw [asInts] at h
      obtain ⟨ms, h1, h2⟩ := Option.map_eq_some_iff.mp h
      subst h2
      cases r
      rw [asInts_rds rs h1]; rfl
    | _ => cases h
theorem s_max : CallS K fMax (rMax K) := fun {W σ ρ F G H st xs us Q} g rs p => by
  unfold fMax at p
  split at p
  · rename_i x
    obtain ⟨v, e, r⟩ := rds1 rs rfl
    subst e
    cases hl : asL st x with
    | none => rw [hl] at p; exact p.elim
    | some l =>
      rw [hl] at p
      cases hn : asInts l with
      | none => simp only [Option.bind_some, hn] at p; exact p.elim
      | some ns =>
        simp only [Option.bind_some, hn] at p
        obtain ⟨a, ys, e1, h3, h4, h5⟩ := asL_ok g r hl
        subst e1
        have ey := asInts_rds h5 hn
        subst ey
        split at p
        · exact p.elim
        · rename_i hne
          refine ⟨a, ns, rfl, SqL.of h3, List.length_pos_iff.mpr hne, fun m hm hy => ?_⟩
          have e : m = maxI ns := Int.le_antisymm (maxI_le ns m hm) (hy _ (maxI_mem ns hne))
          subst e
          exact p.now g _ (.int _)
  · exact p.elim
end
end Py
namespace Py.DT1
open PySem PySem.W PySem.Calls PyProof.Rows PyProof.V PySem.Spec DT
variable {κ : Type} [DecidableEq κ] {prog : Program} {w : World} {knd : HeapKind prog w κ}
theorem meetsPop1 {d b : Addr} {k : κ} (hd : (d == sysModules) = false) :
    MeetsIn prog w (Builtin.«dict.pop» ⟨[.ref d, .ref b], []⟩) (fun A R s => ∃ xs q, knd.room A.in1 ∧ knd.is s.heap k b ∧ s.heap.DictOfH knd d xs ∧ xs.length ≤ sizeLine ∧ atKey xs k = some q ∧
      ∀ h' tk, h'.DictOfH knd d (dropH xs k) → Heap.SameBut d s.heap h' → R (.ok (.ret q.2)) { s with heap := h', toks := tk }) :=
  .of_wp fun A R s ⟨xs, q, hu, hkey, hm, hsz, hq, hsome⟩ => by
    obtain ⟨o, es, ep, ho, hc, hdat, he, his, hn⟩ := id hm
    have hes : es.size = xs.length := size_of_entries he
    have hpart : (keyPart (Value.ref b)).isSome = false := rfl
    unfold Builtin.«dict.pop»
    refine wpAny_bind ?_
    unfold Builtin.Dict.keyAndDefault
    refine wpAny_bind (wpAny_notOrdered_dict hm.typeIs ?_)
    show wpAny _ _ (pure (d, Value.ref b, none)) _ _ s
    refine wpAny_pure ?_
    simp only [hpart, Bool.false_eq_true, if_false]
    refine wpAny_bind (wpAny_dictEntries ho hdat (wpAny_bind (wpAny_pure ?_)))
    cases hem : es.isEmpty with
    | true =>
      have h0 : xs = [] := by
        have z : es.size = 0 := by simpa using hem
        exact List.length_eq_zero_iff.mp (by omega)
      rw [h0] at hq
      cases hq
    | false =>
      simp only [Bool.false_eq_true, if_false]
      refine wpAny_bind (takeH hu hkey hm hsz (fun hno => ?_) fun p e hp hev h' hm' hs' => ?_)
      · rw [hq] at hno; cases hno
      · simp only [Option.isNone_some, Bool.false_eq_true, if_false]
        have epq : p = q := Option.some.inj (hp.symm.trans hq)
        subst epq
        exact wpAny_bind (wpAny_letGo (wpAny_pure ⟨e.val, rfl, by rw [hev]; exact hsome h' _ hm' hs'⟩))
end Py.DT1
namespace L2
open PySem PySem.Spec PyProof.Rows L2.DX
section
variable {X : Cx}
def rPopA : V → List V → Hp → VK → Prop := fun x xs H Q => (∃ (a : Addr) (kvs : List (L2.Key × V)) (k : L2.Key) (v : V), x = .ref a ∧ xs = [kV k] ∧ H a = some (.dK kvs) ∧ valV kvs k = some v ∧ Q v (upd H a (.dK (dropK kvs k)))) ∨
  (∃ (a : Addr) (kvs : List (List L2.Key × V)) (k : List L2.Key) (b : Addr) (v : V), x = .ref a ∧ xs = [.ref b] ∧ H a = some (.dT kvs) ∧ H b = some (.tup (k.map kV)) ∧ valV kvs k = some v ∧ Q v (upd H a (.dT (dropK kvs k))))
theorem mt_popA (hu : X.A.units + 1 < cLine) : MtR X "dict.pop" rPopA := by
  intro pins s σ H x xs v us Q I rx rxs h
  rcases h with ⟨a, kvs, k, v0, rfl, rfl, ha, hv, q⟩ | ⟨a, kvs, k, b, v0, rfl, rfl, ha, hb, hv, q⟩
  · cases rx
    obtain ⟨u, rfl, ru⟩ := rxs.one
    exact d_pop I ha ru hv (.inl rfl) fun w' s' I' rw' => ⟨v0, _, I', rw', q⟩
  · cases rx
    obtain ⟨u, rfl, ru⟩ := rxs.one
    cases ru
    obtain ⟨z, hd, xs', rel, dd⟩ := dt_of I.hok ha
    have hz : xs'.length ≤ sizeLine := by rw [← Paired.length rel]; exact z
    have r := rel.val k
    rw [hv] at r
    cases hp : atKey xs' k with
    | none => rw [hp] at r; exact (show False from r).elim
    | some p =>
      rw [hp] at r
      refine call_meetsIn PySem.F.slot_dict_pop dd.typeIs PySem.F.entry_dict_pop (PySem.F.args_dict_pop_2 _ _) (Py.DT1.meetsPop1 (knd := tupleKind (mixKind X.prog X.w)) (k := k) hd)
        ⟨xs', p, tupleKind_room_in1 hu, key_of I.hok hb, dd, hz, hp, fun h' tk dd' hs => ?_⟩
      obtain ⟨o, es, ep, hq, h2, h3, h4, _, h5⟩ := dd'
      have I2 : Inv X pins σ (upd H a (.dT (dropK kvs k))) { s with heap := h', toks := tk } :=
        d_write I (by rw [ha]; exact True.intro) hs ⟨o, hq⟩ ⟨Nat.le_trans (dropK_le kvs k) z, hd, _, (KT_drop k rel).keeps (fun c ys ec => (by rw [upd_ne (ne_of ec ha (fun z => nomatch z))]; exact ec)), o, es, ep, hq, h2, h3, h4, h5⟩
      show EP X pins σ Q p.2 _
      exact ⟨v0, _, I2, r, q⟩
end
end L2
namespace Py
open PySem PySem.Spec L2
section
variable {X : Cx} {W : WX} {K : PySem.W.Frag} {ρ : List Addr} {F G H : Hp} {st : Store}
theorem tyD {d : D} {v : V} (g : Good K ρ F G H st) (r : RD K ρ F d v) (h : isDct st d = true) : tyV K "dict" v H := by
  obtain ⟨q, e, _, h2⟩ := isD_of g r h
  subst e
  exact .inr (.inr (.inl ⟨rfl, h2⟩))
theorem m_dpop : MtS K fDPop "dict" rPopA := fun {W σ ρ F G H st x xs u us Q} g rx rs p => by
  unfold fDPop at p
  split at p
  · rename_i i kd
    obtain ⟨w, e, r⟩ := rds1 rs rfl
    subst e
    cases rx with
    | @ref _ q hr =>
      split at p
      · rename_i l hk
        obtain ⟨h0, h00, ys, h1, h2, h3, h4, h5⟩ := g.obj i q _ hr hk
        cases hky : keyOf kd with
        | none => rw [hky] at p; exact p.elim
        | some ky =>
          rw [hky] at p
          dsimp only at p
          obtain ⟨e1, e2, _⟩ := keyOf_ok r hky
          subst e1
          rcases look_ok ky h3 h4 with ⟨c1, c2⟩ | ⟨d', v', c1, c2, c3⟩
          · rw [c1] at p; exact p.elim
          · rw [c1] at p
            obtain ⟨m1, m2⟩ := drop_ok (k := ky) h3 h4
            refine .inl ⟨q, ys, ky, v', rfl, rfl, h1, c2, ?_⟩
            have g2 : Good K ρ F G (upd H q (.dK (dropK ys ky))) (st.set i (.dK (drop l ky))) := g.setO hr hk (by intro d q; cases q) ⟨h0, h00, _, upd_same, Nat.le_trans (dropK_le ys ky) h2, m1, m2, fun p hp => h5 p (List.mem_filter.mp hp).1⟩
            exact p.to (Sub.refl _) (Same.refl _) g2 _ c3
      · rename_i l hk
        obtain ⟨h0, h00, ys, h1, h2, h3, h4, h5⟩ := g.obj i q _ hr hk
        cases r <;> first | (exact p.elim; done) | skip
        rename_i b xs ds hf hl rs'
        dsimp only at p
        cases hky : keysOf ds with
        | none => rw [hky] at p; exact p.elim
        | some ky =>
          rw [hky] at p
          dsimp only at p
          obtain ⟨e1, e2⟩ := keysOf_ok rs' hky
          subst e1
          rcases look_ok ky h3 h4 with ⟨c1, c2⟩ | ⟨d', v', c1, c2, c3⟩
          · rw [c1] at p; exact p.elim
          · rw [c1] at p
            obtain ⟨m1, m2⟩ := drop_ok (k := ky) h3 h4
            refine .inr ⟨q, ys, ky, _, v', rfl, rfl, h1, g.f _ _ hf, c2, ?_⟩
            have g2 : Good K ρ F G (upd H q (.dT (dropK ys ky))) (st.set i (.dT (drop l ky))) := g.setO hr hk (by intro d q; cases q) ⟨h0, h00, _, upd_same, Nat.le_trans (dropK_le ys ky) h2, m1, m2, fun p hp => h5 p (List.mem_filter.mp hp).1⟩
            exact p.to (Sub.refl _) (Same.refl _) g2 _ c3
      · exact p.elim
  · exact p.elim
end
section
open PySem PyProof.Rows
variable {X : Cx} {W : WX} {o : Expr} {p pos apos mpos : Pos} {td : TE} {ro : RE}
/-- list(o.values()) -/
def tListVals (td : TE) : TE := fun σ H Q => td σ H fun x H1 => ∃ (a : Addr), x = V.ref a ∧ ((∃ kvs : List (L2.Key × V), H1 a = some (.dK kvs) ∧ ∀ q, H1 q = none → Q (.ref q) (upd H1 q (.lst (kvs.map (·.2))))) ∨
  (∃ kvs : List (List L2.Key × V), H1 a = some (.dT kvs) ∧ ∀ q, H1 q = none → Q (.ref q) (upd H1 q (.lst (kvs.map (·.2))))))
theorem vals_raw {pins : List (Addr × Obj)} {σ : L2.St} {H1 : Hp} {s1 : Shared} {a : Addr} {Q : VK} {ws : List V} {es : Array DictEntry} {ep : Nat} {ob : Obj} (hc : X.calm = true) (I1 : Inv X pins σ H1 s1) (hsys : (a == sysModules) = false) (ho : s1.heap.get? a = some ob) (ex : ob.ExactDict) (hdat : ob.data = .dict es ep)
    (rv : Vals ws (es.toList.map (·.val))) (hz : ws.length ≤ cap) (q : ∀ q, H1 q = none → Q (.ref q) (upd H1 q (.lst ws))) :
    wpAny (model X.prog X.w) X.A (call (.builtin "dict.values") [.ref a]) (fun v s => wpAny (model X.prog X.w) X.A (call (.type "list") [v]) (EP X pins σ Q) X.xe s) X.xe s1 := by
  have raw : s1.heap.DictRaw a es ep := ⟨ob, ho, ex, hdat⟩
  refine call_meetsIn PySem.F.slot_dict_values ⟨ob, ho, ex.1⟩ PySem.F.entry_dict_values (PySem.F.args_dict_values_1 _) (meets_dict_values_raw a hsys) ⟨⟨es, ep, raw⟩, ?_⟩
  have k1 : ∀ b u, s1.heap.get? b = some u → (s1.heap.push { cls := .type "dict_values", data := .fields #[.ref a] }).get? b = some u := fun b u e => Heap.get?_push_of_some _ e
  have hsz : es.size ≤ sizeLine := by
    have e : ws.length = (es.toList.map (·.val)).length := rv.length
    rw [List.length_map] at e
    have e2 : es.toList.length = es.size := by simp
    rw [sizeLine_eq]
    have : ws.length ≤ 16777216 := hz
    omega
  have I2 : Inv X pins σ H1 { s1 with heap := s1.heap.push { cls := .type "dict_values", data := .fields #[.ref a] } } := I1.kept (t' := s1.toks) k1
  refine PySem.W.kdl_call (s := { s1 with heap := s1.heap.push { cls := .type "dict_values", data := .fields #[.ref a] } }) (PySem.KdlSrc.rawValues (r := s1.heap.objs.size) (d := a) (es := es) (ep := ep)) (I1.ok.hd hc) ⟨⟨_, Heap.get?_push_size _ rfl, rfl, rfl⟩, ⟨ob, k1 _ _ ho, ex, hdat⟩⟩ hsz fun h' tk acc' c' kp e it => ?_
  have ea : acc'.toList = es.toList.map (·.val) := by
    have hl : acc'.toList.length = es.size := by rw [Array.length_toList, it.1]
    apply List.ext_getElem?
    intro j
    rw [List.getElem?_map]
    cases hj : acc'.toList[j]? with
    | none =>
      have h1 := List.getElem?_eq_none_iff.mp hj
      rw [List.getElem?_eq_none (by rw [Array.length_toList]; omega)]
      all_goals rfl
    | some v =>
      obtain ⟨hi, hv⟩ := it.2 j v (by rw [← Array.getElem?_toList]; exact hj)
      rw [Array.getElem?_toList, Array.getElem?_eq_getElem hi, hv]
      all_goals rfl
  have hn : H1 (s1.heap.push { cls := .type "dict_values", data := .fields #[.ref a] }).objs.size = none := I2.hok.fresh (Nat.le_refl _)
  refine ⟨.ref _, upd H1 _ (.lst ws), I2.laid (t' := tk) kp (Nat.le_refl _) (show ObjOk X.prog X.w _ _ _ (.lst ws) from ⟨hz, acc'.toList, c', ?_, ?_⟩), rfl, q _ hn⟩
  · rw [ea]; exact rv
  · rw [Array.toArray_toList]; exact e
theorem vals_KT {H1 : Hp} : ∀ {kvs : List (List L2.Key × V)} {xs : List (List L2.Key × Addr × Value)}, KT H1 kvs xs → Vals (kvs.map (·.2)) (xs.map (·.2.2))
  | _, _, .nil => .nil
  | _, _, .cons r t => .cons r.2.2 (vals_KT t)
theorem vals_KV : ∀ {kvs : List (L2.Key × V)} {xs : List (L2.Key × Value)}, KV kvs xs → Vals (kvs.map (·.2)) (xs.map (·.2))
  | _, _, .nil => .nil
  | _, _, .cons r t => .cons r.2 (vals_KV t)
theorem pe_listVals (hc : X.calm = true) (hm : X.mg "list" = none) (hd : PE X o td) (hg : Gl X "list" := by rfl) (hbase : attributeBase o "values" X.env (eval o X.env) = eval o X.env := by rfl) (hline : (apos.endLine == mpos.line) = true := by rfl)
    (hse : starEach [Expr.Call (.Attribute o "values" apos) [] [] mpos] X.env = [(false, eval (Expr.Call (.Attribute o "values" apos) [] [] mpos) X.env)] := by rfl) :
    PE X (.Call (.Name "list" p) [.Call (.Attribute o "values" apos) [] [] mpos] [] pos) (tListVals td) := by
  refine ⟨fun pins s σ H Q I h => ?_⟩
  refine wpAny_Call_Name_kw (ld_blt I hg hm (u := .type "list") (by first | rfl | decide +kernel) ?_ (by first | decide +kernel | decide) (by first | decide +kernel | decide))
  rw [hse]
  refine PySem.callWith_type1 (wpAny_Call_method0_late hbase hline (thn (hd.run pins s σ H _ I h) fun v s1 ⟨x, H1, I1, r1, a, ex, hh⟩ => ?_))
  subst ex
  obtain rfl : v = Value.ref a := r1
  rcases hh with ⟨kvs, ha, q⟩ | ⟨kvs, ha, q⟩
  · obtain ⟨z, hsys, vs, rel, dof⟩ := dk_of I1.hok ha
    obtain ⟨ep, dat⟩ := dof.dictAt
    obtain ⟨ob, es, ho, ex, hdat, hko, hpr, hnd⟩ := dat
    refine ⟨"dict", "dict.values", F.plainAttrs_dict, F.slot_dict_values, F.type_dict_values, ⟨ob, ho, ex.1⟩, fun b e => ?_, Calls.callWith_builtin rfl (PySem.evalArgs_none ?_)⟩
    · cases e
      exact ⟨ob, ho, ex.2.1⟩
    refine vals_raw hc I1 hsys ho ex hdat ?_ (by rw [List.length_map]; exact z) q
    have hp : ∀ {es : List DictEntry} {vs : List (L2.Key × Value)}, Pairs (mixKind X.prog X.w) es vs → es.map (·.val) = vs.map (·.2) := fun {es vs} h => by
      induction h with
      | nil => rfl
      | cons h1 h2 h3 ih => simp [ih, h2]
    rw [hp hpr]
    exact vals_KV rel
  · obtain ⟨z, hsys, xs', rel, ob, es, ep, ho, ex, hdat, he, _⟩ := dt_of I1.hok ha
    refine ⟨"dict", "dict.values", F.plainAttrs_dict, F.slot_dict_values, F.type_dict_values, ⟨ob, ho, ex.1⟩, fun b e => ?_, Calls.callWith_builtin rfl (PySem.evalArgs_none ?_)⟩
    · cases e
      exact ⟨ob, ho, ex.2.1⟩
    refine vals_raw hc I1 hsys ho ex hdat ?_ (by rw [List.length_map]; exact z) q
    rw [he, List.map_map]
    exact vals_KT rel
theorem l_vals (hc : X.calm = true) (hm : X.mg "list" = none) (ho : PE X o (toTE X.K W ro)) (hg : Gl X "list" := by rfl) (hbase : attributeBase o "values" X.env (eval o X.env) = eval o X.env := by rfl) (hline : (apos.endLine == mpos.line) = true := by rfl)
    (hse : starEach [Expr.Call (.Attribute o "values" apos) [] [] mpos] X.env = [(false, eval (Expr.Call (.Attribute o "values" apos) [] [] mpos) X.env)] := by rfl) :
    PE X (.Call (.Name "list" p) [.Call (.Attribute o "values" apos) [] [] mpos] [] pos) (toTL X.K W (lVals ro)) :=
  PE.imp (pe_listVals hc hm ho hg hbase hline hse) fun σ H Q ⟨ρ, F, G, e, st, g, ev, q⟩ => te_bind g ev q fun ρ1 F1 H1 d st1 v _ _ g1 ev1 r1 p1 => by
    cases r1 with
    | @ref k a hr =>
      dsimp only at p1
      split at p1
      · rename_i l hk
        obtain ⟨_, _, ys, h1, h2, h3, h4, h5⟩ := g1.obj k a _ hr hk
        exact ⟨a, rfl, .inl ⟨ys, h1, fun q hq => p1.now g1 _ _ h4 hq (by rw [List.length_map]; exact h2)⟩⟩
      · rename_i l hk
        obtain ⟨_, _, ys, h1, h2, h3, h4, h5⟩ := g1.obj k a _ hr hk
        exact ⟨a, rfl, .inr ⟨ys, h1, fun q hq => p1.now g1 _ _ h4 hq (by rw [List.length_map]; exact h2)⟩⟩
      · exact p1.elim
    | _ => exact p1.elim
end
/-! ### methods without arguments -/
section
variable {X : Cx} {W : WX} {o : Expr} {pos apos : Pos} {ro : RE} {C : Str}
theorem pe_methW0 {CX : CXT} {k : Nat} {f Ca : Addr} {fd : FuncData} {ps : List Str} {sp : Sp} {E : St → XK} {m : Str} {ta : TE} {pl : Sem Bool} (he : PE X o ta) (c : Cls X.K Ca) (hm : Meth X.K Ca m f) (F : FnOk X.prog X.w X.K X.mg X.base CX k f fd ps sp) (hr : Room k X.A) (hb : Binds X.K fd ps []) (hx : ∀ σ, PassesAt CX X σ (E σ))
    (ht : eval (.Call (.Attribute o m apos) [] [] pos) X.env = (do
      let ov ← eval o X.env
      standAt apos.atName
      let (f, first) ← holding [ov] (getMethod ov m pl)
      callWith pos f first (backTo pos (starEach [] X.env)) (backToKw pos (keywordEach [] X.env))) := by rfl) :
    PE X (.Call (.Attribute o m apos) [] [] pos) (L2H.tMethH Ca m sp E ta tNil) := by
  refine ⟨fun pins s σ H Q I h => ?_⟩
  refine PySem.W.methodCall_KW (pl := pl) (thn (he.run pins s σ H _ I h) fun u s1 ⟨x, H1, I1, rx, a, dx, fs, ex, ea, l, q⟩ => ?_) ht
  subst ex
  obtain rfl : u = Value.ref a := rx
  refine getmeth_ok I1 ea c hm l ?_
  exact PySem.W.callWith_K0 (first := [.ref a]) I1.kIn hm.kp (run_fnS (us := [.ref a]) (vs := [.ref a]) F hr hb (hx σ) I1 (.cons rfl .nil) q)
theorem x_me0 {k j : Nat} {ps : List Str} {mn : Str} {m : List D → Store → Res D} {pl : Sem Bool} (O : OkMth X.prog X.w X.K X.mg C mn ps k m) (c : Cls X.K (He.ga X.K C)) (hm : Meth X.K (He.ga X.K C) mn (He.ma X.K (He.ga X.K C) mn)) (hr : Room j X.A) (tk : Takes X W) (ho : PE X o (toTE X.K W ro)) (hj : k ≤ j := by decide)
    (ht : eval (.Call (.Attribute o mn apos) [] [] pos) X.env = (do
      let ov ← eval o X.env
      standAt apos.atName
      let (f, first) ← holding [ov] (getMethod ov mn pl)
      callWith pos f first (backTo pos (starEach [] X.env)) (backToKw pos (keywordEach [] X.env))) := by rfl) :
    PE X (.Call (.Attribute o mn apos) [] [] pos) (toTE X.K W (rMe C mn m ro aNil)) := by
  obtain ⟨hl, fd, hb, G'⟩ := O
  refine PE.imp (pe_methW0 (E := fun σ => WE W σ) ho c hm (G' X.base) (hr.mono hj) (Binds.all hb) (fun σ => passAt tk σ) ht) fun σ H Q ⟨ρ, F, G, e, st, g, ev, q⟩ => te_bind g ev q fun ρ1 F1 H1 d st1 v _ _ g1 ev1 r1 p1 => ?_
  split at p1
  · rename_i hI
    unfold isIns at hI
    cases r1 with
    | @ref k' a' hr' =>
      dsimp only at hI
      split at hI
      · rename_i C' fs hk
        rw [Bool.and_eq_true, decide_eq_true_eq] at hI
        obtain ⟨hC, hn⟩ := hI
        subst hC
        obtain ⟨_, _, dx, ys, h3, h4, h5⟩ := g1.obj k' a' _ hr' hk
        exact ⟨a', dx, ys, rfl, h3, look_none h4 (by simpa using hn), sp_callS hl g1 (.cons (.ref hr') .nil) p1⟩
      · cases hI
    | _ => cases hI
  · exact p1.elim
end
/-! ### try -/
section
open PyProof.Rows
variable {X : Cx} {W : WX} {k j i : Nat} {n x : Str} {body : List Stmt} {p2 np pos' pos wp ep cp : Pos} {r : RS} {mw : Nat → Str → List D → PRes}
theorem s_try (O : OkW X.prog X.w X.K X.mg x k mw) (hmw : ∀ a C j, errIx C = some j → mw a C [.raw a] = .ok (refD j)) (T : ∀ C ∈ errs, ErrOk X.K C) (hr : Room j X.A) (tk : Takes X W) (hN : X.N.Nodup) (hi : X.N[i]? = some n) (hln : X.env.kindOf n = some .local)
    (hH : X.mg "HouseError" = some (.ref (He.ga X.K "HouseError")))
    (hbody : ∀ (W' : WX) (pn : List (Addr × Obj)) (xe : Value → Shared → Prop), Takes (X.tr pn xe) W' → PassesOwn (model X.prog X.w) X.A X.env xe → PSs (X.tr pn xe) body (toTS X.K W' r))
    (hj : k ≤ j := by decide) (hs : X.stack = X.env :: X.outer := by rfl) (hf : X.env.frame = some X.env.locals := by rfl) (hg1 : Gl X "HouseError" := by rfl) (hg : Gl X x := by rfl) (hdx : (x == ("__debug__" : Str)) = false := by decide) (hdb : (n == ("__debug__" : Str)) = false := by decide) (hcd : (n == ("__classdict__" : Str)) = false := by decide)
    (hst : starEach [.Name n ep] X.env = (false, eval (.Name n ep) X.env) :: starEach [] X.env := by rfl) (hpl : (backTo cp (starEach [] X.env)).any (·.1) = false := by rfl) :
    PS X (.Try body [.ExceptHandler (some (.Name "HouseError" np)) (some n) [.Return (some (.Call (.Name x wp) [.Name n ep] [] cp)) p2] pos'] [] [] pos) (toTS X.K W (sTry i r)) := by
  obtain ⟨hm, hk, fd, hb, G⟩ := O
  have hsu : ∀ (a : Addr) (oe : Obj) (cls : Value) (d : Option Addr) (pn : List (Addr × Obj)), Zc cls d oe → (∃ vs, oe.data = .fields vs) →
      PSs (X.suite a ((a, oe) :: pn)) [.Return (some (.Call (.Name x wp) [.Name n ep] [] cp)) p2] (fun D σ H => σ[i]? = some (some (.ref a)) ∧ ∃ C, C ∈ errs ∧ cls = .ref (He.ga X.K C) ∧ d = none ∧ spP X.K 1 (mw a C) [.ref a] H D.rt (fun _ _ _ => False)) := fun a oe cls d pn hz hfl => by
    have hroom : L2H.RoomH k (X.suite a ((a, oe) :: pn)).A := by
      have := L2H.roomH_of (hr.mono hj)
      exact ⟨this.dp, this.un⟩
    have call := pe_callQ (X := X.suite a ((a, oe) :: pn)) (p := (a, oe)) (E := fun _ _ _ => False) (q := wp) (pos := cp) (G X.base) hroom (List.mem_cons_self ..) hg hm hk (Binds.all (ps := ["e"]) hb) (fun σ pins H s e s' I c => by
      obtain ⟨_, _, _, _, _, _, _, _, _, _, _, _, z⟩ := c
      exact z.elim) (pa_cons (pe_var (pos := ep) hi (.inl hln) hdb hcd) pa_nil hst) hdx hst hpl
    refine PSs.imp (pss_one (ps_ret call)) fun D σ H ⟨h1, C, hC, e1, e2, hsp⟩ => ?_
    subst e1 e2
    exact ⟨.ref a, h1, C, hC, hz, hfl, hsp⟩
  refine PS.imp (ps_try_as (i := i) (tb := fun W' => toTS X.K W' r) hs hf hN hi hln (show Names X "HouseError" (.ref (He.ga X.K "HouseError")) from ⟨hg1, by decide, .inl hH⟩) tk (fun W' pn xe tk' po => hbody W' pn xe tk' po) hsu) fun D σ H ⟨ρ, F, G', e, st, g, ev, p⟩ => ?_
  refine ⟨ρ, F, G', e, st, g, ev, ?_⟩
  unfold sTry at p
  cases q : r e st with
  | bad => rw [q] at p; exact p.elim
  | nx e1 st1 => rw [q] at p; exact p
  | rt d st1 => rw [q] at p; exact p
  | exn C e1 st1 =>
    rw [q] at p
    dsimp only at p ⊢
    cases hC : errIx C with
    | none => rw [hC] at p; exact p.elim
    | some ix =>
      rw [hC] at p
      dsimp only at p
      split at p
      case isFalse => exact p.elim
      rename_i hie
      have hCe := errIx_mem hC
      intro ρ' F' H' σ' s1 f1 g1 ev1
      refine ⟨true, (T C hCe).exm, fun _ a ha => ⟨?_, C, hCe, rfl, rfl, rfl, F', [.raw a], g1.f, .cons (.raw a) .nil, ?_⟩, fun z => by cases z⟩
      · have hil : i < σ'.length := by rw [← ev1.1]; exact hie
        rw [List.getElem?_set_self hil]
      · rw [hmw a C ix hC]
        intro F2 H2 v f2 f3 fr rv
        exact p ρ' F2 H2 v s1 (f1.trans f2) (g1.after f2 f3 fr) (rv.mono (fun i a h => by simp at h) (Same.refl _))
end
end Py

set_option Elab.async false
set_option linter.all false
set_option maxRecDepth 100000
namespace Py
open PySem PySem.Spec L2
section
variable {X : Cx} {W : WX} {tg : Expr} {pos : Pos} {K : PySem.W.Frag}
theorem rngD_get {lo hi : Int} {i : Nat} {d : D} (h : (rngDown hi lo)[i]? = some d) : i < (hi - lo).toNat ∧ d = .int (hi + (i : Nat) * (-1)) := by
  unfold rngDown at h
  rw [List.getElem?_map] at h
  cases q : (List.range (hi - lo).toNat)[i]? with
  | none => rw [q] at h; cases h
  | some k =>
    rw [q] at h
    obtain ⟨a, b⟩ := List.getElem?_eq_some_iff.mp q
    rw [List.getElem_range] at b
    subst b
    cases h
    exact ⟨by simpa using a, rfl⟩
theorem its_rngD {ρ : List Addr} {F : Hp} {lo hi : Int} (hl : (hi - lo).toNat ≤ cap) : ItS K ρ F (Itc hi (-1) (hi - lo).toNat) (rngDown hi lo) where
  len := by unfold rngDown; simpa using hl
  go := fun i d ρ' F' G' H' st' s f g hd => by
    obtain ⟨a, rfl⟩ := rngD_get hd
    exact ⟨a, fun x H2 ⟨e, y⟩ => by subst e y; exact ⟨F', Same.refl _, g, .int _⟩⟩
  stop := fun ρ' F' G' H' st' s f g => by
    show (hi - lo).toNat ≤ (rngDown hi lo).length
    unfold rngDown; simp
theorem i_rngD {a b c : Expr} {ra : RA} {p : Pos} (hm : X.mg "range" = none) (ha : PA X [a, b, c] (toTA X.K W ra)) (hg : Gl X "range" := by rfl) (hs : starEach [a, b, c] X.env = (false, eval a X.env) :: starEach [b, c] X.env := by rfl) (hpl : (backTo pos (starEach [b, c] X.env)).any (·.1) = false := by rfl) :
    PI X tg (.Call (.Name "range" p) [a, b, c] [] pos) (toTI X.K W (iRngD ra)) :=
  PI.imp (pi_range3 hg hm ha hs hpl) fun σ H R ⟨ρ, F, G, e, st, g, ev, q⟩ => by
    unfold iRngD at q
    refine ta_bind g ev q fun ρ1 F1 H1 ds st1 vs _ _ g1 ev1 r1 p1 => ?_
    cases r1 with
    | nil => exact p1.elim
    | cons r1 rr =>
      cases rr with
      | nil => cases r1 <;> exact p1.elim
      | cons r2 rr =>
        cases rr with
        | nil => cases r1 <;> cases r2 <;> exact p1.elim
        | cons r3 rr =>
          cases rr with
          | cons _ _ => cases r1 <;> cases r2 <;> cases r3 <;> exact p1.elim
          | nil =>
            cases r1 with
            | int i =>
              cases r2 with
              | int j =>
                cases r3 with
                | int k =>
                  dsimp only at p1
                  split at p1
                  · rename_i hn
                    simp only [Bool.and_eq_true, decide_eq_true_eq] at hn
                    obtain ⟨⟨⟨c1, c2⟩, c3⟩, rfl⟩ := hn
                    obtain ⟨b1, b2⟩ := lim62_ok c1
                    obtain ⟨b3, b4⟩ := lim62_ok c2
                    exact ⟨i, j, -1, (i - j).toNat, rfl, RgC.neg b1 b2 b3 b4, p1.now g1 _ (its_rngD c3)⟩
                  · exact p1.elim
                | _ => exact p1.elim
              | _ => cases r3 <;> exact p1.elim
            | _ => cases r2 <;> cases r3 <;> exact p1.elim
end
end Py

set_option Elab.async false
set_option linter.all false
set_option maxRecDepth 100000
namespace Py
open PySem PySem.Spec L2
section
variable {X : Cx} {W : WX} {K : PySem.W.Frag} {a : Expr} {ra : RE}
theorem rds_rev {ρ : List Addr} {F : Hp} : ∀ {ds : List D} {vs : List V}, RDs K ρ F ds vs → RDs K ρ F ds.reverse vs.reverse
  | _, _, .nil => .nil
  | _, _, .cons h t => by
    rw [List.reverse_cons, List.reverse_cons]
    exact (rds_rev t).append (.cons h .nil)
theorem x_rev {k : Nat} {p1 p2 p3 pos : Pos} (ha : PE X a (toTE X.K W ra)) : PE X (.Subscript a (.Slice none none (some (.UnaryOp .USub (.Constant (.int 1) k p1) p2)) p3) pos) (toTE X.K W (rUn fRev ra)) :=
  PE.imp (pe_revL ha) fun σ H Q ⟨ρ, F, G, e, st, g, ev, p⟩ => te_bind g ev p fun ρ1 F1 H1 d st1 v _ _ g1 ev1 r1 p1 => by
    unfold fRev at p1
    cases hl : asL st1 d with
    | none => rw [hl] at p1; exact p1.elim
    | some l =>
      rw [hl] at p1
      obtain ⟨q, xs, e1, h1, h2, rs⟩ := asL_ok g1 r1 hl
      subst e1
      refine ⟨q, xs, rfl, SqL.of h1, fun w hw => ?_⟩
      obtain ⟨g4, f4⟩ := g1.newF hw (.lst xs.reverse)
      exact p1.to (Sub.refl _) f4 g4 _ (.lst upd_same (by rw [List.length_reverse]; exact h2) ((rds_rev rs).mono (Sub.refl _) f4))
end
end Py

set_option Elab.async false
set_option linter.all false
set_option maxRecDepth 100000
set_option maxHeartbeats 1000000
set_option autoImplicit false
/-! the head's Hook by a given list of addresses (no search in the kernel) -/
namespace Py
section
open PySem PySem.Spec PyProof.Rows L2 He
section
variable {fa : List Fa} {fn : List DefD} {ts : List Tab} {tf : List Defn} {ex : PySem.W.Frag → Bool} {w : World} {h : Heap}
def obsY (as : List Addr) (fa : List Fa) (fn : List DefD) (ts : List Tab) (tf : List Defn) (ex : PySem.W.Frag → Bool) (g : Addr → Option Obj) : AlX := (obsT fa fn ts (frT g as), ex (frT g as) && tabsB g tf (frT g as))
theorem saysY_of {as : List Addr} (e : obsY as fa fn ts tf ex h.get? = valX fn ts w) : SaysX fa fn ts tf ex w h (frT h.get? as) := by
  have e1 : obsT fa fn ts (frT h.get? as) = valT fn ts w := congrArg (fun z : AlX => z.1) e
  have e2 : (ex (frT h.get? as) && tabsB h.get? tf (frT h.get? as)) = true := congrArg (fun z : AlX => z.2) e
  obtain ⟨h1, h2⟩ := ba e2
  have key : ∀ p ∈ tf, PySem.W.codeHdIn (frT h.get? as) (cT (frT h.get? as) p).1 (cT (frT h.get? as) p).2 = true ∧ ∃ o, h.get? (cT (frT h.get? as) p).2 = some o ∧ emptyTab o = true := fun p hp => by
    obtain ⟨h3, h4⟩ := ba (List.all_eq_true.mp h2 p hp)
    refine ⟨h3, ?_⟩
    cases q : h.get? (cT (frT h.get? as) p).2 with
    | none => rw [q] at h4; cases h4
    | some o => rw [q] at h4; exact ⟨o, rfl, h4⟩
  exact ⟨e1, h1, fun p hp => (key p hp).1, fun p hp => by
    obtain ⟨_, o, q, z⟩ := key p hp
    exact frT_none q z, fun p hp => by
    obtain ⟨_, o, q, z⟩ := key p hp
    rw [q, emptyTab_eq z]⟩
end
def hookY (as : List Addr) (fa : List Fa) (fn : List DefD) (ts : List Tab) (tf : List Defn) (ex : PySem.W.Frag → Bool) : PySem.W.Hook where
  α := AlX
  obs := fun s => obsY as fa fn ts tf ex s.heap.get?
  val := fun w => valX fn ts w
  says := fun w h => ∃ K : PySem.W.Frag, K.In h ∧ SaysX fa fn ts tf ex w h K
  of := fun _ _ e => ⟨_, frT_in, saysY_of e⟩
  keeps := fun _ _ _ ⟨K, hK, c⟩ k => ⟨K, PySem.W.Frag.In.keeps hK k, ⟨c.t, c.more, c.hd, c.out, fun p hp => k _ _ (c.empty p hp)⟩⟩
theorem obsY_eq {as : List Addr} {fa : List Fa} {fn : List DefD} {ts : List Tab} {tf : List Defn} {ex : PySem.W.Frag → Bool} {g : Addr → Option Obj} {s : Shared} (h : ∀ a, g a = s.heap.get? a) : obsY as fa fn ts tf ex g = (hookY as fa fn ts tf ex).obs s := by
  have e : g = s.heap.get? := funext h
  rw [e] <;> rfl
end
section
open PySem PySem.W PySem.Calls PyProof.Rows HandSHeadRun
/-- the run's equation, in three looks -/
theorem run3 {r : OpenRow} {q : Program} {H : Hook} {ob : SharedT → H.α} {M : Nat} {loose : List Str} {w : World}
    (h1 : ∀ os : OsState, (endF (stepQ (denQ tabQ) r.prog w) M r.prog w os).map (fun s => looksF r.prog (boot_heap w.params) s.abs) = some true)
    (h2 : ∀ os : OsState, (endF (stepQ (denQ tabQ) r.prog w) M r.prog w os).map (fun s => seenQ q loose (importedModules r.prog.main.body) (fun s => xlAt q [] s && recOk r.toRowW.records s) s.abs) = some (openGood q loose))
    (h3 : ∀ os : OsState, (endF (stepQ (denQ tabQ) r.prog w) M r.prog w os).map ob = some (H.val w)) : RunEq r q H ob M loose w := fun os => by
  have a := h1 os
  have b := h2 os
  have c := h3 os
  cases e : endF (stepQ (denQ tabQ) r.prog w) M r.prog w os with
  | none => rw [e] at a; cases a
  | some s =>
    rw [e] at a b c
    simp only [Option.map_some, Option.some.injEq] at a b c ⊢
    rw [a, b, c]
end
end Py

set_option Elab.async false
set_option linter.all false
set_option maxRecDepth 100000
set_option maxHeartbeats 1000000
set_option autoImplicit false
/-! texts: join, split, figures, z * k; range(0, n, 2) -/
namespace Py
open PySem PySem.Spec L2
section
variable {X : Cx} {K : PySem.W.Frag} {ρ : List Addr} {F G H : Hp} {st : Store}
theorem tyS {d : D} {v : V} (g : Good K ρ F G H st) (r : RD K ρ F d v) (h : isStr st d = true) : tyV K "str" v H := by
  cases r with
  | str x h1 h2 => exact rfl
  | _ => cases h
theorem joinN_eq (s : List Nat) : ∀ ps : List (List Nat), joinN s ps = TL.joinL s ps
  | [] => rfl
  | [p] => rfl
  | p :: q :: r => by
    show p ++ (s ++ joinN s (q :: r)) = p ++ (s ++ TL.joinL s (q :: r))
    rw [joinN_eq s (q :: r)]
theorem joinS_eq (a : Str) (ys : List Str) : Txt.join a ys = joinS a ys := by
  refine TL.ext_tl ?_
  rw [TL.join_eq, TL.tl_join]
  unfold joinS
  rw [TL.tl_mk, joinN_eq]
theorem joinN_mem {s : List Nat} {c : Nat} : ∀ {ps : List (List Nat)}, c ∈ joinN s ps → c ∈ s ∨ ∃ p ∈ ps, c ∈ p
  | [], h => by cases h
  | [p], h => .inr ⟨p, by simp, h⟩
  | p :: q :: r, h => by
    have h' : c ∈ p ++ (s ++ joinN s (q :: r)) := h
    rw [List.mem_append, List.mem_append] at h'
    rcases h' with h' | h' | h'
    · exact .inr ⟨p, by simp, h'⟩
    · exact .inl h'
    · rcases joinN_mem h' with h2 | ⟨p', h2, h3⟩
      · exact .inl h2
      · exact .inr ⟨p', List.mem_cons_of_mem _ h2, h3⟩
theorem joinN_len (s : List Nat) : ∀ ps : List (List Nat), (joinN s ps).length ≤ (ps.map List.length).sum + ps.length * s.length
  | [] => by simp [joinN]
  | [p] => by simp [joinN]
  | p :: q :: r => by
    have ih := joinN_len s (q :: r)
    have e : joinN s (p :: q :: r) = p ++ (s ++ joinN s (q :: r)) := rfl
    rw [e, List.length_append, List.length_append]
    simp only [List.map_cons, List.sum_cons, List.length_cons] at ih ⊢
    rw [Nat.succ_mul]
    omega
theorem strOk_all {x : Str} : PyData.strOk x = true ↔ ∀ c ∈ x.cps.toList, PyData.strOk ⟨#[c]⟩ = true := by
  constructor
  · exact fun h c hc => strOk_one h hc
  · intro h
    unfold PyData.strOk at h ⊢
    rw [← Array.all_toList, List.all_eq_true]
    intro c hc
    have := h c hc
    simpa using this
theorem m_join : MtS K fJoin "str" (fun x xs H Q => ∃ a p, ∃ ys : List Str, x = .str a ∧ xs = [.ref p] ∧ (SqL K H p (ys.map V.str) ∨ SqT K H p (ys.map V.str)) ∧
    (ys.map (·.length)).sum + ys.length * a.length ≤ 16777216 ∧ Q (.str (Txt.join a ys)) H) := fun {W σ ρ F G H st x xs u us Q} g rx rs p => by
  unfold fJoin at p
  split at p
  · rename_i a y
    obtain ⟨v, e, r⟩ := rds1 rs rfl
    subst e
    cases rx with
    | str _ h1 h2 =>
      cases hl : (asL st y).bind asStrs with
      | none => rw [hl] at p; exact p.elim
      | some ys =>
        rw [hl] at p
        dsimp only at p
        split at p
        · rename_i hc
          cases hq : asL st y with
          | none => rw [hq] at hl; cases hl
          | some l =>
            rw [hq] at hl
            obtain ⟨q, xs, e1, h3, h4, rs'⟩ := asL_ok g r hq
            obtain ⟨e2, hok⟩ := asStrs_ok rs' hl
            subst e1 e2
            refine ⟨a, q, ys, rfl, rfl, .inl (SqL.of h3), by omega, ?_⟩
            rw [joinS_eq]
            refine p.now g _ (.str _ ?_ ?_)
            · rw [strOk_all]
              intro c hc'
              rcases joinN_mem (show c ∈ joinN a.cps.toList (ys.map fun y => y.cps.toList) from hc') with h | ⟨z, hz, h⟩
              · exact strOk_one h1 h
              · obtain ⟨w, hw, rfl⟩ := List.mem_map.mp hz
                exact strOk_one (hok w hw).1 h
            · have := joinN_len a.cps.toList (ys.map fun y => y.cps.toList)
              rw [List.map_map, List.length_map] at this
              have e3 : (joinS a ys).length = (joinN a.cps.toList (ys.map fun y => y.cps.toList)).length := by
                unfold joinS Str.length; simp
              have e4 : (ys.map (List.length ∘ fun y => y.cps.toList)) = ys.map fun y => y.length := by
                refine List.map_congr_left fun y _ => ?_
                simp [Str.length]
              have e5 : a.cps.toList.length = a.length := by simp [Str.length]
              rw [e4, e5] at this
              rw [e3]
              show _ ≤ 16777216
              omega
        · exact p.elim
  · exact p.elim
theorem spl_acc (c : Nat) : ∀ (l acc : List Nat), TL.spl [c] 0 acc l = (match splitC c l with
    | [] => [acc]
    | p :: ps => (acc ++ p) :: ps)
  | [], acc => by rw [TL.spl_nil]; simp [splitC]
  | x :: r, acc => by
    by_cases h : x = c
    · have hp : TL.pre [c] (x :: r) = true := by rw [h]; exact TL.pre_self [c] r
      rw [TL.spl_hit hp, splitC, if_pos h]
      have := spl_acc c r []
      rw [show ([c] : List Nat).length - 1 = 0 from rfl, this]
      cases q : splitC c r with
      | nil => exfalso; revert q; cases r <;> (unfold splitC; try split) <;> (try split) <;> simp
      | cons p ps => simp
    · have hp : TL.pre [c] (x :: r) = false := TL.pre_of_head _ _ h
      have e : TL.spl [c] 0 acc (x :: r) = TL.spl [c] 0 (acc ++ [x]) r := by
        show (if TL.pre [c] (x :: r) = true then _ else _) = _
        rw [hp]; rfl
      rw [e, spl_acc c r, splitC, if_neg h]
      cases q : splitC c r with
      | nil => rfl
      | cons p ps => simp
theorem splitC_ne (c : Nat) : ∀ l, splitC c l ≠ []
  | [] => by simp [splitC]
  | x :: r => by
    unfold splitC
    split
    · simp
    · split <;> simp
theorem split_eq {z s : Str} {c : Nat} (hs : s.cps.toList = [c]) (hc : c < 256) : Txt.split z s = (splitC c z.cps.toList).map fun p => (⟨p.toArray⟩ : Str) := by
  refine TL.map_tl_inj ?_
  have hk : s.cps.all (· < 256) = true := by
    rw [← Array.all_toList, hs]; simpa using hc
  rw [TL.split_spl z s (by show s.cps.toList ≠ []; rw [hs]; simp) (TL.kind_ok hk)]
  show TL.spl s.cps.toList 0 [] z.cps.toList = _
  rw [hs, spl_acc, List.map_map]
  have e : (TL.tl ∘ fun p : List Nat => (⟨p.toArray⟩ : Str)) = id := by funext p; rfl
  rw [e, List.map_id]
  cases q : splitC c z.cps.toList with
  | nil => exact absurd q (splitC_ne c _)
  | cons p ps => rfl
theorem splitC_mem {c x : Nat} : ∀ {l p : List Nat}, p ∈ splitC c l → x ∈ p → x ∈ l
  | [], p, h, hx => by simp [splitC] at h; subst h; cases hx
  | y :: r, p, h, hx => by
    unfold splitC at h
    split at h
    · rcases List.mem_cons.mp h with h | h
      · subst h; cases hx
      · exact List.mem_cons_of_mem _ (splitC_mem h hx)
    · split at h
      · rename_i q; exact absurd q (splitC_ne c r)
      · rename_i p' ps q
        rcases List.mem_cons.mp h with h | h
        · subst h
          rcases List.mem_cons.mp hx with h2 | h2
          · rw [h2]; exact List.mem_cons_self
          · exact List.mem_cons_of_mem _ (splitC_mem (p := p') (by rw [q]; exact List.mem_cons_self) h2)
        · exact List.mem_cons_of_mem _ (splitC_mem (by rw [q]; exact List.mem_cons_of_mem _ h) hx)
theorem splitC_len (c : Nat) : ∀ l : List Nat, (splitC c l).length ≤ l.length + 1 ∧ ∀ p ∈ splitC c l, p.length ≤ l.length
  | [] => ⟨by simp [splitC], fun p h => by simp [splitC] at h; subst h; simp⟩
  | y :: r => by
    obtain ⟨a, b⟩ := splitC_len c r
    unfold splitC
    split
    · refine ⟨by simp; omega, fun p h => ?_⟩
      rcases List.mem_cons.mp h with h | h
      · subst h; simp
      · have := b p h; simp; omega
    · split
      · rename_i q; exact absurd q (splitC_ne c r)
      · rename_i p' ps q
        rw [q] at a b
        refine ⟨by simp at a ⊢; omega, fun p h => ?_⟩
        rcases List.mem_cons.mp h with h | h
        · have := b p' (by simp); subst h; simp; omega
        · have := b p (by simp [h]); simp; omega
theorem m_split : MtS K fSplit "str" (fun x xs H Q => ∃ a b, x = .str a ∧ xs = [.str b] ∧ (b.length == 0) = false ∧ a.length + 2 ≤ sizeLine ∧ rNewStrs (Txt.split a b) H Q) := fun {W σ ρ F G H st x xs u us Q} g rx rs p => by
  unfold fSplit at p
  split at p
  · rename_i z s
    obtain ⟨v, e, r⟩ := rds1 rs rfl
    subst e
    cases rx with
    | str _ h1 h2 =>
      cases r with
      | str _ h3 h4 =>
        split at p
        · rename_i c hc
          split at p
          · rename_i hk
            have hsl : s.length = 1 := by
              have : s.cps.toList.length = 1 := by rw [hc]; rfl
              simpa [Str.length] using this
            refine ⟨z, s, rfl, rfl, by rw [hsl]; rfl, by rw [sizeLine_eq]; omega, fun q hq => ?_⟩
            rw [split_eq hc hk.1]
            obtain ⟨g4, f4⟩ := g.newF hq (.lst (((splitC c z.cps.toList).map fun p => (⟨p.toArray⟩ : Str)).map V.str))
            have hz : z.cps.toList.length = z.length := by simp [Str.length]
            obtain ⟨l1, l2⟩ := splitC_len c z.cps.toList
            refine p.to (Sub.refl _) f4 g4 _ (.lst upd_same ?_ ?_)
            · show _ ≤ 16777216
              rw [List.length_map, List.length_map]; omega
            · rw [show ((splitC c z.cps.toList).map fun p => D.str ⟨p.toArray⟩) = ((splitC c z.cps.toList).map fun p => (⟨p.toArray⟩ : Str)).map D.str by rw [List.map_map]; rfl]
              refine strs_rds fun y hy => ?_
              obtain ⟨p', hp', rfl⟩ := List.mem_map.mp hy
              refine ⟨strOk_sub h1 fun c' hc' => splitC_mem hp' hc', ?_⟩
              have := l2 p' hp'
              show (Array.size _) ≤ 16777216
              simp
              omega
          · exact p.elim
        · exact p.elim
  · exact p.elim
theorem fig_str : ∀ n : Nat, n ≤ 9 → (Str.ofString (toString ((n : Nat) : Int))) = (⟨#[48 + n]⟩ : Str) ∧ PyData.strOk (⟨#[48 + n]⟩ : Str) = true := by
  intro n hn
  have : n = 0 ∨ n = 1 ∨ n = 2 ∨ n = 3 ∨ n = 4 ∨ n = 5 ∨ n = 6 ∨ n = 7 ∨ n = 8 ∨ n = 9 := by omega
  rcases this with h | h | h | h | h | h | h | h | h | h <;> subst h <;> exact ⟨by decide +kernel, by decide +kernel⟩
theorem s_strI : CallS K fStrI (fun xs H Q => ∃ i, xs = [.int i] ∧ i.natAbs.log2 < 1920 ∧ Q (.str (toString i)) H) := fun {W σ ρ F G H st xs us Q} g rs p => by
  unfold fStrI at p
  split at p
  · rename_i i
    obtain ⟨v, e, r⟩ := rds1 rs rfl
    subst e
    cases r
    split at p
    · rename_i hi
      have hn : ((i.toNat : Nat) : Int) = i := Int.toNat_of_nonneg hi.1
      obtain ⟨f1, f2⟩ := fig_str i.toNat (by omega)
      rw [hn] at f1
      refine ⟨i, rfl, ?_, ?_⟩
      · have h9 : i.natAbs ≤ 9 := by omega
        have : i.natAbs.log2 ≤ i.natAbs := Nat.log2_le_self _
        omega
      · rw [f1]
        exact p.now g _ (.str _ f2 (by show 1 ≤ 16777216; omega))
    · exact p.elim
  · exact p.elim
theorem fig_int : ∀ n : Nat, n ≤ 9 → PySem.intText? (⟨#[48 + n]⟩ : Str) = some ((n : Nat) : Int) := by
  intro n hn
  have : n = 0 ∨ n = 1 ∨ n = 2 ∨ n = 3 ∨ n = 4 ∨ n = 5 ∨ n = 6 ∨ n = 7 ∨ n = 8 ∨ n = 9 := by omega
  rcases this with h | h | h | h | h | h | h | h | h | h <;> subst h <;> decide +kernel
theorem s_intS : CallS K fIntS (fun xs H Q => ∃ a n, xs = [.str a] ∧ PySem.intText? a = some n ∧ a.length ≤ 640 ∧ Q (.int n) H) := fun {W σ ρ F G H st xs us Q} g rs p => by
  unfold fIntS at p
  split at p
  · rename_i z
    obtain ⟨v, e, r⟩ := rds1 rs rfl
    subst e
    cases r
    split at p
    · rename_i c hc
      split at p
      · rename_i hk
        have hz : z = (⟨#[48 + (c - 48)]⟩ : Str) := by
          refine TL.ext_tl ?_
          show z.cps.toList = [48 + (c - 48)]
          rw [hc]; congr 1; omega
        have hi := fig_int (c - 48) (by omega)
        rw [← hz] at hi
        refine ⟨z, _, rfl, hi, ?_, p.now g _ (.int _)⟩
        rw [hz]; show 1 ≤ 640; omega
      · exact p.elim
    · exact p.elim
  · exact p.elim
def rRepS0 : R2 := fun x y H Q => ∃ z k, x = .str z ∧ y = .int k ∧ 1 ≤ z.length ∧ z.length ≤ 1000 ∧ 0 ≤ k ∧ k ≤ 1000 ∧ Q (.str (repS z k.toNat)) H
theorem op_repS0 : OpR X (binaryOp .Mult) rRepS0 := by
  intro pins s σ H x y v u Q I rx ry h
  obtain ⟨z, k, rfl, rfl, h1, h2, h3, h4, q⟩ := h
  by_cases hk2 : 2 ≤ k
  · exact op_repS (X := X) pins s σ H _ _ v u Q I rx ry ⟨z, k, rfl, rfl, h1, h2, hk2, h4, q⟩
  · obtain ⟨t, rfl⟩ := rx
    obtain ⟨t', rfl⟩ := ry
    have : k = 0 ∨ k = 1 := by omega
    rcases this with e | e <;> subst e
    · refine PySem.P.mul_str (by decide) (fun h _ => absurd (by decide) h) (fun h _ => absurd (by decide) h) ?_
      rw [if_pos (by decide)]
      exact ⟨by decide, .str (repS z 0), H, I.tok _, ⟨_, rfl⟩, q⟩
    · refine PySem.P.mul_str (by decide) (fun _ h => by simp at h) (fun _ h => by simp at h) ?_
      rw [if_neg (by decide), if_pos (by simp)]
      have e : repS z 1 = z := by
        refine TL.ext_tl ?_
        show ((List.replicate 1 z.cps.toList).flatten) = z.cps.toList
        simp
      have q' : Q (.str z) H := by rw [← e]; exact q
      exact ⟨.str z, H, I, ⟨_, rfl⟩, q'⟩
theorem s_mulS : Op2 K fMulS rRepS0 := fun {W σ ρ F G H st x y u v Q} g rx ry p => by
  unfold fMulS at p
  split at p
  · rename_i z k
    cases rx with
    | str _ h1 h2 =>
      cases ry
      split at p
      · rename_i hc
        refine ⟨_, _, rfl, rfl, hc.1, hc.2.1, hc.2.2.1, hc.2.2.2, p.now g _ (.str _ (strOk_sub h1 fun c hc => ?_) ?_)⟩
        · rw [List.mem_flatten] at hc
          obtain ⟨l, hl, hcl⟩ := hc
          rw [List.eq_of_mem_replicate hl] at hcl
          exact hcl
        · rw [rep_len]
          have : k.toNat * z.length ≤ 1000 * 1000 := Nat.mul_le_mul (by omega) hc.2.1
          show _ ≤ 16777216
          omega
      · exact p.elim
  · exact p.elim
end
section
variable {X : Cx} {W : WX} {tg : Expr} {pos : Pos} {K : PySem.W.Frag}
theorem rng2_ok {j : Int} (h0 : 0 ≤ j) (h1 : j ≤ 1000000) : RgC 0 j 2 ((j.toNat + 1) / 2) := by
  have e : Builtin.Range.rangeSize 0 j 2 = (((j.toNat + 1) / 2 : Nat) : Int) := by
    unfold Builtin.Range.rangeSize
    simp only [show ((2 : Int) > 0) by decide, if_true]
    split <;> omega
  refine ⟨by decide, by decide, ?_, e⟩
  unfold Builtin.Range.small
  rw [e]
  simp only [Builtin.Range.rangeFitsLong, Bool.and_eq_true, Bool.or_eq_true, decide_eq_true_eq, show ((2 : Int) > 0) by decide, if_true]
  refine ⟨by omega, .inr ?_⟩
  omega
theorem rngS_get {n : Nat} {i : Nat} {d : D} (h : ((List.range n).map fun t => D.int ((0 : Int) + (t : Nat) * 2))[i]? = some d) : i < n ∧ d = .int (0 + (i : Nat) * 2) := by
  rw [List.getElem?_map] at h
  cases q : (List.range n)[i]? with
  | none => rw [q] at h; cases h
  | some k =>
    rw [q] at h
    obtain ⟨a, b⟩ := List.getElem?_eq_some_iff.mp q
    rw [List.getElem_range] at b
    subst b
    cases h
    exact ⟨by simpa using a, rfl⟩
theorem its_rngS {ρ : List Addr} {F : Hp} {n : Nat} (hl : n ≤ cap) : ItS K ρ F (Itc 0 2 n) ((List.range n).map fun t => D.int ((0 : Int) + (t : Nat) * 2)) where
  len := by simpa using hl
  go := fun i d ρ' F' G' H' st' s f g hd => by
    obtain ⟨a, rfl⟩ := rngS_get hd
    exact ⟨a, fun x H2 ⟨e, y⟩ => by subst e y; exact ⟨F', Same.refl _, g, .int _⟩⟩
  stop := fun ρ' F' G' H' st' s f g => by
    show n ≤ (List.map _ _).length
    simp
theorem i_rngS {a b c : Expr} {ra : RA} {p : Pos} (hm : X.mg "range" = none) (ha : PA X [a, b, c] (toTA X.K W ra)) (hg : Gl X "range" := by rfl) (hs : starEach [a, b, c] X.env = (false, eval a X.env) :: starEach [b, c] X.env := by rfl) (hpl : (backTo pos (starEach [b, c] X.env)).any (·.1) = false := by rfl) :
    PI X tg (.Call (.Name "range" p) [a, b, c] [] pos) (toTI X.K W (iRngS ra)) :=
  PI.imp (pi_range3 hg hm ha hs hpl) fun σ H R ⟨ρ, F, G, e, st, g, ev, q⟩ => by
    unfold iRngS at q
    refine ta_bind g ev q fun ρ1 F1 H1 ds st1 vs _ _ g1 ev1 r1 p1 => ?_
    split at p1
    · rename_i i j k
      cases r1 with
      | cons r1 rr => cases rr with
        | cons r2 rr => cases rr with
          | cons r3 rr =>
            cases rr
            cases r1; cases r2; cases r3
            split at p1
            · rename_i hn
              obtain ⟨rfl, rfl, h0, h1⟩ := hn
              exact ⟨0, j, 2, _, rfl, rng2_ok h0 h1, p1.now g1 _ (its_rngS (by show _ ≤ 16777216; omega))⟩
            · exact p1.elim
    · exact p1.elim
end
end Py

set_option Elab.async false
set_option linter.all false
set_option maxRecDepth 100000
set_option maxHeartbeats 0
namespace Py.K29
open PySem PySem.Spec L2 Py
def topS (i : Nat) : Stmt := PySem.Challenge.pw_wanthouse_k29_whole_texts.main.body.getD i (.Pass ⟨0, 0, 0, 0⟩)

def fn : List He.DefD := ([⟨("is_want", none), "is_want", "is_want", defArgs (topS 22), defBody (topS 22), defScope (topS 22), [], []⟩, ⟨("is_between", none), "is_between", "is_between", defArgs (topS 23), defBody (topS 23), defScope (topS 23), [], []⟩, ⟨("is_one_of", none), "is_one_of", "is_one_of", defArgs (topS 24), defBody (topS 24), defScope (topS 24), [], []⟩, ⟨("is_need", none), "is_need", "is_need", defArgs (topS 25), defBody (topS 25), defScope (topS 25), [], []⟩, ⟨("is_maker", none), "is_maker", "is_maker", defArgs (topS 26), defBody (topS 26), defScope (topS 26), [], []⟩, ⟨("is_row", none), "is_row", "is_row", defArgs (topS 27), defBody (topS 27), defScope (topS 27), [], []⟩, ⟨("are_books", none), "are_books", "are_books", defArgs (topS 28), defBody (topS 28), defScope (topS 28), [], []⟩, ⟨("checked", none), "checked", "checked", defArgs (topS 29), defBody (topS 29), defScope (topS 29), [], []⟩, ⟨("row_words", none), "row_words", "row_words", defArgs (topS 31), defBody (topS 31), defScope (topS 31), [], []⟩, ⟨("text_of", none), "text_of", "text_of", defArgs (topS 32), defBody (topS 32), defScope (topS 32), [], []⟩, ⟨("shown", none), "shown", "shown", defArgs (topS 33), defBody (topS 33), defScope (topS 33), [], []⟩, ⟨("read_made", none), "read_made", "read_made", defArgs (topS 34), defBody (topS 34), defScope (topS 34), [], []⟩, ⟨("read_row", none), "read_row", "read_row", defArgs (topS 35), defBody (topS 35), defScope (topS 35), [], []⟩, ⟨("read", none), "read", "read", defArgs (topS 36), defBody (topS 36), defScope (topS 36), [], []⟩, ⟨("_law_cell_at", none), "_law_cell_at", "_law_cell_at", defArgs (topS 38), defBody (topS 38), defScope (topS 38), [], []⟩, ⟨("_law_mixed", none), "_law_mixed", "_law_mixed", defArgs (topS 39), defBody (topS 39), defScope (topS 39), [], []⟩, ⟨("_law_sign", none), "_law_sign", "_law_sign", defArgs (topS 40), defBody (topS 40), defScope (topS 40), [], []⟩, ⟨("_law_fresh", none), "_law_fresh", "_law_fresh", defArgs (topS 41), defBody (topS 41), defScope (topS 41), [], []⟩, ⟨("_law_words", none), "_law_words", "_law_words", defArgs (topS 42), defBody (topS 42), defScope (topS 42), [], []⟩, ⟨("_law_names", none), "_law_names", "_law_names", defArgs (topS 43), defBody (topS 43), defScope (topS 43), [], []⟩, ⟨("_law_rows", none), "_law_rows", "_law_rows", defArgs (topS 44), defBody (topS 44), defScope (topS 44), [], []⟩, ⟨("_law_maker", none), "_law_maker", "_law_maker", defArgs (topS 45), defBody (topS 45), defScope (topS 45), [], []⟩, ⟨("_law_stands", none), "_law_stands", "_law_stands", defArgs (topS 46), defBody (topS 46), defScope (topS 46), [], []⟩, ⟨("_law_holds", none), "_law_holds", "_law_holds", defArgs (topS 47), defBody (topS 47), defScope (topS 47), [], []⟩, ⟨("_law_made", none), "_law_made", "_law_made", defArgs (topS 48), defBody (topS 48), defScope (topS 48), [], []⟩, ⟨("_law_captive", none), "_law_captive", "_law_captive", defArgs (topS 49), defBody (topS 49), defScope (topS 49), [], []⟩, ⟨("_law_with_spans", none), "_law_with_spans", "_law_with_spans", defArgs (topS 50), defBody (topS 50), defScope (topS 50), [], []⟩, ⟨("_law_sound_maker", none), "_law_sound_maker", "_law_sound_maker", defArgs (topS 51), defBody (topS 51), defScope (topS 51), [], []⟩, ⟨("_law_sound", none), "_law_sound", "_law_sound", defArgs (topS 52), defBody (topS 52), defScope (topS 52), [], []⟩, ⟨("_law_loose_maker", none), "_law_loose_maker", "_law_loose_maker", defArgs (topS 53), defBody (topS 53), defScope (topS 53), [], []⟩] : List He.DefD) ++ ([⟨("_law_loose", none), "_law_loose", "_law_loose", defArgs (topS 54), defBody (topS 54), defScope (topS 54), [], []⟩, ⟨("_law_case", none), "_law_case", "_law_case", defArgs (topS 55), defBody (topS 55), defScope (topS 55), [], []⟩, ⟨("_law_which", none), "_law_which", "_law_which", defArgs (topS 56), defBody (topS 56), defScope (topS 56), [], []⟩, ⟨("_law_told", none), "_law_told", "_law_told", defArgs (topS 57), defBody (topS 57), defScope (topS 57), [], []⟩, ⟨("law", none), "law", "law", defArgs (topS 58), defBody (topS 58), defScope (topS 58), [], []⟩] : List He.DefD)
def fa : List He.Fa := ([.glo "HouseError", .exc "HouseError", .glo "NoWant", .exc "NoWant", .glo "NoMaker", .exc "NoMaker", .glo "NoBooks", .exc "NoBooks", .glo "TooBig", .exc "TooBig", .glo "Missing", .exc "Missing", .glo "Unsound", .exc "Unsound", .glo "NoScope", .exc "NoScope", .glo "Shut", .exc "Shut", .glo "NoThing", .exc "NoThing", .glo "Gone", .exc "Gone", .glo "NoNeed", .exc "NoNeed", .glo "NoText", .exc "NoText", .str "SIGNS" "abcdefghijklmnopqrstuvwxyz", .int "LONGEST" 8, .int "WANTS" 6, .int "NEEDS" 3] : List He.Fa) ++ ([.int "BREAKS" 3, .glo "HOWS", .glo "SPANS", .glo "is_want", .glo "is_between", .glo "is_one_of", .glo "is_need", .glo "is_maker", .glo "is_row", .glo "are_books", .glo "checked", .glo "row_words", .glo "text_of", .glo "shown", .glo "read_made", .glo "read_row", .glo "read", .glo "_law_cell_at", .glo "_law_mixed", .glo "_law_sign", .glo "_law_fresh", .glo "_law_words", .glo "_law_names", .glo "_law_rows", .glo "_law_maker", .glo "_law_stands", .glo "_law_holds", .glo "_law_made", .glo "_law_captive", .glo "_law_with_spans"] : List He.Fa) ++ ([.glo "_law_sound_maker", .glo "_law_sound", .glo "_law_loose_maker", .glo "_law_loose", .glo "_law_case", .glo "_law_which", .glo "_law_told", .glo "law", .free "ValueError", .free "all", .free "bool", .free "dict", .free "enumerate", .free "int", .free "isinstance", .free "len", .free "list", .free "range", .free "sorted", .free "str", .free "tuple"] : List He.Fa)
def more (K : PySem.W.Frag) : Bool := errB K && He.tupB K "HOWS" [.str "now", .str "late", .str "maybe"] && He.tupB K "SPANS" [.str "one", .str "scope", .str "each"] && true
def names : List PySem.Str := (["__name__", "HouseError", "NoWant", "NoMaker", "NoBooks", "TooBig", "Missing", "Unsound", "NoScope", "Shut", "NoThing", "Gone", "NoNeed", "NoText", "SIGNS", "LONGEST", "WANTS", "NEEDS", "BREAKS", "HOWS", "SPANS", "is_want", "is_between", "is_one_of", "is_need", "is_maker", "is_row", "are_books", "checked", "row_words"] : List PySem.Str) ++ (["text_of", "shown", "read_made", "read_row", "read", "_law_cell_at", "_law_mixed", "_law_sign", "_law_fresh", "_law_words", "_law_names", "_law_rows", "_law_maker", "_law_stands", "_law_holds", "_law_made", "_law_captive", "_law_with_spans", "_law_sound_maker", "_law_sound", "_law_loose_maker", "_law_loose", "_law_case", "_law_which", "_law_told"] : List PySem.Str)
abbrev R : PySem.W.OpenRow := PySem.W.OpenLaw.row PySem.Challenge.rw_wanthouse_k29_whole_texts
def aL : List Addr := ([3, 6, 4, 24, 37, 49, 61, 73, 85, 97, 109, 121, 133, 145, 157, 169, 172, 173, 178, 185, 192, 199, 204, 211, 216, 223, 230, 235, 242, 247] : List Addr) ++ ([254, 259, 266, 273, 280, 287, 294, 299, 304, 309, 316, 321, 326, 331, 338, 343, 348, 355, 362, 369, 376, 383, 388, 0, 23, 36, 48, 60, 72, 84] : List Addr) ++ ([96, 108, 120, 132, 144, 156, 168, 177, 184, 191, 198, 203, 210, 215, 222, 229, 234, 241, 246, 253, 258, 265, 272, 279, 286, 293, 298, 303, 308, 315] : List Addr) ++ ([320, 325, 330, 337, 342, 347, 354, 361, 368, 375, 382, 387, 22, 25, 35, 47, 59, 71, 83, 95, 107, 119, 131, 143, 155, 167, 174, 175, 176, 179] : List Addr) ++ ([180, 181, 182, 183, 186, 187, 188, 189, 190, 193, 194, 195, 196, 197, 200, 201, 202, 205, 206, 207, 208, 209, 212, 213, 214, 217, 218, 219, 220, 221] : List Addr) ++ ([224, 225, 226, 227, 228, 231, 232, 233, 236, 237, 238, 239, 240, 243, 244, 245, 248, 249, 250, 251, 252, 255, 256, 257, 260, 261, 262, 263, 264, 267] : List Addr) ++ ([268, 269, 270, 271, 274, 275, 276, 277, 278, 281, 282, 283, 284, 285, 288, 289, 290, 291, 292, 295, 296, 297, 300, 301, 302, 305, 306, 307, 310, 311] : List Addr) ++ ([312, 313, 314, 317, 318, 319, 322, 323, 324, 327, 328, 329, 332, 333, 334, 335, 336, 339, 340, 341, 344, 345, 346, 349, 350, 351, 352, 353, 356, 357] : List Addr) ++ ([358, 359, 360, 363, 364, 365, 366, 367, 370, 371, 372, 373, 374, 377, 378, 379, 380, 381, 384, 385, 386] : List Addr)
abbrev hk : PySem.W.Hook := Py.hookY aL fa fn [] [] more
def ob (s : PySem.W.SharedT) : He.AlX := Py.obsY aL fa fn [] [] more (HandSHeadRun.getT s)
theorem ob_eq (s : PySem.W.SharedT) : ob s = hk.obs s.abs := Py.obsY_eq (HandSHeadRun.getT_eq s)
section
open PySem PySem.W PySem.Calls PyProof.Rows HandSHeadRun
theorem run1 (w : World) (os : OsState) : (endF (stepQ (denQ tabQ) R.prog w) 20000 R.prog w os).map (fun s => looksF R.prog (boot_heap w.params) s.abs) = some true := by kernel_rfl
theorem run2 (w : World) (os : OsState) : (endF (stepQ (denQ tabQ) R.prog w) 20000 R.prog w os).map (fun s => seenQ (view R.prog [58]) names (importedModules R.prog.main.body) (fun s => xlAt (view R.prog [58]) [] s && recOk R.toRowW.records s) s.abs) = some (openGood (view R.prog [58]) names) := by kernel_rfl
theorem run3 (w : World) (os : OsState) : (endF (stepQ (denQ tabQ) R.prog w) 20000 R.prog w os).map ob = some (hk.val w) := by kernel_rfl
end
theorem run (w : World) : HandSHeadRun.RunEq R (PySem.W.view R.prog [58]) hk ob 20000 names w := Py.run3 (fun os => run1 w os) (fun os => run2 w os) (fun os => run3 w os)
end Py.K29

set_option Elab.async false
set_option linter.all false
set_option maxRecDepth 100000
set_option maxHeartbeats 1000000
set_option autoImplicit false
/-! evaluating runs -/
namespace Py
open PySem
@[simp] theorem cap_def : cap = 16777216 := rfl
section
variable {α β : Type} {e : Env} {st : Store}
/-- a place whose type names a function: so what is behind a step is not looked into ahead of it -/
inductive Dm {γ : Type} (x : γ) : Type
  | mk
def Res.bd (r : Res α) (f : α → Store → Res β) (_ : Dm f := Dm.mk) : Res β := r.bind f
@[simp] theorem Res.bd_ok (a : α) (f : α → Store → Res β) (u : Dm f) : (Res.ok a st).bd f u = f a st := by unfold Res.bd; rw [Res.bind_ok]
@[simp] theorem Res.bd_exn (C : Str) (f : α → Store → Res β) (u : Dm f) : (Res.exn C st : Res α).bd f u = .exn C st := rfl
@[simp] theorem Res.bd_bad (f : α → Store → Res β) (u : Dm f) : (Res.bad : Res α).bd f u = .bad := rfl
def SR.bind (r : SR) (f : RS) : SR := match r with
  | .nx e st => f e st
  | r => r
theorem SR.bind_nx0 (f : RS) : (SR.nx e st).bind f = f e st := rfl
@[simp] theorem SR.bind_nx (f : RS) : (SR.nx e st).bind f = f e st := by rw [SR.bind_nx0]
@[simp] theorem SR.bind_rt (d : D) (f : RS) : (SR.rt d st).bind f = .rt d st := rfl
@[simp] theorem SR.bind_exn (C : Str) (f : RS) : (SR.exn C e st).bind f = .exn C e st := rfl
def Res.toS (r : Res α) (e : Env) (k : α → Store → SR) (_ : Dm k := Dm.mk) : SR := match r with
  | .ok a st => k a st
  | .exn C st => .exn C e st
  | .bad => .bad
theorem Res.toS_ok0 (a : α) (k : α → Store → SR) (u : Dm k) : (Res.ok a st).toS e k u = k a st := rfl
@[simp] theorem Res.toS_ok (a : α) (k : α → Store → SR) (u : Dm k) : (Res.ok a st).toS e k u = k a st := by rw [Res.toS_ok0]
@[simp] theorem Res.toS_exn (C : Str) (k : α → Store → SR) (u : Dm k) : (Res.exn C st : Res α).toS e k u = .exn C e st := rfl
def PRes.toR (p : PRes) (st : Store) : Res D := match p with
  | .ok d => .ok d st
  | .exn C => .exn C st
  | .bad => .bad
@[simp] theorem PRes.toR_ok (d : D) : (PRes.ok d).toR st = .ok d st := rfl
@[simp] theorem PRes.toR_exn (C : Str) : (PRes.exn C).toR st = .exn C st := rfl

@[simp] theorem sSeq_ap (a b : RS) : sSeq a b e st = (a e st).bind b := by unfold sSeq SR.bind; cases a e st <;> rfl
@[simp] theorem sNx_ap : sNx e st = .nx e st := rfl
@[simp] theorem sExpr_ap (r : RE) : sExpr r e st = (r e st).toS e fun _ st => .nx e st := by unfold sExpr sOf Res.toS; cases r e st <;> rfl
@[simp] theorem sRet_ap (r : RE) : sRet r e st = (r e st).toS e fun d st => .rt d st := by unfold sRet sOf Res.toS; cases r e st <;> rfl
@[simp] theorem sRetN_ap : sRetN e st = .rt .non st := rfl
@[simp] theorem sSet_ap (i : Nat) (r : RE) : sSet i r e st = (r e st).toS e fun d st => .nx (e.set i (some d)) st := by unfold sSet sOf Res.toS; cases r e st <;> rfl
@[simp] theorem sTgt_ap (g : TGt) (r : RE) : sTgt g r e st = (r e st).toS e fun d st => match g d e with | some e1 => .nx e1 st | none => .bad := by unfold sTgt sOf Res.toS; cases r e st <;> rfl
@[simp] theorem sIf_ap (t : RT) (a b : RS) : sIf t a b e st = (t e st).toS e fun c st => if c = true then a e st else b e st := by
  unfold sIf Res.toS
  cases t e st with
  | ok c st1 => cases c <;> rfl
  | _ => rfl
@[simp] theorem sRaise_ap (C : Str) : sRaise C e st = .exn C e st := rfl
@[simp] theorem sFor_ap (is : RI) (g : TGt) (b : RS) : sFor is g b e st = (is e st).toS e fun xs st1 => forL st1.length g b xs e st1 := by unfold sFor Res.toS; cases is e st <;> rfl
@[simp] theorem sWhile_ap (t : RT) (b : RS) : sWhile t b e st = whileL st.length t b fuel e st := rfl
@[simp] theorem sDPut_ap (d k v : RE) : sDPut d k v e st = (v e st).toS e fun y st1 => (d e st1).toS e fun x st2 => (k e st2).toS e fun z st3 => match dput st3 x z y with | some st4 => .nx e st4 | none => .bad := by
  unfold sDPut Res.toS
  cases v e st with
  | ok y st1 =>
    dsimp only [Res.bind, Res.bd]
    cases d e st1 with
    | ok x st2 =>
      dsimp only [Res.bind, Res.bd]
      cases k e st2 with
      | ok z st3 =>
        dsimp only [Res.bind, Res.bd]
        cases dput st3 x z y <;> rfl
      | _ => rfl
    | _ => rfl
  | _ => rfl
def rVal (o : Option (Option D)) (st : Store) : Res D := match o with
  | some (some d) => .ok d st
  | _ => .bad
@[simp] theorem rVal_some (d : D) : rVal (some (some d)) st = .ok d st := rfl
@[simp] theorem rVar_ap (i : Nat) : rVar i e st = rVal e[i]? st := rfl
@[simp] theorem rC_ap (d : D) : rC d e st = .ok d st := rfl
@[simp] theorem rBin_ap (f : D → D → Store → Res D) (a b : RE) : rBin f a b e st = (a e st).bd fun x st1 => (b e st1).bd fun y st2 => f x y st2 := rfl
@[simp] theorem rUn_ap (f : D → Store → Res D) (a : RE) : rUn f a e st = (a e st).bd fun x st1 => f x st1 := rfl
@[simp] theorem aNil_ap : aNil e st = .ok [] st := rfl
@[simp] theorem aCons_ap (a : RE) (r : RA) : aCons a r e st = (a e st).bd fun x st1 => (r e st1).bd fun xs st2 => .ok (x :: xs) st2 := rfl
@[simp] theorem rCall_ap (f : List D → Store → Res D) (a : RA) : rCall f a e st = (a e st).bd fun xs st1 => f xs st1 := rfl
@[simp] theorem rTup_ap (a : RA) : rTup a e st = (a e st).bd fun xs st1 => if xs.length ≤ cap then .ok (.tup xs) st1 else .bad := rfl
@[simp] theorem lDisp_ap (a : RA) : lDisp a e st = (a e st).bd fun xs st1 => if xs.length ≤ cap then .ok xs st1 else .bad := rfl
@[simp] theorem lCall_ap (f : List D → Store → Res (List D)) (a : RA) : lCall f a e st = (a e st).bd fun xs st1 => f xs st1 := rfl
@[simp] theorem lBin_ap (f : D → D → Store → Res (List D)) (a b : RE) : lBin f a b e st = (a e st).bd fun x st1 => (b e st1).bd fun y st2 => f x y st2 := rfl
@[simp] theorem rFrz_ap (r : RL) : rFrz r e st = (r e st).bd fun l st1 => .ok (.lst l) st1 := rfl
@[simp] theorem rNew_ap (r : RL) : rNew r e st = (r e st).bd fun l st1 => .ok (.ref st1.length) (st1 ++ [.lst l]) := rfl
/-- a value that is to be a bool -/
def asB (d : D) (k : Bool → Res α) (_ : Dm k := Dm.mk) : Res α := match d with
  | .bl b => k b
  | _ => .bad
@[simp] theorem asB_bl (b : Bool) (k : Bool → Res α) (u : Dm k) : asB (.bl b) k u = k b := rfl
@[simp] theorem tVal_ap (r : RE) : tVal r e st = (r e st).bd fun d st1 => asB d fun b => .ok b st1 := by
  unfold tVal asB
  cases r e st with
  | ok d st1 => cases d <;> rfl
  | _ => rfl
@[simp] theorem tAnd_ap (a b : RT) : tAnd a b e st = (a e st).bd fun c st1 => if c = true then b e st1 else .ok false st1 := rfl
@[simp] theorem tOr_ap (a b : RT) : tOr a b e st = (a e st).bd fun c st1 => if c = true then .ok true st1 else b e st1 := rfl
@[simp] theorem tNot_ap (a : RT) : tNot a e st = (a e st).bd fun c st1 => .ok (!c) st1 := rfl
@[simp] theorem tYes_ap : tYes e st = .ok true st := rfl
@[simp] theorem rAndV_ap (a b : RE) : rAndV a b e st = (a e st).bd fun x st1 => asB x fun c => if c = true then b e st1 else .ok (.bl false) st1 := by
  unfold rAndV asB
  cases a e st with
  | ok d st1 => cases d <;> rfl
  | _ => rfl
@[simp] theorem rOrV_ap (a b : RE) : rOrV a b e st = (a e st).bd fun x st1 => asB x fun c => if c = true then .ok (.bl true) st1 else b e st1 := by
  unfold rOrV asB
  cases a e st with
  | ok d st1 => cases d <;> rfl
  | _ => rfl
@[simp] theorem rNotV_ap (a : RE) : rNotV a e st = (a e st).bd fun x st1 => asB x fun c => .ok (.bl (!c)) st1 := by
  unfold rNotV asB
  cases a e st with
  | ok d st1 => cases d <;> rfl
  | _ => rfl
@[simp] theorem rChain_ap (f g : D → D → Store → Res D) (a b c : RE) : rChain f g a b c e st = (a e st).bd fun x st1 => (b e st1).bd fun y st2 => (f x y st2).bd fun z st3 => asB z fun k => if k = true then (c e st3).bd fun u st4 => g y u st4 else .ok (.bl false) st3 := by
  unfold rChain asB
  cases a e st with
  | ok d st1 =>
    dsimp only [Res.bind, Res.bd]
    all_goals cases b e st1 with
    | ok y st2 =>
      dsimp only [Res.bind, Res.bd]
      all_goals cases f d y st2 with
      | ok z st3 => cases z <;> rfl
      | _ => rfl
    | _ => rfl
  | _ => rfl
@[simp] theorem rSl_ap (f : D → Option Int → Option Int → Store → Res D) (r : RE) (lo hi : RO) : rSl f r lo hi e st = (r e st).bd fun x st1 => (lo e st1).bd fun l st2 => (hi e st2).bd fun h st3 => f x l h st3 := rfl
@[simp] theorem oNone_ap : oNone e st = .ok none st := rfl
def asI (d : D) (k : Int → Res α) (_ : Dm k := Dm.mk) : Res α := match d with
  | .int b => k b
  | _ => .bad
@[simp] theorem asI_int (b : Int) (k : Int → Res α) (u : Dm k) : asI (.int b) k u = k b := rfl
@[simp] theorem oSome_ap (r : RE) : oSome r e st = (r e st).bd fun d st1 => asI d fun i => .ok (some i) st1 := by
  unfold oSome asI
  cases r e st with
  | ok d st1 => cases d <;> rfl
  | _ => rfl
@[simp] theorem rMeth_ap (ty : Store → D → Bool) (f : D → List D → Store → Res D) (o : RE) (a : RA) : rMeth ty f o a e st = (o e st).bd fun x st1 => if ty st1 x = true then (a e st1).bd fun xs st2 => f x xs st2 else .bad := rfl
@[simp] theorem rP_ap (m : List D → PRes) (a : RA) : rP m a e st = (a e st).bd fun xs st1 => if xs.all (bel 0) = true then (m xs).toR st1 else .bad := rfl
@[simp] theorem lComp_ap (vs : List Nat) (is : RI) (g : TGt) (t : RT) (r : RE) : lComp vs is g t r e st = (is e st).bd fun xs st1 => compL st1.length g t r (wipe e vs) xs st1 := rfl
def itAny (d : D) (st : Store) : Res (List D) := match d with
  | .tup l => .ok l st
  | .lst l => .ok l st
  | .str z => .ok (z.cps.toList.map fun c => .str ⟨#[c]⟩) st
  | .ref k => (match st[k]? with
    | some (.fz (.lst l)) => .ok l st
    | _ => .bad)
  | _ => .bad
@[simp] theorem itAny_tup (l : List D) : itAny (.tup l) st = .ok l st := rfl
@[simp] theorem itAny_lst (l : List D) : itAny (.lst l) st = .ok l st := rfl
@[simp] theorem itAny_str (z : Str) : itAny (.str z) st = .ok (z.cps.toList.map fun c => .str ⟨#[c]⟩) st := rfl
@[simp] theorem iAny_ap (r : RE) : iAny r e st = (r e st).bd itAny := rfl
def itRng1 (ds : List D) (st : Store) : Res (List D) := match ds with
  | [.int n] => if lim62 n && decide (n.toNat ≤ cap) then .ok (rng 0 n) st else .bad
  | _ => .bad
@[simp] theorem itRng1_ap (n : Int) : itRng1 [.int n] st = if lim62 n && decide (n.toNat ≤ cap) then .ok (rng 0 n) st else .bad := rfl
@[simp] theorem iRng1_ap (a : RA) : iRng1 a e st = (a e st).bd itRng1 := rfl
def itRng2 (ds : List D) (st : Store) : Res (List D) := match ds with
  | [.int i, .int j] => if lim62 i && lim62 j && decide ((j - i).toNat ≤ cap) then .ok (rng i j) st else .bad
  | _ => .bad
@[simp] theorem itRng2_ap (i j : Int) : itRng2 [.int i, .int j] st = if lim62 i && lim62 j && decide ((j - i).toNat ≤ cap) then .ok (rng i j) st else .bad := rfl
@[simp] theorem iRng2_ap (a : RA) : iRng2 a e st = (a e st).bd itRng2 := rfl
def itEnum (ds : List D) (st : Store) : Res (List D) := match ds with
  | [.lst l] => .ok (enumL 0 l) st
  | [.tup l] => .ok (enumL 0 l) st
  | [.ref k] => (match st[k]? with
    | some (.fz (.lst l)) => .ok (enumL 0 l) st
    | _ => .bad)
  | _ => .bad
@[simp] theorem itEnum_ap (l : List D) : itEnum [.lst l] st = .ok (enumL 0 l) st := rfl
@[simp] theorem itEnum_tup (l : List D) : itEnum [.tup l] st = .ok (enumL 0 l) st := rfl
@[simp] theorem iEnum_ap (a : RA) : iEnum a e st = (a e st).bd itEnum := rfl
@[simp] theorem gName_ap (i : Nat) (d : D) : gName i d e = some (e.set i (some d)) := rfl
@[simp] theorem gTup_ap (gs : List TGt) (l : List D) : gTup gs (.tup l) e = gAll gs l e := rfl
@[simp] theorem gAll_nil : gAll [] [] e = some e := rfl
@[simp] theorem gAll_cons (g : TGt) (gs : List TGt) (d : D) (ds : List D) : gAll (g :: gs) (d :: ds) e = (g d e).bind (gAll gs ds) := rfl
@[simp] theorem wipe_nil : wipe e [] = e := rfl
@[simp] theorem wipe_cons (v : Nat) (vs : List Nat) : wipe e (v :: vs) = (wipe e vs).set v none := rfl
/-! operators at their data -/
@[simp] theorem fAdd_ii (i j : Int) : fAdd (.int i) (.int j) st = .ok (.int (i + j)) st := rfl
@[simp] theorem fAdd_ss (a b : Str) : fAdd (.str a) (.str b) st = if a.length + b.length ≤ cap then .ok (.str (a ++ b)) st else .bad := rfl
@[simp] theorem fAdd_tt (a b : List D) : fAdd (.tup a) (.tup b) st = if a.length + b.length ≤ cap then .ok (.tup (a ++ b)) st else .bad := rfl
@[simp] theorem fAdd_ll (a b : List D) : fAdd (.lst a) (.lst b) st = if a.length + b.length ≤ cap then .ok (.lst (a ++ b)) st else .bad := rfl
@[simp] theorem fSub_ii (i j : Int) : fSub (.int i) (.int j) st = .ok (.int (i - j)) st := rfl
@[simp] theorem fMul_ii (i j : Int) : fMul (.int i) (.int j) st = if lim64 i || lim64 j then .ok (.int (i * j)) st else .bad := rfl
@[simp] theorem fMod_ii (i j : Int) : fMod (.int i) (.int j) st = if 0 < j then .ok (.int (i % j)) st else .bad := rfl
@[simp] theorem fDiv_ii (i j : Int) : fDiv (.int i) (.int j) st = if 0 < j ∧ j < 1073741824 then .ok (.int (i / j)) st else .bad := rfl
@[simp] theorem fNeg_i (i : Int) : fNeg (.int i) st = .ok (.int (-i)) st := rfl
@[simp] theorem fLt_ii (i j : Int) : fLt (.int i) (.int j) st = .ok (.bl (decide (i < j))) st := rfl
@[simp] theorem fLt_ss (a b : Str) : fLt (.str a) (.str b) st = .ok (.bl (ltS a b)) st := rfl
@[simp] theorem fLe_ii (i j : Int) : fLe (.int i) (.int j) st = .ok (.bl (decide (i ≤ j))) st := rfl
@[simp] theorem fGt_ii (i j : Int) : fGt (.int i) (.int j) st = .ok (.bl (decide (j < i))) st := rfl
@[simp] theorem fGe_ii (i j : Int) : fGe (.int i) (.int j) st = .ok (.bl (decide (j ≤ i))) st := rfl
@[simp] theorem fIsN_ap (d : D) : fIsN d st = .ok (.bl (isNone d)) st := rfl
@[simp] theorem fNotN_ap (d : D) : fNotN d st = .ok (.bl (!isNone d)) st := rfl
@[simp] theorem isNone_non : isNone .non = true := rfl
@[simp] theorem isNone_tup (l : List D) : isNone (.tup l) = false := rfl
@[simp] theorem isNone_str (l : Str) : isNone (.str l) = false := rfl
@[simp] theorem isNone_int (l : Int) : isNone (.int l) = false := rfl
@[simp] theorem isNone_lst (l : List D) : isNone (.lst l) = false := rfl
@[simp] theorem top_non : top st .non = .non := rfl
@[simp] theorem top_bl (b : Bool) : top st (.bl b) = .bl b := rfl
@[simp] theorem top_int (b : Int) : top st (.int b) = .int b := rfl
@[simp] theorem top_str (b : Str) : top st (.str b) = .str b := rfl
@[simp] theorem top_tup (b : List D) : top st (.tup b) = .tup b := rfl
@[simp] theorem top_lst (b : List D) : top st (.lst b) = .lst b := rfl
@[simp] theorem top_scr (b : List Int) : top st (.scr b) = .lst (b.map .int) := rfl
@[simp] theorem okD_non (n : Nat) : okD n .non = true := by unfold okD; rfl
@[simp] theorem okD_bl (n : Nat) (b : Bool) : okD n (.bl b) = true := by unfold okD; rfl
@[simp] theorem okD_int (n : Nat) (b : Int) : okD n (.int b) = true := by unfold okD; rfl
@[simp] theorem okD_str (n : Nat) (b : Str) : okD n (.str b) = true := by unfold okD; rfl
theorem okD_tup (n : Nat) (l : List D) : okD (n + 1) (.tup l) = l.all (okD n) := by rw [okD]
theorem okD_lst (n : Nat) (l : List D) : okD (n + 1) (.lst l) = l.all (okD n) := by rw [okD]
theorem eqD_tup (n : Nat) (a b : List D) : eqD (n + 1) (.tup a) (.tup b) = all2 (eqD n) a b := by rw [eqD]
theorem eqD_lst (n : Nat) (a b : List D) : eqD (n + 1) (.lst a) (.lst b) = all2 (eqD n) a b := by rw [eqD]
@[simp] theorem eqD_nn (n : Nat) : eqD n .non .non = true := by unfold eqD; rfl
@[simp] theorem eqD_ii (n : Nat) (i j : Int) : eqD n (.int i) (.int j) = (i == j) := by unfold eqD; rfl
@[simp] theorem eqD_bb (n : Nat) (i j : Bool) : eqD n (.bl i) (.bl j) = (i == j) := by unfold eqD; rfl
@[simp] theorem eqD_ss (n : Nat) (i j : Str) : eqD n (.str i) (.str j) = decide (i = j) := by unfold eqD; rfl
theorem fEq_ap (x y : D) : fEq x y st = if okD 60 (top st x) && okD 60 (top st y) then .ok (.bl (eqD 60 (top st x) (top st y))) st else .bad := rfl
theorem fNe_ap (x y : D) : fNe x y st = if okD 60 (top st x) && okD 60 (top st y) then .ok (.bl (!eqD 60 (top st x) (top st y))) st else .bad := rfl
@[simp] theorem fEq_ii (i j : Int) : fEq (.int i) (.int j) st = .ok (.bl (i == j)) st := by simp [fEq_ap]
@[simp] theorem fEq_ss (i j : Str) : fEq (.str i) (.str j) st = .ok (.bl (decide (i = j))) st := by simp [fEq_ap]
@[simp] theorem fEq_bb (i j : Bool) : fEq (.bl i) (.bl j) st = .ok (.bl (i == j)) st := by simp [fEq_ap]
@[simp] theorem fNe_ii (i j : Int) : fNe (.int i) (.int j) st = .ok (.bl (i != j)) st := by simp [fNe_ap, bne]
@[simp] theorem fNe_ss (i j : Str) : fNe (.str i) (.str j) st = .ok (.bl (!decide (i = j))) st := by simp [fNe_ap]
/-! subscripts -/
@[simp] theorem dget_tup (l : List D) (k : D) : dget st (.tup l) k = none := rfl
@[simp] theorem dget_lst (l : List D) (k : D) : dget st (.lst l) k = none := rfl
@[simp] theorem dget_ktup (l : List Str) (k : D) : dget st (.ktup l) k = none := rfl
@[simp] theorem dget_str (l : Str) (k : D) : dget st (.str l) k = none := rfl
@[simp] theorem dget_scr (l : List Int) (k : D) : dget st (.scr l) k = none := rfl
def atR {α : Type} (o : Option α) (f : α → D) (st : Store) : Res D := match o with
  | some a => .ok (f a) st
  | none => .bad
@[simp] theorem atR_some {α : Type} (a : α) (f : α → D) : atR (some a) f st = .ok (f a) st := rfl
@[simp] theorem fSub2_tup (l : List D) (i : Int) : fSub2 (.tup l) (.int i) st = atR (atI l i) id st := by
  unfold fSub2 atR; rw [dget_tup]; dsimp only [fIx, asS]; cases atI l i <;> rfl
@[simp] theorem fSub2_lst (l : List D) (i : Int) : fSub2 (.lst l) (.int i) st = atR (atI l i) id st := by
  unfold fSub2 atR; rw [dget_lst]; dsimp only [fIx, asS, asL]; cases atI l i <;> rfl
@[simp] theorem fSub2_scr (l : List Int) (i : Int) : fSub2 (.scr l) (.int i) st = atR (atI l i) .int st := by
  unfold fSub2 atR; rw [dget_scr]; dsimp only [fIx, asS, asL]; cases atI l i <;> rfl
@[simp] theorem fSub2_str (l : Str) (i : Int) : fSub2 (.str l) (.int i) st = atR (atI l.cps.toList i) (fun c => .str ⟨#[c]⟩) st := by
  unfold fSub2 atR; rw [dget_str]; dsimp only [fIx, asS, asL]; cases atI l.cps.toList i <;> rfl
theorem atI_nn {α : Type} (xs : List α) {i : Nat} : atI xs (i : Int) = xs[i]? := by
  unfold atI ixN
  rw [if_pos (Int.natCast_nonneg i)]
  by_cases h : i < xs.length
  · rw [if_pos (by omega)]; rfl
  · rw [if_neg (by omega)]; simp only [Option.bind_none]; rw [List.getElem?_eq_none (by omega)]
@[simp] theorem atI_0 {α : Type} (xs : List α) : atI xs 0 = xs[0]? := atI_nn xs (i := 0)
@[simp] theorem atI_1 {α : Type} (xs : List α) : atI xs 1 = xs[1]? := atI_nn xs (i := 1)
@[simp] theorem atI_2 {α : Type} (xs : List α) : atI xs 2 = xs[2]? := atI_nn xs (i := 2)
@[simp] theorem atI_3 {α : Type} (xs : List α) : atI xs 3 = xs[3]? := atI_nn xs (i := 3)
@[simp] theorem atI_4 {α : Type} (xs : List α) : atI xs 4 = xs[4]? := atI_nn xs (i := 4)
theorem atI_m1 {α : Type} (xs : List α) (h : xs ≠ []) : atI xs (-1) = xs.getLast? := by
  unfold atI ixN
  have : 0 < xs.length := List.length_pos_iff.mpr h
  rw [if_neg (by decide), if_pos (by omega)]
  have : (-1 + (xs.length : Int)).toNat = xs.length - 1 := by omega
  rw [Option.bind_some, this, List.getLast?_eq_getElem?]
theorem atI_in {α : Type} (xs : List α) {i : Int} (h0 : 0 ≤ i) (h : i < xs.length) : ∃ a, atI xs i = some a ∧ a ∈ xs := by
  obtain ⟨n, rfl⟩ := Int.eq_ofNat_of_zero_le h0
  rw [atI_nn]
  have : n < xs.length := by omega
  exact ⟨xs[n], by simp [this], List.getElem_mem this⟩
theorem atI_map {α β : Type} (f : α → β) (xs : List α) (i : Int) : atI (xs.map f) i = (atI xs i).map f := by
  unfold atI
  rw [List.length_map]
  cases ixN xs.length i <;> simp
/-! calls -/
@[simp] theorem fLen_str (z : Str) : fLen [.str z] st = .ok (.int z.length) st := rfl
@[simp] theorem fLen_scr (z : List Int) : fLen [.scr z] st = .ok (.int z.length) st := rfl
@[simp] theorem fLen_tup (z : List D) : fLen [.tup z] st = .ok (.int z.length) st := rfl
@[simp] theorem fLen_lst (z : List D) : fLen [.lst z] st = .ok (.int z.length) st := rfl
theorem asBools_map {α : Type} (f : α → Bool) : ∀ l : List α, asBools (l.map fun x => .bl (f x)) = some (l.map f)
  | [] => rfl
  | x :: l => by simp [asBools, asBools_map f l]
@[simp] theorem fAll_lst (l : List D) : fAll [.lst l] st = (match asBools l with | some l => .ok (.bl (l.all id)) st | none => .bad) := rfl
@[simp] theorem fAny_lst (l : List D) : fAny [.lst l] st = (match asBools l with | some l => .ok (.bl (l.any id)) st | none => .bad) := rfl
@[simp] theorem fTuple_lst (l : List D) : fTuple [.lst l] st = .ok (.tup l) st := rfl
@[simp] theorem fTuple_tup (l : List D) : fTuple [.tup l] st = .ok (.tup l) st := rfl
@[simp] theorem fList_lst (l : List D) : fList [.lst l] st = .ok l st := rfl
@[simp] theorem fList_tup (l : List D) : fList [.tup l] st = .ok l st := rfl
theorem asStrs_map : ∀ l : List Str, asStrs (l.map .str) = some l
  | [] => rfl
  | x :: l => by simp [asStrs, asStrs_map l]
theorem asInts_map : ∀ l : List Int, asInts (l.map .int) = some l
  | [] => rfl
  | x :: l => by simp [asInts, asInts_map l]
theorem asPairs_map : ∀ l : List (Str × Str), asPairs (l.map pairD) = some l
  | [] => rfl
  | x :: l => by simp [asPairs, pairD, asPairs_map l]
theorem fSorted2_strs (l : List Str) (h : l.length < 64) : fSorted2 [.lst (l.map .str)] st = .ok ((isort leS l).map .str) st := by
  unfold fSorted2 fSorted asL
  simp [asStrs_map, h]
theorem fSorted2_pairs (l : List (Str × Str)) : fSorted2 [.lst (l.map pairD)] st = .ok ((isort leP l).map pairD) st := by
  cases l with
  | nil => unfold fSorted2 fSorted asL; simp [asStrs, isort]
  | cons p l =>
    have h1 : asStrs ((p :: l).map pairD) = none := rfl
    have h2 : asInts ((p :: l).map pairD) = none := rfl
    unfold fSorted2 fSorted asL
    dsimp only
    rw [h1, h2]
    dsimp only [Option.bind_some]
    rw [asPairs_map]
theorem fSorted2_ints (l : List Int) : fSorted2 [.lst (l.map .int)] st = .ok ((isort leI l).map .int) st := by
  cases l with
  | nil => unfold fSorted2 fSorted asL; simp [asStrs, isort]
  | cons p l =>
    have h1 : asStrs ((p :: l).map D.int) = none := rfl
    unfold fSorted2 fSorted asL
    dsimp only
    rw [h1]
    dsimp only [Option.bind_some]
    rw [asInts_map]
end
/-! defs -/
theorem pureOf_rt {k n : Nat} {r : RS} {ds : List D} {d d' : D} {st : Store} (hk : ds.length = k) (h : r (startE n ds) [] = .rt d st) (hf : frz st d = some d') : pureOf k n r ds = .ok d' := by
  unfold pureOf; rw [if_pos hk, h]; dsimp only; rw [hf]
theorem pureOf_nx {k n : Nat} {r : RS} {ds : List D} {e : Env} {st : Store} (hk : ds.length = k) (h : r (startE n ds) [] = .nx e st) : pureOf k n r ds = .ok .non := by
  unfold pureOf; rw [if_pos hk, h]
theorem pureOf_exn {k n : Nat} {r : RS} {ds : List D} {e : Env} {st : Store} {C : Str} (hk : ds.length = k) (h : r (startE n ds) [] = .exn C e st) : pureOf k n r ds = .exn C := by
  unfold pureOf; rw [if_pos hk, h]
theorem stOf_rt {k n : Nat} {r : RS} {ds : List D} {d : D} {st st' : Store} (hk : ds.length = k) (h : r (startE n ds) st = .rt d st') (hl : st'.length = st.length) (hb : bel st.length d = true) : stOf k n r ds st = .ok d st' := by
  unfold stOf; rw [if_pos hk, h]
  dsimp only
  unfold finD gc
  rw [if_pos hl]
  dsimp only
  cases d with
  | ref i => dsimp only; rw [if_pos (by simpa using hb)]
  | _ => dsimp only; rw [if_pos hb]
/-- a loop's turns: what holds of the items gone through -/
theorem forL_nil (n0 : Nat) (g : TGt) (b : RS) (e : Env) (st : Store) : forL n0 g b [] e st = .nx e st := rfl
theorem forL_nx {n0 : Nat} {g : TGt} {b : RS} {x : D} {xs : List D} {e e1 e2 : Env} {st st2 : Store} (hg : g x e = some e1) (hb : b e1 st = .nx e2 st2) (hl : st2.length = n0) : forL n0 g b (x :: xs) e st = forL n0 g b xs e2 st2 := by
  rw [forL, hg]; dsimp only; rw [hb]; dsimp only; unfold gc; rw [if_pos hl]
theorem forL_rt {n0 : Nat} {g : TGt} {b : RS} {x d : D} {xs : List D} {e e1 : Env} {st st2 : Store} (hg : g x e = some e1) (hb : b e1 st = .rt d st2) : forL n0 g b (x :: xs) e st = .rt d st2 := by
  rw [forL, hg]; dsimp only; rw [hb]
/-- the rule of a loop that runs to its end -/
theorem forL_inv {α : Type} (enc : α → D) {n0 : Nat} {g : TGt} {b : RS} (I : List α → Env → Store → Prop) : ∀ (xs pre : List α) (e : Env) (st : Store), I pre e st →
    (∀ (p : List α) (a : α) (q : List α) (e : Env) (st : Store), pre ++ xs = p ++ a :: q → I p e st → ∃ e1 e2 st2, g (enc a) e = some e1 ∧ b e1 st = .nx e2 st2 ∧ st2.length = n0 ∧ I (p ++ [a]) e2 st2) →
    ∃ e' st', forL n0 g b (xs.map enc) e st = .nx e' st' ∧ I (pre ++ xs) e' st'
  | [], pre, e, st, h, _ => ⟨e, st, rfl, by simpa using h⟩
  | x :: xs, pre, e, st, h, hs => by
    obtain ⟨e1, e2, st2, h1, h2, h3, h4⟩ := hs pre x xs e st rfl h
    obtain ⟨e', st', h5, h6⟩ := forL_inv enc I xs (pre ++ [x]) e2 st2 h4 fun p a q e st he hi => hs p a q e st (by simpa using he) hi
    exact ⟨e', st', by rw [List.map_cons, forL_nx h1 h2 h3]; exact h5, by simpa using h6⟩
/-- comprehensions -/
theorem compL_all {α : Type} (enc : α → D) {n0 : Nat} {g : TGt} {t : RT} {r : RE} {e : Env} {st : Store} (hn : st.length = n0) (p : α → Bool) (f : α → D) : ∀ (xs : List α), (∀ a ∈ xs, ∃ e1, g (enc a) e = some e1 ∧ t e1 st = .ok (p a) st ∧ (p a = true → r e1 st = .ok (f a) st)) →
    compL n0 g t r e (xs.map enc) st = .ok ((xs.filter p).map f) st
  | [], _ => rfl
  | a :: xs, h => by
    obtain ⟨e1, h1, h2, h3⟩ := h a List.mem_cons_self
    have ih := compL_all enc hn p f xs fun b hb => h b (List.mem_cons_of_mem _ hb)
    rw [List.map_cons, compL, h1]
    dsimp only
    rw [h2]
    cases hp : p a with
    | true =>
      dsimp only
      rw [h3 hp]
      dsimp only
      rw [if_pos hn, ih]
      simp [hp]
    | false =>
      dsimp only
      rw [if_pos hn, ih]
      simp [hp]
theorem compL_map {α : Type} (enc : α → D) {n0 : Nat} {g : TGt} {r : RE} {e : Env} {st : Store} (hn : st.length = n0) (f : α → D) (xs : List α) (h : ∀ a ∈ xs, ∃ e1, g (enc a) e = some e1 ∧ r e1 st = .ok (f a) st) :
    compL n0 g tYes r e (xs.map enc) st = .ok (xs.map f) st := by
  have := compL_all enc (g := g) (t := tYes) (r := r) (e := e) hn (fun _ => true) f xs fun a ha => by
    obtain ⟨e1, h1, h2⟩ := h a ha
    exact ⟨e1, h1, rfl, fun _ => h2⟩
  rw [this, List.filter_eq_self.mpr (by simp)]
end Py

set_option Elab.async false
set_option linter.all false
set_option maxRecDepth 100000
set_option maxHeartbeats 1000000
set_option autoImplicit false
/-! objects of the store -/
namespace Py
open PySem
def lstO (o : Option O) : Option (List D) := match o with
  | some (.lst l) => some l
  | some (.fz (.lst l)) => some l
  | _ => none
def dgO (o : Option O) (k : D) : Option (Option D) := match o with
  | some (.dK l) => (keyOf k).map fun k => look l k
  | some (.dT l) => (match k with
    | .tup ks => (keysOf ks).map fun k => look l k
    | _ => none)
  | _ => none
section
variable {st : Store} {e : Env}
@[simp] theorem lstO_lst (l : List D) : lstO (some (.lst l)) = some l := rfl
@[simp] theorem lstO_dK (l : List (Key × D)) : lstO (some (.dK l)) = none := rfl
@[simp] theorem lstO_dT (l : List (List Key × D)) : lstO (some (.dT l)) = none := rfl
@[simp] theorem asL_ref (k : Nat) : asL st (.ref k) = lstO st[k]? := by
  unfold asL lstO
  dsimp only
  all_goals
    generalize st[k]? = o
    cases o with
    | none => rfl
    | some o => cases o with
      | fz d => cases d <;> rfl
      | _ => rfl
@[simp] theorem asL_lst (l : List D) : asL st (.lst l) = some l := rfl
@[simp] theorem dget_ref (k : Nat) (y : D) : dget st (.ref k) y = dgO st[k]? y := rfl
@[simp] theorem dgO_lst (l : List D) (y : D) : dgO (some (.lst l)) y = none := rfl
@[simp] theorem dgO_dKs (l : List (Key × D)) (x : Str) : dgO (some (.dK l)) (.str x) = some (look l (.inr x)) := rfl
@[simp] theorem dgO_dKi (l : List (Key × D)) (x : Int) : dgO (some (.dK l)) (.int x) = some (look l (.inl x)) := rfl
@[simp] theorem dgO_dT (l : List (List Key × D)) (ks : List D) : dgO (some (.dT l)) (.tup ks) = (keysOf ks).map fun k => look l k := rfl
def sub2 (o : Option O) (y : D) (st : Store) : Res D := match dgO o y with
  | some (some d) => .ok d st
  | some none => .bad
  | none => (match y with
    | .int i => (match lstO o with
      | some l => atR (atI l i) id st
      | none => .bad)
    | _ => .bad)
@[simp] theorem fSub2_ref (k : Nat) (y : D) : fSub2 (.ref k) y st = sub2 st[k]? y st := by
  unfold fSub2 sub2
  rw [dget_ref]
  cases h : dgO st[k]? y with
  | some o => cases o <;> rfl
  | none =>
    dsimp only
    unfold fIx
    cases y <;> try rfl
    dsimp only [asS]
    rw [asL_ref]
    cases lstO st[k]? with
    | none => rfl
    | some l => dsimp only; unfold atR; rename_i i; cases atI l i <;> rfl
@[simp] theorem sub2_lst (l : List D) (i : Int) : sub2 (some (.lst l)) (.int i) st = atR (atI l i) id st := rfl
@[simp] theorem sub2_dKs (l : List (Key × D)) (x : Str) : sub2 (some (.dK l)) (.str x) st = atR (look l (.inr x)) id st := by
  unfold sub2 atR; rw [dgO_dKs]; cases look l (.inr x) <;> rfl
@[simp] theorem sub2_dKi (l : List (Key × D)) (x : Int) : sub2 (some (.dK l)) (.int x) st = atR (look l (.inl x)) id st := by
  unfold sub2 atR; rw [dgO_dKi]; cases look l (.inl x) <;> rfl
@[simp] theorem isLst_ref (k : Nat) : isLst st (.ref k) = (lstO st[k]?).isSome := by unfold isLst; rw [asL_ref]
def appO (o : Option O) (i : Nat) (y : D) (st : Store) : Res D := match o with
  | some (.lst l) => if l.length < cap then .ok .non (st.set i (.lst (l ++ [y]))) else .bad
  | _ => .bad
@[simp] theorem fAppend_ref (i : Nat) (y : D) : fAppend (.ref i) [y] st = appO st[i]? i y st := rfl
@[simp] theorem appO_lst (l : List D) (i : Nat) (y : D) : appO (some (.lst l)) i y st = if l.length < cap then .ok .non (st.set i (.lst (l ++ [y]))) else .bad := rfl
def extO (o : Option O) (i : Nat) (m : Option (List D)) (st : Store) : Res D := match o, m with
  | some (.lst l), some m => if l.length + m.length ≤ cap then .ok .non (st.set i (.lst (l ++ m))) else .bad
  | _, _ => .bad
@[simp] theorem fExtend_ref (i : Nat) (y : D) : fExtend (.ref i) [y] st = extO st[i]? i (asL st y) st := rfl
@[simp] theorem extO_lst (l m : List D) (i : Nat) : extO (some (.lst l)) i (some m) st = if l.length + m.length ≤ cap then .ok .non (st.set i (.lst (l ++ m))) else .bad := rfl
def popO (o : Option O) (i : Nat) (st : Store) : Res D := match o with
  | some (.lst l) => (match l[l.length - 1]? with
    | some y => .ok y (st.set i (.lst l.dropLast))
    | none => .bad)
  | _ => .bad
@[simp] theorem fPop_ref (i : Nat) : fPop (.ref i) [] st = popO st[i]? i st := rfl
theorem popO_snoc (l : List D) (y : D) (i : Nat) : popO (some (.lst (l ++ [y]))) i st = .ok y (st.set i (.lst l)) := by
  unfold popO; simp
def putO (o : Option O) (i : Nat) (k v : D) (st : Store) : Option Store := match o with
  | some (.dK l) => (match keyOf k with
    | some k => if l.length < cap then some (st.set i (.dK (put l k v))) else none
    | none => none)
  | some (.dT l) => (match k with
    | .tup ks => (match keysOf ks with
      | some k => if l.length < cap then some (st.set i (.dT (put l k v))) else none
      | none => none)
    | _ => none)
  | _ => none
@[simp] theorem dput_ref (i : Nat) (k v : D) : dput st (.ref i) k v = putO st[i]? i k v st := rfl
@[simp] theorem putO_dKs (l : List (Key × D)) (i : Nat) (x : Str) (v : D) : putO (some (.dK l)) i (.str x) v st = if l.length < cap then some (st.set i (.dK (put l (.inr x) v))) else none := rfl
@[simp] theorem putO_dKi (l : List (Key × D)) (i : Nat) (x : Int) (v : D) : putO (some (.dK l)) i (.int x) v st = if l.length < cap then some (st.set i (.dK (put l (.inl x) v))) else none := rfl
@[simp] theorem putO_dT2 (l : List (List Key × D)) (i : Nat) (x y : Str) (v : D) : putO (some (.dT l)) i (.tup [.str x, .str y]) v st = if l.length < cap then some (st.set i (.dT (put l [.inr x, .inr y] v))) else none := rfl
def listO (o : Option O) (st : Store) : Res (List D) := match o with
  | some (.dK l) => .ok (l.map fun p => kD p.1) st
  | some (.dT l) => .ok (l.map fun p => .tup (p.1.map kD)) st
  | some (.lst l) => .ok l st
  | some (.fz (.lst l)) => .ok l st
  | _ => .bad
@[simp] theorem fList_ref (k : Nat) : fList [.ref k] st = listO st[k]? st := rfl
@[simp] theorem listO_dK (l : List (Key × D)) : listO (some (.dK l)) st = .ok (l.map fun p => kD p.1) st := rfl
@[simp] theorem listO_dT (l : List (List Key × D)) : listO (some (.dT l)) st = .ok (l.map fun p => .tup (p.1.map kD)) st := rfl
@[simp] theorem listO_lst (l : List D) : listO (some (.lst l)) st = .ok l st := rfl
@[simp] theorem rDictK_ap : rDictK e st = .ok (.ref st.length) (st ++ [.dK []]) := rfl
@[simp] theorem rDictT_ap : rDictT e st = .ok (.ref st.length) (st ++ [.dT []]) := rfl
def tupO (o : Option (List D)) (st : Store) : Res D := match o with
  | some l => .ok (.tup l) st
  | none => .bad
@[simp] theorem tupO_some (l : List D) : tupO (some l) st = .ok (.tup l) st := rfl
@[simp] theorem fTuple_ref (k : Nat) : fTuple [.ref k] st = tupO (lstO st[k]?) st := by
  unfold fTuple tupO; dsimp only; rw [asL_ref]; all_goals (cases lstO st[k]? <;> rfl)
def lenO (o : Option O) (st : Store) : Res D := match o with
  | some (.dK l) => .ok (.int l.length) st
  | some (.dT l) => .ok (.int l.length) st
  | some (.lst l) => .ok (.int l.length) st
  | some (.fz (.lst l)) => .ok (.int l.length) st
  | _ => .bad
@[simp] theorem fLen_ref (k : Nat) : fLen [.ref k] st = lenO st[k]? st := rfl
@[simp] theorem lenO_lst (l : List D) : lenO (some (.lst l)) st = .ok (.int l.length) st := rfl
@[simp] theorem lenO_dK (l : List (Key × D)) : lenO (some (.dK l)) st = .ok (.int l.length) st := rfl
def fzO (o : Option O) (k : Nat) (e : Env) (st : Store) : SR := match o with
  | some (.lst l) => .nx e (st.set k (.fz (.lst l)))
  | _ => .bad
@[simp] theorem fzO_lst (l : List D) (k : Nat) : fzO (some (.lst l)) k e st = .nx e (st.set k (.fz (.lst l))) := rfl
def fzV (o : Option (Option D)) (e : Env) (st : Store) : SR := match o with
  | some (some (.ref k)) => fzO st[k]? k e st
  | _ => .bad
@[simp] theorem fzV_ref (k : Nat) : fzV (some (some (.ref k))) e st = fzO st[k]? k e st := rfl
@[simp] theorem sFz_ap (i : Nat) : sFz i e st = fzV e[i]? e st := rfl
@[simp] theorem lstO_fz (l : List D) : lstO (some (.fz (.lst l))) = some l := rfl
@[simp] theorem listO_fz (l : List D) : listO (some (.fz (.lst l))) st = .ok l st := rfl
@[simp] theorem lenO_fz (l : List D) : lenO (some (.fz (.lst l))) st = .ok (.int l.length) st := rfl
@[simp] theorem dgO_fz (l : D) (y : D) : dgO (some (.fz l)) y = none := rfl
@[simp] theorem sub2_fz (l : List D) (i : Int) : sub2 (some (.fz (.lst l))) (.int i) st = atR (atI l i) id st := rfl
def itRef (o : Option O) (st : Store) : Res (List D) := match o with
  | some (.fz (.lst l)) => .ok l st
  | _ => .bad
@[simp] theorem itRef_fz (l : List D) : itRef (some (.fz (.lst l))) st = .ok l st := rfl
@[simp] theorem itAny_ref (k : Nat) : itAny (.ref k) st = itRef st[k]? st := by
  unfold itAny itRef
  dsimp only
  all_goals
    generalize st[k]? = o
    cases o with
    | none => rfl
    | some o => cases o with
      | fz d => cases d <;> rfl
      | _ => rfl
@[simp] theorem itEnum_ref (k : Nat) : itEnum [.ref k] st = (itRef st[k]? st).bd fun l st => .ok (enumL 0 l) st := by
  unfold itEnum itRef
  dsimp only
  all_goals
    generalize st[k]? = o
    cases o with
    | none => rfl
    | some o => cases o with
      | fz d => cases d <;> rfl
      | _ => rfl
/-- in -/
@[simp] theorem flat_str (x : Str) : flat (.str x) = true := rfl
@[simp] theorem flat_int (x : Int) : flat (.int x) = true := rfl
@[simp] theorem eqF_ss (x y : Str) : eqF (.str x) (.str y) = decide (x = y) := rfl
@[simp] theorem eqF_ii (x y : Int) : eqF (.int x) (.int y) = (x == y) := rfl
theorem inB_strs (x : Str) (l : List Str) : inB (.str x) (.lst (l.map .str)) st = some (decide (x ∈ l)) := by
  unfold inB
  simp only [dget_lst, asS, asL_lst, flat_str, Bool.true_and]
  have h : (l.map D.str).all flat = true := by simp
  rw [if_pos h]
  unfold inF
  congr 1
  rw [List.any_map, Bool.eq_iff_iff]
  simp
theorem inB_ktup (x : Str) (l : List Str) : inB (.str x) (.ktup l) st = some (decide (x ∈ l)) := by
  unfold inB
  simp only [dget_ktup, asS, flat_str, Bool.true_and]
  have h : (l.map D.str).all flat = true := by simp
  rw [if_pos h]
  unfold inF
  congr 1
  rw [List.any_map, Bool.eq_iff_iff]
  simp
theorem inB_tstrs (x : Str) (l : List Str) : inB (.str x) (.tup (l.map .str)) st = some (decide (x ∈ l)) := by
  unfold inB
  simp only [dget_tup, asS, flat_str, Bool.true_and]
  have h : (l.map D.str).all flat = true := by simp
  rw [if_pos h]
  unfold inF
  congr 1
  rw [List.any_map, Bool.eq_iff_iff]
  simp
def inR (o : Option Bool) (f : Bool → Bool) (st : Store) : Res D := match o with
  | some b => .ok (.bl (f b)) st
  | none => .bad
@[simp] theorem inR_some (b : Bool) (f : Bool → Bool) : inR (some b) f st = .ok (.bl (f b)) st := rfl
@[simp] theorem fIn_ap (x y : D) : fIn x y st = inR (inB x y st) id st := rfl
@[simp] theorem fNotIn_ap (x y : D) : fNotIn x y st = inR (inB x y st) (!·) st := rfl
theorem inB_refL (x : Str) (k : Nat) (l : List Str) (h : st[k]? = some (.lst (l.map .str))) : inB (.str x) (.ref k) st = some (decide (x ∈ l)) := by
  unfold inB
  simp only [dget_ref, h, dgO_lst, asS, asL_ref, lstO_lst, flat_str, Bool.true_and]
  have h : (l.map D.str).all flat = true := by simp
  rw [if_pos h]
  unfold inF
  congr 1
  rw [List.any_map, Bool.eq_iff_iff]
  simp
theorem inB_refK (x : Str) (k : Nat) (l : List (Key × D)) (h : st[k]? = some (.dK l)) : inB (.str x) (.ref k) st = some (look l (.inr x)).isSome := by
  unfold inB
  simp only [dget_ref, h, dgO_dKs]
/-! slices -/
@[simp] theorem fSl_tup (l : List D) (lo hi : Option Int) : fSl (.tup l) lo hi st = .ok (.tup (cut l lo hi)) st := rfl
@[simp] theorem fSl_lst (l : List D) (lo hi : Option Int) : fSl (.lst l) lo hi st = .ok (.lst (cut l lo hi)) st := rfl
@[simp] theorem fSl_str (l : Str) (lo hi : Option Int) : fSl (.str l) lo hi st = .ok (.str ⟨(cut l.cps.toList lo hi).toArray⟩) st := rfl
theorem cut_map {α β : Type} (f : α → β) (xs : List α) (lo hi : Option Int) : cut (xs.map f) lo hi = (cut xs lo hi).map f := by
  unfold cut; simp [List.map_drop, List.map_take]
theorem cut_mem {α : Type} {xs : List α} {lo hi : Option Int} {a : α} (h : a ∈ cut xs lo hi) : a ∈ xs := List.mem_of_mem_drop (List.mem_of_mem_take h)
theorem cut_len {α : Type} (xs : List α) (lo hi : Option Int) : (cut xs lo hi).length ≤ xs.length := by
  unfold cut; simp; omega
theorem cut_none_len {α : Type} (xs : List α) {i : Int} (h : 0 ≤ i) : (cut xs none (some i)).length = min i.toNat xs.length := by
  unfold cut sIx; dsimp only; rw [if_neg (by omega)]; simp
theorem cut_some_len {α : Type} (xs : List α) {i : Int} (h : 0 ≤ i) : (cut xs (some i) none).length = xs.length - i.toNat := by
  unfold cut sIx; dsimp only; rw [if_neg (by omega)]; simp; omega
theorem cut_take {α : Type} (xs : List α) {i : Int} (h : 0 ≤ i) : cut xs none (some i) = xs.take i.toNat := by
  unfold cut sIx; dsimp only; rw [if_neg (by omega)]; simp
theorem cut_drop {α : Type} (xs : List α) {i : Int} (h : 0 ≤ i) : cut xs (some i) none = xs.drop i.toNat := by
  unfold cut sIx; dsimp only; rw [if_neg (by omega)]
  by_cases q : i.toNat ≤ xs.length
  · rw [Nat.min_eq_left q, List.take_of_length_le]; simp
  · rw [Nat.min_eq_right (by omega), List.take_of_length_le (by simp)]
    rw [List.drop_eq_nil_of_le (by omega), List.drop_eq_nil_of_le (by omega)]
end
/-! dicts -/
section
variable {κ α : Type} [DecidableEq κ]
theorem put_dom (l : List (κ × α)) (k : κ) (v : α) : (put l k v).map (·.1) = if k ∈ l.map (·.1) then l.map (·.1) else l.map (·.1) ++ [k] := by
  unfold put
  by_cases h : (l.any fun kv => decide (kv.1 = k)) = true
  · rw [if_pos h]
    have hk : k ∈ l.map (·.1) := by
      obtain ⟨p, hp, hq⟩ := List.any_eq_true.mp h
      exact List.mem_map.mpr ⟨p, hp, of_decide_eq_true hq⟩
    rw [if_pos hk, List.map_map]
    refine List.map_congr_left fun p _ => ?_
    dsimp only [Function.comp]
    split <;> rfl
  · rw [if_neg h]
    have hk : ¬ k ∈ l.map (·.1) := fun hk => by
      obtain ⟨p, hp, hq⟩ := List.mem_map.mp hk
      exact h (List.any_eq_true.mpr ⟨p, hp, decide_eq_true hq⟩)
    rw [if_neg hk, List.map_append]; rfl
theorem put_mem (l : List (κ × α)) (k : κ) (v : α) (x : κ) : x ∈ (put l k v).map (·.1) ↔ x ∈ l.map (·.1) ∨ x = k := by
  rw [put_dom]
  split
  · rename_i h
    exact ⟨.inl, fun q => q.elim id fun e => e ▸ h⟩
  · simp
theorem put_nodup {l : List (κ × α)} (h : (l.map (·.1)).Nodup) (k : κ) (v : α) : ((put l k v).map (·.1)).Nodup := by
  rw [put_dom]
  split
  · exact h
  · rename_i hk
    rw [List.nodup_append]
    exact ⟨h, by simp, fun a ha b hb e => by simp at hb; subst hb; exact hk (e ▸ ha)⟩
theorem put_len (l : List (κ × α)) (k : κ) (v : α) : (put l k v).length ≤ l.length + 1 := by
  have := congrArg List.length (put_dom l k v)
  simp only [List.length_map] at this
  rw [this]
  split <;> simp
theorem look_some {l : List (κ × α)} {k : κ} : (look l k).isSome = true ↔ k ∈ l.map (·.1) := by
  unfold look
  simp only [Option.isSome_map, List.find?_isSome, List.mem_map]
  exact ⟨fun ⟨p, h1, h2⟩ => ⟨p, h1, of_decide_eq_true h2⟩, fun ⟨p, h1, h2⟩ => ⟨p, h1, decide_eq_true h2⟩⟩
theorem look_put_self (l : List (κ × α)) (k : κ) (v : α) : look (put l k v) k = some v := by
  unfold look put
  split
  · rename_i h
    induction l with
    | nil => simp at h
    | cons p l ih =>
      by_cases e : p.1 = k
      · simp [List.find?_cons, e]
      · simp only [List.map_cons, if_neg e, List.find?_cons, decide_eq_false e]
        refine ih ?_
        simpa [e] using h
  · rename_i h
    have : l.find? (fun kv => decide (kv.1 = k)) = none := by
      rw [List.find?_eq_none]
      intro p hp q
      exact h (List.any_eq_true.mpr ⟨p, hp, q⟩)
    rw [List.find?_append, this]
    simp
theorem look_put_ne (l : List (κ × α)) {k k' : κ} (v : α) (hk : k' ≠ k) : look (put l k v) k' = look l k' := by
  unfold look put
  split
  · congr 1
    rename_i hany; clear hany
    induction l with
    | nil => rfl
    | cons p l ih =>
      rw [List.map_cons, List.find?_cons, List.find?_cons]
      by_cases e : p.1 = k
      · rw [if_pos e]
        dsimp only
        rw [decide_eq_false (fun q => hk (q.symm.trans e))]
        exact ih
      · rw [if_neg e]
        cases decide (p.1 = k') with
        | true => rfl
        | false => exact ih
  · rw [List.find?_append]
    cases l.find? (fun kv => decide (kv.1 = k')) with
    | some p => rfl
    | none => simp [List.find?_cons, Ne.symm hk]
end
end Py
namespace Py
theorem whileL_nx {n0 k : Nat} {t : RT} {b : RS} {e e2 : Env} {st st1 st2 : Store} (ht : t e st = .ok true st1) (hb : b e st1 = .nx e2 st2) (hl : st2.length = n0) : whileL n0 t b (k + 1) e st = whileL n0 t b k e2 st2 := by
  rw [whileL, ht]; dsimp only; rw [hb]; dsimp only; unfold gc; rw [if_pos hl]
theorem whileL_rt {n0 k : Nat} {t : RT} {b : RS} {e : Env} {st st1 st2 : Store} {d : D} (ht : t e st = .ok true st1) (hb : b e st1 = .rt d st2) : whileL n0 t b (k + 1) e st = .rt d st2 := by
  rw [whileL, ht]; dsimp only; rw [hb]
theorem whileL_end {n0 k : Nat} {t : RT} {b : RS} {e : Env} {st st1 : Store} (ht : t e st = .ok false st1) (hl : st1.length = n0) : whileL n0 t b (k + 1) e st = .nx e st1 := by
  rw [whileL, ht]; dsimp only; rw [if_pos hl]
theorem fuel_gt {n : Nat} (h : n < 1000000000) : n < fuel := h
end Py

set_option linter.all false
set_option maxRecDepth 100000
namespace Py
open PySem

/- _law_cell_at(script, k)  slots: 0:script 1:k -/
def run_law_cell_at : RS :=
  sSeq (sIf (tVal (rBin fLt (rVar 1) (rCall fLen (aCons (rVar 0) (aNil)))))
  (sRet (rBin fSub2 (rVar 0) (rVar 1)))
  (sNx))
  (sSeq (sIf (tVal (rBin fEq (rVar 0) (rFrz (lDisp (aNil)))))
  (sRet (rC (.int 0)))
  (sNx))
  (sRet (rBin fAdd (rBin fMul (rBin fSub2 (rVar 0) (rBin fMod (rVar 1) (rCall fLen (aCons (rVar 0) (aNil))))) (rC (.int 31))) (rVar 1))))
def m_law_cell_at : List D → PRes := pureOf 2 2 run_law_cell_at

/- _law_mixed(script, k, many)  slots: 0:script 1:k 2:many 3:drawn -/
def run_law_mixed : RS :=
  sSeq (sSet 3 (rBin fMod (rBin fMul (rBin fAdd (rBin fAdd (rP m_law_cell_at (aCons (rVar 0) (aCons (rVar 1) (aNil)))) (rBin fMul (rC (.int 7919)) (rVar 1))) (rC (.int 1))) (rC (.int 48271))) (rC (.int 2147483647))))
  (sRet (rBin fMod (rBin fMod (rBin fAdd (rBin fAdd (rBin fMul (rVar 3) (rVar 3)) (rBin fMul (rC (.int 7)) (rVar 3))) (rVar 1)) (rC (.int 2147483629))) (rVar 2)))
def m_law_mixed : List D → PRes := pureOf 3 4 run_law_mixed

/- _law_sign(script, at)  slots: 0:script 1:at -/
def run_law_sign : RS :=
  sRet (rBin fSub2 (rC (.str "abcdefghijklmnopqrstuvwxyz")) (rP m_law_mixed (aCons (rVar 0) (aCons (rVar 1) (aCons (rC (.int 26)) (aNil))))))
def m_law_sign : List D → PRes := pureOf 2 2 run_law_sign

/- _law_fresh(script, at)  slots: 0:script 1:at 2:made 3:k -/
def lp_law_fresh_1 : RS :=
  sSet 2 (rBin fAdd (rVar 2) (rP m_law_sign (aCons (rVar 0) (aCons (rBin fAdd (rBin fAdd (rVar 1) (rC (.int 1))) (rVar 3)) (aNil)))))
def run_law_fresh : RS :=
  sSeq (sSet 2 (rC (.str "")))
  (sSeq (sFor (iRng1 (aCons (rBin fAdd (rC (.int 1)) (rP m_law_mixed (aCons (rVar 0) (aCons (rVar 1) (aCons (rC (.int 8)) (aNil)))))) (aNil))) (gName 3)
  (lp_law_fresh_1))
  (sRet (rVar 2)))
def m_law_fresh : List D → PRes := pureOf 2 4 run_law_fresh

/- _law_words(script, at, many)  slots: 0:script 1:at 2:many 3:made 4:k 5:here 6:last 7:way 8:place -/
def lp_law_words_1 : RS :=
  sSeq (sSet 5 (rBin fAdd (rVar 1) (rBin fMul (rC (.int 12)) (rVar 4))))
  (sSeq (sSet 6 (rBin fSub2 (rVar 3) (rUn fNeg (rC (.int 1)))))
  (sSeq (sSet 7 (rP m_law_mixed (aCons (rVar 0) (aCons (rBin fAdd (rVar 5) (rC (.int 10))) (aCons (rC (.int 4)) (aNil))))))
  (sIf (tVal (rBin fEq (rVar 7) (rC (.int 0))))
  (sExpr (rMeth isLst fAppend (rVar 3) (aCons (rP m_law_fresh (aCons (rVar 0) (aCons (rVar 5) (aNil)))) (aNil))))
  (sIf (tAnd (tVal (rBin fEq (rVar 7) (rC (.int 1)))) (tVal (rBin fLt (rCall fLen (aCons (rVar 6) (aNil))) (rC (.int 8)))))
  (sExpr (rMeth isLst fAppend (rVar 3) (aCons (rBin fAdd (rVar 6) (rP m_law_sign (aCons (rVar 0) (aCons (rVar 5) (aNil))))) (aNil))))
  (sSeq (sSet 8 (rP m_law_mixed (aCons (rVar 0) (aCons (rBin fAdd (rVar 5) (rC (.int 11))) (aCons (rCall fLen (aCons (rVar 6) (aNil))) (aNil))))))
  (sExpr (rMeth isLst fAppend (rVar 3) (aCons (rBin fAdd (rBin fAdd (rSl fSl (rVar 6) (oNone) (oSome (rVar 8))) (rP m_law_sign (aCons (rVar 0) (aCons (rVar 5) (aNil))))) (rSl fSl (rVar 6) (oSome (rBin fAdd (rVar 8) (rC (.int 1)))) (oNone))) (aNil)))))))))
def run_law_words : RS :=
  sSeq (sSet 3 (rNew (lDisp (aCons (rP m_law_fresh (aCons (rVar 0) (aCons (rVar 1) (aNil)))) (aNil)))))
  (sSeq (sFor (iRng2 (aCons (rC (.int 1)) (aCons (rVar 2) (aNil)))) (gName 4)
  (lp_law_words_1))
  (sRet (rVar 3)))
def m_law_words : List D → PRes := pureOf 3 9 run_law_words

/- _law_names(script, at)  slots: 0:script 1:at 2:words 3:word -/
def run_law_names : RS :=
  sSeq (sSet 2 (rP m_law_words (aCons (rVar 0) (aCons (rVar 1) (aCons (rC (.int 6)) (aNil))))))
  (sRet (rFrz (lCall fList (aCons (rCall fDict (aCons (rFrz (lComp [3] (iAny (rSl fSl (rVar 2) (oNone) (oSome (rBin fAdd (rC (.int 1)) (rP m_law_mixed (aCons (rVar 0) (aCons (rBin fAdd (rVar 1) (rC (.int 90))) (aCons (rC (.int 6)) (aNil))))))))) (gName 3) (tYes) (rTup (aCons (rVar 3) (aCons (rC (.bl true)) (aNil)))))) (aNil))) (aNil)))))
def m_law_names : List D → PRes := pureOf 2 4 run_law_names

/- _law_rows(made)  slots: 0:made 1:want -/
def run_law_rows : RS :=
  sRet (rCall fTuple (aCons (rFrz (lComp [1] (iAny (rFrz (lCall fSorted2 (aCons (rFrz (lCall fList (aCons (rVar 0) (aNil)))) (aNil))))) (gName 1) (tYes) (rTup (aCons (rVar 1) (aCons (rBin fSub2 (rVar 0) (rVar 1)) (aNil)))))) (aNil)))
def m_law_rows : List D → Store → Res D := stOf 1 2 run_law_rows

/- _law_loose_maker(script, at, words)  slots: 0:script 1:at 2:words 3:some 4:needs 5:turn 6:here 7:how 8:span -/
def lp_law_loose_maker_1 : RS :=
  sSeq (sSet 6 (rBin fAdd (rBin fAdd (rVar 1) (rC (.int 8))) (rBin fMul (rC (.int 5)) (rVar 5))))
  (sSeq (sSet 7 (rBin fSub2 (rFrz (lDisp (aCons (rC (.str "now")) (aCons (rC (.str "now")) (aCons (rC (.str "maybe")) (aCons (rC (.str "late")) (aNil))))))) (rP m_law_mixed (aCons (rVar 0) (aCons (rVar 6) (aCons (rC (.int 4)) (aNil)))))))
  (sExpr (rMeth isLst fAppend (rVar 4) (aCons (rTup (aCons (rVar 7) (aCons (rBin fSub2 (rVar 3) (rP m_law_mixed (aCons (rVar 0) (aCons (rBin fAdd (rVar 6) (rC (.int 1))) (aCons (rCall fLen (aCons (rVar 3) (aNil))) (aNil)))))) (aNil)))) (aNil)))))
def run_law_loose_maker : RS :=
  sSeq (sSet 3 (rBin fAdd (rVar 2) (rFrz (lDisp (aCons (rBin fAdd (rSl fSl (rBin fSub2 (rVar 2) (rC (.int 0))) (oNone) (oSome (rC (.int 7)))) (rC (.str "q"))) (aNil))))))
  (sSeq (sIf (tVal (rBin fEq (rP m_law_mixed (aCons (rVar 0) (aCons (rVar 1) (aCons (rC (.int 5)) (aNil))))) (rC (.int 0))))
  (sRet (rTup (aCons (rC (.str "as")) (aCons (rBin fSub2 (rVar 3) (rP m_law_mixed (aCons (rVar 0) (aCons (rBin fAdd (rVar 1) (rC (.int 1))) (aCons (rCall fLen (aCons (rVar 3) (aNil))) (aNil)))))) (aNil)))))
  (sNx))
  (sSeq (sSet 4 (rNew (lDisp (aNil))))
  (sSeq (sFor (iRng1 (aCons (rBin fSub2 (rFrz (lDisp (aCons (rC (.int 2)) (aCons (rC (.int 1)) (aCons (rC (.int 3)) (aCons (rC (.int 0)) (aCons (rC (.int 1)) (aNil)))))))) (rP m_law_mixed (aCons (rVar 0) (aCons (rBin fAdd (rVar 1) (rC (.int 2))) (aCons (rC (.int 5)) (aNil)))))) (aNil))) (gName 5)
  (lp_law_loose_maker_1))
  (sSeq (sSet 8 (rBin fSub2 (rFrz (lDisp (aCons (rC (.str "one")) (aCons (rC (.str "scope")) (aCons (rC (.str "each")) (aNil)))))) (rP m_law_mixed (aCons (rVar 0) (aCons (rBin fAdd (rVar 1) (rC (.int 3))) (aCons (rC (.int 3)) (aNil)))))))
  (sRet (rTup (aCons (rC (.str "made")) (aCons (rCall fTuple (aCons (rVar 4) (aNil))) (aCons (rVar 8) (aCons (rBin fEq (rP m_law_mixed (aCons (rVar 0) (aCons (rBin fAdd (rVar 1) (rC (.int 4))) (aCons (rC (.int 2)) (aNil))))) (rC (.int 0))) (aCons (rP m_law_mixed (aCons (rVar 0) (aCons (rBin fAdd (rVar 1) (rC (.int 5))) (aCons (rC (.int 4)) (aNil))))) (aNil))))))))))))
def m_law_loose_maker : List D → PRes := pureOf 3 9 run_law_loose_maker

/- _law_loose(script, at)  slots: 0:script 1:at 2:words 3:made 4:k 5:want -/
def lp_law_loose_1 : RS :=
  sDPut (rVar 3) (rVar 5) (rP m_law_loose_maker (aCons (rVar 0) (aCons (rBin fAdd (rBin fAdd (rVar 1) (rC (.int 100))) (rBin fMul (rC (.int 30)) (rVar 4))) (aCons (rVar 2) (aNil)))))
def run_law_loose : RS :=
  sSeq (sSet 2 (rP m_law_names (aCons (rVar 0) (aCons (rVar 1) (aNil)))))
  (sSeq (sSet 3 (rDictK))
  (sSeq (sFor (iEnum (aCons (rVar 2) (aNil))) (gTup [gName 4, gName 5])
  (lp_law_loose_1))
  (sRet (rCall m_law_rows (aCons (rVar 3) (aNil))))))
def m_law_loose : List D → PRes := pureOf 2 6 run_law_loose

/- _law_sound_maker(script, at, words, k, breaks)  slots: 0:script 1:at 2:words 3:k 4:breaks 5:later 6:needs 7:turn 8:here 9:how 10:some 11:word 12:span -/
def lp_law_sound_maker_1 : RS :=
  sSeq (sSet 8 (rBin fAdd (rBin fAdd (rVar 1) (rC (.int 8))) (rBin fMul (rC (.int 5)) (rVar 7))))
  (sSeq (sSet 9 (rBin fSub2 (rFrz (lDisp (aCons (rC (.str "now")) (aCons (rC (.str "now")) (aCons (rC (.str "maybe")) (aCons (rC (.str "late")) (aNil))))))) (rP m_law_mixed (aCons (rVar 0) (aCons (rVar 8) (aCons (rC (.int 4)) (aNil)))))))
  (sSeq (sSet 10 (rVar 5))
  (sSeq (sIf (tVal (rBin fEq (rVar 9) (rC (.str "late"))))
  (sSet 10 (rVar 2))
  (sNx))
  (sSeq (sIf (tAnd (tVal (rBin fEq (rVar 9) (rC (.str "maybe")))) (tVal (rBin fEq (rP m_law_mixed (aCons (rVar 0) (aCons (rBin fAdd (rVar 8) (rC (.int 1))) (aCons (rC (.int 3)) (aNil))))) (rC (.int 0)))))
  (sSet 10 (rFrz (lComp [11] (iAny (rFrz (lDisp (aCons (rBin fAdd (rSl fSl (rBin fSub2 (rVar 2) (rC (.int 0))) (oNone) (oSome (rC (.int 7)))) (rC (.str "q"))) (aCons (rBin fAdd (rBin fSub2 (rVar 2) (rUn fNeg (rC (.int 1)))) (rC (.str "x"))) (aNil)))))) (gName 11) (tAnd (tVal (rBin fNotIn (rVar 11) (rVar 2))) (tVal (rBin fLt (rCall fLen (aCons (rVar 11) (aNil))) (rC (.int 9))))) (rVar 11))))
  (sNx))
  (sIf (tVal (rBin fNe (rVar 10) (rFrz (lDisp (aNil)))))
  (sExpr (rMeth isLst fAppend (rVar 6) (aCons (rTup (aCons (rVar 9) (aCons (rBin fSub2 (rVar 10) (rP m_law_mixed (aCons (rVar 0) (aCons (rBin fAdd (rVar 8) (rC (.int 2))) (aCons (rCall fLen (aCons (rVar 10) (aNil))) (aNil)))))) (aNil)))) (aNil))))
  (sNx))))))
def run_law_sound_maker : RS :=
  sSeq (sSet 5 (rSl fSl (rVar 2) (oSome (rBin fAdd (rVar 3) (rC (.int 1)))) (oNone)))
  (sSeq (sIf (tAnd (tVal (rBin fNe (rVar 5) (rFrz (lDisp (aNil))))) (tVal (rBin fEq (rP m_law_mixed (aCons (rVar 0) (aCons (rVar 1) (aCons (rC (.int 6)) (aNil))))) (rC (.int 0)))))
  (sRet (rTup (aCons (rC (.str "as")) (aCons (rBin fSub2 (rVar 5) (rP m_law_mixed (aCons (rVar 0) (aCons (rBin fAdd (rVar 1) (rC (.int 1))) (aCons (rCall fLen (aCons (rVar 5) (aNil))) (aNil)))))) (aNil)))))
  (sNx))
  (sSeq (sSet 6 (rNew (lDisp (aNil))))
  (sSeq (sFor (iRng1 (aCons (rBin fSub2 (rFrz (lDisp (aCons (rC (.int 2)) (aCons (rC (.int 1)) (aCons (rC (.int 3)) (aCons (rC (.int 0)) (aCons (rC (.int 2)) (aNil)))))))) (rP m_law_mixed (aCons (rVar 0) (aCons (rBin fAdd (rVar 1) (rC (.int 2))) (aCons (rC (.int 5)) (aNil)))))) (aNil))) (gName 7)
  (lp_law_sound_maker_1))
  (sSeq (sSet 12 (rBin fSub2 (rFrz (lDisp (aCons (rC (.str "one")) (aCons (rC (.str "scope")) (aCons (rC (.str "each")) (aNil)))))) (rP m_law_mixed (aCons (rVar 0) (aCons (rBin fAdd (rVar 1) (rC (.int 3))) (aCons (rC (.int 3)) (aNil)))))))
  (sRet (rTup (aCons (rC (.str "made")) (aCons (rCall fTuple (aCons (rVar 6) (aNil))) (aCons (rVar 12) (aCons (rBin fGt (rP m_law_mixed (aCons (rVar 0) (aCons (rBin fAdd (rVar 1) (rC (.int 4))) (aCons (rC (.int 3)) (aNil))))) (rC (.int 0))) (aCons (rP m_law_mixed (aCons (rVar 0) (aCons (rBin fAdd (rVar 1) (rC (.int 5))) (aCons (rVar 4) (aNil))))) (aNil))))))))))))
def m_law_sound_maker : List D → PRes := pureOf 5 13 run_law_sound_maker

/- _law_made(books)  slots: 0:books 1:want 2:maker -/
def run_law_made : RS :=
  sRet (rFrz (lComp [1, 2] (iAny (rVar 0)) (gTup [gName 1, gName 2]) (tVal (rBin fEq (rBin fSub2 (rVar 2) (rC (.int 0))) (rC (.str "made")))) (rVar 1)))
def m_law_made : List D → PRes := pureOf 1 3 run_law_made

/- _law_maker(books, want)  slots: 0:books 1:want 2:found 3:one 4:maker -/
def run_law_maker : RS :=
  sSeq (sSet 2 (rFrz (lComp [3, 4] (iAny (rVar 0)) (gTup [gName 3, gName 4]) (tVal (rBin fEq (rVar 3) (rVar 1))) (rVar 4))))
  (sRet (rBin fSub2 (rBin fAdd (rVar 2) (rFrz (lDisp (aCons (rC .non) (aNil))))) (rC (.int 0))))
def m_law_maker : List D → PRes := pureOf 2 5 run_law_maker

/- _law_stands(books, want)  slots: 0:books 1:want 2:turn 3:maker -/
def lp_law_stands_1 : RS :=
  sSeq (sSet 3 (rP m_law_maker (aCons (rVar 0) (aCons (rVar 1) (aNil)))))
  (sSeq (sIf (tVal (rUn fIsN (rVar 3)))
  (sRet (rC .non))
  (sNx))
  (sSeq (sIf (tVal (rBin fEq (rBin fSub2 (rVar 3) (rC (.int 0))) (rC (.str "made"))))
  (sRet (rVar 1))
  (sNx))
  (sSet 1 (rBin fSub2 (rVar 3) (rC (.int 1))))))
def run_law_stands : RS :=
  sSeq (sFor (iRng1 (aCons (rC (.int 7)) (aNil))) (gName 2)
  (lp_law_stands_1))
  (sRet (rC .non))
def m_law_stands : List D → PRes := pureOf 2 4 run_law_stands

/- _law_holds(books, want)  slots: 0:books 1:want 2:found 3:how 4:other -/
def run_law_holds : RS :=
  sSeq (sSet 2 (rFrz (lComp [3, 4] (iAny (rBin fSub2 (rP m_law_maker (aCons (rVar 0) (aCons (rVar 1) (aNil)))) (rC (.int 1)))) (gTup [gName 3, gName 4]) (tVal (rBin fNe (rVar 3) (rC (.str "late")))) (rP m_law_stands (aCons (rVar 0) (aCons (rVar 4) (aNil)))))))
  (sRet (rFrz (lComp [4] (iAny (rVar 2)) (gName 4) (tVal (rUn fNotN (rVar 4))) (rVar 4))))
def m_law_holds : List D → PRes := pureOf 2 5 run_law_holds

/- _law_captive(books)  slots: 0:books 1:found 2:want 3:near 4:other 5:turn 6:third -/
def lp_law_captive_1 : RS :=
  sDPut (rVar 3) (rVar 6) (rC (.bl true))
def lp_law_captive_2 : RS :=
  sIf (tVal (rBin fEq (rBin fSub2 (rP m_law_maker (aCons (rVar 0) (aCons (rVar 4) (aNil)))) (rC (.int 2))) (rC (.str "each"))))
  (sFor (iAny (rP m_law_holds (aCons (rVar 0) (aCons (rVar 4) (aNil))))) (gName 6)
  (lp_law_captive_1))
  (sNx)
def lp_law_captive_3 : RS :=
  sFor (iAny (rFrz (lCall fList (aCons (rVar 3) (aNil))))) (gName 4)
  (lp_law_captive_2)
def lp_law_captive_4 : RS :=
  sSeq (sSet 3 (rCall fDict (aCons (rFrz (lComp [4] (iAny (rP m_law_holds (aCons (rVar 0) (aCons (rVar 2) (aNil))))) (gName 4) (tYes) (rTup (aCons (rVar 4) (aCons (rC (.bl true)) (aNil)))))) (aNil))))
  (sSeq (sFor (iRng1 (aCons (rC (.int 6)) (aNil))) (gName 5)
  (lp_law_captive_3))
  (sIf (tVal (rBin fEq (rBin fSub2 (rP m_law_maker (aCons (rVar 0) (aCons (rVar 2) (aNil)))) (rC (.int 2))) (rC (.str "one"))))
  (sExpr (rMeth isLst fExtend (rVar 1) (aCons (rFrz (lComp [4] (iAny (rFrz (lCall fSorted2 (aCons (rFrz (lCall fList (aCons (rVar 3) (aNil)))) (aNil))))) (gName 4) (tVal (rBin fEq (rBin fSub2 (rP m_law_maker (aCons (rVar 0) (aCons (rVar 4) (aNil)))) (rC (.int 2))) (rC (.str "scope")))) (rTup (aCons (rVar 2) (aCons (rVar 4) (aNil)))))) (aNil))))
  (sNx)))
def run_law_captive : RS :=
  sSeq (sSet 1 (rNew (lDisp (aNil))))
  (sSeq (sFor (iAny (rP m_law_made (aCons (rVar 0) (aNil)))) (gName 2)
  (lp_law_captive_4))
  (sRet (rVar 1)))
def m_law_captive : List D → PRes := pureOf 1 7 run_law_captive

/- _law_with_spans(books, wants, span)  slots: 0:books 1:wants 2:span 3:rows 4:want 5:maker -/
def lp_law_with_spans_1 : RS :=
  sSeq (sIf (tVal (rBin fIn (rVar 4) (rVar 1)))
  (sSet 5 (rBin fAdd (rBin fAdd (rSl fSl (rVar 5) (oNone) (oSome (rC (.int 2)))) (rTup (aCons (rVar 2) (aNil)))) (rSl fSl (rVar 5) (oSome (rC (.int 3))) (oNone))))
  (sNx))
  (sExpr (rMeth isLst fAppend (rVar 3) (aCons (rTup (aCons (rVar 4) (aCons (rVar 5) (aNil)))) (aNil))))
def run_law_with_spans : RS :=
  sSeq (sSet 3 (rNew (lDisp (aNil))))
  (sSeq (sFor (iAny (rVar 0)) (gTup [gName 4, gName 5])
  (lp_law_with_spans_1))
  (sRet (rCall fTuple (aCons (rVar 3) (aNil)))))
def m_law_with_spans : List D → PRes := pureOf 3 6 run_law_with_spans

/- _law_sound(script, at, breaks)  slots: 0:script 1:at 2:breaks 3:words 4:made 5:k 6:want 7:books 8:one 9:other -/
def lp_law_sound_1 : RS :=
  sDPut (rVar 4) (rVar 6) (rP m_law_sound_maker (aCons (rVar 0) (aCons (rBin fAdd (rBin fAdd (rVar 1) (rC (.int 100))) (rBin fMul (rC (.int 30)) (rVar 5))) (aCons (rVar 3) (aCons (rVar 5) (aCons (rVar 2) (aNil)))))))
def lp_law_sound_2 : RS :=
  sSet 7 (rP m_law_with_spans (aCons (rVar 7) (aCons (rFrz (lComp [8, 9] (iAny (rP m_law_captive (aCons (rVar 7) (aNil)))) (gTup [gName 8, gName 9]) (tYes) (rVar 8))) (aCons (rC (.str "scope")) (aNil)))))
def run_law_sound : RS :=
  sSeq (sSet 3 (rP m_law_names (aCons (rVar 0) (aCons (rVar 1) (aNil)))))
  (sSeq (sSet 4 (rDictK))
  (sSeq (sFor (iEnum (aCons (rVar 3) (aNil))) (gTup [gName 5, gName 6])
  (lp_law_sound_1))
  (sSeq (sSet 7 (rCall m_law_rows (aCons (rVar 4) (aNil))))
  (sSeq (sWhile (tVal (rBin fNe (rP m_law_captive (aCons (rVar 7) (aNil))) (rFrz (lDisp (aNil)))))
  (lp_law_sound_2))
  (sRet (rVar 7))))))
def m_law_sound : List D → PRes := pureOf 3 10 run_law_sound

/- _law_case(script, at)  slots: 0:script 1:at -/
def run_law_case : RS :=
  sSeq (sIf (tVal (rBin fEq (rP m_law_mixed (aCons (rVar 0) (aCons (rVar 1) (aCons (rC (.int 3)) (aNil))))) (rC (.int 0))))
  (sRet (rP m_law_sound (aCons (rVar 0) (aCons (rBin fAdd (rVar 1) (rC (.int 1))) (aCons (rC (.int 4)) (aNil))))))
  (sNx))
  (sRet (rP m_law_loose (aCons (rVar 0) (aCons (rBin fAdd (rVar 1) (rC (.int 1))) (aNil)))))
def m_law_case : List D → PRes := pureOf 2 2 run_law_case

/- is_want(thing)  slots: 0:thing 1:sign -/
def run_is_want : RS :=
  sSeq (sIf (tOr (tNot (tVal (rCall fIsi (aCons (rVar 0) (aCons (rC (.ty "str")) (aNil)))))) (tNot (tVal (rChain fLe fLe (rC (.int 1)) (rCall fLen (aCons (rVar 0) (aNil))) (rC (.int 8))))))
  (sRet (rC (.bl false)))
  (sNx))
  (sRet (rCall fAll (aCons (rFrz (lComp [1] (iAny (rVar 0)) (gName 1) (tYes) (rBin fIn (rVar 1) (rC (.str "abcdefghijklmnopqrstuvwxyz"))))) (aNil))))
def m_is_want : List D → PRes := pureOf 1 2 run_is_want

/- is_between(thing, low, most)  slots: 0:thing 1:low 2:most -/
def run_is_between : RS :=
  sRet (rAndV (rCall fIsi (aCons (rVar 0) (aCons (rC (.ty "int")) (aNil)))) (rAndV (rNotV (rCall fIsi (aCons (rVar 0) (aCons (rC (.ty "bool")) (aNil))))) (rChain fLe fLe (rVar 1) (rVar 0) (rVar 2))))
def m_is_between : List D → PRes := pureOf 3 3 run_is_between

/- is_one_of(thing, words)  slots: 0:thing 1:words -/
def run_is_one_of : RS :=
  sRet (rAndV (rCall fIsi (aCons (rVar 0) (aCons (rC (.ty "str")) (aNil)))) (rBin fIn (rVar 0) (rVar 1)))
def m_is_one_of : List D → PRes := pureOf 2 2 run_is_one_of

/- is_need(thing)  slots: 0:thing -/
def run_is_need : RS :=
  sRet (rAndV (rCall fIsi (aCons (rVar 0) (aCons (rC (.ty "tuple")) (aNil)))) (rAndV (rBin fEq (rCall fLen (aCons (rVar 0) (aNil))) (rC (.int 2))) (rAndV (rP m_is_one_of (aCons (rBin fSub2 (rVar 0) (rC (.int 0))) (aCons (rC (.ktup ["now", "late", "maybe"])) (aNil)))) (rP m_is_want (aCons (rBin fSub2 (rVar 0) (rC (.int 1))) (aNil))))))
def m_is_need : List D → PRes := pureOf 1 1 run_is_need

/- is_maker(thing)  slots: 0:thing 1:need -/
def run_is_maker : RS :=
  sSeq (sIf (tOr (tNot (tVal (rCall fIsi (aCons (rVar 0) (aCons (rC (.ty "tuple")) (aNil)))))) (tOr (tVal (rBin fEq (rCall fLen (aCons (rVar 0) (aNil))) (rC (.int 0)))) (tNot (tVal (rP m_is_one_of (aCons (rBin fSub2 (rVar 0) (rC (.int 0))) (aCons (rTup (aCons (rC (.str "as")) (aCons (rC (.str "made")) (aNil)))) (aNil))))))))
  (sRet (rC (.bl false)))
  (sNx))
  (sSeq (sIf (tVal (rBin fEq (rBin fSub2 (rVar 0) (rC (.int 0))) (rC (.str "as"))))
  (sRet (rAndV (rBin fEq (rCall fLen (aCons (rVar 0) (aNil))) (rC (.int 2))) (rP m_is_want (aCons (rBin fSub2 (rVar 0) (rC (.int 1))) (aNil)))))
  (sNx))
  (sSeq (sIf (tOr (tVal (rBin fNe (rCall fLen (aCons (rVar 0) (aNil))) (rC (.int 5)))) (tOr (tNot (tVal (rCall fIsi (aCons (rBin fSub2 (rVar 0) (rC (.int 1))) (aCons (rC (.ty "tuple")) (aNil)))))) (tVal (rBin fGt (rCall fLen (aCons (rBin fSub2 (rVar 0) (rC (.int 1))) (aNil))) (rC (.int 3))))))
  (sRet (rC (.bl false)))
  (sNx))
  (sSeq (sIf (tOr (tNot (tVal (rCall fAll (aCons (rFrz (lComp [1] (iAny (rBin fSub2 (rVar 0) (rC (.int 1)))) (gName 1) (tYes) (rP m_is_need (aCons (rVar 1) (aNil))))) (aNil))))) (tNot (tVal (rP m_is_one_of (aCons (rBin fSub2 (rVar 0) (rC (.int 2))) (aCons (rC (.ktup ["one", "scope", "each"])) (aNil)))))))
  (sRet (rC (.bl false)))
  (sNx))
  (sRet (rAndV (rCall fIsi (aCons (rBin fSub2 (rVar 0) (rC (.int 3))) (aCons (rC (.ty "bool")) (aNil)))) (rP m_is_between (aCons (rBin fSub2 (rVar 0) (rC (.int 4))) (aCons (rC (.int 0)) (aCons (rC (.int 3)) (aNil))))))))))
def m_is_maker : List D → PRes := pureOf 1 2 run_is_maker

/- is_row(thing)  slots: 0:thing -/
def run_is_row : RS :=
  sRet (rAndV (rCall fIsi (aCons (rVar 0) (aCons (rC (.ty "tuple")) (aNil)))) (rAndV (rBin fEq (rCall fLen (aCons (rVar 0) (aNil))) (rC (.int 2))) (rAndV (rP m_is_want (aCons (rBin fSub2 (rVar 0) (rC (.int 0))) (aNil))) (rP m_is_maker (aCons (rBin fSub2 (rVar 0) (rC (.int 1))) (aNil))))))
def m_is_row : List D → PRes := pureOf 1 1 run_is_row

/- are_books(thing)  slots: 0:thing 1:row 2:k -/
def run_are_books : RS :=
  sSeq (sIf (tOr (tNot (tVal (rCall fIsi (aCons (rVar 0) (aCons (rC (.ty "tuple")) (aNil)))))) (tOr (tVal (rBin fGt (rCall fLen (aCons (rVar 0) (aNil))) (rC (.int 6)))) (tNot (tVal (rCall fAll (aCons (rFrz (lComp [1] (iAny (rVar 0)) (gName 1) (tYes) (rP m_is_row (aCons (rVar 1) (aNil))))) (aNil)))))))
  (sRet (rC (.bl false)))
  (sNx))
  (sRet (rCall fAll (aCons (rFrz (lComp [2] (iRng1 (aCons (rBin fSub (rCall fLen (aCons (rVar 0) (aNil))) (rC (.int 1))) (aNil))) (gName 2) (tYes) (rBin fLt (rBin fSub2 (rBin fSub2 (rVar 0) (rVar 2)) (rC (.int 0))) (rBin fSub2 (rBin fSub2 (rVar 0) (rBin fAdd (rVar 2) (rC (.int 1)))) (rC (.int 0)))))) (aNil))))
def m_are_books : List D → PRes := pureOf 1 3 run_are_books

/- checked(books)  slots: 0:books -/
def run_checked : RS :=
  sSeq (sIf (tNot (tVal (rP m_are_books (aCons (rVar 0) (aNil)))))
  (sRaise "NoBooks")
  (sNx))
  (sRet (rVar 0))
def m_checked : List D → PRes := pureOf 1 1 run_checked

/- maker_in(books, want)  slots: 0:books 1:want 2:one 3:maker -/
def lp_maker_in_1 : RS :=
  sIf (tVal (rBin fEq (rVar 2) (rVar 1)))
  (sRet (rVar 3))
  (sNx)
def run_maker_in : RS :=
  sSeq (sFor (iAny (rVar 0)) (gTup [gName 2, gName 3])
  (lp_maker_in_1))
  (sRet (rC .non))
def m_maker_in : List D → PRes := pureOf 2 4 run_maker_in

/- stands(books, want)  slots: 0:books 1:want 2:met 3:maker -/
def lp_stands_1 : RS :=
  sSeq (sExpr (rMeth isLst fAppend (rVar 2) (aCons (rVar 1) (aNil))))
  (sSeq (sSet 3 (rP m_maker_in (aCons (rVar 0) (aCons (rVar 1) (aNil)))))
  (sSeq (sIf (tVal (rUn fIsN (rVar 3)))
  (sRet (rC .non))
  (sNx))
  (sSeq (sIf (tVal (rBin fEq (rBin fSub2 (rVar 3) (rC (.int 0))) (rC (.str "made"))))
  (sRet (rVar 1))
  (sNx))
  (sSet 1 (rBin fSub2 (rVar 3) (rC (.int 1)))))))
def run_stands : RS :=
  sSeq (sSet 2 (rNew (lDisp (aNil))))
  (sSeq (sWhile (tVal (rBin fNotIn (rVar 1) (rVar 2)))
  (lp_stands_1))
  (sRet (rC .non)))
def m_stands : List D → PRes := pureOf 2 4 run_stands

/- missing_in(books)  slots: 0:books 1:found 2:want 3:maker 4:how 5:other -/
def lp_missing_in_1 : RS :=
  sIf (tAnd (tVal (rBin fNe (rVar 4) (rC (.str "maybe")))) (tVal (rUn fIsN (rP m_stands (aCons (rVar 0) (aCons (rVar 5) (aNil)))))))
  (sDPut (rVar 1) (rTup (aCons (rVar 2) (aCons (rVar 5) (aNil)))) (rC (.bl true)))
  (sNx)
def lp_missing_in_2 : RS :=
  sSeq (sIf (tAnd (tVal (rBin fEq (rBin fSub2 (rVar 3) (rC (.int 0))) (rC (.str "as")))) (tVal (rUn fIsN (rP m_stands (aCons (rVar 0) (aCons (rVar 2) (aNil)))))))
  (sDPut (rVar 1) (rTup (aCons (rVar 2) (aCons (rBin fSub2 (rVar 3) (rC (.int 1))) (aNil)))) (rC (.bl true)))
  (sNx))
  (sIf (tVal (rBin fEq (rBin fSub2 (rVar 3) (rC (.int 0))) (rC (.str "made"))))
  (sFor (iAny (rBin fSub2 (rVar 3) (rC (.int 1)))) (gTup [gName 4, gName 5])
  (lp_missing_in_1))
  (sNx))
def run_missing_in : RS :=
  sSeq (sSet 1 (rDictT))
  (sSeq (sFor (iAny (rVar 0)) (gTup [gName 2, gName 3])
  (lp_missing_in_2))
  (sRet (rFrz (lCall fSorted2 (aCons (rFrz (lCall fList (aCons (rVar 1) (aNil)))) (aNil))))))
def m_missing_in : List D → PRes := pureOf 1 6 run_missing_in

/- missing(books)  slots: 0:books -/
def run_missing : RS :=
  sSeq (sExpr (rP m_checked (aCons (rVar 0) (aNil))))
  (sRet (rP m_missing_in (aCons (rVar 0) (aNil))))
def m_missing : List D → PRes := pureOf 1 1 run_missing

/- law(script)  slots: 0:script 1:books 2:due 3:want 4:maker 5:rows 6:need 7:how 8:other -/
def lp_law_k04_1 : RS :=
  sIf (tVal (rUn fIsN (rP m_law_stands (aCons (rVar 1) (aCons (rVar 8) (aNil))))))
  (sDPut (rVar 2) (rTup (aCons (rVar 3) (aCons (rVar 8) (aNil)))) (rC (.bl true)))
  (sNx)
def lp_law_k04_2 : RS :=
  sSeq (sSet 5 (rFrz (lDisp (aCons (rTup (aCons (rC (.str "now")) (aCons (rBin fSub2 (rVar 4) (rC (.int 1))) (aNil)))) (aNil)))))
  (sSeq (sIf (tVal (rBin fEq (rBin fSub2 (rVar 4) (rC (.int 0))) (rC (.str "made"))))
  (sSet 5 (rFrz (lComp [6] (iAny (rBin fSub2 (rVar 4) (rC (.int 1)))) (gName 6) (tVal (rBin fNe (rBin fSub2 (rVar 6) (rC (.int 0))) (rC (.str "maybe")))) (rVar 6))))
  (sNx))
  (sFor (iAny (rVar 5)) (gTup [gName 7, gName 8])
  (lp_law_k04_1)))
def run_law_k04 : RS :=
  sSeq (sSet 1 (rP m_law_case (aCons (rVar 0) (aCons (rC (.int 20)) (aNil)))))
  (sSeq (sSet 2 (rDictT))
  (sSeq (sFor (iAny (rVar 1)) (gTup [gName 3, gName 4])
  (lp_law_k04_2))
  (sRet (rBin fEq (rP m_missing (aCons (rVar 1) (aNil))) (rFrz (lCall fSorted2 (aCons (rFrz (lCall fList (aCons (rVar 2) (aNil)))) (aNil))))))))
def m_law_k04 : List D → PRes := pureOf 1 9 run_law_k04

/- made_wants(books)  slots: 0:books 1:want 2:maker -/
def run_made_wants : RS :=
  sRet (rFrz (lComp [1, 2] (iAny (rVar 0)) (gTup [gName 1, gName 2]) (tVal (rBin fEq (rBin fSub2 (rVar 2) (rC (.int 0))) (rC (.str "made")))) (rVar 1)))
def m_made_wants : List D → PRes := pureOf 1 3 run_made_wants

/- needs_in(books, want)  slots: 0:books 1:want -/
def run_needs_in : RS :=
  sRet (rBin fSub2 (rP m_maker_in (aCons (rVar 0) (aCons (rVar 1) (aNil)))) (rC (.int 1)))
def m_needs_in : List D → PRes := pureOf 2 2 run_needs_in

/- held_in(books, want)  slots: 0:books 1:want 2:found 3:how 4:other -/
def run_held_in : RS :=
  sSeq (sSet 2 (rFrz (lComp [3, 4] (iAny (rP m_needs_in (aCons (rVar 0) (aCons (rVar 1) (aNil))))) (gTup [gName 3, gName 4]) (tVal (rBin fNe (rVar 3) (rC (.str "late")))) (rP m_stands (aCons (rVar 0) (aCons (rVar 4) (aNil)))))))
  (sRet (rFrz (lComp [4] (iAny (rVar 2)) (gName 4) (tVal (rUn fNotN (rVar 4))) (rVar 4))))
def m_held_in : List D → PRes := pureOf 2 5 run_held_in

/- parted(books)  slots: 0:books 1:row 2:left 3:moved 4:ready 5:want 6:other -/
def lp_parted_1 : RS :=
  sSeq (sSet 4 (rFrz (lComp [5] (iAny (rVar 2)) (gName 5) (tVal (rCall fAll (aCons (rFrz (lComp [6] (iAny (rP m_held_in (aCons (rVar 0) (aCons (rVar 5) (aNil))))) (gName 6) (tYes) (rBin fIn (rVar 6) (rVar 1)))) (aNil)))) (rVar 5))))
  (sSeq (sExpr (rMeth isLst fExtend (rVar 1) (aCons (rVar 4) (aNil))))
  (sSeq (sSet 2 (rFrz (lComp [5] (iAny (rVar 2)) (gName 5) (tVal (rBin fNotIn (rVar 5) (rVar 4))) (rVar 5))))
  (sSet 3 (rBin fNe (rVar 4) (rFrz (lDisp (aNil)))))))
def run_parted : RS :=
  sSeq (sSet 1 (rNew (lDisp (aNil))))
  (sSeq (sSet 2 (rP m_made_wants (aCons (rVar 0) (aNil))))
  (sSeq (sSet 3 (rC (.bl true)))
  (sSeq (sWhile (tVal (rVar 3))
  (lp_parted_1))
  (sRet (rTup (aCons (rVar 1) (aCons (rVar 2) (aNil))))))))
def m_parted : List D → PRes := pureOf 1 7 run_parted

/- ring(books)  slots: 0:books 1:left 2:row 3:onward 4:other -/
def lp_ring_1 : RS :=
  sSeq (sSet 3 (rBin fSub2 (rFrz (lComp [4] (iAny (rP m_held_in (aCons (rVar 0) (aCons (rBin fSub2 (rVar 2) (rUn fNeg (rC (.int 1)))) (aNil))))) (gName 4) (tVal (rBin fIn (rVar 4) (rVar 1))) (rVar 4))) (rC (.int 0))))
  (sSeq (sIf (tVal (rBin fIn (rVar 3) (rVar 2)))
  (sRet (rSl fSl (rVar 2) (oSome (rMeth isLst fIndex (rVar 2) (aCons (rVar 3) (aNil)))) (oNone)))
  (sNx))
  (sExpr (rMeth isLst fAppend (rVar 2) (aCons (rVar 3) (aNil)))))
def run_ring : RS :=
  sSeq (sExpr (rP m_checked (aCons (rVar 0) (aNil))))
  (sSeq (sSet 1 (rBin fSub2 (rP m_parted (aCons (rVar 0) (aNil))) (rC (.int 1))))
  (sSeq (sIf (tVal (rBin fEq (rVar 1) (rFrz (lDisp (aNil)))))
  (sRet (rC .non))
  (sNx))
  (sSeq (sSet 2 (rNew (lDisp (aCons (rBin fSub2 (rVar 1) (rC (.int 0))) (aNil)))))
  (sWhile (tVal (rC (.bl true)))
  (lp_ring_1)))))
def m_ring : List D → PRes := pureOf 1 5 run_ring

/- order(books)  slots: 0:books 1:row 2:left -/
def run_order : RS :=
  sSeq (sExpr (rP m_checked (aCons (rVar 0) (aNil))))
  (sSeq (sTgt (gTup [gName 1, gName 2]) (rP m_parted (aCons (rVar 0) (aNil))))
  (sSeq (sIf (tVal (rBin fNe (rVar 2) (rFrz (lDisp (aNil)))))
  (sRet (rC .non))
  (sNx))
  (sRet (rVar 1))))
def m_order : List D → PRes := pureOf 1 3 run_order

/- law(script)  slots: 0:script 1:books 2:names 3:loop 4:row 5:k 6:want 7:other -/
def lp_law_k05_1 : RS :=
  sIf (tNot (tVal (rCall fAll (aCons (rFrz (lComp [7] (iAny (rP m_law_holds (aCons (rVar 1) (aCons (rVar 6) (aNil))))) (gName 7) (tYes) (rBin fIn (rVar 7) (rSl fSl (rVar 4) (oNone) (oSome (rVar 5)))))) (aNil)))))
  (sRet (rC (.bl false)))
  (sNx)
def lp_law_k05_2 : RS :=
  sIf (tVal (rBin fNotIn (rBin fSub2 (rVar 3) (rBin fMod (rBin fAdd (rVar 5) (rC (.int 1))) (rCall fLen (aCons (rVar 3) (aNil))))) (rP m_law_holds (aCons (rVar 1) (aCons (rVar 6) (aNil))))))
  (sRet (rC (.bl false)))
  (sNx)
def run_law_k05 : RS :=
  sSeq (sSet 1 (rP m_law_case (aCons (rVar 0) (aCons (rC (.int 20)) (aNil)))))
  (sSeq (sSet 2 (rP m_law_made (aCons (rVar 1) (aNil))))
  (sSeq (sSet 3 (rP m_ring (aCons (rVar 1) (aNil))))
  (sSeq (sSet 4 (rP m_order (aCons (rVar 1) (aNil))))
  (sSeq (sIf (tVal (rUn fIsN (rVar 3)))
  (sSeq (sIf (tOr (tNot (tVal (rCall fIsi (aCons (rVar 4) (aCons (rC (.ty "list")) (aNil)))))) (tVal (rBin fNe (rFrz (lCall fSorted2 (aCons (rVar 4) (aNil)))) (rVar 2))))
  (sRet (rC (.bl false)))
  (sNx))
  (sSeq (sFor (iEnum (aCons (rVar 4) (aNil))) (gTup [gName 5, gName 6])
  (lp_law_k05_1))
  (sRet (rC (.bl true)))))
  (sNx))
  (sSeq (sIf (tOr (tVal (rUn fNotN (rVar 4))) (tOr (tNot (tVal (rCall fIsi (aCons (rVar 3) (aCons (rC (.ty "list")) (aNil)))))) (tOr (tVal (rBin fEq (rVar 3) (rFrz (lDisp (aNil))))) (tVal (rBin fNe (rUn fLenSet (rVar 3)) (rCall fLen (aCons (rVar 3) (aNil))))))))
  (sRet (rC (.bl false)))
  (sNx))
  (sSeq (sIf (tNot (tVal (rCall fAll (aCons (rFrz (lComp [6] (iAny (rVar 3)) (gName 6) (tYes) (rBin fIn (rVar 6) (rVar 2)))) (aNil)))))
  (sRet (rC (.bl false)))
  (sNx))
  (sSeq (sFor (iEnum (aCons (rVar 3) (aNil))) (gTup [gName 5, gName 6])
  (lp_law_k05_2))
  (sRet (rC (.bl true))))))))))
def m_law_k05 : List D → PRes := pureOf 1 8 run_law_k05

/- span_in(books, want)  slots: 0:books 1:want -/
def run_span_in : RS :=
  sRet (rBin fSub2 (rP m_maker_in (aCons (rVar 0) (aCons (rVar 1) (aNil)))) (rC (.int 2)))
def m_span_in : List D → PRes := pureOf 2 2 run_span_in

/- short_held(books, want)  slots: 0:books 1:want 2:met 3:row 4:found 5:other -/
def lp_short_held_1 : RS :=
  sSeq (sIf (tVal (rBin fEq (rP m_span_in (aCons (rVar 0) (aCons (rVar 5) (aNil)))) (rC (.str "scope"))))
  (sDPut (rVar 4) (rVar 5) (rC (.bl true)))
  (sNx))
  (sIf (tAnd (tVal (rBin fEq (rP m_span_in (aCons (rVar 0) (aCons (rVar 5) (aNil)))) (rC (.str "each")))) (tVal (rBin fNotIn (rVar 5) (rVar 2))))
  (sSeq (sDPut (rVar 2) (rVar 5) (rC (.bl true)))
  (sExpr (rMeth isLst fAppend (rVar 3) (aCons (rVar 5) (aNil)))))
  (sNx))
def lp_short_held_2 : RS :=
  sFor (iAny (rP m_held_in (aCons (rVar 0) (aCons (rMeth isLst fPop (rVar 3) aNil) (aNil))))) (gName 5)
  (lp_short_held_1)
def run_short_held : RS :=
  sSeq (sSet 2 (rDictK))
  (sSeq (sSet 3 (rNew (lDisp (aCons (rVar 1) (aNil)))))
  (sSeq (sSet 4 (rDictK))
  (sSeq (sWhile (tVal (rBin fNe (rVar 3) (rFrz (lDisp (aNil)))))
  (lp_short_held_2))
  (sRet (rFrz (lCall fSorted2 (aCons (rFrz (lCall fList (aCons (rVar 4) (aNil)))) (aNil))))))))
def m_short_held : List D → PRes := pureOf 2 6 run_short_held

/- captive_in(books)  slots: 0:books 1:found 2:want 3:other -/
def lp_captive_in_1 : RS :=
  sIf (tVal (rBin fEq (rP m_span_in (aCons (rVar 0) (aCons (rVar 2) (aNil)))) (rC (.str "one"))))
  (sExpr (rMeth isLst fExtend (rVar 1) (aCons (rFrz (lComp [3] (iAny (rP m_short_held (aCons (rVar 0) (aCons (rVar 2) (aNil))))) (gName 3) (tYes) (rTup (aCons (rVar 2) (aCons (rVar 3) (aNil)))))) (aNil))))
  (sNx)
def run_captive_in : RS :=
  sSeq (sSet 1 (rNew (lDisp (aNil))))
  (sSeq (sFor (iAny (rP m_made_wants (aCons (rVar 0) (aNil)))) (gName 2)
  (lp_captive_in_1))
  (sRet (rVar 1)))
def m_captive_in : List D → PRes := pureOf 1 4 run_captive_in

/- sound(books)  slots: 0:books -/
def run_sound : RS :=
  sRet (rAndV (rBin fEq (rP m_missing_in (aCons (rVar 0) (aNil))) (rFrz (lDisp (aNil)))) (rAndV (rBin fEq (rBin fSub2 (rP m_parted (aCons (rVar 0) (aNil))) (rC (.int 1))) (rFrz (lDisp (aNil)))) (rBin fEq (rP m_captive_in (aCons (rVar 0) (aNil))) (rFrz (lDisp (aNil))))))
def m_sound : List D → PRes := pureOf 1 1 run_sound

/- is_sound(books)  slots: 0:books -/
def run_is_sound : RS :=
  sSeq (sExpr (rP m_checked (aCons (rVar 0) (aNil))))
  (sRet (rP m_sound (aCons (rVar 0) (aNil))))
def m_is_sound : List D → PRes := pureOf 1 1 run_is_sound

/- captive(books)  slots: 0:books -/
def run_captive : RS :=
  sSeq (sExpr (rP m_checked (aCons (rVar 0) (aNil))))
  (sRet (rP m_captive_in (aCons (rVar 0) (aNil))))
def m_captive : List D → PRes := pureOf 1 1 run_captive

/- law(script)  slots: 0:script 1:books 2:due 3:answer -/
def run_law_k06 : RS :=
  sSeq (sSet 1 (rP m_law_case (aCons (rVar 0) (aCons (rC (.int 20)) (aNil)))))
  (sSeq (sSet 2 (rP m_law_captive (aCons (rVar 1) (aNil))))
  (sSeq (sIf (tVal (rBin fNe (rP m_captive (aCons (rVar 1) (aNil))) (rVar 2)))
  (sRet (rC (.bl false)))
  (sNx))
  (sSeq (sSet 3 (rP m_is_sound (aCons (rVar 1) (aNil))))
  (sRet (rAndV (rCall fIsi (aCons (rVar 3) (aCons (rC (.ty "bool")) (aNil)))) (rBin fEq (rVar 3) (rAndV (rBin fEq (rVar 2) (rFrz (lDisp (aNil)))) (rAndV (rBin fEq (rP m_missing (aCons (rVar 1) (aNil))) (rFrz (lDisp (aNil)))) (rUn fIsN (rP m_ring (aCons (rVar 1) (aNil))))))))))))
def m_law_k06 : List D → PRes := pureOf 1 4 run_law_k06

/- with_span(books, wants, span)  slots: 0:books 1:wants 2:span 3:rows 4:want 5:maker -/
def lp_with_span_1 : RS :=
  sSeq (sIf (tVal (rBin fIn (rVar 4) (rVar 1)))
  (sSet 5 (rBin fAdd (rBin fAdd (rSl fSl (rVar 5) (oNone) (oSome (rC (.int 2)))) (rTup (aCons (rVar 2) (aNil)))) (rSl fSl (rVar 5) (oSome (rC (.int 3))) (oNone))))
  (sNx))
  (sExpr (rMeth isLst fAppend (rVar 3) (aCons (rTup (aCons (rVar 4) (aCons (rVar 5) (aNil)))) (aNil))))
def run_with_span : RS :=
  sSeq (sSet 3 (rNew (lDisp (aNil))))
  (sSeq (sFor (iAny (rVar 0)) (gTup [gName 4, gName 5])
  (lp_with_span_1))
  (sRet (rCall fTuple (aCons (rVar 3) (aNil)))))
def m_with_span : List D → PRes := pureOf 3 6 run_with_span

/- mended(books)  slots: 0:books 1:one 2:other -/
def lp_mended_1 : RS :=
  sSet 0 (rP m_with_span (aCons (rVar 0) (aCons (rFrz (lComp [1, 2] (iAny (rP m_captive_in (aCons (rVar 0) (aNil)))) (gTup [gName 1, gName 2]) (tYes) (rVar 1))) (aCons (rC (.str "scope")) (aNil)))))
def run_mended : RS :=
  sSeq (sExpr (rP m_checked (aCons (rVar 0) (aNil))))
  (sSeq (sWhile (tVal (rBin fNe (rP m_captive_in (aCons (rVar 0) (aNil))) (rFrz (lDisp (aNil)))))
  (lp_mended_1))
  (sRet (rVar 0)))
def m_mended : List D → PRes := pureOf 1 3 run_mended

/- law(script)  slots: 0:script 1:books 2:answer 3:ones 4:want 5:turned 6:cell 7:some 8:k -/
def lp_law_k07_1 : RS :=
  sSeq (sSet 7 (rFrz (lComp [8, 4] (iEnum (aCons (rVar 3) (aNil))) (gTup [gName 8, gName 4]) (tVal (rBin fEq (rBin fMod (rBin fDiv (rVar 6) (rBin fSub2 (rFrz (lDisp (aCons (rC (.int 1)) (aCons (rC (.int 2)) (aCons (rC (.int 4)) (aCons (rC (.int 8)) (aCons (rC (.int 16)) (aCons (rC (.int 32)) (aNil))))))))) (rVar 8))) (rC (.int 2))) (rC (.int 1)))) (rVar 4))))
  (sIf (tAnd (tNot (tVal (rCall fAll (aCons (rFrz (lComp [4] (iAny (rVar 5)) (gName 4) (tYes) (rBin fIn (rVar 4) (rVar 7)))) (aNil))))) (tVal (rBin fEq (rP m_law_captive (aCons (rP m_law_with_spans (aCons (rVar 1) (aCons (rVar 7) (aCons (rC (.str "scope")) (aNil))))) (aNil))) (rFrz (lDisp (aNil))))))
  (sRet (rC (.bl false)))
  (sNx))
def run_law_k07 : RS :=
  sSeq (sSet 1 (rP m_law_case (aCons (rVar 0) (aCons (rC (.int 20)) (aNil)))))
  (sSeq (sSet 2 (rP m_mended (aCons (rVar 1) (aNil))))
  (sSeq (sSet 3 (rFrz (lComp [4] (iAny (rP m_law_made (aCons (rVar 1) (aNil)))) (gName 4) (tVal (rBin fEq (rBin fSub2 (rP m_law_maker (aCons (rVar 1) (aCons (rVar 4) (aNil)))) (rC (.int 2))) (rC (.str "one")))) (rVar 4))))
  (sSeq (sSet 5 (rFrz (lComp [4] (iAny (rVar 3)) (gName 4) (tVal (rBin fEq (rBin fSub2 (rP m_law_maker (aCons (rVar 2) (aCons (rVar 4) (aNil)))) (rC (.int 2))) (rC (.str "scope")))) (rVar 4))))
  (sSeq (sIf (tOr (tVal (rBin fNe (rVar 2) (rP m_law_with_spans (aCons (rVar 1) (aCons (rVar 5) (aCons (rC (.str "scope")) (aNil))))))) (tVal (rBin fNe (rP m_captive (aCons (rVar 2) (aNil))) (rFrz (lDisp (aNil))))))
  (sRet (rC (.bl false)))
  (sNx))
  (sSeq (sFor (iRng1 (aCons (rBin fSub2 (rFrz (lDisp (aCons (rC (.int 1)) (aCons (rC (.int 2)) (aCons (rC (.int 4)) (aCons (rC (.int 8)) (aCons (rC (.int 16)) (aCons (rC (.int 32)) (aCons (rC (.int 64)) (aNil)))))))))) (rCall fLen (aCons (rVar 3) (aNil)))) (aNil))) (gName 6)
  (lp_law_k07_1))
  (sRet (rC (.bl true))))))))
def m_law_k07 : List D → PRes := pureOf 1 9 run_law_k07

/- choices(places)  slots: 0:places 1:made 2:one 3:k 4:other -/
def lp_choices_1 : RS :=
  sExpr (rMeth isLst fExtend (rVar 1) (aCons (rFrz (lComp [4] (iAny (rSl fSl (rVar 0) (oSome (rBin fAdd (rVar 3) (rC (.int 1)))) (oNone))) (gName 4) (tYes) (rTup (aCons (rVar 2) (aCons (rVar 4) (aNil)))))) (aNil)))
def run_choices : RS :=
  sSeq (sSet 1 (rNew (lDisp (aCons (rTup (aNil)) (aNil)))))
  (sSeq (sExpr (rMeth isLst fExtend (rVar 1) (aCons (rFrz (lComp [2] (iAny (rVar 0)) (gName 2) (tYes) (rTup (aCons (rVar 2) (aNil))))) (aNil))))
  (sSeq (sFor (iEnum (aCons (rVar 0) (aNil))) (gTup [gName 3, gName 2])
  (lp_choices_1))
  (sRet (rVar 1))))
def m_choices : List D → PRes := pureOf 1 5 run_choices

/- places_of(books)  slots: 0:books 1:found 2:want 3:place 4:need -/
def lp_places_of_1 : RS :=
  sExpr (rMeth isLst fExtend (rVar 1) (aCons (rFrz (lComp [3, 4] (iEnum (aCons (rP m_needs_in (aCons (rVar 0) (aCons (rVar 2) (aNil)))) (aNil))) (gTup [gName 3, gName 4]) (tVal (rBin fNe (rBin fSub2 (rVar 4) (rC (.int 0))) (rC (.str "late")))) (rTup (aCons (rVar 2) (aCons (rVar 3) (aNil)))))) (aNil)))
def run_places_of : RS :=
  sSeq (sSet 1 (rNew (lDisp (aNil))))
  (sSeq (sFor (iAny (rP m_made_wants (aCons (rVar 0) (aNil)))) (gName 2)
  (lp_places_of_1))
  (sRet (rVar 1)))
def m_places_of : List D → PRes := pureOf 1 5 run_places_of

/- with_late(books, places)  slots: 0:books 1:places 2:rows 3:want 4:maker 5:needs 6:place 7:how 8:other -/
def lp_with_late_1 : RS :=
  sSeq (sIf (tVal (rBin fIn (rTup (aCons (rVar 3) (aCons (rVar 6) (aNil)))) (rVar 1)))
  (sSet 7 (rC (.str "late")))
  (sNx))
  (sExpr (rMeth isLst fAppend (rVar 5) (aCons (rTup (aCons (rVar 7) (aCons (rVar 8) (aNil)))) (aNil))))
def lp_with_late_2 : RS :=
  sSeq (sIf (tVal (rBin fEq (rBin fSub2 (rVar 4) (rC (.int 0))) (rC (.str "made"))))
  (sSeq (sSet 5 (rNew (lDisp (aNil))))
  (sSeq (sFor (iEnum (aCons (rBin fSub2 (rVar 4) (rC (.int 1))) (aNil))) (gTup [gName 6, gTup [gName 7, gName 8]])
  (lp_with_late_1))
  (sSet 4 (rBin fAdd (rTup (aCons (rC (.str "made")) (aCons (rCall fTuple (aCons (rVar 5) (aNil))) (aNil)))) (rSl fSl (rVar 4) (oSome (rC (.int 2))) (oNone))))))
  (sNx))
  (sExpr (rMeth isLst fAppend (rVar 2) (aCons (rTup (aCons (rVar 3) (aCons (rVar 4) (aNil)))) (aNil))))
def run_with_late : RS :=
  sSeq (sSet 2 (rNew (lDisp (aNil))))
  (sSeq (sFor (iAny (rVar 0)) (gTup [gName 3, gName 4])
  (lp_with_late_2))
  (sRet (rCall fTuple (aCons (rVar 2) (aNil)))))
def m_with_late : List D → PRes := pureOf 2 9 run_with_late

/- loosened(books)  slots: 0:books 1:some -/
def lp_loosened_1 : RS :=
  sIf (tVal (rBin fEq (rBin fSub2 (rP m_parted (aCons (rP m_with_late (aCons (rVar 0) (aCons (rVar 1) (aNil)))) (aNil))) (rC (.int 1))) (rFrz (lDisp (aNil)))))
  (sRet (rVar 1))
  (sNx)
def run_loosened : RS :=
  sSeq (sExpr (rP m_checked (aCons (rVar 0) (aNil))))
  (sSeq (sFor (iAny (rP m_choices (aCons (rP m_places_of (aCons (rVar 0) (aNil))) (aNil)))) (gName 1)
  (lp_loosened_1))
  (sRet (rC .non)))
def m_loosened : List D → PRes := pureOf 1 2 run_loosened

/- late_at(books, places)  slots: 0:books 1:places -/
def run_late_at : RS :=
  sSeq (sExpr (rP m_checked (aCons (rVar 0) (aNil))))
  (sRet (rP m_with_late (aCons (rVar 0) (aCons (rVar 1) (aNil)))))
def m_late_at : List D → PRes := pureOf 2 2 run_late_at

/- _law_late(books, places)  slots: 0:books 1:places 2:rows 3:want 4:maker 5:needs 6:k 7:need -/
def lp_law_late_1 : RS :=
  sExpr (rMeth isLst fAppend (rVar 5) (aCons (rBin fSub2 (rFrz (lDisp (aCons (rVar 7) (aCons (rTup (aCons (rC (.str "late")) (aCons (rBin fSub2 (rVar 7) (rC (.int 1))) (aNil)))) (aNil))))) (rCall fInt (aCons (rBin fIn (rTup (aCons (rVar 3) (aCons (rVar 6) (aNil)))) (rVar 1)) (aNil)))) (aNil)))
def lp_law_late_2 : RS :=
  sSeq (sIf (tVal (rBin fEq (rBin fSub2 (rVar 4) (rC (.int 0))) (rC (.str "made"))))
  (sSeq (sSet 5 (rNew (lDisp (aNil))))
  (sSeq (sFor (iEnum (aCons (rBin fSub2 (rVar 4) (rC (.int 1))) (aNil))) (gTup [gName 6, gName 7])
  (lp_law_late_1))
  (sSet 4 (rBin fAdd (rTup (aCons (rC (.str "made")) (aCons (rCall fTuple (aCons (rVar 5) (aNil))) (aNil)))) (rSl fSl (rVar 4) (oSome (rC (.int 2))) (oNone))))))
  (sNx))
  (sExpr (rMeth isLst fAppend (rVar 2) (aCons (rTup (aCons (rVar 3) (aCons (rVar 4) (aNil)))) (aNil))))
def run_law_late : RS :=
  sSeq (sSet 2 (rNew (lDisp (aNil))))
  (sSeq (sFor (iAny (rVar 0)) (gTup [gName 3, gName 4])
  (lp_law_late_2))
  (sRet (rCall fTuple (aCons (rVar 2) (aNil)))))
def m_law_late : List D → PRes := pureOf 2 8 run_law_late

/- _law_ringed(books)  slots: 0:books 1:left 2:turn 3:want 4:other -/
def lp_law_ringed_1 : RS :=
  sSet 1 (rFrz (lComp [3] (iAny (rVar 1)) (gName 3) (tVal (rCall fAny (aCons (rFrz (lComp [4] (iAny (rP m_law_holds (aCons (rVar 0) (aCons (rVar 3) (aNil))))) (gName 4) (tYes) (rBin fIn (rVar 4) (rVar 1)))) (aNil)))) (rVar 3)))
def run_law_ringed : RS :=
  sSeq (sSet 1 (rP m_law_made (aCons (rVar 0) (aNil))))
  (sSeq (sFor (iRng1 (aCons (rC (.int 6)) (aNil))) (gName 2)
  (lp_law_ringed_1))
  (sRet (rBin fNe (rVar 1) (rFrz (lDisp (aNil))))))
def m_law_ringed : List D → PRes := pureOf 1 5 run_law_ringed

/- law(script)  slots: 0:script 1:books 2:places 3:want 4:k 5:need 6:some 7:one 8:other 9:fit 10:row 11:answer -/
def lp_law_k08_1 : RS :=
  sIf (tVal (rBin fNe (rBin fSub2 (rVar 5) (rC (.int 0))) (rC (.str "late"))))
  (sExpr (rMeth isLst fAppend (rVar 2) (aCons (rTup (aCons (rVar 3) (aCons (rVar 4) (aNil)))) (aNil))))
  (sNx)
def lp_law_k08_2 : RS :=
  sFor (iEnum (aCons (rBin fSub2 (rP m_law_maker (aCons (rVar 1) (aCons (rVar 3) (aNil)))) (rC (.int 1))) (aNil))) (gTup [gName 4, gName 5])
  (lp_law_k08_1)
def lp_law_k08_3 : RS :=
  sExpr (rMeth isLst fExtend (rVar 6) (aCons (rFrz (lComp [8] (iAny (rSl fSl (rVar 2) (oSome (rBin fAdd (rVar 4) (rC (.int 1)))) (oNone))) (gName 8) (tYes) (rTup (aCons (rVar 7) (aCons (rVar 8) (aNil)))))) (aNil)))
def run_law_k08 : RS :=
  sSeq (sSet 1 (rP m_law_case (aCons (rVar 0) (aCons (rC (.int 20)) (aNil)))))
  (sSeq (sSet 2 (rNew (lDisp (aNil))))
  (sSeq (sFor (iAny (rP m_law_made (aCons (rVar 1) (aNil)))) (gName 3)
  (lp_law_k08_2))
  (sSeq (sFz 2)
  (sSeq (sSet 6 (rNew (lBin fCat (rFrz (lDisp (aCons (rTup (aNil)) (aNil)))) (rFrz (lComp [7] (iAny (rVar 2)) (gName 7) (tYes) (rTup (aCons (rVar 7) (aNil))))))))
  (sSeq (sFor (iEnum (aCons (rVar 2) (aNil))) (gTup [gName 4, gName 7])
  (lp_law_k08_3))
  (sSeq (sFz 6)
  (sSeq (sSet 9 (rFrz (lComp [10] (iAny (rVar 6)) (gName 10) (tNot (tVal (rP m_law_ringed (aCons (rP m_law_late (aCons (rVar 1) (aCons (rVar 10) (aNil)))) (aNil))))) (rVar 10))))
  (sSeq (sSet 11 (rP m_loosened (aCons (rVar 1) (aNil))))
  (sSeq (sIf (tVal (rBin fNe (rVar 11) (rBin fSub2 (rBin fAdd (rVar 9) (rFrz (lDisp (aCons (rC .non) (aNil))))) (rC (.int 0)))))
  (sRet (rC (.bl false)))
  (sNx))
  (sSeq (sSet 10 (rBin fSub2 (rVar 6) (rP m_law_mixed (aCons (rVar 0) (aCons (rC (.int 0)) (aCons (rCall fLen (aCons (rVar 6) (aNil))) (aNil)))))))
  (sRet (rBin fEq (rP m_late_at (aCons (rVar 1) (aCons (rVar 10) (aNil)))) (rP m_law_late (aCons (rVar 1) (aCons (rVar 10) (aNil))))))))))))))))
def m_law_k08 : List D → PRes := pureOf 1 12 run_law_k08

/- plain(books)  slots: 0:books 1:rows 2:want 3:maker 4:needs 5:how 6:other -/
def lp_plain_1 : RS :=
  sSeq (sSet 3 (rP m_maker_in (aCons (rVar 0) (aCons (rVar 2) (aNil)))))
  (sSeq (sSet 4 (rFrz (lComp [5, 6] (iAny (rBin fSub2 (rVar 3) (rC (.int 1)))) (gTup [gName 5, gName 6]) (tYes) (rTup (aCons (rVar 5) (aCons (rOrT (rP m_stands (aCons (rVar 0) (aCons (rVar 6) (aNil)))) (rVar 6)) (aNil)))))))
  (sExpr (rMeth isLst fAppend (rVar 1) (aCons (rTup (aCons (rVar 2) (aCons (rBin fAdd (rTup (aCons (rC (.str "made")) (aCons (rCall fTuple (aCons (rVar 4) (aNil))) (aNil)))) (rSl fSl (rVar 3) (oSome (rC (.int 2))) (oNone))) (aNil)))) (aNil)))))
def run_plain : RS :=
  sSeq (sExpr (rP m_checked (aCons (rVar 0) (aNil))))
  (sSeq (sSet 1 (rNew (lDisp (aNil))))
  (sSeq (sFor (iAny (rP m_made_wants (aCons (rVar 0) (aNil)))) (gName 2)
  (lp_plain_1))
  (sRet (rCall fTuple (aCons (rVar 1) (aNil))))))
def m_plain : List D → PRes := pureOf 1 7 run_plain

/- _law_which(e)  slots: 0:e 1:own -/
def run_law_which (a : Nat) (C : Str) : RS :=
  sSeq (sSet 1 (rNew (lDisp (aCons (rCall (fIsE a C) (aCons (rVar 0) (aCons (rC (.glo "NoWant")) (aNil)))) (aCons (rCall (fIsE a C) (aCons (rVar 0) (aCons (rC (.glo "NoMaker")) (aNil)))) (aCons (rCall (fIsE a C) (aCons (rVar 0) (aCons (rC (.glo "NoBooks")) (aNil)))) (aCons (rCall (fIsE a C) (aCons (rVar 0) (aCons (rC (.glo "TooBig")) (aNil)))) (aNil))))))))
  (sSeq (sExpr (rMeth isLst fExtend (rVar 1) (aCons (rFrz (lDisp (aCons (rCall (fIsE a C) (aCons (rVar 0) (aCons (rC (.glo "Missing")) (aNil)))) (aCons (rCall (fIsE a C) (aCons (rVar 0) (aCons (rC (.glo "Unsound")) (aNil)))) (aCons (rCall (fIsE a C) (aCons (rVar 0) (aCons (rC (.glo "NoScope")) (aNil)))) (aCons (rCall (fIsE a C) (aCons (rVar 0) (aCons (rC (.glo "Shut")) (aNil)))) (aNil))))))) (aNil))))
  (sSeq (sExpr (rMeth isLst fExtend (rVar 1) (aCons (rFrz (lDisp (aCons (rCall (fIsE a C) (aCons (rVar 0) (aCons (rC (.glo "NoThing")) (aNil)))) (aCons (rCall (fIsE a C) (aCons (rVar 0) (aCons (rC (.glo "Gone")) (aNil)))) (aCons (rCall (fIsE a C) (aCons (rVar 0) (aCons (rC (.glo "NoNeed")) (aNil)))) (aCons (rCall (fIsE a C) (aCons (rVar 0) (aCons (rC (.glo "NoText")) (aNil)))) (aNil))))))) (aNil))))
  (sSeq (sIf (tOr (tVal (rBin fNe (rMeth isLst fCount (rVar 1) (aCons (rC (.bl true)) (aNil))) (rC (.int 1)))) (tNot (tVal (rCall (fIsE a C) (aCons (rVar 0) (aCons (rC (.ty "ValueError")) (aNil)))))))
  (sRet (rTup (aCons (rC (.str "refused")) (aCons (rUn fNeg (rC (.int 1))) (aNil)))))
  (sNx))
  (sRet (rTup (aCons (rC (.str "refused")) (aCons (rMeth isLst fIndex (rVar 1) (aCons (rC (.bl true)) (aNil))) (aNil))))))))
def m_law_which (a : Nat) (C : Str) : List D → PRes := pureOf 1 2 (run_law_which a C)

/- _law_told(ask, thing)  slots: 0:ask 1:thing 2:e -/
def tab_law_told_k03 : Str → Option (List D → PRes) := fun f => if f = "plain" then some m_plain else none
def run_law_told_k03 : RS :=
  sTold 2 (rLoc 0 tab_law_told_k03 (aCons (rVar 1) (aNil)))
def m_law_told_k03 : List D → PRes := pureOf 2 3 run_law_told_k03

/- need_want(want)  slots: 0:want -/
def run_need_want : RS :=
  sIf (tNot (tVal (rP m_is_want (aCons (rVar 0) (aNil)))))
  (sRaise "NoWant")
  (sNx)
def m_need_want : List D → PRes := pureOf 1 1 run_need_want

/- stands_for(books, want)  slots: 0:books 1:want -/
def run_stands_for : RS :=
  sSeq (sExpr (rP m_checked (aCons (rVar 0) (aNil))))
  (sSeq (sExpr (rP m_need_want (aCons (rVar 1) (aNil))))
  (sRet (rP m_stands (aCons (rVar 0) (aCons (rVar 1) (aNil))))))
def m_stands_for : List D → PRes := pureOf 2 2 run_stands_for

/- _law_told_two(ask, one, other)  slots: 0:ask 1:one 2:other 3:e -/
def tab_law_told_two_k03 : Str → Option (List D → PRes) := fun f => if f = "stands_for" then some m_stands_for else none
def run_law_told_two_k03 : RS :=
  sTold 3 (rLoc 0 tab_law_told_two_k03 (aCons (rVar 1) (aCons (rVar 2) (aNil))))
def m_law_told_two_k03 : List D → PRes := pureOf 3 4 run_law_told_two_k03

/- _law_bad_word(script, at, word)  slots: 0:script 1:at 2:word 3:place 4:sign -/
def run_law_bad_word : RS :=
  sSeq (sSet 3 (rP m_law_mixed (aCons (rVar 0) (aCons (rVar 1) (aCons (rBin fAdd (rCall fLen (aCons (rVar 2) (aNil))) (rC (.int 1))) (aNil))))))
  (sSeq (sSet 4 (rBin fSub2 (rC (.str "A0@ ;-Z_")) (rP m_law_mixed (aCons (rVar 0) (aCons (rBin fAdd (rVar 1) (rC (.int 1))) (aCons (rC (.int 8)) (aNil)))))))
  (sRet (rBin fSub2 (rFrz (lDisp (aCons (rC (.str "")) (aCons (rSl fSl (rBin fMul2 (rVar 2) (rC (.int 9))) (oNone) (oSome (rC (.int 9)))) (aCons (rBin fAdd (rBin fAdd (rSl fSl (rVar 2) (oNone) (oSome (rVar 3))) (rVar 4)) (rSl fSl (rVar 2) (oSome (rVar 3)) (oNone))) (aNil)))))) (rP m_law_mixed (aCons (rVar 0) (aCons (rBin fAdd (rVar 1) (rC (.int 2))) (aCons (rC (.int 3)) (aNil))))))))
def m_law_bad_word : List D → PRes := pureOf 3 5 run_law_bad_word

/- _law_bad_want(script, at, want)  slots: 0:script 1:at 2:want -/
def run_law_bad_want : RS :=
  sRet (rBin fSub2 (rFrz (lDisp (aCons (rP m_law_bad_word (aCons (rVar 0) (aCons (rBin fAdd (rVar 1) (rC (.int 1))) (aCons (rVar 2) (aNil))))) (aCons (rC .non) (aCons (rC (.int 7)) (aCons (rFrz (lDisp (aCons (rVar 2) (aNil)))) (aCons (rTup (aCons (rVar 2) (aNil))) (aNil)))))))) (rP m_law_mixed (aCons (rVar 0) (aCons (rVar 1) (aCons (rC (.int 5)) (aNil))))))
def m_law_bad_want : List D → PRes := pureOf 3 3 run_law_bad_want

/- law(script)  slots: 0:script 1:books 2:want 3:row 4:due 5:maker 6:needs 7:how 8:other -/
def lp_law_k03_1 : RS :=
  sIf (tVal (rBin fNe (rP m_law_told_two_k03 (aCons (rC (.glo "stands_for")) (aCons (rVar 1) (aCons (rVar 2) (aNil))))) (rP m_law_stands (aCons (rVar 1) (aCons (rVar 2) (aNil))))))
  (sRet (rC (.bl false)))
  (sNx)
def lp_law_k03_2 : RS :=
  sSeq (sSet 5 (rP m_law_maker (aCons (rVar 1) (aCons (rVar 2) (aNil)))))
  (sSeq (sSet 6 (rCall fTuple (aCons (rFrz (lComp [7, 8] (iAny (rBin fSub2 (rVar 5) (rC (.int 1)))) (gTup [gName 7, gName 8]) (tYes) (rTup (aCons (rVar 7) (aCons (rOrT (rP m_law_stands (aCons (rVar 1) (aCons (rVar 8) (aNil)))) (rVar 8)) (aNil)))))) (aNil))))
  (sExpr (rMeth isLst fAppend (rVar 4) (aCons (rTup (aCons (rVar 2) (aCons (rBin fAdd (rTup (aCons (rC (.str "made")) (aCons (rVar 6) (aNil)))) (rSl fSl (rVar 5) (oSome (rC (.int 2))) (oNone))) (aNil)))) (aNil)))))
def run_law_k03 : RS :=
  sSeq (sSet 1 (rP m_law_case (aCons (rVar 0) (aCons (rC (.int 20)) (aNil)))))
  (sSeq (sFor (iAny (rBin fAdd (rFrz (lComp [3] (iAny (rVar 1)) (gName 3) (tYes) (rBin fSub2 (rVar 3) (rC (.int 0))))) (rFrz (lDisp (aCons (rP m_law_fresh (aCons (rVar 0) (aCons (rC (.int 2)) (aNil)))) (aNil)))))) (gName 2)
  (lp_law_k03_1))
  (sSeq (sSet 4 (rNew (lDisp (aNil))))
  (sSeq (sFor (iAny (rP m_law_made (aCons (rVar 1) (aNil)))) (gName 2)
  (lp_law_k03_2))
  (sSeq (sIf (tVal (rBin fNe (rP m_law_told_k03 (aCons (rC (.glo "plain")) (aCons (rVar 1) (aNil)))) (rCall fTuple (aCons (rVar 4) (aNil)))))
  (sRet (rC (.bl false)))
  (sNx))
  (sRet (rBin fEq (rP m_law_told_two_k03 (aCons (rC (.glo "stands_for")) (aCons (rVar 1) (aCons (rP m_law_bad_want (aCons (rVar 0) (aCons (rC (.int 400)) (aCons (rBin fSub2 (rBin fSub2 (rVar 1) (rC (.int 0))) (rC (.int 0))) (aNil))))) (aNil))))) (rTup (aCons (rC (.str "refused")) (aCons (rC (.int 0)) (aNil))))))))))
def m_law_k03 : List D → PRes := pureOf 1 9 run_law_k03

/- reached(books, want)  slots: 0:books 1:want 2:met 3:row 4:one 5:maker 6:how 7:other -/
def lp_reached_1 : RS :=
  sSeq (sSet 4 (rMeth isLst fPop (rVar 3) aNil))
  (sSeq (sSet 5 (rP m_maker_in (aCons (rVar 0) (aCons (rVar 4) (aNil)))))
  (sIf (tAnd (tVal (rUn fNotN (rVar 5))) (tVal (rBin fNotIn (rVar 4) (rVar 2))))
  (sSeq (sDPut (rVar 2) (rVar 4) (rC (.bl true)))
  (sIf (tVal (rBin fEq (rBin fSub2 (rVar 5) (rC (.int 0))) (rC (.str "as"))))
  (sExpr (rMeth isLst fAppend (rVar 3) (aCons (rBin fSub2 (rVar 5) (rC (.int 1))) (aNil))))
  (sExpr (rMeth isLst fExtend (rVar 3) (aCons (rFrz (lComp [6, 7] (iAny (rP m_needs_in (aCons (rVar 0) (aCons (rVar 4) (aNil))))) (gTup [gName 6, gName 7]) (tYes) (rVar 7))) (aNil))))))
  (sNx)))
def run_reached : RS :=
  sSeq (sSet 2 (rDictK))
  (sSeq (sSet 3 (rNew (lDisp (aCons (rVar 1) (aNil)))))
  (sSeq (sWhile (tVal (rBin fNe (rVar 3) (rFrz (lDisp (aNil)))))
  (lp_reached_1))
  (sRet (rFrz (lCall fSorted2 (aCons (rFrz (lCall fList (aCons (rVar 2) (aNil)))) (aNil)))))))
def m_reached : List D → PRes := pureOf 2 8 run_reached

/- pruned(books, want)  slots: 0:books 1:want 2:some 3:row -/
def run_pruned : RS :=
  sSeq (sExpr (rP m_checked (aCons (rVar 0) (aNil))))
  (sSeq (sExpr (rP m_need_want (aCons (rVar 1) (aNil))))
  (sSeq (sSet 2 (rP m_reached (aCons (rVar 0) (aCons (rVar 1) (aNil)))))
  (sRet (rCall fTuple (aCons (rFrz (lComp [3] (iAny (rVar 0)) (gName 3) (tVal (rBin fIn (rBin fSub2 (rVar 3) (rC (.int 0))) (rVar 2))) (rVar 3))) (aNil))))))
def m_pruned : List D → PRes := pureOf 2 4 run_pruned

/- _law_told_two(ask, one, other)  slots: 0:ask 1:one 2:other 3:e -/
def tab_law_told_two_k09 : Str → Option (List D → PRes) := fun f => if f = "pruned" then some m_pruned else none
def run_law_told_two_k09 : RS :=
  sTold 3 (rLoc 0 tab_law_told_two_k09 (aCons (rVar 1) (aCons (rVar 2) (aNil))))
def m_law_told_two_k09 : List D → PRes := pureOf 3 4 run_law_told_two_k09

/- law(script)  slots: 0:script 1:books 2:want 3:near 4:turn 5:one 6:maker 7:how 8:other 9:due 10:row -/
def lp_law_k09_1 : RS :=
  sDPut (rVar 3) (rVar 8) (rC (.bl true))
def lp_law_k09_2 : RS :=
  sSeq (sSet 6 (rP m_law_maker (aCons (rVar 1) (aCons (rVar 5) (aNil)))))
  (sIf (tAnd (tVal (rUn fNotN (rVar 6))) (tVal (rBin fEq (rBin fSub2 (rVar 6) (rC (.int 0))) (rC (.str "as")))))
  (sDPut (rVar 3) (rBin fSub2 (rVar 6) (rC (.int 1))) (rC (.bl true)))
  (sIf (tVal (rUn fNotN (rVar 6)))
  (sFor (iAny (rBin fSub2 (rVar 6) (rC (.int 1)))) (gTup [gName 7, gName 8])
  (lp_law_k09_1))
  (sNx)))
def lp_law_k09_3 : RS :=
  sFor (iAny (rFrz (lCall fList (aCons (rVar 3) (aNil))))) (gName 5)
  (lp_law_k09_2)
def run_law_k09 : RS :=
  sSeq (sSet 1 (rP m_law_case (aCons (rVar 0) (aCons (rC (.int 20)) (aNil)))))
  (sSeq (sSet 2 (rP m_law_fresh (aCons (rVar 0) (aCons (rC (.int 2)) (aNil)))))
  (sSeq (sIf (tVal (rBin fGt (rP m_law_mixed (aCons (rVar 0) (aCons (rC (.int 0)) (aCons (rC (.int 5)) (aNil))))) (rC (.int 0))))
  (sSet 2 (rBin fSub2 (rBin fSub2 (rVar 1) (rP m_law_mixed (aCons (rVar 0) (aCons (rC (.int 1)) (aCons (rCall fLen (aCons (rVar 1) (aNil))) (aNil)))))) (rC (.int 0))))
  (sNx))
  (sSeq (sSet 3 (rDict1 (rVar 2) (rC (.bl true))))
  (sSeq (sFor (iRng1 (aCons (rC (.int 7)) (aNil))) (gName 4)
  (lp_law_k09_3))
  (sSeq (sSet 9 (rCall fTuple (aCons (rFrz (lComp [10] (iAny (rVar 1)) (gName 10) (tVal (rBin fIn (rBin fSub2 (rVar 10) (rC (.int 0))) (rVar 3))) (rVar 10))) (aNil))))
  (sSeq (sIf (tOr (tVal (rBin fNe (rP m_law_told_two_k09 (aCons (rC (.glo "pruned")) (aCons (rVar 1) (aCons (rVar 2) (aNil))))) (rVar 9))) (tVal (rBin fNe (rP m_law_told_two_k09 (aCons (rC (.glo "pruned")) (aCons (rVar 9) (aCons (rVar 2) (aNil))))) (rVar 9))))
  (sRet (rC (.bl false)))
  (sNx))
  (sRet (rBin fEq (rP m_law_told_two_k09 (aCons (rC (.glo "pruned")) (aCons (rVar 1) (aCons (rP m_law_bad_want (aCons (rVar 0) (aCons (rC (.int 400)) (aCons (rVar 2) (aNil))))) (aNil))))) (rTup (aCons (rC (.str "refused")) (aCons (rC (.int 0)) (aNil))))))))))))
def m_law_k09 : List D → PRes := pureOf 1 11 run_law_k09

/- _law_plan(books, rows, kept, want, scope)  slots: 0:books 1:rows 2:kept 3:want 4:scope 5:maker 6:here 7:held 8:how 9:other 10:end -/
def lp_law_plan_1 (W : List D → Store → Res D) : RS :=
  sSeq (sSet 10 (rP m_law_stands (aCons (rVar 0) (aCons (rVar 9) (aNil)))))
  (sIf (tVal (rBin fEq (rVar 8) (rC (.str "late"))))
  (sExpr (rMeth isLst fAppend (rVar 7) (aCons (rC (.str "late")) (aNil))))
  (sIf (tVal (rUn fIsN (rVar 10)))
  (sExpr (rMeth isLst fAppend (rVar 7) (aCons (rC .non) (aNil))))
  (sExpr (rMeth isLst fAppend (rVar 7) (aCons (rCall W (aCons (rVar 0) (aCons (rVar 1) (aCons (rVar 2) (aCons (rVar 10) (aCons (rVar 6) (aNil))))))) (aNil))))))
def run_law_plan (W : List D → Store → Res D) : RS :=
  sSeq (sSet 5 (rP m_law_maker (aCons (rVar 0) (aCons (rVar 3) (aNil)))))
  (sSeq (sSet 6 (rBin fSub2 (rFrz (lDisp (aCons (rVar 4) (aCons (rC (.int 0)) (aNil))))) (rCall fInt (aCons (rBin fEq (rBin fSub2 (rVar 5) (rC (.int 2))) (rC (.str "one"))) (aNil)))))
  (sSeq (sIf (tVal (rBin fIn (rTup (aCons (rVar 3) (aCons (rVar 6) (aNil)))) (rVar 2)))
  (sRet (rBin fSub2 (rVar 2) (rTup (aCons (rVar 3) (aCons (rVar 6) (aNil))))))
  (sNx))
  (sSeq (sSet 7 (rNew (lDisp (aNil))))
  (sSeq (sFor (iAny (rBin fSub2 (rVar 5) (rC (.int 1)))) (gTup [gName 8, gName 9])
  (lp_law_plan_1 W))
  (sSeq (sExpr (rMeth isLst fAppend (rVar 1) (aCons (rTup (aCons (rVar 3) (aCons (rCall fTuple (aCons (rVar 7) (aNil))) (aNil)))) (aNil))))
  (sSeq (sIf (tVal (rBin fNe (rBin fSub2 (rVar 5) (rC (.int 2))) (rC (.str "each"))))
  (sDPut (rVar 2) (rTup (aCons (rVar 3) (aCons (rVar 6) (aNil)))) (rBin fSub (rCall fLen (aCons (rVar 1) (aNil))) (rC (.int 1))))
  (sNx))
  (sRet (rBin fSub (rCall fLen (aCons (rVar 1) (aNil))) (rC (.int 1))))))))))
def m_law_plan : Nat → List D → Store → Res D
  | 0 => fun _ _ => .bad
  | d + 1 => stOf 5 11 (run_law_plan (m_law_plan d))

/- Planner.one_need(self, how, want, scope)  slots: 0:self 1:how 2:want 3:scope -/
def run_Planner_one_need (W : List D → Store → Res D) : RS :=
  sSeq (sIf (tVal (rBin fEq (rVar 1) (rC (.str "late"))))
  (sRet (rC (.str "late")))
  (sNx))
  (sSeq (sIf (tVal (rUn fIsN (rP m_stands (aCons (rAttr "Planner" "books" (rVar 0)) (aCons (rVar 2) (aNil))))))
  (sRet (rC .non))
  (sNx))
  (sRet (rMe "Planner" "wanted" W (rVar 0) (aCons (rP m_stands (aCons (rAttr "Planner" "books" (rVar 0)) (aCons (rVar 2) (aNil)))) (aCons (rVar 3) (aNil))))))
def m_Planner_one_need (W : List D → Store → Res D) : List D → Store → Res D := stOf 4 4 (run_Planner_one_need W)

/- Planner.wanted(self, want, scope)  slots: 0:self 1:want 2:scope 3:span 4:held 5:how 6:other -/
def run_Planner_wanted (W : List D → Store → Res D) : RS :=
  sSeq (sSet 3 (rP m_span_in (aCons (rAttr "Planner" "books" (rVar 0)) (aCons (rVar 1) (aNil)))))
  (sSeq (sIf (tVal (rBin fEq (rVar 3) (rC (.str "one"))))
  (sSet 2 (rC (.int 0)))
  (sNx))
  (sSeq (sIf (tVal (rBin fIn (rTup (aCons (rVar 1) (aCons (rVar 2) (aNil)))) (rAttr "Planner" "kept_rows" (rVar 0))))
  (sRet (rBin fSub2 (rAttr "Planner" "kept_rows" (rVar 0)) (rTup (aCons (rVar 1) (aCons (rVar 2) (aNil))))))
  (sNx))
  (sSeq (sSet 4 (rFrz (lComp [5, 6] (iAny (rBin fSub2 (rP m_maker_in (aCons (rAttr "Planner" "books" (rVar 0)) (aCons (rVar 1) (aNil)))) (rC (.int 1)))) (gTup [gName 5, gName 6]) (tYes) (rMe "Planner" "one_need" (m_Planner_one_need W) (rVar 0) (aCons (rVar 5) (aCons (rVar 6) (aCons (rVar 2) (aNil))))))))
  (sSeq (sExpr (rMeth isLst fAppend (rAttr "Planner" "rows" (rVar 0)) (aCons (rTup (aCons (rVar 1) (aCons (rCall fTuple (aCons (rVar 4) (aNil))) (aNil)))) (aNil))))
  (sSeq (sIf (tVal (rBin fNe (rVar 3) (rC (.str "each"))))
  (sDPut (rAttr "Planner" "kept_rows" (rVar 0)) (rTup (aCons (rVar 1) (aCons (rVar 2) (aNil)))) (rBin fSub (rCall fLen (aCons (rAttr "Planner" "rows" (rVar 0)) (aNil))) (rC (.int 1))))
  (sNx))
  (sRet (rBin fSub (rCall fLen (aCons (rAttr "Planner" "rows" (rVar 0)) (aNil))) (rC (.int 1)))))))))
def m_Planner_wanted : Nat → List D → Store → Res D
  | 0 => fun _ _ => .bad
  | d + 1 => stOf 3 7 (run_Planner_wanted (m_Planner_wanted d))

/- need_sound(books)  slots: 0:books -/
def run_need_sound : RS :=
  sSeq (sExpr (rP m_checked (aCons (rVar 0) (aNil))))
  (sIf (tNot (tVal (rP m_sound (aCons (rVar 0) (aNil)))))
  (sRaise "Unsound")
  (sNx))
def m_need_sound : List D → PRes := pureOf 1 1 run_need_sound

/- need_stands(books, want)  slots: 0:books 1:want -/
def run_need_stands : RS :=
  sSeq (sExpr (rP m_need_sound (aCons (rVar 0) (aNil))))
  (sSeq (sExpr (rP m_need_want (aCons (rVar 1) (aNil))))
  (sSeq (sIf (tVal (rUn fIsN (rP m_stands (aCons (rVar 0) (aCons (rVar 1) (aNil))))))
  (sRaise "NoMaker")
  (sNx))
  (sRet (rP m_stands (aCons (rVar 0) (aCons (rVar 1) (aNil)))))))
def m_need_stands : List D → PRes := pureOf 2 2 run_need_stands

/- Planner.__init__(self, books)  slots: 0:self 1:books -/
def run_Planner___init__ : RS :=
  sSeq (sAttr "Planner" "books" (rVar 0) (rVar 1))
  (sSeq (sAttr "Planner" "rows" (rVar 0) (rNew (lDisp (aNil))))
  (sAttr "Planner" "kept_rows" (rVar 0) (rDictT)))
def m_Planner___init__ : List D → Store → Res D := stOf 2 2 run_Planner___init__

/- plan(books, want)  slots: 0:books 1:want 2:end 3:planner -/
def run_plan : RS :=
  sSeq (sSet 2 (rP m_need_stands (aCons (rVar 0) (aCons (rVar 1) (aNil)))))
  (sSeq (sSet 3 (rMake "Planner" m_Planner___init__ (aCons (rVar 0) (aNil))))
  (sSeq (sExpr (rMe "Planner" "wanted" (m_Planner_wanted 8) (rVar 3) (aCons (rVar 2) (aCons (rC (.int 0)) (aNil)))))
  (sRet (rAttr "Planner" "rows" (rVar 3)))))
def m_plan : List D → PRes := pureOf 2 4 run_plan

/- costs(books, want)  slots: 0:books 1:want 2:end 3:planner 4:made 5:scope 6:before -/
def lp_costs_1 : RS :=
  sSeq (sSet 6 (rCall fLen (aCons (rAttr "Planner" "rows" (rVar 3)) (aNil))))
  (sSeq (sExpr (rMe "Planner" "wanted" (m_Planner_wanted 8) (rVar 3) (aCons (rVar 2) (aCons (rVar 5) (aNil)))))
  (sExpr (rMeth isLst fAppend (rVar 4) (aCons (rBin fSub (rCall fLen (aCons (rAttr "Planner" "rows" (rVar 3)) (aNil))) (rVar 6)) (aNil)))))
def run_costs : RS :=
  sSeq (sSet 2 (rP m_need_stands (aCons (rVar 0) (aCons (rVar 1) (aNil)))))
  (sSeq (sSet 3 (rMake "Planner" m_Planner___init__ (aCons (rVar 0) (aNil))))
  (sSeq (sSet 4 (rNew (lDisp (aNil))))
  (sSeq (sFor (iAny (rTup (aCons (rC (.int 0)) (aCons (rC (.int 0)) (aCons (rC (.int 1)) (aNil)))))) (gName 5)
  (lp_costs_1))
  (sRet (rCall fTuple (aCons (rVar 4) (aNil)))))))
def m_costs : List D → PRes := pureOf 2 7 run_costs

/- law(script)  slots: 0:script 1:books 2:want 3:end 4:rows 5:kept 6:sizes -/
def run_law_k10 : RS :=
  sSeq (sSet 1 (rP m_law_sound (aCons (rVar 0) (aCons (rC (.int 20)) (aCons (rC (.int 4)) (aNil))))))
  (sSeq (sSet 2 (rBin fSub2 (rBin fSub2 (rVar 1) (rP m_law_mixed (aCons (rVar 0) (aCons (rC (.int 0)) (aCons (rCall fLen (aCons (rVar 1) (aNil))) (aNil)))))) (rC (.int 0))))
  (sSeq (sSet 3 (rP m_law_stands (aCons (rVar 1) (aCons (rVar 2) (aNil)))))
  (sSeq (sSet 4 (rNew (lDisp (aNil))))
  (sSeq (sSet 5 (rDictT))
  (sSeq (sExpr (rCall (m_law_plan 8) (aCons (rVar 1) (aCons (rVar 4) (aCons (rVar 5) (aCons (rVar 3) (aCons (rC (.int 0)) (aNil))))))))
  (sSeq (sIf (tVal (rBin fNe (rP m_plan (aCons (rVar 1) (aCons (rVar 2) (aNil)))) (rVar 4)))
  (sRet (rC (.bl false)))
  (sNx))
  (sSeq (sSet 6 (rNew (lDisp (aCons (rCall fLen (aCons (rVar 4) (aNil))) (aNil)))))
  (sSeq (sExpr (rCall (m_law_plan 8) (aCons (rVar 1) (aCons (rVar 4) (aCons (rVar 5) (aCons (rVar 3) (aCons (rC (.int 0)) (aNil))))))))
  (sSeq (sExpr (rMeth isLst fAppend (rVar 6) (aCons (rCall fLen (aCons (rVar 4) (aNil))) (aNil))))
  (sSeq (sExpr (rCall (m_law_plan 8) (aCons (rVar 1) (aCons (rVar 4) (aCons (rVar 5) (aCons (rVar 3) (aCons (rC (.int 1)) (aNil))))))))
  (sSeq (sExpr (rMeth isLst fAppend (rVar 6) (aCons (rCall fLen (aCons (rVar 4) (aNil))) (aNil))))
  (sRet (rBin fEq (rP m_costs (aCons (rVar 1) (aCons (rVar 2) (aNil)))) (rTup (aCons (rBin fSub2 (rVar 6) (rC (.int 0))) (aCons (rBin fSub (rBin fSub2 (rVar 6) (rC (.int 1))) (rBin fSub2 (rVar 6) (rC (.int 0)))) (aCons (rBin fSub (rBin fSub2 (rVar 6) (rC (.int 2))) (rBin fSub2 (rVar 6) (rC (.int 1)))) (aNil))))))))))))))))))
def m_law_k10 : List D → PRes := pureOf 1 7 run_law_k10

end Py

set_option Elab.async false
set_option linter.all false
set_option maxRecDepth 100000
set_option maxHeartbeats 1000000
set_option autoImplicit false
namespace Py
open PySem
/-! ### drawing -/
def cellAt (ns : List Int) (k : Int) : Int := if k < ns.length then (atI ns k).getD 0 else if ns = [] then 0 else (atI ns (k % ns.length)).getD 0 * 31 + k
@[simp] theorem startE_1 (n : Nat) (a : D) : startE (n + 1) [a] = some a :: List.replicate n none := rfl
@[simp] theorem startE_2 (n : Nat) (a b : D) : startE (n + 2) [a, b] = some a :: some b :: List.replicate n none := rfl
@[simp] theorem startE_3 (n : Nat) (a b c : D) : startE (n + 3) [a, b, c] = some a :: some b :: some c :: List.replicate n none := rfl
@[simp] theorem startE_5 (n : Nat) (a b c d e : D) : startE (n + 5) [a, b, c, d, e] = some a :: some b :: some c :: some d :: some e :: List.replicate n none := by
  unfold startE; simp [show n + 5 - 5 = n by omega]
theorem lim64_of {i : Int} (h : -18446744073709551616 < i) (h2 : i < 18446744073709551616) : lim64 i = true := by unfold lim64; simp [h, h2]
theorem scr_eq_nil {st : Store} (ns : List Int) : fEq (.scr ns) (.lst []) st = .ok (.bl (decide (ns = []))) st := by
  rw [fEq_ap, top_scr, top_lst, okD_lst, okD_lst, eqD_lst]
  have h : (ns.map D.int).all (okD 59) = true := by simp
  rw [h]
  cases ns <;> simp [all2]
theorem m_cell {ns : List Int} {k : Int} (hk : 0 ≤ k) : m_law_cell_at [.scr ns, .int k] = .ok (.int (cellAt ns k)) := by
  unfold m_law_cell_at
  by_cases h : k < ns.length
  · obtain ⟨a, ha, _⟩ := atI_in ns hk h
    refine pureOf_rt (st := []) (d := .int (cellAt ns k)) rfl ?_ (by simp [frz, frz0])
    simp [run_law_cell_at, h, ha, cellAt]
  · by_cases h0 : ns = []
    · refine pureOf_rt (st := []) (d := .int (cellAt ns k)) rfl ?_ (by simp [frz, frz0])
      simp [run_law_cell_at, cellAt, scr_eq_nil, h0, show ¬ k < 0 by omega]
    · have hp : 0 < ns.length := List.length_pos_iff.mpr h0
      obtain ⟨a, ha, _⟩ := atI_in ns (i := k % ns.length) (Int.emod_nonneg _ (by omega)) (Int.emod_lt_of_pos _ (by omega))
      refine pureOf_rt (st := []) (d := .int (cellAt ns k)) rfl ?_ (by simp [frz, frz0])
      simp [run_law_cell_at, h, cellAt, scr_eq_nil, h0, hp, ha, show lim64 31 = true from rfl]
def mixed (ns : List Int) (k many : Int) : Int :=
  let d := (cellAt ns k + 7919 * k + 1) * 48271 % 2147483647
  (d * d + 7 * d + k) % 2147483629 % many
theorem mixed_nn {ns : List Int} {k many : Int} (h : 0 < many) : 0 ≤ mixed ns k many := by unfold mixed; exact Int.emod_nonneg _ (by omega)
theorem mixed_lt {ns : List Int} {k many : Int} (h : 0 < many) : mixed ns k many < many := by unfold mixed; exact Int.emod_lt_of_pos _ h
theorem m_mixed {ns : List Int} {k many : Int} (hk : 0 ≤ k) (hm : 0 < many) : m_law_mixed [.scr ns, .int k, .int many] = .ok (.int (mixed ns k many)) := by
  refine pureOf_rt (st := []) (d := .int (mixed ns k many)) rfl ?_ (by simp [frz, frz0])
  have h1 := Int.emod_nonneg ((cellAt ns k + 7919 * k + 1) * 48271) (show (2147483647 : Int) ≠ 0 by decide)
  have h2 := Int.emod_lt_of_pos ((cellAt ns k + 7919 * k + 1) * 48271) (show (0 : Int) < 2147483647 by decide)
  have h3 : lim64 ((cellAt ns k + 7919 * k + 1) * 48271 % 2147483647) = true := lim64_of (by omega) (by omega)
  simp [run_law_mixed, m_cell, hk, hm, show lim64 7919 = true from rfl, show lim64 48271 = true from rfl, show lim64 7 = true from rfl, h3, mixed]
end Py
namespace Py
open PySem
/-! ### words -/
def Sign (c : Nat) : Prop := 97 ≤ c ∧ c ≤ 122
def Word (w : Str) : Prop := 1 ≤ w.length ∧ w.length ≤ 8 ∧ ∀ c ∈ w.cps.toList, Sign c
@[simp] theorem str_len_mk (a : Array Nat) : Str.length ⟨a⟩ = a.size := rfl
@[simp] theorem str_app_len (a b : Str) : (a ++ b).length = a.length + b.length := by
  show (a.cps ++ b.cps).size = _; simp [Str.length]
@[simp] theorem str_app_cps (a b : Str) : (a ++ b).cps = a.cps ++ b.cps := rfl
theorem str_len_list (a : Str) : a.cps.toList.length = a.length := by simp [Str.length]
theorem signs_cps : (("abcdefghijklmnopqrstuvwxyz" : Str)).cps.toList = (List.range 26).map (97 + ·) := by decide +kernel
theorem signs_in {c : Nat} (h : c ∈ (("abcdefghijklmnopqrstuvwxyz" : Str)).cps.toList) : Sign c := by
  rw [signs_cps] at h
  simp only [List.mem_map, List.mem_range] at h
  obtain ⟨k, h1, h2⟩ := h
  unfold Sign; omega
theorem in_signs {c : Nat} (h : Sign c) : c ∈ (("abcdefghijklmnopqrstuvwxyz" : Str)).cps.toList := by
  rw [signs_cps]
  simp only [List.mem_map, List.mem_range]
  unfold Sign at h
  exact ⟨c - 97, by omega, by omega⟩
theorem m_sign {ns : List Int} {k : Int} (hk : 0 ≤ k) : ∃ c, m_law_sign [.scr ns, .int k] = .ok (.str ⟨#[c]⟩) ∧ Sign c := by
  have hl : (("abcdefghijklmnopqrstuvwxyz" : Str)).cps.toList.length = 26 := by rw [signs_cps]; rfl
  obtain ⟨c, hc, hm⟩ := atI_in (("abcdefghijklmnopqrstuvwxyz" : Str)).cps.toList (i := mixed ns k 26) (mixed_nn (by omega)) (by rw [hl]; exact mixed_lt (by omega))
  refine ⟨c, pureOf_rt (st := []) (d := .str ⟨#[c]⟩) rfl ?_ (by simp [frz, frz0]), signs_in hm⟩
  simp [run_law_sign, m_mixed hk, hc]
theorem lim62_of {i : Int} (h : -4611686018427387904 ≤ i) (h2 : i < 4611686018427387904) : lim62 i = true := by unfold lim62; simp [h, h2]
theorem itRng1_ok {st : Store} {n : Int} (h0 : -1000 ≤ n) (h : n ≤ 1000) : itRng1 [.int n] st = .ok ((List.range n.toNat).map fun k => .int (k : Nat)) st := by
  rw [itRng1_ap, if_pos (by simp [lim62_of (i := n) (by omega) (by omega)]; omega)]
  simp [rng]
theorem itRng2_ok {st : Store} {lo n : Int} (h0 : 0 ≤ n) (h : n ≤ 1000) (h2 : 0 ≤ lo) (h3 : lo ≤ 1000) : itRng2 [.int lo, .int n] st = .ok ((List.range (n - lo).toNat).map fun k => .int (lo + (k : Nat))) st := by
  rw [itRng2_ap, if_pos (by simp [lim62_of (i := n) (by omega) (by omega), lim62_of (i := lo) (by omega) (by omega)]; omega)]
  simp [rng]
theorem empty_cps : ("" : Str).cps.toList = [] := by decide +kernel
theorem m_fresh {ns : List Int} {k : Int} (hk : 0 ≤ k) : ∃ w, m_law_fresh [.scr ns, .int k] = .ok (.str w) ∧ Word w := by
  have h1 := mixed_nn (ns := ns) (k := k) (many := 8) (by omega)
  have h2 := mixed_lt (ns := ns) (k := k) (many := 8) (by omega)
  obtain ⟨e', st', hf, hst, w, o, he, hl, hs⟩ := forL_inv (n0 := 0) (g := gName 3) (b := lp_law_fresh_1) (fun k : Nat => D.int (k : Int))
    (fun pre e st => st = [] ∧ ∃ w o, e = [some (.scr ns), some (.int k), some (.str w), o] ∧ w.length = pre.length ∧ ∀ c ∈ w.cps.toList, Sign c)
    (List.range (1 + mixed ns k 8).toNat) [] [some (.scr ns), some (.int k), some (.str ""), none] [] ⟨rfl, "", none, rfl, rfl, by intro c hc; rw [empty_cps] at hc; cases hc⟩
    fun p a q e st hpq ⟨hst, w, o, he, hl, hs⟩ => by
      subst hst he
      obtain ⟨c, hc, hS⟩ := m_sign (ns := ns) (k := k + 1 + (a : Int)) (by omega)
      have hpl : p.length < 9 := by
        have := congrArg List.length hpq
        simp at this
        omega
      refine ⟨_, [some (.scr ns), some (.int k), some (.str (w ++ ⟨#[c]⟩)), some (.int a)], [], rfl, ?_, rfl, rfl, _, _, rfl, by simp [hl], fun x hx => ?_⟩
      · simp [lp_law_fresh_1, hc, show w.length + 1 ≤ 16777216 by omega]
      · simp at hx
        rcases hx with hx | hx
        · exact hs x (by simpa using hx)
        · rw [hx]; exact hS
  refine ⟨w, pureOf_rt (st := []) (d := .str w) rfl ?_ (by simp [frz, frz0]), ?_⟩
  · simp only [List.nil_append] at hl
    simp [run_law_fresh, m_mixed hk, itRng1_ok (n := 1 + mixed ns k 8) (by omega) (by omega), hf, he, hst]
  · simp at hl
    exact ⟨by omega, by omega, hs⟩
end Py

set_option Elab.async false
set_option linter.all false
set_option maxRecDepth 100000
set_option maxHeartbeats 1000000
set_option autoImplicit false
namespace Py
open PySem
/-! ### books -/
inductive Mk where
  | as (w : Str)
  | made (ns : List (Str × Str)) (sp : Str) (en : Bool) (br : Int)
deriving DecidableEq
abbrev Bks := List (Str × Mk)
def encM : Mk → D
  | .as w => .tup [.str "as", .str w]
  | .made ns sp en br => .tup [.str "made", .tup (ns.map pairD), .str sp, .bl en, .int br]
def encR (r : Str × Mk) : D := .tup [.str r.1, encM r.2]
def encB (b : Bks) : D := .tup (b.map encR)
def optS : Option Str → D
  | none => .non
  | some w => .str w
def optM : Option Mk → D
  | none => .non
  | some m => encM m
@[simp] theorem bel_pairD (n : Nat) (p : Str × Str) : bel n (pairD p) = true := by simp [pairD]
@[simp] theorem bel_pairs (n : Nat) (l : List (Str × Str)) : (l.map pairD).all (bel n) = true := by simp
@[simp] theorem bel_strs (n : Nat) (l : List Str) : (l.map D.str).all (bel n) = true := by simp
@[simp] theorem bel_encM (n : Nat) (m : Mk) : bel n (encM m) = true := by cases m <;> simp [encM]
@[simp] theorem bel_encR (n : Nat) (m : Str × Mk) : bel n (encR m) = true := by simp [encR]
@[simp] theorem bel_encB (n : Nat) (b : Bks) : bel n (encB b) = true := by simp [encB]
@[simp] theorem bel_optS (n : Nat) (b : Option Str) : bel n (optS b) = true := by cases b <;> simp [optS]
@[simp] theorem bel_optM (n : Nat) (b : Option Mk) : bel n (optM b) = true := by cases b <;> simp [optM]
@[simp] theorem optS_none : optS none = .non := rfl
@[simp] theorem optS_some (w : Str) : optS (some w) = .str w := rfl
@[simp] theorem optM_none : optM none = .non := rfl
@[simp] theorem optM_some (w : Mk) : optM (some w) = encM w := rfl
@[simp] theorem itAny_encB {st : Store} (b : Bks) : itAny (encB b) st = .ok (b.map encR) st := rfl
@[simp] theorem isNone_encM (m : Mk) : isNone (encM m) = false := by cases m <;> rfl
@[simp] theorem isNone_optM (m : Option Mk) : isNone (optM m) = m.isNone := by cases m <;> simp
@[simp] theorem isNone_optS (m : Option Str) : isNone (optS m) = m.isNone := by cases m <;> simp
@[simp] theorem lit_as_made : (("as" : Str) = "made") = False := eq_false (by decide +kernel)
@[simp] theorem lit_made_as : (("made" : Str) = "as") = False := eq_false (by decide +kernel)
@[simp] theorem lit_now_late : (("now" : Str) = "late") = False := eq_false (by decide +kernel)
@[simp] theorem lit_now_maybe : (("now" : Str) = "maybe") = False := eq_false (by decide +kernel)
@[simp] theorem lit_late_now : (("late" : Str) = "now") = False := eq_false (by decide +kernel)
@[simp] theorem lit_late_maybe : (("late" : Str) = "maybe") = False := eq_false (by decide +kernel)
@[simp] theorem lit_maybe_now : (("maybe" : Str) = "now") = False := eq_false (by decide +kernel)
@[simp] theorem lit_maybe_late : (("maybe" : Str) = "late") = False := eq_false (by decide +kernel)
@[simp] theorem lit_one_scope : (("one" : Str) = "scope") = False := eq_false (by decide +kernel)
@[simp] theorem lit_one_each : (("one" : Str) = "each") = False := eq_false (by decide +kernel)
@[simp] theorem lit_scope_one : (("scope" : Str) = "one") = False := eq_false (by decide +kernel)
@[simp] theorem lit_scope_each : (("scope" : Str) = "each") = False := eq_false (by decide +kernel)
@[simp] theorem lit_each_one : (("each" : Str) = "one") = False := eq_false (by decide +kernel)
@[simp] theorem lit_each_scope : (("each" : Str) = "scope") = False := eq_false (by decide +kernel)
/-- the maker that a want has -/
def mkOf (b : Bks) (w : Str) : Option Mk := (b.find? fun r => decide (r.1 = w)).map (·.2)
def names (b : Bks) : List Str := b.map (·.1)
theorem mkOf_none {b : Bks} {w : Str} : mkOf b w = none ↔ w ∉ names b := by
  unfold mkOf names
  simp only [Option.map_eq_none_iff, List.find?_eq_none, List.mem_map, decide_eq_true_eq]
  exact ⟨fun h ⟨r, h1, h2⟩ => h r h1 h2, fun h r h1 h2 => h ⟨r, h1, h2⟩⟩
theorem mkOf_mem {b : Bks} {w : Str} {m : Mk} (h : mkOf b w = some m) : (w, m) ∈ b := by
  unfold mkOf at h
  cases q : b.find? fun r => decide (r.1 = w) with
  | none => rw [q] at h; cases h
  | some r =>
    rw [q] at h
    cases h
    have h1 := List.find?_some q
    have h2 := List.mem_of_find?_eq_some q
    simp at h1
    rw [← h1]; exact h2
theorem mkOf_of_mem {b : Bks} (hb : (names b).Nodup) {w : Str} {m : Mk} (h : (w, m) ∈ b) : mkOf b w = some m := by
  cases q : mkOf b w with
  | none => exact absurd (List.mem_map.mpr ⟨_, h, rfl⟩) (mkOf_none.mp q)
  | some m' =>
    have h' := mkOf_mem q
    induction b with
    | nil => cases h
    | cons r b ih =>
      unfold names at hb
      rw [List.map_cons, List.nodup_cons] at hb
      rcases List.mem_cons.mp h with e | h1
      · rcases List.mem_cons.mp h' with e' | h2
        · rw [← e] at e'; cases e'; rfl
        · exact absurd (List.mem_map.mpr ⟨_, h2, by rw [← e]⟩) hb.1
      · rcases List.mem_cons.mp h' with e' | h2
        · exact absurd (List.mem_map.mpr ⟨_, h1, by rw [← e']⟩) hb.1
        · refine ih hb.2 h1 ?_ h2
          unfold mkOf at q
          rw [List.find?_cons] at q
          have : decide (r.1 = w) = false := decide_eq_false fun e => hb.1 (by rw [e]; exact List.mem_map.mpr ⟨_, h1, rfl⟩)
          rw [this] at q
          exact q
theorem m_lmaker (b : Bks) (w : Str) (hb : b.length ≤ 1000) : m_law_maker [encB b, .str w] = .ok (optM (mkOf b w)) := by
  refine pureOf_rt (st := []) (d := optM (mkOf b w)) rfl ?_ ?_
  · have h := compL_all encR (n0 := 0) (g := gTup [gName 3, gName 4]) (t := tVal (rBin fEq (rVar 3) (rVar 1))) (r := rVar 4) (e := [some (encB b), some (.str w), none, none, none]) (st := []) rfl (fun r => decide (r.1 = w)) (fun r => encM r.2) b fun r _ => ⟨[some (encB b), some (.str w), none, some (.str r.1), some (encM r.2)], by simp [encR], by simp, fun _ => by simp⟩
    have hl : (b.filter fun r => decide (r.1 = w)).length ≤ b.length := List.length_filter_le ..
    have e : ((b.filter fun r => decide (r.1 = w)).map (fun r => encM r.2) ++ [D.non])[0]? = some (optM (mkOf b w)) := by
      unfold mkOf
      rw [← List.head?_filter]
      cases (b.filter fun r => decide (r.1 = w)) <;> simp
    simp [run_law_maker, h, show (b.filter fun r => decide (r.1 = w)).length + 1 ≤ 16777216 by omega]
    exact (List.getElem?_eq_some_iff.mp e).2
  · unfold frz frz0; cases mkOf b w with
    | none => simp
    | some m => cases m <;> simp [encM]
theorem m_maker (b : Bks) (w : Str) : m_maker_in [encB b, .str w] = .ok (optM (mkOf b w)) := by
  have key : ∀ (c : Bks) (o1 o2 : Option D), ∃ o1' o2', forL 0 (gTup [gName 2, gName 3]) lp_maker_in_1 (c.map encR) [some (encB b), some (.str w), o1, o2] [] = (match mkOf c w with
      | none => .nx [some (encB b), some (.str w), o1', o2'] []
      | some m => .rt (encM m) []) := by
    intro c
    induction c with
    | nil => exact fun o1 o2 => ⟨o1, o2, rfl⟩
    | cons r c ih =>
      intro o1 o2
      by_cases e : r.1 = w
      · refine ⟨none, none, ?_⟩
        rw [List.map_cons, forL_rt (n0 := 0) (e1 := [some (encB b), some (.str w), some (.str r.1), some (encM r.2)]) (st2 := []) (d := encM r.2) (by simp [encR]) (by simp [lp_maker_in_1, e])]
        simp [mkOf, e]
      · obtain ⟨o1', o2', h⟩ := ih (some (.str r.1)) (some (encM r.2))
        refine ⟨o1', o2', ?_⟩
        rw [List.map_cons, forL_nx (n0 := 0) (e1 := [some (encB b), some (.str w), some (.str r.1), some (encM r.2)]) (e2 := [some (encB b), some (.str w), some (.str r.1), some (encM r.2)]) (st2 := []) (by simp [encR]) (by simp [lp_maker_in_1, e]) rfl, h]
        have : mkOf (r :: c) w = mkOf c w := by simp [mkOf, e]
        rw [this]
  obtain ⟨o1, o2, h⟩ := key b none none
  cases q : mkOf b w with
  | none =>
    rw [q] at h
    refine pureOf_rt (st := []) (d := .non) rfl ?_ (by simp [frz, frz0])
    simp [run_maker_in, h]
  | some m =>
    rw [q] at h
    refine pureOf_rt (st := []) (d := encM m) rfl ?_ (by unfold frz frz0; cases m <;> simp [encM])
    simp [run_maker_in, h]
/-! ### what a want stands for -/
def standN (b : Bks) : Nat → Str → Option Str
  | 0, _ => none
  | n + 1, w => match mkOf b w with
    | none => none
    | some (.as v) => standN b n v
    | some (.made _ _ _ _) => some w
def standS (b : Bks) (w : Str) : Option Str := standN b 7 w
theorem m_lstands (b : Bks) (w : Str) (hb : b.length ≤ 1000) : m_law_stands [encB b, .str w] = .ok (optS (standS b w)) := by
  have key : ∀ (l : List D) (x : Str) (o1 o2 : Option D), ∃ x' o1' o2', forL 0 (gName 2) lp_law_stands_1 l [some (encB b), some (.str x), o1, o2] [] = (match standN b l.length x with
      | some v => .rt (.str v) []
      | none => .nx [some (encB b), some (.str x'), o1', o2'] []) ∨ (standN b l.length x = none ∧ forL 0 (gName 2) lp_law_stands_1 l [some (encB b), some (.str x), o1, o2] [] = .rt .non []) := by
    intro l
    induction l with
    | nil => exact fun x o1 o2 => ⟨x, o1, o2, .inl rfl⟩
    | cons d l ih =>
      intro x o1 o2
      cases q : mkOf b x with
      | none =>
        refine ⟨x, o1, o2, .inr ⟨by simp [standN, q], ?_⟩⟩
        refine forL_rt (n0 := 0) (e1 := [some (encB b), some (.str x), some d, o2]) (by simp) ?_
        simp [lp_law_stands_1, m_lmaker b x hb, q]
      | some m =>
        cases m with
        | made ns sp en br =>
          refine ⟨x, o1, o2, .inl ?_⟩
          have : standN b (d :: l).length x = some x := by simp [standN, q]
          rw [this]
          refine forL_rt (n0 := 0) (e1 := [some (encB b), some (.str x), some d, o2]) (by simp) ?_
          simp [lp_law_stands_1, m_lmaker b x hb, q, encM]
        | as v =>
          obtain ⟨x', o1', o2', h⟩ := ih v (some d) (some (encM (.as v)))
          refine ⟨x', o1', o2', ?_⟩
          have e1 : standN b (d :: l).length x = standN b l.length v := by simp [standN, q]
          rw [e1, forL_nx (n0 := 0) (e1 := [some (encB b), some (.str x), some d, o2]) (e2 := [some (encB b), some (.str v), some d, some (encM (.as v))]) (st2 := []) (by simp) (by simp [lp_law_stands_1, m_lmaker b x hb, q, encM]) rfl]
          exact h
  obtain ⟨x', o1, o2, h⟩ := key ((List.range 7).map fun k => .int (k : Nat)) w none none
  have hr : standN b ((List.range 7).map fun k => D.int (k : Nat)).length w = standS b w := by simp [standS]
  rw [hr] at h
  refine pureOf_rt (st := []) (d := optS (standS b w)) rfl ?_ (by unfold frz frz0; cases standS b w <;> simp)
  have hi := itRng1_ok (st := []) (n := 7) (by omega) (by omega)
  rw [show (7 : Int).toNat = 7 from rfl] at hi
  cases q : standS b w with
  | some v =>
    rw [q] at h
    rcases h with h | ⟨h0, h⟩
    · simp only [run_law_stands, sSeq_ap, sFor_ap, iRng1_ap, aCons_ap, rC_ap, aNil_ap, Res.bd_ok, hi, Res.toS_ok, startE_2, List.length_nil]
      rw [show List.replicate 2 (none : Option D) = [none, none] from rfl, h]
      simp
    · cases h0
  | none =>
    rw [q] at h
    rcases h with h | ⟨_, h⟩
    · simp only [run_law_stands, sSeq_ap, sFor_ap, iRng1_ap, aCons_ap, rC_ap, aNil_ap, Res.bd_ok, hi, Res.toS_ok, startE_2, List.length_nil]
      rw [show List.replicate 2 (none : Option D) = [none, none] from rfl, h]
      simp
    · simp only [run_law_stands, sSeq_ap, sFor_ap, iRng1_ap, aCons_ap, rC_ap, aNil_ap, Res.bd_ok, hi, Res.toS_ok, startE_2, List.length_nil]
      rw [show List.replicate 2 (none : Option D) = [none, none] from rfl, h]
      simp
end Py

set_option Elab.async false
set_option linter.all false
set_option maxRecDepth 100000
set_option maxHeartbeats 1000000
set_option autoImplicit false
namespace Py
open PySem
theorem standN_mono {b : Bks} : ∀ {n : Nat} {w v : Str} (m : Nat), standN b n w = some v → standN b (n + m) w = some v
  | 0, _, _, _, h => by cases h
  | n + 1, w, v, m, h => by
    rw [show n + 1 + m = (n + m) + 1 by omega]
    unfold standN at h ⊢
    cases q : mkOf b w with
    | none => rw [q] at h; cases h
    | some k =>
      rw [q] at h
      cases k with
      | as u => exact standN_mono m h
      | made => exact h
theorem standN_le {b : Bks} {n k : Nat} {w v : Str} (h : standN b n w = some v) (hk : n ≤ k) : standN b k w = some v := by
  have := standN_mono (k - n) h
  rwa [show n + (k - n) = k by omega] at this
theorem standN_cyc {b : Bks} {j : Nat} {x : Str} (hj : 1 ≤ j) (h : ∀ n, standN b (j + n) x = standN b n x) : ∀ n, standN b n x = none := by
  intro n
  induction n using Nat.strongRecOn with
  | ind n ih =>
    by_cases hn : j ≤ n
    · have := h (n - j)
      rw [show j + (n - j) = n by omega] at this
      rw [this]
      exact ih (n - j) (by omega)
    · cases q : standN b n x with
      | none => rfl
      | some v =>
        have h1 := standN_le q (k := j) (by omega)
        have h2 := h 0
        rw [show j + 0 = j by omega, h1] at h2
        cases h2
theorem nodup_sub_len {α : Type} [DecidableEq α] : ∀ {l m : List α}, l.Nodup → (∀ x ∈ l, x ∈ m) → l.length ≤ m.length
  | [], m, _, _ => Nat.zero_le _
  | x :: l, m, h, hs => by
    have h' := List.nodup_cons.mp h
    have ih := nodup_sub_len (l := l) (m := m.erase x) h'.2 fun y hy => (List.mem_erase_of_ne (fun e => h'.1 (by rw [← e]; exact hy))).mpr (hs y (List.mem_cons_of_mem _ hy))
    have hx := hs x List.mem_cons_self
    rw [List.length_erase_of_mem hx] at ih
    have := List.length_pos_of_mem hx
    rw [List.length_cons]; omega
theorem stands_loop {b : Bks} (hb : b.length ≤ 6) {w : Str} : ∀ (k : Nat) (met : List Str) (x : Str) (o : Option D), met.Nodup → (∀ y ∈ met, y ∈ names b) → (∀ n, standN b (met.length + n) w = standN b n x) →
    (∀ y ∈ met, ∃ j, 1 ≤ j ∧ ∀ n, standN b (j + n) y = standN b n x) → b.length - met.length < k →
    (∃ st, whileL 1 (tVal (rBin fNotIn (rVar 1) (rVar 2))) lp_stands_1 k [some (encB b), some (.str x), some (.ref 0), o] [.lst (met.map .str)] = .rt (optS (standS b w)) st) ∨
    (standS b w = none ∧ ∃ e st, whileL 1 (tVal (rBin fNotIn (rVar 1) (rVar 2))) lp_stands_1 k [some (encB b), some (.str x), some (.ref 0), o] [.lst (met.map .str)] = .nx e st)
  | 0, _, _, _, _, _, _, _, h => by omega
  | k + 1, met, x, o, nd, sub, chain, cyc, hk => by
    have hin := inB_refL (st := [.lst (met.map .str)]) x 0 met rfl
    have hlen : met.length ≤ b.length := by have := nodup_sub_len nd sub; simpa [names] using this
    by_cases hx : x ∈ met
    · right
      obtain ⟨j, hj, hc⟩ := cyc x hx
      have hz := standN_cyc hj hc
      refine ⟨?_, _, _, whileL_end (n0 := 1) (st1 := [.lst (met.map .str)]) (by simp [hin, hx]) rfl⟩
      unfold standS
      have := chain (7 - met.length)
      rw [show met.length + (7 - met.length) = 7 by omega] at this
      rw [this]; exact hz _
    · have ht : tVal (rBin fNotIn (rVar 1) (rVar 2)) [some (encB b), some (.str x), some (.ref 0), o] [.lst (met.map .str)] = .ok true [.lst (met.map .str)] := by simp [hin, hx]
      have hcap : met.length < 16777216 := by omega
      cases q : mkOf b x with
      | none =>
        left
        have hs : standS b w = none := by
          unfold standS
          have := chain (7 - met.length)
          rw [show met.length + (7 - met.length) = 7 by omega] at this
          rw [this, show 7 - met.length = (6 - met.length) + 1 by omega, standN, q]
        rw [hs]
        exact ⟨_, whileL_rt ht (by simp [lp_stands_1, hcap, m_maker, q]; rfl)⟩
      | some m =>
        cases m with
        | made ns sp en br =>
          left
          have hs : standS b w = some x := by
            unfold standS
            have := chain (7 - met.length)
            rw [show met.length + (7 - met.length) = 7 by omega] at this
            rw [this, show 7 - met.length = (6 - met.length) + 1 by omega, standN, q]
          rw [hs]
          exact ⟨_, whileL_rt ht (by simp [lp_stands_1, hcap, m_maker, q, encM]; rfl)⟩
        | as v =>
          have hs : ∀ n, standN b (n + 1) x = standN b n v := fun n => by rw [standN, q]
          have := stands_loop hb k (met ++ [x]) v (some (encM (.as v))) (by
              rw [List.nodup_append]; exact ⟨nd, by simp, fun a ha c hc e => by simp at hc; subst hc; exact hx (e ▸ ha)⟩)
            (fun y hy => by
              rcases List.mem_append.mp hy with h | h
              · exact sub y h
              · simp at h; rw [h]; exact Classical.byContradiction fun hn => by rw [mkOf_none.mpr hn] at q; cases q)
            (fun n => by rw [List.length_append, List.length_singleton, show met.length + 1 + n = met.length + (n + 1) by omega, chain, hs])
            (fun y hy => by
              rcases List.mem_append.mp hy with h | h
              · obtain ⟨j, hj, hc⟩ := cyc y h
                exact ⟨j + 1, by omega, fun n => by rw [show j + 1 + n = j + (n + 1) by omega, hc, hs]⟩
              · simp at h; rw [h]; exact ⟨1, by omega, fun n => by rw [show 1 + n = n + 1 by omega, hs]⟩)
            (by
              have hxn : x ∈ names b := Classical.byContradiction fun hn => by rw [mkOf_none.mpr hn] at q; cases q
              have : (x :: met).length ≤ (names b).length := nodup_sub_len (List.nodup_cons.mpr ⟨hx, nd⟩) (fun y hy => by
                rcases List.mem_cons.mp hy with h | h
                · rw [h]; exact hxn
                · exact sub y h)
              simp [names] at this ⊢
              omega)
          rw [List.map_append] at this
          rw [whileL_nx (n0 := 1) ht (e2 := [some (encB b), some (.str v), some (.ref 0), some (encM (.as v))]) (st2 := [.lst (met.map .str ++ [x].map .str)]) (by simp [lp_stands_1, hcap, m_maker, q, encM]) rfl]
          exact this
theorem m_stand {b : Bks} (hb : b.length ≤ 6) (w : Str) : m_stands [encB b, .str w] = .ok (optS (standS b w)) := by
  have := stands_loop hb (w := w) fuel [] w none List.nodup_nil (by simp) (by simp) (by simp) (by simpa using fuel_gt (by omega))
  rcases this with ⟨st, h⟩ | ⟨h0, e, st, h⟩
  · refine pureOf_rt (st := st) (d := optS (standS b w)) rfl ?_ (by unfold frz frz0; cases standS b w <;> simp)
    simp only [List.map_nil] at h
    simp [run_stands, h]
  · refine pureOf_rt (st := st) (d := .non) rfl ?_ (by rw [h0]; simp [frz, frz0])
    simp only [List.map_nil] at h
    simp [run_stands, h]
end Py

set_option Elab.async false
set_option linter.all false
set_option maxRecDepth 100000
set_option maxHeartbeats 1000000
set_option autoImplicit false
namespace Py
open PySem
/-! ### what books are -/
def isWord (w : Str) : Bool := (decide (1 ≤ w.length) && decide (w.length ≤ 8)) && w.cps.toList.all fun c => decide (c ∈ ("abcdefghijklmnopqrstuvwxyz" : Str).cps.toList)
theorem isWord_iff {w : Str} : isWord w = true ↔ Word w := by
  unfold isWord Word
  simp only [Bool.and_eq_true, decide_eq_true_eq, List.all_eq_true]
  exact ⟨fun ⟨⟨h1, h2⟩, h3⟩ => ⟨h1, h2, fun c hc => signs_in (h3 c hc)⟩, fun ⟨h1, h2, h3⟩ => ⟨⟨h1, h2⟩, fun c hc => in_signs (h3 c hc)⟩⟩
section
variable {st : Store}
@[simp] theorem isi_str_str (z : Str) : fIsi [.str z, .ty "str"] st = .ok (.bl true) st := by unfold fIsi; simp [tyOf, show "str" ∈ tyCs by decide +kernel, show isTy "str" "str" = true by decide +kernel]
@[simp] theorem isi_tup_tup (z : List D) : fIsi [.tup z, .ty "tuple"] st = .ok (.bl true) st := by unfold fIsi; simp [tyOf, show "tuple" ∈ tyCs by decide +kernel, show isTy "tuple" "tuple" = true by decide +kernel]
@[simp] theorem isi_bl_bool (z : Bool) : fIsi [.bl z, .ty "bool"] st = .ok (.bl true) st := by unfold fIsi; simp [tyOf, show "bool" ∈ tyCs by decide +kernel, show isTy "bool" "bool" = true by decide +kernel]
@[simp] theorem isi_int_int (z : Int) : fIsi [.int z, .ty "int"] st = .ok (.bl true) st := by unfold fIsi; simp [tyOf, show "int" ∈ tyCs by decide +kernel, show isTy "int" "int" = true by decide +kernel]
@[simp] theorem isi_int_bool (z : Int) : fIsi [.int z, .ty "bool"] st = .ok (.bl false) st := by unfold fIsi; simp [tyOf, show "bool" ∈ tyCs by decide +kernel, show isTy "int" "bool" = false by decide +kernel]
theorem inB_sign (c : Nat) (z : Str) : inB (.str ⟨#[c]⟩) (.str z) st = some (decide (c ∈ z.cps.toList)) := rfl
end
theorem m_want (w : Str) : m_is_want [.str w] = .ok (.bl (isWord w)) := by
  refine pureOf_rt (st := []) (d := .bl (isWord w)) rfl ?_ (by simp [frz, frz0])
  have h := compL_map (fun c => D.str ⟨#[c]⟩) (n0 := 0) (g := gName 1) (r := rBin fIn (rVar 1) (rC (.str "abcdefghijklmnopqrstuvwxyz"))) (e := [some (.str w), none]) (st := []) rfl (fun c => .bl (decide (c ∈ ("abcdefghijklmnopqrstuvwxyz" : Str).cps.toList))) w.cps.toList fun c _ => ⟨[some (.str w), some (.str ⟨#[c]⟩)], by simp, by simp [inB_sign]⟩
  by_cases h1 : 1 ≤ w.length ∧ w.length ≤ 8
  · obtain ⟨h1, h2⟩ := h1
    simp [run_is_want, h1, h2, show ((1 : Int) ≤ w.length) by omega, show ((w.length : Int) ≤ 8) by omega, h, asBools_map, isWord, List.all_map]
  · have e : isWord w = false := by
      unfold isWord
      have : (decide (1 ≤ w.length) && decide (w.length ≤ 8)) = false := by simp; omega
      rw [this]; rfl
    rw [e]
    by_cases h2 : 1 ≤ w.length
    · have h3 : ¬ w.length ≤ 8 := fun q => h1 ⟨h2, q⟩
      simp [run_is_want, show ((1 : Int) ≤ w.length) by omega, show ¬ ((w.length : Int) ≤ 8) by omega]
    · simp [run_is_want, show ¬ ((1 : Int) ≤ w.length) by omega]
def hows : List Str := ["now", "late", "maybe"]
def spans : List Str := ["one", "scope", "each"]
def OkM : Mk → Prop
  | .as w => Word w
  | .made ns sp _ br => ns.length ≤ 3 ∧ (∀ p ∈ ns, p.1 ∈ hows ∧ Word p.2) ∧ sp ∈ spans ∧ 0 ≤ br ∧ br ≤ 3
structure OkB (b : Bks) : Prop where
  len : b.length ≤ 6
  row : ∀ r ∈ b, Word r.1 ∧ OkM r.2
  srt : (names b).Pairwise fun x y => ltS x y = true
theorem m_oneK (x : Str) (l : List Str) : m_is_one_of [.str x, .ktup l] = .ok (.bl (decide (x ∈ l))) := by
  refine pureOf_rt (st := []) (d := .bl (decide (x ∈ l))) rfl ?_ (by simp [frz, frz0])
  simp [run_is_one_of, inB_ktup]
theorem m_oneT (x : Str) (l : List Str) : m_is_one_of [.str x, .tup (l.map .str)] = .ok (.bl (decide (x ∈ l))) := by
  refine pureOf_rt (st := []) (d := .bl (decide (x ∈ l))) rfl ?_ (by simp [frz, frz0])
  simp [run_is_one_of, inB_tstrs]
theorem m_need (p : Str × Str) : m_is_need [pairD p] = .ok (.bl (decide (p.1 ∈ hows) && isWord p.2)) := by
  refine pureOf_rt (st := []) (d := .bl (decide (p.1 ∈ hows) && isWord p.2)) rfl ?_ (by simp [frz, frz0])
  have h1 := m_oneK p.1 ["now", "late", "maybe"]
  by_cases h : p.1 ∈ hows
  · have h2 : decide (p.1 ∈ (["now", "late", "maybe"] : List Str)) = true := decide_eq_true h
    rw [h2] at h1
    simp only [h, decide_true, Bool.true_and]
    simp [run_is_need, pairD, h1, m_want]
  · have h2 : decide (p.1 ∈ (["now", "late", "maybe"] : List Str)) = false := decide_eq_false h
    rw [h2] at h1
    simp only [h, decide_false, Bool.false_and]
    simp [run_is_need, pairD, h1, m_want]
theorem m_between {i lo hi : Int} : m_is_between [.int i, .int lo, .int hi] = .ok (.bl (decide (lo ≤ i) && decide (i ≤ hi))) := by
  refine pureOf_rt (st := []) (d := .bl (decide (lo ≤ i) && decide (i ≤ hi))) rfl ?_ (by simp [frz, frz0])
  by_cases h : lo ≤ i <;> simp [run_is_between, h]
theorem m_mk {m : Mk} (h : OkM m) : m_is_maker [encM m] = .ok (.bl true) := by
  cases m with
  | as w =>
    refine pureOf_rt (st := []) (d := .bl true) rfl ?_ (by simp [frz, frz0])
    have h1 := m_oneT "as" ["as", "made"]
    simp at h1
    simp [run_is_maker, encM, h1, m_want, isWord_iff.mpr h]
  | made ns sp en br =>
    obtain ⟨h1, h2, h3, h4, h5⟩ := h
    refine pureOf_rt (st := []) (d := .bl true) rfl ?_ (by simp [frz, frz0])
    have k1 := m_oneT "made" ["as", "made"]
    simp at k1
    have hc := compL_map pairD (n0 := 0) (g := gName 1) (r := rP m_is_need (aCons (rVar 1) (aNil))) (e := [some (encM (.made ns sp en br)), none]) (st := []) rfl (fun p => .bl (decide (p.1 ∈ hows) && isWord p.2)) ns fun p _ => ⟨[some (encM (.made ns sp en br)), some (pairD p)], by simp, by simp [m_need]⟩
    simp only [encM] at hc
    have k2 := m_oneK sp ["one", "scope", "each"]
    have k3 : decide (sp ∈ (["one", "scope", "each"] : List Str)) = true := decide_eq_true h3
    rw [k3] at k2
    have k4 : (ns.map fun p => (decide (p.1 ∈ hows) && isWord p.2)).all id = true := by
      simp only [List.all_map, List.all_eq_true, Function.comp, id, Bool.and_eq_true, decide_eq_true_eq]
      exact fun p hp => ⟨(h2 p hp).1, isWord_iff.mpr (h2 p hp).2⟩
    have k5 := asBools_map (fun p : Str × Str => (decide (p.1 ∈ hows) && isWord p.2)) ns
    simp [run_is_maker, encM, k1, show ¬ (3 : Int) < ns.length by omega, hc, k5, k4, k2, m_between, h4, h5]
theorem m_row {r : Str × Mk} (h : Word r.1 ∧ OkM r.2) : m_is_row [encR r] = .ok (.bl true) := by
  refine pureOf_rt (st := []) (d := .bl true) rfl ?_ (by simp [frz, frz0])
  simp [run_is_row, encR, m_want, isWord_iff.mpr h.1, m_mk h.2]
theorem all_true {α : Type} (l : List α) : (l.map fun _ => true).all id = true := by simp
theorem m_books {b : Bks} (h : OkB b) : m_are_books [encB b] = .ok (.bl true) := by
  refine pureOf_rt (st := []) (d := .bl true) rfl ?_ (by simp [frz, frz0])
  have hc := compL_map encR (n0 := 0) (g := gName 1) (r := rP m_is_row (aCons (rVar 1) (aNil))) (e := [some (encB b), none, none]) (st := []) rfl (fun p => .bl true) b fun p hp => ⟨[some (encB b), some (encR p), none], by simp, by simp [m_row (h.row p hp)]⟩
  have hc2 := compL_map (fun k : Nat => D.int (k : Int)) (n0 := 0) (g := gName 2) (r := rBin fLt (rBin fSub2 (rBin fSub2 (rVar 0) (rVar 2)) (rC (.int 0))) (rBin fSub2 (rBin fSub2 (rVar 0) (rBin fAdd (rVar 2) (rC (.int 1)))) (rC (.int 0)))) (e := [some (encB b), none, none]) (st := []) rfl (fun _ => .bl true) (List.range (b.length - 1)) fun k hk => by
    have hk' : k + 1 < b.length := by simp at hk; omega
    have e1 : atI (b.map encR) (k : Int) = some (encR b[k]) := by rw [atI_nn, List.getElem?_map, List.getElem?_eq_getElem (by omega)]; rfl
    have e2 : atI (b.map encR) ((k : Int) + 1) = some (encR b[k + 1]) := by
      rw [show ((k : Int) + 1) = ((k + 1 : Nat) : Int) by omega, atI_nn, List.getElem?_map, List.getElem?_eq_getElem hk']; rfl
    have e3 : ltS b[k].1 b[k + 1].1 = true := by
      have := List.pairwise_iff_getElem.mp h.srt k (k + 1) (by simp [names]; omega) (by simp [names]; omega) (by omega)
      simpa [names] using this
    exact ⟨[some (encB b), none, some (.int k)], by simp, by simp [encB, e1, e2, encR, e3]⟩
  have k5 := asBools_map (fun _ : Str × Mk => true) b
  have k6 := asBools_map (fun _ : Nat => true) (List.range (b.length - 1))
  have k7 := h.len
  simp only [encB] at hc hc2
  simp [run_are_books, encB, show ¬ (6 : Int) < b.length by omega, hc, k5, itRng1_ok (n := (b.length : Int) - 1) (by omega) (by omega), hc2, k6]
theorem m_chk {b : Bks} (h : OkB b) : m_checked [encB b] = .ok (encB b) := by
  refine pureOf_rt (st := []) (d := encB b) rfl ?_ (by simp [frz, frz0, encB])
  simp [run_checked, m_books h]
end Py

set_option Elab.async false
set_option linter.all false
set_option maxRecDepth 100000
set_option maxHeartbeats 1000000
set_option autoImplicit false
namespace Py
open PySem
theorem atI_last (q : List Str) (l : Str) : atI ((q ++ [l]).map D.str) (-1) = some (.str l) := by
  rw [atI_m1 _ (by simp)]; simp
theorem lst_cut (z : Str) (lo hi : Option Int) : (Str.mk (cut z.cps.toList lo hi).toArray).cps.toList = cut z.cps.toList lo hi := by simp
theorem m_words {ns : List Int} {k : Int} (hk : 0 ≤ k) : ∃ ws : List Str, m_law_words [.scr ns, .int k, .int 6] = .ok (.lst (ws.map .str)) ∧ ws.length = 6 ∧ ∀ w ∈ ws, Word w := by
  obtain ⟨w0, hw0, hW0⟩ := m_fresh (ns := ns) hk
  obtain ⟨e', st', hf, q, l, o4, o5, o6, o7, o8, he, hst, hl, hs⟩ := forL_inv (n0 := 1) (g := gName 4) (b := lp_law_words_1) (fun k : Nat => D.int (1 + (k : Int)))
    (fun pre e st => ∃ (q : List Str) (l : Str) (o4 o5 o6 o7 o8 : Option D), e = [some (.scr ns), some (.int k), some (.int 6), some (.ref 0), o4, o5, o6, o7, o8] ∧ st = [.lst ((q ++ [l]).map .str)] ∧ (q ++ [l]).length = pre.length + 1 ∧ ∀ w ∈ q ++ [l], Word w)
    (List.range 5) [] [some (.scr ns), some (.int k), some (.int 6), some (.ref 0), none, none, none, none, none] [.lst [.str w0]] ⟨[], w0, _, _, _, _, _, rfl, rfl, rfl, by simpa using hW0⟩
    fun p a q' e st hpq ⟨q, l, o4, o5, o6, o7, o8, he, hst, hl, hs⟩ => by
      subst he hst
      have hpl : p.length < 6 := by
        have := congrArg List.length hpq
        simp at this
        omega
      have hql : q.length < 10 := by simp at hl; omega
      have hlW : Word l := hs l (by simp)
      obtain ⟨hl1, hl2, hl3⟩ := hlW
      have e1 := atI_last q l
      have g0 : (0 : Int) ≤ k + 12 * (1 + a) := by omega
      have m12 : lim64 12 = true := rfl
      have new : ∀ x : Str, Word x → lp_law_words_1 [some (.scr ns), some (.int k), some (.int 6), some (.ref 0), some (.int (1 + (a : Int))), o5, o6, o7, o8] [.lst ((q ++ [l]).map .str)] = .nx [some (.scr ns), some (.int k), some (.int 6), some (.ref 0), some (.int (1 + (a : Int))), some (.int (k + 12 * (1 + (a : Int)))), some (.str l), some (.int (mixed ns (k + 12 * (1 + (a : Int)) + 10) 4)), o8] [.lst ((q ++ [l] ++ [x]).map .str)] ∨ (∃ o8', lp_law_words_1 [some (.scr ns), some (.int k), some (.int 6), some (.ref 0), some (.int (1 + (a : Int))), o5, o6, o7, o8] [.lst ((q ++ [l]).map .str)] = .nx [some (.scr ns), some (.int k), some (.int 6), some (.ref 0), some (.int (1 + (a : Int))), some (.int (k + 12 * (1 + (a : Int)))), some (.str l), some (.int (mixed ns (k + 12 * (1 + (a : Int)) + 10) 4)), o8'] [.lst ((q ++ [l] ++ [x]).map .str)]) →
          ∃ e1 e2 st2, gName 4 (.int (1 + (a : Int))) [some (.scr ns), some (.int k), some (.int 6), some (.ref 0), o4, o5, o6, o7, o8] = some e1 ∧ lp_law_words_1 e1 [.lst ((q ++ [l]).map .str)] = .nx e2 st2 ∧ st2.length = 1 ∧ ∃ (q : List Str) (l : Str) (o4 o5 o6 o7 o8 : Option D), e2 = [some (.scr ns), some (.int k), some (.int 6), some (.ref 0), o4, o5, o6, o7, o8] ∧ st2 = [.lst ((q ++ [l]).map .str)] ∧ (q ++ [l]).length = (p ++ [a]).length + 1 ∧ ∀ w ∈ q ++ [l], Word w := by
        intro x hx hh
        have fin : ∀ w ∈ q ++ [l] ++ [x], Word w := fun w hw => by
          rcases List.mem_append.mp hw with h | h
          · exact hs w h
          · simp at h; rw [h]; exact hx
        rcases hh with hh | ⟨o8', hh⟩
        · exact ⟨_, _, _, rfl, hh, rfl, q ++ [l], x, _, _, _, _, _, rfl, rfl, by simp at hl ⊢; omega, fin⟩
        · exact ⟨_, _, _, rfl, hh, rfl, q ++ [l], x, _, _, _, _, _, rfl, rfl, by simp at hl ⊢; omega, fin⟩
      simp only [List.map_append, List.map_cons, List.map_nil] at e1
      by_cases w0 : mixed ns (k + 12 * (1 + (a : Int)) + 10) 4 = 0
      · obtain ⟨f, hf, hF⟩ := m_fresh (ns := ns) (k := k + 12 * (1 + (a : Int))) g0
        refine new f hF (.inl ?_)
        simp [lp_law_words_1, m12, e1, m_mixed (ns := ns) (k := k + 12 * (1 + (a : Int)) + 10) (many := 4) (by omega) (by omega), w0, hf, show q.length + 1 < 16777216 by omega]
      · obtain ⟨c, hc, hC⟩ := m_sign (ns := ns) (k := k + 12 * (1 + (a : Int))) g0
        by_cases w1 : mixed ns (k + 12 * (1 + (a : Int)) + 10) 4 = 1 ∧ l.length < 8
        · obtain ⟨w1, w2⟩ := w1
          refine new (l ++ ⟨#[c]⟩) ⟨by simp, by simp; omega, fun x hx => ?_⟩ (.inl ?_)
          · simp at hx
            rcases hx with hx | hx
            · exact hl3 x (by simpa using hx)
            · rw [hx]; exact hC
          · simp [lp_law_words_1, m12, e1, m_mixed (ns := ns) (k := k + 12 * (1 + (a : Int)) + 10) (many := 4) (by omega) (by omega), w1, hc, show q.length + 1 < 16777216 by omega, show (l.length : Int) < 8 by omega, show l.length + 1 ≤ 16777216 by omega]
        · have p1 := mixed_nn (ns := ns) (k := k + 12 * (1 + (a : Int)) + 11) (many := l.length) (by omega)
          have p2 := mixed_lt (ns := ns) (k := k + 12 * (1 + (a : Int)) + 11) (many := l.length) (by omega)
          have c1 := cut_none_len l.cps.toList p1
          have c2 := cut_some_len l.cps.toList (i := mixed ns (k + 12 * (1 + (a : Int)) + 11) l.length + 1) (by omega)
          rw [str_len_list] at c1 c2
          have len : (Str.mk (cut l.cps.toList none (some (mixed ns (k + 12 * (1 + (a : Int)) + 11) l.length))).toArray ++ (⟨#[c]⟩ : Str) ++ Str.mk (cut l.cps.toList (some (mixed ns (k + 12 * (1 + (a : Int)) + 11) l.length + 1)) none).toArray).length = l.length := by
            simp [c1, c2]; omega
          refine new (Str.mk (cut l.cps.toList none (some (mixed ns (k + 12 * (1 + (a : Int)) + 11) l.length))).toArray ++ (⟨#[c]⟩ : Str) ++ Str.mk (cut l.cps.toList (some (mixed ns (k + 12 * (1 + (a : Int)) + 11) l.length + 1)) none).toArray) ⟨by omega, by omega, fun x hx => ?_⟩ (.inr ⟨some (.int (mixed ns (k + 12 * (1 + (a : Int)) + 11) l.length)), ?_⟩)
          · simp at hx
            rcases hx with hx | hx | hx
            · exact hl3 x (cut_mem hx)
            · rw [hx]; exact hC
            · exact hl3 x (cut_mem hx)
          · by_cases v1 : mixed ns (k + 12 * (1 + (a : Int)) + 10) 4 = 1
            · have v2 : ¬ (l.length : Int) < 8 := fun q => w1 ⟨v1, by omega⟩
              simp [lp_law_words_1, m12, e1, m_mixed (ns := ns) (k := k + 12 * (1 + (a : Int)) + 10) (many := 4) (by omega) (by omega), v1, v2, hc, m_mixed (ns := ns) (k := k + 12 * (1 + (a : Int)) + 11) (many := l.length) (by omega) (by omega), show q.length + 1 < 16777216 by omega, c1, c2]
              rw [if_pos (by omega)]
              simp
              rw [if_pos (by omega)]
              simp [show q.length + 1 < 16777216 by omega]
            · simp [lp_law_words_1, m12, e1, m_mixed (ns := ns) (k := k + 12 * (1 + (a : Int)) + 10) (many := 4) (by omega) (by omega), w0, v1, hc, m_mixed (ns := ns) (k := k + 12 * (1 + (a : Int)) + 11) (many := l.length) (by omega) (by omega), show q.length + 1 < 16777216 by omega, c1, c2]
              rw [if_pos (by omega)]
              simp
              rw [if_pos (by omega)]
              simp [show q.length + 1 < 16777216 by omega]
  subst he hst
  refine ⟨q ++ [l], pureOf_rt (st := [.lst ((q ++ [l]).map .str)]) (d := .ref 0) rfl ?_ (by simp [frz, frz0]), by simpa using hl, hs⟩
  have hi := itRng2_ok (st := [.lst [.str w0]]) (lo := 1) (n := 6) (by omega) (by omega) (by omega) (by omega)
  rw [show ((6 : Int) - 1).toNat = 5 from rfl] at hi
  simp [run_law_words, hw0, hi, hf]
end Py
namespace Py
open PySem
/-! ### names -/
theorem merge_dom (v : D) : ∀ (ws : List Str) (acc : List (Key × D)) (us : List Str), acc.map (·.1) = us.map Sum.inr → us.Nodup →
    ∃ us' : List Str, (merge acc (ws.map fun w => ((Sum.inr w : Key), v))).map (·.1) = us'.map Sum.inr ∧ us'.Nodup ∧ (∀ x, x ∈ us' ↔ x ∈ us ∨ x ∈ ws) ∧ us'.length ≤ us.length + ws.length
  | [], acc, us, h, nd => ⟨us, h, nd, by simp, by simp⟩
  | w :: ws, acc, us, h, nd => by
    by_cases hw : w ∈ us
    · obtain ⟨us', h1, h2, h3, h4⟩ := merge_dom v ws (put acc (.inr w) v) us (by rw [put_dom, h]; rw [if_pos (List.mem_map.mpr ⟨w, hw, rfl⟩)]) nd
      refine ⟨us', h1, h2, fun x => ?_, by simp; omega⟩
      rw [h3]
      simp only [List.mem_cons]
      exact ⟨fun q => q.elim .inl fun q => .inr (.inr q), fun q => q.elim .inl fun q => q.elim (fun e => .inl (e ▸ hw)) .inr⟩
    · obtain ⟨us', h1, h2, h3, h4⟩ := merge_dom v ws (put acc (.inr w) v) (us ++ [w]) (by
        rw [put_dom, h, if_neg (fun q => by obtain ⟨x, h1, h2⟩ := List.mem_map.mp q; cases h2; exact hw h1)]; simp)
        (by rw [List.nodup_append]; exact ⟨nd, by simp, fun a ha b hb e => by simp at hb; subst hb; exact hw (e ▸ ha)⟩)
      refine ⟨us', h1, h2, fun x => ?_, by simp at h4 ⊢; omega⟩
      rw [h3]
      simp [or_assoc]
theorem pairsK_strs (v : D) : ∀ (ws : List Str), pairsK (ws.map fun w => .tup [.str w, v]) = some (ws.map fun w => ((Sum.inr w : Key), v))
  | [] => rfl
  | w :: ws => by simp [pairsK, keyOf, pairsK_strs v ws]
theorem fDict_strs {st : Store} (v : D) (ws : List Str) : fDict [.lst (ws.map fun w => .tup [.str w, v])] st = .ok (.ref st.length) (st ++ [.dK (merge [] (ws.map fun w => ((Sum.inr w : Key), v)))]) := by
  unfold fDict; simp [pairsK_strs]
theorem keys_kD {l : List (Key × D)} {us : List Str} (h : l.map (·.1) = us.map Sum.inr) : (l.map fun p => kD p.1) = us.map .str := by
  have : (l.map fun p => kD p.1) = (l.map (·.1)).map kD := by rw [List.map_map]; rfl
  rw [this, h, List.map_map]; rfl
structure Names (ws : List Str) : Prop where
  pos : 1 ≤ ws.length
  len : ws.length ≤ 6
  nd : ws.Nodup
  word : ∀ w ∈ ws, Word w
theorem m_names {ns : List Int} {k : Int} (hk : 0 ≤ k) : ∃ ws : List Str, m_law_names [.scr ns, .int k] = .ok (.lst (ws.map .str)) ∧ Names ws := by
  obtain ⟨ws, h1, h2, h3⟩ := m_words (ns := ns) hk
  have p1 := mixed_nn (ns := ns) (k := k + 90) (many := 6) (by omega)
  have p2 := mixed_lt (ns := ns) (k := k + 90) (many := 6) (by omega)
  obtain ⟨us, g1, g2, g3, g4⟩ := merge_dom (.bl true) (ws.take (1 + mixed ns (k + 90) 6).toNat) [] [] rfl List.nodup_nil
  have hlen : (ws.take (1 + mixed ns (k + 90) 6).toNat).length = (1 + mixed ns (k + 90) 6).toNat := by rw [List.length_take]; omega
  refine ⟨us, pureOf_rt (d := .lst (us.map .str)) (st := [.dK (merge [] ((ws.take (1 + mixed ns (k + 90) 6).toNat).map fun w => ((Sum.inr w : Key), D.bl true)))]) rfl ?_ (by simp [frz, frz0]), ?_, ?_, g2, fun w hw => ?_⟩
  · have hc := compL_map D.str (n0 := 0) (g := gName 3) (r := rTup (aCons (rVar 3) (aCons (rC (.bl true)) (aNil)))) (e := [some (.scr ns), some (.int k), some (.lst (ws.map .str)), none]) (st := []) rfl (fun w => .tup [.str w, .bl true]) (ws.take (1 + mixed ns (k + 90) 6).toNat) fun w _ => ⟨[some (.scr ns), some (.int k), some (.lst (ws.map .str)), some (.str w)], by simp, by simp⟩
    have hct := cut_take (ws.map D.str) (i := 1 + mixed ns (k + 90) 6) (by omega)
    rw [← List.map_take] at hct
    have hd := fDict_strs (st := []) (.bl true) (ws.take (1 + mixed ns (k + 90) 6).toNat)
    have hk' := keys_kD g1
    have hm := m_mixed (ns := ns) (k := k + 90) (many := 6) (by omega) (by omega)
    simp only [run_law_names, sSeq_ap, sSet_ap, rP_ap, aCons_ap, rVar_ap, startE_2, List.replicate, List.getElem?_cons_zero, List.getElem?_cons_succ, rVal_some, Res.bd_ok, rC_ap, aNil_ap, List.all_cons, List.all_nil, bel_scr, bel_int, Bool.and_self, if_true, h1, PRes.toR_ok, Res.toS_ok, SR.bind_nx, List.set_cons_zero, List.set_cons_succ, sRet_ap, rFrz_ap, lCall_ap, rCall_ap, lComp_ap, iAny_ap, rSl_ap, oNone_ap, oSome_ap, rBin_ap, fAdd_ii, hm, asI_int, fSl_lst, hct, itAny_lst, wipe_cons, wipe_nil, List.length_nil]
    rw [hc]
    simp only [Res.bd_ok, hd, List.length_nil, List.nil_append, fList_ref, List.getElem?_cons_zero, listO_dK, hk', Res.toS_ok]
  · cases us with
    | nil =>
      have : ∃ x, x ∈ ws.take (1 + mixed ns (k + 90) 6).toNat := List.exists_mem_of_length_pos (by omega)
      obtain ⟨x, hx⟩ := this
      have := (g3 x).mpr (.inr hx)
      cases this
    | cons => simp
  · simp at g4; omega
  · have := (g3 w).mp hw
    simp at this
    exact h3 w (List.mem_of_mem_take this)
/-! ### rows -/
def encK (b : Bks) : List (Key × D) := b.map fun r => (.inr r.1, encM r.2)
theorem encK_keys (b : Bks) : (encK b).map (·.1) = (names b).map Sum.inr := by simp [encK, names]
theorem put_new (b : Bks) (w : Str) (m : Mk) (h : w ∉ names b) : put (encK b) (.inr w) (encM m) = encK (b ++ [(w, m)]) := by
  unfold put
  rw [if_neg]
  · simp [encK]
  · intro q
    obtain ⟨p, hp, hq⟩ := List.any_eq_true.mp q
    have := of_decide_eq_true hq
    obtain ⟨r, hr, e⟩ := List.mem_map.mp hp
    subst e
    cases this
    exact h (List.mem_map.mpr ⟨r, hr, rfl⟩)
theorem look_encK (b : Bks) (w : Str) : look (encK b) (.inr w) = (mkOf b w).map encM := by
  unfold look mkOf encK
  induction b with
  | nil => rfl
  | cons r b ih =>
    rw [List.map_cons, List.find?_cons, List.find?_cons]
    by_cases e : r.1 = w
    · rw [decide_eq_true e, decide_eq_true (by rw [e])]; rfl
    · rw [decide_eq_false e, decide_eq_false (fun q => e (Sum.inr.inj q))]; exact ih
def rowsOf (b : Bks) : Bks := (isort leS (names b)).filterMap fun w => (mkOf b w).map (w, ·)
theorem isort_mem {l : List Str} {x : Str} : x ∈ isort leS l ↔ x ∈ l := (isort_perm leS l).mem_iff
theorem rows_enc (b : Bks) : ∀ l : List Str, (∀ w ∈ l, w ∈ names b) → l.map (fun w => D.tup [.str w, ((mkOf b w).map encM).getD .non]) = (l.filterMap fun w => (mkOf b w).map (w, ·)).map encR
  | [], _ => rfl
  | w :: l, h => by
    have ih := rows_enc b l fun x hx => h x (List.mem_cons_of_mem _ hx)
    cases q : mkOf b w with
    | none => exact absurd (h w List.mem_cons_self) (mkOf_none.mp q)
    | some m =>
      rw [List.map_cons, ih, List.filterMap_cons]
      simp [q, encR]
theorem m_rows (b : Bks) (hb : b.length < 64) (i : Nat) (st : Store) (h : st[i]? = some (.dK (encK b))) : m_law_rows [.ref i] st = .ok (encB (rowsOf b)) st := by
  refine stOf_rt rfl ?_ rfl (by simp)
  have hk := keys_kD (encK_keys b)
  have hs := fSorted2_strs (st := st) (names b) (by simpa [names] using hb)
  have hc := compL_map D.str (n0 := st.length) (g := gName 1) (r := rTup (aCons (rVar 1) (aCons (rBin fSub2 (rVar 0) (rVar 1)) (aNil)))) (e := [some (.ref i), none]) (st := st) rfl (fun w => D.tup [.str w, ((mkOf b w).map encM).getD .non]) (isort leS (names b)) fun w hw => ⟨[some (.ref i), some (.str w)], by simp, by
    have hw' := isort_mem.mp hw
    cases q : mkOf b w with
    | none => exact absurd hw' (mkOf_none.mp q)
    | some m => simp [h, look_encK, q]⟩
  rw [rows_enc b _ (fun w hw => isort_mem.mp hw)] at hc
  simp [run_law_rows, h, hk, hs, hc, encB, rowsOf]
theorem rows_names (b : Bks) : names (rowsOf b) = isort leS (names b) := by
  have : ∀ l : List Str, (∀ w ∈ l, w ∈ names b) → (l.filterMap fun w => (mkOf b w).map (w, ·)).map (·.1) = l := by
    intro l
    induction l with
    | nil => intro _; rfl
    | cons w l ih =>
      intro h
      cases q : mkOf b w with
      | none => exact absurd (h w List.mem_cons_self) (mkOf_none.mp q)
      | some m =>
        rw [List.filterMap_cons]
        simp [q, ih fun x hx => h x (List.mem_cons_of_mem _ hx)]
  exact this _ fun w hw => isort_mem.mp hw
theorem rows_mem {b : Bks} (nd : (names b).Nodup) {r : Str × Mk} : r ∈ rowsOf b ↔ r ∈ b := by
  unfold rowsOf
  rw [List.mem_filterMap]
  constructor
  · rintro ⟨w, hw, h⟩
    cases q : mkOf b w with
    | none => rw [q] at h; cases h
    | some m => rw [q] at h; cases h; exact mkOf_mem q
  · intro h
    refine ⟨r.1, isort_mem.mpr (List.mem_map.mpr ⟨r, h, rfl⟩), ?_⟩
    rw [mkOf_of_mem nd (w := r.1) (m := r.2) h]; rfl
theorem isort_nodup {l : List Str} (nd : l.Nodup) : (isort leS l).Nodup := (isort_perm leS l).nodup_iff.mpr nd
theorem isort_strict {l : List Str} (nd : l.Nodup) : (isort leS l).Pairwise fun x y => ltS x y = true := by
  have h1 := isort_sorted leS_total (fun _ _ _ => leS_trans) l
  have h2 : (isort leS l).Pairwise (· ≠ ·) := isort_nodup nd
  refine (h1.and h2).imp fun {a b} h => ?_
  obtain ⟨h, hn⟩ := h
  rcases ltS_tri a b with q | q | q
  · exact q
  · exact absurd q hn
  · unfold leS at h; rw [q] at h; cases h
theorem strict_nodup {l : List Str} (h : l.Pairwise fun x y => ltS x y = true) : l.Nodup := h.imp fun {a b} h e => by subst e; rw [ltS_irrefl] at h; cases h
theorem OkB.nd {b : Bks} (h : OkB b) : (names b).Nodup := strict_nodup h.srt
theorem rows_ok {b : Bks} (nd : (names b).Nodup) (hl : b.length ≤ 6) (hr : ∀ r ∈ b, Word r.1 ∧ OkM r.2) : OkB (rowsOf b) := by
  refine ⟨?_, fun r h => hr r ((rows_mem nd).mp h), by rw [rows_names]; exact isort_strict nd⟩
  have := congrArg List.length (rows_names b)
  simp only [names, List.length_map] at this
  rw [this, (isort_perm leS _).length_eq, List.length_map]; exact hl
theorem rows_mk {b : Bks} (nd : (names b).Nodup) (w : Str) : mkOf (rowsOf b) w = mkOf b w := by
  have nd' : (names (rowsOf b)).Nodup := by rw [rows_names]; exact isort_nodup nd
  cases q : mkOf b w with
  | none => 
    rw [mkOf_none] at q ⊢
    rw [rows_names, isort_mem]; exact q
  | some m => exact mkOf_of_mem nd' ((rows_mem nd).mpr (mkOf_mem q))
end Py

set_option Elab.async false
set_option linter.all false
set_option maxRecDepth 100000
set_option maxHeartbeats 1000000
set_option autoImplicit false
namespace Py
open PySem
theorem atI_mem {l : List D} {i : Int} (h0 : 0 ≤ i) (h : i < l.length) {P : D → Prop} (hp : ∀ d ∈ l, P d) : ∃ d, atI l i = some d ∧ P d := by
  obtain ⟨d, h1, h2⟩ := atI_in l h0 h
  exact ⟨d, h1, hp d h2⟩
theorem at_counts {i : Int} (h0 : 0 ≤ i) (h : i < 5) (a : Int) (ha : 0 ≤ a ∧ a ≤ 3) : ∃ n : Int, atI [D.int 2, .int 1, .int 3, .int 0, .int a] i = some (.int n) ∧ 0 ≤ n ∧ n ≤ 3 := by
  obtain ⟨d, h1, n, h2, h3⟩ := atI_mem (l := [D.int 2, .int 1, .int 3, .int 0, .int a]) h0 (by simpa using h) (P := fun d => ∃ n : Int, d = .int n ∧ 0 ≤ n ∧ n ≤ 3) (by
    intro d hd
    simp at hd
    rcases hd with e | e | e | e | e <;> exact ⟨_, e, by omega, by omega⟩)
  exact ⟨n, by rw [h1, h2], h3⟩
theorem at_hows {i : Int} (h0 : 0 ≤ i) (h : i < 4) : ∃ n : Str, atI [D.str "now", .str "now", .str "maybe", .str "late"] i = some (.str n) ∧ (n = "now" ∨ n = "maybe" ∨ n = "late") := by
  obtain ⟨d, h1, n, h2, h3⟩ := atI_mem (l := [D.str "now", .str "now", .str "maybe", .str "late"]) h0 (by simpa using h) (P := fun d => ∃ n : Str, d = .str n ∧ (n = "now" ∨ n = "maybe" ∨ n = "late")) (by
    intro d hd
    simp at hd
    rcases hd with e | e | e <;> exact ⟨_, e, by simp⟩)
  exact ⟨n, by rw [h1, h2], h3⟩
theorem at_spans {i : Int} (h0 : 0 ≤ i) (h : i < 3) : ∃ n : Str, atI [D.str "one", .str "scope", .str "each"] i = some (.str n) ∧ n ∈ spans := by
  obtain ⟨d, h1, n, h2, h3⟩ := atI_mem (l := [D.str "one", .str "scope", .str "each"]) h0 (by simpa using h) (P := fun d => ∃ n : Str, d = .str n ∧ n ∈ spans) (by
    intro d hd
    simp at hd
    rcases hd with e | e | e <;> exact ⟨_, e, by simp [spans]⟩)
  exact ⟨n, by rw [h1, h2], h3⟩
theorem at_strs {l : List Str} {i : Int} (h0 : 0 ≤ i) (h : i < l.length) : ∃ w, atI (l.map D.str) i = some (.str w) ∧ w ∈ l := by
  obtain ⟨w, h1, h2⟩ := atI_in l h0 h
  exact ⟨w, by rw [atI_map, h1]; rfl, h2⟩
theorem how_ok {h : Str} (e : h = "now" ∨ h = "maybe" ∨ h = "late") : h ∈ hows := by
  unfold hows; rcases e with e | e | e <;> simp [e]
theorem q_cps : ("q" : Str).cps = #[113] := by decide +kernel
theorem x_cps : ("x" : Str).cps = #[120] := by decide +kernel
theorem q_len : ("q" : Str).length = 1 := by decide +kernel
theorem x_len : ("x" : Str).length = 1 := by decide +kernel
theorem word_q {w : Str} (h : Word w) : Word (Str.mk (cut w.cps.toList none (some 7)).toArray ++ "q") := by
  obtain ⟨h1, h2, h3⟩ := h
  have c := cut_none_len w.cps.toList (i := 7) (by omega)
  rw [str_len_list] at c
  refine ⟨by simp [q_len], by simp [q_len, c]; omega, fun x hx => ?_⟩
  simp [q_cps] at hx
  rcases hx with hx | hx
  · exact h3 x (cut_mem hx)
  · subst hx; unfold Sign; omega
theorem word_x {w : Str} (h : Word w) (hl : (w ++ ("x" : Str)).length < 9) : Word (w ++ ("x" : Str)) := by
  obtain ⟨h1, h2, h3⟩ := h
  refine ⟨by simp [x_len], by omega, fun x hx => ?_⟩
  simp [x_cps] at hx
  rcases hx with hx | hx
  · exact h3 x (by simpa using hx)
  · subst hx; unfold Sign; omega
theorem m_loosem {ns : List Int} {k : Int} (hk : 0 ≤ k) {ws : List Str} (hp : 1 ≤ ws.length) (hl : ws.length ≤ 6) (hw : ∀ w ∈ ws, Word w) : ∃ m : Mk, m_law_loose_maker [.scr ns, .int k, .lst (ws.map .str)] = .ok (encM m) ∧ OkM m := by
  obtain ⟨w0, e0, hw0⟩ := at_strs (l := ws) (i := 0) (by omega) (by omega)
  simp only [atI_0] at e0
  have hq := word_q (hw w0 hw0)
  have c := cut_none_len w0.cps.toList (i := 7) (by omega)
  rw [str_len_list] at c
  obtain ⟨some', hsm⟩ : ∃ l : List Str, l = ws ++ [Str.mk (cut w0.cps.toList none (some 7)).toArray ++ "q"] := ⟨_, rfl⟩
  have hsl : some'.length = ws.length + 1 := by rw [hsm]; simp
  have hsw : ∀ w ∈ some', Word w := fun w h => by
    rw [hsm] at h
    rcases List.mem_append.mp h with h | h
    · exact hw w h
    · simp at h; rw [h]; exact hq
  have hse : some'.map D.str = ws.map .str ++ [.str (Str.mk (cut w0.cps.toList none (some 7)).toArray ++ "q")] := by rw [hsm]; simp
  have start : ∀ o4, (sSet 3 (rBin fAdd (rVar 2) (rFrz (lDisp (aCons (rBin fAdd (rSl fSl (rBin fSub2 (rVar 2) (rC (.int 0))) (oNone) (oSome (rC (.int 7)))) (rC (.str "q"))) (aNil)))))) (some (.scr ns) :: some (.int k) :: some (.lst (ws.map .str)) :: none :: o4) [] = .nx (some (.scr ns) :: some (.int k) :: some (.lst (ws.map .str)) :: some (.lst (some'.map .str)) :: o4) [] := by
    intro o4
    have : min 7 w0.length + 1 ≤ 16777216 := by omega
    simp [e0, q_len, c, this, hse, show ws.length + 1 ≤ 16777216 by omega]
  have m0 := m_mixed (ns := ns) (k := k) (many := 5) hk (by omega)
  by_cases d0 : mixed ns k 5 = 0
  · obtain ⟨w, h1, h2⟩ := at_strs (l := some') (i := mixed ns (k + 1) some'.length) (mixed_nn (by omega)) (mixed_lt (by omega))
    refine ⟨.as w, pureOf_rt (st := []) (d := encM (.as w)) rfl ?_ (by simp [frz, frz0, encM]), hsw w h2⟩
    have m1 := m_mixed (ns := ns) (k := k + 1) (many := some'.length) (by omega) (by omega)
    simp only [run_law_loose_maker, sSeq_ap, startE_3, List.replicate, start]
    simp [m0, d0, m1, h1, encM]
  · obtain ⟨cnt, hc, hc0, hc3⟩ := at_counts (i := mixed ns (k + 2) 5) (mixed_nn (by omega)) (mixed_lt (by omega)) 1 (by omega)
    obtain ⟨sp, hs, hsp⟩ := at_spans (i := mixed ns (k + 3) 3) (mixed_nn (by omega)) (mixed_lt (by omega))
    obtain ⟨e', st', hf, ps, o5, o6, o7, o8, he, hst, hpl, hps⟩ := forL_inv (n0 := 1) (g := gName 5) (b := lp_law_loose_maker_1) (fun k : Nat => D.int (k : Int))
      (fun pre e st => ∃ (ps : List (Str × Str)) (o5 o6 o7 o8 : Option D), e = [some (.scr ns), some (.int k), some (.lst (ws.map .str)), some (.lst (some'.map .str)), some (.ref 0), o5, o6, o7, o8] ∧ st = [.lst (ps.map pairD)] ∧ ps.length = pre.length ∧ ∀ p ∈ ps, p.1 ∈ hows ∧ Word p.2)
      (List.range cnt.toNat) [] [some (.scr ns), some (.int k), some (.lst (ws.map .str)), some (.lst (some'.map .str)), some (.ref 0), none, none, none, none] [.lst []] ⟨[], none, none, none, none, rfl, rfl, rfl, by simp⟩
      fun p a q e st hpq ⟨ps, o5, o6, o7, o8, he, hst, hpl, hps⟩ => by
        subst he hst
        have hpl' : p.length < 9 := by
          have := congrArg List.length hpq
          simp at this
          omega
        obtain ⟨h, hh, hho⟩ := at_hows (i := mixed ns (k + 8 + 5 * (a : Int)) 4) (mixed_nn (by omega)) (mixed_lt (by omega))
        obtain ⟨w, h1, h2⟩ := at_strs (l := some') (i := mixed ns (k + 8 + 5 * (a : Int) + 1) some'.length) (mixed_nn (by omega)) (mixed_lt (by omega))
        refine ⟨_, [some (.scr ns), some (.int k), some (.lst (ws.map .str)), some (.lst (some'.map .str)), some (.ref 0), some (.int a), some (.int (k + 8 + 5 * (a : Int))), some (.str h), o8], [.lst ((ps ++ [(h, w)]).map pairD)], rfl, ?_, rfl, ps ++ [(h, w)], _, _, _, _, rfl, rfl, by simp [hpl], fun x hx => ?_⟩
        · simp [lp_law_loose_maker_1, show lim64 5 = true from rfl, m_mixed (ns := ns) (k := k + 8 + 5 * (a : Int)) (many := 4) (by omega) (by omega), hh, m_mixed (ns := ns) (k := k + 8 + 5 * (a : Int) + 1) (many := some'.length) (by omega) (by omega), h1, show ps.length < 16777216 by omega, pairD]
        · rcases List.mem_append.mp hx with hx | hx
          · exact hps x hx
          · simp at hx; rw [hx]; exact ⟨how_ok hho, hsw w h2⟩
    subst he hst
    have hl3 : ps.length ≤ 3 := by simp at hpl; omega
    have b1 := mixed_nn (ns := ns) (k := k + 5) (many := 4) (by omega)
    have b2 := mixed_lt (ns := ns) (k := k + 5) (many := 4) (by omega)
    refine ⟨.made ps sp (mixed ns (k + 4) 2 == 0) (mixed ns (k + 5) 4), pureOf_rt (st := [.lst (ps.map pairD)]) (d := encM (.made ps sp (mixed ns (k + 4) 2 == 0) (mixed ns (k + 5) 4))) rfl ?_ (by simp [frz, frz0, encM]), hl3, hps, hsp, by omega, by omega⟩
    simp only [run_law_loose_maker, sSeq_ap, startE_3, List.replicate, start]
    simp [m0, d0, m_mixed (ns := ns) (k := k + 2) (many := 5) (by omega) (by omega), hc, itRng1_ok (n := cnt) (by omega) (by omega), hf, m_mixed (ns := ns) (k := k + 3) (many := 3) (by omega) (by omega), hs, m_mixed (ns := ns) (k := k + 4) (many := 2) (by omega) (by omega), m_mixed (ns := ns) (k := k + 5) (many := 4) (by omega) (by omega), encM]
theorem nodup_inj {α : Type} {l : List α} (nd : l.Nodup) {i j : Nat} {hi : i < l.length} {hj : j < l.length} (e : l[i] = l[j]) : i = j := by
  have h := List.pairwise_iff_getElem.mp nd
  rcases Nat.lt_trichotomy i j with q | q | q
  · exact absurd e (h i j hi hj q)
  · exact q
  · exact absurd e.symm (h j i hj hi q)
theorem enumL_eq : ∀ (l : List Str) (n : Nat), enumL n (l.map .str) = (List.range l.length).map fun k => D.tup [.int ((n + k : Nat) : Int), .str (l.getD k "")]
  | [], _ => rfl
  | x :: l, n => by
    rw [List.map_cons, enumL, enumL_eq l (n + 1), List.length_cons, List.range_succ_eq_map, List.map_cons, List.map_map]
    congr 1
    refine List.map_congr_left fun k _ => ?_
    simp [show n + 1 + k = n + (k + 1) by omega]
theorem m_loose {ns : List Int} {k : Int} (hk : 0 ≤ k) : ∃ b : Bks, m_law_loose [.scr ns, .int k] = .ok (encB b) ∧ OkB b ∧ 1 ≤ b.length := by
  obtain ⟨ws, hn, N⟩ := m_names (ns := ns) hk
  obtain ⟨e', st', hf, c, o4, o5, he, hst, hcn, hcr⟩ := forL_inv (n0 := 1) (g := gTup [gName 4, gName 5]) (b := lp_law_loose_1) (fun k : Nat => D.tup [.int ((0 + k : Nat) : Int), .str (ws.getD k "")])
      (fun pre e st => ∃ (c : Bks) (o4 o5 : Option D), e = [some (.scr ns), some (.int k), some (.lst (ws.map .str)), some (.ref 0), o4, o5] ∧ st = [.dK (encK c)] ∧ names c = pre.map (fun k => ws.getD k "") ∧ ∀ r ∈ c, Word r.1 ∧ OkM r.2)
      (List.range ws.length) [] [some (.scr ns), some (.int k), some (.lst (ws.map .str)), some (.ref 0), none, none] [.dK (encK [])] ⟨[], none, none, rfl, rfl, rfl, by simp⟩
      fun p a q e st hpq ⟨c, o4, o5, he, hst, hcn, hcr⟩ => by
        subst he hst
        rw [List.nil_append] at hpq
        have ha : p.length = a ∧ a < ws.length := by
          have h1 : (p ++ a :: q)[p.length]? = some a := by simp
          rw [← hpq] at h1
          have h2 := List.getElem?_eq_some_iff.mp h1
          simp at h2
          exact ⟨h2.2, by omega⟩
        have hpa : p = List.range a := by
          have h1 : (p ++ a :: q).take p.length = p := by simp
          rw [← hpq, List.take_range, ha.1] at h1
          rw [← h1, Nat.min_eq_left (by omega)]
        have hwa : ws.getD a "" = ws[a]'ha.2 := by simp [List.getD, ha.2]
        obtain ⟨m, hm, hM⟩ := m_loosem (ns := ns) (k := k + 100 + 30 * (a : Int)) (by omega) N.pos N.len N.word
        have hnew : ws.getD a "" ∉ names c := by
          rw [hcn, hpa, hwa]
          intro h
          obtain ⟨j, hj, e⟩ := List.mem_map.mp h
          simp at hj
          have : ws.getD j "" = ws[j]'(by omega) := by simp [List.getD, show j < ws.length by omega]
          rw [this] at e
          have := nodup_inj N.nd e
          omega
        have hput := put_new c (ws.getD a "") m hnew
        have hcl : c.length = a := by
          have := congrArg List.length hcn
          simp [names] at this; omega
        have hN6 := N.len
        refine ⟨_, [some (.scr ns), some (.int k), some (.lst (ws.map .str)), some (.ref 0), some (.int a), some (.str (ws.getD a ""))], [.dK (encK (c ++ [(ws.getD a "", m)]))], by simp; rfl, ?_, rfl, c ++ [(ws.getD a "", m)], _, _, rfl, rfl, ?_, fun r hr => ?_⟩
        · simp only [List.getD_eq_getElem?_getD] at hput
          simp [lp_law_loose_1, show lim64 30 = true from rfl, hm, hput, show (encK c).length < 16777216 by simp [encK]; omega]
        · simp [names] at hcn ⊢; rw [hcn]
        · rcases List.mem_append.mp hr with h | h
          · exact hcr r h
          · simp at h; rw [h]; exact ⟨by simp only [← List.getD_eq_getElem?_getD]; rw [hwa]; exact N.word _ (List.getElem_mem _), hM⟩
  subst he hst
  have hwsn : names c = ws := by
    rw [hcn, List.nil_append]
    refine List.ext_getElem (by simp) fun i h1 h2 => ?_
    simp [List.getD, h2]
  have hcl : c.length = ws.length := by
    have := congrArg List.length hwsn
    simpa [names] using this
  have nd : (names c).Nodup := by rw [hwsn]; exact N.nd
  have hN6 := N.len
  have hN1 := N.pos
  refine ⟨rowsOf c, pureOf_rt (st := [.dK (encK c)]) (d := encB (rowsOf c)) rfl ?_ (by simp [frz, frz0, encB]), rows_ok nd (by omega) hcr, ?_⟩
  · have hen := enumL_eq ws 0
    have hr := m_rows c (by omega) 0 [.dK (encK c)] rfl
    have hk0 : encK [] = [] := rfl
    rw [hk0] at hf
    simp only [List.getD_eq_getElem?_getD, Nat.zero_add] at hf hen
    simp [run_law_loose, hn, hen, hf, hr]
  · have := congrArg List.length (rows_names c)
    simp only [names, List.length_map] at this
    rw [this, (isort_perm leS _).length_eq, List.length_map]; omega
end Py

set_option Elab.async false
set_option linter.all false
set_option maxRecDepth 100000
set_option maxHeartbeats 1000000
set_option autoImplicit false
namespace Py
open PySem
theorem fNe_nil {st : Store} (l : List D) (h : l.all (okD 59) = true) : fNe (.lst l) (.lst []) st = .ok (.bl (!l.isEmpty)) st := by
  rw [fNe_ap, top_lst, top_lst, okD_lst, okD_lst, eqD_lst, h]
  cases l <;> simp [all2]
theorem fEq_nil {st : Store} (l : List D) (h : l.all (okD 59) = true) : fEq (.lst l) (.lst []) st = .ok (.bl l.isEmpty) st := by
  rw [fEq_ap, top_lst, top_lst, okD_lst, okD_lst, eqD_lst, h]
  cases l <;> simp [all2]
@[simp] theorem fNe_nn {st : Store} : fNe (.lst []) (.lst []) st = .ok (.bl false) st := fNe_nil [] rfl
@[simp] theorem fEq_nn {st : Store} : fEq (.lst []) (.lst []) st = .ok (.bl true) st := fEq_nil [] rfl
theorem fNe_strs_nil {st : Store} (l : List Str) : fNe (.lst (l.map .str)) (.lst []) st = .ok (.bl (!l.isEmpty)) st := by
  rw [fNe_nil _ (by simp)]; simp
theorem fEq_strs_nil {st : Store} (l : List Str) : fEq (.lst (l.map .str)) (.lst []) st = .ok (.bl l.isEmpty) st := by
  rw [fEq_nil _ (by simp)]; simp
theorem okD_pairD (n : Nat) (p : Str × Str) : okD (n + 1) (pairD p) = true := by unfold pairD; rw [okD_tup]; simp
theorem fNe_pairs_nil {st : Store} (l : List (Str × Str)) : fNe (.lst (l.map pairD)) (.lst []) st = .ok (.bl (!l.isEmpty)) st := by
  rw [fNe_nil _ (by simp [okD_pairD 58])]; simp
theorem fEq_pairs_nil {st : Store} (l : List (Str × Str)) : fEq (.lst (l.map pairD)) (.lst []) st = .ok (.bl l.isEmpty) st := by
  rw [fEq_nil _ (by simp [okD_pairD 58])]; simp
/-- a need of a maker of sound books: what it may ask for, its words behind place k -/
def NeedOk (ws : List Str) (k : Nat) (p : Str × Str) : Prop := (p.1 = "now" ∧ p.2 ∈ ws.drop (k + 1)) ∨ (p.1 = "maybe" ∧ (p.2 ∈ ws.drop (k + 1) ∨ p.2 ∉ ws)) ∨ (p.1 = "late" ∧ p.2 ∈ ws)
def SndM (ws : List Str) (k : Nat) (brk : Int) : Mk → Prop
  | .as w => w ∈ ws.drop (k + 1)
  | .made ns _ _ br => (∀ p ∈ ns, NeedOk ws k p) ∧ br < brk
theorem m_soundm {ns : List Int} {k : Int} (hk : 0 ≤ k) {ws : List Str} {j : Nat} {brk : Int} (N : Names ws) (hb : 0 < brk) (hb4 : brk ≤ 4) : ∃ m : Mk, m_law_sound_maker [.scr ns, .int k, .lst (ws.map .str), .int j, .int brk] = .ok (encM m) ∧ OkM m ∧ SndM ws j brk m := by
  obtain ⟨w0, e0, hw0⟩ := at_strs (l := ws) (i := 0) (by omega) (by have := N.pos; omega)
  simp only [atI_0] at e0
  obtain ⟨q1, z, hz⟩ : ∃ q z, ws = q ++ [z] := by
    have := N.pos
    exact ⟨ws.dropLast, ws.getLast (by intro e; rw [e] at this; simp at this), (List.dropLast_concat_getLast _).symm⟩
  have ez : atI (ws.map D.str) (-1) = some (.str z) := by rw [hz]; exact atI_last q1 z
  have hzw : Word z := N.word z (by rw [hz]; simp)
  have hq := word_q (N.word w0 hw0)
  have c := cut_none_len w0.cps.toList (i := 7) (by omega)
  rw [str_len_list] at c
  have hN6 := N.len
  have hN1 := N.pos
  obtain ⟨later, hla⟩ : ∃ l, l = ws.drop (j + 1) := ⟨_, rfl⟩
  have hct := cut_drop (ws.map D.str) (i := (j : Int) + 1) (by omega)
  rw [show ((j : Int) + 1).toNat = j + 1 by omega, ← List.map_drop, ← hla] at hct
  have hlw : ∀ w ∈ later, Word w := fun w h => N.word w (by rw [hla] at h; exact List.mem_of_mem_drop h)
  have hll : later.length ≤ 6 := by rw [hla, List.length_drop]; omega
  have m0 := m_mixed (ns := ns) (k := k) (many := 6) hk (by omega)
  by_cases d0 : later ≠ [] ∧ mixed ns k 6 = 0
  · obtain ⟨d1, d0⟩ := d0
    have hlp := List.length_pos_iff.mpr d1
    obtain ⟨w, h1, h2⟩ := at_strs (l := later) (i := mixed ns (k + 1) later.length) (mixed_nn (by omega)) (mixed_lt (by omega))
    refine ⟨.as w, pureOf_rt (st := []) (d := encM (.as w)) rfl ?_ (by simp [frz, frz0, encM]), hlw w h2, by unfold SndM; rw [← hla]; exact h2⟩
    have m1 := m_mixed (ns := ns) (k := k + 1) (many := later.length) (by omega) (by omega)
    simp [run_law_sound_maker, hct, fNe_strs_nil, d1, m0, d0, m1, h1, encM]
  · obtain ⟨cnt, hc, hc0, hc3⟩ := at_counts (i := mixed ns (k + 2) 5) (mixed_nn (by omega)) (mixed_lt (by omega)) 2 (by omega)
    obtain ⟨sp, hs, hsp⟩ := at_spans (i := mixed ns (k + 3) 3) (mixed_nn (by omega)) (mixed_lt (by omega))
    have fin : ∀ (ps : List (Str × Str)) (sm : List Str) (h : Str) (here : Int) (o7 o11 o12 : Option D), ps.length < 100 → 0 ≤ here → (∀ w ∈ sm, Word w ∧ NeedOk ws j (h, w)) → (∀ p ∈ ps, (p.1 ∈ hows ∧ Word p.2) ∧ NeedOk ws j p) → h ∈ hows → ∃ ps' : List (Str × Str), ps'.length ≤ ps.length + 1 ∧ (∀ p ∈ ps', (p.1 ∈ hows ∧ Word p.2) ∧ NeedOk ws j p) ∧
        (sIf (tVal (rBin fNe (rVar 10) (rFrz (lDisp (aNil))))) (sExpr (rMeth isLst fAppend (rVar 6) (aCons (rTup (aCons (rVar 9) (aCons (rBin fSub2 (rVar 10) (rP m_law_mixed (aCons (rVar 0) (aCons (rBin fAdd (rVar 8) (rC (.int 2))) (aCons (rCall fLen (aCons (rVar 10) (aNil))) (aNil)))))) (aNil)))) (aNil)))) (sNx)) [some (.scr ns), some (.int k), some (.lst (ws.map .str)), some (.int j), some (.int brk), some (.lst (later.map .str)), some (.ref 0), o7, some (.int here), some (.str h), some (.lst (sm.map .str)), o11, o12] [.lst (ps.map pairD)] = .nx [some (.scr ns), some (.int k), some (.lst (ws.map .str)), some (.int j), some (.int brk), some (.lst (later.map .str)), some (.ref 0), o7, some (.int here), some (.str h), some (.lst (sm.map .str)), o11, o12] [.lst (ps'.map pairD)] := by
      intro ps sm h here o7 o11 o12 hpl hh0 hsm hps hh
      by_cases e : sm = []
      · exact ⟨ps, by omega, hps, by subst e; simp⟩
      · have hlp := List.length_pos_iff.mpr e
        obtain ⟨w, h1, h2⟩ := at_strs (l := sm) (i := mixed ns (here + 2) sm.length) (mixed_nn (by omega)) (mixed_lt (by omega))
        refine ⟨ps ++ [(h, w)], by simp, fun x hx => ?_, ?_⟩
        · rcases List.mem_append.mp hx with hx | hx
          · exact hps x hx
          · simp at hx; rw [hx]; exact ⟨⟨hh, (hsm w h2).1⟩, (hsm w h2).2⟩
        · simp [fNe_strs_nil, e, m_mixed (ns := ns) (k := here + 2) (many := sm.length) (by omega) (by omega), h1, show ps.length < 16777216 by omega, pairD]
    obtain ⟨e', st', hf, ps, o7, o8, o9, o10, o11, o12, he, hst, hpl, hps⟩ := forL_inv (n0 := 1) (g := gName 7) (b := lp_law_sound_maker_1) (fun k : Nat => D.int (k : Int))
      (fun pre e st => ∃ (ps : List (Str × Str)) (o7 o8 o9 o10 o11 o12 : Option D), e = [some (.scr ns), some (.int k), some (.lst (ws.map .str)), some (.int j), some (.int brk), some (.lst (later.map .str)), some (.ref 0), o7, o8, o9, o10, o11, o12] ∧ st = [.lst (ps.map pairD)] ∧ ps.length ≤ pre.length ∧ ∀ p ∈ ps, (p.1 ∈ hows ∧ Word p.2) ∧ NeedOk ws j p)
      (List.range cnt.toNat) [] [some (.scr ns), some (.int k), some (.lst (ws.map .str)), some (.int j), some (.int brk), some (.lst (later.map .str)), some (.ref 0), none, none, none, none, none, none] [.lst []] ⟨[], none, none, none, none, none, none, rfl, rfl, by simp, by simp⟩
      fun p a q e st hpq ⟨ps, o7, o8, o9, o10, o11, o12, he, hst, hpl, hps⟩ => by
        subst he hst
        have hpl' : p.length < 9 := by
          have := congrArg List.length hpq
          simp at this
          omega
        obtain ⟨h, hh, hho⟩ := at_hows (i := mixed ns (k + 8 + 5 * (a : Int)) 4) (mixed_nn (by omega)) (mixed_lt (by omega))
        have mh := m_mixed (ns := ns) (k := k + 8 + 5 * (a : Int)) (many := 4) (by omega) (by omega)
        have l5 : lim64 5 = true := rfl
        have wrap : ∀ (sm : List Str) (h : Str) (o11 o12 : Option D), (∀ w ∈ sm, Word w ∧ NeedOk ws j (h, w)) → h ∈ hows → lp_law_sound_maker_1 [some (.scr ns), some (.int k), some (.lst (ws.map .str)), some (.int j), some (.int brk), some (.lst (later.map .str)), some (.ref 0), some (.int a), o8, o9, o10, o11, o12] [.lst (ps.map pairD)] = (sIf (tVal (rBin fNe (rVar 10) (rFrz (lDisp (aNil))))) (sExpr (rMeth isLst fAppend (rVar 6) (aCons (rTup (aCons (rVar 9) (aCons (rBin fSub2 (rVar 10) (rP m_law_mixed (aCons (rVar 0) (aCons (rBin fAdd (rVar 8) (rC (.int 2))) (aCons (rCall fLen (aCons (rVar 10) (aNil))) (aNil)))))) (aNil)))) (aNil)))) (sNx)) [some (.scr ns), some (.int k), some (.lst (ws.map .str)), some (.int j), some (.int brk), some (.lst (later.map .str)), some (.ref 0), some (.int a), some (.int (k + 8 + 5 * (a : Int))), some (.str h), some (.lst (sm.map .str)), o11, o12] [.lst (ps.map pairD)] →
            ∃ e1 e2 st2, gName 7 (.int a) [some (.scr ns), some (.int k), some (.lst (ws.map .str)), some (.int j), some (.int brk), some (.lst (later.map .str)), some (.ref 0), o7, o8, o9, o10, o11, o12] = some e1 ∧ lp_law_sound_maker_1 e1 [.lst (ps.map pairD)] = .nx e2 st2 ∧ st2.length = 1 ∧ ∃ (ps : List (Str × Str)) (o7 o8 o9 o10 o11 o12 : Option D), e2 = [some (.scr ns), some (.int k), some (.lst (ws.map .str)), some (.int j), some (.int brk), some (.lst (later.map .str)), some (.ref 0), o7, o8, o9, o10, o11, o12] ∧ st2 = [.lst (ps.map pairD)] ∧ ps.length ≤ (p ++ [a]).length ∧ ∀ p ∈ ps, (p.1 ∈ hows ∧ Word p.2) ∧ NeedOk ws j p := by
          intro sm h o11 o12 hsm hh' heq
          obtain ⟨ps', h1, h2, h3⟩ := fin ps sm h (k + 8 + 5 * (a : Int)) (some (.int a)) o11 o12 (by omega) (by omega) hsm hps hh'
          exact ⟨_, _, _, rfl, heq.trans h3, rfl, ps', _, _, _, _, _, _, rfl, rfl, by simp; omega, h2⟩
        rcases hho with e | e | e
        · subst e
          refine wrap later "now" o11 o12 (fun w hw => ⟨hlw w hw, .inl ⟨rfl, by rw [← hla]; exact hw⟩⟩) (by simp [hows]) ?_
          simp [lp_law_sound_maker_1, l5, mh, hh]
        · subst e
          by_cases d3 : mixed ns (k + 8 + 5 * (a : Int) + 1) 3 = 0
          · have hcmp := compL_all D.str (n0 := 1) (g := gName 11) (t := tAnd (tVal (rBin fNotIn (rVar 11) (rVar 2))) (tVal (rBin fLt (rCall fLen (aCons (rVar 11) (aNil))) (rC (.int 9))))) (r := rVar 11) (e := [some (.scr ns), some (.int k), some (.lst (ws.map .str)), some (.int j), some (.int brk), some (.lst (later.map .str)), some (.ref 0), some (.int a), some (.int (k + 8 + 5 * (a : Int))), some (.str "maybe"), some (.lst (later.map .str)), none, o12]) (st := [.lst (ps.map pairD)]) rfl (fun w => decide (w ∉ ws) && decide (w.length < 9)) (fun w => .str w)
              [Str.mk (cut w0.cps.toList none (some 7)).toArray ++ "q", z ++ "x"] fun w _ => ⟨[some (.scr ns), some (.int k), some (.lst (ws.map .str)), some (.int j), some (.int brk), some (.lst (later.map .str)), some (.ref 0), some (.int a), some (.int (k + 8 + 5 * (a : Int))), some (.str "maybe"), some (.lst (later.map .str)), some (.str w), o12], by simp, by
                by_cases hin : w ∈ ws
                · simp [inB_strs, hin]
                · by_cases h9 : w.length < 9
                  · simp [inB_strs, hin, h9]; omega
                  · simp [inB_strs, hin, h9]; omega, fun _ => by simp⟩
            refine wrap ([Str.mk (cut w0.cps.toList none (some 7)).toArray ++ "q", z ++ "x"].filter fun w => decide (w ∉ ws) && decide (w.length < 9)) "maybe" o11 o12 (fun w hw => ?_) (by simp [hows]) ?_
            · obtain ⟨h1, h2⟩ := List.mem_filter.mp hw
              simp only [Bool.and_eq_true, decide_eq_true_eq] at h2
              refine ⟨?_, .inr (.inl ⟨rfl, .inr h2.1⟩)⟩
              simp only [List.mem_cons, List.not_mem_nil, or_false] at h1
              rcases h1 with h1 | h1
              · rw [h1]; exact hq
              · rw [h1] at h2 ⊢; exact word_x hzw h2.2
            · have k1 : min 7 w0.length + 1 ≤ 16777216 := by omega
              have k2 : z.length + 1 ≤ 16777216 := by have := hzw.2.1; omega
              simp only [List.map_cons, List.map_nil] at hcmp
              simp [lp_law_sound_maker_1, l5, mh, hh, m_mixed (ns := ns) (k := k + 8 + 5 * (a : Int) + 1) (many := 3) (by omega) (by omega), d3, e0, ez, q_len, x_len, c, k1, k2]
              rw [hcmp]
              simp
          · refine wrap later "maybe" o11 o12 (fun w hw => ⟨hlw w hw, .inr (.inl ⟨rfl, .inl (by rw [← hla]; exact hw)⟩)⟩) (by simp [hows]) ?_
            simp [lp_law_sound_maker_1, l5, mh, hh, m_mixed (ns := ns) (k := k + 8 + 5 * (a : Int) + 1) (many := 3) (by omega) (by omega), d3]
        · subst e
          refine wrap ws "late" o11 o12 (fun w hw => ⟨N.word w hw, .inr (.inr ⟨rfl, hw⟩)⟩) (by simp [hows]) ?_
          simp [lp_law_sound_maker_1, l5, mh, hh]
    subst he hst
    have hl3 : ps.length ≤ 3 := by simp at hpl; omega
    have b1 := mixed_nn (ns := ns) (k := k + 5) (many := brk) (by omega)
    have b2 := mixed_lt (ns := ns) (k := k + 5) (many := brk) (by omega)
    refine ⟨.made ps sp (decide (0 < mixed ns (k + 4) 3)) (mixed ns (k + 5) brk), pureOf_rt (st := [.lst (ps.map pairD)]) (d := encM (.made ps sp (decide (0 < mixed ns (k + 4) 3)) (mixed ns (k + 5) brk))) rfl ?_ (by simp [frz, frz0, encM]), ⟨hl3, fun p hp => (hps p hp).1, hsp, by omega, by omega⟩, fun p hp => (hps p hp).2, b2⟩
    have dd : (if later = [] then false else decide (mixed ns k 6 = 0)) = false := by
      split
      · rfl
      · rename_i h; simp; exact fun q => d0 ⟨h, q⟩
    by_cases d1 : later = []
    · simp only [d1, List.map_nil] at hf hct ⊢
      simp [run_law_sound_maker, hct, m_mixed (ns := ns) (k := k + 2) (many := 5) (by omega) (by omega), hc, itRng1_ok (n := cnt) (by omega) (by omega), hf, m_mixed (ns := ns) (k := k + 3) (many := 3) (by omega) (by omega), hs, m_mixed (ns := ns) (k := k + 4) (many := 3) (by omega) (by omega), m_mixed (ns := ns) (k := k + 5) (many := brk) (by omega) (by omega), encM]
    · have d2 : ¬ mixed ns k 6 = 0 := fun q => d0 ⟨d1, q⟩
      simp [run_law_sound_maker, hct, fNe_strs_nil, d1, m0, d2, m_mixed (ns := ns) (k := k + 2) (many := 5) (by omega) (by omega), hc, itRng1_ok (n := cnt) (by omega) (by omega), hf, m_mixed (ns := ns) (k := k + 3) (many := 3) (by omega) (by omega), hs, m_mixed (ns := ns) (k := k + 4) (many := 3) (by omega) (by omega), m_mixed (ns := ns) (k := k + 5) (many := brk) (by omega) (by omega), encM]
end Py

set_option Elab.async false
set_option linter.all false
set_option maxRecDepth 100000
set_option maxHeartbeats 1000000
set_option autoImplicit false
namespace Py
open PySem
def isMade : Mk → Bool
  | .as _ => false
  | .made .. => true
def madeW (b : Bks) : List Str := (b.filter fun r => isMade r.2).map (·.1)
def needsOf (b : Bks) (w : Str) : List (Str × Str) := match mkOf b w with
  | some (.made ns _ _ _) => ns
  | _ => []
def spanOf (b : Bks) (w : Str) : Str := match mkOf b w with
  | some (.made _ sp _ _) => sp
  | _ => ""
def holds (b : Bks) (w : Str) : List Str := ((needsOf b w).filter fun p : Str × Str => !decide (p.1 = ("late" : Str))).filterMap fun p => standS b p.2
def IsMade (b : Bks) (w : Str) : Prop := ∃ ns sp en br, mkOf b w = some (.made ns sp en br)
theorem standN_made {b : Bks} : ∀ {n : Nat} {w v : Str}, standN b n w = some v → IsMade b v
  | 0, _, _, h => by cases h
  | n + 1, w, v, h => by
    unfold standN at h
    cases q : mkOf b w with
    | none => rw [q] at h; cases h
    | some k =>
      rw [q] at h
      cases k with
      | as u => exact standN_made h
      | made ns sp en br => cases h; exact ⟨_, _, _, _, q⟩
theorem holds_made {b : Bks} {w v : Str} (h : v ∈ holds b w) : IsMade b v := by
  unfold holds at h
  obtain ⟨p, _, h2⟩ := List.mem_filterMap.mp h
  exact standN_made h2
theorem made_mem {b : Bks} (nd : (names b).Nodup) {w : Str} : w ∈ madeW b ↔ IsMade b w := by
  unfold madeW IsMade
  simp only [List.mem_map, List.mem_filter]
  constructor
  · rintro ⟨r, ⟨h1, h2⟩, h3⟩
    subst h3
    have := mkOf_of_mem nd (w := r.1) (m := r.2) h1
    cases q : r.2 with
    | as u => rw [q] at h2; cases h2
    | made ns sp en br => rw [q] at this; exact ⟨_, _, _, _, this⟩
  · rintro ⟨ns, sp, en, br, h⟩
    exact ⟨_, ⟨mkOf_mem h, rfl⟩, rfl⟩
theorem isMade_name {b : Bks} {w : Str} (h : IsMade b w) : w ∈ names b := by
  obtain ⟨_, _, _, _, h⟩ := h
  exact List.mem_map.mpr ⟨_, mkOf_mem h, rfl⟩
theorem sub0_encM {st : Store} (m : Mk) : fSub2 (encM m) (.int 0) st = .ok (.str (if isMade m then "made" else "as")) st := by
  cases m <;> simp [encM, isMade]
theorem dec_made (m : Mk) : decide ((if isMade m = true then ("made" : Str) else "as") = "made") = isMade m := by
  cases m <;> simp [isMade]
theorem m_lmade (b : Bks) : m_law_made [encB b] = .ok (.lst ((madeW b).map .str)) := by
  refine pureOf_rt (st := []) (d := .lst ((madeW b).map .str)) rfl ?_ (by simp [frz, frz0])
  have h := compL_all encR (n0 := 0) (g := gTup [gName 1, gName 2]) (t := tVal (rBin fEq (rBin fSub2 (rVar 2) (rC (.int 0))) (rC (.str "made")))) (r := rVar 1) (e := [some (encB b), none, none]) (st := []) rfl (fun r => isMade r.2) (fun r => .str r.1) b fun r _ => ⟨[some (encB b), some (.str r.1), some (encM r.2)], by simp [encR], by simp [sub0_encM, dec_made], fun _ => by simp⟩
  simp [run_law_made, h, madeW]
theorem opt_filter {α : Type} (f : α → Option Str) : ∀ l : List α, ((l.map f).filter fun o => o.isSome).map optS = (l.filterMap f).map .str
  | [] => rfl
  | x :: l => by
    rw [List.map_cons, List.filterMap_cons]
    cases q : f x with
    | none => simpa [q] using opt_filter f l
    | some v => simp [q, opt_filter f l]
theorem m_lholds {b : Bks} (hb : b.length ≤ 1000) {w : Str} (h : IsMade b w) : m_law_holds [encB b, .str w] = .ok (.lst ((holds b w).map .str)) := by
  obtain ⟨ns, sp, en, br, h⟩ := h
  refine pureOf_rt (st := []) (d := .lst ((holds b w).map .str)) rfl ?_ (by simp [frz, frz0])
  have c1 := compL_all pairD (n0 := 0) (g := gTup [gName 3, gName 4]) (t := tVal (rBin fNe (rVar 3) (rC (.str "late")))) (r := rP m_law_stands (aCons (rVar 0) (aCons (rVar 4) (aNil)))) (e := [some (encB b), some (.str w), none, none, none]) (st := []) rfl (fun p : Str × Str => !decide (p.1 = ("late" : Str))) (fun p => optS (standS b p.2)) ns fun p _ => ⟨[some (encB b), some (.str w), none, some (.str p.1), some (.str p.2)], by simp [pairD], by simp, fun _ => by simp [m_lstands b p.2 hb]⟩
  have c2 := compL_all optS (n0 := 0) (g := gName 4) (t := tVal (rUn fNotN (rVar 4))) (r := rVar 4) (e := [some (encB b), some (.str w), some (.lst ((ns.filter fun p : Str × Str => !decide (p.1 = ("late" : Str))).map fun p => optS (standS b p.2))), none, none]) (st := []) rfl (fun o => o.isSome) optS ((ns.filter fun p : Str × Str => !decide (p.1 = ("late" : Str))).map fun p => standS b p.2) fun o _ => ⟨[some (encB b), some (.str w), some (.lst ((ns.filter fun p : Str × Str => !decide (p.1 = ("late" : Str))).map fun p => optS (standS b p.2))), none, some (optS o)], by simp, by cases o <;> simp, fun _ => by simp⟩
  rw [opt_filter, List.map_map] at c2
  have e : holds b w = (ns.filter fun p : Str × Str => !decide (p.1 = ("late" : Str))).filterMap fun p => standS b p.2 := by unfold holds needsOf; rw [h]
  rw [← e] at c2
  have e2 : (optS ∘ fun p : Str × Str => standS b p.2) = fun p => optS (standS b p.2) := rfl
  rw [e2] at c2
  simp only [run_law_holds, sSeq_ap, sSet_ap, rFrz_ap, lComp_ap, iAny_ap, rBin_ap, rP_ap, aCons_ap, rVar_ap, startE_2, List.replicate, List.getElem?_cons_zero, List.getElem?_cons_succ, rVal_some, Res.bd_ok, aNil_ap, rC_ap, m_lmaker b w hb, h, optM_some, List.all_cons, List.all_nil, bel_encB, bel_str, Bool.and_self, if_true, PRes.toR_ok, encM, fSub2_tup, atI_1, atR_some, id, itAny_tup, wipe_cons, wipe_nil, List.set_cons_zero, List.set_cons_succ, List.length_nil, c1, Res.toS_ok, SR.bind_nx, sRet_ap, itAny_lst, c2]
/-! ### spans -/
def setSpan (sp : Str) : Mk → Mk
  | .as w => .as w
  | .made ns _ en br => .made ns sp en br
def withSpan (b : Bks) (ws : List Str) (sp : Str) : Bks := b.map fun r => if r.1 ∈ ws then (r.1, setSpan sp r.2) else r
theorem withSpan_names (b : Bks) (ws : List Str) (sp : Str) : names (withSpan b ws sp) = names b := by
  unfold names withSpan
  rw [List.map_map]
  refine List.map_congr_left fun r _ => ?_
  simp only [Function.comp]
  split <;> rfl
theorem withSpan_len (b : Bks) (ws : List Str) (sp : Str) : (withSpan b ws sp).length = b.length := by simp [withSpan]
theorem withSpan_ok {b : Bks} (h : OkB b) (ws : List Str) {sp : Str} (hs : sp ∈ spans) : OkB (withSpan b ws sp) := by
  refine ⟨by rw [withSpan_len]; exact h.len, fun r hr => ?_, by rw [withSpan_names]; exact h.srt⟩
  unfold withSpan at hr
  obtain ⟨q, hq, e⟩ := List.mem_map.mp hr
  have := h.row q hq
  split at e
  · subst e
    refine ⟨this.1, ?_⟩
    cases z : q.2 with
    | as w => rw [z] at this; exact this.2
    | made ns sp' en br =>
      rw [z] at this
      obtain ⟨_, a, b, c, d⟩ := this
      exact ⟨a, b, hs, d⟩
  · subst e; exact this
theorem withSpan_mk (b : Bks) (ws : List Str) (sp w : Str) : mkOf (withSpan b ws sp) w = (mkOf b w).map fun m => if w ∈ ws then setSpan sp m else m := by
  unfold mkOf withSpan
  induction b with
  | nil => rfl
  | cons r b ih =>
    rw [List.map_cons, List.find?_cons, List.find?_cons]
    by_cases e : r.1 = w
    · have : (if r.1 ∈ ws then (r.1, setSpan sp r.2) else r).1 = w := by split <;> exact e
      rw [decide_eq_true this, decide_eq_true e]
      by_cases h : w ∈ ws
      · simp [e, h]
      · simp [e, h]
    · have : ¬ (if r.1 ∈ ws then (r.1, setSpan sp r.2) else r).1 = w := by split <;> exact e
      rw [decide_eq_false this, decide_eq_false e]
      exact ih
theorem withSpan_stand (b : Bks) (ws : List Str) (sp : Str) : ∀ (n : Nat) (w : Str), standN (withSpan b ws sp) n w = standN b n w
  | 0, _ => rfl
  | n + 1, w => by
    unfold standN
    rw [withSpan_mk]
    cases q : mkOf b w with
    | none => rfl
    | some m =>
      cases m with
      | as v => by_cases h : w ∈ ws <;> simp [h, setSpan, withSpan_stand b ws sp n v]
      | made ns s en br => by_cases h : w ∈ ws <;> simp [h, setSpan]
theorem withSpan_needs (b : Bks) (ws : List Str) (sp w : Str) : needsOf (withSpan b ws sp) w = needsOf b w := by
  unfold needsOf
  rw [withSpan_mk]
  cases q : mkOf b w with
  | none => rfl
  | some m => cases m <;> by_cases h : w ∈ ws <;> simp [h, setSpan]
theorem withSpan_holds (b : Bks) (ws : List Str) (sp w : Str) : holds (withSpan b ws sp) w = holds b w := by
  unfold holds
  rw [withSpan_needs]
  congr 1
  funext p
  exact withSpan_stand b ws sp 7 p.2
theorem withSpan_in (b : Bks) {ws : List Str} (sp : Str) {w : Str} (h : w ∈ ws) (hm : IsMade b w) : spanOf (withSpan b ws sp) w = sp := by
  obtain ⟨ns, s, en, br, q⟩ := hm
  unfold spanOf
  rw [withSpan_mk, q]
  simp [h, setSpan]
theorem withSpan_out (b : Bks) {ws : List Str} (sp : Str) {w : Str} (h : w ∉ ws) : spanOf (withSpan b ws sp) w = spanOf b w := by
  unfold spanOf
  rw [withSpan_mk]
  cases q : mkOf b w with
  | none => rfl
  | some m => cases m <;> simp [h]
theorem span_made {b : Bks} {w sp : Str} (h : spanOf b w = sp) (hs : sp ≠ "") : IsMade b w := by
  unfold spanOf at h
  cases q : mkOf b w with
  | none => rw [q] at h; exact absurd h.symm hs
  | some m => cases m with
    | as v => rw [q] at h; exact absurd h.symm hs
    | made ns s en br => exact ⟨_, _, _, _, q⟩
theorem withSpan_made (b : Bks) (ws : List Str) (sp w : Str) : IsMade (withSpan b ws sp) w ↔ IsMade b w := by
  unfold IsMade
  rw [withSpan_mk]
  cases q : mkOf b w with
  | none => simp
  | some m => cases m <;> by_cases h : w ∈ ws <;> simp [h, setSpan]
theorem setSpan_idem (sp : Str) (m : Mk) : setSpan sp (setSpan sp m) = setSpan sp m := by cases m <;> rfl
theorem withSpan_two (b : Bks) (A B : List Str) (sp : Str) : withSpan (withSpan b A sp) B sp = withSpan b (A ++ B) sp := by
  unfold withSpan
  rw [List.map_map]
  refine List.map_congr_left fun r _ => ?_
  simp only [Function.comp, List.mem_append]
  by_cases h1 : r.1 ∈ A <;> by_cases h2 : r.1 ∈ B <;> simp [h1, h2, setSpan_idem]
theorem withSpan_nil (b : Bks) (sp : Str) : withSpan b [] sp = b := by unfold withSpan; simp
theorem encM_span {st : Store} (ns : List (Str × Str)) (s sp : Str) (en : Bool) (br : Int) : cut [D.str "made", D.tup (ns.map pairD), D.str s, D.bl en, D.int br] none (some 2) = [D.str "made", D.tup (ns.map pairD)] ∧ cut [D.str "made", D.tup (ns.map pairD), D.str s, D.bl en, D.int br] (some 3) none = [D.bl en, D.int br] := ⟨rfl, rfl⟩
theorem m_lspans {b : Bks} (hb : b.length ≤ 1000) (ws : List Str) (sp : Str) (h : ∀ r ∈ b, r.1 ∈ ws → isMade r.2 = true) : m_law_with_spans [encB b, .lst (ws.map .str), .str sp] = .ok (encB (withSpan b ws sp)) := by
  obtain ⟨e', st', hf, o4, o5, he, hst⟩ := forL_inv (n0 := 1) (g := gTup [gName 4, gName 5]) (b := lp_law_with_spans_1) encR
    (fun pre e st => ∃ (o4 o5 : Option D), e = [some (encB b), some (.lst (ws.map .str)), some (.str sp), some (.ref 0), o4, o5] ∧ st = [.lst ((withSpan pre ws sp).map encR)])
    b [] [some (encB b), some (.lst (ws.map .str)), some (.str sp), some (.ref 0), none, none] [.lst []] ⟨none, none, rfl, rfl⟩
    fun p r q e st hpq ⟨o4, o5, he, hst⟩ => by
      subst he hst
      have hr : r ∈ b := by rw [List.nil_append] at hpq; rw [hpq]; simp
      have hpl : p.length < 1000 := by
        have := congrArg List.length hpq
        simp at this
        omega
      have hcap : (withSpan p ws sp).length < 16777216 := by rw [withSpan_len]; omega
      have hsn : withSpan (p ++ [r]) ws sp = withSpan p ws sp ++ [if r.1 ∈ ws then (r.1, setSpan sp r.2) else r] := by simp [withSpan]
      by_cases hin : r.1 ∈ ws
      · have hm := h r hr hin
        cases q : r.2 with
        | as v => rw [q] at hm; cases hm
        | made ns s en br =>
          obtain ⟨k1, k2⟩ := encM_span (st := []) ns s sp en br
          refine ⟨[some (encB b), some (.lst (ws.map .str)), some (.str sp), some (.ref 0), some (.str r.1), some (encM r.2)], [some (encB b), some (.lst (ws.map .str)), some (.str sp), some (.ref 0), some (.str r.1), some (encM (setSpan sp r.2))], [.lst ((withSpan (p ++ [r]) ws sp).map encR)], by simp [encR], ?_, rfl, _, _, rfl, rfl⟩
          rw [hsn]
          simp [lp_law_with_spans_1, inB_strs, hin, q, encM, k1, k2, setSpan, hcap, encR]
      · refine ⟨[some (encB b), some (.lst (ws.map .str)), some (.str sp), some (.ref 0), some (.str r.1), some (encM r.2)], [some (encB b), some (.lst (ws.map .str)), some (.str sp), some (.ref 0), some (.str r.1), some (encM r.2)], [.lst ((withSpan (p ++ [r]) ws sp).map encR)], by simp [encR], ?_, rfl, _, _, rfl, rfl⟩
        rw [hsn]
        simp [lp_law_with_spans_1, inB_strs, hin, hcap, encR]
  subst he hst
  refine pureOf_rt (st := [.lst ((withSpan b ws sp).map encR)]) (d := encB (withSpan b ws sp)) rfl ?_ (by simp [frz, frz0, encB])
  simp only [List.nil_append] at hf
  simp [run_law_with_spans, hf]
  rfl
end Py

set_option Elab.async false
set_option linter.all false
set_option maxRecDepth 100000
set_option maxHeartbeats 1000000
set_option autoImplicit false
namespace Py
open PySem
theorem forL_invG {α : Type} (enc : α → D) {n0 : Nat} {g : TGt} {b : RS} (I : List α → Env → Store → Prop) : ∀ (xs pre : List α) (e : Env) (st : Store), I pre e st →
    (∀ (p : List α) (a : α) (q : List α) (e : Env) (st : Store), pre ++ xs = p ++ a :: q → I p e st → ∃ e1 e2 st2 e3 st3, g (enc a) e = some e1 ∧ b e1 st = .nx e2 st2 ∧ gc n0 e2 st2 = some (e3, st3) ∧ I (p ++ [a]) e3 st3) →
    ∃ e' st', forL n0 g b (xs.map enc) e st = .nx e' st' ∧ I (pre ++ xs) e' st'
  | [], pre, e, st, h, _ => ⟨e, st, rfl, by simpa using h⟩
  | x :: xs, pre, e, st, h, hs => by
    obtain ⟨e1, e2, st2, e3, st3, h1, h2, h3, h4⟩ := hs pre x xs e st rfl h
    obtain ⟨e', st', h5, h6⟩ := forL_invG enc I xs (pre ++ [x]) e3 st3 h4 fun p a q e st he hi => hs p a q e st (by simpa using he) hi
    refine ⟨e', st', ?_, by simpa using h6⟩
    rw [List.map_cons, forL, h1]; dsimp only; rw [h2]; dsimp only; rw [h3]; exact h5
/-- a dict whose keys are the texts us -/
def Kd (kv : List (Key × D)) (us : List Str) : Prop := kv.map (·.1) = us.map Sum.inr ∧ us.Nodup
theorem Kd.len {kv : List (Key × D)} {us : List Str} (h : Kd kv us) : kv.length = us.length := by
  have := congrArg List.length h.1
  simpa using this
theorem Kd.put {kv : List (Key × D)} {us : List Str} (h : Kd kv us) (x : Str) (v : D) : ∃ us', Kd (Py.put kv (.inr x) v) us' ∧ ∀ y, y ∈ us' ↔ y ∈ us ∨ y = x := by
  by_cases hx : x ∈ us
  · refine ⟨us, ⟨by rw [put_dom, h.1, if_pos (List.mem_map.mpr ⟨x, hx, rfl⟩)], h.2⟩, fun y => ⟨.inl, fun q => q.elim id fun e => e ▸ hx⟩⟩
  · refine ⟨us ++ [x], ⟨?_, ?_⟩, fun y => by simp⟩
    · rw [put_dom, h.1, if_neg (fun q => by obtain ⟨z, h1, h2⟩ := List.mem_map.mp q; cases h2; exact hx h1)]; simp
    · rw [List.nodup_append]; exact ⟨h.2, by simp, fun a ha b hb e => by simp at hb; subst hb; exact hx (e ▸ ha)⟩
theorem Kd.keys {kv : List (Key × D)} {us : List Str} (h : Kd kv us) : (kv.map fun p => kD p.1) = us.map .str := keys_kD h.1
theorem Kd.has {kv : List (Key × D)} {us : List Str} (h : Kd kv us) (x : Str) : (look kv (.inr x)).isSome = decide (x ∈ us) := by
  rw [Bool.eq_iff_iff, look_some, h.1, decide_eq_true_eq]
  exact ⟨fun q => by obtain ⟨z, h1, h2⟩ := List.mem_map.mp q; cases h2; exact h1, fun q => List.mem_map.mpr ⟨x, q, rfl⟩⟩
theorem Kd.nil : Kd [] [] := ⟨rfl, List.nodup_nil⟩
/-- what a want reaches by its needs, over things of span each -/
inductive Near (b : Bks) (w : Str) : Str → Prop
  | base {x : Str} : x ∈ holds b w → Near b w x
  | step {y x : Str} : Near b w y → spanOf b y = "each" → x ∈ holds b y → Near b w x
theorem Near.made {b : Bks} {w x : Str} (h : Near b w x) : IsMade b x := by
  cases h with
  | base h => exact holds_made h
  | step _ _ h => exact holds_made h
section
variable {b : Bks} (hb : b.length ≤ 6) {w : Str} {F : O}
include hb
theorem cap1 (v1 : D) (v2 : D) (v4 v5 : Option D) : ∀ (hs : List Str) (kv : List (Key × D)) (us : List Str) (o6 : Option D), Kd kv us → (∀ x ∈ us, x ∈ names b) → (∀ x ∈ hs, x ∈ names b) →
    ∃ kv' us' o6', forL 2 (gName 6) lp_law_captive_1 (hs.map .str) [some (encB b), some v1, some v2, some (.ref 1), v4, v5, o6] [F, .dK kv] = .nx [some (encB b), some v1, some v2, some (.ref 1), v4, v5, o6'] [F, .dK kv'] ∧ Kd kv' us' ∧ (∀ x ∈ us', x ∈ names b) ∧ ∀ x, x ∈ us' ↔ x ∈ us ∨ x ∈ hs
  | [], kv, us, o6, h, hu, _ => ⟨kv, us, o6, rfl, h, hu, by simp⟩
  | z :: hs, kv, us, o6, h, hu, hh => by
    obtain ⟨us1, h1, h2⟩ := h.put z (.bl true)
    have hl : kv.length ≤ 6 := by rw [h.len]; exact Nat.le_trans (nodup_sub_len h.2 hu) (by simpa [names] using hb)
    obtain ⟨kv', us', o6', g1, g2, g3, g4⟩ := cap1 v1 v2 v4 v5 hs (put kv (.inr z) (.bl true)) us1 (some (.str z)) h1 (fun x hx => by
      rcases (h2 x).mp hx with q | q
      · exact hu x q
      · rw [q]; exact hh z List.mem_cons_self) (fun x hx => hh x (List.mem_cons_of_mem _ hx))
    refine ⟨kv', us', o6', ?_, g2, g3, fun x => ?_⟩
    · rw [List.map_cons, forL_nx (n0 := 2) (e1 := [some (encB b), some v1, some v2, some (.ref 1), v4, v5, some (.str z)]) (e2 := [some (encB b), some v1, some v2, some (.ref 1), v4, v5, some (.str z)]) (st2 := [F, .dK (put kv (.inr z) (.bl true))]) (by simp) (by simp [lp_law_captive_1, show kv.length < 16777216 by omega]) rfl]
      exact g1
    · rw [g4, h2, List.mem_cons, or_assoc]
theorem cap2 (v1 : D) (v2 : D) (v5 : Option D) : ∀ (l : List Str) (kv : List (Key × D)) (us : List Str) (o4 o6 : Option D), Kd kv us → (∀ x ∈ us, x ∈ names b) → (∀ x ∈ l, IsMade b x) →
    ∃ kv' us' o4' o6', forL 2 (gName 4) lp_law_captive_2 (l.map .str) [some (encB b), some v1, some v2, some (.ref 1), o4, v5, o6] [F, .dK kv] = .nx [some (encB b), some v1, some v2, some (.ref 1), o4', v5, o6'] [F, .dK kv'] ∧ Kd kv' us' ∧ (∀ x ∈ us', x ∈ names b) ∧ ∀ x, x ∈ us' ↔ x ∈ us ∨ ∃ y ∈ l, spanOf b y = "each" ∧ x ∈ holds b y
  | [], kv, us, o4, o6, h, hu, _ => ⟨kv, us, o4, o6, rfl, h, hu, by simp⟩
  | z :: l, kv, us, o4, o6, h, hu, hh => by
    have hz := hh z List.mem_cons_self
    have hz' := hz
    obtain ⟨ns, sp, en, br, q⟩ := hz'
    have hsp : spanOf b z = sp := by unfold spanOf; rw [q]
    by_cases he : sp = "each"
    · obtain ⟨kv1, us1, o61, f1, f2, f3, f4⟩ := cap1 hb (F := F) v1 v2 (some (.str z)) v5 (holds b z) kv us o6 h hu fun x hx => isMade_name (holds_made hx)
      obtain ⟨kv', us', o4', o6', g1, g2, g3, g4⟩ := cap2 v1 v2 v5 l kv1 us1 (some (.str z)) o61 f2 f3 fun x hx => hh x (List.mem_cons_of_mem _ hx)
      refine ⟨kv', us', o4', o6', ?_, g2, g3, fun x => ?_⟩
      · rw [List.map_cons, forL_nx (n0 := 2) (e1 := [some (encB b), some v1, some v2, some (.ref 1), some (.str z), v5, o6]) (e2 := [some (encB b), some v1, some v2, some (.ref 1), some (.str z), v5, o61]) (st2 := [F, .dK kv1]) (by simp) (by simp [lp_law_captive_2, m_lmaker b z (by omega), q, encM, he, m_lholds (show b.length ≤ 1000 by omega) hz, f1]) rfl]
        exact g1
      · rw [g4, f4]
        simp only [List.mem_cons]
        constructor
        · rintro ((h1 | h1) | ⟨y, h1, h2⟩)
          · exact .inl h1
          · exact .inr ⟨z, .inl rfl, by rw [hsp, he], h1⟩
          · exact .inr ⟨y, .inr h1, h2⟩
        · rintro (h1 | ⟨y, rfl | h1, h2⟩)
          · exact .inl (.inl h1)
          · exact .inl (.inr h2.2)
          · exact .inr ⟨y, h1, h2⟩
    · obtain ⟨kv', us', o4', o6', g1, g2, g3, g4⟩ := cap2 v1 v2 v5 l kv us (some (.str z)) o6 h hu fun x hx => hh x (List.mem_cons_of_mem _ hx)
      refine ⟨kv', us', o4', o6', ?_, g2, g3, fun x => ?_⟩
      · rw [List.map_cons, forL_nx (n0 := 2) (e1 := [some (encB b), some v1, some v2, some (.ref 1), some (.str z), v5, o6]) (e2 := [some (encB b), some v1, some v2, some (.ref 1), some (.str z), v5, o6]) (st2 := [F, .dK kv]) (by simp) (by simp [lp_law_captive_2, m_lmaker b z (by omega), q, encM, he]) rfl]
        exact g1
      · rw [g4]
        simp only [List.mem_cons]
        constructor
        · rintro (h1 | ⟨y, h1, h2⟩)
          · exact .inl h1
          · exact .inr ⟨y, .inr h1, h2⟩
        · rintro (h1 | ⟨y, rfl | h1, h2⟩)
          · exact .inl h1
          · exact absurd (hsp.symm.trans h2.1) he
          · exact .inr ⟨y, h1, h2⟩
omit hb in
/-- nothing more is reached -/
def Closed (b : Bks) (us : List Str) : Prop := ∀ y ∈ us, spanOf b y = "each" → ∀ x ∈ holds b y, x ∈ us
theorem cap3 (v1 : D) (v2 : D) : ∀ (k n : Nat) (kv : List (Key × D)) (us : List Str) (o4 o5 o6 : Option D), Kd kv us → (∀ x ∈ us, Near b w x) → (∀ x ∈ holds b w, x ∈ us) → (Closed b us ∨ n + 1 ≤ us.length) →
    ∃ kv' us' o4' o5' o6', forL 2 (gName 5) lp_law_captive_3 ((List.range' n k).map fun k => .int (k : Nat)) [some (encB b), some v1, some v2, some (.ref 1), o4, o5, o6] [F, .dK kv] = .nx [some (encB b), some v1, some v2, some (.ref 1), o4', o5', o6'] [F, .dK kv'] ∧ Kd kv' us' ∧ (∀ x ∈ us', Near b w x) ∧ (∀ x ∈ holds b w, x ∈ us') ∧ (Closed b us' ∨ n + k + 1 ≤ us'.length)
  | 0, n, kv, us, o4, o5, o6, h, hn, hw, hc => ⟨kv, us, o4, o5, o6, rfl, h, hn, hw, hc⟩
  | k + 1, n, kv, us, o4, o5, o6, h, hn, hw, hc => by
    obtain ⟨kv1, us1, o41, o61, f1, f2, f3, f4⟩ := cap2 hb (F := F) v1 v2 (some (.int n)) us kv us o4 o6 h (fun x hx => isMade_name (hn x hx).made) fun x hx => (hn x hx).made
    have hsub : ∀ x ∈ us, x ∈ us1 := fun x hx => (f4 x).mpr (.inl hx)
    have hc1 : Closed b us1 ∨ n + 1 + 1 ≤ us1.length := by
      by_cases hcl : Closed b us
      · left
        have heq : ∀ x ∈ us1, x ∈ us := fun x hx => by
          rcases (f4 x).mp hx with q | ⟨y, h1, h2, h3⟩
          · exact q
          · exact hcl y h1 h2 x h3
        exact fun y hy he x hx => hsub x (hcl y (heq y hy) he x hx)
      · right
        have h1 : n + 1 ≤ us.length := hc.resolve_left hcl
        have : ∃ x ∈ us1, x ∉ us := Classical.byContradiction fun q => hcl fun y hy he x hx => Classical.byContradiction fun hx' => q ⟨x, (f4 x).mpr (.inr ⟨y, hy, he, hx⟩), hx'⟩
        obtain ⟨x, hx1, hx2⟩ := this
        have : (x :: us).length ≤ us1.length := nodup_sub_len (List.nodup_cons.mpr ⟨hx2, h.2⟩) fun y hy => by
          rcases List.mem_cons.mp hy with e | hy
          · rw [e]; exact hx1
          · exact hsub y hy
        simp at this
        omega
    obtain ⟨kv', us', o4', o5', o6', g1, g2, g3, g4, g5⟩ := cap3 v1 v2 k (n + 1) kv1 us1 o41 (some (.int n)) o61 f2 (fun x hx => by
      rcases (f4 x).mp hx with q | ⟨y, h1, h2, h3⟩
      · exact hn x q
      · exact .step (hn y h1) h2 h3) (fun x hx => hsub x (hw x hx)) hc1
    refine ⟨kv', us', o4', o5', o6', ?_, g2, g3, g4, by rw [show n + (k + 1) + 1 = n + 1 + k + 1 by omega]; exact g5⟩
    have hk := h.keys
    rw [List.range'_succ, List.map_cons, forL_nx (n0 := 2) (e1 := [some (encB b), some v1, some v2, some (.ref 1), o4, some (.int n), o6]) (e2 := [some (encB b), some v1, some v2, some (.ref 1), o41, some (.int n), o61]) (st2 := [F, .dK kv1]) (by simp) (by simp [lp_law_captive_3, hk, f1]) rfl]
    exact g1
end
open Classical in
noncomputable def shorts (b : Bks) (w : Str) : List Str := (names b).filter fun x => decide (Near b w x ∧ spanOf b x = "scope")
noncomputable def capt (b : Bks) : List (Str × Str) := (madeW b).flatMap fun w => if spanOf b w = "one" then (shorts b w).map fun x => (w, x) else []
/-- a sorted list without doubles is told by what it holds -/
theorem sort_set {l m : List Str} (nd : l.Nodup) (sm : m.Pairwise fun x y => ltS x y = true) (h : ∀ x, x ∈ m ↔ x ∈ l) : isort leS l = m := by
  refine (isort_unique leS_total (fun _ _ _ => leS_trans) (fun _ _ => leS_anti) ?_ (sm.imp fun {a b} h => ?_)).symm
  · exact (List.perm_ext_iff_of_nodup (strict_nodup sm) nd).mpr h
  · unfold leS; rw [ltS_asym h]; rfl
open Classical in
theorem near_sorted {b : Bks} (hb : OkB b) {w : Str} {us : List Str} (nd : us.Nodup) (h : ∀ x, x ∈ us ↔ Near b w x) : (isort leS us).filter (fun x => decide (spanOf b x = "scope")) = shorts b w := by
  have e : isort leS us = (names b).filter fun x => decide (Near b w x) := by
    refine sort_set nd (hb.srt.filter _) fun x => ?_
    rw [h, List.mem_filter, decide_eq_true_eq]
    exact ⟨fun q => q.2, fun q => ⟨isMade_name q.made, q⟩⟩
  rw [e, List.filter_filter]
  unfold shorts
  refine List.filter_congr fun x _ => ?_
  rw [Bool.eq_iff_iff]
  simp [and_comm]
theorem closed_near {b : Bks} {w : Str} {us : List Str} (h1 : ∀ x ∈ holds b w, x ∈ us) (h2 : Closed b us) {x : Str} (h : Near b w x) : x ∈ us := by
  induction h with
  | base h => exact h1 _ h
  | step _ he hx ih => exact h2 _ ih he _ hx
theorem rng6 : (List.range 6).map (fun k => D.int (k : Nat)) = (List.range' 0 6).map fun k => .int (k : Nat) := by rw [List.range_eq_range']
theorem cap4 {b : Bks} (hb : OkB b) (l : List (Str × Str)) (hl : l.length < 1000) (w : Str) (hw : IsMade b w) (o3 o4 o5 o6 : Option D) : ∃ o4' o5' o6' kv, lp_law_captive_4 [some (encB b), some (.ref 0), some (.str w), o3, o4, o5, o6] [.lst (l.map pairD)] = .nx [some (encB b), some (.ref 0), some (.str w), some (.ref 1), o4', o5', o6'] [.lst ((l ++ if spanOf b w = "one" then (shorts b w).map fun x => (w, x) else []).map pairD), .dK kv] := by
  have hb6 := hb.len
  have hw' := hw
  obtain ⟨ns, sp, en, br, q⟩ := hw'
  have hsp : spanOf b w = sp := by unfold spanOf; rw [q]
  obtain ⟨us0, k1, k2, k3, _⟩ := merge_dom (.bl true) (holds b w) [] [] rfl List.nodup_nil
  have hk0 : Kd (merge [] ((holds b w).map fun w => ((Sum.inr w : Key), D.bl true))) us0 := ⟨k1, k2⟩
  have hmem0 : ∀ x, x ∈ us0 ↔ x ∈ holds b w := fun x => by rw [k3]; simp
  obtain ⟨kv, us, o4', o5', o6', f1, f2, f3, f4, f5⟩ := cap3 hb6 (w := w) (F := .lst (l.map pairD)) (.ref 0) (.str w) 6 0 _ us0 o4 o5 o6 hk0 (fun x hx => .base ((hmem0 x).mp hx)) (fun x hx => (hmem0 x).mpr hx) (by
    cases us0 with
    | nil => exact .inl fun y hy => by cases hy
    | cons => right; simp)
  have hsubn : ∀ x ∈ us, x ∈ names b := fun x hx => isMade_name (f3 x hx).made
  have hul : us.length ≤ 6 := Nat.le_trans (nodup_sub_len f2.2 hsubn) (by simpa [names] using hb6)
  have hcl : Closed b us := f5.resolve_right (by omega)
  have hnear : ∀ x, x ∈ us ↔ Near b w x := fun x => ⟨f3 x, closed_near f4 hcl⟩
  have hc0 := compL_map D.str (n0 := 1) (g := gName 4) (r := rTup (aCons (rVar 4) (aCons (rC (.bl true)) (aNil)))) (e := [some (encB b), some (.ref 0), some (.str w), o3, none, o5, o6]) (st := [.lst (l.map pairD)]) rfl (fun w => .tup [.str w, .bl true]) (holds b w) fun x _ => ⟨[some (encB b), some (.ref 0), some (.str w), o3, some (.str x), o5, o6], by simp, by simp⟩
  have hd := fDict_strs (st := [.lst (l.map pairD)]) (.bl true) (holds b w)
  have hlk := m_lholds (show b.length ≤ 1000 by omega) hw
  have hmk := m_lmaker b w (show b.length ≤ 1000 by omega)
  rw [q] at hmk
  rw [← rng6] at f1
  have hi := itRng1_ok (st := [.lst (l.map pairD), .dK (merge [] ((holds b w).map fun w => ((Sum.inr w : Key), D.bl true)))]) (n := 6) (by omega) (by omega)
  rw [show (6 : Int).toNat = 6 from rfl] at hi
  refine ⟨o4', o5', o6', kv, ?_⟩
  have e1 : (sSet 3 (rCall fDict (aCons (rFrz (lComp [4] (iAny (rP m_law_holds (aCons (rVar 0) (aCons (rVar 2) (aNil))))) (gName 4) (tYes) (rTup (aCons (rVar 4) (aCons (rC (.bl true)) (aNil)))))) (aNil)))) [some (encB b), some (.ref 0), some (.str w), o3, o4, o5, o6] [.lst (l.map pairD)] = .nx [some (encB b), some (.ref 0), some (.str w), some (.ref 1), o4, o5, o6] [.lst (l.map pairD), .dK (merge [] ((holds b w).map fun w => ((Sum.inr w : Key), D.bl true)))] := by
    simp [hlk, hc0, hd]
  unfold lp_law_captive_4
  rw [sSeq_ap, e1, SR.bind_nx, sSeq_ap]
  have e2 : (sFor (iRng1 (aCons (rC (.int 6)) (aNil))) (gName 5) (lp_law_captive_3)) [some (encB b), some (.ref 0), some (.str w), some (.ref 1), o4, o5, o6] [.lst (l.map pairD), .dK (merge [] ((holds b w).map fun w => ((Sum.inr w : Key), D.bl true)))] = .nx [some (encB b), some (.ref 0), some (.str w), some (.ref 1), o4', o5', o6'] [.lst (l.map pairD), .dK kv] := by
    simp [hi, f1]
  rw [e2, SR.bind_nx]
  by_cases h1 : sp = "one"
  · rw [hsp, if_pos h1]
    have hs := fSorted2_strs (st := [.lst (l.map pairD), .dK kv]) us (by omega)
    have hc := compL_all D.str (n0 := 2) (g := gName 4) (t := tVal (rBin fEq (rBin fSub2 (rP m_law_maker (aCons (rVar 0) (aCons (rVar 4) (aNil)))) (rC (.int 2))) (rC (.str "scope")))) (r := rTup (aCons (rVar 2) (aCons (rVar 4) (aNil)))) (e := [some (encB b), some (.ref 0), some (.str w), some (.ref 1), none, o5', o6']) (st := [.lst (l.map pairD), .dK kv]) rfl (fun x => decide (spanOf b x = "scope")) (fun x => pairD (w, x)) (isort leS us) fun x hx => by
      have hx' := (f3 x (isort_mem.mp hx)).made
      obtain ⟨ns', sp', en', br', q'⟩ := hx'
      have hmx := m_lmaker b x (show b.length ≤ 1000 by omega)
      rw [q'] at hmx
      have hsx : spanOf b x = sp' := by unfold spanOf; rw [q']
      exact ⟨[some (encB b), some (.ref 0), some (.str w), some (.ref 1), some (.str x), o5', o6'], by simp, by simp [hmx, encM, hsx], fun _ => by simp [pairD]⟩
    rw [near_sorted hb f2.2 hnear] at hc
    have hsl : (shorts b w).length ≤ 6 := Nat.le_trans (List.length_filter_le ..) (by simpa [names] using hb6)
    simp [hmk, encM, h1, f2.keys, hs, hc, show l.length + (shorts b w).length ≤ 16777216 by omega, Function.comp_def]
  · rw [hsp, if_neg h1]
    simp [hmk, encM, h1]
theorem m_lcapt {b : Bks} (hb : OkB b) : m_law_captive [encB b] = .ok (.lst ((capt b).map pairD)) := by
  have hb6 := hb.len
  obtain ⟨e', st', hf, o2, o3, o4, o5, o6, he, hst⟩ := forL_invG (n0 := 1) (g := gName 2) (b := lp_law_captive_4) D.str
    (fun pre e st => ∃ (o2 o3 o4 o5 o6 : Option D), e = [some (encB b), some (.ref 0), o2, o3, o4, o5, o6] ∧ st = [.lst ((pre.flatMap fun w => if spanOf b w = "one" then (shorts b w).map fun x => (w, x) else []).map pairD)])
    (madeW b) [] [some (encB b), some (.ref 0), none, none, none, none, none] [.lst []] ⟨none, none, none, none, none, rfl, rfl⟩
    fun p w q e st hpq ⟨o2, o3, o4, o5, o6, he, hst⟩ => by
      subst he hst
      have hw : IsMade b w := (made_mem hb.nd).mp (by rw [List.nil_append] at hpq; rw [hpq]; simp)
      have hpl : p.length ≤ 6 := by
        have h1 := congrArg List.length hpq
        have h2 : (madeW b).length ≤ b.length := by unfold madeW; rw [List.length_map]; exact List.length_filter_le ..
        simp at h1
        omega
      have hfl : ∀ (l : List Str), (l.flatMap fun w => if spanOf b w = "one" then (shorts b w).map fun x => (w, x) else []).length ≤ 6 * l.length := by
        intro l
        induction l with
        | nil => simp
        | cons x l ih =>
          rw [List.flatMap_cons, List.length_append, List.length_cons]
          have hsl : (shorts b x).length ≤ 6 := Nat.le_trans (List.length_filter_le ..) (by simpa [names] using hb6)
          have : (if spanOf b x = "one" then (shorts b x).map fun y => (x, y) else []).length ≤ 6 := by split <;> simp; exact hsl
          omega
      obtain ⟨o4', o5', o6', kv, h⟩ := cap4 hb (p.flatMap fun w => if spanOf b w = "one" then (shorts b w).map fun x => (w, x) else []) (by have := hfl p; omega) w hw o3 o4 o5 o6
      refine ⟨_, _, _, cutE 1 [some (encB b), some (.ref 0), some (.str w), some (.ref 1), o4', o5', o6'], [.lst ((p ++ [w]).flatMap (fun w => if spanOf b w = "one" then (shorts b w).map fun x => (w, x) else []) |>.map pairD)], rfl, h, ?_, ?_⟩
      · unfold gc
        rw [if_neg (by simp), if_pos]
        · simp [List.flatMap_append]
        · refine ⟨?_, by simp⟩
          simp [belowO]
      · exact ⟨some (.str w), none, _, _, _, by simp [cutE]; exact ⟨rfl, rfl, rfl⟩, rfl⟩
  subst he hst
  refine pureOf_rt (st := [.lst ((capt b).map pairD)]) (d := .ref 0) rfl ?_ (by simp [frz, frz0])
  simp only [List.nil_append] at hf
  simp [run_law_captive, m_lmade, hf]
  rfl
end Py

set_option Elab.async false
set_option linter.all false
set_option maxRecDepth 100000
set_option maxHeartbeats 1000000
set_option autoImplicit false
namespace Py
open PySem
theorem capt_mem {b : Bks} (nd : (names b).Nodup) {p : Str × Str} (h : p ∈ capt b) : IsMade b p.1 ∧ spanOf b p.1 = "one" ∧ p.2 ∈ shorts b p.1 := by
  unfold capt at h
  obtain ⟨w, h1, h2⟩ := List.mem_flatMap.mp h
  split at h2
  · rename_i hs
    obtain ⟨x, h3, h4⟩ := List.mem_map.mp h2
    subst h4
    exact ⟨(made_mem nd).mp h1, hs, h3⟩
  · cases h2
def ones (b : Bks) : List Str := (madeW b).filter fun w => decide (spanOf b w = "one")
theorem madeW_withSpan (b : Bks) (A : List Str) (sp : Str) : madeW (withSpan b A sp) = madeW b := by
  unfold madeW withSpan
  induction b with
  | nil => rfl
  | cons r b ih =>
    rw [List.map_cons, List.filter_cons, List.filter_cons]
    have h1 : isMade (if r.1 ∈ A then (r.1, setSpan sp r.2) else r).2 = isMade r.2 := by
      split
      · cases r.2 <;> rfl
      · rfl
    have h2 : (if r.1 ∈ A then (r.1, setSpan sp r.2) else r).1 = r.1 := by split <;> rfl
    rw [h1]
    split
    · rw [List.map_cons, List.map_cons, h2, ih]
    · exact ih
theorem madeW_nodup {b : Bks} (nd : (names b).Nodup) : (madeW b).Nodup := by
  unfold madeW
  exact List.Sublist.nodup (List.Sublist.map _ (List.filter_sublist)) nd
theorem ones_less {b : Bks} (nd : (names b).Nodup) {A : List Str} {w : Str} (hw : w ∈ A) (hm : IsMade b w) (h1 : spanOf b w = "one") : (ones (withSpan b A "scope")).length < (ones b).length := by
  have key : (w :: ones (withSpan b A "scope")).length ≤ (ones b).length := by
    refine nodup_sub_len (List.nodup_cons.mpr ⟨?_, ?_⟩) fun x hx => ?_
    · intro h
      unfold ones at h
      have := (List.mem_filter.mp h).2
      rw [withSpan_in b "scope" hw hm] at this
      simp at this
    · unfold ones; rw [madeW_withSpan]; exact List.Sublist.nodup List.filter_sublist (madeW_nodup nd)
    · rcases List.mem_cons.mp hx with e | hx
      · rw [e]; unfold ones; exact List.mem_filter.mpr ⟨(made_mem nd).mpr hm, by simp [h1]⟩
      · unfold ones at hx ⊢
        rw [madeW_withSpan] at hx
        obtain ⟨h2, h3⟩ := List.mem_filter.mp hx
        refine List.mem_filter.mpr ⟨h2, ?_⟩
        by_cases hA : x ∈ A
        · rw [withSpan_in b "scope" hA ((made_mem nd).mp h2)] at h3; simp at h3
        · rw [withSpan_out b "scope" hA] at h3; exact h3
  simp at key
  omega
theorem okSpan_scope : ("scope" : Str) ∈ spans := by simp [spans]
theorem sound_loop (v0 v1 v2 v3 v5 v6 : Option D) (st : Store) (hst : st.length = 1) : ∀ (k : Nat) (b : Bks) (o8 o9 : Option D), OkB b → (ones b).length < k →
    ∃ A o8' o9', whileL 1 (tVal (rBin fNe (rP m_law_captive (aCons (rVar 7) (aNil))) (rFrz (lDisp (aNil))))) lp_law_sound_2 k [v0, v1, v2, v3, some (.ref 0), v5, v6, some (encB b), o8, o9] st = .nx [v0, v1, v2, v3, some (.ref 0), v5, v6, some (encB (withSpan b A "scope")), o8', o9'] st ∧ capt (withSpan b A "scope") = []
  | 0, _, _, _, _, h => by omega
  | k + 1, b, o8, o9, hb, hk => by
    have hcp := m_lcapt hb
    cases hc : capt b with
    | nil =>
      rw [hc] at hcp
      refine ⟨[], o8, o9, ?_, by rw [withSpan_nil]; exact hc⟩
      rw [withSpan_nil, whileL_end (n0 := 1) (st1 := st) (by simp [hcp]) hst]
    | cons p l =>
      have hp := capt_mem hb.nd (b := b) (p := p) (by rw [hc]; simp)
      obtain ⟨ws, hws⟩ : ∃ ws, ws = (capt b).map (·.1) := ⟨_, rfl⟩
      have hpw : p.1 ∈ ws := by rw [hws, hc]; simp
      obtain ⟨A, o8', o9', h1, h2⟩ := sound_loop v0 v1 v2 v3 v5 v6 st hst k (withSpan b ws "scope") o8 o9 (withSpan_ok hb ws okSpan_scope) (by
        have := ones_less hb.nd (A := ws) hpw hp.1 hp.2.1
        omega)
      rw [withSpan_two] at h1 h2
      refine ⟨ws ++ A, o8', o9', ?_, h2⟩
      have hne : capt b ≠ [] := by rw [hc]; simp
      have hcm := compL_map pairD (n0 := 1) (g := gTup [gName 8, gName 9]) (r := rVar 8) (e := [v0, v1, v2, v3, some (.ref 0), v5, v6, some (encB b), none, none]) (st := st) hst (fun p => .str p.1) (capt b) fun p _ => ⟨[v0, v1, v2, v3, some (.ref 0), v5, v6, some (encB b), some (.str p.1), some (.str p.2)], by simp [pairD], by simp⟩
      have e1 : (capt b).map (fun p => D.str p.1) = ws.map .str := by rw [hws, List.map_map]; rfl
      rw [e1] at hcm
      have hsp := m_lspans (b := b) (by have := hb.len; omega) ws "scope" fun r hr hrw => by
        rw [hws] at hrw
        obtain ⟨q, hq, e⟩ := List.mem_map.mp hrw
        obtain ⟨⟨ns, s, en, br, hmk⟩, _⟩ := capt_mem hb.nd hq
        rw [e, mkOf_of_mem hb.nd (w := r.1) (m := r.2) hr] at hmk
        cases hmk' : r.2 with
        | as v => rw [hmk'] at hmk; cases hmk
        | made => rfl
      rw [whileL_nx (n0 := 1) (st1 := st) (e2 := [v0, v1, v2, v3, some (.ref 0), v5, v6, some (encB (withSpan b ws "scope")), o8, o9]) (st2 := st) (by simp [hcp, fNe_pairs_nil, hne]) (by simp [lp_law_sound_2, hcp, hst, hcm, hsp]) hst]
      exact h1
/-- books as the sound ones are drawn -/
structure SndB (brk : Int) (b : Bks) : Prop where
  ok : OkB b
  pos : 1 ≤ b.length
  nocap : capt b = []
  gen : ∃ (ws : List Str) (c : Bks) (A : List Str), Names ws ∧ names c = ws ∧ (∀ (k : Nat) (r : Str × Mk), c[k]? = some r → SndM ws k brk r.2) ∧ b = withSpan (rowsOf c) A "scope"
theorem m_lsound {ns : List Int} {k : Int} (hk : 0 ≤ k) {brk : Int} (hb0 : 0 < brk) (hb4 : brk ≤ 4) : ∃ b : Bks, m_law_sound [.scr ns, .int k, .int brk] = .ok (encB b) ∧ SndB brk b := by
  obtain ⟨ws, hn, N⟩ := m_names (ns := ns) hk
  obtain ⟨e', st', hf, c, o5, o6, he, hst, hcn, hcr, hcs⟩ := forL_inv (n0 := 1) (g := gTup [gName 5, gName 6]) (b := lp_law_sound_1) (fun k : Nat => D.tup [.int ((0 + k : Nat) : Int), .str (ws.getD k "")])
      (fun pre e st => ∃ (c : Bks) (o5 o6 : Option D), e = [some (.scr ns), some (.int k), some (.int brk), some (.lst (ws.map .str)), some (.ref 0), o5, o6, none, none, none] ∧ st = [.dK (encK c)] ∧ names c = pre.map (fun k => ws.getD k "") ∧ (∀ r ∈ c, Word r.1 ∧ OkM r.2) ∧ ∀ (k : Nat) (r : Str × Mk), c[k]? = some r → SndM ws k brk r.2)
      (List.range ws.length) [] [some (.scr ns), some (.int k), some (.int brk), some (.lst (ws.map .str)), some (.ref 0), none, none, none, none, none] [.dK (encK [])] ⟨[], none, none, rfl, rfl, rfl, by simp, by simp⟩
      fun p a q e st hpq ⟨c, o4, o5, he, hst, hcn, hcr, hcs⟩ => by
        subst he hst
        rw [List.nil_append] at hpq
        have ha : p.length = a ∧ a < ws.length := by
          have h1 : (p ++ a :: q)[p.length]? = some a := by simp
          rw [← hpq] at h1
          have h2 := List.getElem?_eq_some_iff.mp h1
          simp at h2
          exact ⟨h2.2, by omega⟩
        have hpa : p = List.range a := by
          have h1 : (p ++ a :: q).take p.length = p := by simp
          rw [← hpq, List.take_range, ha.1] at h1
          rw [← h1, Nat.min_eq_left (by omega)]
        have hwa : ws.getD a "" = ws[a]'ha.2 := by simp [List.getD, ha.2]
        obtain ⟨m, hm, hM, hS⟩ := m_soundm (ns := ns) (k := k + 100 + 30 * (a : Int)) (by omega) (j := a) N hb0 hb4
        have hnew : ws.getD a "" ∉ names c := by
          rw [hcn, hpa, hwa]
          intro h
          obtain ⟨j, hj, e⟩ := List.mem_map.mp h
          simp at hj
          have : ws.getD j "" = ws[j]'(by omega) := by simp [List.getD, show j < ws.length by omega]
          rw [this] at e
          have := nodup_inj N.nd e
          omega
        have hput := put_new c (ws.getD a "") m hnew
        have hcl : c.length = a := by
          have := congrArg List.length hcn
          simp [names] at this; omega
        have hN6 := N.len
        refine ⟨_, [some (.scr ns), some (.int k), some (.int brk), some (.lst (ws.map .str)), some (.ref 0), some (.int a), some (.str (ws.getD a "")), none, none, none], [.dK (encK (c ++ [(ws.getD a "", m)]))], by simp; rfl, ?_, rfl, c ++ [(ws.getD a "", m)], _, _, rfl, rfl, ?_, fun r hr => ?_, fun i r hr => ?_⟩
        · simp only [List.getD_eq_getElem?_getD] at hput
          simp [lp_law_sound_1, show lim64 30 = true from rfl, hm, hput, show (encK c).length < 16777216 by simp [encK]; omega]
        · simp [names] at hcn ⊢; rw [hcn]
        · rcases List.mem_append.mp hr with h | h
          · exact hcr r h
          · simp at h; rw [h]; exact ⟨by simp only [← List.getD_eq_getElem?_getD]; rw [hwa]; exact N.word _ (List.getElem_mem _), hM⟩
        · by_cases hi : i < c.length
          · rw [List.getElem?_append_left hi] at hr; exact hcs i r hr
          · rw [List.getElem?_append_right (by omega)] at hr
            have hi2 := (List.getElem?_eq_some_iff.mp hr).1
            simp at hi2
            have : i = a := by omega
            subst this
            simp [hcl] at hr
            rw [← hr]; exact hS
  subst he hst
  have hwsn : names c = ws := by
    rw [hcn, List.nil_append]
    refine List.ext_getElem (by simp) fun i h1 h2 => ?_
    simp [List.getD, h2]
  have hcl : c.length = ws.length := by
    have := congrArg List.length hwsn
    simpa [names] using this
  have nd : (names c).Nodup := by rw [hwsn]; exact N.nd
  have hN6 := N.len
  have hN1 := N.pos
  have hok := rows_ok nd (by omega) hcr
  obtain ⟨A, o8, o9, h1, h2⟩ := sound_loop (some (.scr ns)) (some (.int k)) (some (.int brk)) (some (.lst (ws.map .str))) o5 o6 [.dK (encK c)] rfl fuel (rowsOf c) none none hok (by
    have : (ones (rowsOf c)).length ≤ 6 := by
      unfold ones madeW
      refine Nat.le_trans (List.length_filter_le ..) ?_
      rw [List.length_map]
      exact Nat.le_trans (List.length_filter_le ..) hok.len
    exact Nat.lt_of_le_of_lt this (fuel_gt (by omega)))
  have hlen : (rowsOf c).length = ws.length := by
    have := congrArg List.length (rows_names c)
    simp only [names, List.length_map] at this
    rw [this, (isort_perm leS _).length_eq, List.length_map]; omega
  refine ⟨withSpan (rowsOf c) A "scope", pureOf_rt (st := [.dK (encK c)]) (d := encB (withSpan (rowsOf c) A "scope")) rfl ?_ (by simp [frz, frz0, encB]), withSpan_ok hok A okSpan_scope, by rw [withSpan_len]; omega, h2, ws, c, A, N, hwsn, hcs, rfl⟩
  have hen := enumL_eq ws 0
  have hr := m_rows c (by omega) 0 [.dK (encK c)] rfl
  have hk0 : encK [] = [] := rfl
  rw [hk0] at hf
  simp only [List.getD_eq_getElem?_getD, Nat.zero_add] at hf hen
  simp [run_law_sound, hn, hen, hf, hr, h1]
theorem m_case {ns : List Int} {k : Int} (hk : 0 ≤ k) : ∃ b : Bks, m_law_case [.scr ns, .int k] = .ok (encB b) ∧ OkB b ∧ 1 ≤ b.length := by
  obtain ⟨b1, h1, s1⟩ := m_lsound (ns := ns) (k := k + 1) (by omega) (brk := 4) (by omega) (by omega)
  obtain ⟨b2, h2, s2, s3⟩ := m_loose (ns := ns) (k := k + 1) (by omega)
  have m0 := m_mixed (ns := ns) (k := k) (many := 3) hk (by omega)
  by_cases h : mixed ns k 3 = 0
  · refine ⟨b1, pureOf_rt (st := []) (d := encB b1) rfl ?_ (by simp [frz, frz0, encB]), s1.ok, s1.pos⟩
    simp [run_law_case, m0, h, h1]
  · refine ⟨b2, pureOf_rt (st := []) (d := encB b2) rfl ?_ (by simp [frz, frz0, encB]), s2, s3⟩
    simp [run_law_case, m0, h, h2]
end Py

set_option Elab.async false
set_option linter.all false
set_option maxRecDepth 100000
set_option maxHeartbeats 1000000
set_option autoImplicit false
namespace Py
open PySem
theorem stand_walk {b : Bks} {w : Str} : ∀ (k : Nat) (met : List Str) (x : Str), met.Nodup → (∀ y ∈ met, y ∈ names b) → (∀ n, standN b (met.length + n) w = standN b n x) →
    (∀ y ∈ met, ∃ j, 1 ≤ j ∧ ∀ n, standN b (j + n) y = standN b n x) → b.length - met.length ≤ k → (∀ n, standN b n w = none) ∨ ∃ v, standN b b.length w = some v := by
  intro k
  induction k with
  | zero =>
    intro met x nd sub chain cyc hk
    have none_of : (∀ n, standN b n x = none) → ∀ n, standN b n w = none := fun hz n => by
      by_cases h : met.length ≤ n
      · have := chain (n - met.length)
        rw [show met.length + (n - met.length) = n by omega] at this
        rw [this]; exact hz _
      · cases q : standN b n w with
        | none => rfl
        | some v =>
          have h1 := standN_le q (k := met.length + 0) (by omega)
          rw [chain 0] at h1
          cases h1
    left
    by_cases hx : x ∈ met
    · obtain ⟨j, hj, hc⟩ := cyc x hx
      exact none_of (standN_cyc hj hc)
    · have hxn : x ∉ names b := fun hn => by
        have : (x :: met).length ≤ (names b).length := nodup_sub_len (List.nodup_cons.mpr ⟨hx, nd⟩) fun y hy => by
          rcases List.mem_cons.mp hy with e | hy
          · rw [e]; exact hn
          · exact sub y hy
        simp [names] at this
        omega
      refine none_of fun n => ?_
      cases n with
      | zero => rfl
      | succ n => rw [standN, mkOf_none.mpr hxn]
  | succ k ih =>
    intro met x nd sub chain cyc hk
    have none_of : (∀ n, standN b n x = none) → ∀ n, standN b n w = none := fun hz n => by
      by_cases h : met.length ≤ n
      · have := chain (n - met.length)
        rw [show met.length + (n - met.length) = n by omega] at this
        rw [this]; exact hz _
      · cases q : standN b n w with
        | none => rfl
        | some v =>
          have h1 := standN_le q (k := met.length + 0) (by omega)
          rw [chain 0] at h1
          cases h1
    by_cases hx : x ∈ met
    · obtain ⟨j, hj, hc⟩ := cyc x hx
      exact .inl (none_of (standN_cyc hj hc))
    · cases q : mkOf b x with
      | none =>
        refine .inl (none_of fun n => ?_)
        cases n with
        | zero => rfl
        | succ n => rw [standN, q]
      | some m =>
        have hxn : x ∈ names b := Classical.byContradiction fun hn => by rw [mkOf_none.mpr hn] at q; cases q
        have hlen : met.length + 1 ≤ b.length := by
          have : (x :: met).length ≤ (names b).length := nodup_sub_len (List.nodup_cons.mpr ⟨hx, nd⟩) fun y hy => by
            rcases List.mem_cons.mp hy with e | hy
            · rw [e]; exact hxn
            · exact sub y hy
          simpa [names] using this
        cases m with
        | made ns sp en br =>
          right
          refine ⟨x, standN_le (n := met.length + 1) ?_ hlen⟩
          rw [chain 1, standN, q]
        | as v =>
          have hs : ∀ n, standN b (n + 1) x = standN b n v := fun n => by rw [standN, q]
          refine ih (met ++ [x]) v ?_ (fun y hy => ?_) (fun n => ?_) (fun y hy => ?_) (by simp; omega)
          · rw [List.nodup_append]; exact ⟨nd, by simp, fun a ha c hc e => by simp at hc; subst hc; exact hx (e ▸ ha)⟩
          · rcases List.mem_append.mp hy with h | h
            · exact sub y h
            · simp at h; rw [h]; exact hxn
          · rw [List.length_append, List.length_singleton, show met.length + 1 + n = met.length + (n + 1) by omega, chain, hs]
          · rcases List.mem_append.mp hy with h | h
            · obtain ⟨j, hj, hc⟩ := cyc y h
              exact ⟨j + 1, by omega, fun n => by rw [show j + 1 + n = j + (n + 1) by omega, hc, hs]⟩
            · simp at h; rw [h]; exact ⟨1, by omega, fun n => by rw [show 1 + n = n + 1 by omega, hs]⟩
theorem stand_eq {b : Bks} {N : Nat} (h : b.length ≤ N) (w : Str) : standN b N w = standN b b.length w := by
  rcases stand_walk (b := b) (w := w) b.length [] w List.nodup_nil (by simp) (by simp) (by simp) (by simp) with q | ⟨v, q⟩
  · rw [q, q]
  · rw [q]; exact standN_le q h
theorem stand_as {b : Bks} (hb : b.length ≤ 6) {w v : Str} (h : mkOf b w = some (.as v)) : standS b w = standS b v := by
  unfold standS
  have : standN b 7 w = standN b 6 v := by rw [standN, h]
  rw [this, stand_eq hb, stand_eq (show b.length ≤ 7 by omega)]
/-! ### dicts by pairs of texts -/
def Kp (kv : List (List Key × D)) (ps : List (Str × Str)) : Prop := kv.map (·.1) = ps.map (fun p => [Sum.inr p.1, Sum.inr p.2]) ∧ ps.Nodup
theorem Kp.len {kv : List (List Key × D)} {us : List (Str × Str)} (h : Kp kv us) : kv.length = us.length := by
  have := congrArg List.length h.1
  simpa using this
theorem kp_inj {p q : Str × Str} (h : ([Sum.inr p.1, Sum.inr p.2] : List Key) = [Sum.inr q.1, Sum.inr q.2]) : p = q := by
  simp at h
  exact Prod.ext h.1 h.2
theorem Kp.put {kv : List (List Key × D)} {us : List (Str × Str)} (h : Kp kv us) (x : Str × Str) (v : D) : ∃ us', Kp (Py.put kv [.inr x.1, .inr x.2] v) us' ∧ (∀ y, y ∈ us' ↔ y ∈ us ∨ y = x) ∧ us'.length ≤ us.length + 1 := by
  by_cases hx : x ∈ us
  · refine ⟨us, ⟨by rw [put_dom, h.1, if_pos (List.mem_map.mpr ⟨x, hx, rfl⟩)], h.2⟩, fun y => ⟨.inl, fun q => q.elim id fun e => e ▸ hx⟩, by omega⟩
  · refine ⟨us ++ [x], ⟨?_, ?_⟩, fun y => by simp, by simp⟩
    · rw [put_dom, h.1, if_neg (fun q => by obtain ⟨z, h1, h2⟩ := List.mem_map.mp q; rw [kp_inj h2] at h1; exact hx h1)]; simp
    · rw [List.nodup_append]; exact ⟨h.2, by simp, fun a ha b hb e => by simp at hb; subst hb; exact hx (e ▸ ha)⟩
theorem Kp.keys {kv : List (List Key × D)} {us : List (Str × Str)} (h : Kp kv us) : (kv.map fun p => D.tup (p.1.map kD)) = us.map pairD := by
  have : (kv.map fun p => D.tup (p.1.map kD)) = (kv.map (·.1)).map fun k => D.tup (k.map kD) := by rw [List.map_map]; rfl
  rw [this, h.1, List.map_map]; rfl
theorem Kp.nil : Kp [] [] := ⟨rfl, List.nodup_nil⟩
/-- what is missing at a want -/
def MissM (b : Bks) (w : Str) (m : Mk) (o : Str) : Prop := match m with
  | .as v => o = v ∧ standS b w = none
  | .made ns _ _ _ => ∃ h, (h, o) ∈ ns ∧ h ≠ "maybe" ∧ standS b o = none
def Miss (b : Bks) (p : Str × Str) : Prop := ∃ m, (p.1, m) ∈ b ∧ MissM b p.1 m p.2
open Classical in
/-- what is missing, sorted -/
noncomputable def missL (b : Bks) : List (Str × Str) := if h : ∃ us : List (Str × Str), us.Nodup ∧ ∀ p, p ∈ us ↔ Miss b p then isort leP (Classical.choose h) else []
theorem isort_ext {l m : List (Str × Str)} (hl : l.Nodup) (hm : m.Nodup) (h : ∀ p, p ∈ l ↔ p ∈ m) : isort leP l = isort leP m := by
  refine isort_unique leP_total leP_trans leP_anti ?_ (isort_sorted leP_total leP_trans l)
  exact (isort_perm leP l).trans ((List.perm_ext_iff_of_nodup hl hm).mpr h)
theorem missL_eq {b : Bks} {us : List (Str × Str)} (nd : us.Nodup) (h : ∀ p, p ∈ us ↔ Miss b p) : isort leP us = missL b := by
  have hx : ∃ us : List (Str × Str), us.Nodup ∧ ∀ p, p ∈ us ↔ Miss b p := ⟨us, nd, h⟩
  unfold missL
  rw [dif_pos hx]
  have := Classical.choose_spec hx
  exact isort_ext nd this.1 fun p => (h p).trans (this.2 p).symm
theorem missL_mem {b : Bks} {us : List (Str × Str)} (nd : us.Nodup) (h : ∀ p, p ∈ us ↔ Miss b p) (p : Str × Str) : p ∈ missL b ↔ Miss b p := by
  rw [← missL_eq nd h, (isort_perm leP us).mem_iff]; exact h p
theorem miss_in (b : Bks) (hb : b.length ≤ 6) (v1 v2 v3 : Option D) (w : Str) : ∀ (ns : List (Str × Str)) (kv : List (List Key × D)) (us : List (Str × Str)) (o4 o5 : Option D), Kp kv us → kv.length + ns.length < 1000 →
    ∃ kv' us' o4' o5', forL 1 (gTup [gName 4, gName 5]) lp_missing_in_1 (ns.map pairD) [some (encB b), some (.ref 0), some (.str w), v3, o4, o5] [.dT kv] = .nx [some (encB b), some (.ref 0), some (.str w), v3, o4', o5'] [.dT kv'] ∧ Kp kv' us' ∧ (∀ p, p ∈ us' ↔ p ∈ us ∨ p.1 = w ∧ ∃ h, (h, p.2) ∈ ns ∧ h ≠ "maybe" ∧ standS b p.2 = none) ∧ kv'.length ≤ kv.length + ns.length
  | [], kv, us, o4, o5, h, _ => ⟨kv, us, o4, o5, rfl, h, by simp, by simp⟩
  | n :: ns, kv, us, o4, o5, h, hl => by
    simp only [List.length_cons] at hl
    by_cases hc : n.1 ≠ "maybe" ∧ standS b n.2 = none
    · obtain ⟨us1, h1, h2, h3⟩ := h.put (w, n.2) (.bl true)
      have hl1 := put_len kv [.inr w, .inr n.2] (.bl true)
      obtain ⟨kv', us', o4', o5', g1, g2, g3, g4⟩ := miss_in b hb v1 v2 v3 w ns (put kv [.inr w, .inr n.2] (.bl true)) us1 (some (.str n.1)) (some (.str n.2)) h1 (by omega)
      refine ⟨kv', us', o4', o5', ?_, g2, fun p => ?_, by rw [List.length_cons]; omega⟩
      · rw [List.map_cons, forL_nx (n0 := 1) (e1 := [some (encB b), some (.ref 0), some (.str w), v3, some (.str n.1), some (.str n.2)]) (e2 := [some (encB b), some (.ref 0), some (.str w), v3, some (.str n.1), some (.str n.2)]) (st2 := [.dT (put kv [.inr w, .inr n.2] (.bl true))]) (by simp [pairD]) (by simp [lp_missing_in_1, hc.1, m_stand hb, hc.2, show kv.length < 16777216 by omega]) rfl]
        exact g1
      · rw [g3, h2]
        simp only [List.mem_cons]
        constructor
        · rintro ((q | q) | ⟨q1, k, q2, q3⟩)
          · exact .inl q
          · subst q; exact .inr ⟨rfl, n.1, .inl rfl, hc⟩
          · exact .inr ⟨q1, k, .inr q2, q3⟩
        · rintro (q | ⟨q1, k, q2 | q2, q3⟩)
          · exact .inl (.inl q)
          · refine .inl (.inr ?_)
            have q4 : p.2 = n.2 := by rw [← q2]
            exact Prod.ext q1 q4
          · exact .inr ⟨q1, k, q2, q3⟩
    · obtain ⟨kv', us', o4', o5', g1, g2, g3, g4⟩ := miss_in b hb v1 v2 v3 w ns kv us (some (.str n.1)) (some (.str n.2)) h (by omega)
      refine ⟨kv', us', o4', o5', ?_, g2, fun p => ?_, by rw [List.length_cons]; omega⟩
      · have hrun : lp_missing_in_1 [some (encB b), some (.ref 0), some (.str w), v3, some (.str n.1), some (.str n.2)] [.dT kv] = .nx [some (encB b), some (.ref 0), some (.str w), v3, some (.str n.1), some (.str n.2)] [.dT kv] := by
          by_cases hm : n.1 = "maybe"
          · simp [lp_missing_in_1, hm]
          · have hs : (standS b n.2).isNone = false := by
              cases q : standS b n.2 with
              | none => exact absurd ⟨hm, q⟩ hc
              | some => rfl
            simp [lp_missing_in_1, hm, m_stand hb, hs]
        rw [List.map_cons, forL_nx (n0 := 1) (e1 := [some (encB b), some (.ref 0), some (.str w), v3, some (.str n.1), some (.str n.2)]) (e2 := [some (encB b), some (.ref 0), some (.str w), v3, some (.str n.1), some (.str n.2)]) (st2 := [.dT kv]) (by simp [pairD]) hrun rfl]
        exact g1
      · rw [g3]
        simp only [List.mem_cons]
        constructor
        · rintro (q | ⟨q1, k, q2, q3⟩)
          · exact .inl q
          · exact .inr ⟨q1, k, .inr q2, q3⟩
        · rintro (q | ⟨q1, k, q2 | q2, q3⟩)
          · exact .inl q
          · subst q2; exact absurd q3 hc
          · exact .inr ⟨q1, k, q2, q3⟩
/-- at most so many needs -/
def Small (m : Mk) : Prop := match m with
  | .as _ => True
  | .made ns _ _ _ => ns.length ≤ 3
theorem okM_small {m : Mk} (h : OkM m) : Small m := by
  cases m with
  | as => trivial
  | made => exact h.1
theorem miss_out (b : Bks) (hb : b.length ≤ 6) : ∀ (c : Bks) (kv : List (List Key × D)) (us : List (Str × Str)) (o2 o3 o4 o5 : Option D), (∀ r ∈ c, Small r.2) → Kp kv us → kv.length + 4 * c.length < 900 →
    ∃ kv' us' o2' o3' o4' o5', forL 1 (gTup [gName 2, gName 3]) lp_missing_in_2 (c.map encR) [some (encB b), some (.ref 0), o2, o3, o4, o5] [.dT kv] = .nx [some (encB b), some (.ref 0), o2', o3', o4', o5'] [.dT kv'] ∧ Kp kv' us' ∧ (∀ p, p ∈ us' ↔ p ∈ us ∨ ∃ m, (p.1, m) ∈ c ∧ MissM b p.1 m p.2)
  | [], kv, us, o2, o3, o4, o5, _, h, _ => ⟨kv, us, o2, o3, o4, o5, rfl, h, by simp⟩
  | r :: c, kv, us, o2, o3, o4, o5, hc, h, hl => by
    simp only [List.length_cons] at hl
    have fin : ∀ (kv1 : List (List Key × D)) (us1 : List (Str × Str)) (o41 o51 : Option D), lp_missing_in_2 [some (encB b), some (.ref 0), some (.str r.1), some (encM r.2), o4, o5] [.dT kv] = .nx [some (encB b), some (.ref 0), some (.str r.1), some (encM r.2), o41, o51] [.dT kv1] → Kp kv1 us1 → kv1.length ≤ kv.length + 4 → (∀ p, p ∈ us1 ↔ p ∈ us ∨ p.1 = r.1 ∧ MissM b p.1 r.2 p.2) →
        ∃ kv' us' o2' o3' o4' o5', forL 1 (gTup [gName 2, gName 3]) lp_missing_in_2 ((r :: c).map encR) [some (encB b), some (.ref 0), o2, o3, o4, o5] [.dT kv] = .nx [some (encB b), some (.ref 0), o2', o3', o4', o5'] [.dT kv'] ∧ Kp kv' us' ∧ (∀ p, p ∈ us' ↔ p ∈ us ∨ ∃ m, (p.1, m) ∈ r :: c ∧ MissM b p.1 m p.2) := by
      intro kv1 us1 o41 o51 hrun h1 hl1 hm
      obtain ⟨kv', us', o2', o3', o4', o5', g1, g2, g3⟩ := miss_out b hb c kv1 us1 (some (.str r.1)) (some (encM r.2)) o41 o51 (fun q hq => hc q (List.mem_cons_of_mem _ hq)) h1 (by omega)
      refine ⟨kv', us', o2', o3', o4', o5', ?_, g2, fun p => ?_⟩
      · rw [List.map_cons, forL_nx (n0 := 1) (e1 := [some (encB b), some (.ref 0), some (.str r.1), some (encM r.2), o4, o5]) (by simp [encR]) hrun rfl]
        exact g1
      · rw [g3, hm]
        simp only [List.mem_cons]
        constructor
        · rintro ((q | ⟨q1, q2⟩) | ⟨m, q1, q2⟩)
          · exact .inl q
          · exact .inr ⟨r.2, .inl (Prod.ext q1 rfl), q2⟩
          · exact .inr ⟨m, .inr q1, q2⟩
        · rintro (q | ⟨m, q1 | q1, q2⟩)
          · exact .inl (.inl q)
          · rw [← q1]; exact .inl (.inr ⟨rfl, q2⟩)
          · exact .inr ⟨m, q1, q2⟩
    cases hr : r.2 with
    | as v =>
      by_cases hs : standS b r.1 = none
      · obtain ⟨us1, h1, h2, h3⟩ := h.put (r.1, v) (.bl true)
        have hl1 := put_len kv [.inr r.1, .inr v] (.bl true)
        refine fin (put kv [.inr r.1, .inr v] (.bl true)) us1 o4 o5 ?_ h1 (by omega) fun p => ?_
        · simp [lp_missing_in_2, hr, encM, m_stand hb, hs, show kv.length < 16777216 by omega]
        · rw [h2, hr]
          simp only [MissM]
          constructor
          · rintro (q | q)
            · exact .inl q
            · subst q; exact .inr ⟨rfl, rfl, hs⟩
          · rintro (q | ⟨q1, q2, q3⟩)
            · exact .inl q
            · exact .inr (Prod.ext q1 q2)
      · have hs' : (standS b r.1).isNone = false := by
          cases q : standS b r.1 with
          | none => exact absurd q hs
          | some => rfl
        refine fin kv us o4 o5 ?_ h (by omega) fun p => ?_
        · simp [lp_missing_in_2, hr, encM, m_stand hb, hs']
        · rw [hr]
          simp only [MissM]
          exact ⟨.inl, fun q => q.elim id fun ⟨q1, _, q3⟩ => absurd (q1 ▸ q3) hs⟩
    | made ns sp en br =>
      have hn : ns.length ≤ 3 := by
        have := hc r List.mem_cons_self
        rw [hr] at this
        exact this
      obtain ⟨kv1, us1, o41, o51, g1, g2, g3, g4⟩ := miss_in b hb none none (some (encM (.made ns sp en br))) r.1 ns kv us o4 o5 h (by omega)
      refine fin kv1 us1 o41 o51 ?_ g2 (by omega) fun p => ?_
      · simp only [encM] at g1
        simp [lp_missing_in_2, hr, encM, g1]
      · rw [g3, hr]
        simp only [MissM]
theorem m_missin {b : Bks} (hb : OkB b) : m_missing_in [encB b] = .ok (.lst ((missL b).map pairD)) ∧ ∀ p, p ∈ missL b ↔ Miss b p := by
  have h6 := hb.len
  obtain ⟨kv, us, o2, o3, o4, o5, g1, g2, g3⟩ := miss_out b h6 b [] [] none none none none (fun r hr => okM_small (hb.row r hr).2) Kp.nil (by simp; omega)
  have hm : ∀ p, p ∈ us ↔ Miss b p := fun p => by rw [g3]; simp [Miss]
  refine ⟨pureOf_rt (st := [.dT kv]) (d := .lst ((missL b).map pairD)) rfl ?_ (by simp [frz, frz0]), missL_mem g2.2 hm⟩
  have hs := fSorted2_pairs (st := [.dT kv]) us
  rw [missL_eq g2.2 hm] at hs
  simp [run_missing_in, g1, g2.keys, hs]
theorem m_miss {b : Bks} (hb : OkB b) : m_missing [encB b] = .ok (.lst ((missL b).map pairD)) := by
  refine pureOf_rt (st := []) (d := .lst ((missL b).map pairD)) rfl ?_ (by simp [frz, frz0])
  simp [run_missing, m_chk hb, (m_missin hb).1]
end Py

set_option Elab.async false
set_option linter.all false
set_option maxRecDepth 100000
set_option maxHeartbeats 1000000
set_option autoImplicit false
namespace Py
open PySem
theorem m_pmade (b : Bks) : m_made_wants [encB b] = .ok (.lst ((madeW b).map .str)) := by
  refine pureOf_rt (st := []) (d := .lst ((madeW b).map .str)) rfl ?_ (by simp [frz, frz0])
  have h := compL_all encR (n0 := 0) (g := gTup [gName 1, gName 2]) (t := tVal (rBin fEq (rBin fSub2 (rVar 2) (rC (.int 0))) (rC (.str "made")))) (r := rVar 1) (e := [some (encB b), none, none]) (st := []) rfl (fun r => isMade r.2) (fun r => .str r.1) b fun r _ => ⟨[some (encB b), some (.str r.1), some (encM r.2)], by simp [encR], by simp [sub0_encM, dec_made], fun _ => by simp⟩
  simp [run_made_wants, h, madeW]
theorem m_pneeds {b : Bks} {w : Str} (h : IsMade b w) : m_needs_in [encB b, .str w] = .ok (.tup ((needsOf b w).map pairD)) := by
  obtain ⟨ns, sp, en, br, h⟩ := h
  refine pureOf_rt (st := []) (d := .tup ((needsOf b w).map pairD)) rfl ?_ (by simp [frz, frz0])
  have e : needsOf b w = ns := by unfold needsOf; rw [h]
  simp [run_needs_in, m_maker, h, encM, e]
theorem m_pspan {b : Bks} {w : Str} (h : IsMade b w) : m_span_in [encB b, .str w] = .ok (.str (spanOf b w)) := by
  obtain ⟨ns, sp, en, br, h⟩ := h
  refine pureOf_rt (st := []) (d := .str (spanOf b w)) rfl ?_ (by simp [frz, frz0])
  have e : spanOf b w = sp := by unfold spanOf; rw [h]
  simp [run_span_in, m_maker, h, encM, e]
theorem m_pholds {b : Bks} (hb : b.length ≤ 6) {w : Str} (h : IsMade b w) : m_held_in [encB b, .str w] = .ok (.lst ((holds b w).map .str)) := by
  have hn := m_pneeds h
  refine pureOf_rt (st := []) (d := .lst ((holds b w).map .str)) rfl ?_ (by simp [frz, frz0])
  obtain ⟨ns, hns⟩ : ∃ ns, ns = needsOf b w := ⟨_, rfl⟩
  rw [← hns] at hn
  have c1 := compL_all pairD (n0 := 0) (g := gTup [gName 3, gName 4]) (t := tVal (rBin fNe (rVar 3) (rC (.str "late")))) (r := rP m_stands (aCons (rVar 0) (aCons (rVar 4) (aNil)))) (e := [some (encB b), some (.str w), none, none, none]) (st := []) rfl (fun p : Str × Str => !decide (p.1 = ("late" : Str))) (fun p => optS (standS b p.2)) ns fun p _ => ⟨[some (encB b), some (.str w), none, some (.str p.1), some (.str p.2)], by simp [pairD], by simp, fun _ => by simp [m_stand hb p.2]⟩
  have c2 := compL_all optS (n0 := 0) (g := gName 4) (t := tVal (rUn fNotN (rVar 4))) (r := rVar 4) (e := [some (encB b), some (.str w), some (.lst ((ns.filter fun p : Str × Str => !decide (p.1 = ("late" : Str))).map fun p => optS (standS b p.2))), none, none]) (st := []) rfl (fun o => o.isSome) optS ((ns.filter fun p : Str × Str => !decide (p.1 = ("late" : Str))).map fun p => standS b p.2) fun o _ => ⟨[some (encB b), some (.str w), some (.lst ((ns.filter fun p : Str × Str => !decide (p.1 = ("late" : Str))).map fun p => optS (standS b p.2))), none, some (optS o)], by simp, by cases o <;> simp, fun _ => by simp⟩
  rw [opt_filter, List.map_map] at c2
  have e : holds b w = (ns.filter fun p : Str × Str => !decide (p.1 = ("late" : Str))).filterMap fun p => standS b p.2 := by unfold holds; rw [← hns]
  rw [← e] at c2
  have e2 : (optS ∘ fun p : Str × Str => standS b p.2) = fun p => optS (standS b p.2) := rfl
  rw [e2] at c2
  simp only [run_held_in, sSeq_ap, sSet_ap, rFrz_ap, lComp_ap, iAny_ap, rBin_ap, rP_ap, aCons_ap, rVar_ap, startE_2, List.replicate, List.getElem?_cons_zero, List.getElem?_cons_succ, rVal_some, Res.bd_ok, aNil_ap, rC_ap, hn, List.all_cons, List.all_nil, bel_encB, bel_str, Bool.and_self, if_true, PRes.toR_ok, itAny_tup, wipe_cons, wipe_nil, List.set_cons_zero, List.set_cons_succ, List.length_nil, c1, Res.toS_ok, SR.bind_nx, sRet_ap, itAny_lst, c2]
/-! ### short_held -/
theorem sh1 {b : Bks} (hb : b.length ≤ 6) (v1 : Option D) : ∀ (hs : List Str) (met found : List (Key × D)) (M R Fd : List Str) (o5 : Option D), (∀ x ∈ hs, IsMade b x) → Kd met M → Kd found Fd → (∀ x ∈ M, x ∈ names b) → (∀ x ∈ Fd, x ∈ names b) → R.length + hs.length < 1000 →
    ∃ (met' found' : List (Key × D)) (M' R' Fd' : List Str) (o5' : Option D), forL 3 (gName 5) lp_short_held_1 (hs.map .str) [some (encB b), v1, some (.ref 0), some (.ref 1), some (.ref 2), o5] [.dK met, .lst (R.map .str), .dK found] = .nx [some (encB b), v1, some (.ref 0), some (.ref 1), some (.ref 2), o5'] [.dK met', .lst (R'.map .str), .dK found'] ∧ Kd met' M' ∧ Kd found' Fd' ∧
      (∀ x, x ∈ M' ↔ x ∈ M ∨ x ∈ hs ∧ spanOf b x = "each") ∧ (∀ x, x ∈ Fd' ↔ x ∈ Fd ∨ x ∈ hs ∧ spanOf b x = "scope") ∧ (∀ x ∈ R, x ∈ R') ∧ (∀ x ∈ R', x ∈ R ∨ x ∈ hs ∧ spanOf b x = "each") ∧ (∀ x ∈ M', x ∈ M ∨ x ∈ R') ∧ M'.length + R.length = M.length + R'.length
  | [], met, found, M, R, Fd, o5, _, h1, h2, _, _, _ => ⟨met, found, M, R, Fd, o5, rfl, h1, h2, by simp, by simp, fun _ h => h, fun _ h => .inl h, fun _ h => .inl h, rfl⟩
  | z :: hs, met, found, M, R, Fd, o5, hm, h1, h2, hM, hF, hR => by
    simp only [List.length_cons] at hR
    have hz := hm z List.mem_cons_self
    have hzn := isMade_name hz
    have hsp := m_pspan hz
    have hml : met.length ≤ 6 := by rw [h1.len]; exact Nat.le_trans (nodup_sub_len h1.2 hM) (by simpa [names] using hb)
    have hfl : found.length ≤ 6 := by rw [h2.len]; exact Nat.le_trans (nodup_sub_len h2.2 hF) (by simpa [names] using hb)
    have hin : ∀ (a c : O), inB (.str z) (.ref 0) [.dK met, a, c] = some (decide (z ∈ M)) := fun a c => by rw [inB_refK z 0 met rfl, h1.has]
    have sub : ∀ x ∈ hs, IsMade b x := fun x hx => hm x (List.mem_cons_of_mem _ hx)
    by_cases hsc : spanOf b z = "scope"
    · obtain ⟨Fd1, k1, k2⟩ := h2.put z (.bl true)
      obtain ⟨met', found', M', R', Fd', o5', g1, g2, g3, g4, g5, g6, g7, g8, g9⟩ := sh1 hb v1 hs met (put found (.inr z) (.bl true)) M R Fd1 (some (.str z)) sub h1 k1 hM (fun x hx => by
        rcases (k2 x).mp hx with q | q
        · exact hF x q
        · rw [q]; exact hzn) (by omega)
      refine ⟨met', found', M', R', Fd', o5', ?_, g2, g3, fun x => ?_, fun x => ?_, g6, fun x hx => ?_, g8, g9⟩
      · rw [List.map_cons, forL_nx (n0 := 3) (e1 := [some (encB b), v1, some (.ref 0), some (.ref 1), some (.ref 2), some (.str z)]) (e2 := [some (encB b), v1, some (.ref 0), some (.ref 1), some (.ref 2), some (.str z)]) (st2 := [.dK met, .lst (R.map .str), .dK (put found (.inr z) (.bl true))]) (by simp) (by simp [lp_short_held_1, hsp, hsc, show found.length < 16777216 by omega]) rfl]
        exact g1
      · rw [g4]; simp only [List.mem_cons]
        constructor
        · rintro (q | ⟨q1, q2⟩)
          · exact .inl q
          · exact .inr ⟨.inr q1, q2⟩
        · rintro (q | ⟨rfl | q1, q2⟩)
          · exact .inl q
          · rw [hsc] at q2; simp at q2
          · exact .inr ⟨q1, q2⟩
      · rw [g5, k2]; simp only [List.mem_cons]
        constructor
        · rintro ((q | q) | ⟨q1, q2⟩)
          · exact .inl q
          · exact .inr ⟨.inl q, by rw [q]; exact hsc⟩
          · exact .inr ⟨.inr q1, q2⟩
        · rintro (q | ⟨q1 | q1, q2⟩)
          · exact .inl (.inl q)
          · exact .inl (.inr q1)
          · exact .inr ⟨q1, q2⟩
      · rcases g7 x hx with q | ⟨q1, q2⟩
        · exact .inl q
        · exact .inr ⟨List.mem_cons_of_mem _ q1, q2⟩
    · by_cases hea : spanOf b z = "each" ∧ z ∉ M
      · obtain ⟨hea, hzM⟩ := hea
        obtain ⟨M1, k1, k2⟩ := h1.put z (.bl true)
        have hM1 : M1.length = M.length + 1 := by
          have e1 := k1.len
          have e2 := congrArg List.length (put_dom met (.inr z) (.bl true))
          rw [if_neg (by rw [h1.1]; intro q; obtain ⟨y, y1, y2⟩ := List.mem_map.mp q; cases y2; exact hzM y1)] at e2
          simp at e2
          have := h1.len
          omega
        obtain ⟨met', found', M', R', Fd', o5', g1, g2, g3, g4, g5, g6, g7, g8, g9⟩ := sh1 hb v1 hs (put met (.inr z) (.bl true)) found M1 (R ++ [z]) Fd (some (.str z)) sub k1 h2 (fun x hx => by
          rcases (k2 x).mp hx with q | q
          · exact hM x q
          · rw [q]; exact hzn) hF (by simp; omega)
        refine ⟨met', found', M', R', Fd', o5', ?_, g2, g3, fun x => ?_, fun x => ?_, fun x hx => g6 x (List.mem_append_left _ hx), fun x hx => ?_, fun x hx => ?_, by simp at g9; omega⟩
        · rw [List.map_cons, forL_nx (n0 := 3) (e1 := [some (encB b), v1, some (.ref 0), some (.ref 1), some (.ref 2), some (.str z)]) (e2 := [some (encB b), v1, some (.ref 0), some (.ref 1), some (.ref 2), some (.str z)]) (st2 := [.dK (put met (.inr z) (.bl true)), .lst ((R ++ [z]).map .str), .dK found]) (by simp) (by simp [lp_short_held_1, hsp, hea, hin, hzM, show met.length < 16777216 by omega, show R.length < 16777216 by omega]) rfl]
          exact g1
        · rw [g4, k2]; simp only [List.mem_cons]
          constructor
          · rintro ((q | q) | ⟨q1, q2⟩)
            · exact .inl q
            · exact .inr ⟨.inl q, by rw [q]; exact hea⟩
            · exact .inr ⟨.inr q1, q2⟩
          · rintro (q | ⟨q1 | q1, q2⟩)
            · exact .inl (.inl q)
            · exact .inl (.inr q1)
            · exact .inr ⟨q1, q2⟩
        · rw [g5]; simp only [List.mem_cons]
          constructor
          · rintro (q | ⟨q1, q2⟩)
            · exact .inl q
            · exact .inr ⟨.inr q1, q2⟩
          · rintro (q | ⟨rfl | q1, q2⟩)
            · exact .inl q
            · exact absurd q2 hsc
            · exact .inr ⟨q1, q2⟩
        · rcases g7 x hx with q | ⟨q1, q2⟩
          · rcases List.mem_append.mp q with q | q
            · exact .inl q
            · simp at q; rw [q]; exact .inr ⟨List.mem_cons_self, hea⟩
          · exact .inr ⟨List.mem_cons_of_mem _ q1, q2⟩
        · rcases g8 x hx with q | q
          · rcases (k2 x).mp q with q | q
            · exact .inl q
            · rw [q]; exact .inr (g6 z (by simp))
          · exact .inr q
      · obtain ⟨met', found', M', R', Fd', o5', g1, g2, g3, g4, g5, g6, g7, g8, g9⟩ := sh1 hb v1 hs met found M R Fd (some (.str z)) sub h1 h2 hM hF (by omega)
        refine ⟨met', found', M', R', Fd', o5', ?_, g2, g3, fun x => ?_, fun x => ?_, g6, fun x hx => ?_, g8, g9⟩
        · have hrun : lp_short_held_1 [some (encB b), v1, some (.ref 0), some (.ref 1), some (.ref 2), some (.str z)] [.dK met, .lst (R.map .str), .dK found] = .nx [some (encB b), v1, some (.ref 0), some (.ref 1), some (.ref 2), some (.str z)] [.dK met, .lst (R.map .str), .dK found] := by
            by_cases he : spanOf b z = "each"
            · have hzM : z ∈ M := Classical.byContradiction fun q => hea ⟨he, q⟩
              simp [lp_short_held_1, hsp, he, hin, hzM]
            · simp [lp_short_held_1, hsp, hsc, he]
          rw [List.map_cons, forL_nx (n0 := 3) (e1 := [some (encB b), v1, some (.ref 0), some (.ref 1), some (.ref 2), some (.str z)]) (by simp) hrun rfl]
          exact g1
        · rw [g4]; simp only [List.mem_cons]
          constructor
          · rintro (q | ⟨q1, q2⟩)
            · exact .inl q
            · exact .inr ⟨.inr q1, q2⟩
          · rintro (q | ⟨rfl | q1, q2⟩)
            · exact .inl q
            · exact .inl (Classical.byContradiction fun q => hea ⟨q2, q⟩)
            · exact .inr ⟨q1, q2⟩
        · rw [g5]; simp only [List.mem_cons]
          constructor
          · rintro (q | ⟨q1, q2⟩)
            · exact .inl q
            · exact .inr ⟨.inr q1, q2⟩
          · rintro (q | ⟨rfl | q1, q2⟩)
            · exact .inl q
            · exact absurd q2 hsc
            · exact .inr ⟨q1, q2⟩
        · rcases g7 x hx with q | ⟨q1, q2⟩
          · exact .inl q
          · exact .inr ⟨List.mem_cons_of_mem _ q1, q2⟩
end Py

set_option Elab.async false
set_option linter.all false
set_option maxRecDepth 100000
set_option maxHeartbeats 1000000
set_option autoImplicit false
namespace Py
open PySem
/-- all that y holds has been seen -/
def Done (b : Bks) (M Fd : List Str) (y : Str) : Prop := ∀ x ∈ holds b y, (spanOf b x = "scope" → x ∈ Fd) ∧ (spanOf b x = "each" → x ∈ M)
theorem holds_len {b : Bks} (hb : OkB b) (y : Str) : (holds b y).length ≤ 3 := by
  unfold holds
  refine Nat.le_trans (List.length_filterMap_le ..) (Nat.le_trans (List.length_filter_le ..) ?_)
  unfold needsOf
  cases q : mkOf b y with
  | none => simp
  | some m =>
    cases m with
    | as v => simp
    | made ns sp en br => exact (hb.row _ (mkOf_mem q)).2.1
theorem sh2 {b : Bks} (hb : b.length ≤ 6) (hh : ∀ y, (holds b y).length ≤ 3) {w : Str} (hw : IsMade b w) : ∀ (k : Nat) (met found : List (Key × D)) (M R Fd : List Str) (o5 : Option D), Kd met M → Kd found Fd →
    (∀ x ∈ M, Near b w x ∧ spanOf b x = "each") → (∀ x ∈ Fd, Near b w x ∧ spanOf b x = "scope") → (∀ x ∈ R, x = w ∨ Near b w x ∧ spanOf b x = "each") →
    (∀ y, (y = w ∨ y ∈ M) → y ∈ R ∨ Done b M Fd y) → R.length ≤ M.length + 1 → 2 * (6 - M.length) + R.length < k →
    ∃ (met' found' : List (Key × D)) (Fd' : List Str) (o5' : Option D), whileL 3 (tVal (rBin fNe (rVar 3) (rFrz (lDisp (aNil))))) lp_short_held_2 k [some (encB b), some (.str w), some (.ref 0), some (.ref 1), some (.ref 2), o5] [.dK met, .lst (R.map .str), .dK found] = .nx [some (encB b), some (.str w), some (.ref 0), some (.ref 1), some (.ref 2), o5'] [.dK met', .lst [], .dK found'] ∧ Kd found' Fd' ∧ ∀ x, x ∈ Fd' ↔ Near b w x ∧ spanOf b x = "scope"
  | 0, _, _, _, _, _, _, _, _, _, _, _, _, _, h => by omega
  | k + 1, met, found, M, R, Fd, o5, h1, h2, hM, hF, hR, hD, hl, hk => by
    have hMn : ∀ x ∈ M, x ∈ names b := fun x hx => isMade_name (hM x hx).1.made
    have hFn : ∀ x ∈ Fd, x ∈ names b := fun x hx => isMade_name (hF x hx).1.made
    have hMl : M.length ≤ 6 := Nat.le_trans (nodup_sub_len h1.2 hMn) (by simpa [names] using hb)
    have htest : ∀ (st : Store), st[1]? = some (.lst (R.map .str)) → fNe (.ref 1) (.lst []) st = .ok (.bl (!R.isEmpty)) st := fun st hs => by
      have ht : top st (.ref 1) = .lst (R.map .str) := by unfold top; dsimp only; rw [hs]
      rw [fNe_ap, ht, top_lst, okD_lst, okD_lst, eqD_lst]
      have h : (R.map D.str).all (okD 59) = true := by simp
      rw [h]
      cases R <;> simp [all2]
    cases hRe : R with
    | nil =>
      refine ⟨met, found, Fd, o5, ?_, h2, fun x => ⟨hF x, fun ⟨q1, q2⟩ => ?_⟩⟩
      · have := htest [.dK met, .lst [], .dK found] (by rw [hRe]; rfl)
        rw [hRe] at this
        rw [whileL_end (n0 := 3) (st1 := [.dK met, .lst [], .dK found]) (by simp [this]) rfl]
      · have key : ∀ z, Near b w z → (spanOf b z = "scope" → z ∈ Fd) ∧ (spanOf b z = "each" → z ∈ M) := by
          intro z hz
          induction hz with
          | base h =>
            rcases hD w (.inl rfl) with q | q
            · rw [hRe] at q; cases q
            · exact q _ h
          | step hy he hx ih =>
            rcases hD _ (.inr (ih.2 he)) with q | q
            · rw [hRe] at q; cases q
            · exact q _ hx
        exact (key x q1).1 q2
    | cons r0 rt =>
      obtain ⟨R0, y, hRy⟩ : ∃ R0 y, R = R0 ++ [y] := by
        have hne : R ≠ [] := by rw [hRe]; simp
        exact ⟨R.dropLast, R.getLast hne, (List.dropLast_concat_getLast hne).symm⟩
      rw [← hRe]
      have hy := hR y (by rw [hRy]; simp)
      have hym : IsMade b y := hy.elim (fun e => e ▸ hw) fun q => q.1.made
      have hne : R.isEmpty = false := by rw [hRe]; rfl
      have hnear : ∀ x ∈ holds b y, Near b w x := fun x hx => hy.elim (fun e => .base (e ▸ hx)) fun q => .step q.1 q.2 hx
      have hlong := hh y
      have hRl : R.length = R0.length + 1 := by rw [hRy]; simp
      · obtain ⟨met', found', M', R', Fd', o5', g1, g2, g3, g4, g5, g6, g7, g8, g9⟩ := sh1 hb (some (.str w)) (holds b y) met found M R0 Fd o5 (fun x hx => holds_made hx) h1 h2 hMn hFn (by omega)
        have hM'n : ∀ x ∈ M', x ∈ names b := fun x hx => by
          rcases (g4 x).mp hx with q | q
          · exact hMn x q
          · exact isMade_name (holds_made q.1)
        have hM'l : M'.length ≤ 6 := Nat.le_trans (nodup_sub_len g2.2 hM'n) (by simpa [names] using hb)
        have hMM : M.length ≤ M'.length := nodup_sub_len h1.2 fun x hx => (g4 x).mpr (.inl hx)
        obtain ⟨met2, found2, Fd2, o52, k1, k2, k3⟩ := sh2 hb hh hw k met' found' M' R' Fd' o5' g2 g3 (fun x hx => by
            rcases (g4 x).mp hx with q | q
            · exact hM x q
            · exact ⟨hnear x q.1, q.2⟩)
          (fun x hx => by
            rcases (g5 x).mp hx with q | q
            · exact hF x q
            · exact ⟨hnear x q.1, q.2⟩)
          (fun x hx => by
            rcases g7 x hx with q | q
            · exact hR x (by rw [hRy]; exact List.mem_append_left _ q)
            · exact .inr ⟨hnear x q.1, q.2⟩)
          (fun z hz => by
            have hdone : ∀ z, Done b M Fd z → Done b M' Fd' z := fun z h x hx => ⟨fun e => (g5 x).mpr (.inl ((h x hx).1 e)), fun e => (g4 x).mpr (.inl ((h x hx).2 e))⟩
            have hydone : Done b M' Fd' y := fun x hx => ⟨fun e => (g5 x).mpr (.inr ⟨hx, e⟩), fun e => (g4 x).mpr (.inr ⟨hx, e⟩)⟩
            by_cases hzy : z = y
            · rw [hzy]; exact .inr hydone
            · have old : (z = w ∨ z ∈ M) → z ∈ R' ∨ Done b M' Fd' z := fun h => by
                rcases hD z h with q | q
                · rw [hRy] at q
                  rcases List.mem_append.mp q with q | q
                  · exact .inl (g6 z q)
                  · simp at q; exact absurd q hzy
                · exact .inr (hdone z q)
              rcases hz with q | q
              · exact old (.inl q)
              · rcases g8 z q with q | q
                · exact old (.inr q)
                · exact .inl q)
          (by omega) (by omega)
        refine ⟨met2, found2, Fd2, o52, ?_, k2, k3⟩
        have ht := htest [.dK met, .lst (R.map .str), .dK found] rfl
        rw [hne] at ht
        have hpop : popO (some (.lst (R.map D.str))) 1 [.dK met, .lst (R.map .str), .dK found] = .ok (.str y) [.dK met, .lst (R0.map .str), .dK found] := by
          rw [hRy, List.map_append]
          exact popO_snoc _ _ _
        rw [whileL_nx (n0 := 3) (st1 := [.dK met, .lst (R.map .str), .dK found]) (e2 := [some (encB b), some (.str w), some (.ref 0), some (.ref 1), some (.ref 2), o5']) (st2 := [.dK met', .lst (R'.map .str), .dK found']) (by simp [ht]) (by simp [lp_short_held_2, hpop, m_pholds hb hym, g1]) rfl]
        exact k1
end Py

set_option Elab.async false
set_option linter.all false
set_option maxRecDepth 100000
set_option maxHeartbeats 1000000
set_option autoImplicit false
namespace Py
open PySem
open Classical in
theorem m_short {b : Bks} (hb : OkB b) {w : Str} (hw : IsMade b w) : m_short_held [encB b, .str w] = .ok (.lst ((shorts b w).map .str)) := by
  have h6 := hb.len
  obtain ⟨met, found, Fd, o5, g1, g2, g3⟩ := sh2 h6 (holds_len hb) hw fuel [] [] [] [w] [] none Kd.nil Kd.nil (by simp) (by simp) (by simp) (by simp) (by simp) (fuel_gt (by simp))
  have hl : Fd.length ≤ 6 := Nat.le_trans (nodup_sub_len g2.2 fun x hx => isMade_name ((g3 x).mp hx).1.made) (by simpa [names] using h6)
  have hs := fSorted2_strs (st := [.dK met, .lst [], .dK found]) Fd (by omega)
  have e : isort leS Fd = shorts b w := by
    unfold shorts
    exact sort_set g2.2 (hb.srt.filter _) fun x => by
      rw [List.mem_filter, decide_eq_true_eq, g3]
      exact ⟨fun q => q.2, fun q => ⟨isMade_name q.1.made, q⟩⟩
  rw [e] at hs
  refine pureOf_rt (st := [.dK met, .lst [], .dK found]) (d := .lst ((shorts b w).map .str)) rfl ?_ (by simp [frz, frz0])
  simp only [List.map_cons, List.map_nil] at g1
  simp [run_short_held, g1, g2.keys, hs]
theorem shorts_len {b : Bks} (hb : OkB b) (w : Str) : (shorts b w).length ≤ 6 := Nat.le_trans (List.length_filter_le ..) (by simpa [names] using hb.len)
theorem capt_len {b : Bks} (hb : OkB b) : ∀ (l : List Str), (l.flatMap fun w => if spanOf b w = "one" then (shorts b w).map fun x => (w, x) else []).length ≤ 6 * l.length
  | [] => by simp
  | x :: l => by
    rw [List.flatMap_cons, List.length_append, List.length_cons]
    have := capt_len hb l
    have hsl := shorts_len hb x
    have : (if spanOf b x = "one" then (shorts b x).map fun y => (x, y) else []).length ≤ 6 := by split <;> simp; exact hsl
    omega
theorem madeW_len (b : Bks) : (madeW b).length ≤ b.length := by unfold madeW; rw [List.length_map]; exact List.length_filter_le ..
theorem m_captin {b : Bks} (hb : OkB b) : m_captive_in [encB b] = .ok (.lst ((capt b).map pairD)) := by
  have hb6 := hb.len
  obtain ⟨e', st', hf, o2, o3, he, hst⟩ := forL_inv (n0 := 1) (g := gName 2) (b := lp_captive_in_1) D.str
    (fun pre e st => ∃ (o2 o3 : Option D), e = [some (encB b), some (.ref 0), o2, o3] ∧ st = [.lst ((pre.flatMap fun w => if spanOf b w = "one" then (shorts b w).map fun x => (w, x) else []).map pairD)])
    (madeW b) [] [some (encB b), some (.ref 0), none, none] [.lst []] ⟨none, none, rfl, rfl⟩
    fun p w q e st hpq ⟨o2, o3, he, hst⟩ => by
      subst he hst
      have hw : IsMade b w := (made_mem hb.nd).mp (by rw [List.nil_append] at hpq; rw [hpq]; simp)
      have hpl : p.length ≤ 6 := by
        have h1 := congrArg List.length hpq
        have h2 := madeW_len b
        simp at h1
        omega
      have hsp := m_pspan hw
      have hfl := capt_len hb p
      have hsl := shorts_len hb w
      refine ⟨[some (encB b), some (.ref 0), some (.str w), o3], [some (encB b), some (.ref 0), some (.str w), o3], [.lst (((p ++ [w]).flatMap fun w => if spanOf b w = "one" then (shorts b w).map fun x => (w, x) else []).map pairD)], by simp, ?_, rfl, _, _, rfl, rfl⟩
      obtain ⟨C, hC⟩ : ∃ C, C = p.flatMap fun w => if spanOf b w = "one" then (shorts b w).map fun x => (w, x) else [] := ⟨_, rfl⟩
      rw [List.flatMap_append, List.flatMap_singleton, ← hC]
      rw [← hC] at hfl
      by_cases h1 : spanOf b w = "one"
      · have hc := compL_map D.str (n0 := 1) (g := gName 3) (r := rTup (aCons (rVar 2) (aCons (rVar 3) (aNil)))) (e := [some (encB b), some (.ref 0), some (.str w), none]) (st := [.lst (C.map pairD)]) rfl (fun x => pairD (w, x)) (shorts b w) fun x _ => ⟨[some (encB b), some (.ref 0), some (.str w), some (.str x)], by simp, by simp [pairD]⟩
        rw [if_pos h1]
        simp [lp_captive_in_1, hsp, h1, m_short hb hw, hc, show C.length + (shorts b w).length ≤ 16777216 by omega, Function.comp_def]
      · rw [if_neg h1]
        simp [lp_captive_in_1, hsp, h1]
  subst he hst
  refine pureOf_rt (st := [.lst ((capt b).map pairD)]) (d := .ref 0) rfl ?_ (by simp [frz, frz0])
  simp only [List.nil_append] at hf
  simp [run_captive_in, m_pmade, hf]
  rfl
theorem m_captv {b : Bks} (hb : OkB b) : m_captive [encB b] = .ok (.lst ((capt b).map pairD)) := by
  refine pureOf_rt (st := []) (d := .lst ((capt b).map pairD)) rfl ?_ (by simp [frz, frz0])
  simp [run_captive, m_chk hb, m_captin hb]
/-! ### parted -/
structure PartOk (b : Bks) (R L : List Str) : Prop where
  mem : ∀ w, IsMade b w ↔ w ∈ R ∨ w ∈ L
  ndR : R.Nodup
  sub : L.Sublist (madeW b)
  dis : ∀ w ∈ R, w ∉ L
  ord : ∀ k w, R[k]? = some w → ∀ o ∈ holds b w, o ∈ R.take k
structure PartEnd (b : Bks) (R L : List Str) : Prop extends PartOk b R L where
  fin : ∀ w ∈ L, ∃ o ∈ holds b w, o ∈ L
def rdy (b : Bks) (R : List Str) (w : Str) : Bool := (holds b w).all fun o => decide (o ∈ R)
theorem part_step {b : Bks} (hb : OkB b) {R L Q : List Str} (h : PartOk b R L) (hQ : Q = L.filter (rdy b R)) : PartOk b (R ++ Q) (L.filter fun z => !decide (z ∈ Q)) := by
  have hQL : ∀ w ∈ Q, w ∈ L := fun w hw => by rw [hQ] at hw; exact (List.mem_filter.mp hw).1
  refine ⟨fun w => ?_, ?_, List.filter_sublist.trans h.sub, fun w hw hl => ?_, fun k w hk o ho => ?_⟩
  · rw [h.mem, List.mem_append, List.mem_filter]
    constructor
    · rintro (q | q)
      · exact .inl (.inl q)
      · by_cases hw : w ∈ Q
        · exact .inl (.inr hw)
        · exact .inr ⟨q, by simp [hw]⟩
    · rintro ((q | q) | q)
      · exact .inl q
      · exact .inr (hQL w q)
      · exact .inr q.1
  · rw [List.nodup_append]
    refine ⟨h.ndR, ?_, fun a ha c hc e => h.dis a ha (e ▸ hQL c hc)⟩
    rw [hQ]
    exact (List.filter_sublist.trans h.sub).nodup (madeW_nodup hb.nd)
  · obtain ⟨h1, h2⟩ := List.mem_filter.mp hl
    rcases List.mem_append.mp hw with q | q
    · exact h.dis w q h1
    · simp [q] at h2
  · by_cases hkR : k < R.length
    · rw [List.getElem?_append_left hkR] at hk
      rw [List.take_append_of_le_length (by omega)]
      exact h.ord k w hk o ho
    · rw [List.getElem?_append_right (by omega)] at hk
      have hw : w ∈ Q := List.mem_of_getElem? hk
      rw [hQ] at hw
      have h2 := (List.mem_filter.mp hw).2
      unfold rdy at h2
      have h3 := of_decide_eq_true (List.all_eq_true.mp h2 o ho)
      rw [List.take_append]
      refine List.mem_append_left _ ?_
      rw [List.take_of_length_le (by omega)]
      exact h3
theorem part_loop {b : Bks} (hb : OkB b) : ∀ (k : Nat) (m : Bool) (R L : List Str) (o4 o5 o6 : Option D), PartOk b R L → (m = false → ∀ w ∈ L, ∃ o ∈ holds b w, o ∈ L) → 0 < k → (m = true → L.length + 1 < k) →
    ∃ R' L' o4' o5' o6', whileL 1 (tVal (rVar 3)) lp_parted_1 k [some (encB b), some (.ref 0), some (.lst (L.map .str)), some (.bl m), o4, o5, o6] [.lst (R.map .str)] = .nx [some (encB b), some (.ref 0), some (.lst (L'.map .str)), some (.bl false), o4', o5', o6'] [.lst (R'.map .str)] ∧ PartEnd b R' L'
  | 0, _, _, _, _, _, _, _, _, h, _ => by omega
  | k + 1, false, R, L, o4, o5, o6, h, hf, _, _ => ⟨R, L, o4, o5, o6, whileL_end (n0 := 1) (st1 := [.lst (R.map .str)]) (by simp) rfl, ⟨h, hf rfl⟩⟩
  | k + 1, true, R, L, o4, o5, o6, h, _, _, hk => by
    have hk := hk rfl
    obtain ⟨Q, hQ⟩ : ∃ Q, Q = L.filter (rdy b R) := ⟨_, rfl⟩
    have hmade : ∀ w ∈ L, IsMade b w := fun w hw => (h.mem w).mpr (.inr hw)
    have c0 : ∀ z : Str, compL 1 (gName 6) tYes (rBin fIn (rVar 6) (rVar 1)) [some (encB b), some (.ref 0), some (.lst (L.map .str)), some (.bl true), o4, some (.str z), none] ((holds b z).map .str) [.lst (R.map .str)] = .ok ((holds b z).map fun o => .bl (decide (o ∈ R))) [.lst (R.map .str)] := fun z =>
      compL_map D.str (n0 := 1) (g := gName 6) (r := rBin fIn (rVar 6) (rVar 1)) rfl (fun o => .bl (decide (o ∈ R))) (holds b z) fun o _ => ⟨[some (encB b), some (.ref 0), some (.lst (L.map .str)), some (.bl true), o4, some (.str z), some (.str o)], by simp, by simp [inB_refL (st := [.lst (R.map .str)]) o 0 R rfl]⟩
    have k5 : ∀ z : Str, asBools ((holds b z).map fun o => .bl (decide (o ∈ R))) = some ((holds b z).map fun o => decide (o ∈ R)) := fun z => asBools_map (fun o => decide (o ∈ R)) (holds b z)
    have c1 := compL_all D.str (n0 := 1) (g := gName 5) (t := tVal (rCall fAll (aCons (rFrz (lComp [6] (iAny (rP m_held_in (aCons (rVar 0) (aCons (rVar 5) (aNil))))) (gName 6) (tYes) (rBin fIn (rVar 6) (rVar 1)))) (aNil)))) (r := rVar 5) (e := [some (encB b), some (.ref 0), some (.lst (L.map .str)), some (.bl true), o4, none, o6]) (st := [.lst (R.map .str)]) rfl (rdy b R) .str L fun z hz => ⟨[some (encB b), some (.ref 0), some (.lst (L.map .str)), some (.bl true), o4, some (.str z), o6], by simp, by
      unfold rdy
      simp [m_pholds hb.len (hmade z hz), c0, k5, List.all_map], fun _ => by simp⟩
    rw [← hQ] at c1
    have c2 := compL_all D.str (n0 := 1) (g := gName 5) (t := tVal (rBin fNotIn (rVar 5) (rVar 4))) (r := rVar 5) (e := [some (encB b), some (.ref 0), some (.lst (L.map .str)), some (.bl true), some (.lst (Q.map .str)), none, o6]) (st := [.lst ((R ++ Q).map .str)]) rfl (fun z => !decide (z ∈ Q)) .str L fun z hz => ⟨[some (encB b), some (.ref 0), some (.lst (L.map .str)), some (.bl true), some (.lst (Q.map .str)), some (.str z), o6], by simp, by simp [inB_strs], fun _ => by simp⟩
    have hQL : ∀ w ∈ Q, w ∈ L := fun w hw => by rw [hQ] at hw; exact (List.mem_filter.mp hw).1
    have hLl : L.length ≤ 6 := Nat.le_trans h.sub.length_le (Nat.le_trans (madeW_len b) hb.len)
    have hRl : R.length ≤ 6 := Nat.le_trans (nodup_sub_len h.ndR fun x hx => (made_mem hb.nd).mpr ((h.mem x).mpr (.inl hx))) (Nat.le_trans (madeW_len b) hb.len)
    have hQl : Q.length ≤ L.length := by rw [hQ]; exact List.length_filter_le ..
    obtain ⟨R', L', o4', o5', o6', g1, g2⟩ := part_loop hb k (!Q.isEmpty) (R ++ Q) (L.filter fun z => !decide (z ∈ Q)) (some (.lst (Q.map .str))) o5 o6 (part_step hb h hQ) (fun hm w hw => by
        have hQe : Q = [] := by simpa using hm
        rw [hQe] at hw
        simp at hw
        have h1 : rdy b R w = false := by
          cases q : rdy b R w with
          | false => rfl
          | true =>
            have : w ∈ Q := by rw [hQ]; exact List.mem_filter.mpr ⟨hw, q⟩
            rw [hQe] at this; cases this
        unfold rdy at h1
        obtain ⟨o, h2, h3⟩ := List.all_eq_false.mp h1
        refine ⟨o, h2, ?_⟩
        rw [hQe]
        simp at h3 ⊢
        exact ((h.mem o).mp (holds_made h2)).resolve_left h3) (by omega) (fun hm => by
        have hne : Q ≠ [] := by intro q; rw [q] at hm; simp at hm
        obtain ⟨z, hz⟩ := List.exists_mem_of_ne_nil Q hne
        have : (L.filter fun z => !decide (z ∈ Q)).length < L.length := List.length_filter_lt_length_iff_exists.mpr ⟨z, hQL z hz, by simp [hz]⟩
        omega)
    refine ⟨R', L', o4', o5', o6', ?_, g2⟩
    rw [whileL_nx (n0 := 1) (st1 := [.lst (R.map .str)]) (e2 := [some (encB b), some (.ref 0), some (.lst ((L.filter fun z => !decide (z ∈ Q)).map .str)), some (.bl (!Q.isEmpty)), some (.lst (Q.map .str)), o5, o6]) (st2 := [.lst ((R ++ Q).map .str)]) (by simp) (by
      rw [List.map_append] at c2 ⊢
      simp [lp_parted_1, c1, c2, fNe_strs_nil, show R.length + Q.length ≤ 16777216 by omega]) rfl]
    exact g1
theorem m_part {b : Bks} (hb : OkB b) : ∃ R L, m_parted [encB b] = .ok (.tup [.lst (R.map .str), .lst (L.map .str)]) ∧ PartEnd b R L := by
  have hl : (madeW b).length ≤ 6 := Nat.le_trans (madeW_len b) hb.len
  obtain ⟨R, L, o4, o5, o6, g1, g2⟩ := part_loop hb fuel true [] (madeW b) none none none ⟨fun w => by rw [← made_mem hb.nd]; simp, List.nodup_nil, List.Sublist.refl _, by simp, by simp⟩ (by simp) (fuel_gt (by omega)) (fun _ => fuel_gt (by omega))
  refine ⟨R, L, pureOf_rt (st := [.lst (R.map .str)]) (d := .tup [.ref 0, .lst (L.map .str)]) rfl ?_ (by simp [frz, frz0, frzL]), g2⟩
  simp only [List.map_nil] at g1
  simp [run_parted, m_pmade, g1]
end Py

set_option Elab.async false
set_option linter.all false
set_option maxRecDepth 100000
set_option maxHeartbeats 1000000
set_option autoImplicit false
namespace Py
open PySem
theorem k04_in (b : Bks) (hb : b.length ≤ 6) (v0 v4 v5 v6 : Option D) (w : Str) : ∀ (ns : List (Str × Str)) (kv : List (List Key × D)) (us : List (Str × Str)) (o7 o8 : Option D), Kp kv us → kv.length + ns.length < 1000 →
    ∃ kv' us' o7' o8', forL 1 (gTup [gName 7, gName 8]) lp_law_k04_1 (ns.map pairD) [v0, some (encB b), some (.ref 0), some (.str w), v4, v5, v6, o7, o8] [.dT kv] = .nx [v0, some (encB b), some (.ref 0), some (.str w), v4, v5, v6, o7', o8'] [.dT kv'] ∧ Kp kv' us' ∧ (∀ p, p ∈ us' ↔ p ∈ us ∨ p.1 = w ∧ ∃ h, (h, p.2) ∈ ns ∧ standS b p.2 = none) ∧ kv'.length ≤ kv.length + ns.length
  | [], kv, us, o7, o8, h, _ => ⟨kv, us, o7, o8, rfl, h, by simp, by simp⟩
  | n :: ns, kv, us, o7, o8, h, hl => by
    simp only [List.length_cons] at hl
    have hb' : b.length ≤ 1000 := by omega
    by_cases hc : standS b n.2 = none
    · obtain ⟨us1, h1, h2, h3⟩ := h.put (w, n.2) (.bl true)
      have hl1 := put_len kv [.inr w, .inr n.2] (.bl true)
      obtain ⟨kv', us', o4', o5', g1, g2, g3, g4⟩ := k04_in b hb v0 v4 v5 v6 w ns (put kv [.inr w, .inr n.2] (.bl true)) us1 (some (.str n.1)) (some (.str n.2)) h1 (by omega)
      refine ⟨kv', us', o4', o5', ?_, g2, fun p => ?_, by rw [List.length_cons]; omega⟩
      · rw [List.map_cons, forL_nx (n0 := 1) (e1 := [v0, some (encB b), some (.ref 0), some (.str w), v4, v5, v6, some (.str n.1), some (.str n.2)]) (e2 := [v0, some (encB b), some (.ref 0), some (.str w), v4, v5, v6, some (.str n.1), some (.str n.2)]) (st2 := [.dT (put kv [.inr w, .inr n.2] (.bl true))]) (by simp [pairD]) (by simp [lp_law_k04_1, m_lstands b n.2 hb', hc, show kv.length < 16777216 by omega]) rfl]
        exact g1
      · rw [g3, h2]
        simp only [List.mem_cons]
        constructor
        · rintro ((q | q) | ⟨q1, k, q2, q3⟩)
          · exact .inl q
          · subst q; exact .inr ⟨rfl, n.1, .inl rfl, hc⟩
          · exact .inr ⟨q1, k, .inr q2, q3⟩
        · rintro (q | ⟨q1, k, q2 | q2, q3⟩)
          · exact .inl (.inl q)
          · refine .inl (.inr ?_)
            have q4 : p.2 = n.2 := by rw [← q2]
            exact Prod.ext q1 q4
          · exact .inr ⟨q1, k, q2, q3⟩
    · obtain ⟨kv', us', o4', o5', g1, g2, g3, g4⟩ := k04_in b hb v0 v4 v5 v6 w ns kv us (some (.str n.1)) (some (.str n.2)) h (by omega)
      refine ⟨kv', us', o4', o5', ?_, g2, fun p => ?_, by rw [List.length_cons]; omega⟩
      · have hs : (standS b n.2).isNone = false := by
          cases q : standS b n.2 with
          | none => exact absurd q hc
          | some => rfl
        rw [List.map_cons, forL_nx (n0 := 1) (e1 := [v0, some (encB b), some (.ref 0), some (.str w), v4, v5, v6, some (.str n.1), some (.str n.2)]) (e2 := [v0, some (encB b), some (.ref 0), some (.str w), v4, v5, v6, some (.str n.1), some (.str n.2)]) (st2 := [.dT kv]) (by simp [pairD]) (by simp [lp_law_k04_1, m_lstands b n.2 hb', hs]) rfl]
        exact g1
      · rw [g3]
        simp only [List.mem_cons]
        constructor
        · rintro (q | ⟨q1, k, q2, q3⟩)
          · exact .inl q
          · exact .inr ⟨q1, k, .inr q2, q3⟩
        · rintro (q | ⟨q1, k, q2 | q2, q3⟩)
          · exact .inl q
          · subst q2; exact absurd q3 hc
          · exact .inr ⟨q1, k, q2, q3⟩
theorem k04_out (b : Bks) (hb : OkB b) (v0 : Option D) : ∀ (c : Bks) (kv : List (List Key × D)) (us : List (Str × Str)) (o3 o4 o5 o6 o7 o8 : Option D), (∀ r ∈ c, r ∈ b) → Kp kv us → kv.length + 4 * c.length < 900 →
    ∃ kv' us' o3' o4' o5' o6' o7' o8', forL 1 (gTup [gName 3, gName 4]) lp_law_k04_2 (c.map encR) [v0, some (encB b), some (.ref 0), o3, o4, o5, o6, o7, o8] [.dT kv] = .nx [v0, some (encB b), some (.ref 0), o3', o4', o5', o6', o7', o8'] [.dT kv'] ∧ Kp kv' us' ∧ (∀ p, p ∈ us' ↔ p ∈ us ∨ ∃ m, (p.1, m) ∈ c ∧ MissM b p.1 m p.2)
  | [], kv, us, o3, o4, o5, o6, o7, o8, _, h, _ => ⟨kv, us, o3, o4, o5, o6, o7, o8, rfl, h, by simp⟩
  | r :: c, kv, us, o3, o4, o5, o6, o7, o8, hc, h, hl => by
    simp only [List.length_cons] at hl
    have hr := hc r List.mem_cons_self
    have hrm : mkOf b r.1 = some r.2 := mkOf_of_mem hb.nd hr
    obtain ⟨rows, o6r, hrows, hrl, hmiss⟩ : ∃ (rows : List (Str × Str)) (o6r : Option D), (∀ kv, lp_law_k04_2 [v0, some (encB b), some (.ref 0), some (.str r.1), some (encM r.2), o5, o6, o7, o8] [.dT kv] = forL 1 (gTup [gName 7, gName 8]) lp_law_k04_1 (rows.map pairD) [v0, some (encB b), some (.ref 0), some (.str r.1), some (encM r.2), some (.lst (rows.map pairD)), o6r, o7, o8] [.dT kv]) ∧ rows.length ≤ 3 ∧ ∀ o, (∃ h, (h, o) ∈ rows ∧ standS b o = none) ↔ MissM b r.1 r.2 o := by
      cases q : r.2 with
      | as v =>
        refine ⟨[("now", v)], o6, fun kv => ?_, by simp, fun o => ?_⟩
        · simp [lp_law_k04_2, q, encM, pairD]
        · rw [q] at hrm
          have := stand_as hb.len hrm
          simp only [MissM, List.mem_singleton]
          constructor
          · rintro ⟨h, h1, h2⟩
            cases h1
            exact ⟨rfl, this.trans h2⟩
          · rintro ⟨h1, h2⟩
            subst h1
            exact ⟨"now", rfl, this.symm.trans h2⟩
      | made ns sp en br =>
        refine ⟨ns.filter fun p : Str × Str => !decide (p.1 = ("maybe" : Str)), o6, fun kv => ?_, ?_, fun o => ?_⟩
        · have hcm := compL_all pairD (n0 := 1) (g := gName 6) (t := tVal (rBin fNe (rBin fSub2 (rVar 6) (rC (.int 0))) (rC (.str "maybe")))) (r := rVar 6) (e := [v0, some (encB b), some (.ref 0), some (.str r.1), some (encM (.made ns sp en br)), some (.lst [.tup [.str "now", .tup (ns.map pairD)]]), none, o7, o8]) (st := [.dT kv]) rfl (fun p : Str × Str => !decide (p.1 = ("maybe" : Str))) pairD ns fun p _ => ⟨[v0, some (encB b), some (.ref 0), some (.str r.1), some (encM (.made ns sp en br)), some (.lst [.tup [.str "now", .tup (ns.map pairD)]]), some (pairD p), o7, o8], by simp, by simp [pairD], fun _ => by simp⟩
          simp only [encM] at hcm
          simp [lp_law_k04_2, q, encM, hcm]
        · have := (hb.row r hr).2
          rw [q] at this
          exact Nat.le_trans (List.length_filter_le ..) this.1
        · simp only [MissM, List.mem_filter]
          constructor
          · rintro ⟨h, ⟨h1, h2⟩, h3⟩
            exact ⟨h, h1, by simpa using h2, h3⟩
          · rintro ⟨h, h1, h2, h3⟩
            exact ⟨h, ⟨h1, by simpa using h2⟩, h3⟩
    obtain ⟨kv1, us1, o71, o81, f1, f2, f3, f4⟩ := k04_in b hb.len v0 (some (encM r.2)) (some (.lst (rows.map pairD))) o6r r.1 rows kv us o7 o8 h (by omega)
    obtain ⟨kv', us', o3', o4', o5', o6', o7', o8', g1, g2, g3⟩ := k04_out b hb v0 c kv1 us1 (some (.str r.1)) (some (encM r.2)) (some (.lst (rows.map pairD))) o6r o71 o81 (fun q hq => hc q (List.mem_cons_of_mem _ hq)) f2 (by omega)
    refine ⟨kv', us', o3', o4', o5', o6', o7', o8', ?_, g2, fun p => ?_⟩
    · rw [List.map_cons, forL_nx (n0 := 1) (e1 := [v0, some (encB b), some (.ref 0), some (.str r.1), some (encM r.2), o5, o6, o7, o8]) (by simp [encR]) ((hrows kv).trans f1) rfl]
      exact g1
    · rw [g3, f3]
      simp only [List.mem_cons]
      constructor
      · rintro ((q | ⟨q1, q2⟩) | ⟨m, q1, q2⟩)
        · exact .inl q
        · exact .inr ⟨r.2, .inl (Prod.ext q1 rfl), by rw [q1]; exact (hmiss _).mp q2⟩
        · exact .inr ⟨m, .inr q1, q2⟩
      · rintro (q | ⟨m, q1 | q1, q2⟩)
        · exact .inl (.inl q)
        · rw [← q1] at hmiss; exact .inl (.inr ⟨by rw [← q1], (hmiss _).mpr q2⟩)
        · exact .inr ⟨m, q1, q2⟩
theorem all2_self (f : D → D → Bool) : ∀ l : List D, (∀ d ∈ l, f d d = true) → all2 f l l = true
  | [], _ => rfl
  | d :: l, h => by rw [all2, h d List.mem_cons_self, all2_self f l fun x hx => h x (List.mem_cons_of_mem _ hx)]; rfl
theorem fEq_pairs_self {st : Store} (l : List (Str × Str)) : fEq (.lst (l.map pairD)) (.lst (l.map pairD)) st = .ok (.bl true) st := by
  have h1 : (l.map pairD).all (okD 59) = true := by simp [okD_pairD 58]
  rw [fEq_ap, top_lst, okD_lst, h1, eqD_lst, all2_self]
  · rfl
  · intro d hd
    obtain ⟨p, _, rfl⟩ := List.mem_map.mp hd
    unfold pairD
    rw [eqD_tup]
    simp [all2]
theorem m_law_k04_good (ns : List Int) (h : ns.length ≤ 63) : m_law_k04 [.scr ns] = .ok (.bl true) := by
  obtain ⟨b, hc, hb, _⟩ := m_case (ns := ns) (k := 20) (by omega)
  have h6 := hb.len
  obtain ⟨kv, us, o3, o4, o5, o6, o7, o8, g1, g2, g3⟩ := k04_out b hb (some (.scr ns)) b [] [] none none none none none none (fun _ h => h) Kp.nil (by simp; omega)
  have hm : ∀ p, p ∈ us ↔ Miss b p := fun p => by rw [g3]; simp [Miss]
  have hs := fSorted2_pairs (st := [.dT kv]) us
  rw [missL_eq g2.2 hm] at hs
  refine pureOf_rt (st := [.dT kv]) (d := .bl true) rfl ?_ (by simp [frz, frz0])
  simp [run_law_k04, hc, g1, m_miss hb, g2.keys, hs, fEq_pairs_self]
end Py

set_option Elab.async false
set_option linter.all false
set_option maxRecDepth 100000
set_option maxHeartbeats 1000000
set_option autoImplicit false
namespace Py
open PySem
structure RingOk (b : Bks) (L r : List Str) : Prop where
  ne : r ≠ []
  nd : r.Nodup
  sub : ∀ x ∈ r, x ∈ L
  chain : ∀ i x y, r[i]? = some x → r[i + 1]? = some y → y ∈ holds b x
  close : ∀ x y, r.getLast? = some x → r.head? = some y → y ∈ holds b x
theorem fSl_refL {st : Store} {k : Nat} {l : List D} (h : st[k]? = some (.lst l)) (lo hi : Option Int) : fSl (.ref k) lo hi st = .ok (.lst (cut l lo hi)) st := by
  unfold fSl; dsimp only; rw [asL_ref, h]; rfl
theorem fIndex_refL {st : Store} {k : Nat} {l : List Str} (h : st[k]? = some (.lst (l.map .str))) (x : Str) (hx : x ∈ l) : fIndex (.ref k) [.str x] st = .ok (.int ((l.findIdx fun z => decide (z = x) : Nat) : Int)) st := by
  unfold fIndex; dsimp only
  rw [asL_ref, h, lstO_lst]
  dsimp only
  have h1 : (l.map D.str).all flat = true := by simp
  rw [h1, flat_str]
  simp only [Bool.and_self, if_true]
  rw [List.findIdx?_map]
  have h2 : ((fun z => eqF z (D.str x)) ∘ D.str) = fun z => decide (z = x) := rfl
  rw [h2, List.findIdx?_eq_some_of_exists (by exact ⟨x, hx, by simp⟩)]
theorem ring_loop {b : Bks} (hb : OkB b) {R L : List Str} (hp : PartEnd b R L) : ∀ (k : Nat) (C : List Str) (o3 o4 : Option D), C ≠ [] → C.Nodup → (∀ x ∈ C, x ∈ L) → (∀ i x y, C[i]? = some x → C[i + 1]? = some y → y ∈ holds b x) → L.length + 1 - C.length < k →
    ∃ r st', whileL 1 (tVal (rC (.bl true))) lp_ring_1 k [some (encB b), some (.lst (L.map .str)), some (.ref 0), o3, o4] [.lst (C.map .str)] = .rt (.lst (r.map .str)) st' ∧ RingOk b L r
  | 0, _, _, _, _, _, _, _, h => by omega
  | k + 1, C, o3, o4, hne, hnd, hsub, hch, hk => by
    have hLl : L.length ≤ 6 := Nat.le_trans hp.sub.length_le (Nat.le_trans (madeW_len b) hb.len)
    have hCl : C.length ≤ L.length := nodup_sub_len hnd hsub
    obtain ⟨C0, y, hCy⟩ : ∃ C0 y, C = C0 ++ [y] := ⟨C.dropLast, C.getLast hne, (List.dropLast_concat_getLast hne).symm⟩
    have hyL : y ∈ L := hsub y (by rw [hCy]; simp)
    have hym : IsMade b y := (hp.mem y).mpr (.inr hyL)
    have hlast : atI (C.map D.str) (-1) = some (.str y) := by rw [atI_m1 _ (by simpa using hne), hCy]; simp
    have c := compL_all D.str (n0 := 1) (g := gName 4) (t := tVal (rBin fIn (rVar 4) (rVar 1))) (r := rVar 4) (e := [some (encB b), some (.lst (L.map .str)), some (.ref 0), o3, none]) (st := [.lst (C.map .str)]) rfl (fun x => decide (x ∈ L)) .str (holds b y) fun z hz => ⟨[some (encB b), some (.lst (L.map .str)), some (.ref 0), o3, some (.str z)], by simp, by simp [inB_strs], fun _ => by simp⟩
    obtain ⟨x, F, hF⟩ : ∃ x F, (holds b y).filter (fun x => decide (x ∈ L)) = x :: F := by
      obtain ⟨o, h1, h2⟩ := hp.fin y hyL
      cases q : (holds b y).filter fun x => decide (x ∈ L) with
      | nil => have := List.filter_eq_nil_iff.mp q o h1; simp [h2] at this
      | cons x F => exact ⟨x, F, rfl⟩
    have hx := List.mem_filter.mp (show x ∈ (holds b y).filter fun x => decide (x ∈ L) by rw [hF]; simp)
    have hxL : x ∈ L := of_decide_eq_true hx.2
    rw [hF] at c
    simp only [List.map_cons] at c
    have hin := inB_refL (st := [.lst (C.map D.str)]) x 0 C rfl
    by_cases hxC : x ∈ C
    · obtain ⟨j, hj⟩ : ∃ j, j = C.findIdx fun z => decide (z = x) := ⟨_, rfl⟩
      have hjl : j < C.length := by rw [hj]; exact List.findIdx_lt_length_of_exists ⟨x, hxC, by simp⟩
      have hjx : C[j]? = some x := by
        have : decide (C[C.findIdx fun z => decide (z = x)]'(hj ▸ hjl) = x) = true := List.findIdx_getElem (p := fun z => decide (z = x)) (w := hj ▸ hjl)
        have := of_decide_eq_true this
        rw [List.getElem?_eq_getElem hjl, ← this]
        congr 1
        simp only [hj]
      have hix := fIndex_refL (st := [.lst (C.map D.str)]) (k := 0) rfl x hxC
      rw [← hj] at hix
      refine ⟨C.drop j, [.lst (C.map .str)], whileL_rt (n0 := 1) (st1 := [.lst (C.map .str)]) (by simp) ?_, ?_, ?_, ?_, ?_, ?_⟩
      · simp [lp_ring_1, hlast, m_pholds hb.len hym, c, hin, hxC, hix, fSl_refL (st := [.lst (C.map D.str)]) (k := 0) rfl, cut_drop]
      · intro q; rw [List.drop_eq_nil_iff] at q; omega
      · exact (List.drop_sublist j C).nodup hnd
      · exact fun z hz => hsub z (List.mem_of_mem_drop hz)
      · intro i u v h1 h2
        rw [List.getElem?_drop] at h1 h2
        exact hch (j + i) u v h1 (by rw [← h2]; congr 1)
      · intro u v h1 h2
        have h3 : (C.drop j).getLast? = some y := by
          rw [List.getLast?_drop, if_neg (by omega), hCy]; simp
        rw [h3] at h1
        have h4 : (C.drop j).head? = some x := by rw [List.head?_drop]; exact hjx
        rw [h4] at h2
        cases h1; cases h2
        exact hx.1
    · have hnd' : (C ++ [x]).Nodup := by rw [List.nodup_append]; exact ⟨hnd, by simp, fun a ha c hc e => by simp at hc; subst hc; exact hxC (e ▸ ha)⟩
      have hsub' : ∀ z ∈ C ++ [x], z ∈ L := fun z hz => by
        rcases List.mem_append.mp hz with q | q
        · exact hsub z q
        · simp at q; rw [q]; exact hxL
      have hl' := nodup_sub_len hnd' hsub'
      simp at hl'
      obtain ⟨r, st', g1, g2⟩ := ring_loop hb hp k (C ++ [x]) (some (.str x)) o4 (by simp) hnd' hsub' (fun i u v h1 h2 => by
        by_cases hi : i + 1 < C.length
        · rw [List.getElem?_append_left (by omega)] at h1
          rw [List.getElem?_append_left (by omega)] at h2
          exact hch i u v h1 h2
        · have hi2 := (List.getElem?_eq_some_iff.mp h2).1
          simp at hi2
          have hi3 : i + 1 = C.length := by omega
          rw [List.getElem?_append_left (by omega)] at h1
          rw [List.getElem?_append_right (by omega), hi3] at h2
          simp at h2
          have : C[i]? = some y := by
            have e1 : C.length = C0.length + 1 := by rw [hCy]; simp
            rw [hCy, show i = C0.length by omega]; simp
          rw [this] at h1
          cases h1
          rw [← h2]; exact hx.1) (by simp; omega)
      refine ⟨r, st', ?_, g2⟩
      rw [whileL_nx (n0 := 1) (st1 := [.lst (C.map .str)]) (e2 := [some (encB b), some (.lst (L.map .str)), some (.ref 0), some (.str x), o4]) (st2 := [.lst ((C ++ [x]).map .str)]) (by simp) (by
        simp [lp_ring_1, hlast, m_pholds hb.len hym, c, hin, hxC, show C.length < 16777216 by omega]) rfl]
      exact g1
theorem m_rng {b : Bks} (hb : OkB b) {R L : List Str} (hm : m_parted [encB b] = .ok (.tup [.lst (R.map .str), .lst (L.map .str)])) (hp : PartEnd b R L) : (L = [] → m_ring [encB b] = .ok .non) ∧ (L ≠ [] → ∃ r, m_ring [encB b] = .ok (.lst (r.map .str)) ∧ RingOk b L r) := by
  refine ⟨fun h => ?_, fun h => ?_⟩
  · subst h
    refine pureOf_rt (st := []) (d := .non) rfl ?_ (by simp [frz, frz0])
    simp only [List.map_nil] at hm
    have := fEq_strs_nil (st := []) []
    simp only [List.map_nil] at this
    simp [run_ring, m_chk hb, hm, this]
  · cases L with
    | nil => exact absurd rfl h
    | cons l0 L0 =>
      have hLl : (l0 :: L0).length ≤ 6 := Nat.le_trans hp.sub.length_le (Nat.le_trans (madeW_len b) hb.len)
      obtain ⟨r, st', g1, g2⟩ := ring_loop hb hp fuel [l0] none none (by simp) (by simp) (by simp) (by simp) (fuel_gt (by simp at hLl ⊢; omega))
      refine ⟨r, pureOf_rt (st := st') (d := .lst (r.map .str)) rfl ?_ (by simp [frz, frz0]), g2⟩
      have h0 := fEq_strs_nil (st := []) (l0 :: L0)
      simp only [List.map_cons, List.map_nil] at g1 h0 hm
      simp [run_ring, m_chk hb, hm, h0, g1]
theorem m_ord {b : Bks} (hb : OkB b) {R L : List Str} (hm : m_parted [encB b] = .ok (.tup [.lst (R.map .str), .lst (L.map .str)])) : m_order [encB b] = .ok (if L.isEmpty then .lst (R.map .str) else .non) := by
  refine pureOf_rt (st := []) (d := if L.isEmpty then .lst (R.map .str) else .non) rfl ?_ (by cases L <;> simp [frz, frz0])
  have h0 := fNe_strs_nil (st := []) L
  cases L <;> simp at h0 <;> simp at hm <;> simp [run_order, m_chk hb, hm, h0]
theorem m_snd {b : Bks} (hb : OkB b) {R L : List Str} (hm : m_parted [encB b] = .ok (.tup [.lst (R.map .str), .lst (L.map .str)])) : m_sound [encB b] = .ok (.bl ((missL b).isEmpty && (L.isEmpty && (capt b).isEmpty))) := by
  refine pureOf_rt (st := []) (d := .bl ((missL b).isEmpty && (L.isEmpty && (capt b).isEmpty))) rfl ?_ (by simp [frz, frz0])
  cases h1 : (missL b).isEmpty <;> cases h2 : L.isEmpty <;> simp [run_sound, (m_missin hb).1, hm, m_captin hb, fEq_pairs_nil, fEq_strs_nil, h1, h2]
theorem m_issnd {b : Bks} (hb : OkB b) {R L : List Str} (hm : m_parted [encB b] = .ok (.tup [.lst (R.map .str), .lst (L.map .str)])) : m_is_sound [encB b] = .ok (.bl ((missL b).isEmpty && (L.isEmpty && (capt b).isEmpty))) := by
  refine pureOf_rt (st := []) (d := .bl ((missL b).isEmpty && (L.isEmpty && (capt b).isEmpty))) rfl ?_ (by simp [frz, frz0])
  simp [run_is_sound, m_chk hb, m_snd hb hm]
theorem fNe_pairs_self {st : Store} (l : List (Str × Str)) : fNe (.lst (l.map pairD)) (.lst (l.map pairD)) st = .ok (.bl false) st := by
  have h1 : (l.map pairD).all (okD 59) = true := by simp [okD_pairD 58]
  rw [fNe_ap, top_lst, okD_lst, h1, eqD_lst, all2_self]
  · rfl
  · intro d hd
    obtain ⟨p, _, rfl⟩ := List.mem_map.mp hd
    unfold pairD
    rw [eqD_tup]
    simp [all2]
theorem m_law_k06_good (ns : List Int) (h : ns.length ≤ 63) : m_law_k06 [.scr ns] = .ok (.bl true) := by
  obtain ⟨b, hc, hb, _⟩ := m_case (ns := ns) (k := 20) (by omega)
  obtain ⟨R, L, hm, hp⟩ := m_part hb
  obtain ⟨hr1, hr2⟩ := m_rng hb hm hp
  refine pureOf_rt (st := []) (d := .bl true) rfl ?_ (by simp [frz, frz0])
  cases h1 : (missL b).isEmpty <;> cases h2 : (capt b).isEmpty <;> cases L with
  | nil =>
    have hr := hr1 rfl
    simp [run_law_k06, hc, m_lcapt hb, m_captv hb, m_issnd hb hm, m_miss hb, fNe_pairs_self, fEq_pairs_nil, h1, h2, hr]
  | cons l0 L0 =>
    obtain ⟨r, hr, _⟩ := hr2 (by simp)
    simp [run_law_k06, hc, m_lcapt hb, m_captv hb, m_issnd hb hm, m_miss hb, fNe_pairs_self, fEq_pairs_nil, h1, h2, hr]
end Py

set_option Elab.async false
set_option linter.all false
set_option maxRecDepth 100000
set_option maxHeartbeats 1000000
set_option autoImplicit false
namespace Py
open PySem
theorem eqD_self : ∀ (n : Nat) (d : D), okD n d = true → eqD n d d = true
  | n, .non, _ => by simp
  | n, .bl _, _ => by simp
  | n, .int _, _ => by simp
  | n, .str _, _ => by simp
  | n + 1, .tup l, h => by
    rw [okD_tup] at h
    rw [eqD_tup]
    exact all2_self _ l fun d hd => eqD_self n d (List.all_eq_true.mp h d hd)
  | n + 1, .lst l, h => by
    rw [okD_lst] at h
    rw [eqD_lst]
    exact all2_self _ l fun d hd => eqD_self n d (List.all_eq_true.mp h d hd)
  | 0, .tup _, h => by simp [okD] at h
  | 0, .lst _, h => by simp [okD] at h
  | n, .ref _, h => by cases n <;> simp [okD] at h
  | n, .scr _, h => by cases n <;> simp [okD] at h
  | n, .ktup _, h => by cases n <;> simp [okD] at h
  | n, .ty _, h => by cases n <;> simp [okD] at h
  | n, .glo _, h => by cases n <;> simp [okD] at h
  | n, .raw _, h => by cases n <;> simp [okD] at h
theorem okD_encM (n : Nat) (m : Mk) : okD (n + 3) (encM m) = true := by
  cases m with
  | as v => unfold encM; rw [okD_tup]; simp
  | made ns sp en br =>
    unfold encM
    rw [okD_tup]
    simp only [List.all_cons, okD_str, okD_bl, okD_int, List.all_nil, Bool.and_true, Bool.true_and]
    rw [okD_tup]
    simp [okD_pairD n]
theorem okD_encB (n : Nat) (b : Bks) : okD (n + 5) (encB b) = true := by
  unfold encB
  rw [okD_tup]
  refine List.all_eq_true.mpr fun d hd => ?_
  obtain ⟨r, _, rfl⟩ := List.mem_map.mp hd
  unfold encR
  rw [okD_tup]
  simp [okD_encM n]
theorem fNe_books {st : Store} (b : Bks) : fNe (encB b) (encB b) st = .ok (.bl false) st := by
  have h1 : top st (encB b) = encB b := by unfold encB; rfl
  rw [fNe_ap, h1, okD_encB 55, eqD_self 60 _ (okD_encB 55 b)]
  rfl
theorem m_pspans {b : Bks} (hb : b.length ≤ 1000) (ws : List Str) (sp : Str) (h : ∀ r ∈ b, r.1 ∈ ws → isMade r.2 = true) : m_with_span [encB b, .lst (ws.map .str), .str sp] = .ok (encB (withSpan b ws sp)) := by
  obtain ⟨e', st', hf, o4, o5, he, hst⟩ := forL_inv (n0 := 1) (g := gTup [gName 4, gName 5]) (b := lp_with_span_1) encR
    (fun pre e st => ∃ (o4 o5 : Option D), e = [some (encB b), some (.lst (ws.map .str)), some (.str sp), some (.ref 0), o4, o5] ∧ st = [.lst ((withSpan pre ws sp).map encR)])
    b [] [some (encB b), some (.lst (ws.map .str)), some (.str sp), some (.ref 0), none, none] [.lst []] ⟨none, none, rfl, rfl⟩
    fun p r q e st hpq ⟨o4, o5, he, hst⟩ => by
      subst he hst
      have hr : r ∈ b := by rw [List.nil_append] at hpq; rw [hpq]; simp
      have hpl : p.length < 1000 := by
        have := congrArg List.length hpq
        simp at this
        omega
      have hcap : (withSpan p ws sp).length < 16777216 := by rw [withSpan_len]; omega
      have hsn : withSpan (p ++ [r]) ws sp = withSpan p ws sp ++ [if r.1 ∈ ws then (r.1, setSpan sp r.2) else r] := by simp [withSpan]
      by_cases hin : r.1 ∈ ws
      · have hm := h r hr hin
        cases q : r.2 with
        | as v => rw [q] at hm; cases hm
        | made ns s en br =>
          obtain ⟨k1, k2⟩ := encM_span (st := []) ns s sp en br
          refine ⟨[some (encB b), some (.lst (ws.map .str)), some (.str sp), some (.ref 0), some (.str r.1), some (encM r.2)], [some (encB b), some (.lst (ws.map .str)), some (.str sp), some (.ref 0), some (.str r.1), some (encM (setSpan sp r.2))], [.lst ((withSpan (p ++ [r]) ws sp).map encR)], by simp [encR], ?_, rfl, _, _, rfl, rfl⟩
          rw [hsn]
          simp [lp_with_span_1, inB_strs, hin, q, encM, k1, k2, setSpan, hcap, encR]
      · refine ⟨[some (encB b), some (.lst (ws.map .str)), some (.str sp), some (.ref 0), some (.str r.1), some (encM r.2)], [some (encB b), some (.lst (ws.map .str)), some (.str sp), some (.ref 0), some (.str r.1), some (encM r.2)], [.lst ((withSpan (p ++ [r]) ws sp).map encR)], by simp [encR], ?_, rfl, _, _, rfl, rfl⟩
        rw [hsn]
        simp [lp_with_span_1, inB_strs, hin, hcap, encR]
  subst he hst
  refine pureOf_rt (st := [.lst ((withSpan b ws sp).map encR)]) (d := encB (withSpan b ws sp)) rfl ?_ (by simp [frz, frz0, encB])
  simp only [List.nil_append] at hf
  simp [run_with_span, hf]
  rfl
open Classical in
theorem capt_iff {b : Bks} (nd : (names b).Nodup) (w x : Str) : (w, x) ∈ capt b ↔ IsMade b w ∧ spanOf b w = "one" ∧ Near b w x ∧ spanOf b x = "scope" := by
  constructor
  · intro h
    obtain ⟨h1, h2, h3⟩ := capt_mem nd h
    unfold shorts at h3
    have := of_decide_eq_true (List.mem_filter.mp h3).2
    exact ⟨h1, h2, this⟩
  · rintro ⟨h1, h2, h3, h4⟩
    unfold capt
    refine List.mem_flatMap.mpr ⟨w, (made_mem nd).mpr h1, ?_⟩
    rw [if_pos h2]
    refine List.mem_map.mpr ⟨x, ?_, rfl⟩
    unfold shorts
    exact List.mem_filter.mpr ⟨isMade_name h3.made, decide_eq_true ⟨h3, h4⟩⟩
theorem ones_mem {b : Bks} (nd : (names b).Nodup) (w : Str) : w ∈ ones b ↔ IsMade b w ∧ spanOf b w = "one" := by
  unfold ones
  rw [List.mem_filter, made_mem nd, decide_eq_true_eq]
/-- A is in each choice that leaves nothing captive -/
def Least (b : Bks) (A : List Str) : Prop := (∀ x ∈ A, x ∈ ones b) ∧ ∀ S : List Str, (∀ x ∈ S, x ∈ ones b) → capt (withSpan b S "scope") = [] → ∀ x ∈ A, x ∈ S
theorem span_scope {b : Bks} {A S : List Str} (hA : ∀ x ∈ A, x ∈ S) {x : Str} (h : spanOf (withSpan b A "scope") x = "scope") : spanOf (withSpan b S "scope") x = "scope" := by
  have hm : IsMade b x := (withSpan_made b A "scope" x).mp (span_made h (by decide))
  by_cases hS : x ∈ S
  · exact withSpan_in b "scope" hS hm
  · rw [withSpan_out b "scope" hS]
    rw [withSpan_out b "scope" (fun q => hS (hA x q))] at h
    exact h
theorem span_each {b : Bks} (nd : (names b).Nodup) {A S : List Str} (hS : ∀ x ∈ S, x ∈ ones b) {x : Str} (h : spanOf (withSpan b A "scope") x = "each") : spanOf (withSpan b S "scope") x = "each" := by
  have hm : IsMade b x := (withSpan_made b A "scope" x).mp (span_made h (by decide))
  by_cases hA : x ∈ A
  · rw [withSpan_in b "scope" hA hm] at h; simp at h
  · rw [withSpan_out b "scope" hA] at h
    rw [withSpan_out b "scope" fun q => ?_]
    · exact h
    · have := ((ones_mem nd x).mp (hS x q)).2
      rw [h] at this; simp at this
theorem near_move {b : Bks} (nd : (names b).Nodup) {A S : List Str} (hS : ∀ x ∈ S, x ∈ ones b) {w x : Str} (h : Near (withSpan b A "scope") w x) : Near (withSpan b S "scope") w x := by
  induction h with
  | base h => rw [withSpan_holds] at h; exact .base (by rw [withSpan_holds]; exact h)
  | step hy he hx ih =>
    rw [withSpan_holds] at hx
    exact .step ih (span_each nd hS he) (by rw [withSpan_holds]; exact hx)
theorem least_step {b : Bks} (nd : (names b).Nodup) {A : List Str} (h : Least b A) : Least b (A ++ (capt (withSpan b A "scope")).map (·.1)) := by
  have nd1 : (names (withSpan b A "scope")).Nodup := by rw [withSpan_names]; exact nd
  have key : ∀ p ∈ capt (withSpan b A "scope"), IsMade b p.1 ∧ spanOf b p.1 = "one" := fun p hp => by
    obtain ⟨h1, h2, h3⟩ := capt_mem nd1 hp
    have hm := (withSpan_made b A "scope" p.1).mp h1
    have hA : p.1 ∉ A := fun q => by rw [withSpan_in b "scope" q hm] at h2; simp at h2
    rw [withSpan_out b "scope" hA] at h2
    exact ⟨hm, h2⟩
  refine ⟨fun x hx => ?_, fun S hS hc x hx => ?_⟩
  · rcases List.mem_append.mp hx with q | q
    · exact h.1 x q
    · obtain ⟨p, hp, rfl⟩ := List.mem_map.mp q
      exact (ones_mem nd _).mpr (key p hp)
  · have hAS := h.2 S hS hc
    rcases List.mem_append.mp hx with q | q
    · exact hAS x q
    · obtain ⟨p, hp, rfl⟩ := List.mem_map.mp q
      refine Classical.byContradiction fun hnS => ?_
      obtain ⟨k1, k2⟩ := key p hp
      obtain ⟨_, _, h3, h4⟩ := (capt_iff nd1 p.1 p.2).mp hp
      have : (p.1, p.2) ∈ capt (withSpan b S "scope") := (capt_iff (by rw [withSpan_names]; exact nd) p.1 p.2).mpr ⟨(withSpan_made b S "scope" p.1).mpr k1, by rw [withSpan_out b "scope" hnS]; exact k2, near_move nd hS h3, span_scope hAS h4⟩
      rw [hc] at this; cases this
theorem mend_loop {b : Bks} (hb : OkB b) : ∀ (k : Nat) (A : List Str) (o1 o2 : Option D), Least b A → (ones (withSpan b A "scope")).length < k →
    ∃ A' o1' o2', whileL 0 (tVal (rBin fNe (rP m_captive_in (aCons (rVar 0) (aNil))) (rFrz (lDisp (aNil))))) lp_mended_1 k [some (encB (withSpan b A "scope")), o1, o2] [] = .nx [some (encB (withSpan b A' "scope")), o1', o2'] [] ∧ capt (withSpan b A' "scope") = [] ∧ Least b A'
  | 0, _, _, _, _, h => by omega
  | k + 1, A, o1, o2, hA, hk => by
    have hb1 : OkB (withSpan b A "scope") := withSpan_ok hb A okSpan_scope
    obtain ⟨c, hcb⟩ : ∃ c, c = withSpan b A "scope" := ⟨_, rfl⟩
    have hcp := m_captin hb1
    rw [← hcb] at hcp hb1 hk
    cases hc : capt c with
    | nil =>
      rw [hc] at hcp
      refine ⟨A, o1, o2, ?_, by rw [← hcb]; exact hc, hA⟩
      rw [← hcb]
      simp only [List.map_nil] at hcp
      have := fNe_pairs_nil (st := []) []
      simp only [List.map_nil] at this
      rw [whileL_end (n0 := 0) (st1 := []) (by simp [hcp, this]) rfl]
    | cons p l =>
      have hp := capt_mem hb1.nd (b := c) (p := p) (by rw [hc]; simp)
      obtain ⟨ws, hws⟩ : ∃ ws, ws = (capt c).map (·.1) := ⟨_, rfl⟩
      have hpw : p.1 ∈ ws := by rw [hws, hc]; simp
      have hstep := least_step hb.nd hA
      rw [← hcb, ← hws] at hstep
      obtain ⟨A', o1', o2', h1, h2, h3⟩ := mend_loop hb k (A ++ ws) o1 o2 hstep (by
        have := ones_less hb1.nd (A := ws) hpw hp.1 hp.2.1
        rw [← withSpan_two, ← hcb]
        omega)
      refine ⟨A', o1', o2', ?_, h2, h3⟩
      have hne : capt c ≠ [] := by rw [hc]; simp
      have hcm := compL_map pairD (n0 := 0) (g := gTup [gName 1, gName 2]) (r := rVar 1) (e := [some (encB c), none, none]) (st := []) rfl (fun p => .str p.1) (capt c) fun p _ => ⟨[some (encB c), some (.str p.1), some (.str p.2)], by simp [pairD], by simp⟩
      have e1 : (capt c).map (fun p => D.str p.1) = ws.map .str := by rw [hws, List.map_map]; rfl
      rw [e1] at hcm
      have hsp := m_pspans (b := c) (by have := hb1.len; omega) ws "scope" fun r hr hrw => by
        rw [hws] at hrw
        obtain ⟨q, hq, e⟩ := List.mem_map.mp hrw
        obtain ⟨⟨ns, s, en, br, hmk⟩, _⟩ := capt_mem hb1.nd hq
        rw [e, mkOf_of_mem hb1.nd (w := r.1) (m := r.2) hr] at hmk
        cases hmk' : r.2 with
        | as v => rw [hmk'] at hmk; cases hmk
        | made => rfl
      rw [← withSpan_two, ← hcb] at h1
      rw [← hcb]
      rw [whileL_nx (n0 := 0) (st1 := []) (e2 := [some (encB (withSpan c ws "scope")), o1, o2]) (st2 := []) (by simp [hcp, fNe_pairs_nil, hne]) (by simp [lp_mended_1, hcp, hcm, hsp]) rfl]
      exact h1
theorem m_mend {b : Bks} (hb : OkB b) : ∃ A, m_mended [encB b] = .ok (encB (withSpan b A "scope")) ∧ capt (withSpan b A "scope") = [] ∧ Least b A := by
  have hl : (ones b).length ≤ 6 := Nat.le_trans (List.length_filter_le ..) (Nat.le_trans (madeW_len b) hb.len)
  obtain ⟨A, o1, o2, h1, h2, h3⟩ := mend_loop hb fuel [] none none ⟨by simp, by simp⟩ (fuel_gt (by rw [withSpan_nil]; omega))
  refine ⟨A, pureOf_rt (st := []) (d := encB (withSpan b A "scope")) rfl ?_ (by have hbl := bel_encB 0 (withSpan b A "scope"); unfold encB at hbl ⊢; simp only [frz, frz0, hbl, if_true]), h2, h3⟩
  rw [withSpan_nil] at h1
  simp [run_mended, m_chk hb, h1]
theorem withSpan_congr (b : Bks) {A B : List Str} (sp : Str) (h : ∀ x, x ∈ A ↔ x ∈ B) : withSpan b A sp = withSpan b B sp := by
  unfold withSpan
  refine List.map_congr_left fun r _ => ?_
  simp only [h]
theorem lcell (n : Nat) (h : n < 6) : ∃ p : Int, 0 < p ∧ p < 1073741824 ∧ ([D.int 1, .int 2, .int 4, .int 8, .int 16, .int 32] : List D)[n]? = some (.int p) := by
  match n, h with
  | 0, _ => exact ⟨1, by decide, by decide, rfl⟩
  | 1, _ => exact ⟨2, by decide, by decide, rfl⟩
  | 2, _ => exact ⟨4, by decide, by decide, rfl⟩
  | 3, _ => exact ⟨8, by decide, by decide, rfl⟩
  | 4, _ => exact ⟨16, by decide, by decide, rfl⟩
  | 5, _ => exact ⟨32, by decide, by decide, rfl⟩
theorem lmany (n : Nat) (h : n ≤ 6) : ∃ p : Int, 0 < p ∧ p ≤ 64 ∧ ([D.int 1, .int 2, .int 4, .int 8, .int 16, .int 32, .int 64] : List D)[n]? = some (.int p) := by
  match n, h with
  | 0, _ => exact ⟨1, by decide, by decide, rfl⟩
  | 1, _ => exact ⟨2, by decide, by decide, rfl⟩
  | 2, _ => exact ⟨4, by decide, by decide, rfl⟩
  | 3, _ => exact ⟨8, by decide, by decide, rfl⟩
  | 4, _ => exact ⟨16, by decide, by decide, rfl⟩
  | 5, _ => exact ⟨32, by decide, by decide, rfl⟩
  | 6, _ => exact ⟨64, by decide, by decide, rfl⟩
theorem ones_isMade {b : Bks} (nd : (names b).Nodup) {S : List Str} (hS : ∀ x ∈ S, x ∈ ones b) : ∀ r ∈ b, r.1 ∈ S → isMade r.2 = true := fun r hr hrw => by
  obtain ⟨⟨ns, s, en, br, hmk⟩, _⟩ := (ones_mem nd _).mp (hS _ hrw)
  rw [mkOf_of_mem nd (w := r.1) (m := r.2) hr] at hmk
  cases hmk' : r.2 with
  | as v => rw [hmk'] at hmk; cases hmk
  | made => rfl
theorem k07_body {b : Bks} (hb : OkB b) {T : List Str} (hT : Least b T) (v0 v2 : Option D) (o4 o7 o8 : Option D) (c : Nat) : ∃ o7',
    lp_law_k07_1 [v0, some (encB b), v2, some (.lst ((ones b).map .str)), o4, some (.lst (T.map .str)), some (.int (c : Int)), o7, o8] [] = .nx [v0, some (encB b), v2, some (.lst ((ones b).map .str)), o4, some (.lst (T.map .str)), some (.int (c : Int)), o7', o8] [] := by
  have hl : (ones b).length ≤ 6 := Nat.le_trans (List.length_filter_le ..) (Nat.le_trans (madeW_len b) hb.len)
  have hen := enumL_eq (ones b) 0
  let bit : Nat → Int := fun k => match ([D.int 1, .int 2, .int 4, .int 8, .int 16, .int 32] : List D)[k]? with | some (.int p) => (c : Int) / p % 2 | _ => 0
  have c1 := compL_all (fun k : Nat => D.tup [.int ((0 + k : Nat) : Int), .str ((ones b).getD k "")]) (n0 := 0) (g := gTup [gName 8, gName 4]) (t := tVal (rBin fEq (rBin fMod (rBin fDiv (rVar 6) (rBin fSub2 (rFrz (lDisp (aCons (rC (.int 1)) (aCons (rC (.int 2)) (aCons (rC (.int 4)) (aCons (rC (.int 8)) (aCons (rC (.int 16)) (aCons (rC (.int 32)) (aNil))))))))) (rVar 8))) (rC (.int 2))) (rC (.int 1)))) (r := rVar 4) (e := [v0, some (encB b), v2, some (.lst ((ones b).map .str)), none, some (.lst (T.map .str)), some (.int (c : Int)), o7, none]) (st := []) rfl (fun k => bit k == 1) (fun k => .str ((ones b).getD k "")) (List.range (ones b).length) fun k hk => by
    have hk := List.mem_range.mp hk
    obtain ⟨p, hp0, hp1, hp⟩ := lcell k (by omega)
    refine ⟨[v0, some (encB b), v2, some (.lst ((ones b).map .str)), some (.str ((ones b).getD k "")), some (.lst (T.map .str)), some (.int (c : Int)), o7, some (.int ((0 + k : Nat) : Int))], by simp, ?_, fun _ => by simp⟩
    have hbit : bit k = (c : Int) / p % 2 := by simp only [bit, hp]
    rw [hbit]
    have hat : atI [D.int 1, .int 2, .int 4, .int 8, .int 16, .int 32] ((0 + k : Nat) : Int) = some (.int p) := by rw [atI_nn, Nat.zero_add]; exact hp
    simp only [Nat.zero_add] at hat ⊢
    simp [hat, hp0, hp1]
  obtain ⟨S, hS⟩ : ∃ S, S = ((List.range (ones b).length).filter fun k => bit k == 1).map fun k => (ones b).getD k "" := ⟨_, rfl⟩
  have e1 : (((List.range (ones b).length).filter fun k => bit k == 1).map fun k => D.str ((ones b).getD k "")) = S.map .str := by rw [hS, List.map_map]; rfl
  rw [e1, ← hen] at c1
  have hSo : ∀ x ∈ S, x ∈ ones b := fun x hx => by
    rw [hS] at hx
    obtain ⟨k, hk, rfl⟩ := List.mem_map.mp hx
    have hk := List.mem_range.mp (List.mem_filter.mp hk).1
    have : (ones b).getD k "" = (ones b)[k] := by simp [List.getD, hk]
    rw [this]; exact List.getElem_mem _
  have c2 := compL_map D.str (n0 := 0) (g := gName 4) (r := rBin fIn (rVar 4) (rVar 7)) (e := [v0, some (encB b), v2, some (.lst ((ones b).map .str)), none, some (.lst (T.map .str)), some (.int (c : Int)), some (.lst (S.map .str)), o8]) (st := []) rfl (fun x => .bl (decide (x ∈ S))) T fun x _ => ⟨[v0, some (encB b), v2, some (.lst ((ones b).map .str)), some (.str x), some (.lst (T.map .str)), some (.int (c : Int)), some (.lst (S.map .str)), o8], by simp, by simp [inB_strs]⟩
  have k5 : asBools (T.map fun o => .bl (decide (o ∈ S))) = some (T.map fun o => decide (o ∈ S)) := asBools_map (fun o => decide (o ∈ S)) T
  have hsp := m_lspans (b := b) (by have := hb.len; omega) S "scope" (ones_isMade hb.nd hSo)
  have hcp := m_lcapt (withSpan_ok hb S okSpan_scope)
  refine ⟨some (.lst (S.map .str)), ?_⟩
  by_cases hall : ∀ x ∈ T, x ∈ S
  · have h1 : ((T.map fun o => decide (o ∈ S)).all id) = true := by simpa using hall
    simp [lp_law_k07_1, c1, c2, k5, h1]
  · have h1 : ((T.map fun o => decide (o ∈ S)).all id) = false := by
      cases q : (T.map fun o => decide (o ∈ S)).all id with
      | false => rfl
      | true => exact absurd (by simpa using q) hall
    have hne : (capt (withSpan b S "scope")).isEmpty = false := by
      cases q : capt (withSpan b S "scope") with
      | nil => exact absurd (hT.2 S hSo q) hall
      | cons => rfl
    simp only [lp_law_k07_1, sSeq_ap, sSet_ap]
    simp [c1, c2, k5, hsp, hcp, fEq_pairs_nil, hne]
theorem k07_loop {b : Bks} (hb : OkB b) {T : List Str} (hT : Least b T) (v0 v2 : Option D) : ∀ (cs : List Nat) (o4 o6 o7 o8 : Option D), ∃ o6' o7',
    forL 0 (gName 6) lp_law_k07_1 (cs.map fun k => .int (k : Nat)) [v0, some (encB b), v2, some (.lst ((ones b).map .str)), o4, some (.lst (T.map .str)), o6, o7, o8] [] = .nx [v0, some (encB b), v2, some (.lst ((ones b).map .str)), o4, some (.lst (T.map .str)), o6', o7', o8] []
  | [], o4, o6, o7, o8 => ⟨o6, o7, rfl⟩
  | c :: cs, o4, o6, o7, o8 => by
    obtain ⟨o7', h⟩ := k07_body hb hT v0 v2 o4 o7 o8 c
    obtain ⟨o6'', o7'', g⟩ := k07_loop hb hT v0 v2 cs o4 (some (.int (c : Int))) o7' o8
    refine ⟨o6'', o7'', ?_⟩
    rw [List.map_cons, forL_nx (n0 := 0) (e1 := [v0, some (encB b), v2, some (.lst ((ones b).map .str)), o4, some (.lst (T.map .str)), some (.int (c : Int)), o7, o8]) (by simp) h rfl]
    exact g
theorem m_law_k07_good (ns : List Int) (h : ns.length ≤ 63) : m_law_k07 [.scr ns] = .ok (.bl true) := by
  obtain ⟨b, hc, hb, _⟩ := m_case (ns := ns) (k := 20) (by omega)
  have h6 := hb.len
  obtain ⟨A, hA, hcA, hL⟩ := m_mend hb
  obtain ⟨c, hcb⟩ : ∃ c, c = withSpan b A "scope" := ⟨_, rfl⟩
  have hcO : OkB c := by rw [hcb]; exact withSpan_ok hb A okSpan_scope
  rw [← hcb] at hA hcA
  obtain ⟨T, hTd⟩ : ∃ T, T = (ones b).filter fun w => decide (spanOf c w = "scope") := ⟨_, rfl⟩
  have hTA : ∀ x, x ∈ T ↔ x ∈ A := fun x => by
    rw [hTd, List.mem_filter, decide_eq_true_eq]
    constructor
    · rintro ⟨h1, h2⟩
      refine Classical.byContradiction fun q => ?_
      rw [hcb, withSpan_out b "scope" q, ((ones_mem hb.nd x).mp h1).2] at h2
      simp at h2
    · intro h1
      have h2 := hL.1 x h1
      exact ⟨h2, by rw [hcb]; exact withSpan_in b "scope" h1 ((ones_mem hb.nd x).mp h2).1⟩
  have hT : Least b T := ⟨fun x hx => hL.1 x ((hTA x).mp hx), fun S hS hcS x hx => hL.2 S hS hcS x ((hTA x).mp hx)⟩
  have hcT : c = withSpan b T "scope" := by rw [hcb]; exact (withSpan_congr b "scope" hTA).symm
  have c1 := compL_all D.str (n0 := 0) (g := gName 4) (t := tVal (rBin fEq (rBin fSub2 (rP m_law_maker (aCons (rVar 1) (aCons (rVar 4) (aNil)))) (rC (.int 2))) (rC (.str "one")))) (r := rVar 4) (e := [some (.scr ns), some (encB b), some (encB c), none, none, none, none, none, none]) (st := []) rfl (fun w => decide (spanOf b w = "one")) .str (madeW b) fun w hw => by
    obtain ⟨n', sp, en, br, q⟩ := (made_mem hb.nd).mp hw
    have hm := m_lmaker b w (show b.length ≤ 1000 by omega)
    rw [q] at hm
    have hsp : spanOf b w = sp := by unfold spanOf; rw [q]
    exact ⟨[some (.scr ns), some (encB b), some (encB c), none, some (.str w), none, none, none, none], by simp, by simp [hm, encM, hsp], fun _ => by simp⟩
  have c2 := compL_all D.str (n0 := 0) (g := gName 4) (t := tVal (rBin fEq (rBin fSub2 (rP m_law_maker (aCons (rVar 2) (aCons (rVar 4) (aNil)))) (rC (.int 2))) (rC (.str "scope")))) (r := rVar 4) (e := [some (.scr ns), some (encB b), some (encB c), some (.lst ((ones b).map .str)), none, none, none, none, none]) (st := []) rfl (fun w => decide (spanOf c w = "scope")) .str (ones b) fun w hw => by
    obtain ⟨n', sp, en, br, q⟩ := (withSpan_made b A "scope" w).mpr ((ones_mem hb.nd w).mp hw).1
    rw [← hcb] at q
    have hm := m_lmaker c w (show c.length ≤ 1000 by have := hcO.len; omega)
    rw [q] at hm
    have hsp : spanOf c w = sp := by unfold spanOf; rw [q]
    exact ⟨[some (.scr ns), some (encB b), some (encB c), some (.lst ((ones b).map .str)), some (.str w), none, none, none, none], by simp, by simp [hm, encM, hsp], fun _ => by simp⟩
  rw [← hTd] at c2
  have e0 : (madeW b).filter (fun w => decide (spanOf b w = "one")) = ones b := rfl
  rw [e0] at c1
  have hl : (ones b).length ≤ 6 := Nat.le_trans (List.length_filter_le ..) (Nat.le_trans (madeW_len b) hb.len)
  obtain ⟨p, hp0, hp1, hp⟩ := lmany (ones b).length hl
  have hat : atI [D.int 1, .int 2, .int 4, .int 8, .int 16, .int 32, .int 64] ((ones b).length : Int) = some (.int p) := by rw [atI_nn]; exact hp
  have hr := itRng1_ok (st := []) (n := p) (by omega) (by omega)
  obtain ⟨o6, o7, hf⟩ := k07_loop hb hT (some (.scr ns)) (some (encB c)) (List.range p.toNat) none none none none
  have hsp := m_lspans (b := b) (by omega) T "scope" (ones_isMade hb.nd hT.1)
  rw [← hcT] at hsp
  have hcv := m_captv hcO
  rw [hcA] at hcv
  simp only [List.map_nil] at hcv
  have hnil := fNe_pairs_nil (st := []) []
  simp only [List.map_nil] at hnil
  refine pureOf_rt (st := []) (d := .bl true) rfl ?_ (by simp [frz, frz0])
  simp [run_law_k07, hc, hA, m_lmade, c1, c2, hsp, fNe_books, hcv, hnil, hat, hr, hf]
end Py

set_option Elab.async false
set_option linter.all false
set_option maxRecDepth 100000
set_option maxHeartbeats 1000000
set_option autoImplicit false
namespace Py
open PySem
def plD (p : Str × Nat) : D := .tup [.str p.1, .int (p.2 : Int)]
def choD (c : List (Str × Nat)) : D := .tup (c.map plD)
@[simp] theorem bel_plD (n : Nat) (p : Str × Nat) : bel n (plD p) = true := by simp [plD]
@[simp] theorem bel_choD (n : Nat) (c : List (Str × Nat)) : bel n (choD c) = true := by simp [choD]
theorem okD_plD (n : Nat) (p : Str × Nat) : okD (n + 1) (plD p) = true := by unfold plD; rw [okD_tup]; simp
theorem okD_choD (n : Nat) (c : List (Str × Nat)) : okD (n + 2) (choD c) = true := by unfold choD; rw [okD_tup]; simp [okD_plD n]
theorem eqD_plD (n : Nat) (p q : Str × Nat) : eqD (n + 1) (plD p) (plD q) = decide (p = q) := by
  unfold plD
  rw [eqD_tup]
  simp only [all2, eqD_ss, eqD_ii, Bool.and_true]
  rw [Bool.eq_iff_iff]
  simp only [Bool.and_eq_true, decide_eq_true_eq, beq_iff_eq]
  constructor
  · rintro ⟨h1, h2⟩; exact Prod.ext h1 (by omega)
  · rintro rfl; exact ⟨rfl, rfl⟩
theorem inB_places {st : Store} (p : Str × Nat) (P : List (Str × Nat)) : inB (plD p) (choD P) st = some (decide (p ∈ P)) := by
  unfold inB choD
  simp only [dget_tup, asS]
  have h1 : flat (plD p) = false := rfl
  rw [h1]
  simp only [Bool.false_and, Bool.false_eq_true, if_false]
  have h2 : (P.map plD).all (okD 58) = true := by simp [okD_plD 57]
  rw [okD_plD 57, h2]
  simp only [Bool.and_self, if_true]
  rw [List.any_map]
  congr 1
  rw [Bool.eq_iff_iff, List.any_eq_true, decide_eq_true_eq]
  constructor
  · rintro ⟨q, h3, h4⟩
    simp only [Function.comp, eqD_plD 57, decide_eq_true_eq] at h4
    exact h4 ▸ h3
  · intro h3
    exact ⟨p, h3, by simp [eqD_plD 57]⟩
/-- numbered -/
def enumA {α : Type} : Nat → List α → List (Nat × α)
  | _, [] => []
  | k, x :: xs => (k, x) :: enumA (k + 1) xs
theorem enumA_len {α : Type} : ∀ (l : List α) (k : Nat), (enumA k l).length = l.length
  | [], _ => rfl
  | _ :: l, k => by simp [enumA, enumA_len l]
theorem enumA_map {α : Type} (enc : α → D) : ∀ (l : List α) (k : Nat), enumL k (l.map enc) = (enumA k l).map fun q => .tup [.int (q.1 : Int), enc q.2]
  | [], _ => rfl
  | x :: l, k => by rw [List.map_cons, enumL, enumA, List.map_cons, enumA_map enc l]
theorem enumA_mem {α : Type} : ∀ {l : List α} {k : Nat} {q : Nat × α}, q ∈ enumA k l → q.2 ∈ l
  | x :: l, k, q, h => by
    rcases List.mem_cons.mp h with e | h
    · rw [e]; exact List.mem_cons_self
    · exact List.mem_cons_of_mem _ (enumA_mem h)
def late1 (w : Str) (P : List (Str × Nat)) (q : Nat × (Str × Str)) : Str × Str := if (w, q.1) ∈ P then ("late", q.2.2) else q.2
def lateM (w : Str) (P : List (Str × Nat)) : Mk → Mk
  | .as v => .as v
  | .made ns sp en br => .made ((enumA 0 ns).map (late1 w P)) sp en br
def withLate (b : Bks) (P : List (Str × Nat)) : Bks := b.map fun r => (r.1, lateM r.1 P r.2)
theorem withLate_names (b : Bks) (P : List (Str × Nat)) : names (withLate b P) = names b := by
  unfold names withLate; rw [List.map_map]; rfl
theorem withLate_ok {b : Bks} (h : OkB b) (P : List (Str × Nat)) : OkB (withLate b P) := by
  refine ⟨by simpa [withLate] using h.len, fun r hr => ?_, by rw [withLate_names]; exact h.srt⟩
  obtain ⟨q, hq, rfl⟩ := List.mem_map.mp hr
  obtain ⟨h1, h2⟩ := h.row q hq
  refine ⟨h1, ?_⟩
  cases z : q.2 with
  | as v => rw [z] at h2; exact h2
  | made ns sp en br =>
    rw [z] at h2
    obtain ⟨a, c, d⟩ := h2
    refine ⟨by simpa [enumA_len] using a, fun p hp => ?_, d⟩
    obtain ⟨u, hu, rfl⟩ := List.mem_map.mp hp
    have := c u.2 (enumA_mem hu)
    unfold late1
    split
    · exact ⟨by simp [hows], this.2⟩
    · exact this
def needE (q : Nat × (Str × Str)) : D := .tup [.int (q.1 : Int), pairD q.2]
theorem cut_made (ns : List (Str × Str)) (s : Str) (en : Bool) (br : Int) : cut [D.str "made", D.tup (ns.map pairD), D.str s, D.bl en, D.int br] (some 2) none = [D.str s, D.bl en, D.int br] := rfl
theorem plate_in (w : Str) (P : List (Str × Nat)) (v0 v4 : Option D) (R : O) (qs : List (Nat × (Str × Str))) (hq : qs.length < 1000) (o6 o7 o8 : Option D) : ∃ o6' o7' o8',
    forL 2 (gTup [gName 6, gTup [gName 7, gName 8]]) lp_with_late_1 (qs.map needE) [v0, some (choD P), some (.ref 0), some (.str w), v4, some (.ref 1), o6, o7, o8] [R, .lst []] = .nx [v0, some (choD P), some (.ref 0), some (.str w), v4, some (.ref 1), o6', o7', o8'] [R, .lst ((qs.map (late1 w P)).map pairD)] := by
  obtain ⟨e', st', hf, o6', o7', o8', he, hst⟩ := forL_inv (n0 := 2) (g := gTup [gName 6, gTup [gName 7, gName 8]]) (b := lp_with_late_1) needE
    (fun pre e st => ∃ (o6 o7 o8 : Option D), e = [v0, some (choD P), some (.ref 0), some (.str w), v4, some (.ref 1), o6, o7, o8] ∧ st = [R, .lst ((pre.map (late1 w P)).map pairD)])
    qs [] _ _ ⟨o6, o7, o8, rfl, rfl⟩ fun p q r e st hpq ⟨o6, o7, o8, he, hst⟩ => by
      subst he hst
      have hpl : p.length < 1000 := by
        have := congrArg List.length hpq
        simp at this
        omega
      have hin : ∀ st, inB (.tup [.str w, .int (q.1 : Int)]) (choD P) st = some (decide ((w, q.1) ∈ P)) := fun st => inB_places (w, q.1) P
      refine ⟨[v0, some (choD P), some (.ref 0), some (.str w), v4, some (.ref 1), some (.int (q.1 : Int)), some (.str q.2.1), some (.str q.2.2)], [v0, some (choD P), some (.ref 0), some (.str w), v4, some (.ref 1), some (.int (q.1 : Int)), some (.str (if (w, q.1) ∈ P then "late" else q.2.1)), some (.str q.2.2)], [R, .lst (((p ++ [q]).map (late1 w P)).map pairD)], by simp [needE, pairD], ?_, rfl, _, _, _, rfl, rfl⟩
      by_cases h : (w, q.1) ∈ P
      · simp [lp_with_late_1, hin, h, show p.length < 16777216 by omega, late1, pairD]
      · simp [lp_with_late_1, hin, h, show p.length < 16777216 by omega, late1, pairD]
  subst he hst
  exact ⟨o6', o7', o8', hf⟩
theorem m_plate {b : Bks} (hb : OkB b) (P : List (Str × Nat)) : m_with_late [encB b, choD P] = .ok (encB (withLate b P)) := by
  have hb6 := hb.len
  obtain ⟨e', st', hf, o3, o4, o5, o6, o7, o8, he, hst⟩ := forL_invG (n0 := 1) (g := gTup [gName 3, gName 4]) (b := lp_with_late_2) encR
    (fun pre e st => ∃ (o3 o4 o5 o6 o7 o8 : Option D), e = [some (encB b), some (choD P), some (.ref 0), o3, o4, o5, o6, o7, o8] ∧ st = [.lst ((withLate pre P).map encR)])
    b [] [some (encB b), some (choD P), some (.ref 0), none, none, none, none, none, none] [.lst []] ⟨none, none, none, none, none, none, rfl, rfl⟩
    fun p r q e st hpq ⟨o3, o4, o5, o6, o7, o8, he, hst⟩ => by
      subst he hst
      have hr : r ∈ b := by rw [List.nil_append] at hpq; rw [hpq]; simp
      have hpl : p.length < 1000 := by
        have := congrArg List.length hpq
        simp at this
        omega
      have hcap : (withLate p P).length < 16777216 := by simp [withLate]; omega
      have hsn : withLate (p ++ [r]) P = withLate p P ++ [(r.1, lateM r.1 P r.2)] := by simp [withLate]
      cases z : r.2 with
      | as v =>
        refine ⟨[some (encB b), some (choD P), some (.ref 0), some (.str r.1), some (encM r.2), o5, o6, o7, o8], [some (encB b), some (choD P), some (.ref 0), some (.str r.1), some (encM r.2), o5, o6, o7, o8], [.lst ((withLate (p ++ [r]) P).map encR)], [some (encB b), some (choD P), some (.ref 0), some (.str r.1), some (encM r.2), o5, o6, o7, o8], [.lst ((withLate (p ++ [r]) P).map encR)], by simp [encR], ?_, by simp [gc], _, _, _, _, _, _, rfl, rfl⟩
        rw [hsn]
        simp [lp_with_late_2, z, encM, hcap, encR, lateM]
      | made ns sp en br =>
        have hn3 : ns.length ≤ 3 := by have := (hb.row r hr).2; rw [z] at this; exact this.1
        obtain ⟨o6', o7', o8', hin⟩ := plate_in r.1 P (some (encB b)) (some (encM (.made ns sp en br))) (.lst ((withLate p P).map encR)) (enumA 0 ns) (by rw [enumA_len]; omega) o6 o7 o8
        have hen := enumA_map pairD ns 0
        rw [show (fun q : Nat × (Str × Str) => D.tup [.int (q.1 : Int), pairD q.2]) = needE from rfl] at hen
        rw [← hen] at hin
        refine ⟨[some (encB b), some (choD P), some (.ref 0), some (.str r.1), some (encM r.2), o5, o6, o7, o8], [some (encB b), some (choD P), some (.ref 0), some (.str r.1), some (encM (lateM r.1 P r.2)), some (.ref 1), o6', o7', o8'], [.lst ((withLate (p ++ [r]) P).map encR), .lst (((enumA 0 ns).map (late1 r.1 P)).map pairD)], cutE 1 [some (encB b), some (choD P), some (.ref 0), some (.str r.1), some (encM (lateM r.1 P r.2)), some (.ref 1), o6', o7', o8'], [.lst ((withLate (p ++ [r]) P).map encR)], by simp [encR], ?_, ?_, ?_⟩
        · rw [hsn]
          have hc := cut_made ns sp en br
          simp only [encM] at hin
          simp [lp_with_late_2, z, encM, hin, hc, hcap, encR, lateM]
        · unfold gc
          rw [if_neg (by simp), if_pos]
          · simp
          · refine ⟨?_, by simp⟩
            simp [belowO, encR]
        · exact ⟨some (.str r.1), some (encM (lateM r.1 P r.2)), none, _, _, _, by simp [cutE]; exact ⟨rfl, rfl, rfl⟩, rfl⟩
  subst he hst
  refine pureOf_rt (st := [.lst ((withLate b P).map encR)]) (d := encB (withLate b P)) rfl ?_ (by simp [frz, frz0, encB])
  simp only [List.nil_append] at hf
  simp [run_with_late, hf]
  rfl
theorem m_pat {b : Bks} (hb : OkB b) (P : List (Str × Nat)) : m_late_at [encB b, choD P] = .ok (encB (withLate b P)) := by
  refine pureOf_rt (st := []) (d := encB (withLate b P)) rfl ?_ (by have hbl := bel_encB 0 (withLate b P); unfold encB at hbl ⊢; simp only [frz, frz0, hbl, if_true])
  simp [run_late_at, m_chk hb, m_plate hb]
theorem llate_in (w : Str) (P : List (Str × Nat)) (v0 v4 : Option D) (R : O) (qs : List (Nat × (Str × Str))) (hq : qs.length < 1000) (o6 o7 : Option D) : ∃ o6' o7',
    forL 2 (gTup [gName 6, gName 7]) lp_law_late_1 (qs.map needE) [v0, some (choD P), some (.ref 0), some (.str w), v4, some (.ref 1), o6, o7] [R, .lst []] = .nx [v0, some (choD P), some (.ref 0), some (.str w), v4, some (.ref 1), o6', o7'] [R, .lst ((qs.map (late1 w P)).map pairD)] := by
  obtain ⟨e', st', hf, o6', o7', he, hst⟩ := forL_inv (n0 := 2) (g := gTup [gName 6, gName 7]) (b := lp_law_late_1) needE
    (fun pre e st => ∃ (o6 o7 : Option D), e = [v0, some (choD P), some (.ref 0), some (.str w), v4, some (.ref 1), o6, o7] ∧ st = [R, .lst ((pre.map (late1 w P)).map pairD)])
    qs [] _ _ ⟨o6, o7, rfl, rfl⟩ fun p q r e st hpq ⟨o6, o7, he, hst⟩ => by
      subst he hst
      have hpl : p.length < 1000 := by
        have := congrArg List.length hpq
        simp at this
        omega
      have hin : ∀ st, inB (.tup [.str w, .int (q.1 : Int)]) (choD P) st = some (decide ((w, q.1) ∈ P)) := fun st => inB_places (w, q.1) P
      have hint : ∀ (c : Bool) (st : Store), fInt [.bl c] st = .ok (.int (b2i c)) st := fun _ _ => rfl
      refine ⟨[v0, some (choD P), some (.ref 0), some (.str w), v4, some (.ref 1), some (.int (q.1 : Int)), some (pairD q.2)], [v0, some (choD P), some (.ref 0), some (.str w), v4, some (.ref 1), some (.int (q.1 : Int)), some (pairD q.2)], [R, .lst (((p ++ [q]).map (late1 w P)).map pairD)], by simp [needE], ?_, rfl, _, _, rfl, rfl⟩
      by_cases h : (w, q.1) ∈ P
      · simp [lp_law_late_1, hin, h, hint, b2i, show p.length < 16777216 by omega, late1, pairD]
      · simp [lp_law_late_1, hin, h, hint, b2i, show p.length < 16777216 by omega, late1, pairD]
  subst he hst
  exact ⟨o6', o7', hf⟩
theorem m_llate {b : Bks} (hb : OkB b) (P : List (Str × Nat)) : m_law_late [encB b, choD P] = .ok (encB (withLate b P)) := by
  have hb6 := hb.len
  obtain ⟨e', st', hf, o3, o4, o5, o6, o7, he, hst⟩ := forL_invG (n0 := 1) (g := gTup [gName 3, gName 4]) (b := lp_law_late_2) encR
    (fun pre e st => ∃ (o3 o4 o5 o6 o7 : Option D), e = [some (encB b), some (choD P), some (.ref 0), o3, o4, o5, o6, o7] ∧ st = [.lst ((withLate pre P).map encR)])
    b [] [some (encB b), some (choD P), some (.ref 0), none, none, none, none, none] [.lst []] ⟨none, none, none, none, none, rfl, rfl⟩
    fun p r q e st hpq ⟨o3, o4, o5, o6, o7, he, hst⟩ => by
      subst he hst
      have hr : r ∈ b := by rw [List.nil_append] at hpq; rw [hpq]; simp
      have hpl : p.length < 1000 := by
        have := congrArg List.length hpq
        simp at this
        omega
      have hcap : (withLate p P).length < 16777216 := by simp [withLate]; omega
      have hsn : withLate (p ++ [r]) P = withLate p P ++ [(r.1, lateM r.1 P r.2)] := by simp [withLate]
      cases z : r.2 with
      | as v =>
        refine ⟨[some (encB b), some (choD P), some (.ref 0), some (.str r.1), some (encM r.2), o5, o6, o7], [some (encB b), some (choD P), some (.ref 0), some (.str r.1), some (encM r.2), o5, o6, o7], [.lst ((withLate (p ++ [r]) P).map encR)], [some (encB b), some (choD P), some (.ref 0), some (.str r.1), some (encM r.2), o5, o6, o7], [.lst ((withLate (p ++ [r]) P).map encR)], by simp [encR], ?_, by simp [gc], _, _, _, _, _, rfl, rfl⟩
        rw [hsn]
        simp [lp_law_late_2, z, encM, hcap, encR, lateM]
      | made ns sp en br =>
        have hn3 : ns.length ≤ 3 := by have := (hb.row r hr).2; rw [z] at this; exact this.1
        obtain ⟨o6', o7', hin⟩ := llate_in r.1 P (some (encB b)) (some (encM (.made ns sp en br))) (.lst ((withLate p P).map encR)) (enumA 0 ns) (by rw [enumA_len]; omega) o6 o7
        have hen := enumA_map pairD ns 0
        rw [show (fun q : Nat × (Str × Str) => D.tup [.int (q.1 : Int), pairD q.2]) = needE from rfl] at hen
        rw [← hen] at hin
        refine ⟨[some (encB b), some (choD P), some (.ref 0), some (.str r.1), some (encM r.2), o5, o6, o7], [some (encB b), some (choD P), some (.ref 0), some (.str r.1), some (encM (lateM r.1 P r.2)), some (.ref 1), o6', o7'], [.lst ((withLate (p ++ [r]) P).map encR), .lst (((enumA 0 ns).map (late1 r.1 P)).map pairD)], cutE 1 [some (encB b), some (choD P), some (.ref 0), some (.str r.1), some (encM (lateM r.1 P r.2)), some (.ref 1), o6', o7'], [.lst ((withLate (p ++ [r]) P).map encR)], by simp [encR], ?_, ?_, ?_⟩
        · rw [hsn]
          have hc := cut_made ns sp en br
          simp only [encM] at hin
          simp [lp_law_late_2, z, encM, hin, hc, hcap, encR, lateM]
        · unfold gc
          rw [if_neg (by simp), if_pos]
          · simp
          · refine ⟨?_, by simp⟩
            simp [belowO, encR]
        · exact ⟨some (.str r.1), some (encM (lateM r.1 P r.2)), none, _, _, by simp [cutE]; exact ⟨rfl, rfl⟩, rfl⟩
  subst he hst
  refine pureOf_rt (st := [.lst ((withLate b P).map encR)]) (d := encB (withLate b P)) rfl ?_ (by simp [frz, frz0, encB])
  simp only [List.nil_append] at hf
  simp [run_law_late, hf]
  rfl
/-! ### rings -/
open Classical in
noncomputable def ringB (b : Bks) : Bool := decide (∃ X : List Str, X ≠ [] ∧ ∀ w ∈ X, IsMade b w ∧ ∃ o ∈ holds b w, o ∈ X)
open Classical in
theorem part_ring {b : Bks} {R L : List Str} (hp : PartEnd b R L) : ringB b = !L.isEmpty := by
  unfold ringB
  cases L with
  | cons l0 L0 =>
    refine decide_eq_true ⟨l0 :: L0, by simp, fun w hw => ⟨(hp.mem w).mpr (.inr hw), hp.fin w hw⟩⟩
  | nil =>
    refine decide_eq_false ?_
    rintro ⟨X, hne, hX⟩
    have key : ∀ (k : Nat) (w : Str), w ∈ X → w ∈ R.take k → False := by
      intro k
      induction k using Nat.strongRecOn with
      | ind k ih =>
        intro w hw hk
        obtain ⟨i, hi, e⟩ := List.mem_iff_getElem.mp hk
        have hi' : i < k ∧ i < R.length := by simp at hi; omega
        have e2 : R[i]? = some w := by rw [List.getElem_take] at e; rw [List.getElem?_eq_getElem hi'.2, e]
        obtain ⟨_, o, ho, hoX⟩ := hX w hw
        exact ih i hi'.1 o hoX (hp.ord i w e2 o ho)
    obtain ⟨w, hw⟩ := List.exists_mem_of_ne_nil X hne
    have hwR : w ∈ R := by simpa using (hp.mem w).mp (hX w hw).1
    exact key R.length w hw (by simpa using hwR)
def keepR (b : Bks) (X : List Str) : List Str := X.filter fun w => (holds b w).any fun o => decide (o ∈ X)
def keepN (b : Bks) : Nat → List Str → List Str
  | 0, X => X
  | n + 1, X => keepN b n (keepR b X)
theorem keepN_fix {b : Bks} : ∀ (n : Nat) (X : List Str), X.length ≤ n → keepR b (keepN b n X) = keepN b n X
  | 0, X, h => by
    have : X = [] := List.length_eq_zero_iff.mp (by omega)
    subst this; rfl
  | n + 1, X, h => by
    rw [keepN]
    by_cases e : keepR b X = X
    · rw [e]
      clear h
      have : ∀ m, keepN b m X = X := by
        intro m
        induction m with
        | zero => rfl
        | succ m ih => rw [keepN, e, ih]
      rw [this, e]
    · refine keepN_fix n _ ?_
      have h1 : (keepR b X).length ≠ X.length := fun q => e (by
        unfold keepR at q ⊢
        exact List.filter_eq_self.mpr (List.length_filter_eq_length_iff.mp q))
      have h2 : (keepR b X).length ≤ X.length := List.length_filter_le ..
      omega
theorem keepN_sub {b : Bks} : ∀ (n : Nat) (X : List Str) (x : Str), x ∈ keepN b n X → x ∈ X
  | 0, X, x, h => h
  | n + 1, X, x, h => (List.mem_filter.mp (keepN_sub n _ x h)).1
theorem keepN_has {b : Bks} {Y : List Str} (hY : ∀ w ∈ Y, ∃ o ∈ holds b w, o ∈ Y) : ∀ (n : Nat) (X : List Str), (∀ w ∈ Y, w ∈ X) → ∀ w ∈ Y, w ∈ keepN b n X
  | 0, X, h => h
  | n + 1, X, h => keepN_has hY n _ fun w hw => List.mem_filter.mpr ⟨h w hw, by
    obtain ⟨o, h1, h2⟩ := hY w hw
    exact List.any_eq_true.mpr ⟨o, h1, decide_eq_true (h o h2)⟩⟩
open Classical in
theorem keep_ring {b : Bks} (hb : OkB b) : ringB b = !(keepN b 6 (madeW b)).isEmpty := by
  have hl : (madeW b).length ≤ 6 := Nat.le_trans (madeW_len b) hb.len
  have hfix := keepN_fix (b := b) 6 (madeW b) hl
  unfold ringB
  cases q : keepN b 6 (madeW b) with
  | nil =>
    refine decide_eq_false ?_
    rintro ⟨X, hne, hX⟩
    obtain ⟨w, hw⟩ := List.exists_mem_of_ne_nil X hne
    have := keepN_has (b := b) (fun w hw => (hX w hw).2) 6 (madeW b) (fun w hw => (made_mem hb.nd).mpr (hX w hw).1) w hw
    rw [q] at this; cases this
  | cons x X =>
    rw [q] at hfix
    refine decide_eq_true ⟨x :: X, by simp, fun w hw => ⟨(made_mem hb.nd).mp (keepN_sub 6 _ w (by rw [q]; exact hw)), ?_⟩⟩
    have h1 : w ∈ keepR b (x :: X) := by rw [hfix]; exact hw
    obtain ⟨o, h2, h3⟩ := List.any_eq_true.mp (List.mem_filter.mp h1).2
    exact ⟨o, h2, of_decide_eq_true h3⟩
theorem ringed_loop {b : Bks} (hb : OkB b) : ∀ (k : Nat) (n : Nat) (X : List Str) (o2 o3 o4 : Option D), (∀ w ∈ X, IsMade b w) → ∃ o2',
    forL 0 (gName 2) lp_law_ringed_1 ((List.range' n k).map fun k => .int (k : Nat)) [some (encB b), some (.lst (X.map .str)), o2, o3, o4] [] = .nx [some (encB b), some (.lst ((keepN b k X).map .str)), o2', o3, o4] []
  | 0, n, X, o2, o3, o4, _ => ⟨o2, rfl⟩
  | k + 1, n, X, o2, o3, o4, hX => by
    obtain ⟨o2', g⟩ := ringed_loop hb k (n + 1) (keepR b X) (some (.int (n : Nat))) o3 o4 fun w hw => hX w (List.mem_filter.mp hw).1
    refine ⟨o2', ?_⟩
    have c0 : ∀ z : Str, compL 0 (gName 4) tYes (rBin fIn (rVar 4) (rVar 1)) [some (encB b), some (.lst (X.map .str)), some (.int (n : Nat)), some (.str z), none] ((holds b z).map .str) [] = .ok ((holds b z).map fun o => .bl (decide (o ∈ X))) [] := fun z =>
      compL_map D.str (n0 := 0) (g := gName 4) (r := rBin fIn (rVar 4) (rVar 1)) rfl (fun o => .bl (decide (o ∈ X))) (holds b z) fun o _ => ⟨[some (encB b), some (.lst (X.map .str)), some (.int (n : Nat)), some (.str z), some (.str o)], by simp, by simp [inB_strs]⟩
    have k5 : ∀ z : Str, asBools ((holds b z).map fun o => .bl (decide (o ∈ X))) = some ((holds b z).map fun o => decide (o ∈ X)) := fun z => asBools_map (fun o => decide (o ∈ X)) (holds b z)
    have c1 := compL_all D.str (n0 := 0) (g := gName 3) (t := tVal (rCall fAny (aCons (rFrz (lComp [4] (iAny (rP m_law_holds (aCons (rVar 0) (aCons (rVar 3) (aNil))))) (gName 4) (tYes) (rBin fIn (rVar 4) (rVar 1)))) (aNil)))) (r := rVar 3) (e := [some (encB b), some (.lst (X.map .str)), some (.int (n : Nat)), none, o4]) (st := []) rfl (fun w => (holds b w).any fun o => decide (o ∈ X)) .str X fun z hz => ⟨[some (encB b), some (.lst (X.map .str)), some (.int (n : Nat)), some (.str z), o4], by simp, by
      simp [m_lholds (show b.length ≤ 1000 by have := hb.len; omega) (hX z hz), c0, k5, List.any_map], fun _ => by simp⟩
    rw [List.range'_succ, List.map_cons, forL_nx (n0 := 0) (e1 := [some (encB b), some (.lst (X.map .str)), some (.int (n : Nat)), o3, o4]) (e2 := [some (encB b), some (.lst ((keepR b X).map .str)), some (.int (n : Nat)), o3, o4]) (st2 := []) (by simp) (by
      unfold keepR
      simp [lp_law_ringed_1, c1]) rfl]
    exact g
theorem m_lringed {b : Bks} (hb : OkB b) : m_law_ringed [encB b] = .ok (.bl (ringB b)) := by
  obtain ⟨o2', g⟩ := ringed_loop hb 6 0 (madeW b) none none none fun w hw => (made_mem hb.nd).mp hw
  rw [← rng6] at g
  have hi := itRng1_ok (st := []) (n := 6) (by omega) (by omega)
  rw [show (6 : Int).toNat = 6 from rfl] at hi
  refine pureOf_rt (st := []) (d := .bl (ringB b)) rfl ?_ (by simp [frz, frz0])
  rw [keep_ring hb]
  simp [run_law_ringed, m_lmade, hi, g, fNe_strs_nil]
end Py

set_option Elab.async false
set_option linter.all false
set_option maxRecDepth 100000
set_option maxHeartbeats 1000000
set_option autoImplicit false
namespace Py
open PySem
def plsW (b : Bks) (w : Str) : List (Str × Nat) := ((enumA 0 (needsOf b w)).filter fun q => !decide (q.2.1 = ("late" : Str))).map fun q => (w, q.1)
def pls (b : Bks) : List (Str × Nat) := (madeW b).flatMap (plsW b)
theorem needs_len {b : Bks} (hb : OkB b) (w : Str) : (needsOf b w).length ≤ 3 := by
  unfold needsOf
  cases q : mkOf b w with
  | none => simp
  | some m =>
    cases m with
    | as v => simp
    | made ns sp en br => exact (hb.row _ (mkOf_mem q)).2.1
theorem plsW_len {b : Bks} (hb : OkB b) (w : Str) : (plsW b w).length ≤ 3 := by
  unfold plsW
  rw [List.length_map]
  refine Nat.le_trans (List.length_filter_le ..) ?_
  rw [enumA_len]; exact needs_len hb w
theorem flat_len {α β : Type} {f : α → List β} {k : Nat} (h : ∀ x, (f x).length ≤ k) : ∀ l : List α, (l.flatMap f).length ≤ k * l.length
  | [] => by simp
  | x :: l => by
    rw [List.flatMap_cons, List.length_append, List.length_cons, Nat.mul_add, Nat.mul_one]
    have := flat_len h l
    have := h x
    omega
theorem pls_len {b : Bks} (hb : OkB b) : (pls b).length ≤ 18 := by
  have h1 := flat_len (plsW_len hb) (madeW b)
  have h2 := madeW_len b
  have h3 := hb.len
  unfold pls
  omega
theorem m_pplaces {b : Bks} (hb : OkB b) : m_places_of [encB b] = .ok (.lst ((pls b).map plD)) := by
  have hb6 := hb.len
  obtain ⟨e', st', hf, o2, o3, o4, he, hst⟩ := forL_inv (n0 := 1) (g := gName 2) (b := lp_places_of_1) D.str
    (fun pre e st => ∃ (o2 o3 o4 : Option D), e = [some (encB b), some (.ref 0), o2, o3, o4] ∧ st = [.lst ((pre.flatMap (plsW b)).map plD)])
    (madeW b) [] [some (encB b), some (.ref 0), none, none, none] [.lst []] ⟨none, none, none, rfl, rfl⟩
    fun p w q e st hpq ⟨o2, o3, o4, he, hst⟩ => by
      subst he hst
      have hw : IsMade b w := (made_mem hb.nd).mp (by rw [List.nil_append] at hpq; rw [hpq]; simp)
      have hpl : p.length ≤ 6 := by
        have h1 := congrArg List.length hpq
        have h2 := madeW_len b
        simp at h1
        omega
      have hfl := flat_len (plsW_len hb) p
      have hwl := plsW_len hb w
      obtain ⟨C, hC⟩ : ∃ C, C = p.flatMap (plsW b) := ⟨_, rfl⟩
      rw [← hC] at hfl
      have hen := enumA_map pairD (needsOf b w) 0
      have hc := compL_all needE (n0 := 1) (g := gTup [gName 3, gName 4]) (t := tVal (rBin fNe (rBin fSub2 (rVar 4) (rC (.int 0))) (rC (.str "late")))) (r := rTup (aCons (rVar 2) (aCons (rVar 3) (aNil)))) (e := [some (encB b), some (.ref 0), some (.str w), none, none]) (st := [.lst (C.map plD)]) rfl (fun q => !decide (q.2.1 = ("late" : Str))) (fun q => plD (w, q.1)) (enumA 0 (needsOf b w)) fun q _ => ⟨[some (encB b), some (.ref 0), some (.str w), some (.int (q.1 : Int)), some (pairD q.2)], by simp [needE], by simp [pairD], fun _ => by simp [plD]⟩
      rw [show needE = (fun q : Nat × (Str × Str) => D.tup [.int (q.1 : Int), pairD q.2]) from rfl, ← hen] at hc
      have e1 : ((enumA 0 (needsOf b w)).filter fun q => !decide (q.2.1 = ("late" : Str))).map (fun q => plD (w, q.1)) = (plsW b w).map plD := by unfold plsW; rw [List.map_map]; rfl
      rw [e1] at hc
      refine ⟨[some (encB b), some (.ref 0), some (.str w), o3, o4], [some (encB b), some (.ref 0), some (.str w), o3, o4], [.lst (((p ++ [w]).flatMap (plsW b)).map plD)], by simp, ?_, rfl, _, _, _, rfl, rfl⟩
      rw [List.flatMap_append, List.flatMap_singleton, ← hC]
      simp [lp_places_of_1, m_pneeds hw, hc, show C.length + (plsW b w).length ≤ 16777216 by omega]
  subst he hst
  refine pureOf_rt (st := [.lst ((pls b).map plD)]) (d := .ref 0) rfl ?_ (by simp [frz, frz0])
  simp only [List.nil_append] at hf
  simp [run_places_of, m_pmade, hf]
  rfl
def chs2 (P : List (Str × Nat)) (q : Nat × (Str × Nat)) : List (List (Str × Nat)) := (P.drop (q.1 + 1)).map fun o => [q.2, o]
def chs1 (P : List (Str × Nat)) : List (List (Str × Nat)) := [] :: P.map fun x => [x]
def chs (P : List (Str × Nat)) : List (List (Str × Nat)) := chs1 P ++ (enumA 0 P).flatMap (chs2 P)
theorem chs2_len (P : List (Str × Nat)) (q : Nat × (Str × Nat)) : (chs2 P q).length ≤ P.length := by unfold chs2; simp
def plE (q : Nat × (Str × Nat)) : D := .tup [.int (q.1 : Int), plD q.2]
theorem m_chs {P : List (Str × Nat)} (hP : P.length ≤ 18) : m_choices [.lst (P.map plD)] = .ok (.lst ((chs P).map choD)) := by
  have c0 := compL_map plD (n0 := 1) (g := gName 2) (r := rTup (aCons (rVar 2) aNil)) (e := [some (.lst (P.map plD)), some (.ref 0), none, none, none]) (st := [.lst [.tup []]]) rfl (fun x => choD [x]) P fun x _ => ⟨[some (.lst (P.map plD)), some (.ref 0), some (plD x), none, none], by simp, by simp [choD]⟩
  obtain ⟨e', st', hf, o2, o3, o4, he, hst⟩ := forL_inv (n0 := 1) (g := gTup [gName 3, gName 2]) (b := lp_choices_1) plE
    (fun pre e st => ∃ (o2 o3 o4 : Option D), e = [some (.lst (P.map plD)), some (.ref 0), o2, o3, o4] ∧ st = [.lst ((chs1 P ++ pre.flatMap (chs2 P)).map choD)])
    (enumA 0 P) [] [some (.lst (P.map plD)), some (.ref 0), none, none, none] [.lst ((chs1 P).map choD)] ⟨none, none, none, rfl, by simp⟩
    fun p q r e st hpq ⟨o2, o3, o4, he, hst⟩ => by
      subst he hst
      have hpl : p.length ≤ 18 := by
        have h1 := congrArg List.length hpq
        simp [enumA_len] at h1
        omega
      have hfl := flat_len (chs2_len P) p
      have hfl2 : P.length * p.length ≤ 18 * 18 := Nat.mul_le_mul hP hpl
      have hwl := chs2_len P q
      have h1l : (chs1 P).length ≤ 19 := by simp [chs1]; omega
      obtain ⟨C, hC⟩ : ∃ C, C = p.flatMap (chs2 P) := ⟨_, rfl⟩
      rw [← hC] at hfl
      have hc := compL_map plD (n0 := 1) (g := gName 4) (r := rTup (aCons (rVar 2) (aCons (rVar 4) (aNil)))) (e := [some (.lst (P.map plD)), some (.ref 0), some (plD q.2), some (.int (q.1 : Int)), none]) (st := [.lst ((chs1 P ++ C).map choD)]) rfl (fun x => choD [q.2, x]) (P.drop (q.1 + 1)) fun x _ => ⟨[some (.lst (P.map plD)), some (.ref 0), some (plD q.2), some (.int (q.1 : Int)), some (plD x)], by simp, by simp [choD]⟩
      have e1 : (P.drop (q.1 + 1)).map (fun x => choD [q.2, x]) = (chs2 P q).map choD := by unfold chs2; rw [List.map_map]; rfl
      rw [e1] at hc
      have hcut : cut (P.map plD) (some ((q.1 : Int) + 1)) none = (P.drop (q.1 + 1)).map plD := by
        rw [cut_drop _ (by omega), List.map_drop]
        congr 1
      refine ⟨[some (.lst (P.map plD)), some (.ref 0), some (plD q.2), some (.int (q.1 : Int)), o4], [some (.lst (P.map plD)), some (.ref 0), some (plD q.2), some (.int (q.1 : Int)), o4], [.lst ((chs1 P ++ (p ++ [q]).flatMap (chs2 P)).map choD)], by simp [plE], ?_, rfl, _, _, _, rfl, rfl⟩
      rw [List.flatMap_append, List.flatMap_singleton, ← List.append_assoc, ← hC]
      have hcap : (chs1 P ++ C).length + (chs2 P q).length ≤ 16777216 := by rw [List.length_append]; omega
      generalize chs1 P ++ C = B at hc hcap ⊢
      generalize P.drop (q.1 + 1) = T at hc hcut
      simp [lp_choices_1, hcut, hc, hcap]
  subst he hst
  have hen := enumA_map plD P 0
  rw [show (fun q : Nat × (Str × Nat) => D.tup [.int (q.1 : Int), plD q.2]) = plE from rfl] at hen
  rw [← hen] at hf
  refine pureOf_rt (st := [.lst ((chs P).map choD)]) (d := .ref 0) rfl ?_ (by simp [frz, frz0])
  simp only [List.nil_append] at hf
  have e2 : (chs1 P).map choD = .tup [] :: P.map fun x => choD [x] := by unfold chs1; simp [choD]
  rw [e2] at hf
  have e3 : chs1 P ++ (enumA 0 P).flatMap (chs2 P) = chs P := rfl
  rw [e3] at hf
  simp [run_choices, c0, show 1 + P.length ≤ 16777216 by omega, hf]
theorem fNe_self {st : Store} {d : D} (h1 : top st d = d) (h2 : okD 60 d = true) : fNe d d st = .ok (.bl false) st := by
  rw [fNe_ap, h1, h2, eqD_self 60 d h2]; rfl
theorem fEq_self {st : Store} {d : D} (h1 : top st d = d) (h2 : okD 60 d = true) : fEq d d st = .ok (.bl true) st := by
  rw [fEq_ap, h1, h2, eqD_self 60 d h2]; rfl
def firstD (cs : List (List (Str × Nat))) : D := match cs with
  | [] => .non
  | c :: _ => choD c
theorem loosen_loop {b : Bks} (hb : OkB b) : ∀ (cs : List (List (Str × Nat))) (o1 : Option D), (∃ c rest, cs.filter (fun c => !ringB (withLate b c)) = c :: rest ∧ forL 0 (gName 1) lp_loosened_1 (cs.map choD) [some (encB b), o1] [] = .rt (choD c) []) ∨ (cs.filter (fun c => !ringB (withLate b c)) = [] ∧ ∃ o1', forL 0 (gName 1) lp_loosened_1 (cs.map choD) [some (encB b), o1] [] = .nx [some (encB b), o1'] [])
  | [], o1 => .inr ⟨rfl, o1, rfl⟩
  | c :: cs, o1 => by
    have hw := withLate_ok hb c
    obtain ⟨R, L, hm, hp⟩ := m_part hw
    have hr := part_ring hp
    cases L with
    | nil =>
      left
      refine ⟨c, cs.filter (fun c => !ringB (withLate b c)), by rw [List.filter_cons, hr]; simp, ?_⟩
      simp only [List.map_nil] at hm
      rw [List.map_cons]
      exact forL_rt (e1 := [some (encB b), some (choD c)]) (by simp) (by simp [lp_loosened_1, m_plate hb, hm])
    | cons l0 L0 =>
      have hr' : (!ringB (withLate b c)) = false := by rw [hr]; simp
      have h0 := fEq_strs_nil (st := []) (l0 :: L0)
      have step : forL 0 (gName 1) lp_loosened_1 ((c :: cs).map choD) [some (encB b), o1] [] = forL 0 (gName 1) lp_loosened_1 (cs.map choD) [some (encB b), some (choD c)] [] := by
        rw [List.map_cons]
        refine forL_nx (n0 := 0) (e1 := [some (encB b), some (choD c)]) (by simp) ?_ rfl
        simp [lp_loosened_1, m_plate hb, hm]
        simp at h0
        simp [h0]
      rcases loosen_loop hb cs (some (choD c)) with ⟨c', rest, h1, h2⟩ | ⟨h1, o1', h2⟩
      · exact .inl ⟨c', rest, by rw [List.filter_cons, hr']; simpa using h1, by rw [step]; exact h2⟩
      · exact .inr ⟨by rw [List.filter_cons, hr']; simpa using h1, o1', by rw [step]; exact h2⟩
theorem m_loosen {b : Bks} (hb : OkB b) : m_loosened [encB b] = .ok (firstD ((chs (pls b)).filter fun c => !ringB (withLate b c))) := by
  rcases loosen_loop hb (chs (pls b)) none with ⟨c, rest, h1, h2⟩ | ⟨h1, o1', h2⟩
  · rw [h1]
    refine pureOf_rt (st := []) (d := choD c) rfl ?_ (by have hbl := bel_choD 0 c; unfold firstD; dsimp only; unfold choD at hbl ⊢; simp only [frz, frz0, hbl, if_true])
    simp [run_loosened, m_chk hb, m_pplaces hb, m_chs (pls_len hb), h2]
  · rw [h1]
    refine pureOf_rt (st := []) (d := .non) rfl ?_ (by simp [frz, frz0, firstD])
    simp [run_loosened, m_chk hb, m_pplaces hb, m_chs (pls_len hb), h2]
theorem k08_p1 {b : Bks} (hb : OkB b) (v0 v6 v7 v8 v9 v10 v11 : Option D) (w : Str) : ∀ (qs : List (Nat × (Str × Str))) (A : List (Str × Nat)) (o4 o5 : Option D), A.length + qs.length < 1000 → ∃ o4' o5',
    forL 1 (gTup [gName 4, gName 5]) lp_law_k08_1 (qs.map needE) [v0, some (encB b), some (.ref 0), some (.str w), o4, o5, v6, v7, v8, v9, v10, v11] [.lst (A.map plD)] = .nx [v0, some (encB b), some (.ref 0), some (.str w), o4', o5', v6, v7, v8, v9, v10, v11] [.lst ((A ++ (qs.filter fun q => !decide (q.2.1 = ("late" : Str))).map fun q => (w, q.1)).map plD)]
  | [], A, o4, o5, _ => ⟨o4, o5, by simp [forL_nil]⟩
  | q :: qs, A, o4, o5, h => by
    simp only [List.length_cons] at h
    by_cases hq : q.2.1 = "late"
    · obtain ⟨o4', o5', g⟩ := k08_p1 hb v0 v6 v7 v8 v9 v10 v11 w qs A (some (.int (q.1 : Int))) (some (pairD q.2)) (by omega)
      refine ⟨o4', o5', ?_⟩
      rw [List.map_cons, forL_nx (n0 := 1) (e1 := [v0, some (encB b), some (.ref 0), some (.str w), some (.int (q.1 : Int)), some (pairD q.2), v6, v7, v8, v9, v10, v11]) (e2 := [v0, some (encB b), some (.ref 0), some (.str w), some (.int (q.1 : Int)), some (pairD q.2), v6, v7, v8, v9, v10, v11]) (st2 := [.lst (A.map plD)]) (by simp [needE]) (by simp [lp_law_k08_1, pairD, hq]) rfl, g]
      simp [hq]
    · obtain ⟨o4', o5', g⟩ := k08_p1 hb v0 v6 v7 v8 v9 v10 v11 w qs (A ++ [(w, q.1)]) (some (.int (q.1 : Int))) (some (pairD q.2)) (by simp; omega)
      refine ⟨o4', o5', ?_⟩
      rw [List.map_cons, forL_nx (n0 := 1) (e1 := [v0, some (encB b), some (.ref 0), some (.str w), some (.int (q.1 : Int)), some (pairD q.2), v6, v7, v8, v9, v10, v11]) (e2 := [v0, some (encB b), some (.ref 0), some (.str w), some (.int (q.1 : Int)), some (pairD q.2), v6, v7, v8, v9, v10, v11]) (st2 := [.lst ((A ++ [(w, q.1)]).map plD)]) (by simp [needE]) (by simp [lp_law_k08_1, pairD, hq, plD, show A.length < 16777216 by omega]) rfl, g]
      simp [hq]
theorem k08_p2 {b : Bks} (hb : OkB b) (v0 v6 v7 v8 v9 v10 v11 : Option D) : ∀ (ws : List Str) (A : List (Str × Nat)) (o3 o4 o5 : Option D), (∀ w ∈ ws, IsMade b w) → A.length + 3 * ws.length < 900 → ∃ o3' o4' o5',
    forL 1 (gName 3) lp_law_k08_2 (ws.map .str) [v0, some (encB b), some (.ref 0), o3, o4, o5, v6, v7, v8, v9, v10, v11] [.lst (A.map plD)] = .nx [v0, some (encB b), some (.ref 0), o3', o4', o5', v6, v7, v8, v9, v10, v11] [.lst ((A ++ ws.flatMap (plsW b)).map plD)]
  | [], A, o3, o4, o5, _, _ => ⟨o3, o4, o5, by simp [forL_nil]⟩
  | w :: ws, A, o3, o4, o5, hw, h => by
    simp only [List.length_cons] at h
    have hm := hw w List.mem_cons_self
    have hnl := needs_len hb w
    have hpl := plsW_len hb w
    obtain ⟨o41, o51, g1⟩ := k08_p1 hb v0 v6 v7 v8 v9 v10 v11 w (enumA 0 (needsOf b w)) A o4 o5 (by rw [enumA_len]; omega)
    obtain ⟨o3', o4', o5', g2⟩ := k08_p2 hb v0 v6 v7 v8 v9 v10 v11 ws (A ++ plsW b w) (some (.str w)) o41 o51 (fun x hx => hw x (List.mem_cons_of_mem _ hx)) (by simp; omega)
    refine ⟨o3', o4', o5', ?_⟩
    have hen := enumA_map pairD (needsOf b w) 0
    rw [show (fun q : Nat × (Str × Str) => D.tup [.int (q.1 : Int), pairD q.2]) = needE from rfl] at hen
    rw [← hen] at g1
    obtain ⟨ns, sp, en, br, q⟩ := hm
    have hmk := m_lmaker b w (show b.length ≤ 1000 by have := hb.len; omega)
    rw [q] at hmk
    have hns : needsOf b w = ns := by unfold needsOf; rw [q]
    rw [hns] at g1
    rw [List.map_cons, forL_nx (n0 := 1) (e1 := [v0, some (encB b), some (.ref 0), some (.str w), o4, o5, v6, v7, v8, v9, v10, v11]) (e2 := [v0, some (encB b), some (.ref 0), some (.str w), o41, o51, v6, v7, v8, v9, v10, v11]) (st2 := [.lst ((A ++ plsW b w).map plD)]) (by simp) (by
      have : plsW b w = ((enumA 0 ns).filter fun q => !decide (q.2.1 = ("late" : Str))).map fun q => (w, q.1) := by unfold plsW; rw [hns]
      rw [this]
      simp only [lp_law_k08_2, sFor_ap, iEnum_ap, aCons_ap, rBin_ap, rP_ap, rVar_ap, List.getElem?_cons_zero, List.getElem?_cons_succ, rVal_some, Res.bd_ok, aNil_ap, rC_ap, List.all_cons, List.all_nil, bel_encB, bel_str, Bool.and_self, if_true, hmk, PRes.toR_ok, encM, optM_some, fSub2_tup, atI_1, atR_some, id, itEnum_tup, Res.toS_ok, List.length_cons, List.length_nil]
      exact g1) rfl, g2]
    simp
theorem m_law_k08_good (ns : List Int) (h : ns.length ≤ 63) : m_law_k08 [.scr ns] = .ok (.bl true) := by
  obtain ⟨b, hc, hb, _⟩ := m_case (ns := ns) (k := 20) (by omega)
  have h6 := hb.len
  have hml := madeW_len b
  obtain ⟨o3, o4, o5, g1⟩ := k08_p2 hb (some (.scr ns)) none none none none none none (madeW b) [] none none none (fun w hw => (made_mem hb.nd).mp hw) (by simp; omega)
  rw [List.nil_append, show (madeW b).flatMap (plsW b) = pls b from rfl] at g1
  simp only [List.map_nil] at g1
  have hPl := pls_len hb
  obtain ⟨P, hP⟩ : ∃ P, P = pls b := ⟨_, rfl⟩
  rw [← hP] at g1 hPl
  have c0 := compL_map plD (n0 := 1) (g := gName 7) (r := rTup (aCons (rVar 7) aNil)) (e := [some (.scr ns), some (encB b), some (.ref 0), o3, o4, o5, none, none, none, none, none, none]) (st := [.fz (.lst (P.map plD))]) rfl (fun x => choD [x]) P fun x _ => ⟨[some (.scr ns), some (encB b), some (.ref 0), o3, o4, o5, none, some (plD x), none, none, none, none], by simp, by simp [choD]⟩
  have e2 : (chs1 P).map choD = .tup [] :: P.map fun x => choD [x] := by unfold chs1; simp [choD]
  obtain ⟨e', st', hf, o4', o7', o8', he, hst⟩ := forL_inv (n0 := 2) (g := gTup [gName 4, gName 7]) (b := lp_law_k08_3) plE
    (fun pre e st => ∃ (o4 o7 o8 : Option D), e = [some (.scr ns), some (encB b), some (.ref 0), o3, o4, o5, some (.ref 1), o7, o8, none, none, none] ∧ st = [.fz (.lst (P.map plD)), .lst ((chs1 P ++ pre.flatMap (chs2 P)).map choD)])
    (enumA 0 P) [] [some (.scr ns), some (encB b), some (.ref 0), o3, o4, o5, some (.ref 1), none, none, none, none, none] [.fz (.lst (P.map plD)), .lst ((chs1 P).map choD)] ⟨o4, none, none, rfl, by simp⟩
    fun p q r e st hpq ⟨o4, o7, o8, he, hst⟩ => by
      subst he hst
      have hpl : p.length ≤ 18 := by
        have h1 := congrArg List.length hpq
        simp [enumA_len] at h1
        omega
      have hfl := flat_len (chs2_len P) p
      have hfl2 : P.length * p.length ≤ 18 * 18 := Nat.mul_le_mul hPl hpl
      have hwl := chs2_len P q
      have h1l : (chs1 P).length ≤ 19 := by simp [chs1]; omega
      obtain ⟨C, hC⟩ : ∃ C, C = p.flatMap (chs2 P) := ⟨_, rfl⟩
      rw [← hC] at hfl
      have hc := compL_map plD (n0 := 2) (g := gName 8) (r := rTup (aCons (rVar 7) (aCons (rVar 8) (aNil)))) (e := [some (.scr ns), some (encB b), some (.ref 0), o3, some (.int (q.1 : Int)), o5, some (.ref 1), some (plD q.2), none, none, none, none]) (st := [.fz (.lst (P.map plD)), .lst ((chs1 P ++ C).map choD)]) rfl (fun x => choD [q.2, x]) (P.drop (q.1 + 1)) fun x _ => ⟨[some (.scr ns), some (encB b), some (.ref 0), o3, some (.int (q.1 : Int)), o5, some (.ref 1), some (plD q.2), some (plD x), none, none, none], by simp, by simp [choD]⟩
      have e1 : (P.drop (q.1 + 1)).map (fun x => choD [q.2, x]) = (chs2 P q).map choD := by unfold chs2; rw [List.map_map]; rfl
      rw [e1] at hc
      have hcut : ∀ st : Store, st[0]? = some (.fz (.lst (P.map plD))) → fSl (.ref 0) (some ((q.1 : Int) + 1)) none st = .ok (.lst ((P.drop (q.1 + 1)).map plD)) st := fun st hs => by
        unfold fSl
        dsimp only
        rw [asL_ref, hs, lstO_fz]
        dsimp only
        rw [cut_drop _ (by omega), List.map_drop]
        rfl
      refine ⟨[some (.scr ns), some (encB b), some (.ref 0), o3, some (.int (q.1 : Int)), o5, some (.ref 1), some (plD q.2), o8, none, none, none], [some (.scr ns), some (encB b), some (.ref 0), o3, some (.int (q.1 : Int)), o5, some (.ref 1), some (plD q.2), o8, none, none, none], [.fz (.lst (P.map plD)), .lst ((chs1 P ++ (p ++ [q]).flatMap (chs2 P)).map choD)], by simp [plE], ?_, rfl, _, _, _, rfl, rfl⟩
      rw [List.flatMap_append, List.flatMap_singleton, ← List.append_assoc, ← hC]
      have hcap : (chs1 P ++ C).length + (chs2 P q).length ≤ 16777216 := by rw [List.length_append]; omega
      generalize chs1 P ++ C = B at hc hcap ⊢
      generalize P.drop (q.1 + 1) = T at hc hcut
      simp [lp_law_k08_3, hcut, hc, hcap]
  subst he hst
  have hen := enumA_map plD P 0
  rw [show (fun q : Nat × (Str × Nat) => D.tup [.int (q.1 : Int), plD q.2]) = plE from rfl] at hen
  rw [← hen, List.nil_append, show chs1 P ++ (enumA 0 P).flatMap (chs2 P) = chs P from rfl, e2] at hf
  obtain ⟨S, hS⟩ : ∃ S, S = chs P := ⟨_, rfl⟩
  rw [← hS] at hf
  have c1 := compL_all choD (n0 := 2) (g := gName 10) (t := tNot (tVal (rP m_law_ringed (aCons (rP m_law_late (aCons (rVar 1) (aCons (rVar 10) (aNil)))) (aNil))))) (r := rVar 10) (e := [some (.scr ns), some (encB b), some (.ref 0), o3, o4', o5, some (.ref 1), o7', o8', none, none, none]) (st := [.fz (.lst (P.map plD)), .fz (.lst (S.map choD))]) rfl (fun c => !ringB (withLate b c)) choD S fun c _ => ⟨[some (.scr ns), some (encB b), some (.ref 0), o3, o4', o5, some (.ref 1), o7', o8', none, some (choD c), none], by simp, by simp [m_llate hb, m_lringed (withLate_ok hb c)], fun _ => by simp⟩
  obtain ⟨Fi, hFi⟩ : ∃ Fi, Fi = S.filter fun c => !ringB (withLate b c) := ⟨_, rfl⟩
  rw [← hFi] at c1
  have hlo := m_loosen hb
  rw [← hP, ← hS, ← hFi] at hlo
  have hSl : S.length ≤ 400 := by
    have hfl := flat_len (chs2_len P) (enumA 0 P)
    have hfl2 : P.length * (enumA 0 P).length ≤ 18 * 18 := by rw [enumA_len]; exact Nat.mul_le_mul hPl hPl
    have h1l : (chs1 P).length ≤ 19 := by simp [chs1]; omega
    rw [hS]; unfold chs; rw [List.length_append]; omega
  have hFl : Fi.length ≤ 400 := by rw [hFi]; exact Nat.le_trans (List.length_filter_le ..) hSl
  have hS0 : 0 < S.length := by rw [hS]; simp [chs, chs1]
  obtain ⟨i, hi⟩ : ∃ i, i = mixed ns 0 (S.length : Int) := ⟨_, rfl⟩
  have hi0 := mixed_nn (ns := ns) (k := 0) (many := (S.length : Int)) (by omega)
  have hi1 := mixed_lt (ns := ns) (k := 0) (many := (S.length : Int)) (by omega)
  have hmx := m_mixed (ns := ns) (k := 0) (many := (S.length : Int)) (by omega) (by omega)
  rw [← hi] at hi0 hi1 hmx
  obtain ⟨c, hcc, hcS⟩ := atI_in S hi0 hi1
  have hat : atI (S.map choD) i = some (choD c) := by rw [atI_map, hcc]; rfl
  have hfst : atI (Fi.map choD ++ [D.non]) 0 = some (firstD Fi) := by
    cases Fi <;> simp [firstD]
  have hok : okD 60 (firstD Fi) = true := by
    cases Fi with
    | nil => simp [firstD]
    | cons c l => exact okD_choD 58 c
  have hne : ∀ st : Store, fNe (firstD Fi) (firstD Fi) st = .ok (.bl false) st := fun st => fNe_self (by cases Fi <;> rfl) hok
  have heq : ∀ st : Store, fEq (encB (withLate b c)) (encB (withLate b c)) st = .ok (.bl true) st := fun st => fEq_self (by unfold encB; rfl) (okD_encB 55 _)
  refine pureOf_rt (st := [.fz (.lst (P.map plD)), .fz (.lst (S.map choD))]) (d := .bl true) rfl ?_ (by simp [frz, frz0])
  have hcat : ∀ st : Store, fCat (.lst [.tup []]) (.lst (P.map fun x => choD [x])) st = .ok (.tup [] :: P.map fun x => choD [x]) st := fun st => by
    unfold fCat
    simp [asL_lst]
    omega
  simp only [atI_0] at hfst
  have hfst2 : ∀ h : 0 < (List.map choD Fi ++ [D.non]).length, (List.map choD Fi ++ [D.non])[0]'h = firstD Fi := fun h => by
    rw [List.getElem?_eq_getElem h] at hfst
    exact Option.some.inj hfst
  simp [hfst2, run_law_k08, hc, m_lmade, g1, c0, hcat, hf, c1, hlo, hfst, hne, hmx, hat, m_pat hb, m_llate hb, heq, show Fi.length + 1 ≤ 16777216 by omega]
end Py

set_option Elab.async false
set_option linter.all false
set_option maxRecDepth 100000
set_option maxHeartbeats 1000000
set_option autoImplicit false
namespace Py
open PySem
@[simp] theorem isi_lst_list {st : Store} (z : List D) : fIsi [.lst z, .ty "list"] st = .ok (.bl true) st := by unfold fIsi; simp [tyOf, show "list" ∈ tyCs by decide +kernel, show isTy "list" "list" = true by decide +kernel]
theorem enumA_get {α : Type} : ∀ {l : List α} {k : Nat} {q : Nat × α}, q ∈ enumA k l → k ≤ q.1 ∧ l[q.1 - k]? = some q.2
  | x :: l, k, q, h => by
    rcases List.mem_cons.mp h with e | h
    · rw [e]; simp
    · obtain ⟨h1, h2⟩ := enumA_get h
      refine ⟨by omega, ?_⟩
      rw [show q.1 - k = (q.1 - (k + 1)) + 1 by omega, List.getElem?_cons_succ]
      exact h2
def strE (q : Nat × Str) : D := .tup [.int (q.1 : Int), .str q.2]
theorem madeW_srt {b : Bks} (hb : OkB b) : (madeW b).Pairwise fun x y => ltS x y = true := by
  have : (madeW b).Sublist (names b) := by
    unfold madeW names
    exact List.filter_sublist.map _
  exact hb.srt.sublist this
theorem fLenSet_strs {st : Store} {r : List Str} (hn : r.Nodup) (hl : r.length ≤ 1000) : fLenSet (.lst (r.map .str)) st = .ok (.int (r.length : Nat)) st := by
  unfold fLenSet
  dsimp only
  rw [asStrs_map]
  dsimp only
  rw [if_pos ⟨hn, hl⟩]
theorem k05_l1 {b : Bks} (hb : OkB b) {R L : List Str} (hp : PartEnd b R L) (v0 v2 v3 : Option D) : ∀ (qs : List (Nat × Str)) (o5 o6 o7 : Option D), (∀ q ∈ qs, R[q.1]? = some q.2) → ∃ o5' o6' o7',
    forL 0 (gTup [gName 5, gName 6]) lp_law_k05_1 (qs.map strE) [v0, some (encB b), v2, v3, some (.lst (R.map .str)), o5, o6, o7] [] = .nx [v0, some (encB b), v2, v3, some (.lst (R.map .str)), o5', o6', o7'] []
  | [], o5, o6, o7, _ => ⟨o5, o6, o7, rfl⟩
  | q :: qs, o5, o6, o7, h => by
    have hq := h q List.mem_cons_self
    have hm : IsMade b q.2 := (hp.mem q.2).mpr (.inl (List.mem_of_getElem? hq))
    obtain ⟨o5', o6', o7', g⟩ := k05_l1 hb hp v0 v2 v3 qs (some (.int (q.1 : Int))) (some (.str q.2)) o7 fun x hx => h x (List.mem_cons_of_mem _ hx)
    refine ⟨o5', o6', o7', ?_⟩
    have hcut : cut (R.map D.str) none (some (q.1 : Int)) = (R.take q.1).map D.str := by rw [cut_take _ (by omega), List.map_take]; rfl
    obtain ⟨T, hT⟩ : ∃ T, T = R.take q.1 := ⟨_, rfl⟩
    rw [← hT] at hcut
    have c := compL_map D.str (n0 := 0) (g := gName 7) (r := rBin fIn (rVar 7) (rSl fSl (rVar 4) (oNone) (oSome (rVar 5)))) (e := [v0, some (encB b), v2, v3, some (.lst (R.map .str)), some (.int (q.1 : Int)), some (.str q.2), none]) (st := []) rfl (fun o => .bl (decide (o ∈ T))) (holds b q.2) fun o _ => ⟨[v0, some (encB b), v2, v3, some (.lst (R.map .str)), some (.int (q.1 : Int)), some (.str q.2), some (.str o)], by simp, by simp [hcut, inB_strs]⟩
    have k5 : asBools ((holds b q.2).map fun o => .bl (decide (o ∈ T))) = some ((holds b q.2).map fun o => decide (o ∈ T)) := asBools_map (fun o => decide (o ∈ T)) (holds b q.2)
    have hall : ((holds b q.2).map fun o => decide (o ∈ T)).all id = true := by
      rw [List.all_map, List.all_eq_true]
      intro o ho
      have := hp.ord q.1 q.2 hq o ho
      rw [← hT] at this
      simp [this]
    rw [List.map_cons, forL_nx (n0 := 0) (e1 := [v0, some (encB b), v2, v3, some (.lst (R.map .str)), some (.int (q.1 : Int)), some (.str q.2), o7]) (e2 := [v0, some (encB b), v2, v3, some (.lst (R.map .str)), some (.int (q.1 : Int)), some (.str q.2), o7]) (st2 := []) (by simp [strE]) (by
      simp only [lp_law_k05_1, sIf_ap, tNot_ap, tVal_ap, rCall_ap, aCons_ap, rFrz_ap, lComp_ap, iAny_ap, rP_ap, rVar_ap, List.getElem?_cons_zero, List.getElem?_cons_succ, rVal_some, Res.bd_ok, aNil_ap, List.all_cons, List.all_nil, bel_encB, bel_str, Bool.and_self, if_true, m_lholds (show b.length ≤ 1000 by have := hb.len; omega) hm, PRes.toR_ok, itAny_lst, wipe_cons, wipe_nil, List.set_cons_zero, List.set_cons_succ, List.length_nil, c, fAll_lst, k5, hall, asB_bl, Res.toS_ok]
      simp) rfl]
    exact g
theorem k05_l2 {b : Bks} (hb : OkB b) {L r : List Str} (hm : ∀ x ∈ L, IsMade b x) (hr : RingOk b L r) (v0 v2 v4 : Option D) : ∀ (qs : List (Nat × Str)) (o5 o6 o7 : Option D), (∀ q ∈ qs, r[q.1]? = some q.2) → ∃ o5' o6',
    forL 0 (gTup [gName 5, gName 6]) lp_law_k05_2 (qs.map strE) [v0, some (encB b), v2, some (.lst (r.map .str)), v4, o5, o6, o7] [] = .nx [v0, some (encB b), v2, some (.lst (r.map .str)), v4, o5', o6', o7] []
  | [], o5, o6, o7, _ => ⟨o5, o6, rfl⟩
  | q :: qs, o5, o6, o7, h => by
    have hq := h q List.mem_cons_self
    have hql := (List.getElem?_eq_some_iff.mp hq).1
    have hmq : IsMade b q.2 := hm _ (hr.sub _ (List.mem_of_getElem? hq))
    obtain ⟨o5', o6', g⟩ := k05_l2 hb hm hr v0 v2 v4 qs (some (.int (q.1 : Int))) (some (.str q.2)) o7 fun x hx => h x (List.mem_cons_of_mem _ hx)
    refine ⟨o5', o6', ?_⟩
    obtain ⟨y, hy, hyh⟩ : ∃ y, atI (r.map D.str) (((q.1 : Int) + 1) % (r.length : Int)) = some (.str y) ∧ y ∈ holds b q.2 := by
      by_cases hlt : q.1 + 1 < r.length
      · refine ⟨r[q.1 + 1], ?_, hr.chain q.1 q.2 _ hq (List.getElem?_eq_getElem hlt)⟩
        have : ((q.1 : Int) + 1) % (r.length : Int) = ((q.1 + 1 : Nat) : Int) := by rw [Int.emod_eq_of_lt (by omega) (by omega)]; rfl
        rw [this, atI_nn]
        simp [hlt]
      · have he : q.1 + 1 = r.length := by omega
        have : ((q.1 : Int) + 1) % (r.length : Int) = 0 := by rw [show (q.1 : Int) + 1 = (r.length : Int) by omega]; exact Int.emod_self
        have h0 : 0 < r.length := by omega
        refine ⟨r[0], ?_, hr.close q.2 _ ?_ ?_⟩
        · rw [this, atI_0]; simp [h0]
        · rw [List.getLast?_eq_getElem?, show r.length - 1 = q.1 by omega]; exact hq
        · rw [List.head?_eq_getElem?]; simp [h0]
    rw [List.map_cons, forL_nx (n0 := 0) (e1 := [v0, some (encB b), v2, some (.lst (r.map .str)), v4, some (.int (q.1 : Int)), some (.str q.2), o7]) (e2 := [v0, some (encB b), v2, some (.lst (r.map .str)), v4, some (.int (q.1 : Int)), some (.str q.2), o7]) (st2 := []) (by simp [strE]) (by
      simp [lp_law_k05_2, show 0 < r.length by omega, hy, m_lholds (show b.length ≤ 1000 by have := hb.len; omega) hmq, inB_strs, hyh]) rfl]
    exact g
theorem m_law_k05_good (ns : List Int) (h : ns.length ≤ 63) : m_law_k05 [.scr ns] = .ok (.bl true) := by
  obtain ⟨b, hc, hb, _⟩ := m_case (ns := ns) (k := 20) (by omega)
  obtain ⟨R, L, hm, hp⟩ := m_part hb
  obtain ⟨hr1, hr2⟩ := m_rng hb hm hp
  have ho := m_ord hb hm
  have hml : (madeW b).length ≤ 6 := Nat.le_trans (madeW_len b) hb.len
  have hRl : R.length ≤ 6 := Nat.le_trans (nodup_sub_len hp.ndR fun x hx => (made_mem hb.nd).mpr ((hp.mem x).mpr (.inl hx))) hml
  have hLl : L.length ≤ 6 := Nat.le_trans hp.sub.length_le hml
  refine pureOf_rt (st := []) (d := .bl true) rfl ?_ (by simp [frz, frz0])
  by_cases hL : L = []
  · subst hL
    have hr := hr1 rfl
    simp at ho
    have hs := fSorted2_strs (st := []) R (by omega)
    rw [sort_set hp.ndR (madeW_srt hb) fun x => by rw [made_mem hb.nd, hp.mem]; simp] at hs
    have hne : fNe (.lst ((madeW b).map .str)) (.lst ((madeW b).map .str)) [] = .ok (.bl false) [] := fNe_self rfl (by rw [okD_lst]; simp)
    have hen := enumA_map D.str R 0
    rw [show (fun q : Nat × Str => D.tup [.int (q.1 : Int), .str q.2]) = strE from rfl] at hen
    obtain ⟨o5, o6, o7, g⟩ := k05_l1 hb hp (some (.scr ns)) (some (.lst ((madeW b).map .str))) (some .non) (enumA 0 R) none none none fun q hq => by have := enumA_get hq; simpa using this.2
    rw [← hen] at g
    simp [run_law_k05, hc, m_lmade, hr, ho, hs, hne, g]
  · obtain ⟨r, hr, hR⟩ := hr2 hL
    have hLe : L.isEmpty = false := by cases L <;> simp_all
    rw [hLe] at ho
    simp at ho
    have hrl : r.length ≤ 6 := Nat.le_trans (nodup_sub_len hR.nd hR.sub) hLl
    have hre : r.isEmpty = false := by have := hR.ne; cases r <;> simp_all
    have hLm : ∀ x ∈ L, IsMade b x := fun x hx => (hp.mem x).mpr (.inr hx)
    have c := compL_map D.str (n0 := 0) (g := gName 6) (r := rBin fIn (rVar 6) (rVar 2)) (e := [some (.scr ns), some (encB b), some (.lst ((madeW b).map .str)), some (.lst (r.map .str)), some .non, none, none, none]) (st := []) rfl (fun o => .bl (decide (o ∈ madeW b))) r fun o _ => ⟨[some (.scr ns), some (encB b), some (.lst ((madeW b).map .str)), some (.lst (r.map .str)), some .non, none, some (.str o), none], by simp, by simp [inB_strs]⟩
    have k5 : asBools (r.map fun o => .bl (decide (o ∈ madeW b))) = some (r.map fun o => decide (o ∈ madeW b)) := asBools_map (fun o => decide (o ∈ madeW b)) r
    have hall : ∀ x ∈ r, x ∈ madeW b := fun x hx => (made_mem hb.nd).mpr (hLm x (hR.sub x hx))
    have hen := enumA_map D.str r 0
    rw [show (fun q : Nat × Str => D.tup [.int (q.1 : Int), .str q.2]) = strE from rfl] at hen
    obtain ⟨o5, o6, g⟩ := k05_l2 hb hLm hR (some (.scr ns)) (some (.lst ((madeW b).map .str))) (some .non) (enumA 0 r) none none none fun q hq => by have := enumA_get hq; simpa using this.2
    rw [← hen] at g
    simp [run_law_k05, hc, m_lmade, hr, ho, fEq_strs_nil, hre, fLenSet_strs hR.nd (show r.length ≤ 1000 by omega), c, k5]
    rw [if_neg (by rintro ⟨x, h1, h2⟩; exact h2 (hall x h1))]
    simp [g]
end Py

set_option Elab.async false
set_option linter.all false
set_option maxRecDepth 100000
set_option maxHeartbeats 1000000
set_option autoImplicit false
namespace Py
open PySem
theorem fIsE_glo {st : Store} (a : Nat) (C x : Str) (h : x ∈ errs) : fIsE a C [.raw a, .glo x] st = .ok (.bl (decide (x = C))) st := by
  unfold fIsE isTbl; simp [h]
theorem fIsE_ve {st : Store} (a : Nat) (C : Str) : fIsE a C [.raw a, .ty "ValueError"] st = .ok (.bl true) st := by
  unfold fIsE isTbl; simp
theorem which_all : ∀ C ∈ errs, ∀ a : Nat, ∃ j, errIx C = some j ∧ m_law_which a C [.raw a] = .ok (refD j) := by
  intro C hC a
  have run : ∀ (C : Str) (l : List Bool) (j : Nat), errs.map (fun x => decide (x = C)) = l → ((l.map D.bl).countP fun z => eqF z (.bl true)) = 1 → (l.map D.bl).findIdx? (fun z => eqF z (.bl true)) = some j → (l.map D.bl).all flat = true → m_law_which a C [.raw a] = .ok (refD j) := by
    intro C l j hl hc hj hfl
    have hcnt : ∀ st : Store, st[0]? = some (.lst (l.map D.bl)) → fCount (.ref 0) [.bl true] st = .ok (.int 1) st := fun st hs => by
      unfold fCount; dsimp only
      rw [asL_ref, hs, lstO_lst]
      dsimp only
      rw [hfl, hc]; rfl
    have hix : ∀ st : Store, st[0]? = some (.lst (l.map D.bl)) → fIndex (.ref 0) [.bl true] st = .ok (.int (j : Nat)) st := fun st hs => by
      unfold fIndex; dsimp only
      rw [asL_ref, hs, lstO_lst]
      dsimp only
      rw [hfl, hj]; rfl
    subst hl
    simp only [errs, List.map_cons, List.map_nil] at hcnt hix
    refine pureOf_rt (st := [.lst ((errs.map fun x => decide (x = C)).map D.bl)]) (d := refD j) rfl ?_ (by simp [frz, frz0, refD])
    simp only [errs, List.map_cons, List.map_nil]
    have g0 : ∀ st : Store, fIsE a C [.raw a, .glo "NoWant"] st = .ok (.bl (decide (("NoWant" : Str) = C))) st := fun st => fIsE_glo a C _ (by simp [errs])
    have g1 : ∀ st : Store, fIsE a C [.raw a, .glo "NoMaker"] st = .ok (.bl (decide (("NoMaker" : Str) = C))) st := fun st => fIsE_glo a C _ (by simp [errs])
    have g2 : ∀ st : Store, fIsE a C [.raw a, .glo "NoBooks"] st = .ok (.bl (decide (("NoBooks" : Str) = C))) st := fun st => fIsE_glo a C _ (by simp [errs])
    have g3 : ∀ st : Store, fIsE a C [.raw a, .glo "TooBig"] st = .ok (.bl (decide (("TooBig" : Str) = C))) st := fun st => fIsE_glo a C _ (by simp [errs])
    have g4 : ∀ st : Store, fIsE a C [.raw a, .glo "Missing"] st = .ok (.bl (decide (("Missing" : Str) = C))) st := fun st => fIsE_glo a C _ (by simp [errs])
    have g5 : ∀ st : Store, fIsE a C [.raw a, .glo "Unsound"] st = .ok (.bl (decide (("Unsound" : Str) = C))) st := fun st => fIsE_glo a C _ (by simp [errs])
    have g6 : ∀ st : Store, fIsE a C [.raw a, .glo "NoScope"] st = .ok (.bl (decide (("NoScope" : Str) = C))) st := fun st => fIsE_glo a C _ (by simp [errs])
    have g7 : ∀ st : Store, fIsE a C [.raw a, .glo "Shut"] st = .ok (.bl (decide (("Shut" : Str) = C))) st := fun st => fIsE_glo a C _ (by simp [errs])
    have g8 : ∀ st : Store, fIsE a C [.raw a, .glo "NoThing"] st = .ok (.bl (decide (("NoThing" : Str) = C))) st := fun st => fIsE_glo a C _ (by simp [errs])
    have g9 : ∀ st : Store, fIsE a C [.raw a, .glo "Gone"] st = .ok (.bl (decide (("Gone" : Str) = C))) st := fun st => fIsE_glo a C _ (by simp [errs])
    have g10 : ∀ st : Store, fIsE a C [.raw a, .glo "NoNeed"] st = .ok (.bl (decide (("NoNeed" : Str) = C))) st := fun st => fIsE_glo a C _ (by simp [errs])
    have g11 : ∀ st : Store, fIsE a C [.raw a, .glo "NoText"] st = .ok (.bl (decide (("NoText" : Str) = C))) st := fun st => fIsE_glo a C _ (by simp [errs])
    simp [run_law_which, g0, g1, g2, g3, g4, g5, g6, g7, g8, g9, g10, g11, fIsE_ve, hcnt, hix, refD]
  simp only [errs, List.mem_cons, List.not_mem_nil, or_false] at hC
  rcases hC with h | h | h | h | h | h | h | h | h | h | h | h <;> subst h
  · exact ⟨0, rfl, run _ _ 0 rfl rfl rfl rfl⟩
  · exact ⟨1, rfl, run _ _ 1 rfl rfl rfl rfl⟩
  · exact ⟨2, rfl, run _ _ 2 rfl rfl rfl rfl⟩
  · exact ⟨3, rfl, run _ _ 3 rfl rfl rfl rfl⟩
  · exact ⟨4, rfl, run _ _ 4 rfl rfl rfl rfl⟩
  · exact ⟨5, rfl, run _ _ 5 rfl rfl rfl rfl⟩
  · exact ⟨6, rfl, run _ _ 6 rfl rfl rfl rfl⟩
  · exact ⟨7, rfl, run _ _ 7 rfl rfl rfl rfl⟩
  · exact ⟨8, rfl, run _ _ 8 rfl rfl rfl rfl⟩
  · exact ⟨9, rfl, run _ _ 9 rfl rfl rfl rfl⟩
  · exact ⟨10, rfl, run _ _ 10 rfl rfl rfl rfl⟩
  · exact ⟨11, rfl, run _ _ 11 rfl rfl rfl rfl⟩
theorem m_which_ok (a : Nat) (C : Str) (j : Nat) (h : errIx C = some j) : m_law_which a C [.raw a] = .ok (refD j) := by
  have hC : C ∈ errs := by
    unfold errIx at h
    obtain ⟨hj, h1, _⟩ := List.findIdx?_eq_some_iff_getElem.mp h
    rw [← of_decide_eq_true h1]; exact List.getElem_mem _
  obtain ⟨j', h1, h2⟩ := which_all C hC a
  rw [h] at h1; cases h1; exact h2
end Py

set_option Elab.async false
set_option linter.all false
set_option maxRecDepth 100000
set_option maxHeartbeats 1000000
set_option autoImplicit false
namespace Py
open PySem
section
variable {st : Store} {e : Env}
@[simp] theorem isi_non_str : fIsi [.non, .ty "str"] st = .ok (.bl false) st := by unfold fIsi; simp [tyOf, show "str" ∈ tyCs by decide +kernel, show isTy "NoneType" "str" = false by decide +kernel]
@[simp] theorem isi_int_str (z : Int) : fIsi [.int z, .ty "str"] st = .ok (.bl false) st := by unfold fIsi; simp [tyOf, show "str" ∈ tyCs by decide +kernel, show isTy "int" "str" = false by decide +kernel]
@[simp] theorem isi_lst_str (z : List D) : fIsi [.lst z, .ty "str"] st = .ok (.bl false) st := by unfold fIsi; simp [tyOf, show "str" ∈ tyCs by decide +kernel, show isTy "list" "str" = false by decide +kernel]
@[simp] theorem isi_tup_str (z : List D) : fIsi [.tup z, .ty "str"] st = .ok (.bl false) st := by unfold fIsi; simp [tyOf, show "str" ∈ tyCs by decide +kernel, show isTy "tuple" "str" = false by decide +kernel]
def orT (x : D) (b : RE) (e : Env) (st : Store) : Res D := match x with
  | .non => b e st
  | .str z => if z.length = 0 then b e st else .ok (.str z) st
  | _ => .bad
@[simp] theorem orT_non (b : RE) : orT .non b e st = b e st := rfl
@[simp] theorem orT_str (z : Str) (b : RE) : orT (.str z) b e st = if z.length = 0 then b e st else .ok (.str z) st := rfl
@[simp] theorem rOrT_ap (a b : RE) : rOrT a b e st = (a e st).bd fun x st1 => orT x b e st1 := by
  unfold rOrT orT
  cases a e st with
  | ok d st1 => cases d <;> rfl
  | _ => rfl
theorem told_ok {i : Nat} {r : RE} {d : D} {st1 : Store} (h : r e st = .ok d st1) : sTold i r e st = .rt d st1 := by unfold sTold; rw [h]
theorem told_exn {i : Nat} {r : RE} {C : Str} {st1 : Store} {j : Nat} (h : r e st = .exn C st1) (hj : errIx C = some j) (hi : i < e.length) : sTold i r e st = .rt (refD j) st1 := by unfold sTold; rw [h]; dsimp only; rw [hj]; dsimp only; rw [if_pos hi]
end
/-- what a want is not -/
def BadW (d : D) : Prop := bel 0 d = true ∧ m_is_want [d] = .ok (.bl false)
theorem m_needw {w : Str} (h : Word w) : m_need_want [.str w] = .ok .non := by
  refine pureOf_nx (e := [some (.str w)]) (st := []) rfl ?_
  simp [run_need_want, m_want, isWord_iff.mpr h]
theorem m_needBad {d : D} (h : BadW d) : m_need_want [d] = .exn "NoWant" := by
  refine pureOf_exn (e := [some d]) (st := []) rfl ?_
  simp [run_need_want, h.2, h.1]
theorem m_standF {b : Bks} (hb : OkB b) {w : Str} (h : Word w) : m_stands_for [encB b, .str w] = .ok (optS (standS b w)) := by
  refine pureOf_rt (st := []) (d := optS (standS b w)) rfl ?_ (by cases standS b w <;> simp [frz, frz0, optS])
  simp [run_stands_for, m_chk hb, m_needw h, m_stand hb.len]
theorem m_standBad {b : Bks} (hb : OkB b) {d : D} (h : BadW d) : m_stands_for [encB b, d] = .exn "NoWant" := by
  refine pureOf_exn (e := [some (encB b), some d]) (st := []) rfl ?_
  simp [run_stands_for, m_chk hb, m_needBad h, h.1]
theorem badW_non : BadW .non := ⟨by simp, pureOf_rt (st := []) (d := .bl false) rfl (by simp [run_is_want]) (by simp [frz, frz0])⟩
theorem badW_int (i : Int) : BadW (.int i) := ⟨by simp, pureOf_rt (st := []) (d := .bl false) rfl (by simp [run_is_want]) (by simp [frz, frz0])⟩
theorem badW_lst (l : List D) (h : l.all (bel 0) = true) : BadW (.lst l) := ⟨by simpa using h, pureOf_rt (st := []) (d := .bl false) rfl (by simp [run_is_want]) (by simp [frz, frz0])⟩
theorem badW_tup (l : List D) (h : l.all (bel 0) = true) : BadW (.tup l) := ⟨by simpa using h, pureOf_rt (st := []) (d := .bl false) rfl (by simp [run_is_want]) (by simp [frz, frz0])⟩
theorem badW_str {z : Str} (h : isWord z = false) : BadW (.str z) := ⟨by simp, by rw [m_want, h]⟩
theorem notWord {z : Str} {c : Nat} (h : c ∈ z.cps.toList) (hc : decide (c ∈ ("abcdefghijklmnopqrstuvwxyz" : Str).cps.toList) = false) : isWord z = false := by
  unfold isWord
  rw [Bool.and_eq_false_iff]
  right
  rw [List.all_eq_false]
  exact ⟨c, h, by rw [hc]; decide⟩
theorem badSigns : ∀ c ∈ ("A0@ ;-Z_" : Str).cps.toList, decide (c ∈ ("abcdefghijklmnopqrstuvwxyz" : Str).cps.toList) = false := by decide +kernel
theorem len_appS (a b : Str) : (a ++ b).length = a.length + b.length := by show (a.cps ++ b.cps).size = _; simp [Str.length]
theorem cps_appS (a b : Str) : (a ++ b).cps.toList = a.cps.toList ++ b.cps.toList := by show (a.cps ++ b.cps).toList = _; simp
theorem repS_len (z : Str) (n : Nat) : (repS z n).cps.toList.length = n * z.length := by
  unfold repS Str.length
  simp
theorem m_badword {ns : List Int} {k : Int} (hk : 0 ≤ k) {w : Str} (hw : Word w) : ∃ z, m_law_bad_word [.scr ns, .int k, .str w] = .ok (.str z) ∧ isWord z = false := by
  obtain ⟨hw1, hw2, _⟩ := hw
  have hsl : ("A0@ ;-Z_" : Str).cps.toList.length = 8 := by decide +kernel
  obtain ⟨p, hp⟩ : ∃ p, p = mixed ns k ((w.length : Int) + 1) := ⟨_, rfl⟩
  have hp0 := mixed_nn (ns := ns) (k := k) (many := (w.length : Int) + 1) (by omega)
  have hp1 := mixed_lt (ns := ns) (k := k) (many := (w.length : Int) + 1) (by omega)
  have m0 := m_mixed (ns := ns) (k := k) (many := (w.length : Int) + 1) (by omega) (by omega)
  rw [← hp] at hp0 hp1 m0
  have hs0 := mixed_nn (ns := ns) (k := k + 1) (many := 8) (by omega)
  have hs1 := mixed_lt (ns := ns) (k := k + 1) (many := 8) (by omega)
  have m1 := m_mixed (ns := ns) (k := k + 1) (many := 8) (by omega) (by omega)
  obtain ⟨c, hc, hcm⟩ := atI_in ("A0@ ;-Z_" : Str).cps.toList hs0 (by rw [hsl]; exact hs1)
  have hq0 := mixed_nn (ns := ns) (k := k + 2) (many := 3) (by omega)
  have hq1 := mixed_lt (ns := ns) (k := k + 2) (many := 3) (by omega)
  have m2 := m_mixed (ns := ns) (k := k + 2) (many := 3) (by omega) (by omega)
  obtain ⟨q, hq⟩ : ∃ q, q = mixed ns (k + 2) 3 := ⟨_, rfl⟩
  rw [← hq] at hq0 hq1 m2
  have hmul : ∀ st : Store, fMul2 (.str w) (.int 9) st = .ok (.str (repS w 9)) st := fun st => by
    unfold fMul2; dsimp only; rw [if_pos ⟨hw1, by omega, by omega, by omega⟩]; rfl
  have hcap : w.length ≤ 8 := hw2
  obtain ⟨A, hA⟩ : ∃ A : Str, A = ⟨(cut w.cps.toList none (some p)).toArray⟩ := ⟨_, rfl⟩
  obtain ⟨B, hB⟩ : ∃ B : Str, B = ⟨(cut w.cps.toList (some p) none).toArray⟩ := ⟨_, rfl⟩
  have hAl : A.length ≤ 8 := by rw [hA]; have := cut_len w.cps.toList none (some p); simpa [Str.length] using Nat.le_trans this (by simpa [Str.length] using hcap)
  have hBl : B.length ≤ 8 := by rw [hB]; have := cut_len w.cps.toList (some p) none; simpa [Str.length] using Nat.le_trans this (by simpa [Str.length] using hcap)
  have hS : (⟨#[c]⟩ : Str).length = 1 := rfl
  have hASl : (A ++ (⟨#[c]⟩ : Str)).length ≤ 9 := by rw [len_appS]; omega
  obtain ⟨R, hR⟩ : ∃ R : Str, R = ⟨(cut (repS w 9).cps.toList none (some 9)).toArray⟩ := ⟨_, rfl⟩
  have hRl : R.length = 9 := by
    rw [hR]
    have := cut_none_len (repS w 9).cps.toList (i := 9) (by omega)
    have h2 := repS_len w 9
    simp only [Str.length, List.size_toArray, this]
    rw [h2, show (9 : Int).toNat = 9 from rfl]
    omega
  obtain ⟨z, hz, hzw⟩ : ∃ z, atI [D.str "", .str R, .str ((A ++ ⟨#[c]⟩) ++ B)] q = some (.str z) ∧ isWord z = false := by
    have : q = 0 ∨ q = 1 ∨ q = 2 := by omega
    rcases this with h | h | h
    · exact ⟨"", by rw [h]; rfl, by decide +kernel⟩
    · refine ⟨R, by rw [h]; rfl, ?_⟩
      unfold isWord
      rw [hRl]; rfl
    · refine ⟨(A ++ ⟨#[c]⟩) ++ B, by rw [h]; rfl, notWord (c := c) ?_ (badSigns c hcm)⟩
      rw [cps_appS, cps_appS]
      simp
  refine ⟨z, pureOf_rt (st := []) (d := .str z) rfl ?_ (by simp [frz, frz0]), hzw⟩
  simp [run_law_bad_word, m0, m1, m2, hc, hmul, ← hA, ← hB, ← hR, show A.length ≤ 16777215 by omega, show A.length + 1 + B.length ≤ 16777216 by omega, hz]
theorem m_badwant {ns : List Int} {k : Int} (hk : 0 ≤ k) {w : Str} (hw : Word w) : ∃ d, m_law_bad_want [.scr ns, .int k, .str w] = .ok d ∧ BadW d := by
  obtain ⟨z, hz, hzw⟩ := m_badword (ns := ns) (k := k + 1) (by omega) hw
  have hq0 := mixed_nn (ns := ns) (k := k) (many := 5) (by omega)
  have hq1 := mixed_lt (ns := ns) (k := k) (many := 5) (by omega)
  have m2 := m_mixed (ns := ns) (k := k) (many := 5) (by omega) (by omega)
  obtain ⟨q, hq⟩ : ∃ q, q = mixed ns k 5 := ⟨_, rfl⟩
  rw [← hq] at hq0 hq1 m2
  obtain ⟨d, hd, hB⟩ : ∃ d, atI [D.str z, .non, .int 7, .lst [.str w], .tup [.str w]] q = some d ∧ BadW d := by
    have : q = 0 ∨ q = 1 ∨ q = 2 ∨ q = 3 ∨ q = 4 := by omega
    rcases this with h | h | h | h | h <;> rw [h]
    · exact ⟨_, rfl, badW_str hzw⟩
    · exact ⟨_, rfl, badW_non⟩
    · exact ⟨_, rfl, badW_int 7⟩
    · exact ⟨_, rfl, badW_lst _ (by simp)⟩
    · exact ⟨_, rfl, badW_tup _ (by simp)⟩
  refine ⟨d, ?_, hB⟩
  have hf : frz [] d = some d := by
    have h1 := hB.1
    unfold frz frz0
    cases d with
    | ref i => simp at h1
    | _ => dsimp only; rw [if_pos h1]
  refine pureOf_rt (st := []) (d := d) rfl ?_ hf
  simp [run_law_bad_want, hz, m2, hd]
/-! ### plain books -/
def orS (b : Bks) (o : Str) : Str := (standS b o).getD o
def plainM (b : Bks) : Mk → Mk
  | .as v => .as v
  | .made ns sp en br => .made (ns.map fun p => (p.1, orS b p.2)) sp en br
def plainB (b : Bks) : Bks := (b.filter fun r => isMade r.2).map fun r => (r.1, plainM b r.2)
theorem stand_word {b : Bks} (hb : OkB b) {w v : Str} (h : standS b w = some v) : Word v := by
  obtain ⟨r, hr, e⟩ := List.mem_map.mp (isMade_name (standN_made h))
  rw [← e]; exact (hb.row r hr).1
theorem orT_stand {b : Bks} (hb : OkB b) (o : Str) (r : RE) (e : Env) (st : Store) (h : r e st = .ok (.str o) st) : orT (optS (standS b o)) r e st = .ok (.str (orS b o)) st := by
  unfold orS
  cases q : standS b o with
  | none => simp [optS, h]
  | some v =>
    have := (stand_word hb q).1
    simp [optS, show v.length ≠ 0 by omega]
theorem cut_madeE (ns : List (Str × Str)) (s : Str) (en : Bool) (br : Int) : cut [D.str "made", D.tup (ns.map pairD), D.str s, D.bl en, D.int br] (some 2) none = [D.str s, D.bl en, D.int br] := rfl
def plainR (b : Bks) (w : Str) : Str × Mk := (w, match mkOf b w with | some m => plainM b m | none => .as w)
theorem plainB_eq {b : Bks} (hb : OkB b) : plainB b = (madeW b).map (plainR b) := by
  unfold plainB madeW
  rw [List.map_map]
  refine List.map_congr_left fun r hr => ?_
  have := mkOf_of_mem hb.nd (w := r.1) (m := r.2) (List.mem_filter.mp hr).1
  unfold plainR
  simp only [Function.comp, this]
theorem m_pplain {b : Bks} (hb : OkB b) : m_plain [encB b] = .ok (encB (plainB b)) := by
  have hb6 := hb.len
  obtain ⟨e', st', hf, o2, o3, o4, o5, o6, he, hst⟩ := forL_inv (n0 := 1) (g := gName 2) (b := lp_plain_1) D.str
    (fun pre e st => ∃ (o2 o3 o4 o5 o6 : Option D), e = [some (encB b), some (.ref 0), o2, o3, o4, o5, o6] ∧ st = [.lst ((pre.map (plainR b)).map encR)])
    (madeW b) [] [some (encB b), some (.ref 0), none, none, none, none, none] [.lst []] ⟨none, none, none, none, none, rfl, rfl⟩
    fun p w q e st hpq ⟨o2, o3, o4, o5, o6, he, hst⟩ => by
      subst he hst
      obtain ⟨ns, sp, en, br, hm⟩ := (made_mem hb.nd).mp (show w ∈ madeW b by rw [List.nil_append] at hpq; rw [hpq]; simp)
      have hpl : p.length ≤ 6 := by
        have h1 := congrArg List.length hpq
        have h2 := madeW_len b
        simp at h1
        omega
      have hc := compL_map pairD (n0 := 1) (g := gTup [gName 5, gName 6]) (r := rTup (aCons (rVar 5) (aCons (rOrT (rP m_stands (aCons (rVar 0) (aCons (rVar 6) (aNil)))) (rVar 6)) (aNil)))) (e := [some (encB b), some (.ref 0), some (.str w), some (encM (.made ns sp en br)), o4, none, none]) (st := [.lst ((p.map (plainR b)).map encR)]) rfl (fun q => pairD (q.1, orS b q.2)) ns fun q _ => ⟨[some (encB b), some (.ref 0), some (.str w), some (encM (.made ns sp en br)), o4, some (.str q.1), some (.str q.2)], by simp [pairD], by
        have := orT_stand hb q.2 (rVar 6) [some (encB b), some (.ref 0), some (.str w), some (encM (.made ns sp en br)), o4, some (.str q.1), some (.str q.2)] [.lst ((p.map (plainR b)).map encR)] (by simp)
        simp only [rTup_ap, aCons_ap, rVar_ap, List.getElem?_cons_zero, List.getElem?_cons_succ, rVal_some, Res.bd_ok, rOrT_ap, rP_ap, aNil_ap, List.all_cons, List.all_nil, bel_encB, bel_str, Bool.and_self, if_true, m_stand hb.len, PRes.toR_ok, this]
        simp [pairD]⟩
      have e1 : ns.map (fun q => pairD (q.1, orS b q.2)) = (ns.map fun q => (q.1, orS b q.2)).map pairD := by rw [List.map_map]; rfl
      rw [e1] at hc
      have hcut := cut_madeE ns sp en br
      have hpr : plainR b w = (w, .made (ns.map fun q => (q.1, orS b q.2)) sp en br) := by unfold plainR; rw [hm]; rfl
      refine ⟨[some (encB b), some (.ref 0), some (.str w), o3, o4, o5, o6], [some (encB b), some (.ref 0), some (.str w), some (encM (.made ns sp en br)), some (.lst ((ns.map fun q => (q.1, orS b q.2)).map pairD)), o5, o6], [.lst (((p ++ [w]).map (plainR b)).map encR)], by simp, ?_, rfl, _, _, _, _, _, rfl, rfl⟩
      rw [List.map_append, List.map_append]
      simp only [List.map_cons, List.map_nil, hpr]
      generalize (ns.map fun q => (q.1, orS b q.2)) = ns' at hc ⊢
      have hPl : (p.map (plainR b)).length ≤ 6 := by simpa using hpl
      generalize p.map (plainR b) = P at hc hPl ⊢
      simp only [encM] at hc
      simp [lp_plain_1, m_maker, hm, encM, hc, hcut, encR, show P.length < 16777216 by omega]
  subst he hst
  have hbl := bel_encB 0 (plainB b)
  have hpl : D.tup (((madeW b).map (plainR b)).map encR) = encB (plainB b) := by rw [plainB_eq hb]; rfl
  simp only [List.nil_append] at hf
  generalize ((madeW b).map (plainR b)).map encR = M at hf hpl
  refine pureOf_rt (st := [.lst M]) (d := encB (plainB b)) rfl ?_ (by unfold encB at hbl ⊢; simp only [frz, frz0, hbl, if_true])
  simp [run_plain, m_chk hb, m_pmade, hf, hpl]
theorem m_told3 {b : Bks} (hb : OkB b) {w : Str} (h : Word w) : m_law_told_two_k03 [.glo "stands_for", encB b, .str w] = .ok (optS (standS b w)) := by
  refine pureOf_rt (st := []) (d := optS (standS b w)) rfl ?_ (by cases standS b w <;> simp [frz, frz0, optS])
  refine told_ok ?_
  simp [rLoc, tab_law_told_two_k03, m_standF hb h]
theorem m_told3b {b : Bks} (hb : OkB b) {d : D} (h : BadW d) : m_law_told_two_k03 [.glo "stands_for", encB b, d] = .ok (refD 0) := by
  refine pureOf_rt (st := []) (d := refD 0) rfl ?_ (by simp [frz, frz0, refD])
  refine told_exn (C := "NoWant") ?_ rfl (by simp)
  simp [rLoc, tab_law_told_two_k03, m_standBad hb h, h.1]
theorem m_told3p {b : Bks} (hb : OkB b) : m_law_told_k03 [.glo "plain", encB b] = .ok (encB (plainB b)) := by
  have hbl := bel_encB 0 (plainB b)
  refine pureOf_rt (st := []) (d := encB (plainB b)) rfl ?_ (by unfold encB at hbl ⊢; simp only [frz, frz0, hbl, if_true])
  refine told_ok ?_
  simp [rLoc, tab_law_told_k03, m_pplain hb]
theorem okD_optS (n : Nat) (o : Option Str) : okD n (optS o) = true := by cases o <;> simp [optS]
theorem k03_l1 {b : Bks} (hb : OkB b) (v0 v3 v4 v5 v6 v7 v8 : Option D) : ∀ (ws : List Str) (o2 : Option D), (∀ w ∈ ws, Word w) → ∃ o2',
    forL 0 (gName 2) lp_law_k03_1 (ws.map .str) [v0, some (encB b), o2, v3, v4, v5, v6, v7, v8] [] = .nx [v0, some (encB b), o2', v3, v4, v5, v6, v7, v8] []
  | [], o2, _ => ⟨o2, rfl⟩
  | w :: ws, o2, h => by
    obtain ⟨o2', g⟩ := k03_l1 hb v0 v3 v4 v5 v6 v7 v8 ws (some (.str w)) fun x hx => h x (List.mem_cons_of_mem _ hx)
    refine ⟨o2', ?_⟩
    have hne : fNe (optS (standS b w)) (optS (standS b w)) [] = .ok (.bl false) [] := fNe_self (by cases standS b w <;> rfl) (okD_optS 60 _)
    rw [List.map_cons, forL_nx (n0 := 0) (e1 := [v0, some (encB b), some (.str w), v3, v4, v5, v6, v7, v8]) (e2 := [v0, some (encB b), some (.str w), v3, v4, v5, v6, v7, v8]) (st2 := []) (by simp) (by simp [lp_law_k03_1, m_told3 hb (h w List.mem_cons_self), m_lstands b w (show b.length ≤ 1000 by have := hb.len; omega), hne]) rfl]
    exact g
theorem k03_l2 {b : Bks} (hb : OkB b) (v0 v3 : Option D) (o2 o5 o6 o7 o8 : Option D) : ∃ o2' o5' o6' o7' o8',
    forL 1 (gName 2) lp_law_k03_2 ((madeW b).map .str) [v0, some (encB b), o2, v3, some (.ref 0), o5, o6, o7, o8] [.lst []] = .nx [v0, some (encB b), o2', v3, some (.ref 0), o5', o6', o7', o8'] [.lst (((madeW b).map (plainR b)).map encR)] := by
  have hb6 := hb.len
  obtain ⟨e', st', hf, o2', o5', o6', o7', o8', he, hst⟩ := forL_inv (n0 := 1) (g := gName 2) (b := lp_law_k03_2) D.str
    (fun pre e st => ∃ (o2 o5 o6 o7 o8 : Option D), e = [v0, some (encB b), o2, v3, some (.ref 0), o5, o6, o7, o8] ∧ st = [.lst ((pre.map (plainR b)).map encR)])
    (madeW b) [] [v0, some (encB b), o2, v3, some (.ref 0), o5, o6, o7, o8] [.lst []] ⟨o2, o5, o6, o7, o8, rfl, rfl⟩
    fun p w q e st hpq ⟨o2, o5, o6, o7, o8, he, hst⟩ => by
      subst he hst
      obtain ⟨ns, sp, en, br, hm⟩ := (made_mem hb.nd).mp (show w ∈ madeW b by rw [List.nil_append] at hpq; rw [hpq]; simp)
      have hmk := m_lmaker b w (show b.length ≤ 1000 by omega)
      rw [hm] at hmk
      have hpl : p.length ≤ 6 := by
        have h1 := congrArg List.length hpq
        have h2 := madeW_len b
        simp at h1
        omega
      have hc := compL_map pairD (n0 := 1) (g := gTup [gName 7, gName 8]) (r := rTup (aCons (rVar 7) (aCons (rOrT (rP m_law_stands (aCons (rVar 1) (aCons (rVar 8) (aNil)))) (rVar 8)) (aNil)))) (e := [v0, some (encB b), some (.str w), v3, some (.ref 0), some (encM (.made ns sp en br)), o6, none, none]) (st := [.lst ((p.map (plainR b)).map encR)]) rfl (fun q => pairD (q.1, orS b q.2)) ns fun q _ => ⟨[v0, some (encB b), some (.str w), v3, some (.ref 0), some (encM (.made ns sp en br)), o6, some (.str q.1), some (.str q.2)], by simp [pairD], by
        have := orT_stand hb q.2 (rVar 8) [v0, some (encB b), some (.str w), v3, some (.ref 0), some (encM (.made ns sp en br)), o6, some (.str q.1), some (.str q.2)] [.lst ((p.map (plainR b)).map encR)] (by simp)
        simp only [rTup_ap, aCons_ap, rVar_ap, List.getElem?_cons_zero, List.getElem?_cons_succ, rVal_some, Res.bd_ok, rOrT_ap, rP_ap, aNil_ap, List.all_cons, List.all_nil, bel_encB, bel_str, Bool.and_self, if_true, m_lstands b q.2 (show b.length ≤ 1000 by omega), PRes.toR_ok, this]
        simp [pairD]⟩
      have e1 : ns.map (fun q => pairD (q.1, orS b q.2)) = (ns.map fun q => (q.1, orS b q.2)).map pairD := by rw [List.map_map]; rfl
      rw [e1] at hc
      have hcut := cut_madeE ns sp en br
      have hpr : plainR b w = (w, .made (ns.map fun q => (q.1, orS b q.2)) sp en br) := by unfold plainR; rw [hm]; rfl
      refine ⟨[v0, some (encB b), some (.str w), v3, some (.ref 0), o5, o6, o7, o8], [v0, some (encB b), some (.str w), v3, some (.ref 0), some (encM (.made ns sp en br)), some (.tup ((ns.map fun q => (q.1, orS b q.2)).map pairD)), o7, o8], [.lst (((p ++ [w]).map (plainR b)).map encR)], by simp, ?_, rfl, _, _, _, _, _, rfl, rfl⟩
      rw [List.map_append, List.map_append]
      simp only [List.map_cons, List.map_nil, hpr]
      generalize (ns.map fun q => (q.1, orS b q.2)) = ns' at hc ⊢
      have hPl : (p.map (plainR b)).length ≤ 6 := by simpa using hpl
      generalize p.map (plainR b) = P at hc hPl ⊢
      simp only [encM] at hc
      simp [lp_law_k03_2, hmk, encM, hc, hcut, encR, show P.length < 16777216 by omega]
  subst he hst
  exact ⟨o2', o5', o6', o7', o8', by simpa using hf⟩
theorem m_law_k03_good (ns : List Int) (h : ns.length ≤ 63) : m_law_k03 [.scr ns] = .ok (.bl true) := by
  obtain ⟨b, hc, hb, hpos⟩ := m_case (ns := ns) (k := 20) (by omega)
  have hb6 := hb.len
  obtain ⟨f, hf, hfw⟩ := m_fresh (ns := ns) (k := 2) (by omega)
  have c0 := compL_map encR (n0 := 0) (g := gName 3) (r := rBin fSub2 (rVar 3) (rC (.int 0))) (e := [some (.scr ns), some (encB b), none, none, none, none, none, none, none]) (st := []) rfl (fun r => .str r.1) b fun r _ => ⟨[some (.scr ns), some (encB b), none, some (encR r), none, none, none, none, none], by simp, by simp [encR]⟩
  have e0 : b.map (fun r => D.str r.1) = (names b).map .str := by unfold names; rw [List.map_map]; rfl
  rw [e0] at c0
  obtain ⟨o2, g1⟩ := k03_l1 hb (some (.scr ns)) none none none none none none (names b ++ [f]) none fun w hw => by
    rcases List.mem_append.mp hw with q | q
    · obtain ⟨r, hr, e⟩ := List.mem_map.mp q
      rw [← e]; exact (hb.row r hr).1
    · simp at q; rw [q]; exact hfw
  rw [List.map_append] at g1
  simp only [List.map_cons, List.map_nil] at g1
  obtain ⟨o2', o5, o6, o7, o8, g2⟩ := k03_l2 hb (some (.scr ns)) none o2 none none none none
  have hnl : (names b).length ≤ 6 := by simpa [names] using hb6
  obtain ⟨r0, bt, hb0⟩ : ∃ r0 bt, b = r0 :: bt := by
    cases b with
    | nil => simp at hpos
    | cons r0 bt => exact ⟨r0, bt, rfl⟩
  have hw0 : Word r0.1 := (hb.row r0 (by rw [hb0]; simp)).1
  obtain ⟨d, hd, hbad⟩ := m_badwant (ns := ns) (k := 400) (by omega) hw0
  have hsub : ∀ st : Store, fSub2 (encB b) (.int 0) st = .ok (encR r0) st := fun st => by rw [hb0]; simp [encB]
  have hsub2 : ∀ st : Store, fSub2 (encR r0) (.int 0) st = .ok (.str r0.1) st := fun st => by simp [encR]
  have hpl : D.tup (((madeW b).map (plainR b)).map encR) = encB (plainB b) := by rw [plainB_eq hb]; rfl
  have hne : ∀ st : Store, fNe (encB (plainB b)) (encB (plainB b)) st = .ok (.bl false) st := fun st => fNe_books _
  have heq : ∀ st : Store, fEq (refD 0) (.tup [.str "refused", .int 0]) st = .ok (.bl true) st := fun st => fEq_self rfl (by unfold refD; rw [okD_tup]; simp)
  generalize ((madeW b).map (plainR b)).map encR = M at g2 hpl
  refine pureOf_rt (st := [.lst M]) (d := .bl true) rfl ?_ (by simp [frz, frz0])
  have hit : ∀ st : Store, itAny (encB b) st = .ok (b.map encR) st := fun st => rfl
  simp [run_law_k03, hc, hit, c0, hf, g1, m_lmade, g2, m_told3p hb, hpl, hne, hsub, hsub2, hd, hbad.1, m_told3b hb hbad, heq, show (names b).length + 1 ≤ 16777216 by omega]
end Py

set_option Elab.async false
set_option linter.all false
set_option maxRecDepth 100000
set_option maxHeartbeats 2000000
set_option autoImplicit false
/-! is_want .. are_books of any plain data -/
namespace Py
open PySem
/-- plain data, n deep -/
def pd : Nat → D → Bool
  | 0, _ => true
  | n + 1, d => match d with
    | .non => true
    | .bl _ => true
    | .int _ => true
    | .str _ => true
    | .tup l => l.all (pd n)
    | .lst l => l.all (pd n)
    | _ => false
section
variable (n : Nat)
@[simp] theorem pd_0 (d : D) : pd 0 d = true := rfl
@[simp] theorem pd_non : pd (n + 1) .non = true := rfl
@[simp] theorem pd_bl (b : Bool) : pd (n + 1) (.bl b) = true := rfl
@[simp] theorem pd_int (b : Int) : pd (n + 1) (.int b) = true := rfl
@[simp] theorem pd_str (b : Str) : pd (n + 1) (.str b) = true := rfl
@[simp] theorem pd_tup (b : List D) : pd (n + 1) (.tup b) = b.all (pd n) := rfl
@[simp] theorem pd_lst (b : List D) : pd (n + 1) (.lst b) = b.all (pd n) := rfl
end
theorem pd_less : ∀ (n : Nat) (d : D), pd (n + 1) d = true → pd n d = true
  | 0, d, _ => rfl
  | n + 1, d, h => by
    cases d with
    | non => rfl
    | bl b => rfl
    | int b => rfl
    | str b => rfl
    | tup l => exact List.all_eq_true.mpr fun x hx => pd_less n x (List.all_eq_true.mp h x hx)
    | lst l => exact List.all_eq_true.mpr fun x hx => pd_less n x (List.all_eq_true.mp h x hx)
    | _ => cases h
theorem pd_le {n m : Nat} (h : m ≤ n) {d : D} (hd : pd n d = true) : pd m d = true := by
  induction n with
  | zero => have : m = 0 := by omega
            subst this; rfl
  | succ n ih =>
    by_cases e : m = n + 1
    · subst e; exact hd
    · exact ih (by omega) (pd_less n d hd)
def wantD : D → Bool
  | .str z => isWord z
  | _ => false
def oneD (l : List Str) : D → Bool
  | .str z => decide (z ∈ l)
  | _ => false
def betD : D → Bool
  | .int i => decide (0 ≤ i) && decide (i ≤ 3)
  | _ => false
def blD : D → Bool
  | .bl _ => true
  | _ => false
def needD : D → Bool
  | .tup [h, w] => oneD hows h && wantD w
  | _ => false
def madeD : List D → Bool
  | [.tup l, sp, en, br] => decide (l.length ≤ 3) && (l.all needD && oneD spans sp) && (blD en && betD br)
  | _ => false
def asD' : List D → Bool
  | [w] => wantD w
  | _ => false
def makerD : D → Bool
  | .tup (.str z :: r) => if z = "as" then asD' r else if z = "made" then madeD r else false
  | _ => false
def rowD' : D → Bool
  | .tup [w, m] => wantD w && makerD m
  | _ => false
def isStrD : D → Bool
  | .str _ => true
  | _ => false
def isTupD : D → Bool
  | .tup _ => true
  | _ => false
def isIntD : D → Bool
  | .int _ => true
  | .bl _ => true
  | _ => false
section
variable {st : Store}
theorem isiD_str {d : D} (h : pd 1 d = true) : fIsi [d, .ty "str"] st = .ok (.bl (isStrD d)) st := by
  cases d <;> first | rfl | cases h
theorem isiD_tup {d : D} (h : pd 1 d = true) : fIsi [d, .ty "tuple"] st = .ok (.bl (isTupD d)) st := by
  cases d <;> first | rfl | cases h
theorem isiD_bool {d : D} (h : pd 1 d = true) : fIsi [d, .ty "bool"] st = .ok (.bl (blD d)) st := by
  cases d <;> first | rfl | cases h
theorem isiD_int {d : D} (h : pd 1 d = true) : fIsi [d, .ty "int"] st = .ok (.bl (isIntD d)) st := by
  cases d <;> first | rfl | cases h
end
theorem want_no {d : D} (h : pd 1 d = true) (q : isStrD d = false) : m_is_want [d] = .ok (.bl false) := by
  have hi := fun st => isiD_str (st := st) h
  exact pureOf_rt (st := []) (d := .bl false) rfl (by simp [run_is_want, hi, q]) (by simp [frz, frz0])
theorem want_t {d : D} (h : pd 1 d = true) : m_is_want [d] = .ok (.bl (wantD d)) := by
  cases d with
  | str z => exact m_want z
  | _ => first | (cases h; done) | exact want_no h rfl
theorem one_no {d x : D} (h : pd 1 d = true) (q : isStrD d = false) : m_is_one_of [d, x] = .ok (.bl false) := by
  have hi := fun st => isiD_str (st := st) h
  exact pureOf_rt (st := []) (d := .bl false) rfl (by simp [run_is_one_of, hi, q]) (by simp [frz, frz0])
theorem oneK_t {d : D} (h : pd 1 d = true) (l : List Str) : m_is_one_of [d, .ktup l] = .ok (.bl (oneD l d)) := by
  cases d with
  | str z => exact m_oneK z l
  | _ => first | (cases h; done) | exact one_no h rfl
theorem oneT_t {d : D} (h : pd 1 d = true) (l : List Str) : m_is_one_of [d, .tup (l.map .str)] = .ok (.bl (oneD l d)) := by
  cases d with
  | str z => exact m_oneT z l
  | _ => first | (cases h; done) | exact one_no h rfl
theorem bet_no {d : D} (h : pd 1 d = true) (q : isIntD d = false ∨ blD d = true) : m_is_between [d, .int 0, .int 3] = .ok (.bl false) := by
  have hi := fun st => isiD_int (st := st) h
  have hb := fun st => isiD_bool (st := st) h
  refine pureOf_rt (st := []) (d := .bl false) rfl ?_ (by simp [frz, frz0])
  rcases q with q | q
  · simp [run_is_between, hi, q]
  · cases q2 : isIntD d <;> simp [run_is_between, hi, hb, q, q2]
theorem bet_t {d : D} (h : pd 1 d = true) : m_is_between [d, .int 0, .int 3] = .ok (.bl (betD d)) := by
  cases d with
  | int z => exact m_between
  | _ => first | (cases h; done) | exact bet_no h (.inl rfl) | exact bet_no h (.inr rfl)
theorem need_t {d : D} (h : pd 2 d = true) (hb : bel 0 d = true) : m_is_need [d] = .ok (.bl (needD d)) := by
  have no : isTupD d = false → m_is_need [d] = .ok (.bl false) := fun q => by
    have hi := fun st => isiD_tup (st := st) (pd_less 1 d h)
    exact pureOf_rt (st := []) (d := .bl false) rfl (by simp [run_is_need, hi, q]) (by simp [frz, frz0])
  cases d with
  | tup l =>
    clear no
    match l, h, hb with
    | [x, y], h, hb =>
      simp at h hb
      have h1 := oneK_t h.1 ["now", "late", "maybe"]
      have h2 := want_t h.2
      refine pureOf_rt (st := []) (d := .bl (needD (.tup [x, y]))) rfl ?_ (by simp [frz, frz0])
      cases q : oneD ["now", "late", "maybe"] x with
      | true => rw [q] at h1; simp [run_is_need, h1, h2, hb.1, hb.2, needD, hows, q]
      | false => rw [q] at h1; simp [run_is_need, h1, hb.1, needD, hows, q]
    | [], h, hb => show m_is_need _ = .ok (.bl false); exact pureOf_rt (st := []) (d := .bl false) rfl (by simp [run_is_need]) (by simp [frz, frz0])
    | [x], h, hb => show m_is_need _ = .ok (.bl false); exact pureOf_rt (st := []) (d := .bl false) rfl (by simp [run_is_need]) (by simp [frz, frz0])
    | x :: y :: z :: r, h, hb =>
      have e : ¬ ((r.length : Int) + 1 + 1 + 1 = 2) := by omega
      show m_is_need _ = .ok (.bl false)
      exact pureOf_rt (st := []) (d := .bl false) rfl (by simp [run_is_need, e]) (by simp [frz, frz0])
  | _ => first | (cases h; done) | exact no rfl
theorem maker_t {d : D} (h : pd 4 d = true) (hb : bel 0 d = true) : m_is_maker [d] = .ok (.bl (makerD d)) := by
  have no : isTupD d = false → m_is_maker [d] = .ok (.bl false) := fun q => by
    have hi := fun st => isiD_tup (st := st) (pd_le (by omega) h)
    exact pureOf_rt (st := []) (d := .bl false) rfl (by simp [run_is_maker, hi, q]) (by simp [frz, frz0])
  cases d with
  | tup l =>
    clear no
    rw [pd_tup] at h
    rw [bel_tup] at hb
    cases l with
    | nil => show m_is_maker _ = .ok (.bl false); exact pureOf_rt (st := []) (d := .bl false) rfl (by simp [run_is_maker]) (by simp [frz, frz0])
    | cons x r =>
      simp only [List.all_cons, Bool.and_eq_true] at h hb
      have h1 := oneT_t (pd_le (m := 1) (by omega) h.1) ["as", "made"]
      simp only [List.map_cons, List.map_nil] at h1
      have hl0 : ¬ ((r.length : Int) + 1 = 0) := by omega
      have hbx : bel 0 x = true := hb.1
      cases q : oneD ["as", "made"] x with
      | false =>
        rw [q] at h1
        have e0 : makerD (.tup (x :: r)) = false := by
          cases x with
          | str z =>
            have q1 : ¬ (z = "as") := fun e => by rw [e] at q; simp [oneD] at q
            have q2 : ¬ (z = "made") := fun e => by rw [e] at q; simp [oneD] at q
            show (if z = "as" then _ else if z = "made" then _ else false) = false
            rw [if_neg q1, if_neg q2]
          | _ => rfl
        rw [e0]
        exact pureOf_rt (st := []) (d := .bl false) rfl (by simp [run_is_maker, hl0, h1, hbx]) (by simp [frz, frz0])
      | true =>
        rw [q] at h1
        obtain ⟨z, rfl, hz⟩ : ∃ z, x = .str z ∧ (z = "as" ∨ z = "made") := by
          cases x with
          | str z => exact ⟨z, rfl, by simpa [oneD] using q⟩
          | _ => cases q
        rcases hz with rfl | rfl
        · have e0 : makerD (.tup (.str "as" :: r)) = asD' r := rfl
          rw [e0]
          match r, h, hb with
          | [w], h, hb =>
            simp at h hb
            have h2 := want_t (pd_le (m := 1) (by omega) h)
            show m_is_maker _ = .ok (.bl (wantD w))
            exact pureOf_rt (st := []) (d := .bl (wantD w)) rfl (by simp [run_is_maker, h1, h2, hb]) (by simp [frz, frz0])
          | [], h, hb => show m_is_maker _ = .ok (.bl false); exact pureOf_rt (st := []) (d := .bl false) rfl (by simp [run_is_maker, h1]) (by simp [frz, frz0])
          | a :: b :: r, h, hb =>
            have e1 : ¬ ((r.length : Int) + 1 + 1 + 1 = 2) := by omega
            have e2 : ¬ ((r.length : Int) + 1 + 1 + 1 = 0) := by omega
            show m_is_maker _ = .ok (.bl false)
            exact pureOf_rt (st := []) (d := .bl false) rfl (by simp [run_is_maker, h1, e1, e2]) (by simp [frz, frz0])
        · have e0 : makerD (.tup (.str "made" :: r)) = madeD r := rfl
          rw [e0]
          have h2 := h.2
          have hb2 := hb.2
          by_cases hl : r.length = 4
          · match r, hl, h2, hb2 with
            | [y, sp, en, br], _, h2, hb2 =>
              simp only [List.all_cons, List.all_nil, Bool.and_true, Bool.and_eq_true] at h2 hb2
              obtain ⟨p1, p2, p3, p4⟩ := h2
              obtain ⟨b1, b2, b3, b4⟩ := hb2
              have k1 := fun st => isiD_tup (st := st) (pd_le (m := 1) (by omega) p1)
              have k2 := oneK_t (pd_le (m := 1) (by omega) p2) ["one", "scope", "each"]
              have k3 := fun st => isiD_bool (st := st) (pd_le (m := 1) (by omega) p3)
              have k4 := bet_t (pd_le (m := 1) (by omega) p4)
              by_cases hy : isTupD y = true
              · obtain ⟨l, rfl⟩ : ∃ l, y = .tup l := by
                  cases y with
                  | tup l => exact ⟨l, rfl⟩
                  | _ => cases hy
                rw [pd_tup] at p1
                rw [bel_tup] at b1
                have e1 : madeD [.tup l, sp, en, br] = (decide (l.length ≤ 3) && (l.all needD && oneD spans sp) && (blD en && betD br)) := rfl
                rw [e1]
                refine pureOf_rt (st := []) (d := .bl (decide (l.length ≤ 3) && (l.all needD && oneD spans sp) && (blD en && betD br))) rfl ?_ (by simp [frz, frz0])
                by_cases hl3 : l.length ≤ 3
                · have hn3 : ¬ ((3 : Int) < l.length) := by omega
                  have hc := compL_map (fun d : D => d) (n0 := 0) (g := gName 1) (r := rP m_is_need (aCons (rVar 1) (aNil))) (e := [some (.tup [.str "made", .tup l, sp, en, br]), none]) (st := []) rfl (fun d => .bl (needD d)) l fun d hd => ⟨[some (.tup [.str "made", .tup l, sp, en, br]), some d], by simp, by
                    have hbd := List.all_eq_true.mp b1 d hd
                    have := need_t (List.all_eq_true.mp p1 d hd) hbd
                    simp [this, hbd]⟩
                  rw [List.map_id'] at hc
                  have hab := asBools_map needD l
                  have hall : (l.map needD).all id = l.all needD := by rw [List.all_map]; rfl
                  cases qn : l.all needD with
                  | false => rw [qn] at hall; simp [run_is_maker, h1, hn3, hc, hab, hall, hl3]
                  | true =>
                    rw [qn] at hall
                    cases qs : oneD spans sp with
                    | false => rw [show oneD ["one", "scope", "each"] sp = false from qs] at k2; simp [run_is_maker, h1, hn3, hc, hab, hall, hl3, k2, b2]
                    | true =>
                      rw [show oneD ["one", "scope", "each"] sp = true from qs] at k2
                      cases qe : blD en with
                      | false => simp [run_is_maker, h1, hn3, hc, hab, hall, hl3, k2, b2, k3, qe]
                      | true => simp [run_is_maker, h1, hn3, hc, hab, hall, hl3, k2, b2, k3, qe, k4, b4]
                · have hn3 : ((3 : Int) < l.length) := by omega
                  simp [run_is_maker, h1, hn3, hl3]
              · have e1 : madeD [y, sp, en, br] = false := by
                  cases y with
                  | tup l => exact absurd rfl hy
                  | _ => rfl
                rw [e1]
                have hy' : isTupD y = false := by simpa using hy
                exact pureOf_rt (st := []) (d := .bl false) rfl (by simp [run_is_maker, h1, k1, hy']) (by simp [frz, frz0])
          · have e1 : madeD r = false := by
              match r, hl with
              | [], _ => rfl
              | [a], _ => cases a <;> rfl
              | [a, b], _ => cases a <;> rfl
              | [a, b, c], _ => cases a <;> rfl
              | [a, b, c, d], h => exact absurd rfl h
              | a :: b :: c :: d :: e :: r, _ => cases a <;> rfl
            rw [e1]
            have hl5 : ¬ ((r.length : Int) + 1 = 5) := by omega
            exact pureOf_rt (st := []) (d := .bl false) rfl (by simp [run_is_maker, h1, hl0, hl5]) (by simp [frz, frz0])
  | _ => first | (cases h; done) | exact no rfl
end Py

set_option Elab.async false
set_option linter.all false
set_option maxRecDepth 100000
set_option maxHeartbeats 2000000
set_option autoImplicit false
/-! are_books of any plain data -/
namespace Py
open PySem
theorem wantD_w {d : D} (h : wantD d = true) : ∃ w, d = .str w ∧ Word w := by
  cases d with
  | str z => exact ⟨z, rfl, isWord_iff.mp h⟩
  | _ => cases h
theorem oneD_w {l : List Str} {d : D} (h : oneD l d = true) : ∃ w, d = .str w ∧ w ∈ l := by
  cases d with
  | str z => exact ⟨z, rfl, of_decide_eq_true h⟩
  | _ => cases h
theorem needD_p {d : D} (h : needD d = true) : ∃ p : Str × Str, d = pairD p ∧ p.1 ∈ hows ∧ Word p.2 := by
  cases d with
  | tup l =>
    match l, h with
    | [x, y], h =>
      have h' : (oneD hows x && wantD y) = true := h
      simp only [Bool.and_eq_true] at h'
      obtain ⟨a, rfl, ha⟩ := oneD_w h'.1
      obtain ⟨b, rfl, hb⟩ := wantD_w h'.2
      exact ⟨(a, b), rfl, ha, hb⟩
    | [], h => cases h
    | [x], h => cases h
    | x :: y :: z :: r, h => cases h
  | _ => cases h
theorem needs_p : ∀ l : List D, l.all needD = true → ∃ ns : List (Str × Str), l = ns.map pairD ∧ ∀ p ∈ ns, p.1 ∈ hows ∧ Word p.2
  | [], _ => ⟨[], rfl, fun _ h => by cases h⟩
  | d :: l, h => by
    simp only [List.all_cons, Bool.and_eq_true] at h
    obtain ⟨p, rfl, hp⟩ := needD_p h.1
    obtain ⟨ns, rfl, hn⟩ := needs_p l h.2
    exact ⟨p :: ns, rfl, fun x hx => by
      rcases List.mem_cons.mp hx with rfl | hx
      · exact hp
      · exact hn x hx⟩
theorem makerD_m {d : D} (h : makerD d = true) : ∃ m, d = encM m ∧ OkM m := by
  cases d with
  | tup l =>
    cases l with
    | nil => cases h
    | cons x r =>
      cases x with
      | str z =>
        have h' : (if z = "as" then asD' r else if z = "made" then madeD r else false) = true := h
        by_cases h1 : z = "as"
        · rw [if_pos h1] at h'
          match r, h' with
          | [y], h' =>
            obtain ⟨w, rfl, hw⟩ := wantD_w h'
            exact ⟨.as w, by rw [h1]; rfl, hw⟩
          | [], h' => cases h'
          | a :: b :: r, h' => cases h'
        · rw [if_neg h1] at h'
          by_cases h2 : z = "made"
          · rw [if_pos h2] at h'
            match r, h' with
            | [y, sp, en, br], h' =>
              cases y with
              | tup l =>
                have h3 : (decide (l.length ≤ 3) && (l.all needD && oneD spans sp) && (blD en && betD br)) = true := h'
                simp only [Bool.and_eq_true, decide_eq_true_eq] at h3
                obtain ⟨⟨a1, a2, a3⟩, a4, a5⟩ := h3
                obtain ⟨ns, rfl, hn⟩ := needs_p l a2
                obtain ⟨s, rfl, hs⟩ := oneD_w a3
                obtain ⟨e, rfl⟩ : ∃ e, en = .bl e := by
                  cases en with
                  | bl e => exact ⟨e, rfl⟩
                  | _ => cases a4
                obtain ⟨i, rfl, hi⟩ : ∃ i, br = .int i ∧ 0 ≤ i ∧ i ≤ 3 := by
                  cases br with
                  | int i =>
                    have a5' : (decide (0 ≤ i) && decide (i ≤ 3)) = true := a5
                    simp only [Bool.and_eq_true, decide_eq_true_eq] at a5'
                    exact ⟨i, rfl, a5'⟩
                  | _ => cases a5
                exact ⟨.made ns s e i, by rw [h2]; rfl, by simpa using a1, hn, hs, hi.1, hi.2⟩
              | _ => cases h'
            | [], h' => cases h'
            | [a], h' => cases a <;> cases h'
            | [a, b], h' => cases a <;> cases h'
            | [a, b, c], h' => cases a <;> cases h'
            | a :: b :: c :: d :: e :: r, h' => cases a <;> cases h'
          · rw [if_neg h2] at h'
            cases h'
      | _ => cases h
  | _ => cases h
theorem makerD_enc {m : Mk} (h : OkM m) : makerD (encM m) = true := by
  have h1 := m_mk h
  have h2 : bel 0 (encM m) = true := bel_encM 0 m
  have h3 : pd 4 (encM m) = true := by
    cases m with
    | as w => rfl
    | made ns sp en br =>
      simp [encM]
      intro a b _
      simp [pairD]
  rw [maker_t h3 h2] at h1
  injection h1 with h1
  injection h1
theorem pd_encM (n : Nat) (m : Mk) : pd n (encM m) = true := by
  refine pd_le (n := n + 4) (by omega) ?_
  cases m with
  | as w => simp [encM]
  | made ns sp en br => simp [encM, pairD]
theorem pd_encR (n : Nat) (r : Str × Mk) : pd n (encR r) = true := by
  refine pd_le (n := n + 1) (by omega) ?_
  cases n with
  | zero => simp [encR]
  | succ n => simp [encR, pd_encM]
theorem row_t {d : D} (h : pd 5 d = true) (hb : bel 0 d = true) : m_is_row [d] = .ok (.bl (rowD' d)) := by
  have no : isTupD d = false → m_is_row [d] = .ok (.bl false) := fun q => by
    have hi := fun st => isiD_tup (st := st) (pd_le (by omega) h)
    exact pureOf_rt (st := []) (d := .bl false) rfl (by simp [run_is_row, hi, q]) (by simp [frz, frz0])
  cases d with
  | tup l =>
    clear no
    match l, h, hb with
    | [x, y], h, hb =>
      simp at h hb
      have h1 := want_t (pd_le (m := 1) (by omega) h.1)
      have h2 := maker_t h.2 hb.2
      have e0 : rowD' (.tup [x, y]) = (wantD x && makerD y) := rfl
      rw [e0]
      refine pureOf_rt (st := []) (d := .bl (wantD x && makerD y)) rfl ?_ (by simp [frz, frz0])
      cases q : wantD x with
      | true => rw [q] at h1; simp [run_is_row, h1, h2, hb.1, hb.2]
      | false => rw [q] at h1; simp [run_is_row, h1, hb.1]
    | [], h, hb => show m_is_row _ = .ok (.bl false); exact pureOf_rt (st := []) (d := .bl false) rfl (by simp [run_is_row]) (by simp [frz, frz0])
    | [x], h, hb => show m_is_row _ = .ok (.bl false); exact pureOf_rt (st := []) (d := .bl false) rfl (by simp [run_is_row]) (by simp [frz, frz0])
    | x :: y :: z :: r, h, hb =>
      have e : ¬ ((r.length : Int) + 1 + 1 + 1 = 2) := by omega
      show m_is_row _ = .ok (.bl false)
      exact pureOf_rt (st := []) (d := .bl false) rfl (by simp [run_is_row, e]) (by simp [frz, frz0])
  | _ => first | (cases h; done) | exact no rfl
theorem rowD_r {d : D} (h : rowD' d = true) : ∃ r, d = encR r ∧ Word r.1 ∧ OkM r.2 := by
  cases d with
  | tup l =>
    match l, h with
    | [x, y], h =>
      have h' : (wantD x && makerD y) = true := h
      simp only [Bool.and_eq_true] at h'
      obtain ⟨w, rfl, hw⟩ := wantD_w h'.1
      obtain ⟨m, rfl, hm⟩ := makerD_m h'.2
      exact ⟨(w, m), rfl, hw, hm⟩
    | [], h => cases h
    | [x], h => cases h
    | x :: y :: z :: r, h => cases h
  | _ => cases h
theorem rowD_enc {r : Str × Mk} (h : Word r.1 ∧ OkM r.2) : rowD' (encR r) = true := by
  show (wantD (.str r.1) && makerD (encM r.2)) = true
  rw [makerD_enc h.2]
  show (isWord r.1 && true) = true
  rw [isWord_iff.mpr h.1]; rfl
theorem rows_r : ∀ l : List D, l.all rowD' = true → ∃ b : Bks, l = b.map encR ∧ ∀ r ∈ b, Word r.1 ∧ OkM r.2
  | [], _ => ⟨[], rfl, fun _ h => by cases h⟩
  | d :: l, h => by
    simp only [List.all_cons, Bool.and_eq_true] at h
    obtain ⟨p, rfl, hp⟩ := rowD_r h.1
    obtain ⟨ns, rfl, hn⟩ := rows_r l h.2
    exact ⟨p :: ns, rfl, fun x hx => by
      rcases List.mem_cons.mp hx with rfl | hx
      · exact hp
      · exact hn x hx⟩
/-- neighbours rise -/
def risK (b : Bks) (k : Nat) : Bool := ltS (names b)[k]! (names b)[k + 1]!
def risesB (b : Bks) : Bool := (List.range (b.length - 1)).all (risK b)
theorem lt_tr {x y z : Str} (h1 : ltS x y = true) (h2 : ltS y z = true) : ltS x z = true := by
  unfold ltS at *
  simp only [decide_eq_true_eq] at *
  exact List.lt_trans h1 h2
theorem rises_iff (b : Bks) : risesB b = true ↔ (names b).Pairwise fun x y => ltS x y = true := by
  have hl : (names b).length = b.length := by simp [names]
  unfold risesB
  rw [List.all_eq_true]
  constructor
  · intro h
    have key : ∀ l : List Str, (∀ k, k + 1 < l.length → ltS l[k]! l[k + 1]! = true) → l.Pairwise fun x y => ltS x y = true := by
      intro l
      induction l with
      | nil => intro _; exact .nil
      | cons x l ih =>
        intro hk
        have ih' := ih fun k hk' => by
          have := hk (k + 1) (by simp; omega)
          simpa using this
        refine List.pairwise_cons.mpr ⟨fun y hy => ?_, ih'⟩
        cases l with
        | nil => cases hy
        | cons z l =>
          have h0 := hk 0 (by simp)
          simp at h0
          rcases List.mem_cons.mp hy with rfl | hy
          · exact h0
          · exact lt_tr h0 ((List.pairwise_cons.mp ih').1 y hy)
    exact key _ fun k hk => h k (by simp; omega)
  · intro h k hk
    simp at hk
    have := List.pairwise_iff_getElem.mp h k (k + 1) (by omega) (by omega) (by omega)
    unfold risK
    rw [getElem!_pos (names b) k (by omega), getElem!_pos (names b) (k + 1) (by omega)]
    exact this
theorem books_rows {b : Bks} (hl : b.length ≤ 6) (hr : ∀ r ∈ b, Word r.1 ∧ OkM r.2) : m_are_books [encB b] = .ok (.bl (risesB b)) := by
  refine pureOf_rt (st := []) (d := .bl (risesB b)) rfl ?_ (by simp [frz, frz0])
  have hc := compL_map encR (n0 := 0) (g := gName 1) (r := rP m_is_row (aCons (rVar 1) (aNil))) (e := [some (encB b), none, none]) (st := []) rfl (fun p => .bl true) b fun p hp => ⟨[some (encB b), some (encR p), none], by simp, by simp [m_row (hr p hp)]⟩
  have hc2 := compL_map (fun k : Nat => D.int (k : Int)) (n0 := 0) (g := gName 2) (r := rBin fLt (rBin fSub2 (rBin fSub2 (rVar 0) (rVar 2)) (rC (.int 0))) (rBin fSub2 (rBin fSub2 (rVar 0) (rBin fAdd (rVar 2) (rC (.int 1)))) (rC (.int 0)))) (e := [some (encB b), none, none]) (st := []) rfl (fun k => .bl (risK b k)) (List.range (b.length - 1)) fun k hk => by
    have hk' : k + 1 < b.length := by simp at hk; omega
    have e1 : atI (b.map encR) (k : Int) = some (encR b[k]) := by rw [atI_nn, List.getElem?_map, List.getElem?_eq_getElem (by omega)]; rfl
    have e2 : atI (b.map encR) ((k : Int) + 1) = some (encR b[k + 1]) := by
      rw [show ((k : Int) + 1) = ((k + 1 : Nat) : Int) by omega, atI_nn, List.getElem?_map, List.getElem?_eq_getElem hk']; rfl
    have e3 : risK b k = ltS b[k].1 b[k + 1].1 := by
      unfold risK
      have hl : (names b).length = b.length := by simp [names]
      rw [getElem!_pos (names b) k (by omega), getElem!_pos (names b) (k + 1) (by omega)]
      simp [names]
    exact ⟨[some (encB b), none, some (.int k)], by simp, by rw [e3]; simp [encB, e1, e2, encR]⟩
  have k5 := asBools_map (fun _ : Str × Mk => true) b
  have k6 := asBools_map (risK b) (List.range (b.length - 1))
  have k7 : ((List.range (b.length - 1)).map (risK b)).all id = risesB b := by rw [List.all_map]; rfl
  simp only [encB] at hc hc2
  have hlen0 : ¬ (6 : Int) < b.length := by omega
  have hrg : ∀ st : Store, itRng1 [.int ((b.length : Int) - 1)] st = .ok ((List.range (b.length - 1)).map fun k => .int (k : Nat)) st := fun st => by
    by_cases h0 : b.length = 0
    · rw [h0]; rfl
    · rw [itRng1_ok (n := (b.length : Int) - 1) (by omega) (by omega), show ((b.length : Int) - 1).toNat = b.length - 1 by omega]
  simp [run_are_books, encB, hlen0, hc, k5, hrg, hc2, k6, k7, -itRng1_ap]
theorem books_t {d : D} (h : pd 6 d = true) (hb : bel 0 d = true) : (∃ b, d = encB b ∧ OkB b ∧ m_are_books [d] = .ok (.bl true)) ∨ ((∀ b, OkB b → d ≠ encB b) ∧ m_are_books [d] = .ok (.bl false)) := by
  have no : isTupD d = false → (∀ b, OkB b → d ≠ encB b) ∧ m_are_books [d] = .ok (.bl false) := fun q => by
    have hi := fun st => isiD_tup (st := st) (pd_le (by omega) h)
    exact ⟨(fun b _ e => by rw [e] at q; cases q), pureOf_rt (st := []) (d := .bl false) rfl (by simp [run_are_books, hi, q]) (by simp [frz, frz0])⟩
  cases d with
  | tup l =>
    clear no
    rw [pd_tup] at h
    rw [bel_tup] at hb
    by_cases hl : l.length ≤ 6
    · have hl6 : ¬ ((6 : Int) < l.length) := by omega
      cases ha : l.all rowD' with
      | false =>
        refine .inr ⟨fun b hb e => ?_, ?_⟩
        · injection e with e
          rw [e] at ha
          have : (b.map encR).all rowD' = true := by
            rw [List.all_map, List.all_eq_true]
            exact fun r hr => rowD_enc (hb.row r hr)
          rw [this] at ha; cases ha
        · refine pureOf_rt (st := []) (d := .bl false) rfl ?_ (by simp [frz, frz0])
          have hc := compL_map (fun d : D => d) (n0 := 0) (g := gName 1) (r := rP m_is_row (aCons (rVar 1) (aNil))) (e := [some (.tup l), none, none]) (st := []) rfl (fun d => .bl (rowD' d)) l fun d hd => ⟨[some (.tup l), some d, none], by simp, by
            have hbd := List.all_eq_true.mp hb d hd
            have := row_t (List.all_eq_true.mp h d hd) hbd
            simp [this, hbd]⟩
          rw [List.map_id'] at hc
          have hab := asBools_map rowD' l
          have hall : (l.map rowD').all id = false := by rw [List.all_map]; exact ha
          simp [run_are_books, hl6, hc, hab, hall]
      | true =>
        obtain ⟨b, rfl, hr⟩ := rows_r l ha
        have hbl : b.length ≤ 6 := by simpa using hl
        have hm := books_rows hbl hr
        cases hs : risesB b with
        | true => rw [hs] at hm; exact .inl ⟨b, rfl, ⟨hbl, hr, (rises_iff b).mp hs⟩, hm⟩
        | false =>
          rw [hs] at hm
          refine .inr ⟨fun b' hb' e => ?_, hm⟩
          have he : m_are_books [encB b'] = .ok (.bl false) := by rw [← e]; exact hm
          rw [m_books hb'] at he
          cases he
    · refine .inr ⟨fun b hb e => ?_, ?_⟩
      · injection e with e
        rw [e] at hl
        have := hb.len
        simp at hl
        omega
      · have hl6 : ((6 : Int) < l.length) := by omega
        exact pureOf_rt (st := []) (d := .bl false) rfl (by simp [run_are_books, hl6]) (by simp [frz, frz0])
  | _ => first | (cases h; done) | exact .inr (no rfl)
/-- what books are not -/
structure NoB (d : D) : Prop where
  b : bel 0 d = true
  p : pd 6 d = true
  n : ∀ b, OkB b → d ≠ encB b
theorem NoB.are {d : D} (h : NoB d) : m_are_books [d] = .ok (.bl false) := by
  rcases books_t h.p h.b with ⟨b, e, hb, _⟩ | ⟨_, z⟩
  · exact absurd e (h.n b hb)
  · exact z
theorem NoB.chk {d : D} (h : NoB d) : m_checked [d] = .exn "NoBooks" := by
  refine pureOf_exn (e := [some d]) (st := []) rfl ?_
  simp [run_checked, h.are, h.b]
end Py

set_option Elab.async false
set_option linter.all false
set_option maxRecDepth 100000
set_option maxHeartbeats 2000000
set_option autoImplicit false
/-! books as texts, in plain -/
namespace Py
open PySem
def figS (i : Int) : Str := ⟨#[48 + i.toNat]⟩
def needW (ns : List (Str × Str)) : List Str := ns.flatMap fun p => [p.1, p.2]
def endsW (en : Bool) : List Str := if en then ["ends"] else []
def brkW (br : Int) : List Str := if 0 < br then [("breaks" : Str), figS br] else []
def wordsM : Mk → List Str
  | .as v => ["as", v]
  | .made ns sp en br => ("made" : Str) :: sp :: (endsW en ++ (brkW br ++ needW ns))
def rowW (r : Str × Mk) : List Str := r.1 :: wordsM r.2
def rowT (r : Str × Mk) : Str := joinS " " (rowW r)
def textB (b : Bks) : Str := joinS "\n" (b.map rowT)
def splitS (c : Nat) (z : Str) : List Str := (splitC c z.cps.toList).map fun p => ⟨p.toArray⟩
def pairs2 : List Str → List (Str × Str)
  | a :: b :: r => (a, b) :: pairs2 r
  | _ => []
def rdNeeds (ws : List Str) (en : Bool) (br : Int) (k : Nat) : D :=
  if (ws.drop k).length % 2 = 1 then .non else .tup [.str "made", .tup ((pairs2 (ws.drop k)).map pairD), .str (ws[0]?.getD ""), .bl en, .int br]
def figI (z : Str) : Int := match z.cps.toList with
  | [c] => ((c - 48 : Nat) : Int)
  | _ => 0
def rdBrk (ws : List Str) (en : Bool) (k : Nat) : D :=
  if ws[k]? = some ("breaks" : Str) then (match ws[k + 1]? with
    | none => .non
    | some z => if z ∈ (["1", "2", "3"] : List Str) then rdNeeds ws en (figI z) (k + 2) else .non)
  else rdNeeds ws en 0 k
def rdMade (ws : List Str) : D := if ws[1]? = some ("ends" : Str) then rdBrk ws true 2 else rdBrk ws false 1
def rdRow (ws : List Str) : D := match ws with
  | a :: x :: y :: r => if x = "as" then .tup [.str a, .tup (.str "as" :: (y :: r).map .str)] else if x = "made" then .tup [.str a, rdMade (y :: r)] else .non
  | _ => .non
def rdText (z : Str) : D := .tup (if z = "" then [] else (splitS 10 z).map fun p => rdRow (splitS 32 p))
/-! ### split behind join -/
theorem splitC_no {c : Nat} : ∀ {p : List Nat}, c ∉ p → splitC c p = [p]
  | [], _ => rfl
  | x :: r, h => by
    rw [splitC, if_neg (fun e => h (by rw [e]; simp)), splitC_no (p := r) (fun e => h (List.mem_cons_of_mem _ e))]
theorem splitC_app {c : Nat} : ∀ {p r : List Nat}, c ∉ p → splitC c (p ++ c :: r) = p :: splitC c r
  | [], r, _ => by simp [splitC]
  | x :: p, r, h => by
    rw [List.cons_append, splitC, if_neg (fun e => h (by rw [e]; simp)), splitC_app (p := p) (fun e => h (List.mem_cons_of_mem _ e))]
theorem splitC_join {c : Nat} : ∀ {ps : List (List Nat)}, ps ≠ [] → (∀ p ∈ ps, c ∉ p) → splitC c (joinN [c] ps) = ps
  | [], h, _ => absurd rfl h
  | [p], _, h => splitC_no (h p (by simp))
  | p :: q :: r, _, h => by
    show splitC c (p ++ ([c] ++ joinN [c] (q :: r))) = _
    rw [List.singleton_append, splitC_app (h p (by simp)), splitC_join (by simp) fun x hx => h x (List.mem_cons_of_mem _ hx)]
theorem str_of (z : Str) : (⟨z.cps.toList.toArray⟩ : Str) = z := by cases z; rfl
theorem str_ext {x y : Str} (h : x.cps.toList = y.cps.toList) : x = y := by
  rw [← str_of x, ← str_of y, h]
theorem splitS_join {s : Str} {c : Nat} (hs : s.cps.toList = [c]) {ps : List Str} (hn : ps ≠ []) (h : ∀ p ∈ ps, c ∉ p.cps.toList) : splitS c (joinS s ps) = ps := by
  unfold splitS joinS
  rw [hs]
  show ((splitC c (joinN [c] (ps.map fun y => y.cps.toList))).map fun p => (⟨p.toArray⟩ : Str)) = ps
  rw [splitC_join (by simpa using hn) (by
    intro p hp
    obtain ⟨y, hy, rfl⟩ := List.mem_map.mp hp
    exact h y hy), List.map_map]
  exact (List.map_congr_left fun y _ => str_of y).trans (List.map_id _)
theorem sp_cps : (" " : Str).cps.toList = [32] := by decide +kernel
theorem nl_cps : ("\n" : Str).cps.toList = [10] := by decide +kernel
/-! ### what words are made of -/
/-- no blank, no end of a row; not empty; at most eight signs -/
def Wd (w : Str) : Prop := w.cps.toList ≠ [] ∧ w.length ≤ 8 ∧ ∀ c ∈ w.cps.toList, 32 < c
instance (w : Str) : Decidable (Wd w) := by unfold Wd; infer_instance
theorem word_wd {w : Str} (h : Word w) : Wd w := by
  obtain ⟨h1, h2, h3⟩ := h
  refine ⟨fun e => ?_, h2, fun c hc => ?_⟩
  · have := str_len_list w
    rw [e] at this
    simp at this
    omega
  · have := h3 c hc
    unfold Sign at this
    omega
theorem fig_wd {i : Int} (h0 : 0 ≤ i) (h : i ≤ 9) : Wd (figS i) := by
  refine ⟨by simp [figS], by show 1 ≤ 8; omega, fun c hc => ?_⟩
  simp [figS] at hc
  omega
theorem needW_wd {ns : List (Str × Str)} (h : ∀ p ∈ ns, p.1 ∈ hows ∧ Word p.2) : ∀ w ∈ needW ns, Wd w := by
  intro w hw
  unfold needW at hw
  rw [List.mem_flatMap] at hw
  obtain ⟨p, hp, hw⟩ := hw
  simp only [List.mem_cons, List.not_mem_nil, or_false] at hw
  obtain ⟨a, b⟩ := h p hp
  rcases hw with e | e <;> rw [e]
  · unfold hows at a
    simp only [List.mem_cons, List.not_mem_nil, or_false] at a
    rcases a with e | e | e <;> rw [e] <;> decide +kernel
  · exact word_wd b
theorem wordsM_wd {m : Mk} (h : OkM m) : ∀ w ∈ wordsM m, Wd w := by
  intro w hw
  cases m with
  | as v =>
    simp only [wordsM, List.mem_cons, List.not_mem_nil, or_false] at hw
    rcases hw with e | e <;> rw [e]
    · decide +kernel
    · exact word_wd h
  | made ns sp en br =>
    obtain ⟨h1, h2, h3, h4, h5⟩ := h
    simp only [wordsM, List.mem_append, List.mem_cons, endsW, brkW] at hw
    rcases hw with e | e | e | e | e
    · rw [e]; decide +kernel
    · rw [e]
      unfold spans at h3
      simp only [List.mem_cons, List.not_mem_nil, or_false] at h3
      rcases h3 with e | e | e <;> rw [e] <;> decide +kernel
    · split at e
      · simp at e; rw [e]; decide +kernel
      · cases e
    · split at e
      · simp only [List.mem_cons, List.not_mem_nil, or_false] at e
        rcases e with e | e <;> rw [e]
        · decide +kernel
        · exact fig_wd h4 (by omega)
      · cases e
    · exact needW_wd h2 w e
theorem rowW_wd {r : Str × Mk} (h : Word r.1 ∧ OkM r.2) : ∀ w ∈ rowW r, Wd w := by
  intro w hw
  rcases List.mem_cons.mp hw with e | e
  · rw [e]; exact word_wd h.1
  · exact wordsM_wd h.2 w e
theorem needW_len (ns : List (Str × Str)) : (needW ns).length = 2 * ns.length := by
  unfold needW
  induction ns with
  | nil => rfl
  | cons p l ih => rw [List.flatMap_cons, List.length_append, ih]; simp; omega
theorem rowW_len {r : Str × Mk} (h : Word r.1 ∧ OkM r.2) : 3 ≤ (rowW r).length ∧ (rowW r).length ≤ 12 := by
  obtain ⟨w, m⟩ := r
  cases m with
  | as v => exact ⟨by simp [rowW, wordsM], by simp [rowW, wordsM]⟩
  | made ns sp en br =>
    have := h.2.1
    have e := needW_len ns
    simp only [rowW, wordsM, List.length_cons, List.length_append, e, endsW, brkW]
    split <;> split <;> simp <;> omega
theorem joinN_mem' {s : List Nat} {c : Nat} : ∀ {ps : List (List Nat)}, c ∈ joinN s ps → c ∈ s ∨ ∃ p ∈ ps, c ∈ p
  | [], h => by cases h
  | [p], h => .inr ⟨p, by simp, h⟩
  | p :: q :: r, h => by
    have h' : c ∈ p ++ (s ++ joinN s (q :: r)) := h
    rw [List.mem_append, List.mem_append] at h'
    rcases h' with h' | h' | h'
    · exact .inr ⟨p, by simp, h'⟩
    · exact .inl h'
    · rcases joinN_mem' h' with h2 | ⟨p', h2, h3⟩
      · exact .inl h2
      · exact .inr ⟨p', List.mem_cons_of_mem _ h2, h3⟩
theorem joinN_len' (s : List Nat) : ∀ ps : List (List Nat), (joinN s ps).length ≤ (ps.map List.length).sum + ps.length * s.length
  | [] => by simp [joinN]
  | [p] => by simp [joinN]
  | p :: q :: r => by
    have ih := joinN_len' s (q :: r)
    have e : joinN s (p :: q :: r) = p ++ (s ++ joinN s (q :: r)) := rfl
    rw [e, List.length_append, List.length_append]
    simp only [List.map_cons, List.sum_cons, List.length_cons] at ih ⊢
    rw [Nat.succ_mul]
    omega
theorem sum_le {l : List Str} {k : Nat} (h : ∀ w ∈ l, w.length ≤ k) : (l.map fun y => y.length).sum ≤ l.length * k := by
  induction l with
  | nil => simp
  | cons w l ih =>
    have a := h w (by simp)
    have b := ih fun x hx => h x (List.mem_cons_of_mem _ hx)
    simp only [List.map_cons, List.sum_cons, List.length_cons, Nat.succ_mul]
    omega
theorem joinS_len (s : Str) (l : List Str) : (joinS s l).length ≤ (l.map fun y => y.length).sum + l.length * s.length := by
  have := joinN_len' s.cps.toList (l.map fun y => y.cps.toList)
  rw [List.map_map, List.length_map, str_len_list] at this
  have e3 : (joinS s l).length = (joinN s.cps.toList (l.map fun y => y.cps.toList)).length := by
    unfold joinS Str.length; simp
  have e4 : (l.map (List.length ∘ fun y => y.cps.toList)) = l.map fun y => y.length := List.map_congr_left fun y _ => str_len_list y
  rw [e4] at this
  rw [e3]
  exact this
theorem sp_len : (" " : Str).length = 1 := by decide +kernel
theorem nl_len : ("\n" : Str).length = 1 := by decide +kernel
theorem row_sum {r : Str × Mk} (h : Word r.1 ∧ OkM r.2) : ((rowW r).map fun y => y.length).sum ≤ 96 := by
  have a := sum_le (l := rowW r) (k := 8) fun w hw => (rowW_wd h w hw).2.1
  have b := (rowW_len h).2
  omega
theorem rowT_len {r : Str × Mk} (h : Word r.1 ∧ OkM r.2) : (rowT r).length ≤ 108 := by
  have a := joinS_len " " (rowW r)
  have b := row_sum h
  have c := (rowW_len h).2
  rw [sp_len] at a
  unfold rowT
  omega
theorem rowT_no {r : Str × Mk} (h : Word r.1 ∧ OkM r.2) : (10 : Nat) ∉ (rowT r).cps.toList := by
  intro hc
  rcases joinN_mem' (show 10 ∈ joinN (" " : Str).cps.toList ((rowW r).map fun y => y.cps.toList) from hc) with e | ⟨p, hp, e⟩
  · rw [sp_cps] at e; simp at e
  · obtain ⟨y, hy, rfl⟩ := List.mem_map.mp hp
    have := (rowW_wd h y hy).2.2 10 e
    omega
/-- a row's text, split -/
theorem rowT_split {r : Str × Mk} (h : Word r.1 ∧ OkM r.2) : splitS 32 (rowT r) = rowW r :=
  splitS_join sp_cps (by simp [rowW]) fun p hp e => by have := (rowW_wd h p hp).2.2 32 e; omega
theorem textB_len {b : Bks} (h : OkB b) : (textB b).length ≤ 700 := by
  have a := joinS_len "\n" (b.map rowT)
  have c := sum_le (l := b.map rowT) (k := 108) fun w hw => by
    obtain ⟨r, hr, rfl⟩ := List.mem_map.mp hw
    exact rowT_len (h.row r hr)
  have d := h.len
  rw [nl_len, List.length_map] at a
  rw [List.length_map] at c
  unfold textB
  omega
theorem text_split {b : Bks} (h : OkB b) (hn : b ≠ []) : splitS 10 (textB b) = b.map rowT :=
  splitS_join nl_cps (by simpa using hn) fun p hp => by
    obtain ⟨r, hr, rfl⟩ := List.mem_map.mp hp
    exact rowT_no (h.row r hr)
/-! ### read back -/
theorem pairs2_need : ∀ ns : List (Str × Str), pairs2 (needW ns) = ns
  | [] => rfl
  | p :: l => by
    show pairs2 (p.1 :: p.2 :: needW l) = _
    rw [pairs2, pairs2_need l]
theorem need_head {ns : List (Str × Str)} (h : ∀ p ∈ ns, p.1 ∈ hows ∧ Word p.2) {x : Str} (hx : x ∉ hows) : (needW ns)[0]? ≠ some x := by
  cases ns with
  | nil => simp [needW]
  | cons p l =>
    show (p.1 :: p.2 :: needW l)[0]? ≠ _
    simp only [List.getElem?_cons_zero, ne_eq, Option.some.injEq]
    intro e
    exact hx (e ▸ (h p (by simp)).1)
theorem ends_no : ("ends" : Str) ∉ hows := by unfold hows; decide +kernel
theorem brk_no : ("breaks" : Str) ∉ hows := by unfold hows; decide +kernel
theorem figI_S {i : Int} (h : 0 ≤ i) : figI (figS i) = i := by
  show ((48 + i.toNat - 48 : Nat) : Int) = i
  omega
theorem fig_in {i : Int} (h1 : 0 < i) (h2 : i ≤ 3) : figS i ∈ (["1", "2", "3"] : List Str) := by
  have : i = 1 ∨ i = 2 ∨ i = 3 := by omega
  rcases this with e | e | e <;> subst e <;> decide +kernel
theorem rdNeeds_ok {ws pre : List Str} {ns : List (Str × Str)} (e : ws = pre ++ needW ns) {sp : Str} (h0 : ws[0]? = some sp) (en : Bool) (br : Int) : rdNeeds ws en br pre.length = encM (.made ns sp en br) := by
  have hd : ws.drop pre.length = needW ns := by rw [e]; simp
  unfold rdNeeds
  rw [hd, needW_len, if_neg (by omega), pairs2_need, h0]
  rfl
theorem rdBrk_ok {ws pre : List Str} {ns : List (Str × Str)} {br : Int} (hb0 : 0 ≤ br) (hb : br ≤ 3) (hns : ∀ p ∈ ns, p.1 ∈ hows ∧ Word p.2) (e : ws = pre ++ (brkW br ++ needW ns)) {sp : Str} (h0 : ws[0]? = some sp) (en : Bool) : rdBrk ws en pre.length = encM (.made ns sp en br) := by
  unfold rdBrk
  unfold brkW at e
  by_cases h : 0 < br
  · rw [if_pos h] at e
    have e1 : ws[pre.length]? = some ("breaks" : Str) := by rw [e]; simp
    have e2 : ws[pre.length + 1]? = some (figS br) := by rw [e]; simp
    rw [if_pos e1, e2]
    dsimp only
    rw [if_pos (fig_in h hb), figI_S hb0]
    have := rdNeeds_ok (ws := ws) (pre := pre ++ [("breaks" : Str), figS br]) (ns := ns) (by rw [e]; simp) h0 en br
    rw [← this]
    simp
  · rw [if_neg h, List.nil_append] at e
    have e1 : ws[pre.length]? ≠ some ("breaks" : Str) := by
      rw [e, List.getElem?_append_right (Nat.le_refl _), Nat.sub_self]
      exact need_head hns brk_no
    rw [if_neg e1]
    have : br = 0 := by omega
    subst this
    exact rdNeeds_ok e h0 en 0
theorem rdMade_ok {ns : List (Str × Str)} {sp : Str} {en : Bool} {br : Int} (h : OkM (.made ns sp en br)) : rdMade (sp :: (endsW en ++ (brkW br ++ needW ns))) = encM (.made ns sp en br) := by
  obtain ⟨h1, h2, h3, h4, h5⟩ := h
  unfold rdMade
  cases en with
  | true =>
    have e1 : (sp :: (endsW true ++ (brkW br ++ needW ns)))[1]? = some ("ends" : Str) := rfl
    rw [if_pos e1]
    exact rdBrk_ok (pre := [sp, ("ends" : Str)]) h4 h5 h2 rfl rfl true
  | false =>
    have e1 : (sp :: (endsW false ++ (brkW br ++ needW ns)))[1]? ≠ some ("ends" : Str) := by
      show (brkW br ++ needW ns)[0]? ≠ _
      unfold brkW
      split
      · simp only [List.cons_append, List.getElem?_cons_zero, ne_eq, Option.some.injEq]
        decide +kernel
      · rw [List.nil_append]
        exact need_head h2 ends_no
    rw [if_neg e1]
    exact rdBrk_ok (pre := [sp]) h4 h5 h2 rfl rfl false
theorem rdRow_ok {r : Str × Mk} (h : Word r.1 ∧ OkM r.2) : rdRow (rowW r) = encR r := by
  obtain ⟨w, m⟩ := r
  cases m with
  | as v => rfl
  | made ns sp en br =>
    have := rdMade_ok h.2
    show rdRow (w :: ("made" : Str) :: sp :: _) = _
    unfold rdRow
    dsimp only
    have n1 : ¬ (("made" : Str) = "as") := by decide +kernel
    rw [if_neg n1, if_pos rfl, this]
    rfl
/-- what is written is read -/
theorem rdText_ok {b : Bks} (h : OkB b) : rdText (textB b) = encB b := by
  unfold rdText
  cases b with
  | nil => rw [if_pos (by decide +kernel)]; rfl
  | cons r l =>
    have hr := h.row r (by simp)
    have hne : textB (r :: l) ≠ "" := fun e => by
      have := text_split h (by simp)
      rw [e] at this
      have h2 : splitS 10 "" = [("" : Str)] := by decide +kernel
      rw [h2, List.map_cons] at this
      injection this with e1 _
      have h3 := rowT_split hr
      rw [← e1] at h3
      have h4 : splitS 32 "" = [("" : Str)] := by decide +kernel
      rw [h4] at h3
      have := (rowW_len hr).1
      rw [← h3] at this
      simp at this
    rw [if_neg hne, text_split h (by simp), List.map_map]
    unfold encB
    congr 1
    refine List.map_congr_left fun r hr => ?_
    show rdRow (splitS 32 (rowT r)) = encR r
    rw [rowT_split (h.row r hr), rdRow_ok (h.row r hr)]
end Py

set_option linter.all false
set_option maxRecDepth 100000
namespace Py
open PySem

/- chain(books, want)  slots: 0:books 1:want 2:end 3:longest 4:one 5:best 6:other -/
def lp_chain_1 : RS :=
  sIf (tVal (rBin fGt (rCall fLen (aCons (rBin fSub2 (rVar 3) (rVar 6)) (aNil))) (rCall fLen (aCons (rVar 5) (aNil)))))
  (sSet 5 (rBin fSub2 (rVar 3) (rVar 6)))
  (sNx)
def lp_chain_2 : RS :=
  sSeq (sSet 5 (rFrz (lDisp (aNil))))
  (sSeq (sFor (iAny (rP m_held_in (aCons (rVar 0) (aCons (rVar 4) (aNil))))) (gName 6)
  (lp_chain_1))
  (sDPut (rVar 3) (rVar 4) (rBin fAdd (rFrz (lDisp (aCons (rVar 4) (aNil)))) (rVar 5))))
def run_chain : RS :=
  sSeq (sSet 2 (rP m_need_stands (aCons (rVar 0) (aCons (rVar 1) (aNil)))))
  (sSeq (sSet 3 (rDictK))
  (sSeq (sFor (iAny (rBin fSub2 (rP m_parted (aCons (rVar 0) (aNil))) (rC (.int 0)))) (gName 4)
  (lp_chain_2))
  (sRet (rFrz (lCall fList (aCons (rBin fSub2 (rVar 3) (rVar 2)) (aNil)))))))
def m_chain : List D → PRes := pureOf 2 7 run_chain

/- rounds(books, want)  slots: 0:books 1:want 2:made 3:one 4:held 5:number -/
def lp_rounds_1 : RS :=
  sExpr (rMeth isLst fAppend (rVar 2) (aCons (rCall fMax (aCons (rBin fAdd (rFrz (lComp [5] (iAny (rVar 4)) (gName 5) (tVal (rCall fIsi (aCons (rVar 5) (aCons (rC (.ty "int")) (aNil))))) (rBin fAdd (rBin fSub2 (rVar 2) (rVar 5)) (rC (.int 1))))) (rFrz (lDisp (aCons (rC (.int 0)) (aNil))))) (aNil))) (aNil)))
def run_rounds : RS :=
  sSeq (sSet 2 (rNew (lDisp (aNil))))
  (sSeq (sFor (iAny (rP m_plan (aCons (rVar 0) (aCons (rVar 1) (aNil))))) (gTup [gName 3, gName 4])
  (lp_rounds_1))
  (sRet (rVar 2)))
def m_rounds : List D → PRes := pureOf 2 6 run_rounds

/- _law_longest(books, want)  slots: 0:books 1:want 2:other -/
def run_law_longest (W : List D → Store → Res D) : RS :=
  sRet (rBin fAdd (rC (.int 1)) (rCall fMax (aCons (rBin fAdd (rFrz (lComp [2] (iAny (rP m_law_holds (aCons (rVar 0) (aCons (rVar 1) (aNil))))) (gName 2) (tYes) (rCall W (aCons (rVar 0) (aCons (rVar 2) (aNil)))))) (rFrz (lDisp (aCons (rC (.int 0)) (aNil))))) (aNil))))
def m_law_longest : Nat → List D → Store → Res D
  | 0 => fun _ _ => .bad
  | d + 1 => stOf 2 3 (run_law_longest (m_law_longest d))

/- law(script)  slots: 0:script 1:books 2:want 3:rows 4:due 5:one 6:held 7:row 8:number 9:k -/
def lp_law_k28_1 : RS :=
  sSeq (sSet 7 (rFrz (lComp [8] (iAny (rVar 6)) (gName 8) (tVal (rCall fIsi (aCons (rVar 8) (aCons (rC (.ty "int")) (aNil))))) (rBin fSub2 (rVar 4) (rVar 8)))))
  (sExpr (rMeth isLst fAppend (rVar 4) (aCons (rBin fAdd (rCall fMax (aCons (rBin fAdd (rFrz (lDisp (aCons (rUn fNeg (rC (.int 1))) (aNil)))) (rVar 7)) (aNil))) (rC (.int 1))) (aNil))))
def lp_law_k28_2 : RS :=
  sIf (tVal (rBin fNotIn (rBin fSub2 (rVar 7) (rBin fAdd (rVar 9) (rC (.int 1)))) (rP m_law_holds (aCons (rVar 1) (aCons (rBin fSub2 (rVar 7) (rVar 9)) (aNil))))))
  (sRet (rC (.bl false)))
  (sNx)
def tl_law_k28_5 : RS :=
  sSeq (sIf (tVal (rBin fNe (rP m_rounds (aCons (rVar 1) (aCons (rVar 2) (aNil)))) (rVar 4)))
  (sRet (rC (.bl false)))
  (sNx))
  (sSeq (sSet 7 (rP m_chain (aCons (rVar 1) (aCons (rVar 2) (aNil)))))
  (sSeq (sIf (tOr (tNot (tVal (rCall fIsi (aCons (rVar 7) (aCons (rC (.ty "list")) (aNil)))))) (tOr (tVal (rBin fEq (rVar 7) (rFrz (lDisp (aNil))))) (tVal (rBin fNe (rBin fSub2 (rVar 7) (rC (.int 0))) (rP m_law_stands (aCons (rVar 1) (aCons (rVar 2) (aNil))))))))
  (sRet (rC (.bl false)))
  (sNx))
  (sSeq (sFor (iRng1 (aCons (rBin fSub (rCall fLen (aCons (rVar 7) (aNil))) (rC (.int 1))) (aNil))) (gName 9)
  (lp_law_k28_2))
  (sRet (rAndV (rBin fEq (rCall fLen (aCons (rVar 7) (aNil))) (rCall (m_law_longest 8) (aCons (rVar 1) (aCons (rBin fSub2 (rVar 7) (rC (.int 0))) (aNil))))) (rBin fEq (rCall fLen (aCons (rVar 7) (aNil))) (rBin fAdd (rCall fMax (aCons (rVar 4) (aNil))) (rC (.int 1)))))))))
def run_law_k28 : RS :=
  sSeq (sSet 1 (rP m_law_sound (aCons (rVar 0) (aCons (rC (.int 20)) (aCons (rC (.int 4)) (aNil))))))
  (sSeq (sSet 2 (rBin fSub2 (rBin fSub2 (rVar 1) (rP m_law_mixed (aCons (rVar 0) (aCons (rC (.int 0)) (aCons (rCall fLen (aCons (rVar 1) (aNil))) (aNil)))))) (rC (.int 0))))
  (sSeq (sSet 3 (rP m_plan (aCons (rVar 1) (aCons (rVar 2) (aNil)))))
  (sSeq (sSet 4 (rNew (lDisp (aNil))))
  (sSeq (sFor (iAny (rVar 3)) (gTup [gName 5, gName 6])
  (lp_law_k28_1))
  (tl_law_k28_5)))))
def m_law_k28 : List D → PRes := pureOf 1 10 run_law_k28

/- House.need_scope(self, scope)  slots: 0:self 1:scope -/
def run_House_need_scope : RS :=
  sSeq (sIf (tNot (tVal (rP m_is_between (aCons (rVar 1) (aCons (rC (.int 0)) (aCons (rBin fSub (rCall fLen (aCons (rAttr "House" "around" (rVar 0)) (aNil))) (rC (.int 1))) (aNil)))))))
  (sRaise "NoScope")
  (sNx))
  (sIf (tVal (rBin fNotIn (rVar 1) (rAttr "House" "standing" (rVar 0))))
  (sRaise "Shut")
  (sNx))
def m_House_need_scope : List D → Store → Res D := stOf 2 2 run_House_need_scope

/- House.called(self, want)  slots: 0:self 1:want -/
def run_House_called : RS :=
  sSeq (sDPut (rAttr "House" "calls" (rVar 0)) (rVar 1) (rBin fAdd (rMeth isDct fGet (rAttr "House" "calls" (rVar 0)) (aCons (rVar 1) (aCons (rC (.int 0)) (aNil)))) (rC (.int 1))))
  (sRet (rBin fLe (rBin fSub2 (rAttr "House" "calls" (rVar 0)) (rVar 1)) (rBin fSub2 (rP m_maker_in (aCons (rAttr "House" "books" (rVar 0)) (aCons (rVar 1) (aNil)))) (rC (.int 4)))))
def m_House_called : List D → Store → Res D := stOf 2 2 run_House_called

/- House.one_need(self, how, want, scope)  slots: 0:self 1:how 2:want 3:scope -/
def run_House_one_need (W : List D → Store → Res D) : RS :=
  sSeq (sIf (tVal (rBin fEq (rVar 1) (rC (.str "late"))))
  (sRet (rC (.str "late")))
  (sNx))
  (sSeq (sIf (tVal (rUn fIsN (rP m_stands (aCons (rAttr "House" "books" (rVar 0)) (aCons (rVar 2) (aNil))))))
  (sRet (rC .non))
  (sNx))
  (sRet (rMe "House" "wanted" W (rVar 0) (aCons (rP m_stands (aCons (rAttr "House" "books" (rVar 0)) (aCons (rVar 2) (aNil)))) (aCons (rVar 3) (aNil))))))
def m_House_one_need (W : List D → Store → Res D) : List D → Store → Res D := stOf 4 4 (run_House_one_need W)

/- House.wanted(self, want, scope)  slots: 0:self 1:want 2:scope 3:span 4:held 5:how 6:other 7:number -/
def lp_House_wanted_1 (W : List D → Store → Res D) : RS :=
  sSeq (sExpr (rMeth isLst fAppend (rVar 4) (aCons (rMe "House" "one_need" (m_House_one_need W) (rVar 0) (aCons (rVar 5) (aCons (rVar 6) (aCons (rVar 2) (aNil))))) (aNil))))
  (sIf (tVal (rCall fIsi (aCons (rBin fSub2 (rVar 4) (rUn fNeg (rC (.int 1)))) (aCons (rC (.ty "list")) (aNil)))))
  (sRet (rBin fAdd (rFrz (lDisp (aCons (rVar 1) (aNil)))) (rBin fSub2 (rVar 4) (rUn fNeg (rC (.int 1))))))
  (sNx))
def run_House_wanted (W : List D → Store → Res D) : RS :=
  sSeq (sSet 3 (rP m_span_in (aCons (rAttr "House" "books" (rVar 0)) (aCons (rVar 1) (aNil)))))
  (sSeq (sIf (tVal (rBin fEq (rVar 3) (rC (.str "one"))))
  (sSet 2 (rC (.int 0)))
  (sNx))
  (sSeq (sIf (tVal (rBin fIn (rTup (aCons (rVar 1) (aCons (rVar 2) (aNil)))) (rAttr "House" "kept_rows" (rVar 0))))
  (sRet (rBin fSub2 (rAttr "House" "kept_rows" (rVar 0)) (rTup (aCons (rVar 1) (aCons (rVar 2) (aNil))))))
  (sNx))
  (sSeq (sSet 4 (rNew (lDisp (aNil))))
  (sSeq (sFor (iAny (rBin fSub2 (rP m_maker_in (aCons (rAttr "House" "books" (rVar 0)) (aCons (rVar 1) (aNil)))) (rC (.int 1)))) (gTup [gName 5, gName 6])
  (lp_House_wanted_1 W))
  (sSeq (sIf (tVal (rMe "House" "called" m_House_called (rVar 0) (aCons (rVar 1) (aNil))))
  (sSeq (sExpr (rMeth isLst fAppend (rAttr "House" "events" (rVar 0)) (aCons (rTup (aCons (rC (.str "break")) (aCons (rVar 1) (aNil)))) (aNil))))
  (sRet (rFrz (lDisp (aCons (rVar 1) (aNil))))))
  (sNx))
  (sSeq (sSet 7 (rCall fLen (aCons (rAttr "House" "things" (rVar 0)) (aNil))))
  (sSeq (sExpr (rMeth isLst fAppend (rAttr "House" "things" (rVar 0)) (aCons (rTup (aCons (rVar 1) (aCons (rVar 2) (aCons (rCall fTuple (aCons (rVar 4) (aNil))) (aNil))))) (aNil))))
  (sSeq (sDPut (rAttr "House" "alive" (rVar 0)) (rVar 7) (rC (.bl true)))
  (sSeq (sExpr (rMeth isLst fAppend (rAttr "House" "events" (rVar 0)) (aCons (rTup (aCons (rC (.str "make")) (aCons (rVar 7) (aNil)))) (aNil))))
  (sSeq (sIf (tVal (rBin fNe (rVar 3) (rC (.str "each"))))
  (sDPut (rAttr "House" "kept_rows" (rVar 0)) (rTup (aCons (rVar 1) (aCons (rVar 2) (aNil)))) (rVar 7))
  (sNx))
  (sRet (rVar 7))))))))))))
def m_House_wanted : Nat → List D → Store → Res D
  | 0 => fun _ _ => .bad
  | d + 1 => stOf 3 8 (run_House_wanted (m_House_wanted d))

/- House.holding(self)  slots: 0:self 1:row 2:met 3:number 4:other -/
def lp_House_holding_1 : RS :=
  sSeq (sSet 3 (rMeth isLst fPop (rVar 1) aNil))
  (sIf (tVal (rBin fNotIn (rVar 3) (rVar 2)))
  (sSeq (sDPut (rVar 2) (rVar 3) (rC (.bl true)))
  (sExpr (rMeth isLst fExtend (rVar 1) (aCons (rFrz (lComp [4] (iAny (rBin fSub2 (rBin fSub2 (rAttr "House" "things" (rVar 0)) (rVar 3)) (rC (.int 2)))) (gName 4) (tVal (rCall fIsi (aCons (rVar 4) (aCons (rC (.ty "int")) (aNil))))) (rVar 4))) (aNil)))))
  (sNx))
def run_House_holding : RS :=
  sSeq (sSet 1 (rNew (lVals (rAttr "House" "kept_rows" (rVar 0)))))
  (sSeq (sSet 2 (rDictK))
  (sSeq (sWhile (tVal (rBin fNe (rVar 1) (rFrz (lDisp (aNil)))))
  (lp_House_holding_1))
  (sRet (rVar 2))))
def m_House_holding : List D → Store → Res D := stOf 1 5 run_House_holding

/- House.let_go(self, number)  slots: 0:self 1:number -/
def run_House_let_go : RS :=
  sSeq (sExpr (rMeth isDct fDPop (rAttr "House" "alive" (rVar 0)) (aCons (rVar 1) (aNil))))
  (sIf (tVal (rBin fSub2 (rP m_maker_in (aCons (rAttr "House" "books" (rVar 0)) (aCons (rBin fSub2 (rBin fSub2 (rAttr "House" "things" (rVar 0)) (rVar 1)) (rC (.int 0))) (aNil)))) (rC (.int 3))))
  (sExpr (rMeth isLst fAppend (rAttr "House" "events" (rVar 0)) (aCons (rTup (aCons (rC (.str "end")) (aCons (rVar 1) (aNil)))) (aNil))))
  (sNx))
def m_House_let_go : List D → Store → Res D := stOf 2 2 run_House_let_go

/- House.answer(self, want, scope)  slots: 0:self 1:want 2:scope 3:before 4:told 5:met 6:number -/
def lp_House_answer_1 : RS :=
  sIf (tVal (rBin fNotIn (rVar 6) (rVar 5)))
  (sExpr (rMe "House" "let_go" m_House_let_go (rVar 0) (aCons (rVar 6) (aNil))))
  (sNx)
def run_House_answer : RS :=
  sSeq (sSet 3 (rCall fLen (aCons (rAttr "House" "things" (rVar 0)) (aNil))))
  (sSeq (sSet 4 (rMe "House" "wanted" (m_House_wanted 8) (rVar 0) (aCons (rVar 1) (aCons (rVar 2) (aNil)))))
  (sSeq (sIf (tVal (rCall fIsi (aCons (rVar 4) (aCons (rC (.ty "list")) (aNil)))))
  (sSeq (sSet 5 (rMe "House" "holding" m_House_holding (rVar 0) aNil))
  (sFor (iRngD (aCons (rBin fSub (rCall fLen (aCons (rAttr "House" "things" (rVar 0)) (aNil))) (rC (.int 1))) (aCons (rBin fSub (rVar 3) (rC (.int 1))) (aCons (rUn fNeg (rC (.int 1))) (aNil))))) (gName 6)
  (lp_House_answer_1)))
  (sNx))
  (sRet (rVar 4))))
def m_House_answer : List D → Store → Res D := stOf 3 7 run_House_answer

/- House.ask(self, scope, want)  slots: 0:self 1:scope 2:want -/
def run_House_ask : RS :=
  sSeq (sExpr (rMe "House" "need_scope" m_House_need_scope (rVar 0) (aCons (rVar 1) (aNil))))
  (sSeq (sExpr (rP m_need_want (aCons (rVar 2) (aNil))))
  (sSeq (sIf (tVal (rUn fIsN (rP m_stands (aCons (rAttr "House" "books" (rVar 0)) (aCons (rVar 2) (aNil))))))
  (sRaise "NoMaker")
  (sNx))
  (sRet (rMe "House" "answer" m_House_answer (rVar 0) (aCons (rP m_stands (aCons (rAttr "House" "books" (rVar 0)) (aCons (rVar 2) (aNil)))) (aCons (rVar 1) (aNil)))))))
def m_House_ask : List D → Store → Res D := stOf 3 3 run_House_ask

/- House.__init__(self, books)  slots: 0:self 1:books -/
def run_House___init__ : RS :=
  sSeq (sExpr (rP m_need_sound (aCons (rVar 1) (aNil))))
  (sSeq (sAttr "House" "books" (rVar 0) (rVar 1))
  (sSeq (sAttr "House" "around" (rVar 0) (rNew (lDisp (aCons (rC .non) (aNil)))))
  (sSeq (sAttr "House" "standing" (rVar 0) (rDict1 (rC (.int 0)) (rC (.bl true))))
  (sSeq (sAttr "House" "things" (rVar 0) (rNew (lDisp (aNil))))
  (sSeq (sAttr "House" "alive" (rVar 0) (rDictK))
  (sSeq (sAttr "House" "kept_rows" (rVar 0) (rDictT))
  (sSeq (sAttr "House" "calls" (rVar 0) (rDictK))
  (sAttr "House" "events" (rVar 0) (rNew (lDisp (aNil)))))))))))
def m_House___init__ : List D → Store → Res D := stOf 2 2 run_House___init__

/- House.need_thing(self, number)  slots: 0:self 1:number -/
def run_House_need_thing : RS :=
  sIf (tNot (tVal (rP m_is_between (aCons (rVar 1) (aCons (rC (.int 0)) (aCons (rBin fSub (rCall fLen (aCons (rAttr "House" "things" (rVar 0)) (aNil))) (rC (.int 1))) (aNil)))))))
  (sRaise "NoThing")
  (sNx)
def m_House_need_thing : List D → Store → Res D := stOf 2 2 run_House_need_thing

/- House.thing(self, number)  slots: 0:self 1:number -/
def run_House_thing : RS :=
  sSeq (sExpr (rMe "House" "need_thing" m_House_need_thing (rVar 0) (aCons (rVar 1) (aNil))))
  (sRet (rBin fSub2 (rAttr "House" "things" (rVar 0)) (rVar 1)))
def m_House_thing : List D → Store → Res D := stOf 2 2 run_House_thing

/- House.begin(self, scope)  slots: 0:self 1:scope -/
def run_House_begin_k11 : RS :=
  sSeq (sExpr (rMe "House" "need_scope" m_House_need_scope (rVar 0) (aCons (rVar 1) (aNil))))
  (sSeq (sIf (tVal (rBin fEq (rCall fLen (aCons (rAttr "House" "around" (rVar 0)) (aNil))) (rC (.int 40))))
  (sRaise "TooBig")
  (sNx))
  (sSeq (sExpr (rMeth isLst fAppend (rAttr "House" "around" (rVar 0)) (aCons (rVar 1) (aNil))))
  (sSeq (sDPut (rAttr "House" "standing" (rVar 0)) (rBin fSub (rCall fLen (aCons (rAttr "House" "around" (rVar 0)) (aNil))) (rC (.int 1))) (rC (.bl true)))
  (sRet (rBin fSub (rCall fLen (aCons (rAttr "House" "around" (rVar 0)) (aNil))) (rC (.int 1)))))))
def m_House_begin_k11 : List D → Store → Res D := stOf 2 2 run_House_begin_k11

/- House.journal(self)  slots: 0:self -/
def run_House_journal_k11 : RS :=
  sRet (rFrz (lCall fList (aCons (rAttr "House" "events" (rVar 0)) (aNil))))
def m_House_journal_k11 : List D → Store → Res D := stOf 1 1 run_House_journal_k11

/- law(script)  slots: 0:script 1:books 2:want 3:rows 4:house 5:k 6:row 7:one 8:scope 9:held 10:made -/
def lp_law_k11_1 : RS :=
  sSeq (sTgt (gTup [gName 7, gName 8, gName 9]) (rMe "House" "thing" m_House_thing (rVar 4) (aCons (rVar 5) (aNil))))
  (sIf (tOr (tVal (rBin fNe (rTup (aCons (rVar 7) (aCons (rVar 9) (aNil)))) (rVar 6))) (tVal (rBin fNe (rVar 8) (rC (.int 0)))))
  (sRet (rC (.bl false)))
  (sNx))
def tl_law_k11_7 : RS :=
  sSeq (sExpr (rMe "House" "ask" m_House_ask (rVar 4) (aCons (rC (.int 0)) (aCons (rVar 2) (aNil)))))
  (sSeq (sExpr (rMeth isLst fAppend (rVar 10) (aCons (rCall fLen (aCons (rMe "House" "journal" m_House_journal_k11 (rVar 4) aNil) (aNil))) (aNil))))
  (sSeq (sExpr (rMe "House" "ask" m_House_ask (rVar 4) (aCons (rMe "House" "begin" m_House_begin_k11 (rVar 4) (aCons (rC (.int 0)) (aNil))) (aCons (rVar 2) (aNil)))))
  (sSeq (sExpr (rMeth isLst fAppend (rVar 10) (aCons (rCall fLen (aCons (rMe "House" "journal" m_House_journal_k11 (rVar 4) aNil) (aNil))) (aNil))))
  (sRet (rBin fEq (rP m_costs (aCons (rVar 1) (aCons (rVar 2) (aNil)))) (rTup (aCons (rBin fSub2 (rVar 10) (rC (.int 0))) (aCons (rBin fSub (rBin fSub2 (rVar 10) (rC (.int 1))) (rBin fSub2 (rVar 10) (rC (.int 0)))) (aCons (rBin fSub (rBin fSub2 (rVar 10) (rC (.int 2))) (rBin fSub2 (rVar 10) (rC (.int 1)))) (aNil))))))))))
def tl_law_k11_2 : RS :=
  sSeq (sSet 3 (rP m_plan (aCons (rVar 1) (aCons (rVar 2) (aNil)))))
  (sSeq (sSet 4 (rMake "House" m_House___init__ (aCons (rVar 1) (aNil))))
  (sSeq (sIf (tOr (tVal (rBin fNe (rMe "House" "ask" m_House_ask (rVar 4) (aCons (rC (.int 0)) (aCons (rVar 2) (aNil)))) (rBin fSub (rCall fLen (aCons (rVar 3) (aNil))) (rC (.int 1))))) (tVal (rBin fNe (rMe "House" "journal" m_House_journal_k11 (rVar 4) aNil) (rFrz (lComp [5] (iRng1 (aCons (rCall fLen (aCons (rVar 3) (aNil))) (aNil))) (gName 5) (tYes) (rTup (aCons (rC (.str "make")) (aCons (rVar 5) (aNil)))))))))
  (sRet (rC (.bl false)))
  (sNx))
  (sSeq (sFor (iEnum (aCons (rVar 3) (aNil))) (gTup [gName 5, gName 6])
  (lp_law_k11_1))
  (sSeq (sSet 10 (rNew (lDisp (aCons (rCall fLen (aCons (rVar 3) (aNil))) (aNil)))))
  (tl_law_k11_7)))))
def run_law_k11 : RS :=
  sSeq (sSet 1 (rP m_law_sound (aCons (rVar 0) (aCons (rC (.int 20)) (aCons (rC (.int 1)) (aNil))))))
  (sSeq (sSet 2 (rBin fSub2 (rBin fSub2 (rVar 1) (rP m_law_mixed (aCons (rVar 0) (aCons (rC (.int 0)) (aCons (rCall fLen (aCons (rVar 1) (aNil))) (aNil)))))) (rC (.int 0))))
  (tl_law_k11_2))
def m_law_k11 : List D → PRes := pureOf 1 11 run_law_k11

/- House.shut(self, scope)  slots: 0:self 1:scope 2:other 3:number 4:row -/
def lp_House_shut_1 (W : List D → Store → Res D) : RS :=
  sIf (tAnd (tVal (rBin fIn (rVar 2) (rAttr "House" "standing" (rVar 0)))) (tVal (rBin fEq (rBin fSub2 (rAttr "House" "around" (rVar 0)) (rVar 2)) (rVar 1))))
  (sExpr (rMe "House" "shut" W (rVar 0) (aCons (rVar 2) (aNil))))
  (sNx)
def lp_House_shut_2 (W : List D → Store → Res D) : RS :=
  sIf (tAnd (tVal (rBin fIn (rVar 3) (rAttr "House" "alive" (rVar 0)))) (tVal (rBin fEq (rBin fSub2 (rBin fSub2 (rAttr "House" "things" (rVar 0)) (rVar 3)) (rC (.int 1))) (rVar 1))))
  (sExpr (rMe "House" "let_go" m_House_let_go (rVar 0) (aCons (rVar 3) (aNil))))
  (sNx)
def lp_House_shut_3 (W : List D → Store → Res D) : RS :=
  sIf (tVal (rBin fEq (rBin fSub2 (rVar 4) (rC (.int 1))) (rVar 1)))
  (sExpr (rMeth isDct fDPop (rAttr "House" "kept_rows" (rVar 0)) (aCons (rVar 4) (aNil))))
  (sNx)
def run_House_shut (W : List D → Store → Res D) : RS :=
  sSeq (sExpr (rMe "House" "need_scope" m_House_need_scope (rVar 0) (aCons (rVar 1) (aNil))))
  (sSeq (sFor (iRngD (aCons (rBin fSub (rCall fLen (aCons (rAttr "House" "around" (rVar 0)) (aNil))) (rC (.int 1))) (aCons (rVar 1) (aCons (rUn fNeg (rC (.int 1))) (aNil))))) (gName 2)
  (lp_House_shut_1 W))
  (sSeq (sFor (iRngD (aCons (rBin fSub (rCall fLen (aCons (rAttr "House" "things" (rVar 0)) (aNil))) (rC (.int 1))) (aCons (rUn fNeg (rC (.int 1))) (aCons (rUn fNeg (rC (.int 1))) (aNil))))) (gName 3)
  (lp_House_shut_2 W))
  (sSeq (sExpr (rMeth isDct fDPop (rAttr "House" "standing" (rVar 0)) (aCons (rVar 1) (aNil))))
  (sFor (iAny (rFrz (lCall fList (aCons (rAttr "House" "kept_rows" (rVar 0)) (aNil))))) (gName 4)
  (lp_House_shut_3 W)))))
def m_House_shut : Nat → List D → Store → Res D
  | 0 => fun _ _ => .bad
  | d + 1 => stOf 2 5 (run_House_shut (m_House_shut d))

/- House.scopes(self)  slots: 0:self -/
def run_House_scopes : RS :=
  sRet (rFrz (lCall fSorted2 (aCons (rFrz (lCall fList (aCons (rAttr "House" "standing" (rVar 0)) (aNil)))) (aNil))))
def m_House_scopes : List D → Store → Res D := stOf 1 1 run_House_scopes

/- House.within(self, scope)  slots: 0:self 1:scope -/
def run_House_within : RS :=
  sSeq (sIf (tNot (tVal (rP m_is_between (aCons (rVar 1) (aCons (rC (.int 0)) (aCons (rBin fSub (rCall fLen (aCons (rAttr "House" "around" (rVar 0)) (aNil))) (rC (.int 1))) (aNil)))))))
  (sRaise "NoScope")
  (sNx))
  (sRet (rBin fSub2 (rAttr "House" "around" (rVar 0)) (rVar 1)))
def m_House_within : List D → Store → Res D := stOf 2 2 run_House_within

/- House.kept(self, scope, want)  slots: 0:self 1:scope 2:want 3:end -/
def run_House_kept : RS :=
  sSeq (sExpr (rMe "House" "need_scope" m_House_need_scope (rVar 0) (aCons (rVar 1) (aNil))))
  (sSeq (sExpr (rP m_need_want (aCons (rVar 2) (aNil))))
  (sSeq (sSet 3 (rP m_stands (aCons (rAttr "House" "books" (rVar 0)) (aCons (rVar 2) (aNil)))))
  (sSeq (sIf (tAnd (tVal (rUn fNotN (rVar 3))) (tVal (rBin fEq (rP m_span_in (aCons (rAttr "House" "books" (rVar 0)) (aCons (rVar 3) (aNil)))) (rC (.str "one")))))
  (sSet 1 (rC (.int 0)))
  (sNx))
  (sRet (rMeth isDct fGet (rAttr "House" "kept_rows" (rVar 0)) (aCons (rTup (aCons (rVar 3) (aCons (rVar 1) (aNil)))) (aNil)))))))
def m_House_kept : List D → Store → Res D := stOf 3 4 run_House_kept

/- _law_told_of(house, what, scope)  slots: 0:house 1:what 2:scope 3:e -/
def run_law_told_of_k12 : RS :=
  sTry 3 (sSeq (sIf (tVal (rBin fEq (rVar 1) (rC (.int 0))))
  (sRet (rMe "House" "begin" m_House_begin_k11 (rVar 0) (aCons (rVar 2) (aNil))))
  (sNx))
  (sSeq (sIf (tVal (rBin fEq (rVar 1) (rC (.int 1))))
  (sRet (rMe "House" "ask" m_House_ask (rVar 0) (aCons (rVar 2) (aCons (rC .non) (aNil)))))
  (sNx))
  (sSeq (sIf (tVal (rBin fEq (rVar 1) (rC (.int 2))))
  (sRet (rMe "House" "kept" m_House_kept (rVar 0) (aCons (rVar 2) (aCons (rC .non) (aNil)))))
  (sNx))
  (sSeq (sIf (tVal (rBin fEq (rVar 1) (rC (.int 3))))
  (sRet (rMe "House" "shut" (m_House_shut 42) (rVar 0) (aCons (rVar 2) (aNil))))
  (sNx))
  (sRet (rMe "House" "within" m_House_within (rVar 0) (aCons (rVar 2) (aNil))))))))
def m_law_told_of_k12 : List D → Store → Res D := stOf 3 4 run_law_told_of_k12

/- _law_lates(things)  slots: 0:things 1:found 2:number 3:held 4:place 5:one -/
def lp_law_lates_1 : RS :=
  sExpr (rMeth isLst fExtend (rVar 1) (aCons (rFrz (lComp [4, 5] (iEnum (aCons (rVar 3) (aNil))) (gTup [gName 4, gName 5]) (tVal (rBin fEq (rVar 5) (rC (.str "late")))) (rTup (aCons (rVar 2) (aCons (rVar 4) (aNil)))))) (aNil)))
def run_law_lates : RS :=
  sSeq (sSet 1 (rNew (lDisp (aNil))))
  (sSeq (sFor (iAny (rVar 0)) (gTup [gName 2, gName 3])
  (lp_law_lates_1))
  (sRet (rVar 1)))
def m_law_lates : List D → PRes := pureOf 1 6 run_law_lates

/- _law_deed(script, at, standing, lates, words, shuts)  slots: 0:script 1:at 2:standing 3:lates 4:words 5:shuts 6:scope 7:kind 8:number 9:place -/
def run_law_deed : RS :=
  sSeq (sSet 6 (rBin fSub2 (rVar 2) (rP m_law_mixed (aCons (rVar 0) (aCons (rBin fAdd (rVar 1) (rC (.int 1))) (aCons (rCall fLen (aCons (rVar 2) (aNil))) (aNil)))))))
  (sSeq (sSet 7 (rP m_law_mixed (aCons (rVar 0) (aCons (rVar 1) (aCons (rC (.int 14)) (aNil))))))
  (sSeq (sIf (tVal (rBin fLt (rVar 7) (rC (.int 2))))
  (sRet (rTup (aCons (rC (.str "begin")) (aCons (rVar 6) (aCons (rC .non) (aNil))))))
  (sNx))
  (sSeq (sIf (tAnd (tVal (rBin fLt (rVar 7) (rBin fAdd (rC (.int 2)) (rVar 5)))) (tOr (tVal (rBin fGt (rVar 6) (rC (.int 0)))) (tVal (rBin fEq (rP m_law_mixed (aCons (rVar 0) (aCons (rBin fAdd (rVar 1) (rC (.int 2))) (aCons (rC (.int 4)) (aNil))))) (rC (.int 0))))))
  (sRet (rTup (aCons (rC (.str "shut")) (aCons (rVar 6) (aCons (rC .non) (aNil))))))
  (sNx))
  (sSeq (sIf (tAnd (tVal (rBin fGt (rVar 7) (rC (.int 10)))) (tVal (rBin fNe (rVar 3) (rFrz (lDisp (aNil))))))
  (sSeq (sTgt (gTup [gName 8, gName 9]) (rBin fSub2 (rVar 3) (rP m_law_mixed (aCons (rVar 0) (aCons (rBin fAdd (rVar 1) (rC (.int 3))) (aCons (rCall fLen (aCons (rVar 3) (aNil))) (aNil)))))))
  (sRet (rTup (aCons (rC (.str "late")) (aCons (rVar 8) (aCons (rVar 9) (aNil)))))))
  (sNx))
  (sRet (rTup (aCons (rC (.str "ask")) (aCons (rVar 6) (aCons (rBin fSub2 (rVar 4) (rP m_law_mixed (aCons (rVar 0) (aCons (rBin fAdd (rVar 1) (rC (.int 4))) (aCons (rCall fLen (aCons (rVar 4) (aNil))) (aNil)))))) (aNil))))))))))
def m_law_deed : List D → PRes := pureOf 6 10 run_law_deed

/- House.living(self)  slots: 0:self -/
def run_House_living : RS :=
  sRet (rFrz (lCall fSorted2 (aCons (rFrz (lCall fList (aCons (rAttr "House" "alive" (rVar 0)) (aNil)))) (aNil))))
def m_House_living : List D → Store → Res D := stOf 1 1 run_House_living

/- House.late(self, number, place)  slots: 0:self 1:number 2:place 3:want 4:scope 5:held -/
def run_House_late : RS :=
  sSeq (sExpr (rMe "House" "need_thing" m_House_need_thing (rVar 0) (aCons (rVar 1) (aNil))))
  (sSeq (sIf (tVal (rBin fNotIn (rVar 1) (rAttr "House" "alive" (rVar 0))))
  (sRaise "Gone")
  (sNx))
  (sSeq (sTgt (gTup [gName 3, gName 4, gName 5]) (rBin fSub2 (rAttr "House" "things" (rVar 0)) (rVar 1)))
  (sSeq (sIf (tOr (tNot (tVal (rP m_is_between (aCons (rVar 2) (aCons (rC (.int 0)) (aCons (rBin fSub (rCall fLen (aCons (rVar 5) (aNil))) (rC (.int 1))) (aNil))))))) (tVal (rBin fNe (rBin fSub2 (rVar 5) (rVar 2)) (rC (.str "late")))))
  (sRaise "NoNeed")
  (sNx))
  (sRet (rMe "House" "answer" m_House_answer (rVar 0) (aCons (rP m_stands (aCons (rAttr "House" "books" (rVar 0)) (aCons (rBin fSub2 (rBin fSub2 (rBin fSub2 (rP m_maker_in (aCons (rAttr "House" "books" (rVar 0)) (aCons (rVar 3) (aNil)))) (rC (.int 1))) (rVar 2)) (rC (.int 1))) (aNil)))) (aCons (rVar 4) (aNil))))))))
def m_House_late : List D → Store → Res D := stOf 3 6 run_House_late

/- _law_do(house, deed)  slots: 0:house 1:deed 2:word 3:one 4:other -/
def run_law_do : RS :=
  sSeq (sTgt (gTup [gName 2, gName 3, gName 4]) (rVar 1))
  (sSeq (sIf (tVal (rBin fEq (rVar 2) (rC (.str "begin"))))
  (sRet (rMe "House" "begin" m_House_begin_k11 (rVar 0) (aCons (rVar 3) (aNil))))
  (sNx))
  (sSeq (sIf (tVal (rBin fEq (rVar 2) (rC (.str "shut"))))
  (sSeq (sExpr (rMe "House" "shut" (m_House_shut 42) (rVar 0) (aCons (rVar 3) (aNil))))
  (sRet (rC .non)))
  (sNx))
  (sSeq (sIf (tVal (rBin fEq (rVar 2) (rC (.str "ask"))))
  (sRet (rMe "House" "ask" m_House_ask (rVar 0) (aCons (rVar 3) (aCons (rVar 4) (aNil)))))
  (sNx))
  (sRet (rMe "House" "late" m_House_late (rVar 0) (aCons (rVar 3) (aCons (rVar 4) (aNil))))))))
def m_law_do : List D → Store → Res D := stOf 2 5 run_law_do

/- _law_drive(script, at, house, words, many, shuts)  slots: 0:script 1:at 2:house 3:words 4:many 5:shuts 6:rows 7:k 8:standing 9:lates 10:number 11:deed -/
def lp_law_drive_1 : RS :=
  sSeq (sSet 8 (rMe "House" "scopes" m_House_scopes (rVar 2) aNil))
  (sIf (tVal (rBin fNe (rVar 8) (rFrz (lDisp (aNil)))))
  (sSeq (sSet 9 (rP m_law_lates (aCons (rFrz (lComp [10] (iAny (rMe "House" "living" m_House_living (rVar 2) aNil)) (gName 10) (tYes) (rTup (aCons (rVar 10) (aCons (rBin fSub2 (rMe "House" "thing" m_House_thing (rVar 2) (aCons (rVar 10) (aNil))) (rC (.int 2))) (aNil)))))) (aNil))))
  (sSeq (sSet 11 (rP m_law_deed (aCons (rVar 0) (aCons (rBin fAdd (rVar 1) (rBin fMul (rC (.int 10)) (rVar 7))) (aCons (rVar 8) (aCons (rVar 9) (aCons (rVar 3) (aCons (rVar 5) (aNil)))))))))
  (sExpr (rMeth isLst fAppend (rVar 6) (aCons (rTup (aCons (rVar 11) (aCons (rCall m_law_do (aCons (rVar 2) (aCons (rVar 11) (aNil)))) (aNil)))) (aNil))))))
  (sNx))
def run_law_drive : RS :=
  sSeq (sSet 6 (rNew (lDisp (aNil))))
  (sSeq (sFor (iRng1 (aCons (rVar 4) (aNil))) (gName 7)
  (lp_law_drive_1))
  (sRet (rVar 6)))
def m_law_drive : List D → Store → Res D := stOf 6 12 run_law_drive

/- House.shape(self, number)  slots: 0:self 1:number 2:want 3:scope 4:held 5:parts 6:other -/
def lp_House_shape_k19_1 (W : List D → Store → Res D) : RS :=
  sIf (tAnd (tVal (rCall fIsi (aCons (rVar 6) (aCons (rC (.ty "int")) (aNil))))) (tVal (rBin fNe (rP m_span_in (aCons (rAttr "House" "books" (rVar 0)) (aCons (rBin fSub2 (rBin fSub2 (rAttr "House" "things" (rVar 0)) (rVar 6)) (rC (.int 0))) (aNil)))) (rC (.str "each")))))
  (sExpr (rMeth isLst fAppend (rVar 5) (aCons (rSl fSl (rBin fSub2 (rAttr "House" "things" (rVar 0)) (rVar 6)) (oNone) (oSome (rC (.int 2)))) (aNil))))
  (sIf (tVal (rCall fIsi (aCons (rVar 6) (aCons (rC (.ty "int")) (aNil)))))
  (sExpr (rMeth isLst fAppend (rVar 5) (aCons (rMe "House" "shape" W (rVar 0) (aCons (rVar 6) (aNil))) (aNil))))
  (sExpr (rMeth isLst fAppend (rVar 5) (aCons (rVar 6) (aNil)))))
def run_House_shape_k19 (W : List D → Store → Res D) : RS :=
  sSeq (sExpr (rMe "House" "need_thing" m_House_need_thing (rVar 0) (aCons (rVar 1) (aNil))))
  (sSeq (sTgt (gTup [gName 2, gName 3, gName 4]) (rBin fSub2 (rAttr "House" "things" (rVar 0)) (rVar 1)))
  (sSeq (sSet 5 (rNew (lDisp (aNil))))
  (sSeq (sFor (iAny (rVar 4)) (gName 6)
  (lp_House_shape_k19_1 W))
  (sRet (rTup (aCons (rVar 2) (aCons (rVar 3) (aCons (rCall fTuple (aCons (rVar 5) (aNil))) (aNil)))))))))
def m_House_shape_k19 : Nat → List D → Store → Res D
  | 0 => fun _ _ => .bad
  | d + 1 => stOf 2 7 (run_House_shape_k19 (m_House_shape_k19 d))

/- law(script)  slots: 0:script 1:books 2:words 3:row 4:house 5:many 6:shapes 7:number 8:want 9:scope 10:held 11:parts 12:other -/
def lp_law_k21_1 : RS :=
  sIf (tNot (tVal (rCall fIsi (aCons (rVar 12) (aCons (rC (.ty "int")) (aNil))))))
  (sExpr (rMeth isLst fAppend (rVar 11) (aCons (rVar 12) (aNil))))
  (sIf (tVal (rBin fEq (rBin fSub2 (rP m_law_maker (aCons (rVar 1) (aCons (rBin fSub2 (rMe "House" "thing" m_House_thing (rVar 4) (aCons (rVar 12) (aNil))) (rC (.int 0))) (aNil)))) (rC (.int 2))) (rC (.str "each"))))
  (sExpr (rMeth isLst fAppend (rVar 11) (aCons (rBin fSub2 (rVar 6) (rVar 12)) (aNil))))
  (sExpr (rMeth isLst fAppend (rVar 11) (aCons (rSl fSl (rMe "House" "thing" m_House_thing (rVar 4) (aCons (rVar 12) (aNil))) (oNone) (oSome (rC (.int 2)))) (aNil)))))
def lp_law_k21_2 : RS :=
  sSeq (sTgt (gTup [gName 8, gName 9, gName 10]) (rMe "House" "thing" m_House_thing (rVar 4) (aCons (rVar 7) (aNil))))
  (sSeq (sSet 11 (rNew (lDisp (aNil))))
  (sSeq (sFor (iAny (rVar 10)) (gName 12)
  (lp_law_k21_1))
  (sSeq (sExpr (rMeth isLst fAppend (rVar 6) (aCons (rTup (aCons (rVar 8) (aCons (rVar 9) (aCons (rCall fTuple (aCons (rVar 11) (aNil))) (aNil))))) (aNil))))
  (sIf (tVal (rBin fNe (rMe "House" "shape" (m_House_shape_k19 8) (rVar 4) (aCons (rVar 7) (aNil))) (rBin fSub2 (rVar 6) (rVar 7))))
  (sRet (rC (.bl false)))
  (sNx)))))
def tl_law_k21_3 : RS :=
  sSeq (sExpr (rCall m_law_drive (aCons (rVar 0) (aCons (rC (.int 400)) (aCons (rVar 4) (aCons (rVar 2) (aCons (rP m_law_mixed (aCons (rVar 0) (aCons (rC (.int 0)) (aCons (rC (.int 15)) (aNil))))) (aCons (rC (.int 1)) (aNil)))))))))
  (sSeq (sSet 5 (rCall fLen (aCons (rFrz (lComp [3] (iAny (rMe "House" "journal" m_House_journal_k11 (rVar 4) aNil)) (gName 3) (tVal (rBin fEq (rBin fSub2 (rVar 3) (rC (.int 0))) (rC (.str "make")))) (rVar 3))) (aNil))))
  (sSeq (sSet 6 (rNew (lDisp (aNil))))
  (sSeq (sFor (iRng1 (aCons (rVar 5) (aNil))) (gName 7)
  (lp_law_k21_2))
  (sRet (rC (.bl true))))))
def run_law_k21 : RS :=
  sSeq (sSet 1 (rP m_law_sound (aCons (rVar 0) (aCons (rC (.int 20)) (aCons (rC (.int 4)) (aNil))))))
  (sSeq (sSet 2 (rFrz (lComp [3] (iAny (rVar 1)) (gName 3) (tYes) (rBin fSub2 (rVar 3) (rC (.int 0))))))
  (sSeq (sSet 4 (rMake "House" m_House___init__ (aCons (rVar 1) (aNil))))
  (tl_law_k21_3)))
def m_law_k21 : List D → PRes := pureOf 1 13 run_law_k21

/- _law_told_of(house, number, place)  slots: 0:house 1:number 2:place 3:e -/
def run_law_told_of_k27 : RS :=
  sTry 3 (sRet (rMe "House" "late" m_House_late (rVar 0) (aCons (rVar 1) (aCons (rVar 2) (aNil)))))
def m_law_told_of_k27 : List D → Store → Res D := stOf 3 4 run_law_told_of_k27

/- law(script)  slots: 0:script 1:books 2:words 3:row 4:house 5:k 6:number 7:want 8:scope 9:held 10:needs 11:place 12:need 13:kept 14:before 15:told 16:end 17:here 18:none 19:many -/
def lp_law_k27_1 : RS :=
  sExpr (rMe "House" "ask" m_House_ask (rVar 4) (aCons (rP m_law_mixed (aCons (rVar 0) (aCons (rBin fAdd (rC (.int 2)) (rVar 5)) (aCons (rC (.int 2)) (aNil))))) (aCons (rBin fSub2 (rVar 2) (rP m_law_mixed (aCons (rVar 0) (aCons (rBin fAdd (rC (.int 10)) (rVar 5)) (aCons (rCall fLen (aCons (rVar 2) (aNil))) (aNil)))))) (aNil))))
def lp_law_k27_2 : RS :=
  sIf (tVal (rBin fNe (rBin fSub2 (rVar 12) (rC (.int 0))) (rC (.str "late"))))
  (sIf (tVal (rBin fNe (rCall m_law_told_of_k27 (aCons (rVar 4) (aCons (rVar 6) (aCons (rVar 11) (aNil))))) (rTup (aCons (rC (.str "refused")) (aCons (rC (.int 10)) (aNil))))))
  (sRet (rC (.bl false)))
  (sNx))
  (sSeq (sSet 13 (rMe "House" "kept" m_House_kept (rVar 4) (aCons (rVar 8) (aCons (rBin fSub2 (rVar 12) (rC (.int 1))) (aNil)))))
  (sSeq (sSet 14 (rCall fLen (aCons (rMe "House" "journal" m_House_journal_k11 (rVar 4) aNil) (aNil))))
  (sSeq (sSet 15 (rMe "House" "late" m_House_late (rVar 4) (aCons (rVar 6) (aCons (rVar 11) (aNil)))))
  (sSeq (sSet 16 (rP m_law_stands (aCons (rVar 1) (aCons (rBin fSub2 (rVar 12) (rC (.int 1))) (aNil)))))
  (sSeq (sSet 17 (rBin fSub2 (rFrz (lDisp (aCons (rVar 8) (aCons (rC (.int 0)) (aNil))))) (rCall fInt (aCons (rBin fEq (rBin fSub2 (rP m_law_maker (aCons (rVar 1) (aCons (rVar 16) (aNil)))) (rC (.int 2))) (rC (.str "one"))) (aNil)))))
  (sSeq (sIf (tOr (tVal (rBin fNe (rSl fSl (rMe "House" "thing" m_House_thing (rVar 4) (aCons (rVar 15) (aNil))) (oNone) (oSome (rC (.int 2)))) (rTup (aCons (rVar 16) (aCons (rVar 17) (aNil)))))) (tAnd (tVal (rUn fNotN (rVar 13))) (tVal (rBin fNe (rVar 15) (rVar 13)))))
  (sRet (rC (.bl false)))
  (sNx))
  (sIf (tAnd (tVal (rUn fIsN (rVar 13))) (tVal (rBin fNe (rSl fSl (rSl fSl (rMe "House" "journal" m_House_journal_k11 (rVar 4) aNil) (oSome (rVar 14)) (oNone)) (oSome (rUn fNeg (rC (.int 1)))) (oNone)) (rFrz (lDisp (aCons (rTup (aCons (rC (.str "make")) (aCons (rVar 15) (aNil)))) (aNil)))))))
  (sRet (rC (.bl false)))
  (sNx))))))))
def lp_law_k27_3 : RS :=
  sSeq (sTgt (gTup [gName 7, gName 8, gName 9]) (rMe "House" "thing" m_House_thing (rVar 4) (aCons (rVar 6) (aNil))))
  (sSeq (sSet 10 (rBin fSub2 (rP m_law_maker (aCons (rVar 1) (aCons (rVar 7) (aNil)))) (rC (.int 1))))
  (sSeq (sFor (iEnum (aCons (rVar 10) (aNil))) (gTup [gName 11, gName 12])
  (lp_law_k27_2))
  (sSeq (sIf (tVal (rBin fNe (rMe "House" "thing" m_House_thing (rVar 4) (aCons (rVar 6) (aNil))) (rTup (aCons (rVar 7) (aCons (rVar 8) (aCons (rVar 9) (aNil)))))))
  (sRet (rC (.bl false)))
  (sNx))
  (sSeq (sSet 18 (rBin fSub2 (rFrz (lDisp (aCons (rCall fLen (aCons (rVar 10) (aNil))) (aCons (rUn fNeg (rC (.int 1))) (aCons (rC .non) (aCons (rC (.bl true)) (aCons (rC (.str "0")) (aNil)))))))) (rP m_law_mixed (aCons (rVar 0) (aCons (rC (.int 300)) (aCons (rC (.int 5)) (aNil)))))))
  (sIf (tVal (rBin fNe (rCall m_law_told_of_k27 (aCons (rVar 4) (aCons (rVar 6) (aCons (rVar 18) (aNil))))) (rTup (aCons (rC (.str "refused")) (aCons (rC (.int 10)) (aNil))))))
  (sRet (rC (.bl false)))
  (sNx))))))
def lp_law_k27_4 : RS :=
  sIf (tAnd (tVal (rBin fEq (rBin fSub2 (rMe "House" "thing" m_House_thing (rVar 4) (aCons (rVar 6) (aNil))) (rC (.int 1))) (rC (.int 1)))) (tVal (rBin fNe (rCall m_law_told_of_k27 (aCons (rVar 4) (aCons (rVar 6) (aCons (rC .non) (aNil))))) (rTup (aCons (rC (.str "refused")) (aCons (rC (.int 9)) (aNil)))))))
  (sRet (rC (.bl false)))
  (sNx)
def tl_law_k27_7 : RS :=
  sSeq (sSet 18 (rBin fSub2 (rFrz (lDisp (aCons (rVar 19) (aCons (rUn fNeg (rC (.int 1))) (aCons (rC .non) (aCons (rC (.bl true)) (aCons (rC (.str "0")) (aNil)))))))) (rP m_law_mixed (aCons (rVar 0) (aCons (rC (.int 301)) (aCons (rC (.int 5)) (aNil)))))))
  (sSeq (sIf (tVal (rBin fNe (rCall m_law_told_of_k27 (aCons (rVar 4) (aCons (rVar 18) (aCons (rC .non) (aNil))))) (rTup (aCons (rC (.str "refused")) (aCons (rC (.int 8)) (aNil))))))
  (sRet (rC (.bl false)))
  (sNx))
  (sSeq (sExpr (rMe "House" "shut" (m_House_shut 42) (rVar 4) (aCons (rC (.int 1)) (aNil))))
  (sSeq (sFor (iRng1 (aCons (rVar 19) (aNil))) (gName 6)
  (lp_law_k27_4))
  (sRet (rC (.bl true))))))
def tl_law_k27_2 : RS :=
  sSeq (sSet 4 (rMake "House" m_House___init__ (aCons (rVar 1) (aNil))))
  (sSeq (sExpr (rMe "House" "begin" m_House_begin_k11 (rVar 4) (aCons (rC (.int 0)) (aNil))))
  (sSeq (sFor (iRng1 (aCons (rP m_law_mixed (aCons (rVar 0) (aCons (rC (.int 0)) (aCons (rC (.int 7)) (aNil))))) (aNil))) (gName 5)
  (lp_law_k27_1))
  (sSeq (sFor (iAny (rSl fSl (rMe "House" "living" m_House_living (rVar 4) aNil) (oNone) (oSome (rC (.int 12))))) (gName 6)
  (lp_law_k27_3))
  (sSeq (sSet 19 (rCall fLen (aCons (rMe "House" "journal" m_House_journal_k11 (rVar 4) aNil) (aNil))))
  (tl_law_k27_7)))))
def run_law_k27 : RS :=
  sSeq (sSet 1 (rP m_law_sound (aCons (rVar 0) (aCons (rC (.int 20)) (aCons (rC (.int 1)) (aNil))))))
  (sSeq (sSet 2 (rFrz (lComp [3] (iAny (rVar 1)) (gName 3) (tYes) (rBin fSub2 (rVar 3) (rC (.int 0))))))
  (tl_law_k27_2))
def m_law_k27 : List D → PRes := pureOf 1 20 run_law_k27

/- _law_seen(house)  slots: 0:house 1:many 2:row 3:rows 4:number -/
def run_law_seen : RS :=
  sSeq (sSet 1 (rCall fLen (aCons (rFrz (lComp [2] (iAny (rMe "House" "journal" m_House_journal_k11 (rVar 0) aNil)) (gName 2) (tAnd (tVal (rUn fNotN (rVar 2))) (tVal (rBin fEq (rBin fSub2 (rVar 2) (rC (.int 0))) (rC (.str "make"))))) (rVar 2))) (aNil))))
  (sSeq (sSet 3 (rNew (lDisp (aCons (rMe "House" "journal" m_House_journal_k11 (rVar 0) aNil) (aCons (rMe "House" "living" m_House_living (rVar 0) aNil) (aCons (rMe "House" "scopes" m_House_scopes (rVar 0) aNil) (aNil)))))))
  (sSeq (sExpr (rMeth isLst fAppend (rVar 3) (aCons (rFrz (lComp [4] (iRng1 (aCons (rVar 1) (aNil))) (gName 4) (tYes) (rTup (aCons (rMe "House" "thing" m_House_thing (rVar 0) (aCons (rVar 4) (aNil))) (aCons (rMe "House" "shape" (m_House_shape_k19 8) (rVar 0) (aCons (rVar 4) (aNil))) (aNil)))))) (aNil))))
  (sRet (rVar 3))))
def m_law_seen : List D → Store → Res D := stOf 1 5 run_law_seen

/- law(script)  slots: 0:script 1:books 2:places 3:free 4:row 5:made 6:house 7:want 8:told -/
def lp_law_k34_1 : RS :=
  sSet 8 (rMe "House" "ask" m_House_ask (rVar 6) (aCons (rC (.int 0)) (aCons (rVar 7) (aNil))))
def lp_law_k34_2 : RS :=
  sSeq (sSet 8 (rMe "House" "ask" m_House_ask (rVar 6) (aCons (rC (.int 0)) (aCons (rVar 7) (aNil)))))
  (sSeq (sWhile (tVal (rCall fIsi (aCons (rVar 8) (aCons (rC (.ty "list")) (aNil)))))
  (lp_law_k34_1))
  (sIf (tVal (rBin fNe (rBin fSub2 (rMe "House" "thing" m_House_thing (rVar 6) (aCons (rVar 8) (aNil))) (rC (.int 0))) (rP m_law_stands (aCons (rVar 5) (aCons (rVar 7) (aNil))))))
  (sRet (rC (.bl false)))
  (sNx)))
def tl_law_k34_8 : RS :=
  sSeq (sIf (tVal (rBin fNe (rP m_missing (aCons (rVar 5) (aNil))) (rFrz (lDisp (aNil)))))
  (sRet (rBin fEq (rP m_missing (aCons (rVar 3) (aNil))) (rP m_missing (aCons (rVar 5) (aNil)))))
  (sNx))
  (sSeq (sIf (tNot (tVal (rP m_is_sound (aCons (rVar 5) (aNil)))))
  (sRet (rC (.bl false)))
  (sNx))
  (sSeq (sSet 6 (rMake "House" m_House___init__ (aCons (rVar 5) (aNil))))
  (sSeq (sFor (iAny (rFrz (lComp [4] (iAny (rVar 5)) (gName 4) (tYes) (rBin fSub2 (rVar 4) (rC (.int 0)))))) (gName 7)
  (lp_law_k34_2))
  (sRet (rC (.bl true))))))
def tl_law_k34_3 : RS :=
  sSeq (sIf (tVal (rUn fIsN (rVar 2)))
  (sRet (rUn fNotN (rP m_ring (aCons (rVar 1) (aNil)))))
  (sNx))
  (sSeq (sSet 3 (rP m_late_at (aCons (rVar 1) (aCons (rVar 2) (aNil)))))
  (sSeq (sIf (tOr (tVal (rUn fNotN (rP m_ring (aCons (rVar 3) (aNil))))) (tNot (tVal (rCall fAll (aCons (rFrz (lComp [4] (iAny (rP m_captive (aCons (rVar 3) (aNil)))) (gName 4) (tYes) (rBin fIn (rVar 4) (rP m_captive (aCons (rVar 1) (aNil)))))) (aNil))))))
  (sRet (rC (.bl false)))
  (sNx))
  (sSeq (sIf (tVal (rBin fNe (rP m_late_at (aCons (rP m_mended (aCons (rVar 1) (aNil))) (aCons (rVar 2) (aNil)))) (rP m_mended (aCons (rP m_late_at (aCons (rP m_mended (aCons (rVar 1) (aNil))) (aCons (rVar 2) (aNil)))) (aNil)))))
  (sRet (rC (.bl false)))
  (sNx))
  (sSeq (sSet 5 (rP m_mended (aCons (rVar 3) (aNil))))
  (tl_law_k34_8)))))
def run_law_k34 : RS :=
  sSeq (sSet 1 (rP m_law_case (aCons (rVar 0) (aCons (rC (.int 20)) (aNil)))))
  (sSeq (sSet 2 (rP m_loosened (aCons (rVar 1) (aNil))))
  (sSeq (sIf (tAnd (tVal (rP m_is_sound (aCons (rVar 1) (aNil)))) (tOr (tVal (rBin fNe (rVar 2) (rTup (aNil)))) (tVal (rBin fNe (rP m_mended (aCons (rVar 1) (aNil))) (rVar 1)))))
  (sRet (rC (.bl false)))
  (sNx))
  (tl_law_k34_3)))
def m_law_k34 : List D → PRes := pureOf 1 9 run_law_k34

end Py

set_option linter.all false
set_option maxRecDepth 100000
namespace Py
open PySem

/- row_words(want, maker)  slots: 0:want 1:maker 2:word 3:needs 4:span 5:ends 6:breaks 7:made 8:how 9:other -/
def lp_row_words_1 : RS :=
  sExpr (rMeth isLst fExtend (rVar 7) (aCons (rFrz (lDisp (aCons (rVar 8) (aCons (rVar 9) (aNil))))) (aNil)))
def run_row_words : RS :=
  sSeq (sIf (tVal (rBin fEq (rBin fSub2 (rVar 1) (rC (.int 0))) (rC (.str "as"))))
  (sRet (rFrz (lDisp (aCons (rVar 0) (aCons (rC (.str "as")) (aCons (rBin fSub2 (rVar 1) (rC (.int 1))) (aNil)))))))
  (sNx))
  (sSeq (sTgt (gTup [gName 2, gName 3, gName 4, gName 5, gName 6]) (rVar 1))
  (sSeq (sSet 7 (rNew (lDisp (aCons (rVar 0) (aCons (rC (.str "made")) (aCons (rVar 4) (aNil)))))))
  (sSeq (sIf (tVal (rVar 5))
  (sExpr (rMeth isLst fAppend (rVar 7) (aCons (rC (.str "ends")) (aNil))))
  (sNx))
  (sSeq (sIf (tVal (rBin fGt (rVar 6) (rC (.int 0))))
  (sExpr (rMeth isLst fExtend (rVar 7) (aCons (rFrz (lDisp (aCons (rC (.str "breaks")) (aCons (rCall fStrI (aCons (rVar 6) (aNil))) (aNil))))) (aNil))))
  (sNx))
  (sSeq (sFor (iAny (rVar 3)) (gTup [gName 8, gName 9])
  (lp_row_words_1))
  (sRet (rVar 7)))))))
def m_row_words : List D → PRes := pureOf 2 10 run_row_words

/- text_of(books)  slots: 0:books 1:want 2:maker -/
def run_text_of : RS :=
  sRet (rMeth isStr fJoin (rC (.str "\n")) (aCons (rFrz (lComp [1, 2] (iAny (rVar 0)) (gTup [gName 1, gName 2]) (tYes) (rMeth isStr fJoin (rC (.str " ")) (aCons (rP m_row_words (aCons (rVar 1) (aCons (rVar 2) (aNil)))) (aNil))))) (aNil)))
def m_text_of : List D → PRes := pureOf 1 3 run_text_of

/- shown(books)  slots: 0:books -/
def run_shown : RS :=
  sRet (rP m_text_of (aCons (rP m_checked (aCons (rVar 0) (aNil))) (aNil)))
def m_shown : List D → PRes := pureOf 1 1 run_shown

/- read_made(words)  slots: 0:words 1:at 2:ends 3:breaks 4:rest 5:needs 6:k -/
def run_read_made : RS :=
  sSeq (sSet 1 (rC (.int 1)))
  (sSeq (sSet 2 (rBin fEq (rSl fSl (rVar 0) (oSome (rVar 1)) (oSome (rBin fAdd (rVar 1) (rC (.int 1))))) (rFrz (lDisp (aCons (rC (.str "ends")) (aNil))))))
  (sSeq (sIf (tVal (rVar 2))
  (sSet 1 (rBin fAdd (rVar 1) (rC (.int 1))))
  (sNx))
  (sSeq (sSet 3 (rC (.int 0)))
  (sSeq (sIf (tVal (rBin fEq (rSl fSl (rVar 0) (oSome (rVar 1)) (oSome (rBin fAdd (rVar 1) (rC (.int 1))))) (rFrz (lDisp (aCons (rC (.str "breaks")) (aNil))))))
  (sSeq (sIf (tOr (tVal (rBin fLt (rCall fLen (aCons (rVar 0) (aNil))) (rBin fAdd (rVar 1) (rC (.int 2))))) (tVal (rBin fNotIn (rBin fSub2 (rVar 0) (rBin fAdd (rVar 1) (rC (.int 1)))) (rTup (aCons (rC (.str "1")) (aCons (rC (.str "2")) (aCons (rC (.str "3")) (aNil))))))))
  (sRet (rC .non))
  (sNx))
  (sSeq (sSet 3 (rCall fIntS (aCons (rBin fSub2 (rVar 0) (rBin fAdd (rVar 1) (rC (.int 1)))) (aNil))))
  (sSet 1 (rBin fAdd (rVar 1) (rC (.int 2))))))
  (sNx))
  (sSeq (sSet 4 (rSl fSl (rVar 0) (oSome (rVar 1)) (oNone)))
  (sSeq (sIf (tVal (rBin fEq (rBin fMod (rCall fLen (aCons (rVar 4) (aNil))) (rC (.int 2))) (rC (.int 1))))
  (sRet (rC .non))
  (sNx))
  (sSeq (sSet 5 (rFrz (lComp [6] (iRngS (aCons (rC (.int 0)) (aCons (rCall fLen (aCons (rVar 4) (aNil))) (aCons (rC (.int 2)) (aNil))))) (gName 6) (tYes) (rTup (aCons (rBin fSub2 (rVar 4) (rVar 6)) (aCons (rBin fSub2 (rVar 4) (rBin fAdd (rVar 6) (rC (.int 1)))) (aNil)))))))
  (sRet (rTup (aCons (rC (.str "made")) (aCons (rCall fTuple (aCons (rVar 5) (aNil))) (aCons (rBin fSub2 (rVar 0) (rC (.int 0))) (aCons (rVar 2) (aCons (rVar 3) (aNil)))))))))))))))
def m_read_made : List D → PRes := pureOf 1 7 run_read_made

/- read_row(row)  slots: 0:row 1:words -/
def run_read_row : RS :=
  sSeq (sSet 1 (rMeth isStr fSplit (rVar 0) (aCons (rC (.str " ")) (aNil))))
  (sSeq (sIf (tVal (rBin fLt (rCall fLen (aCons (rVar 1) (aNil))) (rC (.int 3))))
  (sRet (rC .non))
  (sNx))
  (sSeq (sIf (tVal (rBin fEq (rBin fSub2 (rVar 1) (rC (.int 1))) (rC (.str "as"))))
  (sRet (rTup (aCons (rBin fSub2 (rVar 1) (rC (.int 0))) (aCons (rBin fAdd (rTup (aCons (rC (.str "as")) (aNil))) (rCall fTuple (aCons (rSl fSl (rVar 1) (oSome (rC (.int 2))) (oNone)) (aNil)))) (aNil)))))
  (sNx))
  (sSeq (sIf (tVal (rBin fEq (rBin fSub2 (rVar 1) (rC (.int 1))) (rC (.str "made"))))
  (sRet (rTup (aCons (rBin fSub2 (rVar 1) (rC (.int 0))) (aCons (rP m_read_made (aCons (rSl fSl (rVar 1) (oSome (rC (.int 2))) (oNone)) (aNil))) (aNil)))))
  (sNx))
  (sRet (rC .non)))))
def m_read_row : List D → PRes := pureOf 1 2 run_read_row

/- read(text)  slots: 0:text 1:rows 2:row -/
def run_read : RS :=
  sSeq (sIf (tNot (tVal (rCall fIsi (aCons (rVar 0) (aCons (rC (.ty "str")) (aNil))))))
  (sRaise "NoText")
  (sNx))
  (sSeq (sSet 1 (rTup (aNil)))
  (sSeq (sIf (tVal (rBin fNe (rVar 0) (rC (.str ""))))
  (sSet 1 (rCall fTuple (aCons (rFrz (lComp [2] (iAny (rMeth isStr fSplit (rVar 0) (aCons (rC (.str "\n")) (aNil)))) (gName 2) (tYes) (rP m_read_row (aCons (rVar 2) (aNil))))) (aNil))))
  (sNx))
  (sSeq (sIf (tOr (tNot (tVal (rP m_are_books (aCons (rVar 1) (aNil))))) (tVal (rBin fNe (rP m_text_of (aCons (rVar 1) (aNil))) (rVar 0))))
  (sRaise "NoText")
  (sNx))
  (sRet (rVar 1)))))
def m_read : List D → PRes := pureOf 1 3 run_read

/- _law_told(ask, thing)  slots: 0:ask 1:thing 2:e -/
def tab_law_told_k29 : Str → Option (List D → PRes) := fun f => if f = "read" then some m_read else none
def run_law_told_k29 : RS :=
  sTold 2 (rLoc 0 tab_law_told_k29 (aCons (rVar 1) (aNil)))
def m_law_told_k29 : List D → PRes := pureOf 2 3 run_law_told_k29

/- law(script)  slots: 0:script 1:books 2:rows 3:want 4:maker 5:row 6:how 7:other 8:text -/
def lp_law_k29_1 : RS :=
  sSeq (sSet 5 (rBin fAdd (rBin fAdd (rVar 3) (rC (.str " "))) (rBin fSub2 (rVar 4) (rC (.int 0)))))
  (sSeq (sIf (tVal (rBin fEq (rBin fSub2 (rVar 4) (rC (.int 0))) (rC (.str "as"))))
  (sSet 5 (rBin fAdd (rBin fAdd (rVar 5) (rC (.str " "))) (rBin fSub2 (rVar 4) (rC (.int 1)))))
  (sSeq (sSet 5 (rBin fAdd (rBin fAdd (rBin fAdd (rVar 5) (rC (.str " "))) (rBin fSub2 (rVar 4) (rC (.int 2)))) (rBin fMulS (rC (.str " ends")) (rCall fInt (aCons (rBin fSub2 (rVar 4) (rC (.int 3))) (aNil))))))
  (sSeq (sIf (tVal (rBin fGt (rBin fSub2 (rVar 4) (rC (.int 4))) (rC (.int 0))))
  (sSet 5 (rBin fAdd (rBin fAdd (rVar 5) (rC (.str " breaks "))) (rCall fStrI (aCons (rBin fSub2 (rVar 4) (rC (.int 4))) (aNil)))))
  (sNx))
  (sSet 5 (rBin fAdd (rVar 5) (rMeth isStr fJoin (rC (.str "")) (aCons (rFrz (lComp [6, 7] (iAny (rBin fSub2 (rVar 4) (rC (.int 1)))) (gTup [gName 6, gName 7]) (tYes) (rBin fAdd (rBin fAdd (rBin fAdd (rC (.str " ")) (rVar 6)) (rC (.str " "))) (rVar 7)))) (aNil))))))))
  (sExpr (rMeth isLst fAppend (rVar 2) (aCons (rVar 5) (aNil)))))
def tl_law_k29_1 : RS :=
  sSeq (sIf (tVal (rBin fEq (rP m_law_mixed (aCons (rVar 0) (aCons (rC (.int 1)) (aCons (rC (.int 12)) (aNil))))) (rC (.int 0))))
  (sSet 1 (rTup (aNil)))
  (sNx))
  (sSeq (sSet 2 (rNew (lDisp (aNil))))
  (sSeq (sFor (iAny (rVar 1)) (gTup [gName 3, gName 4])
  (lp_law_k29_1))
  (sSeq (sSet 8 (rP m_shown (aCons (rVar 1) (aNil))))
  (sRet (rAndV (rBin fEq (rVar 8) (rMeth isStr fJoin (rC (.str "\n")) (aCons (rVar 2) (aNil)))) (rBin fEq (rP m_law_told_k29 (aCons (rC (.glo "read")) (aCons (rVar 8) (aNil)))) (rVar 1)))))))
def run_law_k29 : RS :=
  sSeq (sSet 1 (rSl fSl (rP m_law_case (aCons (rVar 0) (aCons (rC (.int 20)) (aNil)))) (oSome (rBin fDiv (rP m_law_mixed (aCons (rVar 0) (aCons (rC (.int 0)) (aCons (rC (.int 7)) (aNil))))) (rC (.int 6)))) (oNone)))
  (tl_law_k29_1)
def m_law_k29 : List D → PRes := pureOf 1 9 run_law_k29

/- _law_told(ask, thing)  slots: 0:ask 1:thing 2:e -/
def tab_law_told_k30 : Str → Option (List D → PRes) := fun f => if f = "read" then some m_read else none
def run_law_told_k30 : RS :=
  sTold 2 (rLoc 0 tab_law_told_k30 (aCons (rVar 1) (aNil)))
def m_law_told_k30 : List D → PRes := pureOf 2 3 run_law_told_k30

/- law(script)  slots: 0:script 1:books 2:text 3:place 4:signs 5:some 6:answer 7:rows 8:bad -/
def tl_law_k30_9 : RS :=
  sSeq (sExpr (rMeth isLst fExtend (rVar 8) (aCons (rFrz (lDisp (aCons (rC (.str "a as b c")) (aCons (rC (.str "a made")) (aCons (rC (.str "a made two")) (aCons (rC (.str "a made one breaks 0")) (aCons (rC (.str "a made one breaks 4")) (aNil)))))))) (aNil))))
  (sSeq (sExpr (rMeth isLst fExtend (rVar 8) (aCons (rFrz (lDisp (aCons (rC (.str "a made one breaks")) (aCons (rC (.str "a made one now")) (aCons (rC (.str "a made one soon b")) (aCons (rC (.str "a made one breaks 1 ends")) (aNil))))))) (aNil))))
  (sSeq (sExpr (rMeth isLst fExtend (rVar 8) (aCons (rFrz (lDisp (aCons (rC (.str "b as a\na as b")) (aCons (rC (.str "a as B")) (aCons (rC (.str "a is b")) (aNil)))))) (aNil))))
  (sSeq (sExpr (rMeth isLst fExtend (rVar 8) (aCons (rFrz (lDisp (aCons (rBin fAdd (rC (.str "a made one")) (rBin fMulS (rC (.str " now b")) (rC (.int 4)))) (aCons (rC (.str "a made one ends ends")) (aCons (rC (.str "a made each now b late")) (aNil)))))) (aNil))))
  (sRet (rBin fEq (rP m_law_told_k30 (aCons (rC (.glo "read")) (aCons (rBin fSub2 (rVar 8) (rP m_law_mixed (aCons (rVar 0) (aCons (rC (.int 3)) (aCons (rC (.int 25)) (aNil)))))) (aNil)))) (rTup (aCons (rC (.str "refused")) (aCons (rC (.int 11)) (aNil)))))))))
def tl_law_k30_4 : RS :=
  sSeq (sSet 5 (rBin fAdd (rBin fAdd (rSl fSl (rVar 2) (oNone) (oSome (rVar 3))) (rBin fSub2 (rVar 4) (rP m_law_mixed (aCons (rVar 0) (aCons (rC (.int 1)) (aCons (rC (.int 12)) (aNil))))))) (rSl fSl (rVar 2) (oSome (rBin fAdd (rVar 3) (rP m_law_mixed (aCons (rVar 0) (aCons (rC (.int 2)) (aCons (rC (.int 3)) (aNil))))))) (oNone))))
  (sSeq (sSet 6 (rP m_law_told_k30 (aCons (rC (.glo "read")) (aCons (rVar 5) (aNil)))))
  (sSeq (sIf (tAnd (tVal (rBin fNe (rVar 6) (rTup (aCons (rC (.str "refused")) (aCons (rC (.int 11)) (aNil)))))) (tVal (rBin fNe (rP m_shown (aCons (rVar 6) (aNil))) (rVar 5))))
  (sRet (rC (.bl false)))
  (sNx))
  (sSeq (sSet 7 (rMeth isStr fSplit (rVar 2) (aCons (rC (.str "\n")) (aNil))))
  (sSeq (sSet 8 (rNew (lDisp (aCons (rBin fAdd (rC (.str " ")) (rVar 2)) (aCons (rBin fAdd (rVar 2) (rC (.str " "))) (aCons (rBin fAdd (rVar 2) (rC (.str "\n"))) (aCons (rBin fAdd (rC (.str "\n")) (rVar 2)) (aCons (rBin fAdd (rBin fAdd (rVar 2) (rC (.str "\n"))) (rBin fSub2 (rVar 7) (rUn fNeg (rC (.int 1))))) (aCons (rC .non) (aCons (rFrz (lDisp (aCons (rC (.str "a")) (aNil)))) (aCons (rC (.int 7)) (aCons (rC (.str "a")) (aCons (rC (.str "a as")) (aNil))))))))))))))
  (tl_law_k30_9)))))
def run_law_k30 : RS :=
  sSeq (sSet 1 (rP m_law_case (aCons (rVar 0) (aCons (rC (.int 20)) (aNil)))))
  (sSeq (sSet 2 (rP m_shown (aCons (rVar 1) (aNil))))
  (sSeq (sSet 3 (rP m_law_mixed (aCons (rVar 0) (aCons (rC (.int 0)) (aCons (rBin fAdd (rCall fLen (aCons (rVar 2) (aNil))) (rC (.int 1))) (aNil))))))
  (sSeq (sSet 4 (rFrz (lDisp (aCons (rC (.str "")) (aCons (rC (.str " ")) (aCons (rC (.str "\n")) (aCons (rC (.str "a")) (aCons (rC (.str "ends")) (aCons (rC (.str " ends")) (aCons (rC (.str " breaks 2")) (aCons (rC (.str " now a")) (aCons (rC (.str "0")) (aCons (rC (.str "A")) (aCons (rC (.str " as b")) (aCons (rC (.str "-")) (aNil))))))))))))))))
  (tl_law_k30_4))))
def m_law_k30 : List D → PRes := pureOf 1 9 run_law_k30

end Py

set_option Elab.async false
set_option linter.all false
set_option maxRecDepth 100000
set_option maxHeartbeats 2000000
set_option autoImplicit false
/-! books as texts: the runs -/
namespace Py
open PySem
theorem asStrs_m : ∀ l : List Str, asStrs (l.map .str) = some l
  | [] => rfl
  | x :: l => by show (asStrs (l.map .str)).map (x :: ·) = _; rw [asStrs_m l]; rfl
section
variable {st : Store}
theorem fJoin_ss (a : Str) (ys : List Str) (h : (ys.map fun y => y.length).sum + ys.length * a.length ≤ 1000000) : fJoin (.str a) [.lst (ys.map .str)] st = .ok (.str (joinS a ys)) st := by
  unfold fJoin
  dsimp only [asL, Option.bind]
  rw [asStrs_m]
  dsimp only
  rw [if_pos h]
theorem fSplit_ss {s : Str} {c : Nat} (hs : s.cps.toList = [c]) (hc : c < 256) (z : Str) (h : z.length ≤ 1000000) : fSplit (.str z) [.str s] st = .ok (.lst ((splitS c z).map .str)) st := by
  unfold fSplit
  dsimp only
  rw [hs]
  dsimp only
  rw [if_pos ⟨hc, h⟩]
  unfold splitS
  rw [List.map_map]
  rfl
theorem fStrI_ok {i : Int} (h0 : 0 ≤ i) (h : i ≤ 9) : fStrI [.int i] st = .ok (.str (figS i)) st := by
  unfold fStrI
  dsimp only
  rw [if_pos ⟨h0, h⟩]
  rfl
theorem fIntS_ok {z : Str} (h : z ∈ (["1", "2", "3"] : List Str)) : fIntS [.str z] st = .ok (.int (figI z)) st := by
  simp only [List.mem_cons, List.not_mem_nil, or_false] at h
  have e : ∃ c, z.cps.toList = [c] ∧ 48 ≤ c ∧ c ≤ 57 := by
    rcases h with h | h | h <;> subst h
    · exact ⟨49, by decide +kernel, by omega, by omega⟩
    · exact ⟨50, by decide +kernel, by omega, by omega⟩
    · exact ⟨51, by decide +kernel, by omega, by omega⟩
  obtain ⟨c, e1, e2⟩ := e
  unfold fIntS figI
  dsimp only
  rw [e1]
  dsimp only
  rw [if_pos e2]
end
theorem isStr_str (st : Store) (z : Str) : isStr st (.str z) = true := rfl
theorem nxS {a c : RS} {e e1 : Env} {st st1 : Store} {R : SR} (h : a e st = .nx e1 st1) (h2 : c e1 st1 = R) : sSeq a c e st = R := by rw [sSeq_ap, h]; exact h2
theorem rtS {a c : RS} {e : Env} {d : D} {st st1 : Store} (h : a e st = .rt d st1) : sSeq a c e st = .rt d st1 := by rw [sSeq_ap, h]; rfl
theorem rw_loop (e0 e1 e2 e3 e4 e5 e6 : Option D) : ∀ (ns : List (Str × Str)) (l : List Str) (o8 o9 : Option D), l.length + 2 * ns.length ≤ 1000 → ∃ o8' o9', forL 1 (gTup [gName 8, gName 9]) lp_row_words_1 (ns.map pairD) [e0, e1, e2, e3, e4, e5, e6, some (.ref 0), o8, o9] [.lst (l.map .str)] = .nx [e0, e1, e2, e3, e4, e5, e6, some (.ref 0), o8', o9'] [.lst ((l ++ needW ns).map .str)]
  | [], l, o8, o9, _ => ⟨o8, o9, by simp [forL, needW]⟩
  | p :: ns, l, o8, o9, h => by
    have hl : l.length + 2 ≤ 16777216 := by simp at h; omega
    have hb : lp_row_words_1 [e0, e1, e2, e3, e4, e5, e6, some (.ref 0), some (.str p.1), some (.str p.2)] [.lst (l.map .str)] = .nx [e0, e1, e2, e3, e4, e5, e6, some (.ref 0), some (.str p.1), some (.str p.2)] [.lst ((l ++ [p.1, p.2]).map .str)] := by
      simp [lp_row_words_1, hl]
    obtain ⟨a, b, ih⟩ := rw_loop e0 e1 e2 e3 e4 e5 e6 ns (l ++ [p.1, p.2]) (some (.str p.1)) (some (.str p.2)) (by simp at h ⊢; omega)
    refine ⟨a, b, ?_⟩
    rw [List.map_cons, forL_nx (n0 := 1) (g := gTup [gName 8, gName 9]) (e1 := [e0, e1, e2, e3, e4, e5, e6, some (.ref 0), some (.str p.1), some (.str p.2)]) rfl hb (by rfl), ih]
    have : l ++ [p.1, p.2] ++ needW ns = l ++ needW (p :: ns) := by
      show _ = l ++ (p.1 :: p.2 :: needW ns)
      simp
    rw [this]
theorem m_rwords {w : Str} {m : Mk} (hm : OkM m) : m_row_words [.str w, encM m] = .ok (.lst ((rowW (w, m)).map .str)) := by
  cases m with
  | as v =>
    refine pureOf_rt (st := []) (d := .lst ((rowW (w, .as v)).map .str)) rfl ?_ (by simp [frz, frz0, rowW, wordsM])
    simp [run_row_words, encM, rowW, wordsM]
  | made ns sp en br =>
    obtain ⟨h1, h2, h3, h4, h5⟩ := hm
    obtain ⟨o8, o9, hL⟩ := rw_loop (some (.str w)) (some (encM (.made ns sp en br))) (some (.str "made")) (some (.tup (ns.map pairD))) (some (.str sp)) (some (.bl en)) (some (.int br)) ns (w :: ("made" : Str) :: sp :: (endsW en ++ brkW br)) none none (by
      unfold endsW brkW
      simp only [List.length_cons, List.length_append]
      split <;> split <;> simp <;> omega)
    have hst : ∀ st : Store, fStrI [.int br] st = .ok (.str (figS br)) st := fun st => fStrI_ok h4 (by omega)
    have hmk : ¬ (("made" : Str) = "as") := by decide +kernel
    have hrow : (w :: ("made" : Str) :: sp :: (endsW en ++ brkW br)) ++ needW ns = rowW (w, .made ns sp en br) := by
      simp [rowW, wordsM]
    rw [hrow] at hL
    refine pureOf_rt (st := [.lst ((rowW (w, .made ns sp en br)).map .str)]) (d := .ref 0) rfl ?_ (by simp [frz, frz0])
    unfold run_row_words
    refine nxS (e1 := [some (.str w), some (encM (.made ns sp en br)), none, none, none, none, none, none, none, none]) (st1 := []) (by simp [encM, hmk]) ?_
    refine nxS (e1 := [some (.str w), some (encM (.made ns sp en br)), some (.str "made"), some (.tup (ns.map pairD)), some (.str sp), some (.bl en), some (.int br), none, none, none]) (st1 := []) (by simp [encM]) ?_
    refine nxS (e1 := [some (.str w), some (encM (.made ns sp en br)), some (.str "made"), some (.tup (ns.map pairD)), some (.str sp), some (.bl en), some (.int br), some (.ref 0), none, none]) (st1 := [.lst ([w, "made", sp].map .str)]) (by simp) ?_
    refine nxS (e1 := [some (.str w), some (encM (.made ns sp en br)), some (.str "made"), some (.tup (ns.map pairD)), some (.str sp), some (.bl en), some (.int br), some (.ref 0), none, none]) (st1 := [.lst (([w, "made", sp] ++ endsW en).map .str)]) (by cases en <;> simp [endsW]) ?_
    refine nxS (e1 := [some (.str w), some (encM (.made ns sp en br)), some (.str "made"), some (.tup (ns.map pairD)), some (.str sp), some (.bl en), some (.int br), some (.ref 0), none, none]) (st1 := [.lst ((w :: ("made" : Str) :: sp :: (endsW en ++ brkW br)).map .str)]) (by
      have hle : (endsW en).length ≤ 1 := by unfold endsW; split <;> simp
      have hc : (endsW en).length + 1 + 1 + 1 + 2 ≤ 16777216 := by omega
      by_cases hb : 0 < br
      · simp [hb, brkW, hst, hc]
      · simp [hb, brkW]) ?_
    refine nxS (e1 := [some (.str w), some (encM (.made ns sp en br)), some (.str "made"), some (.tup (ns.map pairD)), some (.str sp), some (.bl en), some (.int br), some (.ref 0), o8, o9]) (st1 := [.lst ((rowW (w, .made ns sp en br)).map .str)]) (by
      rw [sFor_ap]
      simp only [iAny_ap, rVar_ap, List.getElem?_cons_succ, List.getElem?_cons_zero, rVal_some, Res.bd_ok, itAny_tup, Res.toS_ok, List.length_cons, List.length_nil, Nat.zero_add]
      exact hL) ?_
    simp
theorem m_textof {b : Bks} (h : OkB b) : m_text_of [encB b] = .ok (.str (textB b)) := by
  have hc := compL_map encR (n0 := 0) (g := gTup [gName 1, gName 2]) (r := rMeth isStr fJoin (rC (.str " ")) (aCons (rP m_row_words (aCons (rVar 1) (aCons (rVar 2) (aNil)))) (aNil))) (e := [some (encB b), none, none]) (st := []) rfl (fun r => D.str (rowT r)) b fun r hr => ⟨[some (encB b), some (.str r.1), some (encM r.2)], rfl, by
    have hm := m_rwords (w := r.1) (h.row r hr).2
    have hj := fJoin_ss (st := []) " " (rowW r) (by
      have a := row_sum (h.row r hr)
      have c := (rowW_len (h.row r hr)).2
      rw [sp_len]; omega)
    simp [hm, isStr_str, hj, rowT]⟩
  have e : (b.map fun r => D.str (rowT r)) = (b.map rowT).map .str := by rw [List.map_map]; rfl
  rw [e] at hc
  have hj := fJoin_ss (st := []) "\n" (b.map rowT) (by
    have c := sum_le (l := b.map rowT) (k := 108) fun w hw => by
      obtain ⟨r, hr, rfl⟩ := List.mem_map.mp hw
      exact rowT_len (h.row r hr)
    have d := h.len
    rw [List.length_map] at c ⊢
    rw [nl_len]; omega)
  have hit : ∀ st : Store, itAny (encB b) st = .ok (b.map encR) st := fun st => rfl
  refine pureOf_rt (st := []) (d := .str (textB b)) rfl ?_ (by simp [frz, frz0])
  simp [run_text_of, hit, hc, isStr_str, hj, textB, -List.map_map]
theorem m_shownB {b : Bks} (h : OkB b) : m_shown [encB b] = .ok (.str (textB b)) := by
  refine pureOf_rt (st := []) (d := .str (textB b)) rfl ?_ (by simp [frz, frz0])
  simp [run_shown, m_chk h, m_textof h]
end Py

set_option Elab.async false
set_option linter.all false
set_option maxRecDepth 100000
set_option maxHeartbeats 2000000
set_option autoImplicit false
/-! texts, read -/
namespace Py
open PySem
theorem cut_oneN {α : Type} (xs : List α) (k : Nat) : cut xs (some (k : Int)) (some ((k : Int) + 1)) = xs[k]?.toList := by
  unfold cut sIx
  dsimp only
  rw [if_neg (by omega), if_neg (by omega)]
  have e1 : ((k : Int)).toNat = k := by omega
  have e2 : ((k : Int) + 1).toNat = k + 1 := by omega
  rw [e1, e2]
  by_cases h : k < xs.length
  · rw [Nat.min_eq_left (by omega), Nat.min_eq_left (by omega), List.getElem?_eq_getElem h, show k + 1 - k = 1 by omega, List.drop_eq_getElem_cons h]
    rfl
  · rw [Nat.min_eq_right (by omega), Nat.min_eq_right (by omega), List.getElem?_eq_none (by omega)]
    simp
theorem fEq_opt {st : Store} (o : Option Str) (x : Str) : fEq (.lst (o.toList.map .str)) (.lst [.str x]) st = .ok (.bl (decide (o = some x))) st := by
  rw [fEq_ap]
  cases o with
  | none => rw [top_lst, top_lst, okD_lst, okD_lst, eqD_lst]; simp [all2]
  | some y => rw [top_lst, top_lst, okD_lst, okD_lst, eqD_lst]; simp [all2]
abbrev tailRM : RS := sSeq (sSet 4 (rSl fSl (rVar 0) (oSome (rVar 1)) (oNone)))
  (sSeq (sIf (tVal (rBin fEq (rBin fMod (rCall fLen (aCons (rVar 4) (aNil))) (rC (.int 2))) (rC (.int 1))))
  (sRet (rC .non))
  (sNx))
  (sSeq (sSet 5 (rFrz (lComp [6] (iRngS (aCons (rC (.int 0)) (aCons (rCall fLen (aCons (rVar 4) (aNil))) (aCons (rC (.int 2)) (aNil))))) (gName 6) (tYes) (rTup (aCons (rBin fSub2 (rVar 4) (rVar 6)) (aCons (rBin fSub2 (rVar 4) (rBin fAdd (rVar 6) (rC (.int 1)))) (aNil)))))))
  (sRet (rTup (aCons (rC (.str "made")) (aCons (rCall fTuple (aCons (rVar 5) (aNil))) (aCons (rBin fSub2 (rVar 0) (rC (.int 0))) (aCons (rVar 2) (aCons (rVar 3) (aNil))))))))))
theorem pairs2_at : ∀ (l : List Str) (n t : Nat), l.length = 2 * n → t < n → ∃ a b, (pairs2 l)[t]? = some (a, b) ∧ l[2 * t]? = some a ∧ l[2 * t + 1]? = some b
  | [], n, t, h, ht => by simp at h; omega
  | [x], n, t, h, ht => by simp at h; omega
  | x :: y :: r, n, 0, h, ht => ⟨x, y, rfl, rfl, rfl⟩
  | x :: y :: r, n, t + 1, h, ht => by
    obtain ⟨a, b, h1, h2, h3⟩ := pairs2_at r (n - 1) t (by simp at h; omega) (by omega)
    refine ⟨a, b, h1, ?_, ?_⟩
    · rw [show 2 * (t + 1) = 2 * t + 1 + 1 by omega]; exact h2
    · rw [show 2 * (t + 1) + 1 = 2 * t + 1 + 1 + 1 by omega]; exact h3
theorem pairs2_len : ∀ (l : List Str) (n : Nat), l.length = 2 * n → (pairs2 l).length = n
  | [], n, h => by simp at h; simp [pairs2]; omega
  | [x], n, h => by simp at h; omega
  | x :: y :: r, n, h => by
    have := pairs2_len r (n - 1) (by simp at h; omega)
    simp [pairs2, this]; simp at h; omega
theorem iRngS_ap (a : RA) (e : Env) (st : Store) {n : Nat} (h : a e st = .ok [.int 0, .int (n : Int), .int 2] st) (hn : n ≤ 1000000) : iRngS a e st = .ok ((List.range ((n + 1) / 2)).map fun t => .int ((0 : Int) + (t : Nat) * 2)) st := by
  unfold iRngS
  rw [h, Res.bind_ok]
  dsimp only
  rw [if_pos ⟨rfl, rfl, by omega, by omega⟩]
  rfl
theorem tail_rm {ws : List Str} (h0 : ws ≠ []) (hl : ws.length ≤ 100000) (k : Nat) (en : Bool) (br : Int) (o6 : Option D) : tailRM [some (.lst (ws.map .str)), some (.int (k : Int)), some (.bl en), some (.int br), none, none, none] [] = .rt (rdNeeds ws en br k) [] := by
  have hs : cut (ws.map D.str) (some (k : Int)) none = (ws.drop k).map D.str := by
    rw [cut_map, cut_drop _ (by omega : (0 : Int) ≤ (k : Int)), Int.toNat_natCast]
  have hln : ∀ (l : List Str) (st : Store), fLen [.lst (l.map .str)] st = .ok (.int (l.length : Int)) st := fun l st => by simp
  obtain ⟨rest, hrest⟩ : ∃ rest, rest = ws.drop k := ⟨_, rfl⟩
  have hrl : rest.length ≤ 100000 := by rw [hrest, List.length_drop]; omega
  unfold rdNeeds
  rw [← hrest]
  rw [← hrest] at hs
  refine nxS (e1 := [some (.lst (ws.map .str)), some (.int (k : Int)), some (.bl en), some (.int br), some (.lst (rest.map .str)), none, none]) (st1 := []) (by simp [hs]) ?_
  by_cases hm : rest.length % 2 = 1
  · rw [if_pos hm]
    have hm2 : ((rest.length : Int) % 2 = 1) := by omega
    refine rtS ?_
    simp [hm2]
  · rw [if_neg hm]
    have hm2 : ¬ ((rest.length : Int) % 2 = 1) := by omega
    refine nxS (e1 := [some (.lst (ws.map .str)), some (.int (k : Int)), some (.bl en), some (.int br), some (.lst (rest.map .str)), none, none]) (st1 := []) (by simp [hm2]) ?_
    obtain ⟨n, hn⟩ : ∃ n, rest.length = 2 * n := ⟨rest.length / 2, by omega⟩
    have hcm := compL_map (fun t : Nat => D.int ((0 : Int) + (t : Nat) * 2)) (n0 := 0) (g := gName 6) (r := rTup (aCons (rBin fSub2 (rVar 4) (rVar 6)) (aCons (rBin fSub2 (rVar 4) (rBin fAdd (rVar 6) (rC (.int 1)))) (aNil)))) (e := [some (.lst (ws.map .str)), some (.int (k : Int)), some (.bl en), some (.int br), some (.lst (rest.map .str)), none, none]) (st := []) rfl (fun t => pairD ((rest[2 * t]?).getD "", (rest[2 * t + 1]?).getD "")) (List.range n) fun t ht => ⟨[some (.lst (ws.map .str)), some (.int (k : Int)), some (.bl en), some (.int br), some (.lst (rest.map .str)), none, some (.int ((0 : Int) + (t : Nat) * 2))], rfl, by
      have ht' := List.mem_range.mp ht
      obtain ⟨a, b, _, h2, h3⟩ := pairs2_at rest n t hn ht'
      have g1 : atI (rest.map D.str) ((0 : Int) + (t : Nat) * 2) = some (.str a) := by
        rw [show ((0 : Int) + (t : Nat) * 2) = ((2 * t : Nat) : Int) by omega, atI_nn, List.getElem?_map, h2]; rfl
      have g2 : atI (rest.map D.str) ((0 : Int) + (t : Nat) * 2 + 1) = some (.str b) := by
        rw [show ((0 : Int) + (t : Nat) * 2 + 1) = ((2 * t + 1 : Nat) : Int) by omega, atI_nn, List.getElem?_map, h3]; rfl
      rw [h2, h3]
      obtain ⟨z, hz⟩ : ∃ z, z = ((0 : Int) + (t : Nat) * 2) := ⟨_, rfl⟩
      rw [← hz] at g1 g2 ⊢
      simp [g1, g2, pairD]⟩
    have hp : ((List.range n).map fun t => pairD ((rest[2 * t]?).getD "", (rest[2 * t + 1]?).getD "")) = (pairs2 rest).map pairD := by
      refine List.ext_getElem? fun i => ?_
      rw [List.getElem?_map, List.getElem?_map]
      by_cases hi : i < n
      · obtain ⟨a, b, h1, h2, h3⟩ := pairs2_at rest n i hn hi
        rw [h1, List.getElem?_range hi]
        show some (pairD (rest[2 * i]?.getD "", rest[2 * i + 1]?.getD "")) = _
        rw [h2, h3]; rfl
      · rw [List.getElem?_eq_none (by simpa using hi), List.getElem?_eq_none (by rw [pairs2_len rest n hn]; omega)]
        rfl
    rw [hp] at hcm
    have hit := iRngS_ap (aCons (rC (.int 0)) (aCons (rCall fLen (aCons (rVar 4) (aNil))) (aCons (rC (.int 2)) (aNil)))) [some (.lst (ws.map .str)), some (.int (k : Int)), some (.bl en), some (.int br), some (.lst (rest.map .str)), none, none] [] (n := rest.length) (by simp) (by omega)
    have hn2 : (rest.length + 1) / 2 = n := by omega
    rw [hn2] at hit
    refine nxS (e1 := [some (.lst (ws.map .str)), some (.int (k : Int)), some (.bl en), some (.int br), some (.lst (rest.map .str)), some (.lst ((pairs2 rest).map pairD)), none]) (st1 := []) (by
      simp only [sSet_ap, rFrz_ap, lComp_ap]
      rw [hit]
      simp only [Res.bd_ok, List.length_nil]
      rw [show wipe [some (D.lst (ws.map .str)), some (.int (k : Int)), some (.bl en), some (.int br), some (.lst (rest.map .str)), none, none] [6] = [some (D.lst (ws.map .str)), some (.int (k : Int)), some (.bl en), some (.int br), some (.lst (rest.map .str)), none, none] from rfl, hcm]
      simp) ?_
    cases ws with
    | nil => exact absurd rfl h0
    | cons a r => simp
abbrev midRM : RS := sSeq (sIf (tVal (rBin fEq (rSl fSl (rVar 0) (oSome (rVar 1)) (oSome (rBin fAdd (rVar 1) (rC (.int 1))))) (rFrz (lDisp (aCons (rC (.str "breaks")) (aNil))))))
  (sSeq (sIf (tOr (tVal (rBin fLt (rCall fLen (aCons (rVar 0) (aNil))) (rBin fAdd (rVar 1) (rC (.int 2))))) (tVal (rBin fNotIn (rBin fSub2 (rVar 0) (rBin fAdd (rVar 1) (rC (.int 1)))) (rTup (aCons (rC (.str "1")) (aCons (rC (.str "2")) (aCons (rC (.str "3")) (aNil))))))))
  (sRet (rC .non))
  (sNx))
  (sSeq (sSet 3 (rCall fIntS (aCons (rBin fSub2 (rVar 0) (rBin fAdd (rVar 1) (rC (.int 1)))) (aNil))))
  (sSet 1 (rBin fAdd (rVar 1) (rC (.int 2))))))
  (sNx)) tailRM
theorem mid_rm {ws : List Str} (h0 : ws ≠ []) (hl : ws.length ≤ 100000) (k : Nat) (en : Bool) : midRM [some (.lst (ws.map .str)), some (.int (k : Int)), some (.bl en), some (.int 0), none, none, none] [] = .rt (rdBrk ws en k) [] := by
  have hs : cut (ws.map D.str) (some (k : Int)) (some ((k : Int) + 1)) = ws[k]?.toList.map D.str := by
    rw [cut_map, cut_oneN]
  have heq : ∀ st : Store, fEq (.lst (ws[k]?.toList.map .str)) (.lst [.str "breaks"]) st = .ok (.bl (decide (ws[k]? = some ("breaks" : Str)))) st := fun st => fEq_opt _ _
  unfold rdBrk
  by_cases hb : ws[k]? = some ("breaks" : Str)
  · rw [if_pos hb]
    have hk : k < ws.length := (List.getElem?_eq_some_iff.mp hb).1
    have hd : decide (ws[k]? = some ("breaks" : Str)) = true := decide_eq_true hb
    rw [hd] at heq
    cases hz : ws[k + 1]? with
    | none =>
      have hlen : ws.length ≤ k + 1 := List.getElem?_eq_none_iff.mp hz
      have hlt : (ws.length : Int) < (k : Int) + 2 := by omega
      refine rtS ?_
      simp [hs, heq, hlt]
    | some z =>
      have hlen : k + 1 < ws.length := (List.getElem?_eq_some_iff.mp hz).1
      have hlt : ¬ ((ws.length : Int) < (k : Int) + 2) := by omega
      have hat : atI (ws.map D.str) ((k : Int) + 1) = some (.str z) := by
        rw [show ((k : Int) + 1) = ((k + 1 : Nat) : Int) by omega, atI_nn, List.getElem?_map, hz]; rfl
      have hin : ∀ st : Store, inB (.str z) (.tup [.str "1", .str "2", .str "3"]) st = some (decide (z ∈ (["1", "2", "3"] : List Str))) := fun st => inB_tstrs z ["1", "2", "3"]
      by_cases hq : z ∈ (["1", "2", "3"] : List Str)
      · have hf : ∀ st : Store, fIntS [.str z] st = .ok (.int (figI z)) st := fun st => fIntS_ok hq
        dsimp only
        rw [if_pos hq]
        rw [decide_eq_true hq] at hin
        have := tail_rm h0 hl (k + 2) en (figI z) none
        rw [show ((k + 2 : Nat) : Int) = (k : Int) + 2 by omega] at this
        refine nxS (e1 := [some (.lst (ws.map .str)), some (.int ((k : Int) + 2)), some (.bl en), some (.int (figI z)), none, none, none]) (st1 := []) ?_ this
        simp [hs, heq, hlt, hat, hin, hf]
      · dsimp only
        rw [if_neg hq]
        rw [decide_eq_false hq] at hin
        refine rtS ?_
        simp [hs, heq, hlt, hat, hin]
  · rw [if_neg hb]
    rw [decide_eq_false hb] at heq
    refine nxS (e1 := [some (.lst (ws.map .str)), some (.int (k : Int)), some (.bl en), some (.int 0), none, none, none]) (st1 := []) (by simp [hs, heq]) ?_
    exact tail_rm h0 hl k en 0 none
end Py

set_option Elab.async false
set_option linter.all false
set_option maxRecDepth 100000
set_option maxHeartbeats 2000000
set_option autoImplicit false
/-! texts, read -/
namespace Py
open PySem
theorem frz_belT {st : Store} {d : D} (h : bel 0 d = true) : frz st d = some d := by
  unfold frz frz0
  cases d with
  | ref i => simp at h
  | _ => dsimp only; rw [if_pos h]
theorem rdMade_bel (ws : List Str) : bel 0 (rdMade ws) = true := by
  have h1 : ∀ en br k, bel 0 (rdNeeds ws en br k) = true := fun en br k => by
    unfold rdNeeds
    split
    · rfl
    · simp [pairD]
  have h2 : ∀ en k, bel 0 (rdBrk ws en k) = true := fun en k => by
    unfold rdBrk
    split
    · split
      · rfl
      · split
        · exact h1 _ _ _
        · rfl
    · exact h1 _ _ _
  unfold rdMade
  split <;> exact h2 _ _
theorem m_rmade {ws : List Str} (h0 : ws ≠ []) (hl : ws.length ≤ 100000) : m_read_made [.lst (ws.map .str)] = .ok (rdMade ws) := by
  have hbel := rdMade_bel ws
  have hs : cut (ws.map D.str) (some 1) (some 2) = ws[1]?.toList.map D.str := by
    have := cut_oneN ws 1
    rw [cut_map]
    exact congrArg (List.map D.str) this
  have heq : ∀ st : Store, fEq (.lst (ws[1]?.toList.map .str)) (.lst [.str "ends"]) st = .ok (.bl (decide (ws[1]? = some ("ends" : Str)))) st := fun st => fEq_opt _ _
  refine pureOf_rt (st := []) (d := rdMade ws) rfl ?_ (frz_belT hbel)
  unfold run_read_made rdMade
  refine nxS (e1 := [some (.lst (ws.map .str)), some (.int 1), none, none, none, none, none]) (st1 := []) (by simp) ?_
  refine nxS (e1 := [some (.lst (ws.map .str)), some (.int 1), some (.bl (decide (ws[1]? = some ("ends" : Str)))), none, none, none, none]) (st1 := []) (by simp [hs, heq]) ?_
  by_cases h : ws[1]? = some ("ends" : Str)
  · rw [if_pos h, decide_eq_true h]
    refine nxS (e1 := [some (.lst (ws.map .str)), some (.int 2), some (.bl true), none, none, none, none]) (st1 := []) (by simp) ?_
    refine nxS (e1 := [some (.lst (ws.map .str)), some (.int 2), some (.bl true), some (.int 0), none, none, none]) (st1 := []) (by simp) ?_
    exact mid_rm h0 hl 2 true
  · rw [if_neg h, decide_eq_false h]
    refine nxS (e1 := [some (.lst (ws.map .str)), some (.int 1), some (.bl false), none, none, none, none]) (st1 := []) (by simp) ?_
    refine nxS (e1 := [some (.lst (ws.map .str)), some (.int 1), some (.bl false), some (.int 0), none, none, none]) (st1 := []) (by simp) ?_
    exact mid_rm h0 hl 1 false
theorem pd_tupA {l : List D} (h : ∀ x ∈ l, ∀ n, pd n x = true) (n : Nat) : pd n (.tup l) = true := by
  cases n with
  | zero => rfl
  | succ n => rw [pd_tup, List.all_eq_true]; exact fun x hx => h x hx n
theorem pd_strA (x : Str) (n : Nat) : pd n (.str x) = true := by cases n <;> rfl
theorem pd_nonA (n : Nat) : pd n .non = true := by cases n <;> rfl
theorem rdMade_pd (ws : List Str) : ∀ n, pd n (rdMade ws) = true := by
  have h1 : ∀ en br k n, pd n (rdNeeds ws en br k) = true := fun en br k n => by
    unfold rdNeeds
    split
    · exact pd_nonA n
    · refine pd_tupA (fun x hx n => ?_) n
      simp only [List.mem_cons, List.not_mem_nil, or_false] at hx
      rcases hx with e | e | e | e | e <;> subst e
      · exact pd_strA _ _
      · refine pd_tupA (fun x hx n => ?_) n
        obtain ⟨p, _, rfl⟩ := List.mem_map.mp hx
        refine pd_tupA (fun x hx n => ?_) n
        simp only [List.mem_cons, List.not_mem_nil, or_false] at hx
        rcases hx with e | e <;> subst e <;> exact pd_strA _ _
      · exact pd_strA _ _
      · cases n <;> rfl
      · cases n <;> rfl
  have h2 : ∀ en k n, pd n (rdBrk ws en k) = true := fun en k n => by
    unfold rdBrk
    split
    · split
      · exact pd_nonA n
      · split
        · exact h1 _ _ _ _
        · exact pd_nonA n
    · exact h1 _ _ _ _
  intro n
  unfold rdMade
  split <;> exact h2 _ _ _
theorem rdRow_pb (ws : List Str) : bel 0 (rdRow ws) = true ∧ ∀ n, pd n (rdRow ws) = true := by
  unfold rdRow
  split
  · split
    · refine ⟨by simp, fun n => pd_tupA (fun x hx n => ?_) n⟩
      simp only [List.mem_cons, List.not_mem_nil, or_false] at hx
      rcases hx with e | e <;> subst e
      · exact pd_strA _ _
      · refine pd_tupA (fun x hx n => ?_) n
        rcases List.mem_cons.mp hx with e | e
        · subst e; exact pd_strA _ _
        · obtain ⟨p, _, rfl⟩ := List.mem_map.mp e
          exact pd_strA _ _
    · split
      · refine ⟨by simp [rdMade_bel], fun n => pd_tupA (fun x hx n => ?_) n⟩
        simp only [List.mem_cons, List.not_mem_nil, or_false] at hx
        rcases hx with e | e <;> subst e
        · exact pd_strA _ _
        · exact rdMade_pd _ _
      · exact ⟨rfl, pd_nonA⟩
  · exact ⟨rfl, pd_nonA⟩
theorem splitC_lenP (c : Nat) : ∀ l : List Nat, (splitC c l).length ≤ l.length + 1 ∧ ∀ p ∈ splitC c l, p.length ≤ l.length
  | [] => ⟨by simp [splitC], fun p h => by simp [splitC] at h; subst h; simp⟩
  | y :: r => by
    obtain ⟨a, b⟩ := splitC_lenP c r
    unfold splitC
    split
    · refine ⟨by simp; omega, fun p h => ?_⟩
      rcases List.mem_cons.mp h with h | h
      · subst h; simp
      · have := b p h; simp; omega
    · split
      · refine ⟨by simp, fun p h => ?_⟩
        simp at h; subst h; simp
      · rename_i p' ps q
        rw [q] at a b
        refine ⟨by simp at a ⊢; omega, fun p h => ?_⟩
        rcases List.mem_cons.mp h with h | h
        · have := b p' (by simp); subst h; simp; omega
        · have := b p (by simp [h]); simp; omega
theorem splitS_len (c : Nat) (z : Str) : (splitS c z).length ≤ z.length + 1 ∧ ∀ p ∈ splitS c z, p.length ≤ z.length := by
  obtain ⟨a, b⟩ := splitC_lenP c z.cps.toList
  rw [str_len_list] at a b
  unfold splitS
  refine ⟨by rw [List.length_map]; exact a, fun p hp => ?_⟩
  obtain ⟨q, hq, rfl⟩ := List.mem_map.mp hp
  have := b q hq
  show (Array.size _) ≤ _
  simpa using this
theorem m_rrow {z : Str} (hl : z.length ≤ 10000) : m_read_row [.str z] = .ok (rdRow (splitS 32 z)) := by
  have hsp : ∀ st : Store, fSplit (.str z) [.str " "] st = .ok (.lst ((splitS 32 z).map .str)) st := fun st => fSplit_ss sp_cps (by omega) z (by omega)
  obtain ⟨hb, hpd⟩ := rdRow_pb (splitS 32 z)
  have hln := (splitS_len 32 z).1
  obtain ⟨ws, hws⟩ : ∃ ws, ws = splitS 32 z := ⟨_, rfl⟩
  rw [← hws] at hsp hb hln ⊢
  refine pureOf_rt (st := []) (d := rdRow ws) rfl ?_ (frz_belT hb)
  unfold run_read_row
  refine nxS (e1 := [some (.str z), some (.lst (ws.map .str))]) (st1 := []) (by simp [isStr_str, hsp]) ?_
  match ws, hln with
  | [], _ => refine rtS ?_; simp [rdRow]
  | [a], _ => refine rtS ?_; simp [rdRow]
  | [a, x], _ => refine rtS ?_; simp [rdRow]
  | a :: x :: y :: r, hln =>
    have hlt : ¬ (((a :: x :: y :: r).length : Int) < 3) := by simp; omega
    have hlt2 : ¬ ((r.length : Int) + 1 + 1 + 1 < 3) := by omega
    have hc : cut ((a :: x :: y :: r).map D.str) (some 2) none = (y :: r).map D.str := by
      rw [cut_drop _ (by omega)]; rfl
    simp only [List.map_cons] at hc
    have hcap : r.length + 1 + 1 ≤ 16777216 := by simp at hln; omega
    have hcap2 : 1 + (r.length + 1) ≤ 16777216 := by simp at hln; omega
    refine nxS (e1 := [some (.str z), some (.lst ((a :: x :: y :: r).map .str))]) (st1 := []) (by simp [hlt2]) ?_
    unfold rdRow
    dsimp only
    by_cases h1 : x = "as"
    · rw [if_pos h1]
      refine rtS ?_
      subst h1
      simp [hc, hcap, hcap2]
    · rw [if_neg h1]
      refine nxS (e1 := [some (.str z), some (.lst ((a :: x :: y :: r).map .str))]) (st1 := []) (by simp [h1]) ?_
      by_cases h2 : x = "made"
      · rw [if_pos h2]
        have hm := m_rmade (ws := y :: r) (by simp) (by simp at hln ⊢; omega)
        simp only [List.map_cons] at hm
        refine rtS ?_
        subst h2
        simp [hc, hm]
      · rw [if_neg h2]
        simp [h2]
/-- what read does with any text -/
theorem m_readT {z : Str} (hl : z.length ≤ 10000) : (∃ b, OkB b ∧ rdText z = encB b ∧ textB b = z ∧ m_read [.str z] = .ok (encB b)) ∨ (m_read [.str z] = .exn "NoText" ∧ ∀ b, OkB b → textB b ≠ z) := by
  have hpb : bel 0 (rdText z) = true ∧ ∀ n, pd n (rdText z) = true := by
    unfold rdText
    split
    · exact ⟨rfl, fun n => pd_tupA (fun x hx => by cases hx) n⟩
    · refine ⟨?_, fun n => pd_tupA (fun x hx n => ?_) n⟩
      · rw [bel_tup, List.all_eq_true]
        intro x hx
        obtain ⟨p, _, rfl⟩ := List.mem_map.mp hx
        exact (rdRow_pb _).1
      · obtain ⟨p, _, rfl⟩ := List.mem_map.mp hx
        exact (rdRow_pb _).2 n
  have hset : sSeq (sSet 1 (rTup (aNil)))
    (sIf (tVal (rBin fNe (rVar 0) (rC (.str ""))))
  (sSet 1 (rCall fTuple (aCons (rFrz (lComp [2] (iAny (rMeth isStr fSplit (rVar 0) (aCons (rC (.str "\n")) (aNil)))) (gName 2) (tYes) (rP m_read_row (aCons (rVar 2) (aNil))))) (aNil))))
  (sNx)) [some (.str z), none, none] [] = .nx [some (.str z), some (rdText z), none] [] := by
    have hsp : ∀ st : Store, fSplit (.str z) [.str "\n"] st = .ok (.lst ((splitS 10 z).map .str)) st := fun st => fSplit_ss nl_cps (by omega) z (by omega)
    refine nxS (e1 := [some (.str z), some (.tup []), none]) (st1 := []) (by simp) ?_
    unfold rdText
    by_cases h : z = ""
    · rw [if_pos h]; simp [h]
    · rw [if_neg h]
      have hc := compL_map D.str (n0 := 0) (g := gName 2) (r := rP m_read_row (aCons (rVar 2) (aNil))) (e := [some (.str z), some (.tup []), none]) (st := []) rfl (fun p => rdRow (splitS 32 p)) (splitS 10 z) fun p hp => ⟨[some (.str z), some (.tup []), some (.str p)], rfl, by
        have := m_rrow (z := p) (by have := (splitS_len 10 z).2 p hp; omega)
        simp [this]⟩
      simp [h, isStr_str, hsp, hc]
  have hR : ∀ R, (sIf (tOr (tNot (tVal (rP m_are_books (aCons (rVar 1) (aNil))))) (tVal (rBin fNe (rP m_text_of (aCons (rVar 1) (aNil))) (rVar 0))))
  (sRaise "NoText")
  (sNx)) [some (.str z), some (rdText z), none] [] = R → run_read [some (.str z), none, none] [] = R.bind (sRet (rVar 1)) := fun R hR => by
    unfold run_read
    refine nxS (e1 := [some (.str z), none, none]) (st1 := []) (by simp) ?_
    have e : ∀ (a c d : RS) (e : Env) (st : Store), sSeq a (sSeq c d) e st = sSeq (sSeq a c) d e st := fun a c d e st => by
      unfold sSeq
      cases a e st <;> rfl
    rw [e]
    refine nxS hset ?_
    rw [sSeq_ap, hR]
  rcases books_t (hpb.2 6) hpb.1 with ⟨b, h1, h2, h3⟩ | ⟨h1, h2⟩
  · have ht := m_textof h2
    by_cases hq : textB b = z
    · refine .inl ⟨b, h2, h1, hq, ?_⟩
      refine pureOf_rt (st := []) (d := encB b) rfl ?_ (frz_belT (bel_encB 0 b))
      have := hR (.nx [some (.str z), some (rdText z), none] []) (by
        have hne : fNe (.str z) (.str z) ([] : Store) = .ok (.bl false) [] := by simp
        rw [h1] at h3 ⊢
        simp [h3, ht, hq])
      rw [h1] at this
      exact this.trans (by simp)
    · refine .inr ⟨?_, fun b' hb' e => ?_⟩
      · refine pureOf_exn (e := [some (.str z), some (rdText z), none]) (st := []) rfl ?_
        exact (hR (.exn "NoText" [some (.str z), some (rdText z), none] []) (by
          rw [h1] at h3 ⊢
          simp [h3, ht, hq])).trans (by simp)
      · have := rdText_ok hb'
        rw [e, h1] at this
        have t2 := m_textof hb'
        rw [← this, ht] at t2
        injection t2 with t2
        injection t2 with t2
        exact hq (t2.trans e)
  · refine .inr ⟨?_, fun b' hb' e => ?_⟩
    · refine pureOf_exn (e := [some (.str z), some (rdText z), none]) (st := []) rfl ?_
      exact (hR (.exn "NoText" [some (.str z), some (rdText z), none] []) (by simp [h2, hpb.1])).trans (by simp)
    · exact h1 b' hb' (by rw [← e, rdText_ok hb'])
end Py

set_option Elab.async false
set_option linter.all false
set_option maxRecDepth 100000
set_option maxHeartbeats 2000000
set_option autoImplicit false
/-! k29: written as the law writes, and read back -/
namespace Py
open PySem
theorem cpsA (a b : Str) : (a ++ b).cps.toList = a.cps.toList ++ b.cps.toList := by show (a.cps ++ b.cps).toList = _; simp
theorem lenA (a b : Str) : (a ++ b).length = a.length + b.length := by
  rw [← str_len_list, cpsA, List.length_append, str_len_list, str_len_list]
theorem add_s {a b : Str} (h : a.length + b.length ≤ 16777216) (st : Store) : fAdd (.str a) (.str b) st = .ok (.str (a ++ b)) st := by
  rw [fAdd_ss, if_pos (by rw [cap_def]; exact h)]
theorem joinN_cons (c : Nat) : ∀ (ps : List (List Nat)) (p : List Nat), joinN [c] (p :: ps) = p ++ ps.flatMap fun q => c :: q
  | [], p => by simp [joinN]
  | q :: r, p => by
    show p ++ ([c] ++ joinN [c] (q :: r)) = _
    rw [joinN_cons c r q]
    simp
theorem joinN_nil : ∀ ps : List (List Nat), joinN [] ps = ps.flatten
  | [] => rfl
  | [p] => by simp [joinN]
  | p :: q :: r => by
    show p ++ ([] ++ joinN [] (q :: r)) = _
    rw [joinN_nil (q :: r)]
    simp
theorem rowT_cps (w : Str) (ws : List Str) : (joinS " " (w :: ws)).cps.toList = w.cps.toList ++ ws.flatMap fun x => 32 :: x.cps.toList := by
  unfold joinS
  rw [sp_cps]
  show joinN [32] ((w :: ws).map fun y => y.cps.toList) = _
  rw [List.map_cons, joinN_cons, List.flatMap_map]
theorem emp_cps : ("" : Str).cps.toList = [] := by decide +kernel
theorem emp_len : ("" : Str).length = 0 := by decide +kernel
theorem join_emp (ys : List Str) : (joinS "" ys).cps.toList = ys.flatMap fun y => y.cps.toList := by
  unfold joinS
  rw [emp_cps]
  show joinN [] (ys.map fun y => y.cps.toList) = _
  rw [joinN_nil, List.flatMap_def]
theorem asL_c : ("as" : Str).length = 2 := by decide +kernel
theorem madeL_c : ("made" : Str).length = 4 := by decide +kernel
theorem endsL_c : (" ends" : Str).length = 5 := by decide +kernel
theorem brkL_c : (" breaks " : Str).length = 8 := by decide +kernel
theorem ends_c : (" ends" : Str).cps.toList = 32 :: ("ends" : Str).cps.toList := by decide +kernel
theorem brk_c : (" breaks " : Str).cps.toList = 32 :: (("breaks" : Str).cps.toList ++ [32]) := by decide +kernel
theorem rep_c (z : Str) (n : Nat) : (repS z n).cps.toList = (List.replicate n z.cps.toList).flatten := rfl
theorem fMulS_ok {z : Str} {k : Int} (h1 : 1 ≤ z.length) (h2 : z.length ≤ 1000) (h3 : 0 ≤ k) (h4 : k ≤ 1000) (st : Store) : fMulS (.str z) (.int k) st = .ok (.str (repS z k.toNat)) st := by
  unfold fMulS
  dsimp only
  rw [if_pos ⟨h1, h2, h3, h4⟩]
def needT (p : Str × Str) : Str := ((" " : Str) ++ p.1) ++ " " ++ p.2
theorem needT_c (ns : List (Str × Str)) : (ns.map needT).flatMap (fun y => y.cps.toList) = (needW ns).flatMap fun x => 32 :: x.cps.toList := by
  induction ns with
  | nil => rfl
  | cons p l ih =>
    rw [List.map_cons, List.flatMap_cons, ih]
    show _ = (p.1 :: p.2 :: needW l).flatMap _
    simp only [needT, cpsA, sp_cps, List.flatMap_cons]
    simp
theorem how_len {h : Str} (hh : h ∈ hows) : h.length ≤ 5 := by
  unfold hows at hh
  simp only [List.mem_cons, List.not_mem_nil, or_false] at hh
  rcases hh with e | e | e <;> rw [e] <;> decide +kernel
theorem span_len {h : Str} (hh : h ∈ spans) : h.length ≤ 5 := by
  unfold spans at hh
  simp only [List.mem_cons, List.not_mem_nil, or_false] at hh
  rcases hh with e | e | e <;> rw [e] <;> decide +kernel
theorem needT_len {p : Str × Str} (h : p.1 ∈ hows ∧ Word p.2) : (needT p).length ≤ 15 := by
  have a := how_len h.1
  have b := h.2.2.1
  unfold needT
  rw [lenA, lenA, lenA, sp_len]
  omega
def madeT (w : Str) (ns : List (Str × Str)) (sp : Str) (en : Bool) (br : Int) : Str :=
  let r1 := ((((w ++ " ") ++ "made") ++ " ") ++ sp) ++ repS " ends" (b2i en).toNat
  let r2 := if 0 < br then (r1 ++ " breaks ") ++ figS br else r1
  r2 ++ joinS "" (ns.map needT)
theorem madeT_eq (w : Str) (ns : List (Str × Str)) (sp : Str) (en : Bool) (br : Int) : madeT w ns sp en br = rowT (w, .made ns sp en br) := by
  refine str_ext ?_
  unfold rowT rowW wordsM madeT
  dsimp only
  rw [rowT_cps, cpsA, join_emp, needT_c, List.flatMap_cons, List.flatMap_cons, List.flatMap_append, List.flatMap_append]
  have e : ((((w ++ (" " : Str)) ++ ("made" : Str)) ++ (" " : Str)) ++ sp ++ repS " ends" (b2i en).toNat).cps.toList = w.cps.toList ++ (32 :: ("made" : Str).cps.toList ++ (32 :: sp.cps.toList ++ (endsW en).flatMap fun x => 32 :: x.cps.toList)) := by
    simp only [cpsA, sp_cps, rep_c, ends_c]
    cases en <;> simp [endsW, b2i]
  by_cases h : 0 < br
  · rw [if_pos h]
    rw [cpsA, cpsA, e, brk_c]
    simp [brkW, h, figS]
  · rw [if_neg h, e]
    simp [brkW, h]
theorem asT_eq (w v : Str) : ((((w ++ (" " : Str)) ++ ("as" : Str)) ++ (" " : Str)) ++ v) = rowT (w, .as v) := by
  refine str_ext ?_
  unfold rowT rowW wordsM
  dsimp only
  rw [rowT_cps]
  simp only [cpsA, sp_cps, List.flatMap_cons, List.flatMap_nil]
  simp
theorem k29_body (v0 v1 : Option D) {r : Str × Mk} (hr : Word r.1 ∧ OkM r.2) (l : List Str) (hl : l.length ≤ 10) (o5 o6 o7 o8 : Option D) : lp_law_k29_1 [v0, v1, some (.ref 0), some (.str r.1), some (encM r.2), o5, o6, o7, o8] [.lst (l.map .str)] = .nx [v0, v1, some (.ref 0), some (.str r.1), some (encM r.2), some (.str (rowT r)), o6, o7, o8] [.lst ((l ++ [rowT r]).map .str)] := by
  obtain ⟨w, m⟩ := r
  have hw : w.length ≤ 8 := hr.1.2.1
  have hcap : l.length < 16777216 := by omega
  have a1 := add_s (a := w) (b := " ") (by rw [sp_len]; omega)
  cases m with
  | as v =>
    have hv := hr.2.2.1
    have a2 := add_s (a := w ++ " ") (b := "as") (by rw [lenA, sp_len, asL_c]; omega)
    have a3 := add_s (a := (w ++ " ") ++ "as") (b := " ") (by rw [lenA, lenA, sp_len, asL_c]; omega)
    have a4 := add_s (a := ((w ++ " ") ++ "as") ++ " ") (b := v) (by rw [lenA, lenA, lenA, sp_len, asL_c]; omega)
    rw [asT_eq] at a4
    unfold lp_law_k29_1
    refine nxS (e1 := [v0, v1, some (.ref 0), some (.str w), some (encM (.as v)), some (.str ((w ++ " ") ++ "as")), o6, o7, o8]) (st1 := [.lst (l.map .str)]) (by simp [encM, a1, a2, -fAdd_ss]) ?_
    refine nxS (e1 := [v0, v1, some (.ref 0), some (.str w), some (encM (.as v)), some (.str (rowT (w, .as v))), o6, o7, o8]) (st1 := [.lst (l.map .str)]) (by simp [encM, a3, a4, -fAdd_ss]) ?_
    simp [hcap]
  | made ns sp en br =>
    obtain ⟨h1, h2, h3, h4, h5⟩ := hr.2
    have hsp := span_len h3
    have hmk : ¬ (("made" : Str) = "as") := by decide +kernel
    have a2 := add_s (a := w ++ " ") (b := "made") (by rw [lenA, sp_len, madeL_c]; omega)
    have a3 := add_s (a := (w ++ " ") ++ "made") (b := " ") (by rw [lenA, lenA, sp_len, madeL_c]; omega)
    have a4 := add_s (a := ((w ++ " ") ++ "made") ++ " ") (b := sp) (by rw [lenA, lenA, lenA, sp_len, madeL_c]; omega)
    have hb2 : 0 ≤ b2i en ∧ b2i en ≤ 1 := by cases en <;> decide
    have hrep : (repS " ends" (b2i en).toNat).length ≤ 5 := by cases en <;> decide +kernel
    have a5 := add_s (a := (((w ++ " ") ++ "made") ++ " ") ++ sp) (b := repS " ends" (b2i en).toNat) (by rw [lenA, lenA, lenA, lenA, sp_len, madeL_c]; omega)
    have hmul := fMulS_ok (z := " ends") (k := b2i en) (by rw [endsL_c]; omega) (by rw [endsL_c]; omega) hb2.1 (by omega)
    obtain ⟨r1, hr1⟩ : ∃ r1, r1 = ((((w ++ (" " : Str)) ++ "made") ++ " ") ++ sp) ++ repS " ends" (b2i en).toNat := ⟨_, rfl⟩
    have hr1l : r1.length ≤ 30 := by rw [hr1, lenA, lenA, lenA, lenA, lenA, sp_len, madeL_c]; omega
    rw [← hr1] at a5
    have a6 := add_s (a := r1) (b := " breaks ") (by rw [brkL_c]; omega)
    have hfl : (figS br).length = 1 := rfl
    have a7 := add_s (a := r1 ++ " breaks ") (b := figS br) (by rw [lenA, brkL_c, hfl]; omega)
    have hst := fun st : Store => fStrI_ok (st := st) (i := br) h4 (by omega)
    obtain ⟨r2, hr2⟩ : ∃ r2, r2 = if 0 < br then (r1 ++ (" breaks " : Str)) ++ figS br else r1 := ⟨_, rfl⟩
    have hr2l : r2.length ≤ 40 := by
      rw [hr2]
      split
      · rw [lenA, lenA, brkL_c, hfl]; omega
      · omega
    have hjs : ((ns.map needT).map fun y => y.length).sum ≤ 45 := by
      have := sum_le (l := ns.map needT) (k := 15) fun w hw => by
        obtain ⟨p, hp, rfl⟩ := List.mem_map.mp hw
        exact needT_len (h2 p hp)
      rw [List.length_map] at this
      omega
    have hjl : (joinS "" (ns.map needT)).length ≤ 45 := by
      have := joinS_len "" (ns.map needT)
      rw [emp_len] at this
      omega
    have a8 := add_s (a := r2) (b := joinS "" (ns.map needT)) (by omega)
    have hfin : r2 ++ joinS "" (ns.map needT) = rowT (w, .made ns sp en br) := by
      rw [← madeT_eq, hr2, hr1]; rfl
    rw [hfin] at a8
    have hj := fun st : Store => fJoin_ss (st := st) "" (ns.map needT) (by rw [emp_len]; omega)
    have hc := compL_map pairD (n0 := 1) (g := gTup [gName 6, gName 7]) (r := rBin fAdd (rBin fAdd (rBin fAdd (rC (.str " ")) (rVar 6)) (rC (.str " "))) (rVar 7)) (e := [v0, v1, some (.ref 0), some (.str w), some (encM (.made ns sp en br)), some (.str r2), none, none, o8]) (st := [.lst (l.map .str)]) rfl (fun p => D.str (needT p)) ns fun p hp => ⟨[v0, v1, some (.ref 0), some (.str w), some (encM (.made ns sp en br)), some (.str r2), some (.str p.1), some (.str p.2), o8], rfl, by
      have b1 := how_len (h2 p hp).1
      have b2 := (h2 p hp).2.2.1
      have c1 := add_s (a := " ") (b := p.1) (by rw [sp_len]; omega)
      have c2 := add_s (a := (" " : Str) ++ p.1) (b := " ") (by rw [lenA, sp_len]; omega)
      have c3 := add_s (a := ((" " : Str) ++ p.1) ++ " ") (b := p.2) (by rw [lenA, lenA, sp_len]; omega)
      simp [c1, c2, c3, needT, -fAdd_ss]⟩
    have e : (ns.map fun p => D.str (needT p)) = (ns.map needT).map .str := by rw [List.map_map]; rfl
    rw [e] at hc
    have hfi : ∀ (c : Bool) (st : Store), fInt [.bl c] st = .ok (.int (b2i c)) st := fun _ _ => rfl
    unfold lp_law_k29_1
    refine nxS (e1 := [v0, v1, some (.ref 0), some (.str w), some (encM (.made ns sp en br)), some (.str ((w ++ " ") ++ "made")), o6, o7, o8]) (st1 := [.lst (l.map .str)]) (by simp [encM, a1, a2, -fAdd_ss]) ?_
    refine nxS (e1 := [v0, v1, some (.ref 0), some (.str w), some (encM (.made ns sp en br)), some (.str (rowT (w, .made ns sp en br))), o6, o7, o8]) (st1 := [.lst (l.map .str)]) ?_ (by simp [hcap])
    rw [sIf_ap]
    have ht : tVal (rBin fEq (rBin fSub2 (rVar 4) (rC (.int 0))) (rC (.str "as"))) [v0, v1, some (.ref 0), some (.str w), some (encM (.made ns sp en br)), some (.str ((w ++ " ") ++ "made")), o6, o7, o8] [.lst (l.map .str)] = .ok false [.lst (l.map .str)] := by simp [encM, hmk]
    rw [ht, Res.toS_ok, if_neg (by decide)]
    refine nxS (e1 := [v0, v1, some (.ref 0), some (.str w), some (encM (.made ns sp en br)), some (.str r1), o6, o7, o8]) (st1 := [.lst (l.map .str)]) (by simp [encM, a3, a4, hfi, hmul, a5, -fAdd_ss]) ?_
    refine nxS (e1 := [v0, v1, some (.ref 0), some (.str w), some (encM (.made ns sp en br)), some (.str r2), o6, o7, o8]) (st1 := [.lst (l.map .str)]) (by
      by_cases hb : 0 < br
      · rw [hr2]; simp [encM, hb, a6, a7, hst, -fAdd_ss]
      · rw [hr2]; simp [encM, hb]) ?_
    have hsub : ∀ st : Store, fSub2 (encM (.made ns sp en br)) (.int 1) st = .ok (.tup (ns.map pairD)) st := fun st => by simp [encM]
    simp [hsub, isStr_str, hc, hj, a8, -fAdd_ss, -List.map_map]
end Py

set_option Elab.async false
set_option linter.all false
set_option maxRecDepth 100000
set_option maxHeartbeats 2000000
set_option autoImplicit false
/-! k29: the law -/
namespace Py
open PySem
theorem toldT_ok {i : Nat} {r : RE} {e : Env} {st st1 : Store} {d : D} (h : r e st = .ok d st1) : sTold i r e st = .rt d st1 := by unfold sTold; rw [h]
theorem toldT_exn {i : Nat} {r : RE} {e : Env} {st st1 : Store} {C : Str} {j : Nat} (h : r e st = .exn C st1) (hj : errIx C = some j) (hi : i < e.length) : sTold i r e st = .rt (refD j) st1 := by
  unfold sTold
  rw [h]
  dsimp only
  rw [hj]
  dsimp only
  rw [if_pos hi]
theorem dropB_ok {b : Bks} (h : OkB b) (k : Nat) : OkB (b.drop k) :=
  ⟨by have := h.len; rw [List.length_drop]; omega, fun r hr => h.row r (List.mem_of_mem_drop hr), by
    unfold names; rw [List.map_drop]; exact (show (names b).Pairwise _ from h.srt).sublist (List.drop_sublist _ _)⟩
theorem k29_loop (v0 v1 o8 : Option D) : ∀ (c : Bks) (l : List Str) (o3 o4 o5 o6 o7 : Option D), (∀ r ∈ c, Word r.1 ∧ OkM r.2) → l.length + c.length ≤ 10 → ∃ o3' o4' o5', forL 1 (gTup [gName 3, gName 4]) lp_law_k29_1 (c.map encR) [v0, v1, some (.ref 0), o3, o4, o5, o6, o7, o8] [.lst (l.map .str)] = .nx [v0, v1, some (.ref 0), o3', o4', o5', o6, o7, o8] [.lst ((l ++ c.map rowT).map .str)]
  | [], l, o3, o4, o5, o6, o7, _, _ => ⟨o3, o4, o5, by simp [forL]⟩
  | r :: c, l, o3, o4, o5, o6, o7, h, hl => by
    have hb := k29_body v0 v1 (h r (by simp)) l (by simp at hl; omega) o5 o6 o7 o8
    obtain ⟨a, b, d, ih⟩ := k29_loop v0 v1 o8 c (l ++ [rowT r]) (some (.str r.1)) (some (encM r.2)) (some (.str (rowT r))) o6 o7 (fun x hx => h x (by simp [hx])) (by simp at hl ⊢; omega)
    refine ⟨a, b, d, ?_⟩
    rw [List.map_cons, forL_nx (n0 := 1) (g := gTup [gName 3, gName 4]) (e1 := [v0, v1, some (.ref 0), some (.str r.1), some (encM r.2), o5, o6, o7, o8]) rfl hb (by rfl), ih]
    simp
theorem t_read29 {b : Bks} (h : OkB b) : m_law_told_k29 [.glo "read", .str (textB b)] = .ok (encB b) := by
  have hl := textB_len h
  rcases m_readT (z := textB b) (by omega) with ⟨b', h1, h2, h3, h4⟩ | ⟨_, h2⟩
  · rw [rdText_ok h] at h2
    rw [← h2] at h4
    refine pureOf_rt (st := []) (d := encB b) rfl ?_ (frz_belT (bel_encB 0 b))
    refine toldT_ok ?_
    simp [rLoc, tab_law_told_k29, h4]
  · exact absurd rfl (h2 b h)
theorem k29_tail {ns : List Int} {b0 b : Bks} (hb : OkB b) (hsel : (sIf (tVal (rBin fEq (rP m_law_mixed (aCons (rVar 0) (aCons (rC (.int 1)) (aCons (rC (.int 12)) (aNil))))) (rC (.int 0))))
  (sSet 1 (rTup (aNil)))
  (sNx)) [some (.scr ns), some (encB b0), none, none, none, none, none, none, none] [] = .nx [some (.scr ns), some (encB b), none, none, none, none, none, none, none] []) : ∃ st', tl_law_k29_1 [some (.scr ns), some (encB b0), none, none, none, none, none, none, none] [] = .rt (.bl true) st' := by
  obtain ⟨o3, o4, o5, hL⟩ := k29_loop (some (.scr ns)) (some (encB b)) none b [] none none none none none hb.row (by have := hb.len; simp; omega)
  rw [List.nil_append] at hL
  have hsh := m_shownB hb
  have ht := t_read29 hb
  have hit : ∀ st : Store, itAny (encB b) st = .ok (b.map encR) st := fun st => rfl
  have hj : fJoin (.str "\n") [.ref 0] [.lst ((b.map rowT).map .str)] = .ok (.str (textB b)) [.lst ((b.map rowT).map .str)] := by
    have := fJoin_ss (st := [.lst ((b.map rowT).map .str)]) "\n" (b.map rowT) (by
      have c := sum_le (l := b.map rowT) (k := 108) fun w hw => by
        obtain ⟨r, hr, rfl⟩ := List.mem_map.mp hw
        exact rowT_len (hb.row r hr)
      have d := hb.len
      rw [List.length_map] at c ⊢
      rw [nl_len]; omega)
    exact this
  have hfe : fEq (encB b) (encB b) [.lst ((b.map rowT).map .str)] = .ok (.bl true) [.lst ((b.map rowT).map .str)] := fEq_self rfl (okD_encB 55 b)
  refine ⟨[.lst ((b.map rowT).map .str)], ?_⟩
  unfold tl_law_k29_1
  refine nxS hsel ?_
  refine nxS (e1 := [some (.scr ns), some (encB b), some (.ref 0), none, none, none, none, none, none]) (st1 := [.lst []]) (by simp) ?_
  refine nxS (e1 := [some (.scr ns), some (encB b), some (.ref 0), o3, o4, o5, none, none, none]) (st1 := [.lst ((b.map rowT).map .str)]) (by
    rw [sFor_ap]
    simp only [iAny_ap, rVar_ap, List.getElem?_cons_succ, List.getElem?_cons_zero, rVal_some, Res.bd_ok, hit, Res.toS_ok, List.length_cons, List.length_nil, Nat.zero_add]
    exact hL) ?_
  refine nxS (e1 := [some (.scr ns), some (encB b), some (.ref 0), o3, o4, o5, none, none, some (.str (textB b))]) (st1 := [.lst ((b.map rowT).map .str)]) (by simp [hsh]) ?_
  simp [isStr_str, hj, ht, hfe, -List.map_map]
theorem m_law_k29_good (ns : List Int) (hlen : ns.length ≤ 63) : m_law_k29 [.scr ns] = .ok (.bl true) := by
  obtain ⟨b, hb1, hb, hbp⟩ := m_case (ns := ns) (k := 20) (by omega)
  have m0 := m_mixed (ns := ns) (k := 0) (many := 7) (by omega) (by omega)
  have m1 := m_mixed (ns := ns) (k := 1) (many := 12) (by omega) (by omega)
  have q0 := mixed_nn (ns := ns) (k := 0) (many := 7) (by omega)
  have q1 := mixed_lt (ns := ns) (k := 0) (many := 7) (by omega)
  obtain ⟨q, hq⟩ : ∃ q, q = mixed ns 0 7 / 6 := ⟨_, rfl⟩
  have hq0 : 0 ≤ q := by omega
  have hcut : cut (b.map encR) (some q) none = (b.drop q.toNat).map encR := by rw [cut_map, cut_drop _ hq0]
  have hsl : ∀ st : Store, fSl (encB b) (some q) none st = .ok (encB (b.drop q.toNat)) st := fun st => by
    unfold encB
    rw [← hcut]
    simp
  have key : ∃ st', tl_law_k29_1 [some (.scr ns), some (encB (b.drop q.toNat)), none, none, none, none, none, none, none] [] = .rt (.bl true) st' := by
    by_cases h : mixed ns 1 12 = 0
    · exact k29_tail (b := []) ⟨by simp, (fun r hr => absurd hr (by simp)), by simp [names]⟩ (by simp [m1, h, encB])
    · exact k29_tail (dropB_ok hb q.toNat) (by simp [m1, h])
  obtain ⟨st', ht⟩ := key
  refine pureOf_rt (st := st') (d := .bl true) rfl ?_ (by simp [frz, frz0])
  simp [run_law_k29, hb1, m0, ← hq, hsl, ht]
end Py

set_option Elab.async false
set_option linter.all false
set_option maxRecDepth 100000
set_option maxHeartbeats 4000000
namespace Py.K29
open PySem PySem.Spec L2 Py

structure Txt (K : PySem.W.Frag) (mg : Str → Option Value) : Prop where
  b_ValueError : mg "ValueError" = none
  b_all : mg "all" = none
  b_bool : mg "bool" = none
  b_dict : mg "dict" = none
  b_enumerate : mg "enumerate" = none
  b_int : mg "int" = none
  b_isinstance : mg "isinstance" = none
  b_len : mg "len" = none
  b_list : mg "list" = none
  b_range : mg "range" = none
  b_sorted : mg "sorted" = none
  b_str : mg "str" = none
  b_tuple : mg "tuple" = none
  g_HouseError : mg "HouseError" = some (.ref (He.ga K "HouseError"))
  x_HouseError : PySem.W.excIn K (He.ga K "HouseError") He.veBase "ValueError.__new__" = true ∧ PySem.W.keepIn K (.ref (He.ga K "HouseError")) = true ∧ PySem.W.subIn K (.ref (He.ga K "HouseError")) (.type "BaseException") = some true ∧ PySem.W.typeIn K (.ref (He.ga K "HouseError")) = some (.type "type")
  g_NoWant : mg "NoWant" = some (.ref (He.ga K "NoWant"))
  x_NoWant : PySem.W.excIn K (He.ga K "NoWant") He.veBase "ValueError.__new__" = true ∧ PySem.W.keepIn K (.ref (He.ga K "NoWant")) = true ∧ PySem.W.subIn K (.ref (He.ga K "NoWant")) (.type "BaseException") = some true ∧ PySem.W.typeIn K (.ref (He.ga K "NoWant")) = some (.type "type")
  g_NoMaker : mg "NoMaker" = some (.ref (He.ga K "NoMaker"))
  x_NoMaker : PySem.W.excIn K (He.ga K "NoMaker") He.veBase "ValueError.__new__" = true ∧ PySem.W.keepIn K (.ref (He.ga K "NoMaker")) = true ∧ PySem.W.subIn K (.ref (He.ga K "NoMaker")) (.type "BaseException") = some true ∧ PySem.W.typeIn K (.ref (He.ga K "NoMaker")) = some (.type "type")
  g_NoBooks : mg "NoBooks" = some (.ref (He.ga K "NoBooks"))
  x_NoBooks : PySem.W.excIn K (He.ga K "NoBooks") He.veBase "ValueError.__new__" = true ∧ PySem.W.keepIn K (.ref (He.ga K "NoBooks")) = true ∧ PySem.W.subIn K (.ref (He.ga K "NoBooks")) (.type "BaseException") = some true ∧ PySem.W.typeIn K (.ref (He.ga K "NoBooks")) = some (.type "type")
  g_TooBig : mg "TooBig" = some (.ref (He.ga K "TooBig"))
  x_TooBig : PySem.W.excIn K (He.ga K "TooBig") He.veBase "ValueError.__new__" = true ∧ PySem.W.keepIn K (.ref (He.ga K "TooBig")) = true ∧ PySem.W.subIn K (.ref (He.ga K "TooBig")) (.type "BaseException") = some true ∧ PySem.W.typeIn K (.ref (He.ga K "TooBig")) = some (.type "type")
  g_Missing : mg "Missing" = some (.ref (He.ga K "Missing"))
  x_Missing : PySem.W.excIn K (He.ga K "Missing") He.veBase "ValueError.__new__" = true ∧ PySem.W.keepIn K (.ref (He.ga K "Missing")) = true ∧ PySem.W.subIn K (.ref (He.ga K "Missing")) (.type "BaseException") = some true ∧ PySem.W.typeIn K (.ref (He.ga K "Missing")) = some (.type "type")
  g_Unsound : mg "Unsound" = some (.ref (He.ga K "Unsound"))
  x_Unsound : PySem.W.excIn K (He.ga K "Unsound") He.veBase "ValueError.__new__" = true ∧ PySem.W.keepIn K (.ref (He.ga K "Unsound")) = true ∧ PySem.W.subIn K (.ref (He.ga K "Unsound")) (.type "BaseException") = some true ∧ PySem.W.typeIn K (.ref (He.ga K "Unsound")) = some (.type "type")
  g_NoScope : mg "NoScope" = some (.ref (He.ga K "NoScope"))
  x_NoScope : PySem.W.excIn K (He.ga K "NoScope") He.veBase "ValueError.__new__" = true ∧ PySem.W.keepIn K (.ref (He.ga K "NoScope")) = true ∧ PySem.W.subIn K (.ref (He.ga K "NoScope")) (.type "BaseException") = some true ∧ PySem.W.typeIn K (.ref (He.ga K "NoScope")) = some (.type "type")
  g_Shut : mg "Shut" = some (.ref (He.ga K "Shut"))
  x_Shut : PySem.W.excIn K (He.ga K "Shut") He.veBase "ValueError.__new__" = true ∧ PySem.W.keepIn K (.ref (He.ga K "Shut")) = true ∧ PySem.W.subIn K (.ref (He.ga K "Shut")) (.type "BaseException") = some true ∧ PySem.W.typeIn K (.ref (He.ga K "Shut")) = some (.type "type")
  g_NoThing : mg "NoThing" = some (.ref (He.ga K "NoThing"))
  x_NoThing : PySem.W.excIn K (He.ga K "NoThing") He.veBase "ValueError.__new__" = true ∧ PySem.W.keepIn K (.ref (He.ga K "NoThing")) = true ∧ PySem.W.subIn K (.ref (He.ga K "NoThing")) (.type "BaseException") = some true ∧ PySem.W.typeIn K (.ref (He.ga K "NoThing")) = some (.type "type")
  g_Gone : mg "Gone" = some (.ref (He.ga K "Gone"))
  x_Gone : PySem.W.excIn K (He.ga K "Gone") He.veBase "ValueError.__new__" = true ∧ PySem.W.keepIn K (.ref (He.ga K "Gone")) = true ∧ PySem.W.subIn K (.ref (He.ga K "Gone")) (.type "BaseException") = some true ∧ PySem.W.typeIn K (.ref (He.ga K "Gone")) = some (.type "type")
  g_NoNeed : mg "NoNeed" = some (.ref (He.ga K "NoNeed"))
  x_NoNeed : PySem.W.excIn K (He.ga K "NoNeed") He.veBase "ValueError.__new__" = true ∧ PySem.W.keepIn K (.ref (He.ga K "NoNeed")) = true ∧ PySem.W.subIn K (.ref (He.ga K "NoNeed")) (.type "BaseException") = some true ∧ PySem.W.typeIn K (.ref (He.ga K "NoNeed")) = some (.type "type")
  g_NoText : mg "NoText" = some (.ref (He.ga K "NoText"))
  x_NoText : PySem.W.excIn K (He.ga K "NoText") He.veBase "ValueError.__new__" = true ∧ PySem.W.keepIn K (.ref (He.ga K "NoText")) = true ∧ PySem.W.subIn K (.ref (He.ga K "NoText")) (.type "BaseException") = some true ∧ PySem.W.typeIn K (.ref (He.ga K "NoText")) = some (.type "type")
  errs : ∀ C ∈ errs, ErrOk K C
  c_SIGNS : ∃ t, mg "SIGNS" = some (.str "abcdefghijklmnopqrstuvwxyz" t)
  c_LONGEST : ∃ t, mg "LONGEST" = some (.int 8 t)
  c_WANTS : ∃ t, mg "WANTS" = some (.int 6 t)
  c_NEEDS : ∃ t, mg "NEEDS" = some (.int 3 t)
  c_BREAKS : ∃ t, mg "BREAKS" = some (.int 3 t)
  c_HOWS : mg "HOWS" = some (.ref (He.ga K "HOWS")) ∧ SqT K (fun _ => none) (He.ga K "HOWS") ((["now", "late", "maybe"] : List Str).map V.str)
  c_SPANS : mg "SPANS" = some (.ref (He.ga K "SPANS")) ∧ SqT K (fun _ => none) (He.ga K "SPANS") ((["one", "scope", "each"] : List Str).map V.str)
  g_is_want : mg "is_want" = some (.ref (He.ga K "is_want"))
  d_is_want : ∃ fd, Fun K "is_want" "is_want" (topS 22) (He.ga K "is_want") fd
  g_is_between : mg "is_between" = some (.ref (He.ga K "is_between"))
  d_is_between : ∃ fd, Fun K "is_between" "is_between" (topS 23) (He.ga K "is_between") fd
  g_is_one_of : mg "is_one_of" = some (.ref (He.ga K "is_one_of"))
  d_is_one_of : ∃ fd, Fun K "is_one_of" "is_one_of" (topS 24) (He.ga K "is_one_of") fd
  g_is_need : mg "is_need" = some (.ref (He.ga K "is_need"))
  d_is_need : ∃ fd, Fun K "is_need" "is_need" (topS 25) (He.ga K "is_need") fd
  g_is_maker : mg "is_maker" = some (.ref (He.ga K "is_maker"))
  d_is_maker : ∃ fd, Fun K "is_maker" "is_maker" (topS 26) (He.ga K "is_maker") fd
  g_is_row : mg "is_row" = some (.ref (He.ga K "is_row"))
  d_is_row : ∃ fd, Fun K "is_row" "is_row" (topS 27) (He.ga K "is_row") fd
  g_are_books : mg "are_books" = some (.ref (He.ga K "are_books"))
  d_are_books : ∃ fd, Fun K "are_books" "are_books" (topS 28) (He.ga K "are_books") fd
  g_checked : mg "checked" = some (.ref (He.ga K "checked"))
  d_checked : ∃ fd, Fun K "checked" "checked" (topS 29) (He.ga K "checked") fd
  g_row_words : mg "row_words" = some (.ref (He.ga K "row_words"))
  d_row_words : ∃ fd, Fun K "row_words" "row_words" (topS 31) (He.ga K "row_words") fd
  g_text_of : mg "text_of" = some (.ref (He.ga K "text_of"))
  d_text_of : ∃ fd, Fun K "text_of" "text_of" (topS 32) (He.ga K "text_of") fd
  g_shown : mg "shown" = some (.ref (He.ga K "shown"))
  d_shown : ∃ fd, Fun K "shown" "shown" (topS 33) (He.ga K "shown") fd
  g_read_made : mg "read_made" = some (.ref (He.ga K "read_made"))
  d_read_made : ∃ fd, Fun K "read_made" "read_made" (topS 34) (He.ga K "read_made") fd
  g_read_row : mg "read_row" = some (.ref (He.ga K "read_row"))
  d_read_row : ∃ fd, Fun K "read_row" "read_row" (topS 35) (He.ga K "read_row") fd
  g_read : mg "read" = some (.ref (He.ga K "read"))
  d_read : ∃ fd, Fun K "read" "read" (topS 36) (He.ga K "read") fd
  g__law_cell_at : mg "_law_cell_at" = some (.ref (He.ga K "_law_cell_at"))
  d__law_cell_at : ∃ fd, Fun K "_law_cell_at" "_law_cell_at" (topS 38) (He.ga K "_law_cell_at") fd
  g__law_mixed : mg "_law_mixed" = some (.ref (He.ga K "_law_mixed"))
  d__law_mixed : ∃ fd, Fun K "_law_mixed" "_law_mixed" (topS 39) (He.ga K "_law_mixed") fd
  g__law_sign : mg "_law_sign" = some (.ref (He.ga K "_law_sign"))
  d__law_sign : ∃ fd, Fun K "_law_sign" "_law_sign" (topS 40) (He.ga K "_law_sign") fd
  g__law_fresh : mg "_law_fresh" = some (.ref (He.ga K "_law_fresh"))
  d__law_fresh : ∃ fd, Fun K "_law_fresh" "_law_fresh" (topS 41) (He.ga K "_law_fresh") fd
  g__law_words : mg "_law_words" = some (.ref (He.ga K "_law_words"))
  d__law_words : ∃ fd, Fun K "_law_words" "_law_words" (topS 42) (He.ga K "_law_words") fd
  g__law_names : mg "_law_names" = some (.ref (He.ga K "_law_names"))
  d__law_names : ∃ fd, Fun K "_law_names" "_law_names" (topS 43) (He.ga K "_law_names") fd
  g__law_rows : mg "_law_rows" = some (.ref (He.ga K "_law_rows"))
  d__law_rows : ∃ fd, Fun K "_law_rows" "_law_rows" (topS 44) (He.ga K "_law_rows") fd
  g__law_maker : mg "_law_maker" = some (.ref (He.ga K "_law_maker"))
  d__law_maker : ∃ fd, Fun K "_law_maker" "_law_maker" (topS 45) (He.ga K "_law_maker") fd
  g__law_stands : mg "_law_stands" = some (.ref (He.ga K "_law_stands"))
  d__law_stands : ∃ fd, Fun K "_law_stands" "_law_stands" (topS 46) (He.ga K "_law_stands") fd
  g__law_holds : mg "_law_holds" = some (.ref (He.ga K "_law_holds"))
  d__law_holds : ∃ fd, Fun K "_law_holds" "_law_holds" (topS 47) (He.ga K "_law_holds") fd
  g__law_made : mg "_law_made" = some (.ref (He.ga K "_law_made"))
  d__law_made : ∃ fd, Fun K "_law_made" "_law_made" (topS 48) (He.ga K "_law_made") fd
  g__law_captive : mg "_law_captive" = some (.ref (He.ga K "_law_captive"))
  d__law_captive : ∃ fd, Fun K "_law_captive" "_law_captive" (topS 49) (He.ga K "_law_captive") fd
  g__law_with_spans : mg "_law_with_spans" = some (.ref (He.ga K "_law_with_spans"))
  d__law_with_spans : ∃ fd, Fun K "_law_with_spans" "_law_with_spans" (topS 50) (He.ga K "_law_with_spans") fd
  g__law_sound_maker : mg "_law_sound_maker" = some (.ref (He.ga K "_law_sound_maker"))
  d__law_sound_maker : ∃ fd, Fun K "_law_sound_maker" "_law_sound_maker" (topS 51) (He.ga K "_law_sound_maker") fd
  g__law_sound : mg "_law_sound" = some (.ref (He.ga K "_law_sound"))
  d__law_sound : ∃ fd, Fun K "_law_sound" "_law_sound" (topS 52) (He.ga K "_law_sound") fd
  g__law_loose_maker : mg "_law_loose_maker" = some (.ref (He.ga K "_law_loose_maker"))
  d__law_loose_maker : ∃ fd, Fun K "_law_loose_maker" "_law_loose_maker" (topS 53) (He.ga K "_law_loose_maker") fd
  g__law_loose : mg "_law_loose" = some (.ref (He.ga K "_law_loose"))
  d__law_loose : ∃ fd, Fun K "_law_loose" "_law_loose" (topS 54) (He.ga K "_law_loose") fd
  g__law_case : mg "_law_case" = some (.ref (He.ga K "_law_case"))
  d__law_case : ∃ fd, Fun K "_law_case" "_law_case" (topS 55) (He.ga K "_law_case") fd
  g__law_which : mg "_law_which" = some (.ref (He.ga K "_law_which"))
  d__law_which : ∃ fd, Fun K "_law_which" "_law_which" (topS 56) (He.ga K "_law_which") fd
  g__law_told : mg "_law_told" = some (.ref (He.ga K "_law_told"))
  d__law_told : ∃ fd, Fun K "_law_told" "_law_told" (topS 57) (He.ga K "_law_told") fd
  g_law : mg "law" = some (.ref (He.ga K "law"))
  d_law : ∃ fd, Fun K "law" "law" (topS 58) (He.ga K "law") fd
section
variable {P : Program} {w : World} {K : PySem.W.Frag} {mg : Str → Option Value}
theorem sc_row_words : FnScope ["want", "maker", "word", "needs", "span", "ends", "breaks", "made", "how", "other"] ["want", "maker"] (defScope (topS 31)) := ⟨rfl, rfl, rfl, by decide +kernel, rfl, by decide +kernel, by decide +kernel⟩
theorem ok_row_words (T : Txt K mg)  : OkF P w K mg "row_words" ["want", "maker"] 1 m_row_words :=
  mk_ok (N := ["want", "maker", "word", "needs", "span", "ends", "breaks", "made", "how", "other"]) (ps := ["want", "maker"]) (k := 0) (r := run_row_words) T.d_row_words T.g_row_words sc_row_words (fun _ _ _ _ _ _ us hl => match us, hl with | [_, _], _ => rfl) fun base cdv A outer s H E hr tk hp => by
  have nd := sc_row_words.nd
  have hu1 := hu_of hr
  have hu : (A.deeper (PyProof.Rows.envOfC "row_words" (defScope (topS 31)) s.heap.objs.size (He.ga K "row_words") cdv)).units + 65 < cLine := by have := hr.un; omega
  exact (ss_cons (s_if (t_cmp (op_eqD hr.units) s_eq (nomark _) (x_sub hu1 (x_var 1) x_int) x_str)
    (ss_one (s_ret (x_frz (l_disp (a_cons (x_var 0) (a_cons x_str (a_cons (x_sub hu1 (x_var 1) x_int) a_nil)))))))
    ss_nil)
    (ss_cons (s_tgt (x_var 1) (pg_tup rfl (pgs_cons (pg_name (i := 2) nd rfl (by first | exact Or.inl rfl | exact Or.inr rfl)) (pgs_cons (pg_name (i := 3) nd rfl (by first | exact Or.inl rfl | exact Or.inr rfl)) (pgs_cons (pg_name (i := 4) nd rfl (by first | exact Or.inl rfl | exact Or.inr rfl)) (pgs_cons (pg_name (i := 5) nd rfl (by first | exact Or.inl rfl | exact Or.inr rfl)) (pgs_cons (pg_name (i := 6) nd rfl (by first | exact Or.inl rfl | exact Or.inr rfl)) pgs_nil)))))) (tg_tup (tgs_cons (tg_name 2) (tgs_cons (tg_name 3) (tgs_cons (tg_name 4) (tgs_cons (tg_name 5) (tgs_cons (tg_name 6) tgs_nil)))))))
    (ss_cons (s_set 7 nd (x_new (l_disp (a_cons (x_var 0) (a_cons x_str (a_cons (x_var 4) a_nil))))))
    (ss_cons (s_if (t_val (x_var 5))
    (ss_one (s_expr (x_bm PySem.F.plainAttrs_list PySem.F.slot_list_append PySem.F.type_list_append mt_append m_append tyL (x_var 7) (a_cons x_str a_nil))))
    ss_nil)
    (ss_cons (s_if (t_cmp op_gt s_gt (nomark _) (x_var 6) x_int)
    (ss_one (s_expr (x_bm PySem.F.plainAttrs_list PySem.F.slot_list_extend PySem.F.type_list_extend mt_extend m_extend tyL (x_var 7) (a_cons (x_frz (l_disp (a_cons x_str (a_cons (x_callT call_str_int s_strI T.b_str (by decide +kernel) (a_cons (x_var 6) a_nil)) a_nil)))) a_nil))))
    ss_nil)
    (ss_cons (s_for hp rfl (i_any (x_var 3)) (pg_tup rfl (pgs_cons (pg_name (i := 8) nd rfl (by first | exact Or.inl rfl | exact Or.inr rfl)) (pgs_cons (pg_name (i := 9) nd rfl (by first | exact Or.inl rfl | exact Or.inr rfl)) pgs_nil))) (tg_tup (tgs_cons (tg_name 8) (tgs_cons (tg_name 9) tgs_nil)))
    (ss_one (s_expr (x_bm PySem.F.plainAttrs_list PySem.F.slot_list_extend PySem.F.type_list_extend mt_extend m_extend tyL (x_var 7) (a_cons (x_frz (l_disp (a_cons (x_var 8) (a_cons (x_var 9) a_nil)))) a_nil)))))
    (ss_one (s_ret (x_var 7)))))))))
theorem sc_text_of : FnScope ["books", "want", "maker"] ["books"] (defScope (topS 32)) := ⟨rfl, rfl, rfl, by decide +kernel, rfl, by decide +kernel, by decide +kernel⟩
theorem ok_text_of (T : Txt K mg) (o_row_words : OkF P w K mg "row_words" ["want", "maker"] 1 m_row_words) : OkF P w K mg "text_of" ["books"] 2 m_text_of :=
  mk_ok (N := ["books", "want", "maker"]) (ps := ["books"]) (k := 1) (r := run_text_of) T.d_text_of T.g_text_of sc_text_of (fun _ _ _ _ _ _ us hl => match us, hl with | [_], _ => rfl) fun base cdv A outer s H E hr tk hp => by
  have nd := sc_text_of.nd
  have hu1 := hu_of hr
  have hu : (A.deeper (PyProof.Rows.envOfC "text_of" (defScope (topS 32)) s.heap.objs.size (He.ga K "text_of") cdv)).units + 65 < cLine := by have := hr.un; omega
  exact (ss_one (s_ret (x_bm PySem.F.plainAttrs_str PySem.F.slot_str_join PySem.F.type_str_join mt_join m_join tyS x_str (a_cons (x_frz (l_comp [("want", 1), ("maker", 2)] rfl nd (i_any (x_var 0)) (tg_tup (tgs_cons (tg_name 1) (tgs_cons (tg_name 2) tgs_nil))) (fun _ _ _ _ _ => (pg_tup rfl (pgs_cons (pg_name (i := 1) nd rfl (by first | exact Or.inl rfl | exact Or.inr rfl)) (pgs_cons (pg_name (i := 2) nd rfl (by first | exact Or.inl rfl | exact Or.inr rfl)) pgs_nil)))) (fun _ _ _ _ _ => ts_nil) (fun _ _ _ _ _ => (x_bm PySem.F.plainAttrs_str PySem.F.slot_str_join PySem.F.type_str_join mt_join m_join tyS x_str (a_cons (x_callO o_row_words hr takes0 (a_cons (x_var 1) (a_cons (x_var 2) a_nil))) a_nil))))) a_nil))))
theorem sc_is_want : FnScope ["thing", "sign"] ["thing"] (defScope (topS 22)) := ⟨rfl, rfl, rfl, by decide +kernel, rfl, by decide +kernel, by decide +kernel⟩
theorem ok_is_want (T : Txt K mg)  : OkF P w K mg "is_want" ["thing"] 1 m_is_want :=
  mk_ok (N := ["thing", "sign"]) (ps := ["thing"]) (k := 0) (r := run_is_want) T.d_is_want T.g_is_want sc_is_want (fun _ _ _ _ _ _ us hl => match us, hl with | [_], _ => rfl) fun base cdv A outer s H E hr tk hp => by
  have nd := sc_is_want.nd
  have hu1 := hu_of hr
  have hu : (A.deeper (PyProof.Rows.envOfC "is_want" (defScope (topS 22)) s.heap.objs.size (He.ga K "is_want") cdv)).units + 65 < cLine := by have := hr.un; omega
  exact (ss_cons (s_if (PW.pt (t_or (t_not (t_val (x_callB call_isi s_isi T.b_isinstance (by decide +kernel) (a_cons (x_var 0) (a_cons (x_ty T.b_str) a_nil))))) (t_or1 (t_not (t_chain op_le s_le op_le s_le x_int (x_callB call_lenA s_len T.b_len (by decide +kernel) (a_cons (x_var 0) a_nil)) (x_gint T.c_LONGEST))))))
    (ss_one (s_ret x_bl))
    ss_nil)
    (ss_one (s_ret (x_callB (cr_all rfl) s_all T.b_all (by decide +kernel) (a_cons (x_frz (l_comp [("sign", 1)] rfl nd (i_any (x_var 0)) (tg_name 1) (fun _ _ _ _ _ => (pg_name (i := 1) nd rfl (by first | exact Or.inl rfl | exact Or.inr rfl))) (fun _ _ _ _ _ => ts_nil) (fun _ _ _ _ _ => (x_cmp (op_inA hu) s_in rfl (x_var 1) (x_gstr T.c_SIGNS))))) a_nil)))))
theorem sc_is_between : FnScope ["thing", "low", "most"] ["thing", "low", "most"] (defScope (topS 23)) := ⟨rfl, rfl, rfl, by decide +kernel, rfl, by decide +kernel, by decide +kernel⟩
theorem ok_is_between (T : Txt K mg)  : OkF P w K mg "is_between" ["thing", "low", "most"] 1 m_is_between :=
  mk_ok (N := ["thing", "low", "most"]) (ps := ["thing", "low", "most"]) (k := 0) (r := run_is_between) T.d_is_between T.g_is_between sc_is_between (fun _ _ _ _ _ _ us hl => match us, hl with | [_, _, _], _ => rfl) fun base cdv A outer s H E hr tk hp => by
  have nd := sc_is_between.nd
  have hu1 := hu_of hr
  have hu : (A.deeper (PyProof.Rows.envOfC "is_between" (defScope (topS 23)) s.heap.objs.size (He.ga K "is_between") cdv)).units + 65 < cLine := by have := hr.un; omega
  exact (ss_one (s_ret (x_and (x_callB call_isi s_isi T.b_isinstance (by decide +kernel) (a_cons (x_var 0) (a_cons (x_ty T.b_int) a_nil))) (x_and (x_not (x_callB call_isi s_isi T.b_isinstance (by decide +kernel) (a_cons (x_var 0) (a_cons (x_ty T.b_bool) a_nil)))) (x_one (x_chain op_le s_le op_le s_le (x_var 1) (x_var 0) (x_var 2)))))))
theorem sc_is_one_of : FnScope ["thing", "words"] ["thing", "words"] (defScope (topS 24)) := ⟨rfl, rfl, rfl, by decide +kernel, rfl, by decide +kernel, by decide +kernel⟩
theorem ok_is_one_of (T : Txt K mg)  : OkF P w K mg "is_one_of" ["thing", "words"] 1 m_is_one_of :=
  mk_ok (N := ["thing", "words"]) (ps := ["thing", "words"]) (k := 0) (r := run_is_one_of) T.d_is_one_of T.g_is_one_of sc_is_one_of (fun _ _ _ _ _ _ us hl => match us, hl with | [_, _], _ => rfl) fun base cdv A outer s H E hr tk hp => by
  have nd := sc_is_one_of.nd
  have hu1 := hu_of hr
  have hu : (A.deeper (PyProof.Rows.envOfC "is_one_of" (defScope (topS 24)) s.heap.objs.size (He.ga K "is_one_of") cdv)).units + 65 < cLine := by have := hr.un; omega
  exact (ss_one (s_ret (x_and (x_callB call_isi s_isi T.b_isinstance (by decide +kernel) (a_cons (x_var 0) (a_cons (x_ty T.b_str) a_nil))) (x_one (x_cmp (op_inA hu) s_in rfl (x_var 0) (x_var 1))))))
theorem sc_is_need : FnScope ["thing"] ["thing"] (defScope (topS 25)) := ⟨rfl, rfl, rfl, by decide +kernel, rfl, by decide +kernel, by decide +kernel⟩
theorem ok_is_need (T : Txt K mg) (o_is_one_of : OkF P w K mg "is_one_of" ["thing", "words"] 1 m_is_one_of) (o_is_want : OkF P w K mg "is_want" ["thing"] 1 m_is_want) : OkF P w K mg "is_need" ["thing"] 2 m_is_need :=
  mk_ok (N := ["thing"]) (ps := ["thing"]) (k := 1) (r := run_is_need) T.d_is_need T.g_is_need sc_is_need (fun _ _ _ _ _ _ us hl => match us, hl with | [_], _ => rfl) fun base cdv A outer s H E hr tk hp => by
  have nd := sc_is_need.nd
  have hu1 := hu_of hr
  have hu : (A.deeper (PyProof.Rows.envOfC "is_need" (defScope (topS 25)) s.heap.objs.size (He.ga K "is_need") cdv)).units + 65 < cLine := by have := hr.un; omega
  exact (ss_one (s_ret (x_and (x_callB call_isi s_isi T.b_isinstance (by decide +kernel) (a_cons (x_var 0) (a_cons (x_ty T.b_tuple) a_nil))) (x_and (x_cmp (op_eqD hr.units) s_eq (nomark _) (x_callB call_lenA s_len T.b_len (by decide +kernel) (a_cons (x_var 0) a_nil)) x_int) (x_and (x_callO o_is_one_of hr tk (a_cons (x_sub hu1 (x_var 0) x_int) (a_cons (x_gtup T.c_HOWS.1 T.c_HOWS.2) a_nil))) (x_one (x_callO o_is_want hr tk (a_cons (x_sub hu1 (x_var 0) x_int) a_nil))))))))
theorem sc_is_maker : FnScope ["thing", "need"] ["thing"] (defScope (topS 26)) := ⟨rfl, rfl, rfl, by decide +kernel, rfl, by decide +kernel, by decide +kernel⟩
theorem ok_is_maker (T : Txt K mg) (o_is_between : OkF P w K mg "is_between" ["thing", "low", "most"] 1 m_is_between) (o_is_one_of : OkF P w K mg "is_one_of" ["thing", "words"] 1 m_is_one_of) (o_is_want : OkF P w K mg "is_want" ["thing"] 1 m_is_want) (o_is_need : OkF P w K mg "is_need" ["thing"] 2 m_is_need) : OkF P w K mg "is_maker" ["thing"] 3 m_is_maker :=
  mk_ok (N := ["thing", "need"]) (ps := ["thing"]) (k := 2) (r := run_is_maker) T.d_is_maker T.g_is_maker sc_is_maker (fun _ _ _ _ _ _ us hl => match us, hl with | [_], _ => rfl) fun base cdv A outer s H E hr tk hp => by
  have nd := sc_is_maker.nd
  have hu1 := hu_of hr
  have hu : (A.deeper (PyProof.Rows.envOfC "is_maker" (defScope (topS 26)) s.heap.objs.size (He.ga K "is_maker") cdv)).units + 65 < cLine := by have := hr.un; omega
  exact (ss_cons (s_if (PW.pt (t_or (t_not (t_val (x_callB call_isi s_isi T.b_isinstance (by decide +kernel) (a_cons (x_var 0) (a_cons (x_ty T.b_tuple) a_nil))))) (t_or (t_cmp (op_eqD hr.units) s_eq (nomark _) (x_callB call_lenA s_len T.b_len (by decide +kernel) (a_cons (x_var 0) a_nil)) x_int) (t_or1 (t_not (t_val (x_callO o_is_one_of hr tk (a_cons (x_sub hu1 (x_var 0) x_int) (a_cons (x_tup (a_cons x_str (a_cons x_str a_nil))) a_nil)))))))))
    (ss_one (s_ret x_bl))
    ss_nil)
    (ss_cons (s_if (t_cmp (op_eqD hr.units) s_eq (nomark _) (x_sub hu1 (x_var 0) x_int) x_str)
    (ss_one (s_ret (x_and (x_cmp (op_eqD hr.units) s_eq (nomark _) (x_callB call_lenA s_len T.b_len (by decide +kernel) (a_cons (x_var 0) a_nil)) x_int) (x_one (x_callO o_is_want hr tk (a_cons (x_sub hu1 (x_var 0) x_int) a_nil))))))
    ss_nil)
    (ss_cons (s_if (PW.pt (t_or (t_cmp (op_neD hr.units) s_ne (nomark _) (x_callB call_lenA s_len T.b_len (by decide +kernel) (a_cons (x_var 0) a_nil)) x_int) (t_or (t_not (t_val (x_callB call_isi s_isi T.b_isinstance (by decide +kernel) (a_cons (x_sub hu1 (x_var 0) x_int) (a_cons (x_ty T.b_tuple) a_nil))))) (t_or1 (t_cmp op_gt s_gt (nomark _) (x_callB call_lenA s_len T.b_len (by decide +kernel) (a_cons (x_sub hu1 (x_var 0) x_int) a_nil)) (x_gint T.c_NEEDS))))))
    (ss_one (s_ret x_bl))
    ss_nil)
    (ss_cons (s_if (PW.pt (t_or (t_not (t_val (x_callB (cr_all rfl) s_all T.b_all (by decide +kernel) (a_cons (x_frz (l_comp [("need", 1)] rfl nd (i_any (x_sub hu1 (x_var 0) x_int)) (tg_name 1) (fun _ _ _ _ _ => (pg_name (i := 1) nd rfl (by first | exact Or.inl rfl | exact Or.inr rfl))) (fun _ _ _ _ _ => ts_nil) (fun _ _ _ _ _ => (x_callO o_is_need hr takes0 (a_cons (x_var 1) a_nil))))) a_nil)))) (t_or1 (t_not (t_val (x_callO o_is_one_of hr tk (a_cons (x_sub hu1 (x_var 0) x_int) (a_cons (x_gtup T.c_SPANS.1 T.c_SPANS.2) a_nil))))))))
    (ss_one (s_ret x_bl))
    ss_nil)
    (ss_one (s_ret (x_and (x_callB call_isi s_isi T.b_isinstance (by decide +kernel) (a_cons (x_sub hu1 (x_var 0) x_int) (a_cons (x_ty T.b_bool) a_nil))) (x_one (x_callO o_is_between hr tk (a_cons (x_sub hu1 (x_var 0) x_int) (a_cons x_int (a_cons (x_gint T.c_BREAKS) a_nil))))))))))))
theorem sc_is_row : FnScope ["thing"] ["thing"] (defScope (topS 27)) := ⟨rfl, rfl, rfl, by decide +kernel, rfl, by decide +kernel, by decide +kernel⟩
theorem ok_is_row (T : Txt K mg) (o_is_want : OkF P w K mg "is_want" ["thing"] 1 m_is_want) (o_is_maker : OkF P w K mg "is_maker" ["thing"] 3 m_is_maker) : OkF P w K mg "is_row" ["thing"] 4 m_is_row :=
  mk_ok (N := ["thing"]) (ps := ["thing"]) (k := 3) (r := run_is_row) T.d_is_row T.g_is_row sc_is_row (fun _ _ _ _ _ _ us hl => match us, hl with | [_], _ => rfl) fun base cdv A outer s H E hr tk hp => by
  have nd := sc_is_row.nd
  have hu1 := hu_of hr
  have hu : (A.deeper (PyProof.Rows.envOfC "is_row" (defScope (topS 27)) s.heap.objs.size (He.ga K "is_row") cdv)).units + 65 < cLine := by have := hr.un; omega
  exact (ss_one (s_ret (x_and (x_callB call_isi s_isi T.b_isinstance (by decide +kernel) (a_cons (x_var 0) (a_cons (x_ty T.b_tuple) a_nil))) (x_and (x_cmp (op_eqD hr.units) s_eq (nomark _) (x_callB call_lenA s_len T.b_len (by decide +kernel) (a_cons (x_var 0) a_nil)) x_int) (x_and (x_callO o_is_want hr tk (a_cons (x_sub hu1 (x_var 0) x_int) a_nil)) (x_one (x_callO o_is_maker hr tk (a_cons (x_sub hu1 (x_var 0) x_int) a_nil))))))))
theorem sc_are_books : FnScope ["thing", "row", "k"] ["thing"] (defScope (topS 28)) := ⟨rfl, rfl, rfl, by decide +kernel, rfl, by decide +kernel, by decide +kernel⟩
theorem ok_are_books (T : Txt K mg) (o_is_row : OkF P w K mg "is_row" ["thing"] 4 m_is_row) : OkF P w K mg "are_books" ["thing"] 5 m_are_books :=
  mk_ok (N := ["thing", "row", "k"]) (ps := ["thing"]) (k := 4) (r := run_are_books) T.d_are_books T.g_are_books sc_are_books (fun _ _ _ _ _ _ us hl => match us, hl with | [_], _ => rfl) fun base cdv A outer s H E hr tk hp => by
  have nd := sc_are_books.nd
  have hu1 := hu_of hr
  have hu : (A.deeper (PyProof.Rows.envOfC "are_books" (defScope (topS 28)) s.heap.objs.size (He.ga K "are_books") cdv)).units + 65 < cLine := by have := hr.un; omega
  exact (ss_cons (s_if (PW.pt (t_or (t_not (t_val (x_callB call_isi s_isi T.b_isinstance (by decide +kernel) (a_cons (x_var 0) (a_cons (x_ty T.b_tuple) a_nil))))) (t_or (t_cmp op_gt s_gt (nomark _) (x_callB call_lenA s_len T.b_len (by decide +kernel) (a_cons (x_var 0) a_nil)) (x_gint T.c_WANTS)) (t_or1 (t_not (t_val (x_callB (cr_all rfl) s_all T.b_all (by decide +kernel) (a_cons (x_frz (l_comp [("row", 1)] rfl nd (i_any (x_var 0)) (tg_name 1) (fun _ _ _ _ _ => (pg_name (i := 1) nd rfl (by first | exact Or.inl rfl | exact Or.inr rfl))) (fun _ _ _ _ _ => ts_nil) (fun _ _ _ _ _ => (x_callO o_is_row hr takes0 (a_cons (x_var 1) a_nil))))) a_nil))))))))
    (ss_one (s_ret x_bl))
    ss_nil)
    (ss_one (s_ret (x_callB (cr_all rfl) s_all T.b_all (by decide +kernel) (a_cons (x_frz (l_comp [("k", 2)] rfl nd (i_rng1 T.b_range (a_cons (x_op op_sub s_sub (x_callB call_lenA s_len T.b_len (by decide +kernel) (a_cons (x_var 0) a_nil)) x_int) a_nil)) (tg_name 2) (fun _ _ _ _ _ => (pg_name (i := 2) nd rfl (by first | exact Or.inl rfl | exact Or.inr rfl))) (fun _ _ _ _ _ => ts_nil) (fun _ _ _ _ _ => (x_cmp op_ltA s_lt (nomark _) (x_sub hu1 (x_sub hu1 (x_var 0) (x_var 2)) x_int) (x_sub hu1 (x_sub hu1 (x_var 0) (x_op op_addA s_add (x_var 2) x_int)) x_int))))) a_nil)))))
theorem sc_checked : FnScope ["books"] ["books"] (defScope (topS 29)) := ⟨rfl, rfl, rfl, by decide +kernel, rfl, by decide +kernel, by decide +kernel⟩
theorem ok_checked (T : Txt K mg) (o_are_books : OkF P w K mg "are_books" ["thing"] 5 m_are_books) : OkF P w K mg "checked" ["books"] 6 m_checked :=
  mk_ok (N := ["books"]) (ps := ["books"]) (k := 5) (r := run_checked) T.d_checked T.g_checked sc_checked (fun _ _ _ _ _ _ us hl => match us, hl with | [_], _ => rfl) fun base cdv A outer s H E hr tk hp => by
  have nd := sc_checked.nd
  have hu1 := hu_of hr
  have hu : (A.deeper (PyProof.Rows.envOfC "checked" (defScope (topS 29)) s.heap.objs.size (He.ga K "checked") cdv)).units + 65 < cLine := by have := hr.un; omega
  exact (ss_cons (s_if (t_not (t_val (x_callO o_are_books hr tk (a_cons (x_var 0) a_nil))))
    (ss_one (s_raise rfl tk T.x_NoBooks T.g_NoBooks))
    ss_nil)
    (ss_one (s_ret (x_var 0))))
theorem sc_shown : FnScope ["books"] ["books"] (defScope (topS 33)) := ⟨rfl, rfl, rfl, by decide +kernel, rfl, by decide +kernel, by decide +kernel⟩
theorem ok_shown (T : Txt K mg) (o_text_of : OkF P w K mg "text_of" ["books"] 2 m_text_of) (o_checked : OkF P w K mg "checked" ["books"] 6 m_checked) : OkF P w K mg "shown" ["books"] 7 m_shown :=
  mk_ok (N := ["books"]) (ps := ["books"]) (k := 6) (r := run_shown) T.d_shown T.g_shown sc_shown (fun _ _ _ _ _ _ us hl => match us, hl with | [_], _ => rfl) fun base cdv A outer s H E hr tk hp => by
  have nd := sc_shown.nd
  have hu1 := hu_of hr
  have hu : (A.deeper (PyProof.Rows.envOfC "shown" (defScope (topS 33)) s.heap.objs.size (He.ga K "shown") cdv)).units + 65 < cLine := by have := hr.un; omega
  exact (ss_one (s_ret (x_callO o_text_of hr tk (a_cons (x_callO o_checked hr tk (a_cons (x_var 0) a_nil)) a_nil))))
theorem sc_law_cell_at : FnScope ["script", "k"] ["script", "k"] (defScope (topS 38)) := ⟨rfl, rfl, rfl, by decide +kernel, rfl, by decide +kernel, by decide +kernel⟩
theorem ok_law_cell_at (T : Txt K mg)  : OkF P w K mg "_law_cell_at" ["script", "k"] 1 m_law_cell_at :=
  mk_ok (N := ["script", "k"]) (ps := ["script", "k"]) (k := 0) (r := run_law_cell_at) T.d__law_cell_at T.g__law_cell_at sc_law_cell_at (fun _ _ _ _ _ _ us hl => match us, hl with | [_, _], _ => rfl) fun base cdv A outer s H E hr tk hp => by
  have nd := sc_law_cell_at.nd
  have hu1 := hu_of hr
  have hu : (A.deeper (PyProof.Rows.envOfC "_law_cell_at" (defScope (topS 38)) s.heap.objs.size (He.ga K "_law_cell_at") cdv)).units + 65 < cLine := by have := hr.un; omega
  exact (ss_cons (s_if (t_cmp op_ltA s_lt (nomark _) (x_var 1) (x_callB call_lenA s_len T.b_len (by decide +kernel) (a_cons (x_var 0) a_nil)))
    (ss_one (s_ret (x_sub hu1 (x_var 0) (x_var 1))))
    ss_nil)
    (ss_cons (s_if (t_cmp (op_eqD hr.units) s_eq (nomark _) (x_var 0) (x_frz (l_disp a_nil)))
    (ss_one (s_ret x_int))
    ss_nil)
    (ss_one (s_ret (x_op op_addA s_add (x_op op_mul s_mul (x_sub hu1 (x_var 0) (x_op op_mod s_mod (x_var 1) (x_callB call_lenA s_len T.b_len (by decide +kernel) (a_cons (x_var 0) a_nil)))) x_int) (x_var 1))))))
theorem sc_law_mixed : FnScope ["script", "k", "many", "drawn"] ["script", "k", "many"] (defScope (topS 39)) := ⟨rfl, rfl, rfl, by decide +kernel, rfl, by decide +kernel, by decide +kernel⟩
theorem ok_law_mixed (T : Txt K mg) (o_law_cell_at : OkF P w K mg "_law_cell_at" ["script", "k"] 1 m_law_cell_at) : OkF P w K mg "_law_mixed" ["script", "k", "many"] 2 m_law_mixed :=
  mk_ok (N := ["script", "k", "many", "drawn"]) (ps := ["script", "k", "many"]) (k := 1) (r := run_law_mixed) T.d__law_mixed T.g__law_mixed sc_law_mixed (fun _ _ _ _ _ _ us hl => match us, hl with | [_, _, _], _ => rfl) fun base cdv A outer s H E hr tk hp => by
  have nd := sc_law_mixed.nd
  have hu1 := hu_of hr
  have hu : (A.deeper (PyProof.Rows.envOfC "_law_mixed" (defScope (topS 39)) s.heap.objs.size (He.ga K "_law_mixed") cdv)).units + 65 < cLine := by have := hr.un; omega
  exact (ss_cons (s_set 3 nd (x_op op_mod s_mod (x_op op_mul s_mul (x_op op_addA s_add (x_op op_addA s_add (x_callO o_law_cell_at hr tk (a_cons (x_var 0) (a_cons (x_var 1) a_nil))) (x_op op_mul s_mul x_int (x_var 1))) x_int) x_int) x_int))
    (ss_one (s_ret (x_op op_mod s_mod (x_op op_mod s_mod (x_op op_addA s_add (x_op op_addA s_add (x_op op_mul s_mul (x_var 3) (x_var 3)) (x_op op_mul s_mul x_int (x_var 3))) (x_var 1)) x_int) (x_var 2)))))
theorem sc_law_sign : FnScope ["script", "at"] ["script", "at"] (defScope (topS 40)) := ⟨rfl, rfl, rfl, by decide +kernel, rfl, by decide +kernel, by decide +kernel⟩
theorem ok_law_sign (T : Txt K mg) (o_law_mixed : OkF P w K mg "_law_mixed" ["script", "k", "many"] 2 m_law_mixed) : OkF P w K mg "_law_sign" ["script", "at"] 3 m_law_sign :=
  mk_ok (N := ["script", "at"]) (ps := ["script", "at"]) (k := 2) (r := run_law_sign) T.d__law_sign T.g__law_sign sc_law_sign (fun _ _ _ _ _ _ us hl => match us, hl with | [_, _], _ => rfl) fun base cdv A outer s H E hr tk hp => by
  have nd := sc_law_sign.nd
  have hu1 := hu_of hr
  have hu : (A.deeper (PyProof.Rows.envOfC "_law_sign" (defScope (topS 40)) s.heap.objs.size (He.ga K "_law_sign") cdv)).units + 65 < cLine := by have := hr.un; omega
  exact (ss_one (s_ret (x_sub hu1 x_str (x_callO o_law_mixed hr tk (a_cons (x_var 0) (a_cons (x_var 1) (a_cons x_int a_nil)))))))
theorem sc_law_fresh : FnScope ["script", "at", "made", "k"] ["script", "at"] (defScope (topS 41)) := ⟨rfl, rfl, rfl, by decide +kernel, rfl, by decide +kernel, by decide +kernel⟩
theorem ok_law_fresh (T : Txt K mg) (o_law_mixed : OkF P w K mg "_law_mixed" ["script", "k", "many"] 2 m_law_mixed) (o_law_sign : OkF P w K mg "_law_sign" ["script", "at"] 3 m_law_sign) : OkF P w K mg "_law_fresh" ["script", "at"] 4 m_law_fresh :=
  mk_ok (N := ["script", "at", "made", "k"]) (ps := ["script", "at"]) (k := 3) (r := run_law_fresh) T.d__law_fresh T.g__law_fresh sc_law_fresh (fun _ _ _ _ _ _ us hl => match us, hl with | [_, _], _ => rfl) fun base cdv A outer s H E hr tk hp => by
  have nd := sc_law_fresh.nd
  have hu1 := hu_of hr
  have hu : (A.deeper (PyProof.Rows.envOfC "_law_fresh" (defScope (topS 41)) s.heap.objs.size (He.ga K "_law_fresh") cdv)).units + 65 < cLine := by have := hr.un; omega
  exact (ss_cons (s_set 2 nd x_str)
    (ss_cons (s_for hp rfl (i_rng1 T.b_range (a_cons (x_op op_addA s_add x_int (x_callO o_law_mixed hr tk (a_cons (x_var 0) (a_cons (x_var 1) (a_cons x_int a_nil))))) a_nil)) (pg_name (i := 3) nd rfl (by first | exact Or.inl rfl | exact Or.inr rfl)) (tg_name 3)
    (ss_one (s_set 2 nd (x_op op_addA s_add (x_var 2) (x_callO o_law_sign hr tk (a_cons (x_var 0) (a_cons (x_op op_addA s_add (x_op op_addA s_add (x_var 1) x_int) (x_var 3)) a_nil)))))))
    (ss_one (s_ret (x_var 2)))))
theorem sc_law_words : FnScope ["script", "at", "many", "made", "k", "here", "last", "way", "place"] ["script", "at", "many"] (defScope (topS 42)) := ⟨rfl, rfl, rfl, by decide +kernel, rfl, by decide +kernel, by decide +kernel⟩
theorem ok_law_words (T : Txt K mg) (o_law_fresh : OkF P w K mg "_law_fresh" ["script", "at"] 4 m_law_fresh) (o_law_mixed : OkF P w K mg "_law_mixed" ["script", "k", "many"] 2 m_law_mixed) (o_law_sign : OkF P w K mg "_law_sign" ["script", "at"] 3 m_law_sign) : OkF P w K mg "_law_words" ["script", "at", "many"] 5 m_law_words :=
  mk_ok (N := ["script", "at", "many", "made", "k", "here", "last", "way", "place"]) (ps := ["script", "at", "many"]) (k := 4) (r := run_law_words) T.d__law_words T.g__law_words sc_law_words (fun _ _ _ _ _ _ us hl => match us, hl with | [_, _, _], _ => rfl) fun base cdv A outer s H E hr tk hp => by
  have nd := sc_law_words.nd
  have hu1 := hu_of hr
  have hu : (A.deeper (PyProof.Rows.envOfC "_law_words" (defScope (topS 42)) s.heap.objs.size (He.ga K "_law_words") cdv)).units + 65 < cLine := by have := hr.un; omega
  exact (ss_cons (s_set 3 nd (x_new (l_disp (a_cons (x_callO o_law_fresh hr tk (a_cons (x_var 0) (a_cons (x_var 1) a_nil))) a_nil))))
    (ss_cons (s_for hp rfl (i_rng2 T.b_range (a_cons x_int (a_cons (x_var 2) a_nil))) (pg_name (i := 4) nd rfl (by first | exact Or.inl rfl | exact Or.inr rfl)) (tg_name 4)
    (ss_cons (s_set 5 nd (x_op op_addA s_add (x_var 1) (x_op op_mul s_mul x_int (x_var 4))))
    (ss_cons (s_set 6 nd (x_sub hu1 (x_var 3) (x_un un_neg s_neg x_int)))
    (ss_cons (s_set 7 nd (x_callO o_law_mixed hr tk (a_cons (x_var 0) (a_cons (x_op op_addA s_add (x_var 5) x_int) (a_cons x_int a_nil)))))
    (ss_one (s_if (t_cmp (op_eqD hr.units) s_eq (nomark _) (x_var 7) x_int)
    (ss_one (s_expr (x_bm PySem.F.plainAttrs_list PySem.F.slot_list_append PySem.F.type_list_append mt_append m_append tyL (x_var 3) (a_cons (x_callO o_law_fresh hr tk (a_cons (x_var 0) (a_cons (x_var 5) a_nil))) a_nil))))
    (ss_one (s_if (PW.pt (t_and (t_cmp (op_eqD hr.units) s_eq (nomark _) (x_var 7) x_int) (t_and1 (t_cmp op_ltA s_lt (nomark _) (x_callB call_lenA s_len T.b_len (by decide +kernel) (a_cons (x_var 6) a_nil)) x_int))))
    (ss_one (s_expr (x_bm PySem.F.plainAttrs_list PySem.F.slot_list_append PySem.F.type_list_append mt_append m_append tyL (x_var 3) (a_cons (x_op op_addA s_add (x_var 6) (x_callO o_law_sign hr tk (a_cons (x_var 0) (a_cons (x_var 5) a_nil)))) a_nil))))
    (ss_cons (s_set 8 nd (x_callO o_law_mixed hr tk (a_cons (x_var 0) (a_cons (x_op op_addA s_add (x_var 5) x_int) (a_cons (x_callB call_lenA s_len T.b_len (by decide +kernel) (a_cons (x_var 6) a_nil)) a_nil)))))
    (ss_one (s_expr (x_bm PySem.F.plainAttrs_list PySem.F.slot_list_append PySem.F.type_list_append mt_append m_append tyL (x_var 3) (a_cons (x_op op_addA s_add (x_op op_addA s_add (x_sl (x_var 6) o_none (o_some (x_var 8))) (x_callO o_law_sign hr tk (a_cons (x_var 0) (a_cons (x_var 5) a_nil)))) (x_sl (x_var 6) (o_some (x_op op_addA s_add (x_var 8) x_int)) o_none)) a_nil)))))))))))))
    (ss_one (s_ret (x_var 3)))))
theorem sc_law_names : FnScope ["script", "at", "words", "word"] ["script", "at"] (defScope (topS 43)) := ⟨rfl, rfl, rfl, by decide +kernel, rfl, by decide +kernel, by decide +kernel⟩
theorem ok_law_names (T : Txt K mg) (o_law_words : OkF P w K mg "_law_words" ["script", "at", "many"] 5 m_law_words) (o_law_mixed : OkF P w K mg "_law_mixed" ["script", "k", "many"] 2 m_law_mixed) : OkF P w K mg "_law_names" ["script", "at"] 6 m_law_names :=
  mk_ok (N := ["script", "at", "words", "word"]) (ps := ["script", "at"]) (k := 5) (r := run_law_names) T.d__law_names T.g__law_names sc_law_names (fun _ _ _ _ _ _ us hl => match us, hl with | [_, _], _ => rfl) fun base cdv A outer s H E hr tk hp => by
  have nd := sc_law_names.nd
  have hu1 := hu_of hr
  have hu : (A.deeper (PyProof.Rows.envOfC "_law_names" (defScope (topS 43)) s.heap.objs.size (He.ga K "_law_names") cdv)).units + 65 < cLine := by have := hr.un; omega
  exact (ss_cons (s_set 2 nd (x_callO o_law_words hr tk (a_cons (x_var 0) (a_cons (x_var 1) (a_cons x_int a_nil)))))
    (ss_one (s_ret (x_frz (l_callT (call_listA rfl) s_list T.b_list (by decide +kernel) (a_cons (x_callT (call_dictP rfl) s_dict T.b_dict (by decide +kernel) (a_cons (x_frz (l_comp [("word", 3)] rfl nd (i_any (x_sl (x_var 2) o_none (o_some (x_op op_addA s_add x_int (x_callO o_law_mixed hr tk (a_cons (x_var 0) (a_cons (x_op op_addA s_add (x_var 1) x_int) (a_cons x_int a_nil)))))))) (tg_name 3) (fun _ _ _ _ _ => (pg_name (i := 3) nd rfl (by first | exact Or.inl rfl | exact Or.inr rfl))) (fun _ _ _ _ _ => ts_nil) (fun _ _ _ _ _ => (x_tup (a_cons (x_var 3) (a_cons x_bl a_nil)))))) a_nil)) a_nil))))))
theorem sc_law_rows : FnScope ["made", "want"] ["made"] (defScope (topS 44)) := ⟨rfl, rfl, rfl, by decide +kernel, rfl, by decide +kernel, by decide +kernel⟩
theorem ok_law_rows (T : Txt K mg)  : OkS P w K mg "_law_rows" ["made"] 1 m_law_rows :=
  mk_okS (N := ["made", "want"]) (ps := ["made"]) (k := 0) (r := run_law_rows) T.d__law_rows T.g__law_rows sc_law_rows (fun _ _ _ _ _ _ us hl => match us, hl with | [_], _ => rfl) fun base cdv A outer s H E hr tk hp => by
  have nd := sc_law_rows.nd
  have hu1 := hu_of hr
  have hu : (A.deeper (PyProof.Rows.envOfC "_law_rows" (defScope (topS 44)) s.heap.objs.size (He.ga K "_law_rows") cdv)).units + 65 < cLine := by have := hr.un; omega
  exact (ss_one (s_ret (x_callT call_tuple_of s_tuple T.b_tuple (by decide +kernel) (a_cons (x_frz (l_comp [("want", 1)] rfl nd (i_any (x_frz (l_callB call_sortB s_sorted2 T.b_sorted (by decide +kernel) (a_cons (x_frz (l_callT (call_listA rfl) s_list T.b_list (by decide +kernel) (a_cons (x_var 0) a_nil))) a_nil)))) (tg_name 1) (fun _ _ _ _ _ => (pg_name (i := 1) nd rfl (by first | exact Or.inl rfl | exact Or.inr rfl))) (fun _ _ _ _ _ => ts_nil) (fun _ _ _ _ _ => (x_tup (a_cons (x_var 1) (a_cons (x_sub hu1 (x_var 0) (x_var 1)) a_nil)))))) a_nil))))
theorem sc_law_loose_maker : FnScope ["script", "at", "words", "some", "needs", "turn", "here", "how", "span"] ["script", "at", "words"] (defScope (topS 53)) := ⟨rfl, rfl, rfl, by decide +kernel, rfl, by decide +kernel, by decide +kernel⟩
theorem ok_law_loose_maker (T : Txt K mg) (o_law_mixed : OkF P w K mg "_law_mixed" ["script", "k", "many"] 2 m_law_mixed) : OkF P w K mg "_law_loose_maker" ["script", "at", "words"] 3 m_law_loose_maker :=
  mk_ok (N := ["script", "at", "words", "some", "needs", "turn", "here", "how", "span"]) (ps := ["script", "at", "words"]) (k := 2) (r := run_law_loose_maker) T.d__law_loose_maker T.g__law_loose_maker sc_law_loose_maker (fun _ _ _ _ _ _ us hl => match us, hl with | [_, _, _], _ => rfl) fun base cdv A outer s H E hr tk hp => by
  have nd := sc_law_loose_maker.nd
  have hu1 := hu_of hr
  have hu : (A.deeper (PyProof.Rows.envOfC "_law_loose_maker" (defScope (topS 53)) s.heap.objs.size (He.ga K "_law_loose_maker") cdv)).units + 65 < cLine := by have := hr.un; omega
  exact (ss_cons (s_set 3 nd (x_op op_addA s_add (x_var 2) (x_frz (l_disp (a_cons (x_op op_addA s_add (x_sl (x_sub hu1 (x_var 2) x_int) o_none (o_some x_int)) x_str) a_nil)))))
    (ss_cons (s_if (t_cmp (op_eqD hr.units) s_eq (nomark _) (x_callO o_law_mixed hr tk (a_cons (x_var 0) (a_cons (x_var 1) (a_cons x_int a_nil)))) x_int)
    (ss_one (s_ret (x_tup (a_cons x_str (a_cons (x_sub hu1 (x_var 3) (x_callO o_law_mixed hr tk (a_cons (x_var 0) (a_cons (x_op op_addA s_add (x_var 1) x_int) (a_cons (x_callB call_lenA s_len T.b_len (by decide +kernel) (a_cons (x_var 3) a_nil)) a_nil))))) a_nil)))))
    ss_nil)
    (ss_cons (s_set 4 nd (x_new (l_disp a_nil)))
    (ss_cons (s_for hp rfl (i_rng1 T.b_range (a_cons (x_sub hu1 (x_frz (l_disp (a_cons x_int (a_cons x_int (a_cons x_int (a_cons x_int (a_cons x_int a_nil))))))) (x_callO o_law_mixed hr tk (a_cons (x_var 0) (a_cons (x_op op_addA s_add (x_var 1) x_int) (a_cons x_int a_nil))))) a_nil)) (pg_name (i := 5) nd rfl (by first | exact Or.inl rfl | exact Or.inr rfl)) (tg_name 5)
    (ss_cons (s_set 6 nd (x_op op_addA s_add (x_op op_addA s_add (x_var 1) x_int) (x_op op_mul s_mul x_int (x_var 5))))
    (ss_cons (s_set 7 nd (x_sub hu1 (x_frz (l_disp (a_cons x_str (a_cons x_str (a_cons x_str (a_cons x_str a_nil)))))) (x_callO o_law_mixed hr tk (a_cons (x_var 0) (a_cons (x_var 6) (a_cons x_int a_nil))))))
    (ss_one (s_expr (x_bm PySem.F.plainAttrs_list PySem.F.slot_list_append PySem.F.type_list_append mt_append m_append tyL (x_var 4) (a_cons (x_tup (a_cons (x_var 7) (a_cons (x_sub hu1 (x_var 3) (x_callO o_law_mixed hr tk (a_cons (x_var 0) (a_cons (x_op op_addA s_add (x_var 6) x_int) (a_cons (x_callB call_lenA s_len T.b_len (by decide +kernel) (a_cons (x_var 3) a_nil)) a_nil))))) a_nil))) a_nil)))))))
    (ss_cons (s_set 8 nd (x_sub hu1 (x_frz (l_disp (a_cons x_str (a_cons x_str (a_cons x_str a_nil))))) (x_callO o_law_mixed hr tk (a_cons (x_var 0) (a_cons (x_op op_addA s_add (x_var 1) x_int) (a_cons x_int a_nil))))))
    (ss_one (s_ret (x_tup (a_cons x_str (a_cons (x_callT call_tuple_of s_tuple T.b_tuple (by decide +kernel) (a_cons (x_var 4) a_nil)) (a_cons (x_var 8) (a_cons (x_cmp (op_eqD hr.units) s_eq (nomark _) (x_callO o_law_mixed hr tk (a_cons (x_var 0) (a_cons (x_op op_addA s_add (x_var 1) x_int) (a_cons x_int a_nil)))) x_int) (a_cons (x_callO o_law_mixed hr tk (a_cons (x_var 0) (a_cons (x_op op_addA s_add (x_var 1) x_int) (a_cons x_int a_nil)))) a_nil)))))))))))))
theorem sc_law_loose : FnScope ["script", "at", "words", "made", "k", "want"] ["script", "at"] (defScope (topS 54)) := ⟨rfl, rfl, rfl, by decide +kernel, rfl, by decide +kernel, by decide +kernel⟩
theorem ok_law_loose (T : Txt K mg) (o_law_names : OkF P w K mg "_law_names" ["script", "at"] 6 m_law_names) (o_law_rows : OkS P w K mg "_law_rows" ["made"] 1 m_law_rows) (o_law_loose_maker : OkF P w K mg "_law_loose_maker" ["script", "at", "words"] 3 m_law_loose_maker) : OkF P w K mg "_law_loose" ["script", "at"] 7 m_law_loose :=
  mk_ok (N := ["script", "at", "words", "made", "k", "want"]) (ps := ["script", "at"]) (k := 6) (r := run_law_loose) T.d__law_loose T.g__law_loose sc_law_loose (fun _ _ _ _ _ _ us hl => match us, hl with | [_, _], _ => rfl) fun base cdv A outer s H E hr tk hp => by
  have nd := sc_law_loose.nd
  have hu1 := hu_of hr
  have hu : (A.deeper (PyProof.Rows.envOfC "_law_loose" (defScope (topS 54)) s.heap.objs.size (He.ga K "_law_loose") cdv)).units + 65 < cLine := by have := hr.un; omega
  exact (ss_cons (s_set 2 nd (x_callO o_law_names hr tk (a_cons (x_var 0) (a_cons (x_var 1) a_nil))))
    (ss_cons (s_set 3 nd x_dictK)
    (ss_cons (s_for hp rfl (i_enum T.b_enumerate (a_cons (x_var 2) a_nil)) (pg_tup rfl (pgs_cons (pg_name (i := 4) nd rfl (by first | exact Or.inl rfl | exact Or.inr rfl)) (pgs_cons (pg_name (i := 5) nd rfl (by first | exact Or.inl rfl | exact Or.inr rfl)) pgs_nil))) (tg_tup (tgs_cons (tg_name 4) (tgs_cons (tg_name 5) tgs_nil)))
    (ss_one (s_dput hu1 (x_var 3) (x_var 5) (x_callO o_law_loose_maker hr tk (a_cons (x_var 0) (a_cons (x_op op_addA s_add (x_op op_addA s_add (x_var 1) x_int) (x_op op_mul s_mul x_int (x_var 4))) (a_cons (x_var 2) a_nil)))))))
    (ss_one (s_ret (x_callOS o_law_rows hr tk (a_cons (x_var 3) a_nil)))))))
theorem sc_law_sound_maker : FnScope ["script", "at", "words", "k", "breaks", "later", "needs", "turn", "here", "how", "some", "word", "span"] ["script", "at", "words", "k", "breaks"] (defScope (topS 51)) := ⟨rfl, rfl, rfl, by decide +kernel, rfl, by decide +kernel, by decide +kernel⟩
theorem ok_law_sound_maker (T : Txt K mg) (o_law_mixed : OkF P w K mg "_law_mixed" ["script", "k", "many"] 2 m_law_mixed) : OkF P w K mg "_law_sound_maker" ["script", "at", "words", "k", "breaks"] 3 m_law_sound_maker :=
  mk_ok (N := ["script", "at", "words", "k", "breaks", "later", "needs", "turn", "here", "how", "some", "word", "span"]) (ps := ["script", "at", "words", "k", "breaks"]) (k := 2) (r := run_law_sound_maker) T.d__law_sound_maker T.g__law_sound_maker sc_law_sound_maker (fun _ _ _ _ _ _ us hl => match us, hl with | [_, _, _, _, _], _ => rfl) fun base cdv A outer s H E hr tk hp => by
  have nd := sc_law_sound_maker.nd
  have hu1 := hu_of hr
  have hu : (A.deeper (PyProof.Rows.envOfC "_law_sound_maker" (defScope (topS 51)) s.heap.objs.size (He.ga K "_law_sound_maker") cdv)).units + 65 < cLine := by have := hr.un; omega
  exact (ss_cons (s_set 5 nd (x_sl (x_var 2) (o_some (x_op op_addA s_add (x_var 3) x_int)) o_none))
    (ss_cons (s_if (PW.pt (t_and (t_cmp (op_neD hr.units) s_ne (nomark _) (x_var 5) (x_frz (l_disp a_nil))) (t_and1 (t_cmp (op_eqD hr.units) s_eq (nomark _) (x_callO o_law_mixed hr tk (a_cons (x_var 0) (a_cons (x_var 1) (a_cons x_int a_nil)))) x_int))))
    (ss_one (s_ret (x_tup (a_cons x_str (a_cons (x_sub hu1 (x_var 5) (x_callO o_law_mixed hr tk (a_cons (x_var 0) (a_cons (x_op op_addA s_add (x_var 1) x_int) (a_cons (x_callB call_lenA s_len T.b_len (by decide +kernel) (a_cons (x_var 5) a_nil)) a_nil))))) a_nil)))))
    ss_nil)
    (ss_cons (s_set 6 nd (x_new (l_disp a_nil)))
    (ss_cons (s_for hp rfl (i_rng1 T.b_range (a_cons (x_sub hu1 (x_frz (l_disp (a_cons x_int (a_cons x_int (a_cons x_int (a_cons x_int (a_cons x_int a_nil))))))) (x_callO o_law_mixed hr tk (a_cons (x_var 0) (a_cons (x_op op_addA s_add (x_var 1) x_int) (a_cons x_int a_nil))))) a_nil)) (pg_name (i := 7) nd rfl (by first | exact Or.inl rfl | exact Or.inr rfl)) (tg_name 7)
    (ss_cons (s_set 8 nd (x_op op_addA s_add (x_op op_addA s_add (x_var 1) x_int) (x_op op_mul s_mul x_int (x_var 7))))
    (ss_cons (s_set 9 nd (x_sub hu1 (x_frz (l_disp (a_cons x_str (a_cons x_str (a_cons x_str (a_cons x_str a_nil)))))) (x_callO o_law_mixed hr tk (a_cons (x_var 0) (a_cons (x_var 8) (a_cons x_int a_nil))))))
    (ss_cons (s_set 10 nd (x_var 5))
    (ss_cons (s_if (t_cmp (op_eqD hr.units) s_eq (nomark _) (x_var 9) x_str)
    (ss_one (s_set 10 nd (x_var 2)))
    ss_nil)
    (ss_cons (s_if (PW.pt (t_and (t_cmp (op_eqD hr.units) s_eq (nomark _) (x_var 9) x_str) (t_and1 (t_cmp (op_eqD hr.units) s_eq (nomark _) (x_callO o_law_mixed hr tk (a_cons (x_var 0) (a_cons (x_op op_addA s_add (x_var 8) x_int) (a_cons x_int a_nil)))) x_int))))
    (ss_one (s_setLc 10 [("word", 11)] rfl nd (i_any (x_frz (l_disp (a_cons (x_op op_addA s_add (x_sl (x_sub hu1 (x_var 2) x_int) o_none (o_some x_int)) x_str) (a_cons (x_op op_addA s_add (x_sub hu1 (x_var 2) (x_un un_neg s_neg x_int)) x_str) a_nil))))) (tg_name 11) (fun _ _ _ _ _ => (pg_name (i := 11) nd rfl (by first | exact Or.inl rfl | exact Or.inr rfl))) (fun _ _ _ _ _ => (ts_one (PW.pt (t_and (t_cmp (op_notInA hu) s_notIn rfl (x_var 11) (x_var 2)) (t_and1 (t_cmp op_ltA s_lt (nomark _) (x_callB call_lenA s_len T.b_len (by decide +kernel) (a_cons (x_var 11) a_nil)) x_int)))))) (fun _ _ _ _ _ => (x_var 11))))
    ss_nil)
    (ss_one (s_if (t_cmp (op_neD hr.units) s_ne (nomark _) (x_var 10) (x_frz (l_disp a_nil)))
    (ss_one (s_expr (x_bm PySem.F.plainAttrs_list PySem.F.slot_list_append PySem.F.type_list_append mt_append m_append tyL (x_var 6) (a_cons (x_tup (a_cons (x_var 9) (a_cons (x_sub hu1 (x_var 10) (x_callO o_law_mixed hr tk (a_cons (x_var 0) (a_cons (x_op op_addA s_add (x_var 8) x_int) (a_cons (x_callB call_lenA s_len T.b_len (by decide +kernel) (a_cons (x_var 10) a_nil)) a_nil))))) a_nil))) a_nil))))
    ss_nil))))))))
    (ss_cons (s_set 12 nd (x_sub hu1 (x_frz (l_disp (a_cons x_str (a_cons x_str (a_cons x_str a_nil))))) (x_callO o_law_mixed hr tk (a_cons (x_var 0) (a_cons (x_op op_addA s_add (x_var 1) x_int) (a_cons x_int a_nil))))))
    (ss_one (s_ret (x_tup (a_cons x_str (a_cons (x_callT call_tuple_of s_tuple T.b_tuple (by decide +kernel) (a_cons (x_var 6) a_nil)) (a_cons (x_var 12) (a_cons (x_cmp op_gt s_gt (nomark _) (x_callO o_law_mixed hr tk (a_cons (x_var 0) (a_cons (x_op op_addA s_add (x_var 1) x_int) (a_cons x_int a_nil)))) x_int) (a_cons (x_callO o_law_mixed hr tk (a_cons (x_var 0) (a_cons (x_op op_addA s_add (x_var 1) x_int) (a_cons (x_var 4) a_nil)))) a_nil)))))))))))))
theorem sc_law_made : FnScope ["books", "want", "maker"] ["books"] (defScope (topS 48)) := ⟨rfl, rfl, rfl, by decide +kernel, rfl, by decide +kernel, by decide +kernel⟩
theorem ok_law_made (T : Txt K mg)  : OkF P w K mg "_law_made" ["books"] 1 m_law_made :=
  mk_ok (N := ["books", "want", "maker"]) (ps := ["books"]) (k := 0) (r := run_law_made) T.d__law_made T.g__law_made sc_law_made (fun _ _ _ _ _ _ us hl => match us, hl with | [_], _ => rfl) fun base cdv A outer s H E hr tk hp => by
  have nd := sc_law_made.nd
  have hu1 := hu_of hr
  have hu : (A.deeper (PyProof.Rows.envOfC "_law_made" (defScope (topS 48)) s.heap.objs.size (He.ga K "_law_made") cdv)).units + 65 < cLine := by have := hr.un; omega
  exact (ss_one (s_ret (x_frz (l_comp [("want", 1), ("maker", 2)] rfl nd (i_any (x_var 0)) (tg_tup (tgs_cons (tg_name 1) (tgs_cons (tg_name 2) tgs_nil))) (fun _ _ _ _ _ => (pg_tup rfl (pgs_cons (pg_name (i := 1) nd rfl (by first | exact Or.inl rfl | exact Or.inr rfl)) (pgs_cons (pg_name (i := 2) nd rfl (by first | exact Or.inl rfl | exact Or.inr rfl)) pgs_nil)))) (fun _ _ _ _ _ => (ts_one (t_cmp (op_eqD hr.units) s_eq (nomark _) (x_sub hu1 (x_var 2) x_int) x_str))) (fun _ _ _ _ _ => (x_var 1))))))
theorem sc_law_maker : FnScope ["books", "want", "found", "one", "maker"] ["books", "want"] (defScope (topS 45)) := ⟨rfl, rfl, rfl, by decide +kernel, rfl, by decide +kernel, by decide +kernel⟩
theorem ok_law_maker (T : Txt K mg)  : OkF P w K mg "_law_maker" ["books", "want"] 1 m_law_maker :=
  mk_ok (N := ["books", "want", "found", "one", "maker"]) (ps := ["books", "want"]) (k := 0) (r := run_law_maker) T.d__law_maker T.g__law_maker sc_law_maker (fun _ _ _ _ _ _ us hl => match us, hl with | [_, _], _ => rfl) fun base cdv A outer s H E hr tk hp => by
  have nd := sc_law_maker.nd
  have hu1 := hu_of hr
  have hu : (A.deeper (PyProof.Rows.envOfC "_law_maker" (defScope (topS 45)) s.heap.objs.size (He.ga K "_law_maker") cdv)).units + 65 < cLine := by have := hr.un; omega
  exact (ss_cons (s_setLc 2 [("one", 3), ("maker", 4)] rfl nd (i_any (x_var 0)) (tg_tup (tgs_cons (tg_name 3) (tgs_cons (tg_name 4) tgs_nil))) (fun _ _ _ _ _ => (pg_tup rfl (pgs_cons (pg_name (i := 3) nd rfl (by first | exact Or.inl rfl | exact Or.inr rfl)) (pgs_cons (pg_name (i := 4) nd rfl (by first | exact Or.inl rfl | exact Or.inr rfl)) pgs_nil)))) (fun _ _ _ _ _ => (ts_one (t_cmp (op_eqD hr.units) s_eq (nomark _) (x_var 3) (x_var 1)))) (fun _ _ _ _ _ => (x_var 4)))
    (ss_one (s_ret (x_sub hu1 (x_op op_addA s_add (x_var 2) (x_frz (l_disp (a_cons x_non a_nil)))) x_int))))
theorem sc_law_stands : FnScope ["books", "want", "turn", "maker"] ["books", "want"] (defScope (topS 46)) := ⟨rfl, rfl, rfl, by decide +kernel, rfl, by decide +kernel, by decide +kernel⟩
theorem ok_law_stands (T : Txt K mg) (o_law_maker : OkF P w K mg "_law_maker" ["books", "want"] 1 m_law_maker) : OkF P w K mg "_law_stands" ["books", "want"] 2 m_law_stands :=
  mk_ok (N := ["books", "want", "turn", "maker"]) (ps := ["books", "want"]) (k := 1) (r := run_law_stands) T.d__law_stands T.g__law_stands sc_law_stands (fun _ _ _ _ _ _ us hl => match us, hl with | [_, _], _ => rfl) fun base cdv A outer s H E hr tk hp => by
  have nd := sc_law_stands.nd
  have hu1 := hu_of hr
  have hu : (A.deeper (PyProof.Rows.envOfC "_law_stands" (defScope (topS 46)) s.heap.objs.size (He.ga K "_law_stands") cdv)).units + 65 < cLine := by have := hr.un; omega
  exact (ss_cons (s_for hp rfl (i_rng1 T.b_range (a_cons x_int a_nil)) (pg_name (i := 2) nd rfl (by first | exact Or.inl rfl | exact Or.inr rfl)) (tg_name 2)
    (ss_cons (s_set 3 nd (x_callO o_law_maker hr tk (a_cons (x_var 0) (a_cons (x_var 1) a_nil))))
    (ss_cons (s_if (t_isN (x_var 3))
    (ss_one (s_ret x_non))
    ss_nil)
    (ss_cons (s_if (t_cmp (op_eqD hr.units) s_eq (nomark _) (x_sub hu1 (x_var 3) x_int) x_str)
    (ss_one (s_ret (x_var 1)))
    ss_nil)
    (ss_one (s_set 1 nd (x_sub hu1 (x_var 3) x_int)))))))
    (ss_one (s_ret x_non)))
theorem sc_law_holds : FnScope ["books", "want", "found", "how", "other"] ["books", "want"] (defScope (topS 47)) := ⟨rfl, rfl, rfl, by decide +kernel, rfl, by decide +kernel, by decide +kernel⟩
theorem ok_law_holds (T : Txt K mg) (o_law_stands : OkF P w K mg "_law_stands" ["books", "want"] 2 m_law_stands) (o_law_maker : OkF P w K mg "_law_maker" ["books", "want"] 1 m_law_maker) : OkF P w K mg "_law_holds" ["books", "want"] 3 m_law_holds :=
  mk_ok (N := ["books", "want", "found", "how", "other"]) (ps := ["books", "want"]) (k := 2) (r := run_law_holds) T.d__law_holds T.g__law_holds sc_law_holds (fun _ _ _ _ _ _ us hl => match us, hl with | [_, _], _ => rfl) fun base cdv A outer s H E hr tk hp => by
  have nd := sc_law_holds.nd
  have hu1 := hu_of hr
  have hu : (A.deeper (PyProof.Rows.envOfC "_law_holds" (defScope (topS 47)) s.heap.objs.size (He.ga K "_law_holds") cdv)).units + 65 < cLine := by have := hr.un; omega
  exact (ss_cons (s_setLc 2 [("how", 3), ("other", 4)] rfl nd (i_any (x_sub hu1 (x_callO o_law_maker hr tk (a_cons (x_var 0) (a_cons (x_var 1) a_nil))) x_int)) (tg_tup (tgs_cons (tg_name 3) (tgs_cons (tg_name 4) tgs_nil))) (fun _ _ _ _ _ => (pg_tup rfl (pgs_cons (pg_name (i := 3) nd rfl (by first | exact Or.inl rfl | exact Or.inr rfl)) (pgs_cons (pg_name (i := 4) nd rfl (by first | exact Or.inl rfl | exact Or.inr rfl)) pgs_nil)))) (fun _ _ _ _ _ => (ts_one (t_cmp (op_neD hr.units) s_ne (nomark _) (x_var 3) x_str))) (fun _ _ _ _ _ => (x_callO o_law_stands hr takes0 (a_cons (x_var 0) (a_cons (x_var 4) a_nil)))))
    (ss_one (s_ret (x_frz (l_comp [("other", 4)] rfl nd (i_any (x_var 2)) (tg_name 4) (fun _ _ _ _ _ => (pg_name (i := 4) nd rfl (by first | exact Or.inl rfl | exact Or.inr rfl))) (fun _ _ _ _ _ => (ts_one (t_notN (x_var 4)))) (fun _ _ _ _ _ => (x_var 4)))))))
theorem sc_law_captive : FnScope ["books", "found", "want", "near", "other", "turn", "third"] ["books"] (defScope (topS 49)) := ⟨rfl, rfl, rfl, by decide +kernel, rfl, by decide +kernel, by decide +kernel⟩
theorem ok_law_captive (T : Txt K mg) (o_law_made : OkF P w K mg "_law_made" ["books"] 1 m_law_made) (o_law_maker : OkF P w K mg "_law_maker" ["books", "want"] 1 m_law_maker) (o_law_holds : OkF P w K mg "_law_holds" ["books", "want"] 3 m_law_holds) : OkF P w K mg "_law_captive" ["books"] 4 m_law_captive :=
  mk_ok (N := ["books", "found", "want", "near", "other", "turn", "third"]) (ps := ["books"]) (k := 3) (r := run_law_captive) T.d__law_captive T.g__law_captive sc_law_captive (fun _ _ _ _ _ _ us hl => match us, hl with | [_], _ => rfl) fun base cdv A outer s H E hr tk hp => by
  have nd := sc_law_captive.nd
  have hu1 := hu_of hr
  have hu : (A.deeper (PyProof.Rows.envOfC "_law_captive" (defScope (topS 49)) s.heap.objs.size (He.ga K "_law_captive") cdv)).units + 65 < cLine := by have := hr.un; omega
  exact (ss_cons (s_set 1 nd (x_new (l_disp a_nil)))
    (ss_cons (s_for hp rfl (i_any (x_callO o_law_made hr tk (a_cons (x_var 0) a_nil))) (pg_name (i := 2) nd rfl (by first | exact Or.inl rfl | exact Or.inr rfl)) (tg_name 2)
    (ss_cons (s_set 3 nd (x_callT (call_dictP rfl) s_dict T.b_dict (by decide +kernel) (a_cons (x_frz (l_comp [("other", 4)] rfl nd (i_any (x_callO o_law_holds hr tk (a_cons (x_var 0) (a_cons (x_var 2) a_nil)))) (tg_name 4) (fun _ _ _ _ _ => (pg_name (i := 4) nd rfl (by first | exact Or.inl rfl | exact Or.inr rfl))) (fun _ _ _ _ _ => ts_nil) (fun _ _ _ _ _ => (x_tup (a_cons (x_var 4) (a_cons x_bl a_nil)))))) a_nil)))
    (ss_cons (s_for hp rfl (i_rng1 T.b_range (a_cons x_int a_nil)) (pg_name (i := 5) nd rfl (by first | exact Or.inl rfl | exact Or.inr rfl)) (tg_name 5)
    (ss_one (s_for hp rfl (i_any (x_frz (l_callT (call_listA rfl) s_list T.b_list (by decide +kernel) (a_cons (x_var 3) a_nil)))) (pg_name (i := 4) nd rfl (by first | exact Or.inl rfl | exact Or.inr rfl)) (tg_name 4)
    (ss_one (s_if (t_cmp (op_eqD hr.units) s_eq (nomark _) (x_sub hu1 (x_callO o_law_maker hr tk (a_cons (x_var 0) (a_cons (x_var 4) a_nil))) x_int) x_str)
    (ss_one (s_for hp rfl (i_any (x_callO o_law_holds hr tk (a_cons (x_var 0) (a_cons (x_var 4) a_nil)))) (pg_name (i := 6) nd rfl (by first | exact Or.inl rfl | exact Or.inr rfl)) (tg_name 6)
    (ss_one (s_dput hu1 (x_var 3) (x_var 6) x_bl))))
    ss_nil)))))
    (ss_one (s_if (t_cmp (op_eqD hr.units) s_eq (nomark _) (x_sub hu1 (x_callO o_law_maker hr tk (a_cons (x_var 0) (a_cons (x_var 2) a_nil))) x_int) x_str)
    (ss_one (s_expr (x_bm PySem.F.plainAttrs_list PySem.F.slot_list_extend PySem.F.type_list_extend mt_extend m_extend tyL (x_var 1) (a_cons (x_frz (l_comp [("other", 4)] rfl nd (i_any (x_frz (l_callB call_sortB s_sorted2 T.b_sorted (by decide +kernel) (a_cons (x_frz (l_callT (call_listA rfl) s_list T.b_list (by decide +kernel) (a_cons (x_var 3) a_nil))) a_nil)))) (tg_name 4) (fun _ _ _ _ _ => (pg_name (i := 4) nd rfl (by first | exact Or.inl rfl | exact Or.inr rfl))) (fun _ _ _ _ _ => (ts_one (t_cmp (op_eqD hr.units) s_eq (nomark _) (x_sub hu1 (x_callO o_law_maker hr takes0 (a_cons (x_var 0) (a_cons (x_var 4) a_nil))) x_int) x_str))) (fun _ _ _ _ _ => (x_tup (a_cons (x_var 2) (a_cons (x_var 4) a_nil)))))) a_nil))))
    ss_nil)))))
    (ss_one (s_ret (x_var 1)))))
theorem sc_law_with_spans : FnScope ["books", "wants", "span", "rows", "want", "maker"] ["books", "wants", "span"] (defScope (topS 50)) := ⟨rfl, rfl, rfl, by decide +kernel, rfl, by decide +kernel, by decide +kernel⟩
theorem ok_law_with_spans (T : Txt K mg)  : OkF P w K mg "_law_with_spans" ["books", "wants", "span"] 1 m_law_with_spans :=
  mk_ok (N := ["books", "wants", "span", "rows", "want", "maker"]) (ps := ["books", "wants", "span"]) (k := 0) (r := run_law_with_spans) T.d__law_with_spans T.g__law_with_spans sc_law_with_spans (fun _ _ _ _ _ _ us hl => match us, hl with | [_, _, _], _ => rfl) fun base cdv A outer s H E hr tk hp => by
  have nd := sc_law_with_spans.nd
  have hu1 := hu_of hr
  have hu : (A.deeper (PyProof.Rows.envOfC "_law_with_spans" (defScope (topS 50)) s.heap.objs.size (He.ga K "_law_with_spans") cdv)).units + 65 < cLine := by have := hr.un; omega
  exact (ss_cons (s_set 3 nd (x_new (l_disp a_nil)))
    (ss_cons (s_for hp rfl (i_any (x_var 0)) (pg_tup rfl (pgs_cons (pg_name (i := 4) nd rfl (by first | exact Or.inl rfl | exact Or.inr rfl)) (pgs_cons (pg_name (i := 5) nd rfl (by first | exact Or.inl rfl | exact Or.inr rfl)) pgs_nil))) (tg_tup (tgs_cons (tg_name 4) (tgs_cons (tg_name 5) tgs_nil)))
    (ss_cons (s_if (t_cmp (op_inA hu) s_in rfl (x_var 4) (x_var 1))
    (ss_one (s_set 5 nd (x_op op_addA s_add (x_op op_addA s_add (x_sl (x_var 5) o_none (o_some x_int)) (x_tup (a_cons (x_var 2) a_nil))) (x_sl (x_var 5) (o_some x_int) o_none))))
    ss_nil)
    (ss_one (s_expr (x_bm PySem.F.plainAttrs_list PySem.F.slot_list_append PySem.F.type_list_append mt_append m_append tyL (x_var 3) (a_cons (x_tup (a_cons (x_var 4) (a_cons (x_var 5) a_nil))) a_nil))))))
    (ss_one (s_ret (x_callT call_tuple_of s_tuple T.b_tuple (by decide +kernel) (a_cons (x_var 3) a_nil))))))
theorem sc_law_sound : FnScope ["script", "at", "breaks", "words", "made", "k", "want", "books", "one", "other"] ["script", "at", "breaks"] (defScope (topS 52)) := ⟨rfl, rfl, rfl, by decide +kernel, rfl, by decide +kernel, by decide +kernel⟩
theorem ok_law_sound (T : Txt K mg) (o_law_names : OkF P w K mg "_law_names" ["script", "at"] 6 m_law_names) (o_law_rows : OkS P w K mg "_law_rows" ["made"] 1 m_law_rows) (o_law_sound_maker : OkF P w K mg "_law_sound_maker" ["script", "at", "words", "k", "breaks"] 3 m_law_sound_maker) (o_law_captive : OkF P w K mg "_law_captive" ["books"] 4 m_law_captive) (o_law_with_spans : OkF P w K mg "_law_with_spans" ["books", "wants", "span"] 1 m_law_with_spans) : OkF P w K mg "_law_sound" ["script", "at", "breaks"] 7 m_law_sound :=
  mk_ok (N := ["script", "at", "breaks", "words", "made", "k", "want", "books", "one", "other"]) (ps := ["script", "at", "breaks"]) (k := 6) (r := run_law_sound) T.d__law_sound T.g__law_sound sc_law_sound (fun _ _ _ _ _ _ us hl => match us, hl with | [_, _, _], _ => rfl) fun base cdv A outer s H E hr tk hp => by
  have nd := sc_law_sound.nd
  have hu1 := hu_of hr
  have hu : (A.deeper (PyProof.Rows.envOfC "_law_sound" (defScope (topS 52)) s.heap.objs.size (He.ga K "_law_sound") cdv)).units + 65 < cLine := by have := hr.un; omega
  exact (ss_cons (s_set 3 nd (x_callO o_law_names hr tk (a_cons (x_var 0) (a_cons (x_var 1) a_nil))))
    (ss_cons (s_set 4 nd x_dictK)
    (ss_cons (s_for hp rfl (i_enum T.b_enumerate (a_cons (x_var 3) a_nil)) (pg_tup rfl (pgs_cons (pg_name (i := 5) nd rfl (by first | exact Or.inl rfl | exact Or.inr rfl)) (pgs_cons (pg_name (i := 6) nd rfl (by first | exact Or.inl rfl | exact Or.inr rfl)) pgs_nil))) (tg_tup (tgs_cons (tg_name 5) (tgs_cons (tg_name 6) tgs_nil)))
    (ss_one (s_dput hu1 (x_var 4) (x_var 6) (x_callO o_law_sound_maker hr tk (a_cons (x_var 0) (a_cons (x_op op_addA s_add (x_op op_addA s_add (x_var 1) x_int) (x_op op_mul s_mul x_int (x_var 5))) (a_cons (x_var 3) (a_cons (x_var 5) (a_cons (x_var 2) a_nil)))))))))
    (ss_cons (s_set 7 nd (x_callOS o_law_rows hr tk (a_cons (x_var 4) a_nil)))
    (ss_cons (s_while hp (t_cmp (op_neD hr.units) s_ne (nomark _) (x_callO o_law_captive hr tk (a_cons (x_var 7) a_nil)) (x_frz (l_disp a_nil)))
    (ss_one (s_set 7 nd (x_callO o_law_with_spans hr tk (a_cons (x_var 7) (a_cons (x_frz (l_comp [("one", 8), ("other", 9)] rfl nd (i_any (x_callO o_law_captive hr tk (a_cons (x_var 7) a_nil))) (tg_tup (tgs_cons (tg_name 8) (tgs_cons (tg_name 9) tgs_nil))) (fun _ _ _ _ _ => (pg_tup rfl (pgs_cons (pg_name (i := 8) nd rfl (by first | exact Or.inl rfl | exact Or.inr rfl)) (pgs_cons (pg_name (i := 9) nd rfl (by first | exact Or.inl rfl | exact Or.inr rfl)) pgs_nil)))) (fun _ _ _ _ _ => ts_nil) (fun _ _ _ _ _ => (x_var 8)))) (a_cons x_str a_nil)))))))
    (ss_one (s_ret (x_var 7))))))))
theorem sc_law_case : FnScope ["script", "at"] ["script", "at"] (defScope (topS 55)) := ⟨rfl, rfl, rfl, by decide +kernel, rfl, by decide +kernel, by decide +kernel⟩
theorem ok_law_case (T : Txt K mg) (o_law_loose : OkF P w K mg "_law_loose" ["script", "at"] 7 m_law_loose) (o_law_mixed : OkF P w K mg "_law_mixed" ["script", "k", "many"] 2 m_law_mixed) (o_law_sound : OkF P w K mg "_law_sound" ["script", "at", "breaks"] 7 m_law_sound) : OkF P w K mg "_law_case" ["script", "at"] 8 m_law_case :=
  mk_ok (N := ["script", "at"]) (ps := ["script", "at"]) (k := 7) (r := run_law_case) T.d__law_case T.g__law_case sc_law_case (fun _ _ _ _ _ _ us hl => match us, hl with | [_, _], _ => rfl) fun base cdv A outer s H E hr tk hp => by
  have nd := sc_law_case.nd
  have hu1 := hu_of hr
  have hu : (A.deeper (PyProof.Rows.envOfC "_law_case" (defScope (topS 55)) s.heap.objs.size (He.ga K "_law_case") cdv)).units + 65 < cLine := by have := hr.un; omega
  exact (ss_cons (s_if (t_cmp (op_eqD hr.units) s_eq (nomark _) (x_callO o_law_mixed hr tk (a_cons (x_var 0) (a_cons (x_var 1) (a_cons x_int a_nil)))) x_int)
    (ss_one (s_ret (x_callO o_law_sound hr tk (a_cons (x_var 0) (a_cons (x_op op_addA s_add (x_var 1) x_int) (a_cons x_int a_nil))))))
    ss_nil)
    (ss_one (s_ret (x_callO o_law_loose hr tk (a_cons (x_var 0) (a_cons (x_op op_addA s_add (x_var 1) x_int) a_nil))))))
theorem sc_read_made : FnScope ["words", "at", "ends", "breaks", "rest", "needs", "k"] ["words"] (defScope (topS 34)) := ⟨rfl, rfl, rfl, by decide +kernel, rfl, by decide +kernel, by decide +kernel⟩
theorem ok_read_made (T : Txt K mg)  : OkF P w K mg "read_made" ["words"] 1 m_read_made :=
  mk_ok (N := ["words", "at", "ends", "breaks", "rest", "needs", "k"]) (ps := ["words"]) (k := 0) (r := run_read_made) T.d_read_made T.g_read_made sc_read_made (fun _ _ _ _ _ _ us hl => match us, hl with | [_], _ => rfl) fun base cdv A outer s H E hr tk hp => by
  have nd := sc_read_made.nd
  have hu1 := hu_of hr
  have hu : (A.deeper (PyProof.Rows.envOfC "read_made" (defScope (topS 34)) s.heap.objs.size (He.ga K "read_made") cdv)).units + 65 < cLine := by have := hr.un; omega
  exact (ss_cons (s_set 1 nd x_int)
    (ss_cons (s_set 2 nd (x_cmp (op_eqD hr.units) s_eq (nomark _) (x_sl (x_var 0) (o_some (x_var 1)) (o_some (x_op op_addA s_add (x_var 1) x_int))) (x_frz (l_disp (a_cons x_str a_nil)))))
    (ss_cons (s_if (t_val (x_var 2))
    (ss_one (s_set 1 nd (x_op op_addA s_add (x_var 1) x_int)))
    ss_nil)
    (ss_cons (s_set 3 nd x_int)
    (ss_cons (s_if (t_cmp (op_eqD hr.units) s_eq (nomark _) (x_sl (x_var 0) (o_some (x_var 1)) (o_some (x_op op_addA s_add (x_var 1) x_int))) (x_frz (l_disp (a_cons x_str a_nil))))
    (ss_cons (s_if (PW.pt (t_or (t_cmp op_ltA s_lt (nomark _) (x_callB call_lenA s_len T.b_len (by decide +kernel) (a_cons (x_var 0) a_nil)) (x_op op_addA s_add (x_var 1) x_int)) (t_or1 (t_cmp (op_notInA hu) s_notIn rfl (x_sub hu1 (x_var 0) (x_op op_addA s_add (x_var 1) x_int)) (x_tup (a_cons x_str (a_cons x_str (a_cons x_str a_nil))))))))
    (ss_one (s_ret x_non))
    ss_nil)
    (ss_cons (s_set 3 nd (x_callT call_int_str s_intS T.b_int (by decide +kernel) (a_cons (x_sub hu1 (x_var 0) (x_op op_addA s_add (x_var 1) x_int)) a_nil)))
    (ss_one (s_set 1 nd (x_op op_addA s_add (x_var 1) x_int)))))
    ss_nil)
    (ss_cons (s_set 4 nd (x_sl (x_var 0) (o_some (x_var 1)) o_none))
    (ss_cons (s_if (t_cmp (op_eqD hr.units) s_eq (nomark _) (x_op op_mod s_mod (x_callB call_lenA s_len T.b_len (by decide +kernel) (a_cons (x_var 4) a_nil)) x_int) x_int)
    (ss_one (s_ret x_non))
    ss_nil)
    (ss_cons (s_setLc 5 [("k", 6)] rfl nd (i_rngS T.b_range (a_cons x_int (a_cons (x_callB call_lenA s_len T.b_len (by decide +kernel) (a_cons (x_var 4) a_nil)) (a_cons x_int a_nil)))) (tg_name 6) (fun _ _ _ _ _ => (pg_name (i := 6) nd rfl (by first | exact Or.inl rfl | exact Or.inr rfl))) (fun _ _ _ _ _ => ts_nil) (fun _ _ _ _ _ => (x_tup (a_cons (x_sub hu1 (x_var 4) (x_var 6)) (a_cons (x_sub hu1 (x_var 4) (x_op op_addA s_add (x_var 6) x_int)) a_nil)))))
    (ss_one (s_ret (x_tup (a_cons x_str (a_cons (x_callT call_tuple_of s_tuple T.b_tuple (by decide +kernel) (a_cons (x_var 5) a_nil)) (a_cons (x_sub hu1 (x_var 0) x_int) (a_cons (x_var 2) (a_cons (x_var 3) a_nil))))))))))))))))
theorem sc_read_row : FnScope ["row", "words"] ["row"] (defScope (topS 35)) := ⟨rfl, rfl, rfl, by decide +kernel, rfl, by decide +kernel, by decide +kernel⟩
theorem ok_read_row (T : Txt K mg) (o_read_made : OkF P w K mg "read_made" ["words"] 1 m_read_made) : OkF P w K mg "read_row" ["row"] 2 m_read_row :=
  mk_ok (N := ["row", "words"]) (ps := ["row"]) (k := 1) (r := run_read_row) T.d_read_row T.g_read_row sc_read_row (fun _ _ _ _ _ _ us hl => match us, hl with | [_], _ => rfl) fun base cdv A outer s H E hr tk hp => by
  have nd := sc_read_row.nd
  have hu1 := hu_of hr
  have hu : (A.deeper (PyProof.Rows.envOfC "read_row" (defScope (topS 35)) s.heap.objs.size (He.ga K "read_row") cdv)).units + 65 < cLine := by have := hr.un; omega
  exact (ss_cons (s_set 1 nd (x_bm PySem.F.plainAttrs_str PySem.F.slot_str_split PySem.F.type_str_split mt_split m_split tyS (x_var 0) (a_cons x_str a_nil)))
    (ss_cons (s_if (t_cmp op_ltA s_lt (nomark _) (x_callB call_lenA s_len T.b_len (by decide +kernel) (a_cons (x_var 1) a_nil)) x_int)
    (ss_one (s_ret x_non))
    ss_nil)
    (ss_cons (s_if (t_cmp (op_eqD hr.units) s_eq (nomark _) (x_sub hu1 (x_var 1) x_int) x_str)
    (ss_one (s_ret (x_tup (a_cons (x_sub hu1 (x_var 1) x_int) (a_cons (x_op op_addA s_add (x_tup (a_cons x_str a_nil)) (x_callT call_tuple_of s_tuple T.b_tuple (by decide +kernel) (a_cons (x_sl (x_var 1) (o_some x_int) o_none) a_nil))) a_nil)))))
    ss_nil)
    (ss_cons (s_if (t_cmp (op_eqD hr.units) s_eq (nomark _) (x_sub hu1 (x_var 1) x_int) x_str)
    (ss_one (s_ret (x_tup (a_cons (x_sub hu1 (x_var 1) x_int) (a_cons (x_callO o_read_made hr tk (a_cons (x_sl (x_var 1) (o_some x_int) o_none) a_nil)) a_nil)))))
    ss_nil)
    (ss_one (s_ret x_non))))))
theorem sc_read : FnScope ["text", "rows", "row"] ["text"] (defScope (topS 36)) := ⟨rfl, rfl, rfl, by decide +kernel, rfl, by decide +kernel, by decide +kernel⟩
theorem ok_read (T : Txt K mg) (o_are_books : OkF P w K mg "are_books" ["thing"] 5 m_are_books) (o_text_of : OkF P w K mg "text_of" ["books"] 2 m_text_of) (o_read_row : OkF P w K mg "read_row" ["row"] 2 m_read_row) : OkF P w K mg "read" ["text"] 6 m_read :=
  mk_ok (N := ["text", "rows", "row"]) (ps := ["text"]) (k := 5) (r := run_read) T.d_read T.g_read sc_read (fun _ _ _ _ _ _ us hl => match us, hl with | [_], _ => rfl) fun base cdv A outer s H E hr tk hp => by
  have nd := sc_read.nd
  have hu1 := hu_of hr
  have hu : (A.deeper (PyProof.Rows.envOfC "read" (defScope (topS 36)) s.heap.objs.size (He.ga K "read") cdv)).units + 65 < cLine := by have := hr.un; omega
  exact (ss_cons (s_if (t_not (t_val (x_callB call_isi s_isi T.b_isinstance (by decide +kernel) (a_cons (x_var 0) (a_cons (x_ty T.b_str) a_nil)))))
    (ss_one (s_raise rfl tk T.x_NoText T.g_NoText))
    ss_nil)
    (ss_cons (s_set 1 nd (x_tup a_nil))
    (ss_cons (s_if (t_cmp (op_neD hr.units) s_ne (nomark _) (x_var 0) x_str)
    (ss_one (s_set 1 nd (x_callT call_tuple_of s_tuple T.b_tuple (by decide +kernel) (a_cons (x_frz (l_comp [("row", 2)] rfl nd (i_any (x_bm PySem.F.plainAttrs_str PySem.F.slot_str_split PySem.F.type_str_split mt_split m_split tyS (x_var 0) (a_cons x_str a_nil))) (tg_name 2) (fun _ _ _ _ _ => (pg_name (i := 2) nd rfl (by first | exact Or.inl rfl | exact Or.inr rfl))) (fun _ _ _ _ _ => ts_nil) (fun _ _ _ _ _ => (x_callO o_read_row hr takes0 (a_cons (x_var 2) a_nil))))) a_nil))))
    ss_nil)
    (ss_cons (s_if (PW.pt (t_or (t_not (t_val (x_callO o_are_books hr tk (a_cons (x_var 1) a_nil)))) (t_or1 (t_cmp (op_neD hr.units) s_ne (nomark _) (x_callO o_text_of hr tk (a_cons (x_var 1) a_nil)) (x_var 0)))))
    (ss_one (s_raise rfl tk T.x_NoText T.g_NoText))
    ss_nil)
    (ss_one (s_ret (x_var 1)))))))
theorem sc_law_which : FnScope ["e", "own"] ["e"] (defScope (topS 56)) := ⟨rfl, rfl, rfl, by decide +kernel, rfl, by decide +kernel, by decide +kernel⟩
theorem ok_law_which (T : Txt K mg) : OkW P w K mg "_law_which" 1 m_law_which :=
  mk_okW (N := ["e", "own"]) (k := 0) (r := run_law_which) T.d__law_which T.g__law_which sc_law_which (fun _ _ _ _ _ _ us hl => match us, hl with | [_], _ => rfl) fun base cdv A outer s H E p C hC hz hf hr => by
  have nd := sc_law_which.nd
  have hun : (A.deeper (PyProof.Rows.envOfC "_law_which" (defScope (topS 56)) s.heap.objs.size (He.ga K "_law_which") cdv)).units + 64 < cLine := by have := hr.un; omega
  have hp : (p.1, p.2) ∈ [p] := List.mem_cons_self
  exact (ss_cons (s_set 1 nd (x_new (l_disp (a_cons (x_callB (call_isP hp (T.errs C hC).ex hz hf) (s_isE (T.errs C hC)) T.b_isinstance (by decide +kernel) (a_cons (x_var 0) (a_cons (x_gglo T.g_NoWant) a_nil))) (a_cons (x_callB (call_isP hp (T.errs C hC).ex hz hf) (s_isE (T.errs C hC)) T.b_isinstance (by decide +kernel) (a_cons (x_var 0) (a_cons (x_gglo T.g_NoMaker) a_nil))) (a_cons (x_callB (call_isP hp (T.errs C hC).ex hz hf) (s_isE (T.errs C hC)) T.b_isinstance (by decide +kernel) (a_cons (x_var 0) (a_cons (x_gglo T.g_NoBooks) a_nil))) (a_cons (x_callB (call_isP hp (T.errs C hC).ex hz hf) (s_isE (T.errs C hC)) T.b_isinstance (by decide +kernel) (a_cons (x_var 0) (a_cons (x_gglo T.g_TooBig) a_nil))) a_nil)))))))
    (ss_cons (s_expr (x_bm PySem.F.plainAttrs_list PySem.F.slot_list_extend PySem.F.type_list_extend mt_extend m_extend tyL (x_var 1) (a_cons (x_frz (l_disp (a_cons (x_callB (call_isP hp (T.errs C hC).ex hz hf) (s_isE (T.errs C hC)) T.b_isinstance (by decide +kernel) (a_cons (x_var 0) (a_cons (x_gglo T.g_Missing) a_nil))) (a_cons (x_callB (call_isP hp (T.errs C hC).ex hz hf) (s_isE (T.errs C hC)) T.b_isinstance (by decide +kernel) (a_cons (x_var 0) (a_cons (x_gglo T.g_Unsound) a_nil))) (a_cons (x_callB (call_isP hp (T.errs C hC).ex hz hf) (s_isE (T.errs C hC)) T.b_isinstance (by decide +kernel) (a_cons (x_var 0) (a_cons (x_gglo T.g_NoScope) a_nil))) (a_cons (x_callB (call_isP hp (T.errs C hC).ex hz hf) (s_isE (T.errs C hC)) T.b_isinstance (by decide +kernel) (a_cons (x_var 0) (a_cons (x_gglo T.g_Shut) a_nil))) a_nil)))))) a_nil)))
    (ss_cons (s_expr (x_bm PySem.F.plainAttrs_list PySem.F.slot_list_extend PySem.F.type_list_extend mt_extend m_extend tyL (x_var 1) (a_cons (x_frz (l_disp (a_cons (x_callB (call_isP hp (T.errs C hC).ex hz hf) (s_isE (T.errs C hC)) T.b_isinstance (by decide +kernel) (a_cons (x_var 0) (a_cons (x_gglo T.g_NoThing) a_nil))) (a_cons (x_callB (call_isP hp (T.errs C hC).ex hz hf) (s_isE (T.errs C hC)) T.b_isinstance (by decide +kernel) (a_cons (x_var 0) (a_cons (x_gglo T.g_Gone) a_nil))) (a_cons (x_callB (call_isP hp (T.errs C hC).ex hz hf) (s_isE (T.errs C hC)) T.b_isinstance (by decide +kernel) (a_cons (x_var 0) (a_cons (x_gglo T.g_NoNeed) a_nil))) (a_cons (x_callB (call_isP hp (T.errs C hC).ex hz hf) (s_isE (T.errs C hC)) T.b_isinstance (by decide +kernel) (a_cons (x_var 0) (a_cons (x_gglo T.g_NoText) a_nil))) a_nil)))))) a_nil)))
    (ss_cons (s_if (PW.pt (t_or (t_cmp (op_neD hun) s_ne (nomark _) (x_bm PySem.F.plainAttrs_list PySem.F.slot_list_count PySem.F.type_list_count mt_countF m_count tyL (x_var 1) (a_cons x_bl a_nil)) x_int) (t_or1 (t_not (t_val (x_callB (call_isP hp (T.errs C hC).ex hz hf) (s_isE (T.errs C hC)) T.b_isinstance (by decide +kernel) (a_cons (x_var 0) (a_cons (x_ty T.b_ValueError) a_nil))))))))
    (ss_one (s_ret (x_tup (a_cons x_str (a_cons (x_un un_neg s_neg x_int) a_nil)))))
    ss_nil)
    (ss_one (s_ret (x_tup (a_cons x_str (a_cons (x_bm PySem.F.plainAttrs_list PySem.F.slot_list_index PySem.F.type_list_index mt_index m_index tyL (x_var 1) (a_cons x_bl a_nil)) a_nil)))))))))
theorem sc_law_told : FnScope ["ask", "thing", "e"] ["ask", "thing"] (defScope (topS 57)) := ⟨rfl, rfl, rfl, by decide +kernel, rfl, by decide +kernel, by decide +kernel⟩
theorem ok_law_told (T : Txt K mg) (o_read : OkF P w K mg "read" ["text"] 6 m_read) (o_law_which : OkW P w K mg "_law_which" 1 m_law_which) : OkF P w K mg "_law_told" ["ask", "thing"] 7 m_law_told_k29 :=
  mk_ok (N := ["ask", "thing", "e"]) (ps := ["ask", "thing"]) (k := 6) (r := run_law_told_k29) T.d__law_told T.g__law_told sc_law_told (fun _ _ _ _ _ _ us hl => match us, hl with | [_, _], _ => rfl) fun base cdv A outer s H E hr tk hp => by
  have nd := sc_law_told.nd
  have hu1 := hu_of hr
  have hu : (A.deeper (PyProof.Rows.envOfC "_law_told" (defScope (topS 57)) s.heap.objs.size (He.ga K "_law_told") cdv)).units + 65 < cLine := by have := hr.un; omega
  have hTab : ∀ f m, tab_law_told_k29 f = some m → ∃ ps k, OkF P w K mg f ps k m ∧ k ≤ 6 := fun f m h => by
    unfold tab_law_told_k29 at h
    by_cases e : f = "read"
    · subst e; rw [if_pos rfl] at h; cases h; exact ⟨_, _, o_read, by decide⟩
    rw [if_neg e] at h; clear e
    cases h
  exact (ss_one (s_told (i := 2) o_law_which m_which_ok T.errs hr tk nd rfl rfl T.g_HouseError (fun W' pn xe tk' po => (x_callL (i := 0) tab_law_told_k29 hTab hr tk' (a_cons (x_var 1) a_nil) rfl (.inl rfl)))))
theorem sc_law : FnScope ["script", "books", "rows", "want", "maker", "row", "how", "other", "text"] ["script"] (defScope (topS 58)) := ⟨rfl, rfl, rfl, by decide +kernel, rfl, by decide +kernel, by decide +kernel⟩
theorem ok_law (T : Txt K mg) (o_shown : OkF P w K mg "shown" ["books"] 7 m_shown) (o_law_case : OkF P w K mg "_law_case" ["script", "at"] 8 m_law_case) (o_law_mixed : OkF P w K mg "_law_mixed" ["script", "k", "many"] 2 m_law_mixed) (o_law_told : OkF P w K mg "_law_told" ["ask", "thing"] 7 m_law_told_k29) (o_read : OkF P w K mg "read" ["text"] 6 m_read) : OkF P w K mg "law" ["script"] 9 m_law_k29 :=
  mk_ok (N := ["script", "books", "rows", "want", "maker", "row", "how", "other", "text"]) (ps := ["script"]) (k := 8) (r := run_law_k29) T.d_law T.g_law sc_law (fun _ _ _ _ _ _ us hl => match us, hl with | [_], _ => rfl) fun base cdv A outer s H E hr tk hp => by
  have nd := sc_law.nd
  have hu1 := hu_of hr
  have hu : (A.deeper (PyProof.Rows.envOfC "law" (defScope (topS 58)) s.heap.objs.size (He.ga K "law") cdv)).units + 65 < cLine := by have := hr.un; omega
  exact (ss_cons (s_set 1 nd (x_sl (x_callO o_law_case hr tk (a_cons (x_var 0) (a_cons x_int a_nil))) (o_some (x_op op_fdiv s_div (x_callO o_law_mixed hr tk (a_cons (x_var 0) (a_cons x_int (a_cons x_int a_nil)))) x_int)) o_none))
    (ss_cons (s_if (t_cmp (op_eqD hr.units) s_eq (nomark _) (x_callO o_law_mixed hr tk (a_cons (x_var 0) (a_cons x_int (a_cons x_int a_nil)))) x_int)
    (ss_one (s_set 1 nd (x_tup a_nil)))
    ss_nil)
    (ss_cons (s_set 2 nd (x_new (l_disp a_nil)))
    (ss_cons (s_for hp rfl (i_any (x_var 1)) (pg_tup rfl (pgs_cons (pg_name (i := 3) nd rfl (by first | exact Or.inl rfl | exact Or.inr rfl)) (pgs_cons (pg_name (i := 4) nd rfl (by first | exact Or.inl rfl | exact Or.inr rfl)) pgs_nil))) (tg_tup (tgs_cons (tg_name 3) (tgs_cons (tg_name 4) tgs_nil)))
    (ss_cons (s_set 5 nd (x_op op_addA s_add (x_op op_addA s_add (x_var 3) x_str) (x_sub hu1 (x_var 4) x_int)))
    (ss_cons (s_if (t_cmp (op_eqD hr.units) s_eq (nomark _) (x_sub hu1 (x_var 4) x_int) x_str)
    (ss_one (s_set 5 nd (x_op op_addA s_add (x_op op_addA s_add (x_var 5) x_str) (x_sub hu1 (x_var 4) x_int))))
    (ss_cons (s_set 5 nd (x_op op_addA s_add (x_op op_addA s_add (x_op op_addA s_add (x_var 5) x_str) (x_sub hu1 (x_var 4) x_int)) (x_op op_repS0 s_mulS x_str (x_callT call_int1 s_int T.b_int (by decide +kernel) (a_cons (x_sub hu1 (x_var 4) x_int) a_nil)))))
    (ss_cons (s_if (t_cmp op_gt s_gt (nomark _) (x_sub hu1 (x_var 4) x_int) x_int)
    (ss_one (s_set 5 nd (x_op op_addA s_add (x_op op_addA s_add (x_var 5) x_str) (x_callT call_str_int s_strI T.b_str (by decide +kernel) (a_cons (x_sub hu1 (x_var 4) x_int) a_nil)))))
    ss_nil)
    (ss_one (s_set 5 nd (x_op op_addA s_add (x_var 5) (x_bm PySem.F.plainAttrs_str PySem.F.slot_str_join PySem.F.type_str_join mt_join m_join tyS x_str (a_cons (x_frz (l_comp [("how", 6), ("other", 7)] rfl nd (i_any (x_sub hu1 (x_var 4) x_int)) (tg_tup (tgs_cons (tg_name 6) (tgs_cons (tg_name 7) tgs_nil))) (fun _ _ _ _ _ => (pg_tup rfl (pgs_cons (pg_name (i := 6) nd rfl (by first | exact Or.inl rfl | exact Or.inr rfl)) (pgs_cons (pg_name (i := 7) nd rfl (by first | exact Or.inl rfl | exact Or.inr rfl)) pgs_nil)))) (fun _ _ _ _ _ => ts_nil) (fun _ _ _ _ _ => (x_op op_addA s_add (x_op op_addA s_add (x_op op_addA s_add x_str (x_var 6)) x_str) (x_var 7))))) a_nil))))))))
    (ss_one (s_expr (x_bm PySem.F.plainAttrs_list PySem.F.slot_list_append PySem.F.type_list_append mt_append m_append tyL (x_var 2) (a_cons (x_var 5) a_nil)))))))
    (ss_cons (s_set 8 nd (x_callO o_shown hr tk (a_cons (x_var 1) a_nil)))
    (ss_one (s_ret (x_and (x_cmp (op_eqD hr.units) s_eq (nomark _) (x_var 8) (x_bm PySem.F.plainAttrs_str PySem.F.slot_str_join PySem.F.type_str_join mt_join m_join tyS x_str (a_cons (x_var 2) a_nil))) (x_one (x_cmp (op_eqD hr.units) s_eq (nomark _) (x_callO o_law_told hr tk (a_cons (x_gglo T.g_read) (a_cons (x_var 8) a_nil))) (x_var 1)))))))))))
theorem all_ok (T : Txt K mg) : OkF P w K mg "law" ["script"] 9 m_law_k29 := by
  have o_row_words : OkF P w K mg "row_words" ["want", "maker"] 1 m_row_words := ok_row_words T 
  have o_text_of : OkF P w K mg "text_of" ["books"] 2 m_text_of := ok_text_of T o_row_words
  have o_is_want : OkF P w K mg "is_want" ["thing"] 1 m_is_want := ok_is_want T 
  have o_is_between : OkF P w K mg "is_between" ["thing", "low", "most"] 1 m_is_between := ok_is_between T 
  have o_is_one_of : OkF P w K mg "is_one_of" ["thing", "words"] 1 m_is_one_of := ok_is_one_of T 
  have o_is_need : OkF P w K mg "is_need" ["thing"] 2 m_is_need := ok_is_need T o_is_one_of o_is_want
  have o_is_maker : OkF P w K mg "is_maker" ["thing"] 3 m_is_maker := ok_is_maker T o_is_between o_is_one_of o_is_want o_is_need
  have o_is_row : OkF P w K mg "is_row" ["thing"] 4 m_is_row := ok_is_row T o_is_want o_is_maker
  have o_are_books : OkF P w K mg "are_books" ["thing"] 5 m_are_books := ok_are_books T o_is_row
  have o_checked : OkF P w K mg "checked" ["books"] 6 m_checked := ok_checked T o_are_books
  have o_shown : OkF P w K mg "shown" ["books"] 7 m_shown := ok_shown T o_text_of o_checked
  have o_law_cell_at : OkF P w K mg "_law_cell_at" ["script", "k"] 1 m_law_cell_at := ok_law_cell_at T 
  have o_law_mixed : OkF P w K mg "_law_mixed" ["script", "k", "many"] 2 m_law_mixed := ok_law_mixed T o_law_cell_at
  have o_law_sign : OkF P w K mg "_law_sign" ["script", "at"] 3 m_law_sign := ok_law_sign T o_law_mixed
  have o_law_fresh : OkF P w K mg "_law_fresh" ["script", "at"] 4 m_law_fresh := ok_law_fresh T o_law_mixed o_law_sign
  have o_law_words : OkF P w K mg "_law_words" ["script", "at", "many"] 5 m_law_words := ok_law_words T o_law_fresh o_law_mixed o_law_sign
  have o_law_names : OkF P w K mg "_law_names" ["script", "at"] 6 m_law_names := ok_law_names T o_law_words o_law_mixed
  have o_law_rows : OkS P w K mg "_law_rows" ["made"] 1 m_law_rows := ok_law_rows T 
  have o_law_loose_maker : OkF P w K mg "_law_loose_maker" ["script", "at", "words"] 3 m_law_loose_maker := ok_law_loose_maker T o_law_mixed
  have o_law_loose : OkF P w K mg "_law_loose" ["script", "at"] 7 m_law_loose := ok_law_loose T o_law_names o_law_rows o_law_loose_maker
  have o_law_sound_maker : OkF P w K mg "_law_sound_maker" ["script", "at", "words", "k", "breaks"] 3 m_law_sound_maker := ok_law_sound_maker T o_law_mixed
  have o_law_made : OkF P w K mg "_law_made" ["books"] 1 m_law_made := ok_law_made T 
  have o_law_maker : OkF P w K mg "_law_maker" ["books", "want"] 1 m_law_maker := ok_law_maker T 
  have o_law_stands : OkF P w K mg "_law_stands" ["books", "want"] 2 m_law_stands := ok_law_stands T o_law_maker
  have o_law_holds : OkF P w K mg "_law_holds" ["books", "want"] 3 m_law_holds := ok_law_holds T o_law_stands o_law_maker
  have o_law_captive : OkF P w K mg "_law_captive" ["books"] 4 m_law_captive := ok_law_captive T o_law_made o_law_maker o_law_holds
  have o_law_with_spans : OkF P w K mg "_law_with_spans" ["books", "wants", "span"] 1 m_law_with_spans := ok_law_with_spans T 
  have o_law_sound : OkF P w K mg "_law_sound" ["script", "at", "breaks"] 7 m_law_sound := ok_law_sound T o_law_names o_law_rows o_law_sound_maker o_law_captive o_law_with_spans
  have o_law_case : OkF P w K mg "_law_case" ["script", "at"] 8 m_law_case := ok_law_case T o_law_loose o_law_mixed o_law_sound
  have o_read_made : OkF P w K mg "read_made" ["words"] 1 m_read_made := ok_read_made T 
  have o_read_row : OkF P w K mg "read_row" ["row"] 2 m_read_row := ok_read_row T o_read_made
  have o_read : OkF P w K mg "read" ["text"] 6 m_read := ok_read T o_are_books o_text_of o_read_row
  have o_law_which : OkW P w K mg "_law_which" 1 m_law_which := ok_law_which T
  have o_law_told : OkF P w K mg "_law_told" ["ask", "thing"] 7 m_law_told_k29 := ok_law_told T o_read o_law_which
  have o_law : OkF P w K mg "law" ["script"] 9 m_law_k29 := ok_law T o_shown o_law_case o_law_mixed o_law_told o_read
  exact o_law
end
end Py.K29

set_option Elab.async false
set_option linter.all false
set_option maxRecDepth 100000
set_option maxHeartbeats 0
namespace Py.K29
open PySem PySem.Spec L2 Py

theorem facts {K : PySem.W.Frag} {h : Heap} {mg : Str → Option Value} (X : K.In h) (G : h.Ns mainGlobals mg) (c : He.SaysD fa fn K) (hm : more K = true) : Txt K mg := by
  have hm0 := hm
  simp only [more, Bool.and_eq_true] at hm0
  obtain ⟨⟨⟨h_errs, h_HOWS⟩, h_SPANS⟩, _⟩ := hm0
  exact {
    b_ValueError := He.free_ok X G (c.fact 68 rfl)
    b_all := He.free_ok X G (c.fact 69 rfl)
    b_bool := He.free_ok X G (c.fact 70 rfl)
    b_dict := He.free_ok X G (c.fact 71 rfl)
    b_enumerate := He.free_ok X G (c.fact 72 rfl)
    b_int := He.free_ok X G (c.fact 73 rfl)
    b_isinstance := He.free_ok X G (c.fact 74 rfl)
    b_len := He.free_ok X G (c.fact 75 rfl)
    b_list := He.free_ok X G (c.fact 76 rfl)
    b_range := He.free_ok X G (c.fact 77 rfl)
    b_sorted := He.free_ok X G (c.fact 78 rfl)
    b_str := He.free_ok X G (c.fact 79 rfl)
    b_tuple := He.free_ok X G (c.fact 80 rfl)
    g_HouseError := He.glo_ok X G (c.fact 0 rfl)
    x_HouseError := He.exc_ok (c.fact 1 rfl)
    g_NoWant := He.glo_ok X G (c.fact 2 rfl)
    x_NoWant := He.exc_ok (c.fact 3 rfl)
    g_NoMaker := He.glo_ok X G (c.fact 4 rfl)
    x_NoMaker := He.exc_ok (c.fact 5 rfl)
    g_NoBooks := He.glo_ok X G (c.fact 6 rfl)
    x_NoBooks := He.exc_ok (c.fact 7 rfl)
    g_TooBig := He.glo_ok X G (c.fact 8 rfl)
    x_TooBig := He.exc_ok (c.fact 9 rfl)
    g_Missing := He.glo_ok X G (c.fact 10 rfl)
    x_Missing := He.exc_ok (c.fact 11 rfl)
    g_Unsound := He.glo_ok X G (c.fact 12 rfl)
    x_Unsound := He.exc_ok (c.fact 13 rfl)
    g_NoScope := He.glo_ok X G (c.fact 14 rfl)
    x_NoScope := He.exc_ok (c.fact 15 rfl)
    g_Shut := He.glo_ok X G (c.fact 16 rfl)
    x_Shut := He.exc_ok (c.fact 17 rfl)
    g_NoThing := He.glo_ok X G (c.fact 18 rfl)
    x_NoThing := He.exc_ok (c.fact 19 rfl)
    g_Gone := He.glo_ok X G (c.fact 20 rfl)
    x_Gone := He.exc_ok (c.fact 21 rfl)
    g_NoNeed := He.glo_ok X G (c.fact 22 rfl)
    x_NoNeed := He.exc_ok (c.fact 23 rfl)
    g_NoText := He.glo_ok X G (c.fact 24 rfl)
    x_NoText := He.exc_ok (c.fact 25 rfl)
    errs := errB_ok h_errs
    c_SIGNS := He.str_ok X G (c.fact 26 rfl)
    c_LONGEST := He.int_ok X G (c.fact 27 rfl)
    c_WANTS := He.int_ok X G (c.fact 28 rfl)
    c_NEEDS := He.int_ok X G (c.fact 29 rfl)
    c_BREAKS := He.int_ok X G (c.fact 30 rfl)
    c_HOWS := ⟨He.glo_ok X G (c.fact 31 rfl), He.tupB_ok h_HOWS _⟩
    c_SPANS := ⟨He.glo_ok X G (c.fact 32 rfl), He.tupB_ok h_SPANS _⟩
    g_is_want := He.glo_ok X G (c.fact 33 rfl)
    d_is_want := (c.def_ 0 rfl).imp fun _ F => He5.fun_of F
    g_is_between := He.glo_ok X G (c.fact 34 rfl)
    d_is_between := (c.def_ 1 rfl).imp fun _ F => He5.fun_of F
    g_is_one_of := He.glo_ok X G (c.fact 35 rfl)
    d_is_one_of := (c.def_ 2 rfl).imp fun _ F => He5.fun_of F
    g_is_need := He.glo_ok X G (c.fact 36 rfl)
    d_is_need := (c.def_ 3 rfl).imp fun _ F => He5.fun_of F
    g_is_maker := He.glo_ok X G (c.fact 37 rfl)
    d_is_maker := (c.def_ 4 rfl).imp fun _ F => He5.fun_of F
    g_is_row := He.glo_ok X G (c.fact 38 rfl)
    d_is_row := (c.def_ 5 rfl).imp fun _ F => He5.fun_of F
    g_are_books := He.glo_ok X G (c.fact 39 rfl)
    d_are_books := (c.def_ 6 rfl).imp fun _ F => He5.fun_of F
    g_checked := He.glo_ok X G (c.fact 40 rfl)
    d_checked := (c.def_ 7 rfl).imp fun _ F => He5.fun_of F
    g_row_words := He.glo_ok X G (c.fact 41 rfl)
    d_row_words := (c.def_ 8 rfl).imp fun _ F => He5.fun_of F
    g_text_of := He.glo_ok X G (c.fact 42 rfl)
    d_text_of := (c.def_ 9 rfl).imp fun _ F => He5.fun_of F
    g_shown := He.glo_ok X G (c.fact 43 rfl)
    d_shown := (c.def_ 10 rfl).imp fun _ F => He5.fun_of F
    g_read_made := He.glo_ok X G (c.fact 44 rfl)
    d_read_made := (c.def_ 11 rfl).imp fun _ F => He5.fun_of F
    g_read_row := He.glo_ok X G (c.fact 45 rfl)
    d_read_row := (c.def_ 12 rfl).imp fun _ F => He5.fun_of F
    g_read := He.glo_ok X G (c.fact 46 rfl)
    d_read := (c.def_ 13 rfl).imp fun _ F => He5.fun_of F
    g__law_cell_at := He.glo_ok X G (c.fact 47 rfl)
    d__law_cell_at := (c.def_ 14 rfl).imp fun _ F => He5.fun_of F
    g__law_mixed := He.glo_ok X G (c.fact 48 rfl)
    d__law_mixed := (c.def_ 15 rfl).imp fun _ F => He5.fun_of F
    g__law_sign := He.glo_ok X G (c.fact 49 rfl)
    d__law_sign := (c.def_ 16 rfl).imp fun _ F => He5.fun_of F
    g__law_fresh := He.glo_ok X G (c.fact 50 rfl)
    d__law_fresh := (c.def_ 17 rfl).imp fun _ F => He5.fun_of F
    g__law_words := He.glo_ok X G (c.fact 51 rfl)
    d__law_words := (c.def_ 18 rfl).imp fun _ F => He5.fun_of F
    g__law_names := He.glo_ok X G (c.fact 52 rfl)
    d__law_names := (c.def_ 19 rfl).imp fun _ F => He5.fun_of F
    g__law_rows := He.glo_ok X G (c.fact 53 rfl)
    d__law_rows := (c.def_ 20 rfl).imp fun _ F => He5.fun_of F
    g__law_maker := He.glo_ok X G (c.fact 54 rfl)
    d__law_maker := (c.def_ 21 rfl).imp fun _ F => He5.fun_of F
    g__law_stands := He.glo_ok X G (c.fact 55 rfl)
    d__law_stands := (c.def_ 22 rfl).imp fun _ F => He5.fun_of F
    g__law_holds := He.glo_ok X G (c.fact 56 rfl)
    d__law_holds := (c.def_ 23 rfl).imp fun _ F => He5.fun_of F
    g__law_made := He.glo_ok X G (c.fact 57 rfl)
    d__law_made := (c.def_ 24 rfl).imp fun _ F => He5.fun_of F
    g__law_captive := He.glo_ok X G (c.fact 58 rfl)
    d__law_captive := (c.def_ 25 rfl).imp fun _ F => He5.fun_of F
    g__law_with_spans := He.glo_ok X G (c.fact 59 rfl)
    d__law_with_spans := (c.def_ 26 rfl).imp fun _ F => He5.fun_of F
    g__law_sound_maker := He.glo_ok X G (c.fact 60 rfl)
    d__law_sound_maker := (c.def_ 27 rfl).imp fun _ F => He5.fun_of F
    g__law_sound := He.glo_ok X G (c.fact 61 rfl)
    d__law_sound := (c.def_ 28 rfl).imp fun _ F => He5.fun_of F
    g__law_loose_maker := He.glo_ok X G (c.fact 62 rfl)
    d__law_loose_maker := (c.def_ 29 rfl).imp fun _ F => He5.fun_of F
    g__law_loose := He.glo_ok X G (c.fact 63 rfl)
    d__law_loose := (c.def_ 30 rfl).imp fun _ F => He5.fun_of F
    g__law_case := He.glo_ok X G (c.fact 64 rfl)
    d__law_case := (c.def_ 31 rfl).imp fun _ F => He5.fun_of F
    g__law_which := He.glo_ok X G (c.fact 65 rfl)
    d__law_which := (c.def_ 32 rfl).imp fun _ F => He5.fun_of F
    g__law_told := He.glo_ok X G (c.fact 66 rfl)
    d__law_told := (c.def_ 33 rfl).imp fun _ F => He5.fun_of F
    g_law := He.glo_ok X G (c.fact 67 rfl)
    d_law := (c.def_ 34 rfl).imp fun _ F => He5.fun_of F }
end Py.K29
set_option maxHeartbeats 0 in
theorem PySem.Challenge.cw_wanthouse_k29_whole_texts_holds : PySem.Challenge.rw_wanthouse_k29_whole_texts.Holds := by
  open PySem PySem.W PySem.Calls PyProof.Rows in
  w_on; o_law
  refine HandSHeadRun.head_any (r := PySem.W.OpenLaw.row PySem.Challenge.rw_wanthouse_k29_whole_texts) (q := PySem.W.view (PySem.W.OpenLaw.row PySem.Challenge.rw_wanthouse_k29_whole_texts).prog [58]) (H := Py.K29.hk) (ob := Py.K29.ob) (M := 20000) (loose := Py.K29.names) (d := HandSHeadRun.topDef (PySem.W.OpenLaw.row PySem.Challenge.rw_wanthouse_k29_whole_texts).prog 58) (kwd := []) Py.K29.ob_eq
    (by kernel_rfl) (fun s => by kernel_rfl) Py.K29.run (by kernel_rfl) (by kernel_rfl) (by kernel_rfl) (by rfl) (by first | assumption | decide +kernel) (by decide +kernel) ⟨rfl, rfl, rfl, rfl, rfl, by decide +kernel⟩ ?hw ?hc
  case hw => open PySem PySem.W PySem.Calls PyProof.Rows in w_witness2
  case hc =>
    refine Py.end_law (l := PySem.Challenge.rw_wanthouse_k29_whole_texts) (k := 9) (m := Py.m_law_k29) rfl (by kernel_rfl) ⟨rfl, by decide, by decide⟩ (by kernel_rfl) Py.m_law_k29_good fun w mg h Y G => ?_
    obtain ⟨K, KX, c⟩ := Y
    exact ⟨K, KX, Py.K29.all_ok (Py.K29.facts KX G c.t.d c.more)⟩

