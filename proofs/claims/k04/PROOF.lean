import PyProof.Rows.All
import HandS.CallSlots
import HandS.Conv
import HandS.Deep
import HandS.Defaults
import HandS.EndBits
import HandS.Exc
import HandS.ExcOwn
import HandS.ForMost
import HandS.Head2
import HandS.HeadEnd
import HandS.HeadHook2
import HandS.Star
import HandS.Text
import HandS.TupAny
import HandS.TupMul
import HandS.Walk
import HandS.Wide
import HandS.WideBits
import HandS.Zip
import KE.DataCmp
import KE.GoesEnum
import KE.GoesMore
import KE.KDictKeyed
import KE.LtData
import KE.SortData
import KE.SortKeyed
import OpenK.AllK
import PyProof.P3Statements
import PyProof.ReprReads
import PyProof.ReprRoads
import PyProof.Rows.RegStrFacts
import PyProof.StrLawsRepr
import Wide.All
import Wide.FinOn
import PySem.Challenge.RW_leftstanding_k04_kinds_and_late_rows
set_option Elab.async false
section
set_option Elab.async false
set_option linter.all false
/-! LS.Core: a small language over value trees and a store, and what it does (a total, deterministic evaluator). -/
namespace LS
open PySem (Str PyData)

/-- a value: everything that never changes is a tree; what may change stands in the store -/
inductive T where
  | non | bl (b : Bool) | int (i : Int) | str (s : List Nat) | tup (xs : List T) | ref (l : Nat)
  deriving Inhabited

mutual
def T.beq : T → T → Bool
  | .non, .non => true
  | .bl a, .bl b => a == b
  | .int a, .int b => a == b
  | .str a, .str b => a == b
  | .tup a, .tup b => T.beqs a b
  | .ref a, .ref b => a == b
  | _, _ => false
def T.beqs : List T → List T → Bool
  | [], [] => true
  | a :: as, b :: bs => T.beq a b && T.beqs as bs
  | _, _ => false
end
mutual
theorem T.beq_eq : ∀ {a b : T}, T.beq a b = true → a = b
  | .non, b, h => by cases b <;> simp_all [T.beq]
  | .bl _, b, h => by cases b <;> simp_all [T.beq]
  | .int _, b, h => by cases b <;> simp_all [T.beq]
  | .str _, b, h => by cases b <;> simp_all [T.beq]
  | .ref _, b, h => by cases b <;> simp_all [T.beq]
  | .tup xs, b, h => by
    cases b with
    | tup ys => rw [T.beqs_eq (a := xs) (b := ys) (by simpa [T.beq] using h)]
    | _ => simp_all [T.beq]
theorem T.beqs_eq : ∀ {a b : List T}, T.beqs a b = true → a = b
  | [], [], _ => rfl
  | [], _ :: _, h => by simp [T.beqs] at h
  | _ :: _, [], h => by simp [T.beqs] at h
  | a :: as, b :: bs, h => by
    simp only [T.beqs, Bool.and_eq_true] at h
    rw [T.beq_eq h.1, T.beqs_eq h.2]
end
mutual
theorem T.beq_refl : ∀ a : T, T.beq a a = true
  | .non | .bl _ | .int _ | .str _ | .ref _ => by simp [T.beq]
  | .tup xs => by simp [T.beq, T.beqs_refl xs]
theorem T.beqs_refl : ∀ a : List T, T.beqs a a = true
  | [] => rfl
  | a :: as => by simp [T.beqs, T.beq_refl a, T.beqs_refl as]
end
instance : DecidableEq T := fun a b => if h : T.beq a b = true then isTrue (T.beq_eq h) else isFalse fun e => h (e ▸ T.beq_refl a)

/-- what stands in the store -/
inductive Cell where
  | lst (xs : List T)
  /-- a list that is only read (the script) -/
  | fro (xs : List T)
  /-- tk: the keys are tuples (else whole numbers and texts) -/
  | dct (tk : Bool) (kvs : List (T × T))
  /-- a dict while it is walked -/
  | lck (tk : Bool) (kvs : List (T × T))
  /-- a caught exception: its class, its fields -/
  | exc (c : Nat) (fs : List T)
  /-- an instance: its class, its fields by name -/
  | ins (c : Nat) (fs : List (Nat × T))
  deriving DecidableEq, Inhabited
abbrev Sto := List Cell
structure Exn where
  cls : Nat
  args : List T
  deriving DecidableEq, Inhabited
abbrev Res (α : Type) := Except Exn α × Sto
/-- none: what this language does not say -/
abbrev M (α : Type) := Sto → Option (Res α)
/-- done -/
def ret {α : Type} (a : α) : M α := fun S => some (.ok a, S)
def fail {α : Type} : M α := fun _ => none
def raise {α : Type} (x : Exn) : M α := fun S => some (.error x, S)
def seq {α β : Type} (m : M α) (f : α → M β) : M β := fun S => match m S with
  | none => none
  | some (.error x, S') => some (.error x, S')
  | some (.ok a, S') => f a S'
/-- a new cell -/
def new (c : Cell) : M T := fun S => some (.ok (.ref S.length), S ++ [c])
def put (l : Nat) (c : Cell) : M Unit := fun S => if l < S.length then some (.ok (), S.set l c) else none
def opt {α : Type} (o : Option α) : M α := fun S => match o with
  | some a => some (.ok a, S)
  | none => none
def when_ {α : Type} (c : Bool) (m : M α) : M α := fun S => match c with
  | true => m S
  | false => none

/-! ### data: what a value reads as, through the store -/
def optAll {α β : Type} (f : α → Option β) : List α → Option (List β)
  | [] => some []
  | a :: as => match f a with
    | some b => match optAll f as with
      | some bs => some (b :: bs)
      | none => none
    | none => none
/-- as data of at most that depth -/
def T.data (S : Sto) : Nat → T → Option PyData
  | _, .non => some .none
  | _, .bl b => some (.bool b)
  | _, .int i => some (.int i)
  | _, .str s => if s.all (fun c => decide (c < 1114112)) then some (.str ⟨s.toArray⟩) else none
  | 0, _ => none
  | n + 1, .tup xs => (optAll (T.data S n) xs).map .tuple
  | n + 1, .ref l => match S[l]? with
    | some (.lst xs) => (optAll (T.data S n) xs).map .list
    | some (.fro xs) => (optAll (T.data S n) xs).map .list
    | _ => none
/-- the depth that == and repr are asked at -/
abbrev deep : Nat := 60

/-! ### the language -/
inductive Ty where
  | int | str | tuple | bool | list | dict
  deriving DecidableEq, Repr, Inhabited
inductive Prim where
  | add | sub | mul | fdiv | mod | pow | neg
  | lt | le | gt | ge | eq | ne | isNone | notNone | isin | notin
  | get | slc (lo hi : Bool) | rev
  | len | tuple | list | sorted | sortedSet | lenSet | repr | str | intOf | abs
  | max1 | max2 | min1 | min2 | all | any | fmt
  | isa (t : Ty)
  | append | extend | pop | popAt | insert | index | count | get1 | get2 | setdefault
  | join | split | partition | replace | upper
  | inTbl (kvs : List (T × T)) | getTbl (kvs : List (T × T)) | get1Tbl (kvs : List (T × T))
  deriving Inhabited
inductive P where
  | slot (i : Nat) | tup (ps : List P)
  deriving Inhabited
mutual
inductive E where
  | var (i : Nat)
  | con (t : T)
  /-- a written constant of the module, by its number -/
  | glo (x : Nat) (t : T)
  | tup (es : List E) | lst (es : List E)
  /-- with stars: which items are starred -/
  | tupS (ss : List Bool) (es : List E) | lstS (ss : List Bool) (es : List E)
  /-- {k: v, ..}: k, v, k, v, .. -/
  | dct (tk : Bool) (es : List E)
  | app (p : Prim) (es : List E)
  /-- a whole number it has to be -/
  | num (e : E)
  /-- a built-in type's method: its kind, what it is asked of, the arguments -/
  | meth (k : Ty) (p : Prim) (o : E) (es : List E)
  | call (f : Nat) (es : List E)
  /-- with keywords: the i-th parameter is the item perm[i] of es ++ ks -/
  | callK (f : Nat) (es ks : List E) (perm : List Nat)
  | and (es : List E) | or (es : List E) | not (e : E)
  /-- a op b op c .. -/
  | chain (e : E) (ops : List Prim) (es : List E)
  | ite (c a b : E)
  | comp (e : E) (own : List Nat) (p : P) (it : I) (cs : List E)
  /-- tuple(..), list(..), dict(..) of what is walked -/
  | tupI (it : I) | lstI (it : I) | dctI (tk : Bool) (it : I)
inductive I where
  | val (e : E)
  | range (es : List E)
  | enum (e : E)
  | zip (a b : E)
  | items (e : E) | values (e : E)
end
inductive S where
  | exp (e : E)
  | set (i : Nat) (e : E)
  | unp (p : P) (e : E)
  /-- o[i] = e -/
  | sub (o i e : E)
  | ife (c : E) (a b : List S)
  | whl (c : E) (b : List S)
  | for (p : P) (it : I) (b : List S)
  | ret (e : E) | retN
  | pass | cont | brk
  | raise (c : Nat) (es : List E)
  | try (b : List S) (c : Nat) (slot : Option Nat) (h : List S)
  deriving Inhabited
instance : Inhabited E := ⟨.con .non⟩
instance : Inhabited I := ⟨.val default⟩

/-! ### what it does -/
abbrev Sl := List (Option T)

def T.isStr : T → Bool
  | .str _ => true
  | _ => false
def lineT : Nat := 16777216
/-- a list that is to be read -/
def listAt (l : Nat) : M (List T) := fun S => match S[l]? with
  | some (.lst xs) => some (.ok xs, S)
  | some (.fro xs) => some (.ok xs, S)
  | _ => none
def lstAt (l : Nat) : M (List T) := fun S => match S[l]? with
  | some (.lst xs) => some (.ok xs, S)
  | _ => none
def dctAt (l : Nat) : M (Bool × List (T × T)) := fun S => match S[l]? with
  | some (.dct tk xs) => some (.ok (tk, xs), S)
  | some (.lck tk xs) => some (.ok (tk, xs), S)
  | _ => none
/-- data of a value -/
def dataOf (t : T) : M PyData := fun S => match T.data S deep t with
  | some d => some (.ok d, S)
  | none => none
/-! #### keys of dicts: True is 1 there -/
mutual
def T.norm : T → T
  | .bl b => .int (if b then 1 else 0)
  | .tup xs => .tup (T.norms xs)
  | t => t
def T.norms : List T → List T
  | [] => []
  | t :: ts => T.norm t :: T.norms ts
end
mutual
/-- no part stands in the store -/
def T.plain : T → Bool
  | .ref _ => false
  | .tup xs => T.plains xs
  | _ => true
def T.plains : List T → Bool
  | [] => true
  | t :: ts => T.plain t && T.plains ts
end
mutual
def T.depth : T → Nat
  | .tup xs => T.depths xs + 1
  | _ => 0
def T.depths : List T → Nat
  | [] => 0
  | t :: ts => max (T.depth t) (T.depths ts)
end
def T.isTup : T → Bool
  | .tup _ => true
  | _ => false
/-- a key: a tuple, or a whole number or a text -/
def keyOk : Bool → T → Bool
  | true, .tup xs => T.plains xs && decide (T.depths xs ≤ 7)
  | false, .int _ => true
  | false, .str _ => true
  | _, _ => false
def dLook : List (T × T) → T → Option T
  | [], _ => none
  | (k', v) :: r, k => if T.norm k' = T.norm k then some v else dLook r k
def dPut (kvs : List (T × T)) (k v : T) : List (T × T) :=
  if (dLook kvs k).isSome then kvs.map fun kv => if T.norm kv.1 = T.norm k then (kv.1, v) else kv else kvs ++ [(k, v)]
def dMerge (kvs more : List (T × T)) : List (T × T) := more.foldl (fun acc kv => dPut acc kv.1 kv.2) kvs
/-! #### order -/
def dLt (x y : PyData) : Option Bool := match x with
  | .none => none
  | _ => if PySem.W.alike x y then some (PySem.W.dataLt x y) else none
def alikes (ds : List PyData) : Bool := ds.all fun d => ds.all fun d' => PySem.W.alike d d'
def sortableD (ds : List PyData) : Bool := (ds.all fun d => match d with
  | .tuple (_ :: _) => true
  | _ => false) || ds.all fun d => match d with
  | .tuple _ => false
  | .none => false
  | _ => true
def sortT (S : Sto) (xs : List T) : Option (List T) := match optAll (T.data S deep) xs with
  | some ds => if alikes ds && sortableD ds then some (((xs.zip ds).mergeSort (PySem.W.dataLe false fun p : T × PyData => p.2)).map (·.1)) else none
  | none => none
/-- the first of each -/
def firsts (xs : List T) : List T := xs.foldl (fun acc x => if acc.any fun y => T.norm y = T.norm x then acc else acc ++ [x]) []

/-! #### items, slices -/
def ixN (n : Nat) (i : Int) : Option Nat := if 0 ≤ i then (if i.toNat < n then some i.toNat else none) else (if 0 ≤ i + n then some (i + n).toNat else none)
/-- the place at which a slice begins or ends -/
def cutIx (n : Nat) (i : Int) : Nat := if 0 ≤ i then min i.toNat n else (i + n).toNat
def cutL {α : Type} (xs : List α) (lo hi : Nat) : List α := (xs.take hi).drop lo
def bounds (n : Nat) : Bool → Bool → List T → Option (Nat × Nat)
  | true, true, [.int i, .int j] => some (cutIx n i, cutIx n j)
  | true, false, [.int i] => some (cutIx n i, n)
  | false, true, [.int j] => some (0, cutIx n j)
  | false, false, [] => some (0, n)
  | _, _, _ => none

def boolsOf : List T → Option (List Bool)
  | [] => some []
  | .bl b :: r => (boolsOf r).map (b :: ·)
  | _ => none
def intsOf : List T → Option (List Int)
  | [] => some []
  | .int i :: r => (intsOf r).map (i :: ·)
  | _ => none
def strsOf : List T → Option (List (List Nat))
  | [] => some []
  | .str i :: r => (strsOf r).map (i :: ·)
  | _ => none
def pairsOf : List T → Option (List (T × T))
  | [] => some []
  | .tup [a, b] :: r => (pairsOf r).map ((a, b) :: ·)
  | _ => none
def sepJoin (sep : List Nat) : List (List Nat) → List Nat
  | [] => []
  | [x] => x
  | x :: y :: r => x ++ sep ++ sepJoin sep (y :: r)
/-- split at each sep of one sign or more -/
def splitGo (sep : List Nat) : Nat → List Nat → List Nat → List (List Nat)
  | 0, acc, s => [acc ++ s]
  | _ + 1, acc, [] => [acc]
  | n + 1, acc, c :: s => if sep.isPrefixOf (c :: s) then acc :: splitGo sep n [] ((c :: s).drop sep.length) else splitGo sep n (acc ++ [c]) s
def splitL (sep s : List Nat) : List (List Nat) := splitGo sep (s.length + 1) [] s
def codes (z : Str) : List Nat := z.cps.toList
/-- the figures of a natural number -/
def figsGo : Nat → Nat → List Nat → List Nat
  | 0, _, acc => acc
  | f + 1, n, acc => if n < 10 then (48 + n) :: acc else figsGo f (n / 10) ((48 + n % 10) :: acc)
def natFigs (n : Nat) : List Nat := figsGo (n + 1) n []
def intFigs (i : Int) : List Nat := if 0 ≤ i then natFigs i.toNat else 45 :: natFigs i.natAbs
/-- one to three figures, read -/
def figsVal : List Nat → Option Int
  | s => if 1 ≤ s.length ∧ s.length ≤ 3 ∧ s.all (fun c => decide (48 ≤ c ∧ c ≤ 57)) then some (s.foldl (fun (a : Int) (c : Nat) => 10 * a + ((c : Int) - 48)) 0) else none
def isaT : Ty → T → M Bool
  | .int, .int _ => ret true
  | .int, .bl _ => ret true
  | .bool, .bl _ => ret true
  | .str, .str _ => ret true
  | .tuple, .tup _ => ret true
  | ty, .ref l => fun S => match S[l]? with
    | some (.lst _) => some (.ok (ty = .list), S)
    | some (.dct _ _) => some (.ok (ty = .dict), S)
    | _ => none
  | _, _ => ret false
def cmpI : Prim → Int → Int → Option Bool
  | .lt, a, b => some (decide (a < b))
  | .le, a, b => some (decide (a ≤ b))
  | .gt, a, b => some (decide (b < a))
  | .ge, a, b => some (decide (b ≤ a))
  | _, _, _ => none
def bits2 (a b : Int) : Bool := decide (a.natAbs.log2 + b.natAbs.log2 < 134000000)
/-- the items of a list or a tuple -/
def itemsOf : T → M (List T)
  | .tup xs => ret xs
  | .ref l => listAt l
  | _ => fail
def reprOf (d : PyData) : Option (List Nat) := if d.showable && !d.hasDict && decide (d.shown.length ≤ lineT) && decide (d.shown.length ≤ lineT) then some (codes d.shown) else none

def pAdd : List T → M T
  | [.int a, .int b] => ret (.int (a + b))
  | [.str a, .str b] => when_ (decide (a.length + b.length ≤ lineT)) (ret (.str (a ++ b)))
  | [.tup a, .tup b] => when_ (decide (a.length + b.length ≤ lineT)) (ret (.tup (a ++ b)))
  | [.ref a, .ref b] => seq (lstAt a) fun xs => seq (lstAt b) fun ys => when_ (decide (xs.length + ys.length ≤ lineT)) (new (.lst (xs ++ ys)))
  | _ => fail
def pSub : List T → M T
  | [.int a, .int b] => ret (.int (a - b))
  | _ => fail
def pMul : List T → M T
  | [.int a, .int b] => when_ (bits2 a b) (ret (.int (a * b)))
  | [.tup a, .int b] => when_ (decide (b < 64) && decide (-64 < b) && decide (a.length ≤ 1000)) (ret (.tup (List.replicate b.toNat a).flatten))
  | [.ref a, .int b] => seq (lstAt a) fun xs => when_ (decide (b < 64) && decide (-64 < b) && decide (xs.length ≤ 1000)) (new (.lst (List.replicate b.toNat xs).flatten))
  | _ => fail
def pFdiv : List T → M T
  | [.int a, .int b] => when_ (decide (0 < b) && decide (b.natAbs.log2 < 9000)) (ret (.int (a / b)))
  | _ => fail
def pMod : List T → M T
  | [.int a, .int b] => when_ (decide (0 < b)) (ret (.int (a % b)))
  | _ => fail
def pPow : List T → M T
  | [.int a, .int b] => when_ (decide (0 ≤ b) && decide (b ≤ 1000) && decide (a.natAbs < 1000)) (ret (.int (a ^ b.toNat)))
  | _ => fail
def pNeg : List T → M T
  | [.int a] => ret (.int (-a))
  | _ => fail
def pEq : List T → M T
  | [a, b] => seq (dataOf a) fun x => seq (dataOf b) fun y => ret (.bl (PyData.eqv x y))
  | _ => fail
def pNe : List T → M T
  | [a, b] => seq (dataOf a) fun x => seq (dataOf b) fun y => ret (.bl (!PyData.eqv x y))
  | _ => fail
def pIsNone : List T → M T
  | [a] => ret (.bl (decide (a = .non)))
  | _ => fail
def pNotNone : List T → M T
  | [a] => ret (.bl (!decide (a = .non)))
  | _ => fail
def pIsin : List T → M T
  | [.str [c], .str s] => ret (.bl (decide (c ∈ s)))
  | [a, .tup ys] => seq (dataOf a) fun x => seq (dataOf (.tup ys)) fun d => match d with
    | .tuple ds => ret (.bl (ds.any fun y => PyData.eqv y x))
    | _ => fail
  | [a, .ref l] => fun S => match S[l]? with
    | some (.lst ys) => (seq (dataOf a) fun x => seq (dataOf (.tup ys)) fun d => match d with
      | .tuple ds => ret (.bl (ds.any fun y => PyData.eqv y x))
      | _ => fail) S
    | some (.dct tk kvs) => when_ (keyOk tk a) (ret (.bl (dLook kvs a).isSome)) S
    | some (.lck tk kvs) => when_ (keyOk tk a) (ret (.bl (dLook kvs a).isSome)) S
    | _ => none
  | _ => fail
def pNotin : List T → M T
  | [.str [c], .str s] => ret (.bl (!decide (c ∈ s)))
  | [a, .tup ys] => seq (dataOf a) fun x => seq (dataOf (.tup ys)) fun d => match d with
    | .tuple ds => ret (.bl (!ds.any fun y => PyData.eqv y x))
    | _ => fail
  | [a, .ref l] => fun S => match S[l]? with
    | some (.lst ys) => (seq (dataOf a) fun x => seq (dataOf (.tup ys)) fun d => match d with
      | .tuple ds => ret (.bl (!ds.any fun y => PyData.eqv y x))
      | _ => fail) S
    | some (.dct tk kvs) => when_ (keyOk tk a) (ret (.bl (!(dLook kvs a).isSome))) S
    | some (.lck tk kvs) => when_ (keyOk tk a) (ret (.bl (!(dLook kvs a).isSome))) S
    | _ => none
  | _ => fail
def pGet : List T → M T
  | [.tup xs, .int i] => opt ((ixN xs.length i).bind fun k => xs[k]?)
  | [.str s, .int i] => when_ (decide (s.length ≤ lineT)) (opt ((ixN s.length i).bind fun k => (s[k]?).map fun c => .str [c]))
  | [.ref l, k] => fun S => match S[l]? with
    | some (.dct tk kvs) => when_ (keyOk tk k) (opt (dLook kvs k)) S
    | some (.lck tk kvs) => when_ (keyOk tk k) (opt (dLook kvs k)) S
    | some (.lst xs) => (match k with
      | .int i => opt ((ixN xs.length i).bind fun k => xs[k]?)
      | _ => fail) S
    | some (.fro xs) => (match k with
      | .int i => opt ((ixN xs.length i).bind fun k => xs[k]?)
      | _ => fail) S
    | _ => none
  | _ => fail
def pSlc (a b : Bool): List T → M T
  | .tup xs :: r => opt ((bounds xs.length a b r).map fun p => .tup (cutL xs p.1 p.2))
  | .str xs :: r => when_ (decide (xs.length ≤ lineT)) (opt ((bounds xs.length a b r).map fun p => .str (cutL xs p.1 p.2)))
  | .ref l :: r => seq (listAt l) fun xs => seq (opt (bounds xs.length a b r)) fun p => new (.lst (cutL xs p.1 p.2))
  | _ => fail
def pRev : List T → M T
  | [.tup xs] => ret (.tup xs.reverse)
  | [.ref l] => seq (lstAt l) fun xs => new (.lst xs.reverse)
  | _ => fail
def pLen : List T → M T
  | [.tup xs] => ret (.int xs.length)
  | [.str xs] => when_ (decide (xs.length ≤ lineT)) (ret (.int xs.length))
  | [.ref l] => fun S => match S[l]? with
    | some (.lst xs) => some (.ok (.int xs.length), S)
    | some (.fro xs) => some (.ok (.int xs.length), S)
    | some (.dct tk kvs) => some (.ok (.int kvs.length), S)
    | some (.lck tk kvs) => some (.ok (.int kvs.length), S)
    | _ => none
  | _ => fail
def sortM (xs : List T) : M T := fun S => match sortT S xs with
  | some ys => new (.lst ys) S
  | none => none
def pSorted : List T → M T
  | [.ref l] => seq (lstAt l) sortM
  | _ => fail
def pSortedSet : List T → M T
  | [a] => seq (itemsOf a) fun xs => when_ (xs.all fun x => T.plain x && x.isTup) fun S => match sortT S (firsts xs) with
    | some ys => new (.lst ys) S
    | none => none
  | _ => fail
def pLenSet : List T → M T
  | [a] => seq (itemsOf a) fun xs => when_ (xs.all fun x => T.plain x && x.isTup) (ret (.int (firsts xs).length))
  | _ => fail
def reprM (a : T) : M T := seq (dataOf a) fun d => seq (opt (reprOf d)) fun z => ret (.str z)
def pRepr : List T → M T
  | [.tup xs] => reprM (.tup xs)
  | [.ref l] => reprM (.ref l)
  | _ => fail
def pStr : List T → M T
  | [.int i] => when_ (decide (i.natAbs.log2 < 1920)) (ret (.str (intFigs i)))
  | _ => fail
def pIntOf : List T → M T
  | [.int i] => ret (.int i)
  | [.bl b] => ret (.int (if b then 1 else 0))
  | _ => fail
def pAbs : List T → M T
  | [.int i] => ret (.int i.natAbs)
  | _ => fail
def pTuple : List T → M T
  | [.tup xs] => ret (.tup xs)
  | [.ref l] => seq (listAt l) fun xs => ret (.tup xs)
  | _ => fail
def pList : List T → M T
  | [.tup xs] => new (.lst xs)
  | [.ref l] => seq (listAt l) fun xs => new (.lst xs)
  | _ => fail
def pMax2 : List T → M T
  | [.int a, .int b] => ret (.int (max a b))
  | _ => fail
def pMin2 : List T → M T
  | [.int a, .int b] => ret (.int (min a b))
  | _ => fail
def pMax1 : List T → M T
  | [a] => seq (itemsOf a) fun xs => seq (opt (intsOf xs)) fun is => match is with
    | [] => fail
    | i :: r => ret (.int (r.foldl max i))
  | _ => fail
def pMin1 : List T → M T
  | [a] => seq (itemsOf a) fun xs => seq (opt (intsOf xs)) fun is => match is with
    | [] => fail
    | i :: r => ret (.int (r.foldl min i))
  | _ => fail
def pAll : List T → M T
  | [.ref l] => seq (lstAt l) fun xs => seq (opt (boolsOf xs)) fun bs => ret (.bl (bs.all id))
  | _ => fail
def pAny : List T → M T
  | [.ref l] => seq (lstAt l) fun xs => seq (opt (boolsOf xs)) fun bs => ret (.bl (bs.any id))
  | _ => fail
def pIsa (t : Ty): List T → M T
  | [a] => seq (isaT t a) fun b => ret (.bl b)
  | _ => fail
def pAppend : List T → M T
  | [.ref l, x] => seq (lstAt l) fun xs => when_ (decide (xs.length < lineT)) (seq (put l (.lst (xs ++ [x]))) fun _ => ret .non)
  | _ => fail
def pExtend : List T → M T
  | [.ref l, .ref m] => seq (lstAt l) fun xs => seq (lstAt m) fun ys => when_ (decide (xs.length + ys.length ≤ lineT) && !(l == m)) (seq (put l (.lst (xs ++ ys))) fun _ => ret .non)
  | _ => fail
def pPop : List T → M T
  | [.ref l] => seq (lstAt l) fun xs => match xs.getLast? with
    | some x => seq (put l (.lst xs.dropLast)) fun _ => ret x
    | none => fail
  | _ => fail
def pPopAt : List T → M T
  | [.ref l, .int i] => seq (lstAt l) fun xs => seq (opt (ixN xs.length i)) fun k => match xs[k]? with
    | some x => seq (put l (.lst (xs.eraseIdx k))) fun _ => ret x
    | none => fail
  | _ => fail
def pGet1 : List T → M T
  | [.ref l, k] => seq (dctAt l) fun d => when_ (keyOk d.1 k) (ret ((dLook d.2 k).getD .non))
  | _ => fail
def pGet2 : List T → M T
  | [.ref l, k, x] => seq (dctAt l) fun d => when_ (keyOk d.1 k) (ret ((dLook d.2 k).getD x))
  | _ => fail
def pSetdefault : List T → M T
  | [.ref l, k, x] => fun S => match S[l]? with
    | some (.dct tk kvs) => when_ (keyOk tk k && decide (kvs.length < lineT)) (match dLook kvs k with
      | some v => ret v
      | none => seq (put l (.dct tk (kvs ++ [(k, x)]))) fun _ => ret x) S
    | _ => none
  | _ => fail
def fmtOf : List T → Option (List Nat)
  | [] => some []
  | .int i :: r => if i.natAbs.log2 < 1920 then (fmtOf r).map (intFigs i ++ ·) else none
  | .str x :: r => (fmtOf r).map (x ++ ·)
  | _ => none
def pFmt (ts : List T) : M T := seq (opt (fmtOf ts)) fun z => when_ (decide (z.length ≤ lineT)) (ret (.str z))
def pJoin : List T → M T
  | [.str s, a] => seq (itemsOf a) fun xs => seq (opt (strsOf xs)) fun ss => when_ (decide ((sepJoin s ss).length ≤ lineT)) (ret (.str (sepJoin s ss)))
  | _ => fail
def pSplit : List T → M T
  | [.str s, .str sep] => when_ (decide (1 ≤ sep.length) && decide (s.length + 2 ≤ lineT)) (new (.lst ((splitL sep s).map .str)))
  | _ => fail
def pInTbl (kvs : List (T × T)): List T → M T
  | [k] => when_ (keyOk false k) (ret (.bl (dLook kvs k).isSome))
  | _ => fail
def pGetTbl (kvs : List (T × T)): List T → M T
  | [k] => when_ (keyOk false k) (opt (dLook kvs k))
  | _ => fail
def pGet1Tbl (kvs : List (T × T)): List T → M T
  | [k] => when_ (keyOk false k) (ret ((dLook kvs k).getD .non))
  | _ => fail
def pCmp (p : Prim) : List T → M T
  | [.int a, .int b] => seq (opt (cmpI p a b)) fun c => ret (.bl c)
  | [a, b] => (match p with
    | .lt => seq (dataOf a) fun x => seq (dataOf b) fun y => seq (opt (dLt x y)) fun c => ret (.bl c)
    | _ => fail)
  | _ => fail
/-- what a built-in operation does -/
def prim : Prim → List T → M T
  | .add => pAdd
  | .sub => pSub
  | .mul => pMul
  | .fdiv => pFdiv
  | .mod => pMod
  | .pow => pPow
  | .neg => pNeg
  | .eq => pEq
  | .ne => pNe
  | .isNone => pIsNone
  | .notNone => pNotNone
  | .isin => pIsin
  | .notin => pNotin
  | .get => pGet
  | .slc a b => pSlc a b
  | .rev => pRev
  | .len => pLen
  | .tuple => pTuple
  | .list => pList
  | .sorted => pSorted
  | .sortedSet => pSortedSet
  | .lenSet => pLenSet
  | .repr => pRepr
  | .str => pStr
  | .intOf => pIntOf
  | .abs => pAbs
  | .max2 => pMax2
  | .min2 => pMin2
  | .max1 => pMax1
  | .min1 => pMin1
  | .all => pAll
  | .any => pAny
  | .isa t => pIsa t
  | .append => pAppend
  | .extend => pExtend
  | .pop => pPop
  | .popAt => pPopAt
  | .get1 => pGet1
  | .get2 => pGet2
  | .setdefault => pSetdefault
  | .join => pJoin
  | .fmt => pFmt
  | .split => pSplit
  | .inTbl kvs => pInTbl kvs
  | .getTbl kvs => pGetTbl kvs
  | .get1Tbl kvs => pGet1Tbl kvs
  | .lt => pCmp .lt
  | .le => pCmp .le
  | .gt => pCmp .gt
  | .ge => pCmp .ge
  | _ => fun _ => fail

def setSub (o k v : T) : M Unit := match o with
  | .ref l => fun S => match S[l]? with
    | some (.dct tk kvs) => when_ (keyOk tk k && decide (kvs.length < lineT)) (put l (.dct tk (dPut kvs k v))) S
    | some (.lst xs) => (match k with
      | .int i => seq (opt (ixN xs.length i)) fun j => put l (.lst (xs.set j v))
      | _ => fail) S
    | _ => none
  | _ => fail
/-! ### expressions -/
/-- what is walked: its items; cells that have to stay as they are; a dict that is locked meanwhile -/
structure Its where
  xs : List T
  chk : List (Nat × Cell) := []
  lock : Option Nat := none
def check (cs : List (Nat × Cell)) : M Unit := fun S => match cs.all fun p => decide (S[p.1]? = some p.2) with
  | true => some (.ok (), S)
  | false => none
/-- a tuple, a list -/
def seqOf : T → M Its
  | .tup xs => ret ⟨xs, [], none⟩
  | .ref l => fun S => match S[l]? with
    | some (.lst xs) => some (.ok ⟨xs, [(l, .lst xs)], none⟩, S)
    | some (.fro xs) => some (.ok ⟨xs, [(l, .fro xs)], none⟩, S)
    | _ => none
  | _ => fail
def itsOf (t : T) : M Its := match t with
  | .str s => ret ⟨s.map fun c => .str [c], [], none⟩
  | _ => seqOf t
def bigR : Int := 1000000000000
def rangeOf : List T → Option (List T)
  | [.int n] => if n < bigR ∧ -bigR < n then some ((List.range n.toNat).map fun (i : Nat) => .int (i : Int)) else none
  | [.int a, .int b] => if a < bigR ∧ -bigR < a ∧ b < bigR ∧ -bigR < b then some ((List.range (b - a).toNat).map fun (i : Nat) => .int (a + (i : Int))) else none
  | [.int a, .int b, .int c] => if a < bigR ∧ -bigR < a ∧ b < bigR ∧ -bigR < b ∧ c = -1 then some ((List.range (a - b).toNat).map fun (i : Nat) => .int (a - (i : Int))) else none
  | _ => none
def enumT : Nat → List T → List T
  | _, [] => []
  | i, x :: r => .tup [.int i, x] :: enumT (i + 1) r
def zipT : List T → List T → List T
  | x :: r, y :: q => .tup [x, y] :: zipT r q
  | _, _ => []
def zipOf (x y : T) : M Its := match x, y with
  | .tup xs, .tup ys => ret ⟨zipT xs ys, [], none⟩
  | .ref a, .ref b => seq (seqOf (.ref a)) fun p => seq (seqOf (.ref b)) fun q => ret ⟨zipT p.xs q.xs, p.chk ++ q.chk, none⟩
  | _, _ => fail
def enter : Option Nat → M Unit
  | none => ret ()
  | some l => fun S => match S[l]? with
    | some (.dct tk kvs) => some (.ok (), S.set l (.lck tk kvs))
    | _ => none
def leave : Option Nat → M Unit
  | none => ret ()
  | some l => fun S => match S[l]? with
    | some (.lck tk kvs) => some (.ok (), S.set l (.dct tk kvs))
    | _ => none
mutual
def bindO : P → T → Sl → Option Sl
  | .slot i, t, σ => if i < σ.length then some (σ.set i (some t)) else none
  | .tup ps, .tup ts, σ => bindOs ps ts σ
  | .tup _, _, _ => none
def bindOs : List P → List T → Sl → Option Sl
  | [], [], σ => some σ
  | p :: ps, t :: ts, σ => match bindO p t σ with
    | some σ' => bindOs ps ts σ'
    | none => none
  | _, _, _ => none
end
def bindP (p : P) (t : T) (σ : Sl) : M Sl := opt (bindO p t σ)
mutual
/-- the slots that a pattern stores -/
def P.slots : P → List Nat
  | .slot i => [i]
  | .tup ps => P.slotss ps
def P.slotss : List P → List Nat
  | [] => []
  | p :: ps => p.slots ++ P.slotss ps
end
def wipeT (σ : Sl) : List Nat → Sl
  | [] => σ
  | v :: vs => (wipeT σ vs).set v none
/-- no exception goes out of it -/
def calmly {α : Type} (m : M α) : M α := fun S => match m S with
  | some (.ok a, S') => some (.ok a, S')
  | _ => none
/-- .. while a dict is locked -/
def lockly {α : Type} (o : Option Nat) (m : M α) : M α := match o with
  | none => m
  | some _ => calmly m
def onB {α : Type} (t : T) (a b : M α) : M α := match t with
  | .bl true => a
  | .bl false => b
  | _ => fail
def pairUp : List T → Option (List (T × T))
  | [] => some []
  | k :: v :: r => (pairUp r).map ((k, v) :: ·)
  | _ => none
def dictOf (tk : Bool) (kvs : List (T × T)) : M T := when_ (kvs.all (fun kv => keyOk tk kv.1) && decide (kvs.length ≤ lineT)) (new (.dct tk (dMerge [] kvs)))
/-- what a method is asked of -/
def kindOf : Ty → T → M Unit
  | .str, .str _ => ret ()
  | .list, .ref l => fun S => match S[l]? with
    | some (.lst _) => some (.ok (), S)
    | _ => none
  | .dict, .ref l => fun S => match S[l]? with
    | some (.dct _ _) => some (.ok (), S)
    | _ => none
  | _, _ => fail
def compL (chk : List (Nat × Cell)) (bnd : T → M Sl) (tst : Sl → M T) (elt : Sl → M T) : List T → M (List T)
  | [] => seq (check chk) fun _ => ret []
  | x :: xs => seq (check chk) fun _ => seq (bnd x) fun σ => seq (tst σ) fun c => onB c
      (seq (elt σ) fun y => seq (compL chk bnd tst elt xs) fun ys => ret (y :: ys))
      (compL chk bnd tst elt xs)
def isNum : T → M T
  | .int i => ret (.int i)
  | _ => fail
abbrev Fns := Nat → List T → M T
section
variable (Φ : Fns)
mutual
def denE : E → Sl → M T
  | .var i, σ => (match σ[i]? with
    | some (some t) => ret t
    | _ => fail)
  | .con t, _ => ret t
  | .glo _ t, _ => ret t
  | .tup es, σ => seq (denEs es σ) fun ts => ret (.tup ts)
  | .lst es, σ => seq (denEs es σ) fun ts => new (.lst ts)
  | .tupS ss es, σ => seq (denStars es ss σ) fun xs => when_ (decide (xs.length ≤ lineT)) (ret (.tup xs))
  | .lstS ss es, σ => seq (denStars es ss σ) fun xs => when_ (decide (xs.length ≤ lineT)) (new (.lst xs))
  | .dct tk es, σ => seq (denEs es σ) fun ts => seq (opt (pairUp ts)) fun kvs => dictOf tk kvs
  | .app p es, σ => seq (denEs es σ) fun ts => calmly (prim p ts)
  | .num e, σ => seq (denE e σ) isNum
  | .meth k p o es, σ => seq (denE o σ) fun t => seq (kindOf k t) fun _ => seq (denEs es σ) fun ts => calmly (prim p (t :: ts))
  | .call f es, σ => seq (denEs es σ) (Φ f)
  | .callK f es ks perm, σ => seq (denEs es σ) fun a => seq (denEs ks σ) fun b => seq (opt (optAll (fun i => (a ++ b)[i]?) perm)) (Φ f)
  | .and es, σ => denAnd es σ
  | .or es, σ => denOr es σ
  | .not e, σ => seq (denE e σ) fun t => onB t (ret (.bl false)) (ret (.bl true))
  | .chain e ops es, σ => seq (denE e σ) fun v => denChain v ops es σ
  | .ite c a b, σ => seq (denE c σ) fun t => onB t (denE a σ) (denE b σ)
  | .comp e own p it cs, σ => seq (denI it σ) fun its => seq (enter its.lock) fun _ =>
      seq (calmly (compL its.chk (fun x => bindP p x (wipeT σ own)) (fun σ' => denAnd1 cs σ') (fun σ' => denE e σ') its.xs)) fun ys =>
      seq (leave its.lock) fun _ => when_ (decide (ys.length < lineT)) (new (.lst ys))
  | .tupI it, σ => seq (denI it σ) fun its => when_ (decide (its.xs.length ≤ lineT)) (ret (.tup its.xs))
  | .lstI it, σ => seq (denI it σ) fun its => when_ (decide (its.xs.length ≤ lineT)) (new (.lst its.xs))
  | .dctI tk it, σ => seq (denI it σ) fun its => seq (opt (pairsOf its.xs)) fun kvs => dictOf tk kvs
def denEs : List E → Sl → M (List T)
  | [], _ => ret []
  | e :: es, σ => seq (denE e σ) fun t => seq (denEs es σ) fun ts => ret (t :: ts)
/-- the items of a display, some of them starred -/
def denStars : List E → List Bool → Sl → M (List T)
  | [], [], _ => ret []
  | e :: es, false :: ss, σ => seq (denE e σ) fun t => seq (denStars es ss σ) fun r => ret (t :: r)
  | e :: es, true :: ss, σ => seq (denE e σ) fun t => seq (itemsOf t) fun xs => seq (denStars es ss σ) fun r => ret (xs ++ r)
  | _, _, _ => fail
def denAnd : List E → Sl → M T
  | [], _ => fail
  | [e], σ => denE e σ
  | e :: es, σ => seq (denE e σ) fun t => onB t (denAnd es σ) (ret (.bl false))
/-- the tests of a comprehension: none, or one -/
def denAnd1 : List E → Sl → M T
  | [], _ => ret (.bl true)
  | [e], σ => denE e σ
  | _ :: _ :: _, _ => fail
def denOr : List E → Sl → M T
  | [], _ => fail
  | [e], σ => denE e σ
  | e :: es, σ => seq (denE e σ) fun t => onB t (ret (.bl true)) (denOr es σ)
def denChain : T → List Prim → List E → Sl → M T
  | v, [op], [e], σ => seq (denE e σ) fun w => calmly (prim op [v, w])
  | v, op :: ops, e :: es, σ => seq (denE e σ) fun w => seq (calmly (prim op [v, w])) fun c => onB c (denChain w ops es σ) (ret (.bl false))
  | _, _, _, _ => fail
def denI : I → Sl → M Its
  | .val e, σ => seq (denE e σ) itsOf
  | .range es, σ => seq (denEs es σ) fun ts => seq (opt (rangeOf ts)) fun xs => ret ⟨xs, [], none⟩
  | .enum e, σ => seq (denE e σ) fun t => seq (seqOf t) fun its => ret ⟨enumT 0 its.xs, its.chk, none⟩
  | .zip a b, σ => seq (denE a σ) fun x => seq (denE b σ) fun y => zipOf x y
  | .items e, σ => seq (denE e σ) fun t => (match t with
    | .ref l => fun S => match S[l]? with
      | some (.dct tk kvs) => some (.ok ⟨kvs.map fun kv => .tup [kv.1, kv.2], [], some l⟩, S)
      | _ => none
    | _ => fail)
  | .values e, σ => seq (denE e σ) fun t => (match t with
    | .ref l => fun S => match S[l]? with
      | some (.dct tk kvs) => some (.ok ⟨kvs.map (·.2), [], some l⟩, S)
      | _ => none
    | _ => fail)
end

/-! ### statements -/
inductive Fl where
  | nx | bk | ct | rt (t : T)
  deriving Inhabited
/-- a statement's outcome: an exception leaves with the slots of that moment -/
abbrev SM := Sto → Option (Except (Exn × Sl) (Fl × Sl) × Sto)
/-- an expression within a statement -/
def sx {α : Type} (σ : Sl) (m : M α) (f : α → SM) : SM := fun S => match m S with
  | none => none
  | some (.error x, S') => some (.error (x, σ), S')
  | some (.ok a, S') => f a S'
def sret (f : Fl) (σ : Sl) : SM := fun S => some (.ok (f, σ), S)
def sfail : SM := fun _ => none
def sseq (m : SM) (g : Fl → Sl → SM) : SM := fun S => match m S with
  | none => none
  | some (.error x, S') => some (.error x, S')
  | some (.ok (f, σ), S') => g f σ S'
def sonB (t : T) (a b : SM) : SM := match t with
  | .bl true => a
  | .bl false => b
  | _ => sfail
/-- behind a turn -/
def turn (again : Sl → SM) : Fl → Sl → SM
  | .nx, σ => again σ
  | .ct, σ => again σ
  | .bk, σ => sret .nx σ
  | .rt t, σ => sret (.rt t) σ
def forL (chk : List (Nat × Cell)) (bnd : T → Sl → M Sl) (body : Sl → SM) : List T → Sl → SM
  | [], σ => sx σ (check chk) fun _ => sret .nx σ
  | x :: xs, σ => sx σ (check chk) fun _ => sx σ (bnd x σ) fun σ1 => sseq (body σ1) (turn (forL chk bnd body xs))
/-- at most so many turns -/
def whileN (tst : Sl → M T) (body : Sl → SM) : Nat → Sl → SM
  | 0, _ => sfail
  | n + 1, σ => sx σ (tst σ) fun c => sonB c (sseq (body σ) (turn (whileN tst body n))) (sret .nx σ)
/-- .. while a dict is locked -/
def slock (o : Option Nat) (σ : Sl) (m : SM) : SM := match o with
  | none => m
  | some l => sx σ (enter (some l)) fun _ => fun S => match m S with
    | some (.ok (f, σ'), S') => sx σ' (leave (some l)) (fun _ => sret f σ') S'
    | _ => none
variable (sub : Nat → Nat → Bool) (N : Nat)
mutual
def denS : S → Sl → SM
  | .exp e, σ => sx σ (denE Φ e σ) fun _ => sret .nx σ
  | .set i e, σ => sx σ (denE Φ e σ) fun t => if i < σ.length then sret .nx (σ.set i (some t)) else sfail
  | .unp p e, σ => sx σ (denE Φ e σ) fun t => sx σ (bindP p t σ) fun σ' => sret .nx σ'
  | .sub o i e, σ => sx σ (denE Φ e σ) fun t => sx σ (denE Φ o σ) fun v => sx σ (denE Φ i σ) fun k => sx σ (setSub v k t) fun _ => sret .nx σ
  | .ife c a b, σ => sx σ (denE Φ c σ) fun t => sonB t (denSs a σ) (denSs b σ)
  | .whl c b, σ => whileN (fun σ => denE Φ c σ) (fun σ => denSs b σ) N σ
  | .for p it b, σ => sx σ (denI Φ it σ) fun its => slock its.lock σ (forL its.chk (fun x σ => bindP p x σ) (fun σ => denSs b σ) its.xs σ)
  | .ret e, σ => sx σ (denE Φ e σ) fun t => sret (.rt t) σ
  | .retN, σ => sret (.rt .non) σ
  | .pass, σ => sret .nx σ
  | .cont, σ => sret .ct σ
  | .brk, σ => sret .bk σ
  | .raise c es, σ => sx σ (denEs Φ es σ) fun ts => fun St => some (.error (⟨c, ts⟩, σ), St)
  | .try b c i h, σ => fun St => (match denSs b σ St with
    | some (.ok r, S') => some (.ok r, S')
    | some (.error (x, σx), S') => (match sub x.cls c with
      | true => (match i with
        | none => denSs h σx S'
        | some i => (match denSs h (σx.set i (some (.ref S'.length))) (S' ++ [.exc x.cls x.args]) with
          | some (.ok (f, σ'), S'') => some (.ok (f, σ'.set i none), S'')
          | r => r))
      | false => some (.error (x, σx), S'))
    | none => none)
def denSs : List S → Sl → SM
  | [], σ => sret .nx σ
  | s :: ss, σ => sseq (denS s σ) fun f σ' => (match f with
    | .nx => denSs ss σ'
    | f => sret f σ')
end
end
/-- one def: how many parameters, how many slots in all, its body -/
structure Def where
  np : Nat
  nn : Nat
  body : List S
  deriving Inhabited
/-- a body's end -/
def fin (m : SM) : M T := fun S => match m S with
  | some (.ok (.rt t, _), S') => some (.ok t, S')
  | some (.ok (.nx, _), S') => some (.ok .non, S')
  | some (.error (x, _), S') => some (.error x, S')
  | _ => none
/-- what a def does: calls nested at most k deep, whiles of at most N turns -/
def run (sub : Nat → Nat → Bool) (G : Nat → Option Def) (N : Nat) : Nat → Fns
  | 0, _, _ => fail
  | k + 1, f, ts => match G f with
    | some d => when_ (decide (ts.length = d.np)) (fin (denSs (run sub G N k) sub N d.body (ts.map some ++ List.replicate (d.nn - d.np) none)))
    | none => fail
end LS
end

section
set_option Elab.async false
set_option linter.all false
set_option maxRecDepth 100000
set_option maxHeartbeats 4000000
/-! LS.Rel: values, cells and slots of the layer HandS as trees and stores of LSCore; readings that say "what LSCore does". -/
namespace LS
open PySem PySem.Spec PyProof.Rows L2

/-- where classes of the text stand, and the names of their fields -/
structure Fx where
  w : World
  ca : Nat → Addr
  cf : Nat → List Str

section
variable (K : PySem.W.Frag) (H : Hp) (μ : List Addr)
mutual
/-- the value v is the tree t -/
inductive RV : T → V → Prop
  | non : RV .non .non
  | bl (b : Bool) : RV (.bl b) (.bl b)
  | int (i : Int) : RV (.int i) (.int i)
  | str (x : Str) : RV (.str (codes x)) (.str x)
  | tup {a : Addr} {vs : List V} {ts : List T} : SqT K H a vs → RVs ts vs → RV (.tup ts) (.ref a)
  | ref {l : Nat} {a : Addr} : μ[l]? = some a → RV (.ref l) (.ref a)
inductive RVs : List T → List V → Prop
  | nil : RVs [] []
  | cons {t : T} {v : V} {ts : List T} {vs : List V} : RV t v → RVs ts vs → RVs (t :: ts) (v :: vs)
end
end
mutual
/-- a key as the library tells keys -/
def T.nkey : T → NestedKey
  | .non => .none
  | .bl b => .num (if b then 1 else 0)
  | .int i => .num i
  | .str s => .text ⟨s.toArray⟩
  | .tup xs => .tup (T.nkeys xs)
  | .ref _ => .none
def T.nkeys : List T → List NestedKey
  | [] => []
  | t :: ts => T.nkey t :: T.nkeys ts
end
/-- the entries of a dict: trees, values, entries -/
inductive EntR (w : World) : List (T × T) → List (V × V) → List DictEntry → Prop
  | nil : EntR w [] [] []
  | cons {k t : T} {kv vv : V} {e : DictEntry} {r : List (T × T)} {r' : List (V × V)} {r'' : List DictEntry} :
      e.hash = (T.nkey k).hash w → RelV kv e.key → RelV vv e.val → EntR w r r' r'' → EntR w ((k, t) :: r) ((kv, vv) :: r') (e :: r'')
def RawD (w : World) (a : Addr) (kvs : List (T × T)) (es : List (V × V)) : Heap → Prop := fun h =>
  (a == sysModules) = false ∧ kvs.length ≤ sizeLine ∧ ∃ xs ep, h.DictRaw a xs ep ∧ EntR w kvs es xs.toList
/-- a whole number or a text, as a key -/
def keyT : Key → T
  | .inl i => .int i
  | .inr x => .str (codes x)
/-- keys that may stand in one dict -/
structure DKeys (kvs : List (T × T)) : Prop where
  plain : ∀ kv ∈ kvs, kv.1.plain = true ∧ kv.1.depth ≤ 8
  nd : (kvs.map fun kv => T.norm kv.1).Nodup
  kind : ∀ kv ∈ kvs, ∀ kv' ∈ kvs, kv.1.isTup = kv'.1.isTup
/-- what stands at a cell's address -/
def CellR (_F : Fx) (K : PySem.W.Frag) (H : Hp) (μ : List Addr) : Cell → Addr → Prop
  | .lst xs, a => ∃ vs, H a = some (.lst vs) ∧ RVs K H μ xs vs
  | .fro xs, a => ∃ o vs, H a = some (.frz o (.lst vs)) ∧ RVs K H μ xs vs
  | .dct false kvs, a => ∃ es, H a = some (.dK es) ∧ kvs.map (·.1) = es.map (fun p => keyT p.1) ∧ RVs K H μ (kvs.map (·.2)) (es.map (·.2))
  | .lck false kvs, a => ∃ o es, H a = some (.frz o (.dK es)) ∧ kvs.map (·.1) = es.map (fun p => keyT p.1) ∧ RVs K H μ (kvs.map (·.2)) (es.map (·.2))
  | _, _ => False
section
variable (F : Fx) (K : PySem.W.Frag) (H : Hp) (μ : List Addr)
structure Rep (S : Sto) : Prop where
  len : μ.length = S.length
  nd : μ.Nodup
  cell : ∀ (l : Nat) (c : Cell) (a : Addr), S[l]? = some c → μ[l]? = some a → CellR F K H μ c a
end
theorem CellR.some {F : Fx} {K : PySem.W.Frag} {H : Hp} {μ : List Addr} {c : Cell} {a : Addr} (h : CellR F K H μ c a) : ∃ o, H a = some o ∧ (∀ vs, o ≠ .tup vs) ∧ ∀ x vs, o ≠ .frz x (.tup vs) := by
  cases c with
  | lst xs => obtain ⟨_, e, _⟩ := h; exact ⟨_, e, by simp, by simp⟩
  | fro xs => obtain ⟨_, _, e, _⟩ := h; exact ⟨_, e, by simp, by simp⟩
  | dct tk kvs => cases tk <;> first | exact h.elim | (obtain ⟨_, e, _⟩ := h; exact ⟨_, e, by simp, by simp⟩)
  | lck tk kvs => cases tk <;> first | exact h.elim | (obtain ⟨_, _, e, _⟩ := h; exact ⟨_, e, by simp, by simp⟩)
  | exc _ _ => exact h.elim
  | ins _ _ => exact h.elim
theorem CellR.move {F : Fx} {K : PySem.W.Frag} {H H' : Hp} {μ μ' : List Addr} {c : Cell} {a : Addr} (h : CellR F K H μ c a) (e' : H' a = H a) (k : ∀ ts vs, RVs K H μ ts vs → RVs K H' μ' ts vs) : CellR F K H' μ' c a := by
  cases c with
  | lst xs => obtain ⟨vs, e, q⟩ := h; exact ⟨vs, e'.trans e, k _ _ q⟩
  | fro xs => obtain ⟨o, vs, e, q⟩ := h; exact ⟨o, vs, e'.trans e, k _ _ q⟩
  | dct tk kvs =>
    cases tk with
    | true => exact h.elim
    | false => obtain ⟨es, e, q1, q2⟩ := h; exact ⟨es, e'.trans e, q1, k _ _ q2⟩
  | lck tk kvs =>
    cases tk with
    | true => exact h.elim
    | false => obtain ⟨o, es, e, q1, q2⟩ := h; exact ⟨o, es, e'.trans e, q1, k _ _ q2⟩
  | exc _ _ => exact h.elim
  | ins _ _ => exact h.elim
/-- from one moment to a later one -/
structure Step (H : Hp) (μ : List Addr) (H' : Hp) (μ' : List Addr) : Prop where
  ext : ∃ ν, μ' = μ ++ ν ∧ ∀ a ∈ ν, H a = none
  keep : ∀ a o, a ∉ μ → H a = some o → H' a = some o
  there : ∀ a, H' a = none → H a = none

section
variable {F : Fx} {K : PySem.W.Frag} {H H' H'' : Hp} {μ μ' μ'' : List Addr} {S S' : Sto}
theorem Step.refl : Step H μ H μ := ⟨⟨[], by simp, by simp⟩, fun _ _ _ h => h, fun _ h => h⟩
theorem Step.trans (a : Step H μ H' μ') (b : Step H' μ' H'' μ'') : Step H μ H'' μ'' := by
  obtain ⟨ν, e, n⟩ := a.ext
  obtain ⟨ν', e', n'⟩ := b.ext
  refine ⟨⟨ν ++ ν', by rw [e', e, List.append_assoc], fun x hx => ?_⟩, fun x o hx h => ?_, fun x h => a.there x (b.there x h)⟩
  · rcases List.mem_append.mp hx with h | h
    · exact n x h
    · exact a.there x (n' x h)
  · refine b.keep x o (fun hm => ?_) (a.keep x o hx h)
    rw [e] at hm
    rcases List.mem_append.mp hm with q | q
    · exact hx q
    · rw [n x q] at h; cases h
theorem Step.get (a : Step H μ H' μ') {l : Nat} {x : Addr} (h : μ[l]? = some x) : μ'[l]? = some x := by
  obtain ⟨ν, e, _⟩ := a.ext
  rw [e, List.getElem?_append_left (List.getElem?_eq_some_iff.mp h).1]
  exact h
/-- a tuple's address is no cell's -/
theorem Rep.notup (r : Rep F K H μ S) {a : Addr} {vs : List V} (h : Rd H a (.tup vs)) : a ∉ μ := fun hm => by
  obtain ⟨l, hl⟩ := List.getElem?_of_mem hm
  have hlt := (List.getElem?_eq_some_iff.mp hl).1
  rw [r.len] at hlt
  obtain ⟨o, e, n1, n2⟩ := (r.cell l (S[l]) a (by simp [hlt]) hl).some
  rcases h with h | ⟨o', h⟩
  · rw [e] at h; exact n1 _ (Option.some.inj h)
  · rw [e] at h; exact n2 _ _ (Option.some.inj h)
theorem sqT_step {a : Addr} {vs : List V} (h : SqT K H a vs) (n : ∀ a vs, Rd H a (.tup vs) → a ∉ μ) (s : Step H μ H' μ') : SqT K H' a vs := by
  rcases h with h | h
  · refine .inl ?_
    have na := n a vs h
    rcases h with h | ⟨o, h⟩
    · exact .inl (s.keep a _ na h)
    · exact .inr ⟨o, s.keep a _ na h⟩
  · exact .inr h
mutual
theorem RV.step' (n : ∀ a vs, Rd H a (.tup vs) → a ∉ μ) (s : Step H μ H' μ') : ∀ {t : T} {v : V}, RV K H μ t v → RV K H' μ' t v
  | _, _, .non => .non
  | _, _, .bl b => .bl b
  | _, _, .int i => .int i
  | _, _, .str x => .str x
  | _, _, .tup h hs => .tup (sqT_step h n s) (RVs.step' n s hs)
  | _, _, .ref h => .ref (s.get h)
theorem RVs.step' (n : ∀ a vs, Rd H a (.tup vs) → a ∉ μ) (s : Step H μ H' μ') : ∀ {ts : List T} {vs : List V}, RVs K H μ ts vs → RVs K H' μ' ts vs
  | _, _, .nil => .nil
  | _, _, .cons h hs => .cons (RV.step' n s h) (RVs.step' n s hs)
end
theorem RV.step {t : T} {v : V} (h : RV K H μ t v) (r : Rep F K H μ S) (s : Step H μ H' μ') : RV K H' μ' t v := RV.step' (fun _ _ q => r.notup q) s h
theorem RVs.step {t : List T} {v : List V} (h : RVs K H μ t v) (r : Rep F K H μ S) (s : Step H μ H' μ') : RVs K H' μ' t v := RVs.step' (fun _ _ q => r.notup q) s h

theorem RVs.length : ∀ {ts : List T} {vs : List V}, RVs K H μ ts vs → ts.length = vs.length
  | _, _, .nil => rfl
  | _, _, .cons _ h => by simp [RVs.length h]
theorem RVs.get : ∀ {ts : List T} {vs : List V} {i : Nat} {t : T}, RVs K H μ ts vs → ts[i]? = some t → ∃ v, vs[i]? = some v ∧ RV K H μ t v
  | _, _, _, _, .nil, h => by simp at h
  | _, _, 0, _, .cons h _, e => by simp at e; subst e; exact ⟨_, rfl, h⟩
  | _, _, i + 1, t, .cons _ h, e => by
    obtain ⟨v, a, b⟩ := RVs.get (i := i) h (by simpa using e)
    exact ⟨v, by simpa using a, b⟩
theorem RVs.getV : ∀ {ts : List T} {vs : List V} {i : Nat} {v : V}, RVs K H μ ts vs → vs[i]? = some v → ∃ t, ts[i]? = some t ∧ RV K H μ t v
  | _, _, _, _, .nil, h => by simp at h
  | _, _, 0, _, .cons h _, e => by simp at e; subst e; exact ⟨_, rfl, h⟩
  | _, _, i + 1, t, .cons _ h, e => by
    obtain ⟨v, a, b⟩ := RVs.getV (i := i) h (by simpa using e)
    exact ⟨v, by simpa using a, b⟩
theorem RVs.append : ∀ {ts us : List T} {vs ws : List V}, RVs K H μ ts vs → RVs K H μ us ws → RVs K H μ (ts ++ us) (vs ++ ws)
  | _, _, _, _, .nil, h => h
  | _, _, _, _, .cons a b, h => .cons a (RVs.append b h)
theorem RVs.take : ∀ {ts : List T} {vs : List V} (n : Nat), RVs K H μ ts vs → RVs K H μ (ts.take n) (vs.take n)
  | _, _, 0, _ => by simpa using RVs.nil
  | _, _, _ + 1, .nil => by simpa using RVs.nil
  | _, _, n + 1, .cons a b => by simpa using RVs.cons a (RVs.take n b)
theorem RVs.drop : ∀ {ts : List T} {vs : List V} (n : Nat), RVs K H μ ts vs → RVs K H μ (ts.drop n) (vs.drop n)
  | _, _, 0, h => by simpa using h
  | _, _, _ + 1, .nil => by simpa using RVs.nil
  | _, _, n + 1, .cons a b => by simpa using RVs.drop n b
theorem RVs.set : ∀ {ts : List T} {vs : List V} (n : Nat) {t : T} {v : V}, RVs K H μ ts vs → RV K H μ t v → RVs K H μ (ts.set n t) (vs.set n v)
  | _, _, _, _, _, .nil, _ => by simpa using RVs.nil
  | _, _, 0, _, _, .cons _ b, h => by simpa using RVs.cons h b
  | _, _, n + 1, _, _, .cons a b, h => by simpa using RVs.cons a (RVs.set n b h)
theorem RVs.reverse : ∀ {ts : List T} {vs : List V}, RVs K H μ ts vs → RVs K H μ ts.reverse vs.reverse
  | _, _, .nil => by simpa using RVs.nil
  | _, _, .cons a b => by simpa using (RVs.reverse b).append (.cons a .nil)
theorem RVs.eraseIdx : ∀ {ts : List T} {vs : List V} (n : Nat), RVs K H μ ts vs → RVs K H μ (ts.eraseIdx n) (vs.eraseIdx n)
  | _, _, _, .nil => by simpa using RVs.nil
  | _, _, 0, .cons _ b => by simpa using b
  | _, _, n + 1, .cons a b => by simpa using RVs.cons a (RVs.eraseIdx n b)

/-! ### a new cell, a cell written -/
/-- new address p for the cell c: what stands there is o -/
theorem Rep.laid (r : Rep F K H μ S) {p : Addr} {o : HO} {c : Cell} (hp : H p = none) (hc : CellR F K (upd H p o) (μ ++ [p]) c p) :
    Rep F K (upd H p o) (μ ++ [p]) (S ++ [c]) ∧ Step H μ (upd H p o) (μ ++ [p]) := by
  have st : Step H μ (upd H p o) (μ ++ [p]) := ⟨⟨[p], rfl, fun a ha => by simp at ha; subst ha; exact hp⟩, fun a o' _ h => by
    rw [upd_ne (ne_of_none h hp)]; exact h, fun a h => by
    by_cases q : a = p
    · subst q; exact hp
    · rw [upd_ne q] at h; exact h⟩
  have np : p ∉ μ := fun hm => by
    obtain ⟨l, hl⟩ := List.getElem?_of_mem hm
    have hlt := (List.getElem?_eq_some_iff.mp hl).1
    rw [r.len] at hlt
    obtain ⟨o, e, _⟩ := (r.cell l (S[l]) p (by simp [hlt]) hl).some
    rw [hp] at e; cases e
  refine ⟨⟨by simp [r.len], ?_, fun l c' a h1 h2 => ?_⟩, st⟩
  · rw [List.nodup_append]
    exact ⟨r.nd, by simp, fun a ha b hb => by simp at hb; subst hb; exact fun e => np (e ▸ ha)⟩
  · by_cases hl : l < S.length
    · rw [List.getElem?_append_left hl] at h1
      rw [List.getElem?_append_left (by rw [r.len]; exact hl)] at h2
      have h3 := r.cell l c' a h1 h2
      have ap : a ≠ p := fun e => np (e ▸ List.mem_of_getElem? h2)
      exact h3.move (upd_ne ap) fun _ _ q => q.step r st
    · have hl2 : l = S.length := by
        have := (List.getElem?_eq_some_iff.mp h1).1
        simp at this
        omega
      subst hl2
      rw [List.getElem?_append_right (Nat.le_refl _)] at h1
      rw [List.getElem?_append_right (by rw [r.len]; exact Nat.le_refl _)] at h2
      simp [r.len] at h1 h2
      subst h1; subst h2
      exact hc
/-- the cell l is written -/
theorem Rep.write (r : Rep F K H μ S) {l : Nat} {p : Addr} {o : HO} {c : Cell} (hl : μ[l]? = some p) (hc : ∀ H', Step H μ H' μ → H' p = some o → CellR F K H' μ c p) :
    Rep F K (upd H p o) μ (S.set l c) ∧ Step H μ (upd H p o) μ := by
  have pm : p ∈ μ := List.mem_of_getElem? hl
  have st : Step H μ (upd H p o) μ := ⟨⟨[], by simp, by simp⟩, fun a o' ha h => by rw [upd_ne (fun e => ha (by rw [e]; exact pm))]; exact h, fun a h => by
    by_cases q : a = p
    · subst q; rw [upd_same] at h; cases h
    · rw [upd_ne q] at h; exact h⟩
  refine ⟨⟨by simp [r.len], r.nd, fun j c' a h1 h2 => ?_⟩, st⟩
  by_cases hj : j = l
  · subst hj
    rw [hl] at h2; cases h2
    have hlt : j < S.length := by have := (List.getElem?_eq_some_iff.mp h1).1; simpa using this
    rw [List.getElem?_set_self hlt] at h1
    cases h1
    exact hc _ st upd_same
  · rw [List.getElem?_set_ne (Ne.symm hj)] at h1
    have h3 := r.cell j c' a h1 h2
    have ap : a ≠ p := fun e => by
      subst e
      obtain ⟨h4, e4⟩ := List.getElem?_eq_some_iff.mp hl
      obtain ⟨h5, e5⟩ := List.getElem?_eq_some_iff.mp h2
      exact hj ((List.getElem_inj r.nd).mp (e5.trans e4.symm))
    exact h3.move (upd_ne ap) fun _ _ q => q.step r st
end
/-- something that is tracked but no cell is laid (a tuple) -/
theorem Rep.beside {F : Fx} {K : PySem.W.Frag} {H : Hp} {μ : List Addr} {S : Sto} (r : Rep F K H μ S) {p : Addr} {o : HO} (hp : H p = none) : Rep F K (upd H p o) μ S ∧ Step H μ (upd H p o) μ := by
  have st : Step H μ (upd H p o) μ := ⟨⟨[], by simp, by simp⟩, fun a o' _ h => by rw [upd_ne (ne_of_none h hp)]; exact h, fun a h => by
    by_cases q : a = p
    · subst q; exact hp
    · rw [upd_ne q] at h; exact h⟩
  refine ⟨⟨r.len, r.nd, fun l c a h1 h2 => ?_⟩, st⟩
  have h3 := r.cell l c a h1 h2
  obtain ⟨o', e, _⟩ := h3.some
  exact h3.move (upd_ne (ne_of_none e hp)) fun _ _ q => q.step r st

/-! ### slots -/
def RSt (K : PySem.W.Frag) (H : Hp) (μ : List Addr) (σT : Sl) (σ : L2.St) : Prop := σT.length = σ.length ∧ ∀ (i : Nat) (t : T), σT[i]? = some (some t) → ∃ v : V, σ[i]? = some (some v) ∧ RV K H μ t v
section
variable {F : Fx} {K : PySem.W.Frag} {H H' : Hp} {μ μ' : List Addr} {S : Sto} {σT : Sl} {σ : L2.St}
theorem RSt.step (h : RSt K H μ σT σ) (r : Rep F K H μ S) (s : Step H μ H' μ') : RSt K H' μ' σT σ := ⟨h.1, fun i t e => let ⟨v, a, b⟩ := h.2 i t e; ⟨v, a, b.step r s⟩⟩
theorem RSt.set (h : RSt K H μ σT σ) {t : T} {v : V} (q : RV K H μ t v) (i : Nat) : RSt K H μ (σT.set i (some t)) (σ.set i (some v)) := by
  refine ⟨by simp [h.1], fun j u e => ?_⟩
  by_cases hj : i = j
  · subst hj
    by_cases hl : i < σT.length
    · rw [List.getElem?_set_self hl] at e
      cases e
      exact ⟨v, by rw [List.getElem?_set_self (by rw [← h.1]; exact hl)], q⟩
    · rw [List.getElem?_eq_none (by simpa using hl)] at e; cases e
  · rw [List.getElem?_set_ne hj] at e
    obtain ⟨w, a, b⟩ := h.2 j u e
    exact ⟨w, by rw [List.getElem?_set_ne hj]; exact a, b⟩
theorem RSt.unset (h : RSt K H μ σT σ) (i : Nat) : RSt K H μ (σT.set i none) (σ.set i none) := by
  refine ⟨by simp [h.1], fun j u e => ?_⟩
  by_cases hj : i = j
  · subst hj
    by_cases hl : i < σT.length
    · rw [List.getElem?_set_self hl] at e; cases e
    · rw [List.getElem?_eq_none (by simpa using hl)] at e; cases e
  · rw [List.getElem?_set_ne hj] at e
    obtain ⟨w, a, b⟩ := h.2 j u e
    exact ⟨w, by rw [List.getElem?_set_ne hj]; exact a, b⟩
theorem RSt.wipe (h : RSt K H μ σT σ) : ∀ own : List Nat, RSt K H μ (wipeT σT own) (wipe σ own)
  | [] => h
  | v :: vs => by unfold wipeT L2.wipe; exact (RSt.wipe h vs).unset v
end

/-! ### what is wanted behind -/
/-- an exception: its class and its own dict -/
def RX (F : Fx) (K : PySem.W.Frag) (H : Hp) (μ : List Addr) (x : Exn) (cls : Value) (d : Option Addr) : Prop :=
  cls = .ref (F.ca x.cls) ∧ ((F.cf x.cls = [] ∧ x.args = [] ∧ d = none) ∨ ∃ dd vs, d = some dd ∧ F.cf x.cls ≠ [] ∧ (F.cf x.cls).length = vs.length ∧ H dd = some (.xd ((F.cf x.cls).zip vs)) ∧ RVs K H μ x.args vs)
/-- the outcome r, of the store's language, at the moment (H, μ): whatever stands for it then is as wanted -/
def Post {α β : Type} (F : Fx) (K : PySem.W.Frag) (W : WX) (σ : L2.St) (R : Hp → List Addr → α → β → Prop) (H : Hp) (μ : List Addr) (r : Option (Res α)) (Q : β → Hp → Prop) : Prop :=
  match r with
  | none => False
  | some (.ok a, S') => ∀ H' μ' b, Rep F K H' μ' S' → Step H μ H' μ' → R H' μ' a b → Q b H'
  | some (.error x, S') => ∀ H' μ' cls d, Rep F K H' μ' S' → Step H μ H' μ' → RX F K H' μ' x cls d → W cls d σ H'
section
variable {α β γ δ : Type} {F : Fx} {K : PySem.W.Frag} {W : WX} {σ : L2.St} {H H1 : Hp} {μ μ1 : List Addr} {R : Hp → List Addr → α → β → Prop} {R' : Hp → List Addr → γ → δ → Prop} {Q Q' : β → Hp → Prop} {r : Option (Res α)}
theorem Post.from (h : Post F K W σ R H μ r Q) (s : Step H μ H1 μ1) : Post F K W σ R H1 μ1 r Q := by
  cases r with
  | none => exact h
  | some p =>
    obtain ⟨e, S'⟩ := p
    cases e with
    | ok a => exact fun H' μ' b hr st hR => h H' μ' b hr (s.trans st) hR
    | error x => exact fun H' μ' cls d hr st hx => h H' μ' cls d hr (s.trans st) hx
theorem Post.imp (h : Post F K W σ R H μ r Q) (hq : ∀ b H', Q b H' → Q' b H') : Post F K W σ R H μ r Q' := by
  cases r with
  | none => exact h
  | some p =>
    obtain ⟨e, S'⟩ := p
    cases e with
    | ok a => exact fun H' μ' b hr st hR => hq _ _ (h H' μ' b hr st hR)
    | error x => exact h
/-- the first half of a sequence; behind it the second half is wanted -/
theorem Post.seq {m : M γ} {f : γ → M α} {S : Sto} (h : Post F K W σ R H μ (LS.seq m f S) Q) :
    Post F K W σ R' H μ (m S) (fun b1 H1 => ∃ a1 S1 μ1, Rep F K H1 μ1 S1 ∧ Step H μ H1 μ1 ∧ R' H1 μ1 a1 b1 ∧ Post F K W σ R H1 μ1 (f a1 S1) Q) := by
  unfold LS.seq at h
  cases q : m S with
  | none => rw [q] at h; exact h
  | some p =>
    rw [q] at h
    obtain ⟨e, S'⟩ := p
    cases e with
    | ok a => exact fun H' μ' b hr st hR => ⟨a, S', μ', hr, st, hR, h.from st⟩
    | error x => exact h
/-- an outcome that is told -/
theorem Post.done {a : α} {S' : Sto} {H' : Hp} {μ' : List Addr} {b : β} (h : Post F K W σ R H μ (some (.ok a, S')) Q) (hr : Rep F K H' μ' S') (s : Step H μ H' μ') (hR : R H' μ' a b) : Q b H' := h H' μ' b hr s hR
theorem Post.when_ {c : Bool} {m : M α} {S : Sto} (h : Post F K W σ R H μ (LS.when_ c m S) Q) : c = true ∧ Post F K W σ R H μ (m S) Q := by
  cases c with
  | true => exact ⟨rfl, h⟩
  | false => exact h.elim
theorem Post.opt {o : Option γ} {f : γ → M α} {S : Sto} (h : Post F K W σ R H μ (LS.seq (LS.opt o) f S) Q) : ∃ a, o = some a ∧ Post F K W σ R H μ (f a S) Q := by
  cases o with
  | some a => exact ⟨a, rfl, h⟩
  | none => exact h.elim
end
/-- an expression's reading: what the language does -/
def rdE (F : Fx) (K : PySem.W.Frag) (W : WX) (m : Sl → M T) : TE := fun σ H Q => ∃ σT S μ, RSt K H μ σT σ ∧ Rep F K H μ S ∧ Post F K W σ (RV K) H μ (m σT S) Q
def rdA (F : Fx) (K : PySem.W.Frag) (W : WX) (m : Sl → M (List T)) : TA := fun σ H Q => ∃ σT S μ, RSt K H μ σT σ ∧ Rep F K H μ S ∧ Post F K W σ (RVs K) H μ (m σT S) Q
def asB (t : T) : M Bool := match t with
  | .bl b => ret b
  | _ => fail
/-- a test's reading -/
def rdT (F : Fx) (K : PySem.W.Frag) (W : WX) (m : Sl → M T) : TT := fun σ H Q => ∃ σT S μ, RSt K H μ σT σ ∧ Rep F K H μ S ∧ Post F K W σ (fun _ _ (a b : Bool) => a = b) H μ (seq (m σT) asB S) Q
/-- what flows behind a statement -/
def flE (D : Ends) (H' : Hp) (σ' : L2.St) (f : Fl) (v : V) : Prop := match f with
  | .nx => D.nx σ' H'
  | .bk => D.bk σ' H'
  | .ct => D.ct σ' H'
  | .rt _ => D.rt v H'
/-- a statement's outcome: whatever stands for it then is as wanted -/
def PostS (F : Fx) (K : PySem.W.Frag) (W : WX) (D : Ends) (H : Hp) (μ : List Addr) (r : Option (Except (Exn × Sl) (Fl × Sl) × Sto)) : Prop :=
  match r with
  | none => False
  | some (.ok (f, σT'), S') => ∀ H' μ' σ' v, Rep F K H' μ' S' → Step H μ H' μ' → RSt K H' μ' σT' σ' → (∀ t, f = .rt t → RV K H' μ' t v) → flE D H' σ' f v
  | some (.error (x, σT'), S') => ∀ H' μ' σ' cls d, Rep F K H' μ' S' → Step H μ H' μ' → RSt K H' μ' σT' σ' → RX F K H' μ' x cls d → W cls d σ' H'
/-- a block's reading -/
def rdS (F : Fx) (K : PySem.W.Frag) (W : WX) (m : Sl → SM) : TS := fun D σ H => ∃ σT S μ, RSt K H μ σT σ ∧ Rep F K H μ S ∧ PostS F K W D H μ (m σT S)
theorem pe_imp {X : Cx} {e : PySem.Expr} {t t' : TE} (h : PE X e t) (i : ∀ σ H Q, t' σ H Q → t σ H Q) : PE X e t' := ⟨fun pins s σ H Q I q => h.run pins s σ H Q I (i σ H Q q)⟩
theorem pt_imp {X : Cx} {e : PySem.Expr} {t t' : TT} (h : PT X e t) (i : ∀ σ H Q, t' σ H Q → t σ H Q) : PT X e t' := ⟨fun pins s σ H Q I q => h.run pins s σ H Q I (i σ H Q q)⟩
theorem pw_imp {X : Cx} {e : PySem.Expr} {t t' : TT} (h : PW X e t) (i : ∀ σ H Q, t' σ H Q → t σ H Q) : PW X e t' := ⟨fun wh pins s σ H Q I q => h.run wh pins s σ H Q I (i σ H Q q)⟩
theorem pa_imp {X : Cx} {e : List PySem.Expr} {t t' : TA} (h : PA X e t) (i : ∀ σ H Q, t' σ H Q → t σ H Q) : PA X e t' := ⟨fun pos pins s σ H Q I q => h.run pos pins s σ H Q I (i σ H Q q)⟩
theorem ps_imp {X : Cx} {e : Stmt} {t t' : TS} (h : PS X e t) (i : ∀ D σ H, t' D σ H → t D σ H) : PS X e t' := ⟨fun pins s σ H D I q => h.run pins s σ H D I (i D σ H q)⟩
theorem pss_imp {X : Cx} {e : List Stmt} {t t' : TS} (h : PSs X e t) (i : ∀ D σ H, t' D σ H → t D σ H) : PSs X e t' := ⟨fun pins s σ H D I q => h.run pins s σ H D I (i D σ H q)⟩
end LS
end

section
set_option Elab.async false
set_option linter.all false
set_option maxRecDepth 100000
set_option maxHeartbeats 4000000
/-! LS.Ops: the built-in operations, over the layer. -/
namespace LS
open PySem PySem.Spec PyProof.Rows L2
/-- told to whoever waits for t, the store being S' -/
def Out (F : Fx) (K : PySem.W.Frag) (H : Hp) (μ : List Addr) (t : T) (S' : Sto) (Q : VK) : Prop := ∀ H' μ' v, Rep F K H' μ' S' → Step H μ H' μ' → RV K H' μ' t v → Q v H'
/-- an operation's reading -/
def rP (F : Fx) (K : PySem.W.Frag) (m : List T → M T) : List V → Hp → VK → Prop := fun vs H Q => ∃ S μ ts t S', Rep F K H μ S ∧ RVs K H μ ts vs ∧ m ts S = some (.ok t, S') ∧ Out F K H μ t S' Q
theorem calmly_ok {α : Type} {m : M α} {S : Sto} {r : Res α} (h : calmly m S = some r) : ∃ a S', r = (.ok a, S') ∧ m S = some (.ok a, S') := by
  unfold calmly at h
  cases q : m S with
  | none => rw [q] at h; cases h
  | some p =>
    obtain ⟨e, S'⟩ := p
    rw [q] at h
    cases e with
    | ok a => exact ⟨a, S', (Option.some.inj h).symm, rfl⟩
    | error x => cases h
theorem Post.calm {β : Type} {α : Type} {F : Fx} {K : PySem.W.Frag} {W : WX} {σ : L2.St} {R : Hp → List Addr → α → β → Prop} {H : Hp} {μ : List Addr} {m : M α} {S : Sto} {Q : β → Hp → Prop} (h : Post F K W σ R H μ (calmly m S) Q) :
    ∃ a S', m S = some (.ok a, S') ∧ ∀ H' μ' b, Rep F K H' μ' S' → Step H μ H' μ' → R H' μ' a b → Q b H' := by
  cases q : calmly m S with
  | none => rw [q] at h; exact h.elim
  | some r =>
    obtain ⟨a, S', e, e2⟩ := calmly_ok q
    subst e
    rw [q] at h
    exact ⟨a, S', e2, h⟩
section
variable {F : Fx} {K : PySem.W.Frag} {m : List T → M T} {H : Hp} {Q : VK} {x y z : V} {vs : List V}
theorem rP.one (h : rP F K m [x] H Q) : ∃ S μ a t S', Rep F K H μ S ∧ RV K H μ a x ∧ m [a] S = some (.ok t, S') ∧ Out F K H μ t S' Q := by
  obtain ⟨S, μ, ts, t, S', r, rv, e, o⟩ := h
  cases rv with
  | cons r1 r2 => cases r2; exact ⟨S, μ, _, t, S', r, r1, e, o⟩
theorem rP.two (h : rP F K m [x, y] H Q) : ∃ S μ a b t S', Rep F K H μ S ∧ RV K H μ a x ∧ RV K H μ b y ∧ m [a, b] S = some (.ok t, S') ∧ Out F K H μ t S' Q := by
  obtain ⟨S, μ, ts, t, S', r, rv, e, o⟩ := h
  cases rv with
  | cons r1 r2 =>
    cases r2 with
    | cons r2 r3 => cases r3; exact ⟨S, μ, _, _, t, S', r, r1, r2, e, o⟩
theorem rP.three (h : rP F K m [x, y, z] H Q) : ∃ S μ a b c t S', Rep F K H μ S ∧ RV K H μ a x ∧ RV K H μ b y ∧ RV K H μ c z ∧ m [a, b, c] S = some (.ok t, S') ∧ Out F K H μ t S' Q := by
  obtain ⟨S, μ, ts, t, S', r, rv, e, o⟩ := h
  cases rv with
  | cons r1 r2 =>
    cases r2 with
    | cons r2 r3 =>
      cases r3 with
      | cons r3 r4 => cases r4; exact ⟨S, μ, _, _, _, t, S', r, r1, r2, r3, e, o⟩
end
/-- a two-place operation's reading -/
abbrev rP2 (F : Fx) (K : PySem.W.Frag) (m : List T → M T) : R2 := fun x y H Q => rP F K m [x, y] H Q

/-! ### small facts -/
theorem when_ok {α : Type} {c : Bool} {m : M α} {S : Sto} {r : Res α} (h : when_ c m S = some r) : c = true ∧ m S = some r := by
  cases c with
  | true => exact ⟨rfl, h⟩
  | false => cases h
theorem ret_ok {α : Type} {a b : α} {S S' : Sto} (h : ret a S = some (.ok b, S')) : b = a ∧ S' = S := by
  injection h with h
  injection h with h1 h2
  injection h1 with h1
  exact ⟨h1.symm, h2.symm⟩
theorem seq_ok {α β : Type} {m : M α} {f : α → M β} {S : Sto} {b : β} {S' : Sto} (h : seq m f S = some (.ok b, S')) : ∃ a S1, m S = some (.ok a, S1) ∧ f a S1 = some (.ok b, S') := by
  unfold seq at h
  cases q : m S with
  | none => rw [q] at h; cases h
  | some p =>
    obtain ⟨e, S1⟩ := p
    rw [q] at h
    cases e with
    | ok a => exact ⟨a, S1, rfl, h⟩
    | error x => injection h with h; injection h with h1 _; cases h1
theorem opt_ok {α : Type} {o : Option α} {a : α} {S S' : Sto} (h : opt o S = some (.ok a, S')) : o = some a ∧ S' = S := by
  cases o with
  | none => cases h
  | some b =>
    injection h with h
    injection h with h1 h2
    injection h1 with h1
    exact ⟨by rw [h1], h2.symm⟩
theorem fail_ok {α : Type} {S : Sto} {r : Res α} (h : (fail : M α) S = some r) : False := by cases h
theorem no_ok {α : Type} {r : Res α} {C : Prop} (h : (none : Option (Res α)) = some r) : C := by cases h
theorem lstAt_ok {l : Nat} {S S' : Sto} {xs : List T} (h : lstAt l S = some (.ok xs, S')) : S[l]? = some (.lst xs) ∧ S' = S := by
  unfold lstAt at h
  split at h
  · rename_i ys q
    injection h with h
    injection h with h1 h2
    injection h1 with h1
    subst h1
    exact ⟨q, h2.symm⟩
  · cases h
theorem listAt_ok {l : Nat} {S S' : Sto} {xs : List T} (h : listAt l S = some (.ok xs, S')) : (S[l]? = some (.lst xs) ∨ S[l]? = some (.fro xs)) ∧ S' = S := by
  unfold listAt at h
  split at h
  · rename_i ys q
    injection h with h; injection h with h1 h2; injection h1 with h1; subst h1
    exact ⟨.inl q, h2.symm⟩
  · rename_i ys q
    injection h with h; injection h with h1 h2; injection h1 with h1; subst h1
    exact ⟨.inr q, h2.symm⟩
  · cases h
theorem dctAt_ok {l : Nat} {S S' : Sto} {d : Bool × List (T × T)} (h : dctAt l S = some (.ok d, S')) : (S[l]? = some (.dct d.1 d.2) ∨ S[l]? = some (.lck d.1 d.2)) ∧ S' = S := by
  unfold dctAt at h
  split at h
  · rename_i tk ys q
    injection h with h; injection h with h1 h2; injection h1 with h1; subst h1
    exact ⟨.inl q, h2.symm⟩
  · rename_i tk ys q
    injection h with h; injection h with h1 h2; injection h1 with h1; subst h1
    exact ⟨.inr q, h2.symm⟩
  · cases h
theorem new_ok {c : Cell} {S S' : Sto} {t : T} (h : new c S = some (.ok t, S')) : t = .ref S.length ∧ S' = S ++ [c] := by
  injection h with h; injection h with h1 h2; injection h1 with h1
  exact ⟨h1.symm, h2.symm⟩
theorem put_ok {l : Nat} {c : Cell} {S S' : Sto} {u : Unit} (h : put l c S = some (.ok u, S')) : l < S.length ∧ S' = S.set l c := by
  unfold put at h
  split at h
  · rename_i q
    injection h with h; injection h with h1 h2
    exact ⟨q, h2.symm⟩
  · cases h
section
variable {F : Fx} {K : PySem.W.Frag} {H : Hp} {μ : List Addr} {S : Sto} {Q : VK}
/-- what stands at a list's cell -/
theorem Rep.lst (r : Rep F K H μ S) {l : Nat} {xs : List T} {a : Addr} (h : S[l]? = some (.lst xs)) (e : μ[l]? = some a) : ∃ vs, H a = some (.lst vs) ∧ RVs K H μ xs vs := r.cell l _ a h e
theorem Rep.list (r : Rep F K H μ S) {l : Nat} {xs : List T} {a : Addr} (h : S[l]? = some (.lst xs) ∨ S[l]? = some (.fro xs)) (e : μ[l]? = some a) : ∃ vs, SqL K H a vs ∧ RVs K H μ xs vs := by
  rcases h with h | h
  · obtain ⟨vs, q, rv⟩ := r.cell l _ a h e
    exact ⟨vs, SqL.of q, rv⟩
  · obtain ⟨o, vs, q, rv⟩ := r.cell l _ a h e
    exact ⟨vs, .inl (.inr ⟨o, q⟩), rv⟩
/-- nothing is changed -/
theorem Out.here {t : T} {v : V} (o : Out F K H μ t S Q) (r : Rep F K H μ S) (rv : RV K H μ t v) : Q v H := o H μ v r Step.refl rv
/-- a new list -/
theorem Out.newList {xs : List T} {vs : List V} {p : Addr} (o : Out F K H μ (.ref S.length) (S ++ [.lst xs]) Q) (r : Rep F K H μ S) (rv : RVs K H μ xs vs) (hp : H p = none) : Q (.ref p) (upd H p (.lst vs)) := by
  have q := r.beside (o := .lst vs) hp
  have q2 := r.laid (o := .lst vs) (c := .lst xs) hp ⟨vs, upd_same, RVs.step rv r ⟨⟨[p], rfl, fun a ha => by simp at ha; subst ha; exact hp⟩, q.2.keep, q.2.there⟩⟩
  exact o _ _ _ q2.1 q2.2 (.ref (by rw [← r.len, List.getElem?_append_right (Nat.le_refl _)]; simp))
/-- a new tuple -/
theorem Out.newTup {xs : List T} {vs : List V} {p : Addr} (o : Out F K H μ (.tup xs) S Q) (r : Rep F K H μ S) (rv : RVs K H μ xs vs) (hp : H p = none) : Q (.ref p) (upd H p (.tup vs)) := by
  have q := r.beside (o := .tup vs) hp
  exact o _ _ _ q.1 q.2 (.tup (SqT.of upd_same) (rv.step r q.2))
/-- a list is written -/
theorem Out.setList {l : Nat} {ys : List T} {vs : List V} {a : Addr} {t : T} {v : V} (o : Out F K H μ t (S.set l (.lst ys)) Q) (r : Rep F K H μ S) (e : μ[l]? = some a) (rv : RVs K H μ ys vs) (rt : RV K H μ t v) : Q v (upd H a (.lst vs)) := by
  have q := r.write (o := .lst vs) (c := .lst ys) e fun H' st h' => ⟨vs, h', rv.step r st⟩
  exact o _ _ _ q.1 q.2 (rt.step r q.2)
theorem RVs.rep {xs : List T} {vs : List V} (r1 : RVs K H μ xs vs) (n : Nat) : RVs K H μ (List.replicate n xs).flatten (List.replicate n vs).flatten := by
  induction n with
  | zero => simpa using RVs.nil
  | succ n ih => simpa [List.replicate_succ] using r1.append ih
theorem codes_mk (s : List Nat) : codes ⟨s.toArray⟩ = s := by simp [codes]
theorem mk_codes (x : Str) : (⟨(codes x).toArray⟩ : Str) = x := by cases x; simp [codes]
theorem RV.strs {s : List Nat} {v : V} (h : RV K H μ (.str s) v) : v = .str ⟨s.toArray⟩ := by
  cases h with
  | str x => rw [mk_codes]
theorem RV.ofStr (s : List Nat) : RV K H μ (.str s) (.str ⟨s.toArray⟩) := by
  have := RV.str (K := K) (H := H) (μ := μ) ⟨s.toArray⟩
  rwa [codes_mk] at this
theorem RV.ints {i : Int} {v : V} (h : RV K H μ (.int i) v) : v = .int i := by cases h; rfl
theorem RV.bls {i : Bool} {v : V} (h : RV K H μ (.bl i) v) : v = .bl i := by cases h; rfl
theorem RV.tups {ts : List T} {v : V} (h : RV K H μ (.tup ts) v) : ∃ a vs, v = .ref a ∧ SqT K H a vs ∧ RVs K H μ ts vs := by
  cases h with
  | tup a b => exact ⟨_, _, rfl, a, b⟩
theorem RV.refs {l : Nat} {v : V} (h : RV K H μ (.ref l) v) : ∃ a, v = .ref a ∧ μ[l]? = some a := by
  cases h with
  | ref a => exact ⟨_, rfl, a⟩
end
theorem lineT_eq : lineT = sizeLine := by rw [sizeLine_eq]; rfl

/-! ### a tuple times an int, whatever the int -/
theorem tuple_mul_same (l : Addr) (items : Array Value) (n : Nat) (dd : Option Addr) (sl : Array (Option Value)) (x : Int) (u : Tok) (c0 : (decide (x < -(2 ^ 63)) || decide (x ≥ 2 ^ 63)) = false) (c1 : (items.isEmpty || x == 1) = true) :
    Meets (Builtin.«tuple.__mul__» ⟨[.ref l, .int x u], []⟩) (fun _ R s => s.heap.get? l = some { cls := .type "tuple", dict := dd, data := .seq items n, slots := sl } ∧ R (.ok (.ret (Value.ref l))) s) :=
  .of_wp fun prog w A R s h => by
    obtain ⟨hp, g, d, tk, os⟩ := s
    obtain ⟨hl, h⟩ := h
    have f1 := AutoSeq1.idx_int
    wp_walk using wpAny_loadPart' hl
    repeat (first
      | (refine wpAny_ite_false (decide_eq_false (by rw [c0]; exact Bool.false_ne_true)) ?_; wp_walk using wpAny_loadPart' hl)
      | (refine wpAny_ite_true (decide_eq_true c1) ?_; wp_walk using wpAny_loadPart' hl))
    exact ⟨_, rfl, h⟩
theorem tuple_mul_none (l : Addr) (items : Array Value) (n : Nat) (dd : Option Addr) (sl : Array (Option Value)) (x : Int) (u : Tok) (c0 : (decide (x < -(2 ^ 63)) || decide (x ≥ 2 ^ 63)) = false) (c1 : (items.isEmpty || x == 1) = false) (c2 : (decide (x ≤ 0) || items.isEmpty) = true) :
    Meets (Builtin.«tuple.__mul__» ⟨[.ref l, .int x u], []⟩) (fun _ R s => s.heap.get? l = some { cls := .type "tuple", dict := dd, data := .seq items n, slots := sl } ∧
      R (.ok (.ret (Value.ref s.heap.objs.size))) { s with heap := s.heap.push { cls := Value.type "tuple", data := Data.seq #[] }, toks := s.toks }) :=
  .of_wp fun prog w A R s h => by
    obtain ⟨hp, g, d, tk, os⟩ := s
    obtain ⟨hl, h⟩ := h
    have f1 := AutoSeq1.idx_int
    wp_walk using wpAny_loadPart' hl
    repeat (first
      | (refine wpAny_ite_false (decide_eq_false (by rw [c0]; exact Bool.false_ne_true)) ?_; wp_walk using wpAny_loadPart' hl)
      | (refine wpAny_ite_false (decide_eq_false (by rw [c1]; exact Bool.false_ne_true)) ?_; wp_walk using wpAny_loadPart' hl)
      | (refine wpAny_ite_true (decide_eq_true c2) ?_; wp_walk using wpAny_loadPart' hl))
    first
      | exact ⟨_, rfl, h⟩
      | exact h
/-- t * k: nothing, t itself, or a new one -/
def rRepA (K : PySem.W.Frag) : R2 := fun x y H Q => ∃ l k xs, x = .ref l ∧ y = .int k ∧ SqT K H l xs ∧ -1000 ≤ k ∧ k ≤ 1000 ∧ xs.length ≤ 1000 ∧
  ((xs = [] ∨ k = 1) → Q (.ref l) H) ∧ (xs ≠ [] → k ≠ 1 → ∀ p, H p = none → Q (.ref p) (upd H p (.tup (List.replicate k.toNat xs).flatten)))
theorem op_repA {X : Cx} : OpR X (binaryOp .Mult) (rRepA X.K) := by
  intro pins s σ H x y v u Q I rx ry h
  obtain ⟨l, k, xs, rfl, rfl, hT, h1, h2, hz, q1, q2⟩ := h
  by_cases hb : xs ≠ [] ∧ 2 ≤ k
  · exact op_repT pins s σ H _ _ v u Q I rx ry ⟨l, k, xs, rfl, rfl, hT, hb.1, hb.2, h2, hz, q2 hb.1 (by omega)⟩
  cases rx
  obtain ⟨t, rfl⟩ := ry
  obtain ⟨its, r, ⟨⟨cls, dd, data, sl⟩, ho, hc, n, hd⟩, hs⟩ := I.tuple hT
  simp only at hc hd
  subst hc hd
  have c0 : (decide (k < -(2 ^ 63)) || decide (k ≥ 2 ^ 63)) = false := by
    rw [decide_eq_false (by omega), decide_eq_false (by omega)] <;> rfl
  have hle := r.length
  by_cases hsame : xs = [] ∨ k = 1
  · have c1 : (its.toArray.isEmpty || k == 1) = true := by
      rcases hsame with e | e
      · subst e
        cases r
        rfl
      · subst e; simp
    exact wpAny_binaryOp_repeat_ref (T := "tuple") (U := "int") (by decide) ⟨_, ho, rfl⟩ (fun s' => typeIs_int s' k t) noFill_tuple_mul F.fills_int_mul F.slot_int_rmul repeat_tuple F.slot_int_index.lookup
      (call_meets F.slot_int_rmul (typeIs_int s k t) F.entry_int_rmul (F.args_int_rmul_2 _ _) (int_rmul_tuple k t l its.toArray n dd sl)
        ⟨ho, rfl, ⟨_, ho, rfl⟩, call_meets F.slot_tuple_mul ⟨_, ho, rfl⟩ F.entry_tuple_mul (F.args_tuple_mul_2 _ _) (tuple_mul_same l its.toArray n dd sl k t c0 c1) ⟨ho, ⟨V.ref l, H, I, rfl, q1 hsame⟩⟩⟩)
  · have hne : xs ≠ [] := fun e => hsame (.inl e)
    have hk1 : k ≠ 1 := fun e => hsame (.inr e)
    have hk0 : k ≤ 0 := by
      by_cases q : k ≤ 0
      · exact q
      · exact absurd ⟨hne, by omega⟩ hb
    have hi : its.toArray.isEmpty = false := by
      cases its with
      | nil => cases xs with
        | nil => exact absurd rfl hne
        | cons _ _ => cases hle
      | cons a b => rfl
    have c1 : (its.toArray.isEmpty || k == 1) = false := by
      rw [hi, Bool.false_or]
      exact beq_eq_false_iff_ne.mpr hk1
    have c2 : (decide (k ≤ 0) || its.toArray.isEmpty) = true := by rw [decide_eq_true hk0] <;> rfl
    have e0 : (List.replicate k.toNat xs).flatten = [] := by rw [show k.toNat = 0 by omega] <;> rfl
    have q3 := q2 hne hk1
    rw [e0] at q3
    refine wpAny_binaryOp_repeat_ref (T := "tuple") (U := "int") (by decide) ⟨_, ho, rfl⟩ (fun s' => typeIs_int s' k t) noFill_tuple_mul F.fills_int_mul F.slot_int_rmul repeat_tuple F.slot_int_index.lookup
      (call_meets F.slot_int_rmul (typeIs_int s k t) F.entry_int_rmul (F.args_int_rmul_2 _ _) (int_rmul_tuple k t l its.toArray n dd sl)
        ⟨ho, rfl, ⟨_, ho, rfl⟩, call_meets F.slot_tuple_mul ⟨_, ho, rfl⟩ F.entry_tuple_mul (F.args_tuple_mul_2 _ _) (tuple_mul_none l its.toArray n dd sl k t c0 c1 c2) ⟨ho, ?_⟩⟩)
    refine ⟨.ref s.heap.objs.size, _, I.laid (t' := s.toks) (o := .tup []) (fun b ob q => Heap.get?_push_of_some _ q) (Nat.le_refl _) ?_, rfl, q3 _ (I.hok.fresh (Nat.le_refl _))⟩
    exact ⟨Nat.zero_le _, [], .nil, IsTup.new _ _⟩
section
variable {X : Cx} {F : Fx}
theorem o_add : OpR X (binaryOp .Add) (rP2 F X.K pAdd) := by
  intro pins s σ H x y v u Q I rx ry h
  obtain ⟨S, μ, a, b, t, S', r, ra, rb, e, o⟩ := h.two
  cases a with
  | int i =>
    cases b with
    | int j =>
      obtain ⟨rfl, rfl⟩ := ret_ok (show ret (T.int (i + j)) S = _ from e)
      have e1 := ra.ints; have e2 := rb.ints; subst e1; subst e2
      exact op_add pins s σ H _ _ v u Q I rx ry ⟨i, j, rfl, rfl, o.here r (.int _)⟩
    | _ => exact no_ok e
  | str i =>
    cases b with
    | str j =>
      obtain ⟨c, e⟩ := when_ok (show when_ _ (ret (T.str (i ++ j))) S = _ from e)
      obtain ⟨rfl, rfl⟩ := ret_ok e
      have e1 := ra.strs; have e2 := rb.strs; subst e1; subst e2
      have c' := of_decide_eq_true c
      rw [lineT_eq] at c'
      refine op_add_str pins s σ H _ _ v u Q I rx ry ⟨_, _, rfl, rfl, by simpa [Str.length] using c', ?_⟩
      have e3 : (⟨i.toArray⟩ : Str) ++ (⟨j.toArray⟩ : Str) = ⟨(i ++ j).toArray⟩ := by
        show (⟨_⟩ : Str) = _
        simp
      rw [e3]
      exact o.here r (.ofStr _)
    | _ => exact no_ok e
  | tup xs =>
    cases b with
    | tup ys =>
      obtain ⟨c, e⟩ := when_ok (show when_ _ (ret (T.tup (xs ++ ys))) S = _ from e)
      obtain ⟨rfl, rfl⟩ := ret_ok e
      obtain ⟨a1, vs1, rfl, q1, r1⟩ := ra.tups
      obtain ⟨a2, vs2, rfl, q2, r2⟩ := rb.tups
      have c' := of_decide_eq_true c
      rw [lineT_eq, r1.length, r2.length] at c'
      refine op_catA pins s σ H _ _ v u Q I rx ry ⟨a1, a2, vs1, vs2, rfl, rfl, q1, q2, c', fun z => ?_, fun _ z => ?_, fun _ _ p hp => ?_⟩
      · subst z
        cases r1
        exact o.here r (.tup q2 r2)
      · subst z
        cases r2
        rw [List.append_nil] at o
        exact o.here r (.tup q1 r1)
      · exact o.newTup r (r1.append r2) hp
    | _ => exact no_ok e
  | ref l =>
    cases b with
    | ref k =>
      obtain ⟨xs, S1, e1, e3⟩ := seq_ok (show seq (lstAt l) _ S = _ from e)
      obtain ⟨h1, rfl⟩ := lstAt_ok e1
      obtain ⟨ys, S2, e2, e4⟩ := seq_ok e3
      obtain ⟨h2, rfl⟩ := lstAt_ok e2
      obtain ⟨c, e5⟩ := when_ok e4
      obtain ⟨rfl, rfl⟩ := new_ok e5
      obtain ⟨a1, rfl, l1⟩ := ra.refs
      obtain ⟨a2, rfl, l2⟩ := rb.refs
      obtain ⟨vs1, q1, r1⟩ := r.lst h1 l1
      obtain ⟨vs2, q2, r2⟩ := r.lst h2 l2
      have c' := of_decide_eq_true c
      rw [lineT_eq, r1.length, r2.length] at c'
      exact op_cat pins s σ H _ _ v u Q I rx ry ⟨a1, a2, vs1, vs2, rfl, rfl, q1, q2, c', fun p hp => o.newList r (r1.append r2) hp⟩
    | _ => exact no_ok e
  | _ => exact no_ok e
theorem o_sub : OpR X (binaryOp .Sub) (rP2 F X.K pSub) := by
  intro pins s σ H x y v u Q I rx ry h
  obtain ⟨S, μ, a, b, t, S', r, ra, rb, e, o⟩ := h.two
  cases a with
  | int i =>
    cases b with
    | int j =>
      obtain ⟨rfl, rfl⟩ := ret_ok (show ret (T.int (i - j)) S = _ from e)
      have e1 := ra.ints; have e2 := rb.ints; subst e1; subst e2
      exact op_sub pins s σ H _ _ v u Q I rx ry ⟨i, j, rfl, rfl, o.here r (.int _)⟩
    | _ => exact no_ok e
  | _ => exact no_ok e
theorem o_fdiv : OpR X (binaryOp .FloorDiv) (rP2 F X.K pFdiv) := by
  intro pins s σ H x y v u Q I rx ry h
  obtain ⟨S, μ, a, b, t, S', r, ra, rb, e, o⟩ := h.two
  cases a with
  | int i =>
    cases b with
    | int j =>
      obtain ⟨c, e⟩ := when_ok (show when_ _ (ret (T.int (i / j))) S = _ from e)
      obtain ⟨rfl, rfl⟩ := ret_ok e
      have e1 := ra.ints; have e2 := rb.ints; subst e1; subst e2
      simp only [Bool.and_eq_true, decide_eq_true_eq] at c
      exact op_fdivW pins s σ H _ _ v u Q I rx ry ⟨i, j, rfl, rfl, c, o.here r (.int _)⟩
    | _ => exact no_ok e
  | _ => exact no_ok e
theorem o_mod : OpR X (binaryOp .Mod) (rP2 F X.K pMod) := by
  intro pins s σ H x y v u Q I rx ry h
  obtain ⟨S, μ, a, b, t, S', r, ra, rb, e, o⟩ := h.two
  cases a with
  | int i =>
    cases b with
    | int j =>
      obtain ⟨c, e⟩ := when_ok (show when_ _ (ret (T.int (i % j))) S = _ from e)
      obtain ⟨rfl, rfl⟩ := ret_ok e
      have e1 := ra.ints; have e2 := rb.ints; subst e1; subst e2
      exact op_mod pins s σ H _ _ v u Q I rx ry ⟨i, j, rfl, rfl, of_decide_eq_true c, o.here r (.int _)⟩
    | _ => exact no_ok e
  | _ => exact no_ok e
theorem o_pow : OpR X (binaryOp .Pow) (rP2 F X.K pPow) := by
  intro pins s σ H x y v u Q I rx ry h
  obtain ⟨S, μ, a, b, t, S', r, ra, rb, e, o⟩ := h.two
  cases a with
  | int i =>
    cases b with
    | int j =>
      obtain ⟨c, e⟩ := when_ok (show when_ _ (ret (T.int (i ^ j.toNat))) S = _ from e)
      obtain ⟨rfl, rfl⟩ := ret_ok e
      have e1 := ra.ints; have e2 := rb.ints; subst e1; subst e2
      simp only [Bool.and_eq_true, decide_eq_true_eq] at c
      exact op_pow pins s σ H _ _ v u Q I rx ry ⟨i, j, rfl, rfl, ⟨c.1.1, by omega, by omega⟩, o.here r (.int _)⟩
    | _ => exact no_ok e
  | _ => exact no_ok e
theorem o_mul : OpR X (binaryOp .Mult) (rP2 F X.K pMul) := by
  intro pins s σ H x y v u Q I rx ry h
  obtain ⟨S, μ, a, b, t, S', r, ra, rb, e, o⟩ := h.two
  cases b with
  | int j =>
    cases a with
    | int i =>
      obtain ⟨c, e⟩ := when_ok (show when_ _ (ret (T.int (i * j))) S = _ from e)
      obtain ⟨rfl, rfl⟩ := ret_ok e
      have e1 := ra.ints; have e2 := rb.ints; subst e1; subst e2
      have c' : i.natAbs.log2 + j.natAbs.log2 < 134000000 := by simpa [bits2] using c
      exact op_mulX pins s σ H _ _ v u Q I rx ry ⟨i, j, rfl, rfl, mulx_ok (a := i.natAbs.log2 + 1) (b := j.natAbs.log2 + 1) Nat.lt_log2_self Nat.lt_log2_self (by omega), o.here r (.int _)⟩
    | ref l =>
      obtain ⟨xs, S1, e1, e3⟩ := seq_ok (show seq (lstAt l) _ S = _ from e)
      obtain ⟨h1, rfl⟩ := lstAt_ok e1
      obtain ⟨c, e5⟩ := when_ok e3
      obtain ⟨rfl, rfl⟩ := new_ok e5
      simp only [Bool.and_eq_true, decide_eq_true_eq] at c
      obtain ⟨a1, rfl, l1⟩ := ra.refs
      have e2 := rb.ints; subst e2
      obtain ⟨vs1, q1, r1⟩ := r.lst h1 l1
      have hl := r1.length
      refine op_rep pins s σ H _ _ v u Q I rx ry ⟨a1, j, vs1, rfl, rfl, q1, by omega, by omega, ?_, fun p hp => ?_⟩
      · rw [← hl, sizeLine_eq]
        have := Nat.mul_le_mul c.2 (show j.toNat ≤ 64 by omega)
        omega
      · refine o.newList r ?_ hp
        exact r1.rep _
    | tup xs =>
      obtain ⟨c, e⟩ := when_ok (show when_ _ (ret (T.tup (List.replicate j.toNat xs).flatten)) S = _ from e)
      obtain ⟨rfl, rfl⟩ := ret_ok e
      simp only [Bool.and_eq_true, decide_eq_true_eq] at c
      obtain ⟨a1, vs1, rfl, q1, r1⟩ := ra.tups
      have e2 := rb.ints; subst e2
      refine op_repA pins s σ H _ _ v u Q I rx ry ⟨a1, j, vs1, rfl, rfl, q1, by omega, by omega, by rw [← r1.length]; exact c.2, fun z => ?_, fun _ _ p hp => o.newTup r (r1.rep j.toNat) hp⟩
      refine o.here r ?_
      rcases z with z | z
      · subst z
        cases r1
        simpa using RV.tup q1 RVs.nil
      · subst z
        simpa using RV.tup q1 r1
    | str xs => exact no_ok e
    | _ => exact no_ok e
  | _ => cases a <;> exact no_ok e
theorem u_neg : UnR X (unaryOp .USub) (fun x H Q => rP F X.K pNeg [x] H Q) := by
  intro pins s σ H x v Q I rx h
  obtain ⟨S, μ, a, t, S', r, ra, e, o⟩ := h.one
  cases a with
  | int i =>
    obtain ⟨rfl, rfl⟩ := ret_ok (show ret (T.int (-i)) S = _ from e)
    have e1 := ra.ints; subst e1
    exact un_neg pins s σ H _ v Q I rx ⟨i, rfl, o.here r (.int _)⟩
  | _ => exact no_ok e
end
end LS
end

section
set_option Elab.async false
set_option linter.all false
set_option maxRecDepth 100000
set_option maxHeartbeats 4000000
/-! LS.Ops2: data: ==, in, repr, order; items, slices. -/
namespace LS
open PySem PySem.Spec PyProof.Rows L2
theorem optAll_cons {α β : Type} {f : α → Option β} {a : α} {as : List α} {bs : List β} (h : optAll f (a :: as) = some bs) : ∃ b r, bs = b :: r ∧ f a = some b ∧ optAll f as = some r := by
  unfold optAll at h
  cases q : f a with
  | none => rw [q] at h; cases h
  | some b =>
    rw [q] at h
    cases q2 : optAll f as with
    | none => rw [q2] at h; cases h
    | some r => rw [q2] at h; exact ⟨b, r, (Option.some.inj h).symm, rfl, rfl⟩
section
variable {F : Fx} {K : PySem.W.Frag} {H : Hp} {μ : List Addr} {S : Sto}
theorem dps_of {n : Nat} (ih : ∀ (t : T) (d : PyData) (v : V), T.data S n t = some d → RV K H μ t v → Dp K H v d ∧ d.canLay0 = true ∧ d.depth ≤ n) :
    ∀ (ts : List T) (ds : List PyData) (vs : List V), optAll (T.data S n) ts = some ds → RVs K H μ ts vs → DpAll K H vs ds ∧ PyData.canLayAll0 ds = true ∧ PyData.depthAll ds ≤ n := by
  intro ts
  induction ts with
  | nil =>
    intro ds vs h r
    cases r
    cases h
    exact ⟨.nil, by simp [PyData.canLayAll0], by simp [PyData.depthAll]⟩
  | cons t ts iht =>
    intro ds vs h r
    obtain ⟨d, ds', rfl, h1, h2⟩ := optAll_cons h
    cases r with
    | cons r1 r2 =>
      obtain ⟨a1, a2, a3⟩ := ih t d _ h1 r1
      obtain ⟨b1, b2, b3⟩ := iht ds' _ h2 r2
      refine ⟨.cons a1 b1, by simp [PyData.canLayAll0, a2, b2], ?_⟩
      simp only [PyData.depthAll]
      omega
theorem data_dp (r : Rep F K H μ S) : ∀ (n : Nat) (t : T) (d : PyData) (v : V), T.data S n t = some d → RV K H μ t v → Dp K H v d ∧ d.canLay0 = true ∧ d.depth ≤ n := by
  intro n
  induction n with
  | zero =>
    intro t d v h rv
    cases rv with
    | non => simp only [T.data, Option.some.injEq] at h; subst h; exact ⟨.non, rfl, by simp [PyData.depth]⟩
    | bl b => simp only [T.data, Option.some.injEq] at h; subst h; exact ⟨.bl b, rfl, by simp [PyData.depth]⟩
    | int i => simp only [T.data, Option.some.injEq] at h; subst h; exact ⟨.int i, rfl, by simp [PyData.depth]⟩
    | str x =>
      simp only [T.data] at h
      split at h
      · rename_i c
        cases h
        rw [mk_codes]
        exact ⟨.str x, by simpa [PyData.canLay0, PyData.strOk, codes] using c, by simp [PyData.depth]⟩
      · cases h
    | tup _ _ => simp [T.data] at h
    | ref _ => simp [T.data] at h
  | succ n ih =>
    intro t d v h rv
    cases rv with
    | non => simp only [T.data, Option.some.injEq] at h; subst h; exact ⟨.non, rfl, by simp [PyData.depth]⟩
    | bl b => simp only [T.data, Option.some.injEq] at h; subst h; exact ⟨.bl b, rfl, by simp [PyData.depth]⟩
    | int i => simp only [T.data, Option.some.injEq] at h; subst h; exact ⟨.int i, rfl, by simp [PyData.depth]⟩
    | str x =>
      simp only [T.data] at h
      split at h
      · rename_i c
        cases h
        rw [mk_codes]
        exact ⟨.str x, by simpa [PyData.canLay0, PyData.strOk, codes] using c, by simp [PyData.depth]⟩
      · cases h
    | tup hq hs =>
      simp only [T.data, Option.map_eq_some_iff] at h
      obtain ⟨ds, h, rfl⟩ := h
      obtain ⟨a, b, c⟩ := dps_of ih _ _ _ h hs
      exact ⟨.tup hq a, by simpa [PyData.canLay0] using b, by simp only [PyData.depth]; omega⟩
    | ref hl =>
      simp only [T.data] at h
      split at h
      · rename_i xs q
        simp only [Option.map_eq_some_iff] at h
        obtain ⟨ds, h, rfl⟩ := h
        obtain ⟨vs, e, rv⟩ := r.list (.inl q) hl
        obtain ⟨a, b, c⟩ := dps_of ih _ _ _ h rv
        exact ⟨.lst e a, by simpa [PyData.canLay0] using b, by simp only [PyData.depth]; omega⟩
      · rename_i xs q
        simp only [Option.map_eq_some_iff] at h
        obtain ⟨ds, h, rfl⟩ := h
        obtain ⟨vs, e, rv⟩ := r.list (.inr q) hl
        obtain ⟨a, b, c⟩ := dps_of ih _ _ _ h rv
        exact ⟨.lst e a, by simpa [PyData.canLay0] using b, by simp only [PyData.depth]; omega⟩
      · cases h
theorem dataOf_ok {t : T} {d : PyData} {S S' : Sto} (h : dataOf t S = some (.ok d, S')) : T.data S deep t = some d ∧ S' = S := by
  unfold dataOf at h
  split at h
  · rename_i q
    injection h with h; injection h with h1 h2; injection h1 with h1; subst h1
    exact ⟨q, h2.symm⟩
  · cases h
theorem shaped_of {d : PyData} (h : d.canLay0 = true) (h2 : d.depth ≤ deep) : SeqAt.shaped d = true := by
  unfold SeqAt.shaped
  rw [h, Bool.true_and]
  have e : deep = 60 := rfl
  exact decide_eq_true (by omega)
end
section
variable {X : Cx} {F : Fx}
theorem o_eq (hu : X.A.units + 64 < cLine) : OpR X (compareOp .Eq) (rP2 F X.K pEq) := by
  intro pins s σ H x y v u Q I rx ry h
  obtain ⟨S, μ, a, b, t, S', r, ra, rb, e, o⟩ := h.two
  obtain ⟨d1, S1, e1, e2⟩ := seq_ok (show seq (dataOf a) _ S = _ from e)
  obtain ⟨h1, rfl⟩ := dataOf_ok e1
  obtain ⟨d2, S2, e3, e4⟩ := seq_ok e2
  obtain ⟨h2, rfl⟩ := dataOf_ok e3
  obtain ⟨rfl, rfl⟩ := ret_ok e4
  obtain ⟨p1, p2, p3⟩ := data_dp r _ _ _ _ h1 ra
  obtain ⟨q1, q2, q3⟩ := data_dp r _ _ _ _ h2 rb
  exact op_eqD hu pins s σ H x y v u Q I rx ry ⟨d1, d2, p1, q1, shaped_of p2 p3, shaped_of q2 q3, o.here r (.bl _)⟩
theorem o_ne (hu : X.A.units + 64 < cLine) : OpR X (compareOp .NotEq) (rP2 F X.K pNe) := by
  intro pins s σ H x y v u Q I rx ry h
  obtain ⟨S, μ, a, b, t, S', r, ra, rb, e, o⟩ := h.two
  obtain ⟨d1, S1, e1, e2⟩ := seq_ok (show seq (dataOf a) _ S = _ from e)
  obtain ⟨h1, rfl⟩ := dataOf_ok e1
  obtain ⟨d2, S2, e3, e4⟩ := seq_ok e2
  obtain ⟨h2, rfl⟩ := dataOf_ok e3
  obtain ⟨rfl, rfl⟩ := ret_ok e4
  obtain ⟨p1, p2, p3⟩ := data_dp r _ _ _ _ h1 ra
  obtain ⟨q1, q2, q3⟩ := data_dp r _ _ _ _ h2 rb
  exact op_neD hu pins s σ H x y v u Q I rx ry ⟨d1, d2, p1, q1, shaped_of p2 p3, shaped_of q2 q3, o.here r (.bl _)⟩
/-! ### order of whole numbers -/
theorem cmp_int {p : Prim} {f : Value → Value → Sem Value} {g : Int → Int → Bool} (hp : ∀ i j, cmpI p i j = some (g i j)) (hn : ∀ a b S r, (∀ i j, ¬ (a = T.int i ∧ b = T.int j)) → pCmp p [a, b] S = some r → False)
    (ho : OpR X f (rI0 fun i j => .bl (g i j))) : OpR X f (rP2 F X.K (pCmp p)) := by
  intro pins s σ H x y v u Q I rx ry h
  obtain ⟨S, μ, a, b, t, S', r, ra, rb, e, o⟩ := h.two
  by_cases q : ∃ i j, a = T.int i ∧ b = T.int j
  · obtain ⟨i, j, rfl, rfl⟩ := q
    obtain ⟨c, S1, e1, e2⟩ := seq_ok (show seq (opt (cmpI p i j)) _ S = _ from e)
    obtain ⟨h1, rfl⟩ := opt_ok e1
    obtain ⟨rfl, rfl⟩ := ret_ok e2
    rw [hp] at h1; cases h1
    have e1 := ra.ints; have e2 := rb.ints; subst e1; subst e2
    exact ho pins s σ H _ _ v u Q I rx ry ⟨i, j, rfl, rfl, o.here r (.bl _)⟩
  · exact (hn a b S _ (fun i j z => q ⟨i, j, z⟩) e).elim
theorem o_le : OpR X (compareOp .LtE) (rP2 F X.K (pCmp .le)) := cmp_int (fun _ _ => rfl) (fun a b S r n h => by
  cases a <;> cases b <;> first | exact no_ok h | exact n _ _ ⟨rfl, rfl⟩) op_le
theorem o_gt : OpR X (compareOp .Gt) (rP2 F X.K (pCmp .gt)) := cmp_int (fun _ _ => rfl) (fun a b S r n h => by
  cases a <;> cases b <;> first | exact no_ok h | exact n _ _ ⟨rfl, rfl⟩) op_gt
theorem o_ge : OpR X (compareOp .GtE) (rP2 F X.K (pCmp .ge)) := cmp_int (fun _ _ => rfl) (fun a b S r n h => by
  cases a <;> cases b <;> first | exact no_ok h | exact n _ _ ⟨rfl, rfl⟩) op_ge
/-- is None -/
theorem isNone_V {K : PySem.W.Frag} {H : Hp} {μ : List Addr} {t : T} {v : V} (h : RV K H μ t v) : decide (v = .non) = decide (t = .non) := by
  cases h <;> simp
/-! ### in -/
theorem tup_data {S : Sto} {ys : List T} {d : PyData} {S' : Sto} (h : dataOf (.tup ys) S = some (.ok d, S')) : ∃ ds, d = .tuple ds ∧ optAll (T.data S 59) ys = some ds ∧ S' = S := by
  obtain ⟨h1, h2⟩ := dataOf_ok h
  have h3 : (optAll (T.data S 59) ys).map PyData.tuple = some d := h1
  obtain ⟨ds, h4, h5⟩ := Option.map_eq_some_iff.mp h3
  exact ⟨ds, h5.symm, h4, h2⟩
theorem in_room {A : Around} {ds : List PyData} {d : PyData} (hd : d.depth ≤ deep) (hu : A.units + 65 < cLine) : A.units + 1 + min (PyData.depthAll ds) d.depth < cLine := by
  have e : deep = 60 := rfl
  have := Nat.min_le_right (PyData.depthAll ds) d.depth
  omega
end
end LS
end

section
set_option Elab.async false
set_option linter.all false
set_option maxRecDepth 100000
set_option maxHeartbeats 4000000
/-! LS.Ops3: in, items, slices, stores, dicts of texts and whole numbers. -/
namespace LS
open PySem PySem.Spec PyProof.Rows L2
theorem pIsin_tup (a : T) (ys : List T) : pIsin [a, .tup ys] = (seq (dataOf a) fun x => seq (dataOf (.tup ys)) fun d => match d with
    | .tuple ds => ret (.bl (ds.any fun y => PyData.eqv y x))
    | _ => fail) := by
  cases a with
  | str s => rcases s with _ | ⟨c, _ | _⟩ <;> rfl
  | _ => rfl
theorem pNotin_tup (a : T) (ys : List T) : pNotin [a, .tup ys] = (seq (dataOf a) fun x => seq (dataOf (.tup ys)) fun d => match d with
    | .tuple ds => ret (.bl (!ds.any fun y => PyData.eqv y x))
    | _ => fail) := by
  cases a with
  | str s => rcases s with _ | ⟨c, _ | _⟩ <;> rfl
  | _ => rfl
theorem pIsin_ref (a : T) (l : Nat) (S : Sto) : pIsin [a, .ref l] S = (match S[l]? with
    | some (.lst ys) => (seq (dataOf a) fun x => seq (dataOf (.tup ys)) fun d => match d with
      | .tuple ds => ret (.bl (ds.any fun y => PyData.eqv y x))
      | _ => fail) S
    | some (.dct tk kvs) => when_ (keyOk tk a) (ret (.bl (dLook kvs a).isSome)) S
    | some (.lck tk kvs) => when_ (keyOk tk a) (ret (.bl (dLook kvs a).isSome)) S
    | _ => none) := by
  cases a with
  | str s => rcases s with _ | ⟨c, _ | _⟩ <;> rfl
  | _ => rfl
theorem pNotin_ref (a : T) (l : Nat) (S : Sto) : pNotin [a, .ref l] S = (match S[l]? with
    | some (.lst ys) => (seq (dataOf a) fun x => seq (dataOf (.tup ys)) fun d => match d with
      | .tuple ds => ret (.bl (!ds.any fun y => PyData.eqv y x))
      | _ => fail) S
    | some (.dct tk kvs) => when_ (keyOk tk a) (ret (.bl (!(dLook kvs a).isSome))) S
    | some (.lck tk kvs) => when_ (keyOk tk a) (ret (.bl (!(dLook kvs a).isSome))) S
    | _ => none) := by
  cases a with
  | str s => rcases s with _ | ⟨c, _ | _⟩ <;> rfl
  | _ => rfl
/-! ### dicts of texts and whole numbers -/
theorem keyT_inj {a b : Key} (h : keyT a = keyT b) : a = b := by
  cases a with
  | inl i => cases b with
    | inl j => simp [keyT] at h; rw [h]
    | inr y => simp [keyT] at h
  | inr x => cases b with
    | inl j => simp [keyT] at h
    | inr y =>
      simp [keyT, codes] at h
      cases x; cases y; simp at h; rw [h]
theorem keyT_norm (k : Key) : T.norm (keyT k) = keyT k := by cases k <;> rfl
theorem keyOk_leaf {t : T} (h : keyOk false t = true) : ∃ k : Key, t = keyT k := by
  cases t with
  | int i => exact ⟨.inl i, rfl⟩
  | str s => exact ⟨.inr ⟨s.toArray⟩, by simp [keyT, codes]⟩
  | _ => simp [keyOk] at h
section
variable {K : PySem.W.Frag} {H : Hp} {μ : List Addr}
theorem RV.key {k : Key} {v : V} (h : RV K H μ (keyT k) v) : v = kV k := by
  cases k with
  | inl i => exact h.ints
  | inr x =>
    have := RV.strs (s := codes x) h
    rw [mk_codes] at this
    exact this
theorem RV.ofKey (k : Key) : RV K H μ (keyT k) (kV k) := by
  cases k with
  | inl i => exact .int i
  | inr x => exact .str x
theorem look_key (k : Key) : ∀ {kvs : List (T × T)} {es : List (Key × V)}, kvs.map (·.1) = es.map (fun p => keyT p.1) → RVs K H μ (kvs.map (·.2)) (es.map (·.2)) →
    (dLook kvs (keyT k) = none ∧ valV es k = none) ∨ ∃ t v, dLook kvs (keyT k) = some t ∧ valV es k = some v ∧ RV K H μ t v
  | [], [], _, _ => .inl ⟨rfl, rfl⟩
  | [], _ :: _, h, _ => by simp at h
  | _ :: _, [], h, _ => by simp at h
  | (a, t) :: r, (b, v) :: es, h, rv => by
    simp only [List.map_cons, List.cons.injEq] at h
    obtain ⟨h1, h2⟩ := h
    simp only [List.map_cons] at rv
    cases rv with
    | cons r1 r2 =>
      subst h1
      unfold dLook
      rw [keyT_norm, keyT_norm]
      by_cases q : b = k
      · subst q
        rw [if_pos rfl]
        exact .inr ⟨t, v, rfl, valV_pos rfl, r1⟩
      · rw [if_neg fun z => q (keyT_inj z), valV_neg (p := (b, v)) q]
        exact look_key k h2 r2
theorem put_key (k : Key) {t : T} {v : V} (rt : RV K H μ t v) {kvs : List (T × T)} {es : List (Key × V)} (h : kvs.map (·.1) = es.map (fun p => keyT p.1)) (rv : RVs K H μ (kvs.map (·.2)) (es.map (·.2))) :
    (dPut kvs (keyT k) t).map (·.1) = (putK es k v).map (fun p => keyT p.1) ∧ RVs K H μ ((dPut kvs (keyT k) t).map (·.2)) ((putK es k v).map (·.2)) := by
  have repl : ∀ {kvs : List (T × T)} {es : List (Key × V)}, kvs.map (·.1) = es.map (fun p => keyT p.1) → RVs K H μ (kvs.map (·.2)) (es.map (·.2)) →
      (kvs.map fun kv => if T.norm kv.1 = T.norm (keyT k) then (kv.1, t) else kv).map (·.1) = (es.map fun kv => if kv.1 = k then (kv.1, v) else kv).map (fun p => keyT p.1) ∧
      RVs K H μ ((kvs.map fun kv => if T.norm kv.1 = T.norm (keyT k) then (kv.1, t) else kv).map (·.2)) ((es.map fun kv => if kv.1 = k then (kv.1, v) else kv).map (·.2)) := by
    intro kvs
    induction kvs with
    | nil => intro es h rv; cases es with
      | nil => exact ⟨rfl, .nil⟩
      | cons _ _ => simp at h
    | cons a r ih =>
      intro es h rv
      cases es with
      | nil => simp at h
      | cons b es =>
        obtain ⟨a1, a2⟩ := a
        obtain ⟨b1, b2⟩ := b
        simp only [List.map_cons, List.cons.injEq] at h
        obtain ⟨h1, h2⟩ := h
        subst h1
        simp only [List.map_cons] at rv
        cases rv with
        | cons r1 r2 =>
          obtain ⟨i1, i2⟩ := ih h2 r2
          simp only [List.map_cons]
          rw [keyT_norm, keyT_norm]
          by_cases q : b1 = k
          · subst q
            rw [if_pos rfl, if_pos rfl]
            rw [keyT_norm] at i1 i2
            exact ⟨by rw [i1], .cons rt i2⟩
          · rw [if_neg fun z => q (keyT_inj z), if_neg q]
            rw [keyT_norm] at i1 i2
            exact ⟨by rw [i1], .cons r1 i2⟩
  unfold dPut putK
  rcases look_key k h rv with ⟨e1, e2⟩ | ⟨t', v', e1, e2, _⟩
  · have e3 : (es.any fun kv => decide (kv.1 = k)) = false := by rw [valV_any, e2] <;> rfl
    rw [e1, e3]
    simp only [Option.isSome_none, Bool.false_eq_true, if_false, List.map_append, List.map_cons, List.map_nil]
    exact ⟨by rw [h], rv.append (.cons rt .nil)⟩
  · have e3 : (es.any fun kv => decide (kv.1 = k)) = true := by rw [valV_any, e2] <;> rfl
    rw [e1, e3]
    simp only [Option.isSome_some, if_true]
    exact repl h rv
end
section
variable {F : Fx} {K : PySem.W.Frag} {H : Hp} {μ : List Addr} {S : Sto} {Q : VK}
/-- what is found in a dict of texts and whole numbers -/
theorem Rep.leaf (r : Rep F K H μ S) {l : Nat} {kvs : List (T × T)} {a : Addr} (h : S[l]? = some (.dct false kvs) ∨ S[l]? = some (.lck false kvs)) (e : μ[l]? = some a) :
    ∃ es, Rd H a (.dK es) ∧ kvs.map (·.1) = es.map (fun p => keyT p.1) ∧ RVs K H μ (kvs.map (·.2)) (es.map (·.2)) := by
  rcases h with h | h
  · obtain ⟨es, q1, q2, q3⟩ := r.cell l _ a h e
    exact ⟨es, .inl q1, q2, q3⟩
  · obtain ⟨o, es, q1, q2, q3⟩ := r.cell l _ a h e
    exact ⟨es, .inr ⟨o, q1⟩, q2, q3⟩
end
section
variable {X : Cx} {F : Fx}
/-! ### in -/
theorem inD {pins : List (Addr × Obj)} {s : Shared} {σ : L2.St} {H : Hp} {x : V} {v : Value} {a : Addr} {μ : List Addr} {S : Sto} {t : T} {ys : List T} {vs : List V} {d : PyData} {ds : List PyData} {Q : Value → Shared → Prop} {E : Value → Shared → Prop}
    (hu : X.A.units + 65 < cLine) (I : L2.Inv X pins σ H s) (r : Rep F X.K H μ S) (rt : RV X.K H μ t x) (rx : L2.RelV x v) (hl : SqL X.K H a vs ∨ SqT X.K H a vs) (rv : RVs X.K H μ ys vs)
    (h1 : T.data S deep t = some d) (h2 : optAll (T.data S 59) ys = some ds) :
    (Q (.bool (ds.any fun y => PyData.eqv y d)) s → wpAny (model X.prog X.w) X.A (compareOp .In v (.ref a)) Q E s) ∧ (Q (.bool (!ds.any fun y => PyData.eqv y d)) s → wpAny (model X.prog X.w) X.A (compareOp .NotIn v (.ref a)) Q E s) := by
  obtain ⟨p1, p2, p3⟩ := data_dp r _ _ _ _ h1 rt
  obtain ⟨q1, q2, q3⟩ := dps_of (fun t d v => data_dp r 59 t d v) _ _ _ h2 rv
  obtain ⟨as, r1⟩ := Dp.reads I d x v p1 rx
  rcases hl with hl | hl
  · obtain ⟨bs, r2⟩ := Dp.reads I (.list ds) (.ref a) (.ref a) (.lst hl q1) rfl
    exact ⟨fun h => SeqAt.in_list_reads r2 r1 q2 p2 (in_room p3 hu) h, fun h => SeqAt.notIn_list_reads r2 r1 q2 p2 (in_room p3 hu) h⟩
  · obtain ⟨bs, r2⟩ := Dp.reads I (.tuple ds) (.ref a) (.ref a) (.tup hl q1) rfl
    exact ⟨fun h => SeqAt.in_tuple_reads r2 r1 q2 p2 (in_room p3 hu) h, fun h => SeqAt.notIn_tuple_reads r2 r1 q2 p2 (in_room p3 hu) h⟩
theorem seqin_ok {a : T} {ys : List T} {S S' : Sto} {t : T} {f : Bool → Bool} (h : (seq (dataOf a) fun x => seq (dataOf (.tup ys)) fun d => match d with
      | .tuple ds => ret (T.bl (f (ds.any fun y => PyData.eqv y x)))
      | _ => fail) S = some (.ok t, S')) : ∃ d ds, T.data S deep a = some d ∧ optAll (T.data S 59) ys = some ds ∧ t = .bl (f (ds.any fun y => PyData.eqv y d)) ∧ S' = S := by
  obtain ⟨d, S1, e1, e2⟩ := seq_ok h
  obtain ⟨h1, rfl⟩ := dataOf_ok e1
  obtain ⟨d2, S2, e3, e4⟩ := seq_ok e2
  obtain ⟨ds, rfl, h2, rfl⟩ := tup_data e3
  obtain ⟨rfl, rfl⟩ := ret_ok e4
  exact ⟨d, ds, h1, h2, rfl, rfl⟩
theorem o_in (hu : X.A.units + 65 < cLine) : OpR X (compareOp .In) (rP2 F X.K pIsin) := by
  intro pins s σ H x y v u Q I rx ry h
  obtain ⟨S, μ, a, b, t, S', r, ra, rb, e, o⟩ := h.two
  cases b with
  | tup ys =>
    rw [pIsin_tup] at e
    obtain ⟨d, ds, h1, h2, rfl, rfl⟩ := seqin_ok (f := id) e
    obtain ⟨a1, vs, rfl, q, rv⟩ := rb.tups
    cases ry
    exact (inD hu I r ra rx (.inr q) rv h1 h2).1 ⟨.bl _, H, I, rfl, o.here r (.bl _)⟩
  | ref l =>
    rw [pIsin_ref] at e
    obtain ⟨a1, rfl, hl⟩ := rb.refs
    cases ry
    split at e
    · rename_i ys q
      obtain ⟨d, ds, h1, h2, rfl, rfl⟩ := seqin_ok (f := id) e
      obtain ⟨vs, q1, rv⟩ := r.lst q hl
      exact (inD hu I r ra rx (.inl (SqL.of q1)) rv h1 h2).1 ⟨.bl _, H, I, rfl, o.here r (.bl _)⟩
    · rename_i tk kvs q
      obtain ⟨c, e⟩ := when_ok e
      obtain ⟨rfl, rfl⟩ := ret_ok e
      cases tk with
      | false =>
        obtain ⟨k, rfl⟩ := keyOk_leaf c
        obtain ⟨es, q1, q2, q3⟩ := r.leaf (.inl q) hl
        have ek := ra.key
        subst ek
        refine d_in (o := valV es k) (by omega) I (.inl ⟨es, k, q1, rfl, rfl⟩) rx fun s' J => ?_
        have : (valV es k).isSome = (dLook kvs (keyT k)).isSome := by
          rcases look_key k q2 q3 with ⟨z1, z2⟩ | ⟨_, _, z1, z2, _⟩ <;> rw [z1, z2] <;> rfl
        rw [this]
        exact ⟨.bl _, H, J, rfl, o.here r (.bl _)⟩
      | true => exact (r.cell l _ a1 q hl).elim
    · rename_i tk kvs q
      obtain ⟨c, e⟩ := when_ok e
      obtain ⟨rfl, rfl⟩ := ret_ok e
      cases tk with
      | false =>
        obtain ⟨k, rfl⟩ := keyOk_leaf c
        obtain ⟨es, q1, q2, q3⟩ := r.leaf (.inr q) hl
        have ek := ra.key
        subst ek
        refine d_in (o := valV es k) (by omega) I (.inl ⟨es, k, q1, rfl, rfl⟩) rx fun s' J => ?_
        have : (valV es k).isSome = (dLook kvs (keyT k)).isSome := by
          rcases look_key k q2 q3 with ⟨z1, z2⟩ | ⟨_, _, z1, z2, _⟩ <;> rw [z1, z2] <;> rfl
        rw [this]
        exact ⟨.bl _, H, J, rfl, o.here r (.bl _)⟩
      | true => exact (r.cell l _ a1 q hl).elim
    · exact no_ok e
  | str z =>
    cases a with
    | str s0 =>
      rcases s0 with _ | ⟨c, _ | _⟩
      · exact no_ok e
      · obtain ⟨rfl, rfl⟩ := ret_ok (show ret (T.bl (decide (c ∈ z))) S = _ from e)
        have e1 := ra.strs; have e2 := rb.strs; subst e1; subst e2
        refine op_in_sign pins s σ H _ _ v u Q I rx ry ⟨c, _, rfl, rfl, ?_⟩
        exact o.here r (.bl _)
      · exact no_ok e
    | _ => exact no_ok e
  | _ =>
    cases a with
    | str s0 => rcases s0 with _ | ⟨c, _ | _⟩ <;> exact no_ok e
    | _ => exact no_ok e
end
end LS
end

section
set_option Elab.async false
set_option linter.all false
set_option maxRecDepth 100000
set_option maxHeartbeats 4000000
/-! LS.Ops4: not in, <, items, slices, stores. -/
namespace LS
open PySem PySem.Spec PyProof.Rows L2
section
variable {X : Cx} {F : Fx}
theorem o_notin (hu : X.A.units + 65 < cLine) : OpR X (compareOp .NotIn) (rP2 F X.K pNotin) := by
  intro pins s σ H x y v u Q I rx ry h
  obtain ⟨S, μ, a, b, t, S', r, ra, rb, e, o⟩ := h.two
  cases b with
  | tup ys =>
    rw [pNotin_tup] at e
    obtain ⟨d, ds, h1, h2, rfl, rfl⟩ := seqin_ok (f := not) e
    obtain ⟨a1, vs, rfl, q, rv⟩ := rb.tups
    cases ry
    exact (inD hu I r ra rx (.inr q) rv h1 h2).2 ⟨.bl _, H, I, rfl, o.here r (.bl _)⟩
  | ref l =>
    rw [pNotin_ref] at e
    obtain ⟨a1, rfl, hl⟩ := rb.refs
    cases ry
    split at e
    · rename_i ys q
      obtain ⟨d, ds, h1, h2, rfl, rfl⟩ := seqin_ok (f := not) e
      obtain ⟨vs, q1, rv⟩ := r.lst q hl
      exact (inD hu I r ra rx (.inl (SqL.of q1)) rv h1 h2).2 ⟨.bl _, H, I, rfl, o.here r (.bl _)⟩
    · rename_i tk kvs q
      obtain ⟨c, e⟩ := when_ok e
      obtain ⟨rfl, rfl⟩ := ret_ok e
      cases tk with
      | false =>
        obtain ⟨k, rfl⟩ := keyOk_leaf c
        obtain ⟨es, q1, q2, q3⟩ := r.leaf (.inl q) hl
        have ek := ra.key
        subst ek
        refine d_notIn (o := valV es k) (by omega) I (.inl ⟨es, k, q1, rfl, rfl⟩) rx fun s' J => ?_
        have : (valV es k).isSome = (dLook kvs (keyT k)).isSome := by
          rcases look_key k q2 q3 with ⟨z1, z2⟩ | ⟨_, _, z1, z2, _⟩ <;> rw [z1, z2] <;> rfl
        rw [this]
        exact ⟨.bl _, H, J, rfl, o.here r (.bl _)⟩
      | true => exact (r.cell l _ a1 q hl).elim
    · rename_i tk kvs q
      obtain ⟨c, e⟩ := when_ok e
      obtain ⟨rfl, rfl⟩ := ret_ok e
      cases tk with
      | false =>
        obtain ⟨k, rfl⟩ := keyOk_leaf c
        obtain ⟨es, q1, q2, q3⟩ := r.leaf (.inr q) hl
        have ek := ra.key
        subst ek
        refine d_notIn (o := valV es k) (by omega) I (.inl ⟨es, k, q1, rfl, rfl⟩) rx fun s' J => ?_
        have : (valV es k).isSome = (dLook kvs (keyT k)).isSome := by
          rcases look_key k q2 q3 with ⟨z1, z2⟩ | ⟨_, _, z1, z2, _⟩ <;> rw [z1, z2] <;> rfl
        rw [this]
        exact ⟨.bl _, H, J, rfl, o.here r (.bl _)⟩
      | true => exact (r.cell l _ a1 q hl).elim
    · exact no_ok e
  | str z =>
    cases a with
    | str s0 =>
      rcases s0 with _ | ⟨c, _ | _⟩
      · exact no_ok e
      · obtain ⟨rfl, rfl⟩ := ret_ok (show ret (T.bl (!decide (c ∈ z))) S = _ from e)
        have e1 := ra.strs; have e2 := rb.strs; subst e1; subst e2
        refine op_notIn_sign pins s σ H _ _ v u Q I rx ry ⟨c, _, rfl, rfl, ?_⟩
        exact o.here r (.bl _)
      · exact no_ok e
    | _ => exact no_ok e
  | _ =>
    cases a with
    | str s0 => rcases s0 with _ | ⟨c, _ | _⟩ <;> exact no_ok e
    | _ => exact no_ok e

theorem o_lt (hu : X.A.units + 64 < cLine) : OpR X (compareOp .Lt) (rP2 F X.K (pCmp .lt)) := by
  intro pins s σ H x y v u Q I rx ry h
  by_cases q : ∃ i j, ∃ S μ t S', Rep F X.K H μ S ∧ RV X.K H μ (T.int i) x ∧ RV X.K H μ (T.int j) y ∧ pCmp .lt [T.int i, T.int j] S = some (.ok t, S') ∧ Out F X.K H μ t S' Q
  · obtain ⟨i, j, S, μ, t, S', r, ra, rb, e, o⟩ := q
    obtain ⟨c, S1, e1, e2⟩ := seq_ok (show seq (opt (cmpI .lt i j)) (fun c => ret (T.bl c)) S = _ from e)
    obtain ⟨h1, rfl⟩ := opt_ok e1
    obtain ⟨rfl, rfl⟩ := ret_ok e2
    cases h1
    have e1 := ra.ints; have e2 := rb.ints; subst e1; subst e2
    exact op_lt pins s σ H _ _ v u Q I rx ry ⟨i, j, rfl, rfl, o.here r (.bl _)⟩
  · obtain ⟨S, μ, a, b, t, S', r, ra, rb, e, o⟩ := h.two
    have e' : (seq (dataOf a) fun x => seq (dataOf b) fun y => seq (opt (dLt x y)) fun c => ret (T.bl c)) S = some (.ok t, S') := by
      cases a with
      | int i =>
        cases b with
        | int j => exact absurd ⟨i, j, S, μ, t, S', r, ra, rb, e, o⟩ q
        | _ => exact e
      | _ => exact e
    obtain ⟨d1, S1, e1, e2⟩ := seq_ok e'
    obtain ⟨h1, rfl⟩ := dataOf_ok e1
    obtain ⟨d2, S2, e3, e4⟩ := seq_ok e2
    obtain ⟨h2, rfl⟩ := dataOf_ok e3
    obtain ⟨c, S3, e5, e6⟩ := seq_ok e4
    obtain ⟨h3, rfl⟩ := opt_ok e5
    obtain ⟨rfl, rfl⟩ := ret_ok e6
    obtain ⟨p1, p2, p3⟩ := data_dp r _ _ _ _ h1 ra
    obtain ⟨q1, q2, q3⟩ := data_dp r _ _ _ _ h2 rb
    obtain ⟨as, r1⟩ := Dp.reads I d1 x v p1 rx
    obtain ⟨bs, r2⟩ := Dp.reads I d2 y u q1 ry
    have h4 : d1 ≠ .none ∧ PySem.W.alike d1 d2 = true ∧ c = PySem.W.dataLt d1 d2 := by
      unfold dLt at h3
      split at h3
      · cases h3
      · rename_i hn
        split at h3
        · rename_i hl
          exact ⟨hn, hl, (Option.some.inj h3).symm⟩
        · cases h3
    obtain ⟨hn, hl, rfl⟩ := h4
    have em : deep = 60 := rfl
    have := Nat.min_le_left d1.depth d2.depth
    exact PySem.W.lt_data r1 r2 hl hn (by omega) ⟨.bl _, H, I, rfl, o.here r (.bl _)⟩
end
end LS
end

section
set_option Elab.async false
set_option linter.all false
set_option maxRecDepth 100000
set_option maxHeartbeats 4000000
/-! LS.Ops5: items, slices, stores, calls of built-ins. -/
namespace LS
open PySem PySem.Spec PyProof.Rows L2
theorem ixN_eq (n : Nat) (i : Int) : LS.ixN n i = L2.ixN n i := by
  unfold LS.ixN L2.ixN
  by_cases h : 0 ≤ i
  · rw [if_pos h, if_pos h]
    by_cases q : i.toNat < n
    · rw [if_pos q, if_pos (by omega)]
    · rw [if_neg q, if_neg (by omega)]
  · rw [if_neg h, if_neg h]
    by_cases q : 0 ≤ i + n
    · rw [if_pos q, if_pos (by omega)]
    · rw [if_neg q, if_neg (by omega)]
section
variable {K : PySem.W.Frag} {H : Hp} {μ : List Addr}
theorem RVs.at {ts : List T} {vs : List V} {i : Int} {t : T} (r : RVs K H μ ts vs) (h : ((LS.ixN ts.length i).bind fun k => ts[k]?) = some t) : ∃ v, atI vs i = some v ∧ RV K H μ t v := by
  obtain ⟨k, h1, h2⟩ := Option.bind_eq_some_iff.mp h
  obtain ⟨v, h3, h4⟩ := r.get h2
  refine ⟨v, ?_, h4⟩
  unfold atI
  rw [ixN_eq, r.length] at h1
  rw [h1]
  exact h3
end
section
variable {X : Cx} {F : Fx}
theorem pGet_ref (l : Nat) (k : T) (S : Sto) : pGet [.ref l, k] S = (match S[l]? with
    | some (.dct tk kvs) => when_ (keyOk tk k) (opt (dLook kvs k)) S
    | some (.lck tk kvs) => when_ (keyOk tk k) (opt (dLook kvs k)) S
    | some (.lst xs) => (match k with
      | .int i => opt ((LS.ixN xs.length i).bind fun k => xs[k]?)
      | _ => fail) S
    | some (.fro xs) => (match k with
      | .int i => opt ((LS.ixN xs.length i).bind fun k => xs[k]?)
      | _ => fail) S
    | _ => none) := rfl
theorem ix_list' {l : Nat} {xs : List T} {k : T} {S S' : Sto} {t : T} (e : (match k with
      | .int i => opt ((LS.ixN xs.length i).bind fun k => xs[k]?)
      | _ => fail) S = some (.ok t, S')) : ∃ i, k = .int i ∧ ((LS.ixN xs.length i).bind fun k => xs[k]?) = some t ∧ S' = S := by
  cases k with
  | int i =>
    obtain ⟨h1, h2⟩ := opt_ok e
    exact ⟨i, rfl, h1, h2⟩
  | _ => exact no_ok e
theorem dict_ix (hu : X.A.units + 1 < cLine) {value slice : Expr} {pins : List (Addr × Obj)} {s : Shared} {σ : L2.St} {H : Hp} {a : Addr} {y : V} {u : Value} {w : V} {Q : VK} (I : L2.Inv X pins σ H s) (ry : L2.RelV y u) (g : DGet H a y (some w)) (q : Q w H)
    (hs : subscripted slice false (.ref a) u = operate [.ref a, u] (getItem (.ref a) u)) : wpAny (model X.prog X.w) X.A (subscriptTail value slice (.ref a) u) (EP X pins σ Q) X.xe s :=
  tail_any (dict_typeIs I g) PySem.F.slot_dict_getitem.lookup (d_getItem hu I g ry fun w' s3 I3 rw' => ⟨w, H, I3, rw', q⟩) hs
theorem ix_get (hu : X.A.units + 1 < cLine) : IxR X (rP2 F X.K pGet) := by
  intro value slice pins s σ H x y v u Q I rx ry h hs
  obtain ⟨S, μ, a, b, t, S', r, ra, rb, e, o⟩ := h.two
  cases a with
  | tup xs =>
    cases b with
    | int i =>
      obtain ⟨h1, rfl⟩ := opt_ok (show opt ((LS.ixN xs.length i).bind fun k => xs[k]?) S = _ from e)
      obtain ⟨a1, vs, rfl, q, rv⟩ := ra.tups
      have eb := rb.ints; subst eb
      obtain ⟨w, h3, h4⟩ := rv.at h1
      exact ix_tup value slice pins s σ H _ _ v u Q I rx ry ⟨a1, vs, i, w, rfl, rfl, q, h3, o.here r h4⟩ hs
    | _ => exact no_ok e
  | str z =>
    cases b with
    | int i =>
      obtain ⟨c, e⟩ := when_ok (show when_ _ (opt ((LS.ixN z.length i).bind fun k => (z[k]?).map fun c => T.str [c])) S = _ from e)
      obtain ⟨h1, rfl⟩ := opt_ok e
      have ea := ra.strs; subst ea
      have eb := rb.ints; subst eb
      obtain ⟨k, h2, h3⟩ := Option.bind_eq_some_iff.mp h1
      obtain ⟨d, h4, rfl⟩ := Option.map_eq_some_iff.mp h3
      have c' := of_decide_eq_true c
      rw [lineT_eq] at c'
      refine ix_str value slice pins s σ H _ _ v u Q I rx ry ⟨_, i, d, rfl, rfl, by simpa [Str.length] using c', ?_, ?_⟩ hs
      · unfold atI
        rw [ixN_eq] at h2
        simpa [h2] using h4
      · have := o.here r (.ofStr [d])
        exact this
    | _ => exact no_ok e
  | ref l =>
    rw [pGet_ref] at e
    obtain ⟨a1, rfl, hl⟩ := ra.refs
    cases rx
    have leaf : ∀ kvs, (S[l]? = some (.dct false kvs) ∨ S[l]? = some (.lck false kvs)) → when_ (keyOk false b) (opt (dLook kvs b)) S = some (.ok t, S') → wpAny (model X.prog X.w) X.A (subscriptTail value slice (.ref a1) u) (EP X pins σ Q) X.xe s := fun kvs q e => by
      obtain ⟨c, e⟩ := when_ok e
      obtain ⟨h1, rfl⟩ := opt_ok e
      obtain ⟨k, rfl⟩ := keyOk_leaf c
      obtain ⟨es, q1, q2, q3⟩ := r.leaf q hl
      have ek := rb.key
      subst ek
      rcases look_key k q2 q3 with ⟨z1, z2⟩ | ⟨t', w, z1, z2, z3⟩
      · rw [z1] at h1; cases h1
      · rw [z1] at h1; cases h1
        exact dict_ix hu I ry (w := w) (.inl ⟨es, k, q1, rfl, z2.symm⟩) (o.here r z3) hs
    split at e
    · rename_i tk kvs q
      cases tk with
      | false => exact leaf kvs (.inl q) e
      | true => exact (r.cell l _ a1 q hl).elim
    · rename_i tk kvs q
      cases tk with
      | false => exact leaf kvs (.inr q) e
      | true => exact (r.cell l _ a1 q hl).elim
    · rename_i xs q
      obtain ⟨i, rfl, h1, rfl⟩ := ix_list' (l := l) e
      obtain ⟨vs, q1, rv⟩ := r.list (.inl q) hl
      have eb := rb.ints; subst eb
      obtain ⟨w, h3, h4⟩ := rv.at h1
      exact ix_list value slice pins s σ H (.ref a1) _ _ u Q I rfl ry ⟨a1, vs, i, w, rfl, rfl, q1, h3, o.here r h4⟩ hs
    · rename_i xs q
      obtain ⟨i, rfl, h1, rfl⟩ := ix_list' (l := l) e
      obtain ⟨vs, q1, rv⟩ := r.list (.inr q) hl
      have eb := rb.ints; subst eb
      obtain ⟨w, h3, h4⟩ := rv.at h1
      exact ix_list value slice pins s σ H (.ref a1) _ _ u Q I rfl ry ⟨a1, vs, i, w, rfl, rfl, q1, h3, o.here r h4⟩ hs
    · exact no_ok e
  | _ => cases b <;> exact no_ok e
/-! ### slices -/
/-- the written bounds as trees -/
def bndT : Bool → Bool → Option Int → Option Int → Option (List T)
  | true, true, some i, some j => some [.int i, .int j]
  | true, false, some i, none => some [.int i]
  | false, true, none, some j => some [.int j]
  | false, false, none, none => some []
  | _, _, _, _ => none
def rSl (F : Fx) (K : PySem.W.Frag) (a b : Bool) : V → Option Int → Option Int → Hp → VK → Prop := fun x lo hi H Q => ∃ S μ t0 bs t S', Rep F K H μ S ∧ RV K H μ t0 x ∧ bndT a b lo hi = some bs ∧ pSlc a b (t0 :: bs) S = some (.ok t, S') ∧ Out F K H μ t S' Q
theorem cutIx_lo (n : Nat) (i : Int) (d : Nat) : HT.sIx n d (some i) = cutIx n i := by
  show (if i < 0 then (i + (n : Int)).toNat else min i.toNat n) = _
  unfold cutIx
  by_cases h : i < 0
  · rw [if_pos h, if_neg (by omega)]
  · rw [if_neg h, if_pos (by omega)]
theorem bounds_ok {n : Nat} {a b : Bool} {lo hi : Option Int} {bs : List T} {p : Nat × Nat} (h : bndT a b lo hi = some bs) (e : bounds n a b bs = some p) : p = (HT.sIx n 0 lo, HT.sIx n n hi) := by
  cases a <;> cases b <;> cases lo <;> cases hi <;> simp [bndT] at h <;> subst h <;> simp [bounds] at e <;> subst e <;> simp [cutIx_lo, HT.sIx_none]
theorem cutL_eq {α : Type} (xs : List α) (l h : Nat) : cutL xs l h = (xs.drop l).take (h - l) := by
  unfold cutL
  rw [List.drop_take]
theorem RVs.cut {K : PySem.W.Frag} {H : Hp} {μ : List Addr} {ts : List T} {vs : List V} (r : RVs K H μ ts vs) (lo hi : Option Int) : RVs K H μ (cutL ts (HT.sIx ts.length 0 lo) (HT.sIx ts.length ts.length hi)) (cutV vs lo hi) := by
  rw [cutL_eq]
  unfold cutV
  rw [← r.length]
  exact (r.drop _).take _
theorem sl_any {a b : Bool} : SlR X (rSl F X.K a b) := by
  intro pins s σ H x v vl vu lo hi sl Q I rx hs pl pu h
  obtain ⟨S, μ, t0, bs, t, S', r, ra, hb, e, o⟩ := h
  cases t0 with
  | tup xs =>
    obtain ⟨h1, rfl⟩ := opt_ok (show opt ((bounds xs.length a b bs).map fun p => T.tup (cutL xs p.1 p.2)) S = _ from e)
    obtain ⟨p, h2, rfl⟩ := Option.map_eq_some_iff.mp h1
    obtain rfl := bounds_ok hb h2
    obtain ⟨a1, vs, rfl, q, rv⟩ := ra.tups
    refine sl_tupA pins s σ H _ v vl vu lo hi sl Q I rx hs pl pu ⟨a1, vs, rfl, q, fun z => ?_, fun _ p hp => o.newTup r (rv.cut lo hi) hp⟩
    rw [← rv.length] at z
    have e3 : cutL xs (HT.sIx xs.length 0 lo) (HT.sIx xs.length xs.length hi) = xs := by
      rw [z.1, z.2, cutL_eq]; simp
    have o' := o
    simp only [e3] at o'
    exact o'.here r (.tup q rv)
  | str z =>
    obtain ⟨c, e⟩ := when_ok (show when_ _ (opt ((bounds z.length a b bs).map fun p => T.str (cutL z p.1 p.2))) S = _ from e)
    obtain ⟨h1, rfl⟩ := opt_ok e
    obtain ⟨p, h2, rfl⟩ := Option.map_eq_some_iff.mp h1
    obtain rfl := bounds_ok hb h2
    have ea := ra.strs; subst ea
    have c' := of_decide_eq_true c
    rw [lineT_eq] at c'
    refine sl_str pins s σ H _ v vl vu lo hi sl Q I rx hs pl pu ⟨_, rfl, by simpa [Str.length] using c', ?_⟩
    have e3 : cutS ⟨z.toArray⟩ lo hi = ⟨(cutL z (HT.sIx z.length 0 lo) (HT.sIx z.length z.length hi)).toArray⟩ := by
      rw [cutL_eq]
      simp [cutS, Str.length]
    rw [e3]
    exact o.here r (.ofStr _)
  | ref l =>
    obtain ⟨xs, S1, e1, e2⟩ := seq_ok (show seq (listAt l) (fun xs => seq (opt (bounds xs.length a b bs)) fun p => new (.lst (cutL xs p.1 p.2))) S = _ from e)
    obtain ⟨h1, rfl⟩ := listAt_ok e1
    obtain ⟨p, S2, e3, e4⟩ := seq_ok e2
    obtain ⟨h2, rfl⟩ := opt_ok e3
    obtain ⟨rfl, rfl⟩ := new_ok e4
    obtain rfl := bounds_ok hb h2
    obtain ⟨a1, rfl, hl⟩ := ra.refs
    obtain ⟨vs, q1, rv⟩ := r.list h1 hl
    exact sl_list pins s σ H _ v vl vu lo hi sl Q I rx hs pl pu ⟨a1, vs, rfl, q1, fun p hp => o.newList r (rv.cut lo hi) hp⟩
  | _ => exact no_ok e
/-! ### stores -/
def rSet (F : Fx) (K : PySem.W.Frag) : V → V → V → Hp → (Hp → Prop) → Prop := fun o i v H Q => ∃ S μ to ti tv u S', Rep F K H μ S ∧ RV K H μ to o ∧ RV K H μ ti i ∧ RV K H μ tv v ∧ setSub to ti tv S = some (.ok u, S') ∧ ∀ H' μ', Rep F K H' μ' S' → Step H μ H' μ' → Q H'
theorem set_any (hu : X.A.units + 1 < cLine) : PSet X (rSet F X.K) := by
  intro pins s σ H o i v ov iv u Q I ro ri rv h
  obtain ⟨S, μ, to, ti, tv, un, S', r, ra, rb, rc, e, out⟩ := h
  cases to with
  | ref l =>
    obtain ⟨a1, rfl, hl⟩ := ra.refs
    have e : (match S[l]? with
      | some (.dct tk kvs) => when_ (keyOk tk ti && decide (kvs.length < lineT)) (put l (.dct tk (dPut kvs ti tv))) S
      | some (.lst xs) => (match ti with
        | .int i => seq (opt (LS.ixN xs.length i)) fun j => put l (.lst (xs.set j tv))
        | _ => fail) S
      | _ => none) = some (.ok un, S') := e
    split at e
    · rename_i tk kvs q
      cases tk with
      | true => exact (r.cell l _ a1 q hl).elim
      | false =>
        obtain ⟨c, e⟩ := when_ok e
        obtain ⟨_, rfl⟩ := put_ok e
        simp only [Bool.and_eq_true, decide_eq_true_eq] at c
        obtain ⟨k, rfl⟩ := keyOk_leaf c.1
        obtain ⟨es, q1, q2, q3⟩ := r.cell l _ a1 q hl
        have ek := rb.key
        subst ek
        obtain ⟨w1, w2⟩ := put_key k rc q2 q3
        have hlen : es.length < sizeLine := by
          have := congrArg List.length q2
          simp at this
          have c2 := c.2
          rw [lineT_eq] at c2
          omega
        cases ro
        refine d_setItem hu I (.inl ⟨es, k, q1, rfl, hlen, rfl⟩) ri rv fun s' J => ⟨_, J, ?_⟩
        have z := r.write (o := .dK (putK es k v)) (c := .dct false (dPut kvs (keyT k) tv)) hl fun H' st h' => ⟨_, h', w1, w2.step r st⟩
        exact out _ _ z.1 z.2
    · rename_i xs q
      cases ti with
      | int j =>
        obtain ⟨n, S1, e1, e2⟩ := seq_ok e
        obtain ⟨h1, rfl⟩ := opt_ok e1
        obtain ⟨_, rfl⟩ := put_ok e2
        obtain ⟨vs, q1, rv'⟩ := r.lst q hl
        have eb := rb.ints; subst eb
        rw [ixN_eq, rv'.length] at h1
        refine set_list pins s σ H _ _ v ov iv u Q I ro ri rv ⟨a1, vs, j, n, rfl, rfl, q1, h1, ?_⟩
        have z := r.write (o := .lst (vs.set n v)) (c := .lst (xs.set n tv)) hl fun H' st h' => ⟨_, h', (rv'.set n rc).step r st⟩
        exact out _ _ z.1 z.2
      | _ => exact no_ok e
    · exact no_ok e
  | _ => exact no_ok e
/-! ### calls of built-ins -/
abbrev rC (F : Fx) (K : PySem.W.Frag) (m : List T → M T) : List V → Hp → VK → Prop := fun vs H Q => rP F K m vs H Q
theorem rP.arity {m : List T → M T} {K : PySem.W.Frag} {vs : List V} {H : Hp} {Q : VK} (h : rP F K m vs H Q) : ∃ S μ ts t S', Rep F K H μ S ∧ RVs K H μ ts vs ∧ m ts S = some (.ok t, S') ∧ Out F K H μ t S' Q := h
theorem one_of {m : List T → M T} {K : PySem.W.Frag} {xs : List V} {H : Hp} {Q : VK} (h : rC F K m xs H Q) (hm : ∀ ts S r, (∀ a, ts ≠ [a]) → m ts S = some r → False) :
    ∃ x S μ a t S', xs = [x] ∧ Rep F K H μ S ∧ RV K H μ a x ∧ m [a] S = some (.ok t, S') ∧ Out F K H μ t S' Q := by
  obtain ⟨S, μ, ts, t, S', r, rv, e, o⟩ := h
  rcases rv with _ | ⟨ra, rr⟩
  · exact (hm _ _ _ (by simp) e).elim
  rcases rr with _ | ⟨_, rr⟩
  · exact ⟨_, S, μ, _, t, S', rfl, r, ra, e, o⟩
  · exact (hm _ _ _ (by simp) e).elim
theorem c_len : CallR X (.builtin "len") (rC F X.K pLen) := by
  intro pins s σ H xs us Q I rx h
  obtain ⟨x, S, μ, t0, t, S', rfl, r, ra, e, o⟩ := one_of h fun ts S r n e => by
    rcases ts with _ | ⟨a, _ | ⟨b, ts⟩⟩
    · exact no_ok e
    · exact n a rfl
    · cases a <;> exact no_ok e
  · cases t0 with
    | tup xs =>
      obtain ⟨rfl, rfl⟩ := ret_ok (show ret (T.int xs.length) S = _ from e)
      obtain ⟨a1, vs, rfl, q, rv⟩ := ra.tups
      refine call_len_seq pins s σ H _ us Q I rx ⟨a1, vs, rfl, .inr q, ?_⟩
      rw [← rv.length]
      exact o.here r (.int _)
    | str z =>
      obtain ⟨c, e⟩ := when_ok (show when_ _ (ret (T.int z.length)) S = _ from e)
      obtain ⟨rfl, rfl⟩ := ret_ok e
      have ea := ra.strs; subst ea
      have c' := of_decide_eq_true c
      rw [lineT_eq] at c'
      refine call_len_str pins s σ H _ us Q I rx ⟨_, rfl, by simpa [Str.length] using c', ?_⟩
      have := o.here r (.int _)
      simpa [Str.length] using this
    | ref l =>
      obtain ⟨a1, rfl, hl⟩ := ra.refs
      have e : (match S[l]? with
        | some (.lst xs) => some (.ok (T.int xs.length), S)
        | some (.fro xs) => some (.ok (.int xs.length), S)
        | some (.dct tk kvs) => some (.ok (.int kvs.length), S)
        | some (.lck tk kvs) => some (.ok (.int kvs.length), S)
        | _ => none) = some ((.ok t, S') : Res T) := e
      have seqs : ∀ xs : List T, (S[l]? = some (.lst xs) ∨ S[l]? = some (.fro xs)) → some ((.ok (T.int xs.length), S) : Res T) = some (.ok t, S') → wpAny (model X.prog X.w) X.A (call (.builtin "len") us) (EP X pins σ Q) X.xe s := fun xs q e => by
        obtain ⟨rfl, rfl⟩ := ret_ok (show ret (T.int xs.length) S = _ from e)
        obtain ⟨vs, q1, rv⟩ := r.list q hl
        refine call_len_seq pins s σ H _ us Q I rx ⟨a1, vs, rfl, .inl q1, ?_⟩
        rw [← rv.length]
        exact o.here r (.int _)
      have dcts : ∀ kvs, (S[l]? = some (.dct false kvs) ∨ S[l]? = some (.lck false kvs)) → some ((.ok (T.int kvs.length), S) : Res T) = some (.ok t, S') → wpAny (model X.prog X.w) X.A (call (.builtin "len") us) (EP X pins σ Q) X.xe s := fun kvs q e => by
        obtain ⟨rfl, rfl⟩ := ret_ok (show ret (T.int kvs.length) S = _ from e)
        obtain ⟨es, q1, q2, q3⟩ := r.leaf q hl
        obtain ⟨u, rfl, r1⟩ := vals1 rx
        cases r1
        have hlen : kvs.length = es.length := by simpa using congrArg List.length q2
        refine d_len I q1 fun t s' J => ⟨.int es.length, H, J, ⟨t, rfl⟩, ?_⟩
        rw [← hlen]
        exact o.here r (.int _)
      split at e
      · rename_i xs q; exact seqs xs (.inl q) e
      · rename_i xs q; exact seqs xs (.inr q) e
      · rename_i tk kvs q
        cases tk with
        | true => exact (r.cell l _ a1 q hl).elim
        | false => exact dcts kvs (.inl q) e
      · rename_i tk kvs q
        cases tk with
        | true => exact (r.cell l _ a1 q hl).elim
        | false => exact dcts kvs (.inr q) e
      · exact no_ok e
    | _ => exact no_ok e
theorem c_abs : CallR X (.builtin "abs") (rC F X.K pAbs) := by
  intro pins s σ H xs us Q I rx h
  obtain ⟨x, S, μ, a, t, S', rfl, r, ra, e, o⟩ := one_of h fun ts S r n e => by
    rcases ts with _ | ⟨a, _ | ⟨b, ts⟩⟩
    · exact no_ok e
    · exact n a rfl
    · cases a <;> exact no_ok e
  cases a with
  | int i =>
    obtain ⟨rfl, rfl⟩ := ret_ok (show ret (T.int i.natAbs) S = _ from e)
    have ea := ra.ints; subst ea
    refine call_abs pins s σ H _ us Q I rx ⟨i, rfl, ?_⟩
    have e1 : (if i < 0 then -i else i) = (i.natAbs : Int) := by split <;> omega
    rw [e1]
    exact o.here r (.int _)
  | _ => exact no_ok e
/-- int(x): of a whole number, of a truth value -/
theorem c_int : CallR X (.type "int") (rC F X.K pIntOf) := by
  intro pins s σ H xs us Q I rx h
  obtain ⟨x, S, μ, a, t, S', rfl, r, ra, e, o⟩ := one_of h fun ts S r n e => by
    rcases ts with _ | ⟨a, _ | ⟨b, ts⟩⟩
    · exact no_ok e
    · exact n a rfl
    · cases a <;> exact no_ok e
  cases a with
  | int i =>
    obtain ⟨rfl, rfl⟩ := ret_ok (show ret (T.int i) S = _ from e)
    have ea := ra.ints; subst ea
    exact call_int1 pins s σ H _ us Q I rx (.inl ⟨i, rfl, o.here r (.int _)⟩)
  | bl b =>
    obtain ⟨rfl, rfl⟩ := ret_ok (show ret (T.int (if b then 1 else 0)) S = _ from e)
    have ea := ra.bls; subst ea
    exact call_int1 pins s σ H _ us Q I rx (.inr ⟨b, rfl, o.here r (.int _)⟩)
  | _ => exact no_ok e
theorem c_repr (hg : X.A.guards = some []) (hu : X.A.units + 100 < cLine) : CallR X (.builtin "repr") (rC F X.K pRepr) := by
  intro pins s σ H xs us Q I rx h
  obtain ⟨x, S, μ, a, t, S', rfl, r, ra, e, o⟩ := one_of h fun ts S r n e => by
    rcases ts with _ | ⟨a, _ | ⟨b, ts⟩⟩
    · exact no_ok e
    · exact n a rfl
    · cases a <;> exact no_ok e
  have e1 : (∃ p, x = .ref p) ∧ (seq (dataOf a) fun d => seq (opt (reprOf d)) fun z => ret (T.str z)) S = some (.ok t, S') := by
    cases a with
    | tup ts => obtain ⟨p, _, q, _⟩ := ra.tups; exact ⟨⟨p, q⟩, e⟩
    | ref l => obtain ⟨p, q, _⟩ := ra.refs; exact ⟨⟨p, q⟩, e⟩
    | _ => exact no_ok e
  obtain ⟨⟨p, rfl⟩, e⟩ := e1
  obtain ⟨d, S1, e1, e2⟩ := seq_ok e
  obtain ⟨h1, rfl⟩ := dataOf_ok e1
  obtain ⟨z, S2, e3, e4⟩ := seq_ok e2
  obtain ⟨h2, rfl⟩ := opt_ok e3
  obtain ⟨rfl, rfl⟩ := ret_ok e4
  obtain ⟨u, rfl, r1⟩ := vals1 rx
  cases r1
  obtain ⟨p1, p2, p3⟩ := data_dp r _ _ _ _ h1 ra
  obtain ⟨as, r1⟩ := Dp.reads I d _ _ p1 rfl
  unfold reprOf at h2
  split at h2
  · rename_i c
    simp only [Bool.and_eq_true, decide_eq_true_eq, Bool.not_eq_true'] at c
    cases h2
    have c4 := c.2
    rw [lineT_eq] at c4
    have em : deep = 60 := rfl
    refine repr_of_reads' r1 c.1.1.1 (fun z => by rw [c.1.1.2] at z; cases z) hg (by omega) (fun _ _ q => q) (fun h' u tk hk => ?_) c4
    exact ⟨.str d.shown, H, I.kept (t' := tk) hk, ⟨u, rfl⟩, o.here r (.str _)⟩
  · cases h2
end
end LS
end

section
set_option Elab.async false
set_option linter.all false
set_option maxRecDepth 100000
set_option maxHeartbeats 4000000
/-! LS.Sem: the forms of expressions and statements over the layer. -/
namespace LS
open PySem PySem.Spec PyProof.Rows L2
section
variable {F : Fx} {K : PySem.W.Frag} {W : WX} {m : Sl → M T} {ma : Sl → M (List T)} {σ : L2.St} {H : Hp} {Q Q' : VK}
theorem rdE.mono (h : rdE F K W m σ H Q) (q : ∀ v H', Q v H' → Q' v H') : rdE F K W m σ H Q' := by
  obtain ⟨σT, S, μ, a, b, c⟩ := h
  exact ⟨σT, S, μ, a, b, c.imp q⟩
theorem rdA.mono {Q Q' : List V → Hp → Prop} (h : rdA F K W ma σ H Q) (q : ∀ v H', Q v H' → Q' v H') : rdA F K W ma σ H Q' := by
  obtain ⟨σT, S, μ, a, b, c⟩ := h
  exact ⟨σT, S, μ, a, b, c.imp q⟩
theorem rdT.mono {Q Q' : Bool → Hp → Prop} (h : rdT F K W m σ H Q) (q : ∀ v H', Q v H' → Q' v H') : rdT F K W m σ H Q' := by
  obtain ⟨σT, S, μ, a, b, c⟩ := h
  exact ⟨σT, S, μ, a, b, c.imp q⟩
/-- one after another -/
theorem rdE.then_ {β γ : Type} {g : Sl → M γ} {f : Sl → γ → M β} {δ ε : Type} {R' : Hp → List Addr → γ → δ → Prop} {R : Hp → List Addr → β → ε → Prop} {Q : ε → Hp → Prop} {σT : Sl} {S : Sto} {μ : List Addr}
    (a : RSt K H μ σT σ) (b : Rep F K H μ S) (c : Post F K W σ R H μ (seq (g σT) (f σT) S) Q) :
    Post F K W σ R' H μ (g σT S) (fun b1 H1 => ∃ a1 S1 μ1, RSt K H1 μ1 σT σ ∧ Rep F K H1 μ1 S1 ∧ R' H1 μ1 a1 b1 ∧ Step H μ H1 μ1 ∧ Post F K W σ R H1 μ1 (f σT a1 S1) Q) :=
  (c.seq (R' := R')).imp fun b1 H1 ⟨a1, S1, μ1, r1, s1, q1, c1⟩ => ⟨a1, S1, μ1, a.step b s1, r1, q1, s1, c1⟩
end
section
variable {F : Fx} {K : PySem.W.Frag} {W : WX} {Φ : Fns} {σ : L2.St} {H : Hp}
theorem rdA_nil {Q : List V → Hp → Prop} (h : rdA F K W (denEs Φ []) σ H Q) : tNil σ H Q := by
  obtain ⟨σT, S, μ, a, b, c⟩ := h
  exact c.done (a := []) b Step.refl .nil
theorem rdA_cons {e : E} {es : List E} {Q : List V → Hp → Prop} (h : rdA F K W (denEs Φ (e :: es)) σ H Q) : tCons (rdE F K W (denE Φ e)) (rdA F K W (denEs Φ es)) σ H Q := by
  obtain ⟨σT, S, μ, a, b, c⟩ := h
  have c' : Post F K W σ (RVs K) H μ (seq (denE Φ e σT) (fun t => seq (denEs Φ es σT) fun ts => ret (t :: ts)) S) Q := c
  refine ⟨σT, S, μ, a, b, (rdE.then_ (R' := RV K) (f := fun σ t => seq (denEs Φ es σ) fun ts => ret (t :: ts)) a b c').imp fun x H1 ⟨t, S1, μ1, a1, b1, rx, s1, c1⟩ => ?_⟩
  refine ⟨σT, S1, μ1, a1, b1, (rdE.then_ (R' := RVs K) (f := fun _ ts => ret (t :: ts)) a1 b1 c1).imp fun xs H2 ⟨ts, S2, μ2, a2, b2, rxs, s2, c2⟩ => ?_⟩
  exact c2.done b2 Step.refl (.cons (rx.step b1 s2) rxs)
theorem rdA_one {e : E} {Q : List V → Hp → Prop} (h : rdA F K W (denEs Φ [e]) σ H Q) : rdE F K W (denE Φ e) σ H fun x H1 => Q [x] H1 :=
  (rdA_cons h).mono fun _ _ q => rdA_nil q
theorem rdA_two {e e' : E} {Q : List V → Hp → Prop} (h : rdA F K W (denEs Φ [e, e']) σ H Q) : rdE F K W (denE Φ e) σ H fun x H1 => rdE F K W (denE Φ e') σ H1 fun y H2 => Q [x, y] H2 :=
  (rdA_cons h).mono fun _ _ q => rdA_one q
theorem rdA_three {e e' e'' : E} {Q : List V → Hp → Prop} (h : rdA F K W (denEs Φ [e, e', e'']) σ H Q) :
    rdE F K W (denE Φ e) σ H fun x H1 => rdE F K W (denE Φ e') σ H1 fun y H2 => rdE F K W (denE Φ e'') σ H2 fun z H3 => Q [x, y, z] H3 :=
  (rdA_cons h).mono fun _ _ q => rdA_two q
theorem denEs_len {es : List E} {σT : Sl} {S S' : Sto} {ts : List T} (h : denEs Φ es σT S = some (.ok ts, S')) : ts.length = es.length := by
  induction es generalizing S ts S' with
  | nil =>
    obtain ⟨rfl, _⟩ := ret_ok (show ret [] S = _ from h)
    rfl
  | cons e es ih =>
    obtain ⟨t, S1, e1, e2⟩ := seq_ok (show seq (denE Φ e σT) (fun t => seq (denEs Φ es σT) fun ts => ret (t :: ts)) S = _ from h)
    obtain ⟨r, S2, e3, e4⟩ := seq_ok e2
    obtain ⟨rfl, _⟩ := ret_ok e4
    simp [ih e3]
/-- as many values as expressions -/
theorem rdA_len {es : List E} {Q : List V → Hp → Prop} (h : rdA F K W (denEs Φ es) σ H fun vs H1 => vs.length = es.length → Q vs H1) : rdA F K W (denEs Φ es) σ H Q := by
  obtain ⟨σT, S, μ, a, b, c⟩ := h
  refine ⟨σT, S, μ, a, b, ?_⟩
  cases q : denEs Φ es σT S with
  | none => rw [q] at c; exact c
  | some r =>
    obtain ⟨r1, S'⟩ := r
    rw [q] at c
    cases r1 with
    | error x => exact c
    | ok ts => exact fun H' μ' vs r1 s1 rv => c H' μ' vs r1 s1 rv (by rw [← rv.length]; exact denEs_len q)
/-- what comes behind the arguments: told by whoever takes them -/
theorem rdE_args {es : List E} {g : List T → M T} {Q : VK} (h : rdE F K W (fun σ => seq (denEs Φ es σ) g) σ H Q) :
    rdA F K W (denEs Φ es) σ H fun vs H1 => ∃ ts S μ, Rep F K H1 μ S ∧ RVs K H1 μ ts vs ∧ Post F K W σ (RV K) H1 μ (g ts S) Q := by
  obtain ⟨σT, S, μ, a, b, c⟩ := h
  exact ⟨σT, S, μ, a, b, (rdE.then_ (R' := RVs K) (f := fun _ ts => g ts) a b c).imp fun xs H1 ⟨ts, S1, μ1, a1, b1, rx, s1, c1⟩ => ⟨ts, S1, μ1, b1, rx, c1⟩⟩
theorem rP_of {p : Prim} {vs : List V} {H1 : Hp} {Q : VK} (h : ∃ ts S μ, Rep F K H1 μ S ∧ RVs K H1 μ ts vs ∧ Post F K W σ (RV K) H1 μ (calmly (prim p ts) S) Q) : rP F K (prim p) vs H1 Q := by
  obtain ⟨ts, S, μ, a, b, c⟩ := h
  obtain ⟨t, S', e, o⟩ := c.calm
  exact ⟨S, μ, ts, t, S', a, b, e, o⟩
theorem rd_app {p : Prim} {es : List E} {Q : VK} (h : rdE F K W (denE Φ (.app p es)) σ H Q) : rdA F K W (denEs Φ es) σ H fun vs H1 => rP F K (prim p) vs H1 Q :=
  (rdE_args (g := fun ts => calmly (prim p ts)) h).mono fun _ _ q => rP_of q
end
/-! ### expressions -/
section
variable {X : Cx} {F : Fx} {W : WX} {Φ : Fns}
abbrev RE (F : Fx) (W : WX) (Φ : Fns) (X : Cx) (e : E) (x : PySem.Expr) : Prop := PE X x (rdE F X.K W (denE Φ e))
abbrev RT (F : Fx) (W : WX) (Φ : Fns) (X : Cx) (e : E) (x : PySem.Expr) : Prop := PT X x (rdT F X.K W (denE Φ e))
abbrev RAs (F : Fx) (W : WX) (Φ : Fns) (X : Cx) (es : List E) (xs : List PySem.Expr) : Prop := PA X xs (rdA F X.K W (denEs Φ es))
theorem re_var {i : Nat} {x : Str} {pos : Pos} (hN : X.N[i]? = some x) (hv : Vis X.env.scope x) (hd : (x == ("__debug__" : Str)) = false) (hcd : (x == ("__classdict__" : Str)) = false) : RE F W Φ X (.var i) (.Name x pos) :=
  pe_imp (pe_var hN hv hd hcd) fun σ H Q h => by
    obtain ⟨σT, S, μ, a, b, c⟩ := h
    have e1 : denE Φ (.var i) σT = (match σT[i]? with
      | some (some t) => ret t
      | _ => fail) := rfl
    rw [e1] at c
    cases q : σT[i]? with
    | none => rw [q] at c; exact c.elim
    | some o =>
      cases o with
      | none => rw [q] at c; exact c.elim
      | some t =>
        rw [q] at c
        obtain ⟨v, e, r⟩ := a.2 i t q
        exact ⟨v, e, Post.done (a := t) c b Step.refl r⟩
theorem re_con {x : PySem.Expr} {t : T} {v : V} (h : PE X x (tC v)) (r : ∀ H μ, RV X.K H μ t v) : RE F W Φ X (.con t) x :=
  pe_imp h fun σ H Q h => by
    obtain ⟨σT, S, μ, a, b, c⟩ := h
    exact Post.done (a := t) c b Step.refl (r _ _)
theorem re_glo {x : PySem.Expr} {n : Nat} {t : T} {v : V} (h : PE X x (tC v)) (r : ∀ H μ, RV X.K H μ t v) : RE F W Φ X (.glo n t) x :=
  pe_imp h fun σ H Q h => by
    obtain ⟨σT, S, μ, a, b, c⟩ := h
    exact Post.done (a := t) c b Step.refl (r _ _)
theorem ra_nil : RAs F W Φ X [] [] := pa_imp pa_nil fun _ _ _ h => rdA_nil h
theorem ra_cons {e : E} {es : List E} {x : PySem.Expr} {xs : List PySem.Expr} (h : RE F W Φ X e x) (hs : RAs F W Φ X es xs) (st : starEach (x :: xs) X.env = (false, eval x X.env) :: starEach xs X.env) : RAs F W Φ X (e :: es) (x :: xs) :=
  pa_imp (pa_cons h hs st) fun _ _ _ h => rdA_cons h
theorem re_tup {es : List E} {xs : List PySem.Expr} {k : Nat} {pos : Pos} (h : RAs F W Φ X es xs) (hl : es.length ≤ 1000) : RE F W Φ X (.tup es) (.Tuple xs k pos) :=
  pe_imp (pe_tup h) fun σ H Q h => by
    obtain ⟨σT, S, μ, a, b, c⟩ := h
    have c' : Post F X.K W σ (RV X.K) H μ (seq (denEs Φ es σT) (fun ts => ret (T.tup ts)) S) Q := c
    cases q : denEs Φ es σT S with
    | none => rw [show seq (denEs Φ es σT) (fun ts => ret (T.tup ts)) S = none by unfold seq; rw [q]] at c'; exact c'.elim
    | some r =>
      obtain ⟨r1, S'⟩ := r
      cases r1 with
      | error x =>
        refine ⟨σT, S, μ, a, b, ?_⟩
        rw [show seq (denEs Φ es σT) (fun ts => ret (T.tup ts)) S = some (.error x, S') by unfold seq; rw [q]] at c'
        rw [q]
        exact c'
      | ok ts =>
        have hlen := denEs_len q
        rw [show seq (denEs Φ es σT) (fun ts => ret (T.tup ts)) S = some (.ok (T.tup ts), S') by unfold seq; rw [q]; rfl] at c'
        refine ⟨σT, S, μ, a, b, ?_⟩
        rw [q]
        intro H1 μ1 vs r1 s1 rv
        refine ⟨by rw [← rv.length, hlen, sizeLine_eq]; omega, fun p hp => ?_⟩
        have o : Out F X.K H1 μ1 (.tup ts) S' Q := fun H' μ' v r' s' rv' => c' H' μ' v r' (s1.trans s') rv'
        exact o.newTup r1 rv hp
theorem re_lst {es : List E} {xs : List PySem.Expr} {pos : Pos} (h : RAs F W Φ X es xs) (hl : es.length ≤ 1000) : RE F W Φ X (.lst es) (.List xs pos) :=
  pe_imp (pe_lst h) fun σ H Q h => by
    obtain ⟨σT, S, μ, a, b, c⟩ := h
    have c' : Post F X.K W σ (RV X.K) H μ (seq (denEs Φ es σT) (fun ts => new (.lst ts)) S) Q := c
    cases q : denEs Φ es σT S with
    | none => rw [show seq (denEs Φ es σT) (fun ts => new (.lst ts)) S = none by unfold seq; rw [q]] at c'; exact c'.elim
    | some r =>
      obtain ⟨r1, S'⟩ := r
      cases r1 with
      | error x =>
        refine ⟨σT, S, μ, a, b, ?_⟩
        rw [show seq (denEs Φ es σT) (fun ts => new (.lst ts)) S = some (.error x, S') by unfold seq; rw [q]] at c'
        rw [q]
        exact c'
      | ok ts =>
        have hlen := denEs_len q
        rw [show seq (denEs Φ es σT) (fun ts => new (.lst ts)) S = some (.ok (T.ref S'.length), S' ++ [.lst ts]) by unfold seq; rw [q]; rfl] at c'
        refine ⟨σT, S, μ, a, b, ?_⟩
        rw [q]
        intro H1 μ1 vs r1 s1 rv
        refine ⟨by rw [← rv.length, hlen, sizeLine_eq]; omega, fun p hp => ?_⟩
        have o : Out F X.K H1 μ1 (.ref S'.length) (S' ++ [.lst ts]) Q := fun H' μ' v r' s' rv' => c' H' μ' v r' (s1.trans s') rv'
        exact o.newList r1 rv hp
/-- a two-place operation -/
theorem re_op {p : Prim} {op : Operator} {e e' : E} {x x' : PySem.Expr} {pos : Pos} (ho : OpR X (binaryOp op) (rP2 F X.K (prim p))) (h : RE F W Φ X e x) (h' : RE F W Φ X e' x') : RE F W Φ X (.app p [e, e']) (.BinOp x op x' pos) :=
  pe_imp (pe_op ho h h') fun _ _ _ q => rdA_two (rd_app q)
theorem re_neg {e : E} {x : PySem.Expr} {pos : Pos} (h : RE F W Φ X e x) : RE F W Φ X (.app .neg [e]) (.UnaryOp .USub x pos) :=
  pe_imp (pe_un u_neg h) fun _ _ _ q => rdA_one (rd_app q)
theorem re_cmp {p : Prim} {op : CmpOp} {e e' : E} {x x' : PySem.Expr} {pos : Pos} (ho : OpR X (compareOp op) (rP2 F X.K (prim p))) (h : RE F W Φ X e x) (h' : RE F W Φ X e' x') (hm : behindInMarks op x' = false) :
    RE F W Φ X (.app p [e, e']) (.Compare x [op] [x'] pos) :=
  pe_imp (pe_cmpR ho h h' hm) fun _ _ _ q => rdA_two (rd_app q)
theorem rdT_of {e : E} {σ : L2.St} {H : Hp} {Q : Bool → Hp → Prop} (h : rdT F X.K W (denE Φ e) σ H Q) : rdE F X.K W (denE Φ e) σ H fun x H' => ∃ k, x = .bl k ∧ Q k H' := by
  obtain ⟨σT, S, μ, a, b, c⟩ := h
  refine ⟨σT, S, μ, a, b, (c.seq (R' := RV X.K)).imp fun x H1 ⟨t, S1, μ1, r1, s1, rv, c1⟩ => ?_⟩
  cases t with
  | bl k =>
    have := rv.bls
    subst this
    exact ⟨k, rfl, Post.done (a := k) c1 r1 Step.refl rfl⟩
  | _ => exact c1.elim
theorem rt_cmp {p : Prim} {op : CmpOp} {e e' : E} {x x' : PySem.Expr} {pos : Pos} (ho : OpR X (compareOp op) (rP2 F X.K (prim p))) (h : RE F W Φ X e x) (h' : RE F W Φ X e' x') (hm : behindInMarks op x' = false) :
    RT F W Φ X (.app p [e, e']) (.Compare x [op] [x'] pos) :=
  pt_imp (pt_cmpR ho h h' hm) fun _ _ _ q => rdA_two (rd_app (rdT_of q))
/-- a test that is a value -/
theorem rt_val {e : E} {x : PySem.Expr} (h : RE F W Φ X e x) (he : ∀ whole, isTrue x X.env whole = (do let v ← whole; standAt x.pos; holding [v] (truthy v))) : RT F W Φ X e x :=
  pt_imp (pt_val h he) fun _ _ _ q => rdT_of q
/-- is None, is not None -/
theorem re_isN {e : E} {x : PySem.Expr} {j : Nat} {pos pos' : Pos} (h : RE F W Φ X e x) : RE F W Φ X (.app .isNone [e]) (.Compare x [.Is] [.Constant .none j pos'] pos) ∧ RT F W Φ X (.app .isNone [e]) (.Compare x [.Is] [.Constant .none j pos'] pos) := by
  have key : ∀ {σ H Q}, rdE F X.K W (denE Φ (.app .isNone [e])) σ H Q → tIsN (rdE F X.K W (denE Φ e)) σ H Q := fun {σ H Q} q => by
    refine (rdA_one (rd_app q)).mono fun x H1 q1 => ?_
    obtain ⟨S, μ, a, t, S', r, ra, e1, o⟩ := q1.one
    obtain ⟨rfl, rfl⟩ := ret_ok (show ret (T.bl (decide (a = .non))) S = _ from e1)
    rw [← isNone_V ra] at o
    exact o.here r (.bl _)
  exact ⟨pe_imp (pe_cmp (pc_isN h) (nobehind _ (by decide) (by decide))) fun _ _ _ q => key q, pt_imp (pt_cmp (pc_isN h) (nobehind _ (by decide) (by decide))) fun _ _ _ q => key (rdT_of q)⟩
theorem re_notN {e : E} {x : PySem.Expr} {j : Nat} {pos pos' : Pos} (h : RE F W Φ X e x) : RE F W Φ X (.app .notNone [e]) (.Compare x [.IsNot] [.Constant .none j pos'] pos) ∧ RT F W Φ X (.app .notNone [e]) (.Compare x [.IsNot] [.Constant .none j pos'] pos) := by
  have key : ∀ {σ H Q}, rdE F X.K W (denE Φ (.app .notNone [e])) σ H Q → tNotN (rdE F X.K W (denE Φ e)) σ H Q := fun {σ H Q} q => by
    refine (rdA_one (rd_app q)).mono fun x H1 q1 => ?_
    obtain ⟨S, μ, a, t, S', r, ra, e1, o⟩ := q1.one
    obtain ⟨rfl, rfl⟩ := ret_ok (show ret (T.bl (!decide (a = .non))) S = _ from e1)
    rw [← isNone_V ra] at o
    exact o.here r (.bl _)
  exact ⟨pe_imp (pe_cmp (pc_notN h) (nobehind _ (by decide) (by decide))) fun _ _ _ q => key q, pt_imp (pt_cmp (pc_notN h) (nobehind _ (by decide) (by decide))) fun _ _ _ q => key (rdT_of q)⟩
end
end LS
end

section
set_option Elab.async false
set_option linter.all false
set_option maxRecDepth 100000
set_option maxHeartbeats 4000000
/-! LS.Sem2: and, or, not, if, chains, items, slices, calls. -/
namespace LS
open PySem PySem.Spec PyProof.Rows L2
section
variable {X : Cx} {F : Fx} {W : WX} {Φ : Fns}
/-- what comes behind a test -/
theorem rd_test {K : PySem.W.Frag} {β δ : Type} {e : E} {A B : M β} {R : Hp → List Addr → β → δ → Prop} {Q : δ → Hp → Prop} {σ : L2.St} {H : Hp} {μ : List Addr} {σT : Sl} {S : Sto} (a : RSt K H μ σT σ) (b : Rep F K H μ S)
    (c : Post F K W σ R H μ (seq (denE Φ e σT) (fun t => onB t A B) S) Q) :
    rdT F K W (denE Φ e) σ H fun k H1 => ∃ S1 μ1, RSt K H1 μ1 σT σ ∧ Rep F K H1 μ1 S1 ∧ Step H μ H1 μ1 ∧ Post F K W σ R H1 μ1 ((if k = true then A else B) S1) Q := by
  refine ⟨σT, S, μ, a, b, ?_⟩
  cases q : denE Φ e σT S with
  | none => rw [show seq (denE Φ e σT) (fun t => onB t A B) S = none by unfold seq; rw [q]] at c; exact c.elim
  | some r =>
    obtain ⟨r1, S'⟩ := r
    cases r1 with
    | error x =>
      rw [show seq (denE Φ e σT) (fun t => onB t A B) S = some (.error x, S') by unfold seq; rw [q]] at c
      rw [show seq (denE Φ e σT) asB S = some (.error x, S') by unfold seq; rw [q]]
      exact c
    | ok t =>
      rw [show seq (denE Φ e σT) (fun t => onB t A B) S = onB t A B S' by unfold seq; rw [q]] at c
      rw [show seq (denE Φ e σT) asB S = asB t S' by unfold seq; rw [q]]
      cases t with
      | bl k =>
        intro H1 μ1 k' r1 s1 ek
        have ek' : k = k' := ek
        subst ek'
        refine ⟨S', μ1, a.step b s1, r1, s1, ?_⟩
        cases k with
        | true => exact Post.from (show Post F K W σ R H μ (A S') Q from c) s1
        | false => exact Post.from (show Post F K W σ R H μ (B S') Q from c) s1
      | _ => exact c.elim
theorem rd_testV {K : PySem.W.Frag} {β δ : Type} {e : E} {A B : M β} {R : Hp → List Addr → β → δ → Prop} {Q : δ → Hp → Prop} {σ : L2.St} {H : Hp} {μ : List Addr} {σT : Sl} {S : Sto} (a : RSt K H μ σT σ) (b : Rep F K H μ S)
    (c : Post F K W σ R H μ (seq (denE Φ e σT) (fun t => onB t A B) S) Q) :
    rdE F K W (denE Φ e) σ H fun x H1 => ∃ k, x = .bl k ∧ ∃ S1 μ1, RSt K H1 μ1 σT σ ∧ Rep F K H1 μ1 S1 ∧ Step H μ H1 μ1 ∧ Post F K W σ R H1 μ1 ((if k = true then A else B) S1) Q := by
  refine ⟨σT, S, μ, a, b, (c.seq (R' := RV K)).imp fun x H1 ⟨t, S1, μ1, r1, s1, rv, c1⟩ => ?_⟩
  cases t with
  | bl k =>
    have := rv.bls
    subst this
    refine ⟨k, rfl, S1, μ1, a.step b s1, r1, s1, ?_⟩
    cases k with
    | true => exact c1
    | false => exact c1
  | _ => exact c1.elim
theorem re_and1 {e : E} {x : PySem.Expr} {op : BoolOp} {pos : Pos} (h : RE F W Φ X e x) : RE F W Φ X (.and [e]) (.BoolOp op [x] pos) := pe_imp (pe_one h) fun _ _ _ q => q
theorem re_or1 {e : E} {x : PySem.Expr} {op : BoolOp} {pos : Pos} (h : RE F W Φ X e x) : RE F W Φ X (.or [e]) (.BoolOp op [x] pos) := pe_imp (pe_one h) fun _ _ _ q => q
theorem re_and {e e' : E} {es : List E} {x x' : PySem.Expr} {xs : List PySem.Expr} {pos : Pos} (h : RE F W Φ X e x) (hs : RE F W Φ X (.and (e' :: es)) (.BoolOp .And (x' :: xs) pos)) : RE F W Φ X (.and (e :: e' :: es)) (.BoolOp .And (x :: x' :: xs) pos) :=
  pe_imp (pe_and h hs) fun σ H Q q => by
    obtain ⟨σT, S, μ, a, b, c⟩ := q
    refine (rd_testV a b (A := denE Φ (.and (e' :: es)) σT) (B := ret (.bl false)) c).mono fun x H1 ⟨k, ek, S1, μ1, a1, b1, s1, c1⟩ => ⟨k, ek, ?_⟩
    cases k with
    | true => exact ⟨σT, S1, μ1, a1, b1, c1⟩
    | false => exact Post.done (a := T.bl false) c1 b1 Step.refl (.bl _)
theorem re_or {e e' : E} {es : List E} {x x' : PySem.Expr} {xs : List PySem.Expr} {pos : Pos} (h : RE F W Φ X e x) (hs : RE F W Φ X (.or (e' :: es)) (.BoolOp .Or (x' :: xs) pos)) : RE F W Φ X (.or (e :: e' :: es)) (.BoolOp .Or (x :: x' :: xs) pos) :=
  pe_imp (pe_or h hs) fun σ H Q q => by
    obtain ⟨σT, S, μ, a, b, c⟩ := q
    refine (rd_testV a b (A := ret (.bl true)) (B := denE Φ (.or (e' :: es)) σT) c).mono fun x H1 ⟨k, ek, S1, μ1, a1, b1, s1, c1⟩ => ⟨k, ek, ?_⟩
    cases k with
    | true => exact Post.done (a := T.bl true) c1 b1 Step.refl (.bl _)
    | false => exact ⟨σT, S1, μ1, a1, b1, c1⟩
/-- a test's outcome behind one more step -/
theorem rt_push {S1 : Sto} {μ1 : List Addr} {H1 : Hp} {K : PySem.W.Frag} {σ : L2.St} {Q : Bool → Hp → Prop} {m : M T} {k : Bool} (e : m = ret (.bl k)) (b1 : Rep F K H1 μ1 S1)
    (c1 : Post F K W σ (fun _ _ (a b : Bool) => a = b) H1 μ1 (seq m asB S1) Q) : Q k H1 := by
  subst e
  exact Post.done (a := k) c1 b1 Step.refl rfl
theorem seq_assoc {α β γ : Type} (m : M α) (f : α → M β) (g : β → M γ) : seq (seq m f) g = seq m fun a => seq (f a) g := by
  funext S
  unfold seq
  cases q : m S with
  | none => rfl
  | some r =>
    obtain ⟨e, S'⟩ := r
    cases e with
    | error x => rfl
    | ok a => rfl
theorem onB_seq {α β : Type} (t : T) (A B : M α) (g : α → M β) : seq (onB t A B) g = onB t (seq A g) (seq B g) := by
  cases t with
  | bl k => cases k <;> rfl
  | _ => rfl
theorem rw_and1 {e : E} {x : PySem.Expr} {pos : Pos} (h : RT F W Φ X e x) : PW X (.BoolOp .And [x] pos) (rdT F X.K W (denE Φ (.and [e]))) := pw_imp (pw_and1 h) fun _ _ _ q => q
theorem rw_or1 {e : E} {x : PySem.Expr} {pos : Pos} (h : RT F W Φ X e x) : PW X (.BoolOp .Or [x] pos) (rdT F X.K W (denE Φ (.or [e]))) := pw_imp (pw_or1 h) fun _ _ _ q => q
theorem rw_and {e e' : E} {es : List E} {x x' : PySem.Expr} {xs : List PySem.Expr} {pos : Pos} (h : RT F W Φ X e x) (hs : PW X (.BoolOp .And (x' :: xs) pos) (rdT F X.K W (denE Φ (.and (e' :: es))))) : PW X (.BoolOp .And (x :: x' :: xs) pos) (rdT F X.K W (denE Φ (.and (e :: e' :: es)))) :=
  pw_imp (pw_and h hs) fun σ H Q q => by
    obtain ⟨σT, S, μ, a, b, c⟩ := q
    rw [show denE Φ (.and (e :: e' :: es)) σT = seq (denE Φ e σT) (fun t => onB t (denE Φ (.and (e' :: es)) σT) (ret (.bl false))) from rfl, seq_assoc] at c
    simp only [onB_seq] at c
    refine (rd_test a b c).mono fun k H1 ⟨S1, μ1, a1, b1, s1, c1⟩ => ?_
    cases k with
    | true => exact ⟨σT, S1, μ1, a1, b1, c1⟩
    | false => exact rt_push rfl b1 c1
theorem rw_or {e e' : E} {es : List E} {x x' : PySem.Expr} {xs : List PySem.Expr} {pos : Pos} (h : RT F W Φ X e x) (hs : PW X (.BoolOp .Or (x' :: xs) pos) (rdT F X.K W (denE Φ (.or (e' :: es))))) : PW X (.BoolOp .Or (x :: x' :: xs) pos) (rdT F X.K W (denE Φ (.or (e :: e' :: es)))) :=
  pw_imp (pw_or h hs) fun σ H Q q => by
    obtain ⟨σT, S, μ, a, b, c⟩ := q
    rw [show denE Φ (.or (e :: e' :: es)) σT = seq (denE Φ e σT) (fun t => onB t (ret (.bl true)) (denE Φ (.or (e' :: es)) σT)) from rfl, seq_assoc] at c
    simp only [onB_seq] at c
    refine (rd_test a b c).mono fun k H1 ⟨S1, μ1, a1, b1, s1, c1⟩ => ?_
    cases k with
    | true => exact rt_push rfl b1 c1
    | false => exact ⟨σT, S1, μ1, a1, b1, c1⟩
theorem re_not {e : E} {x : PySem.Expr} {pos : Pos} (h : RE F W Φ X e x) (ht : RT F W Φ X e x) : RE F W Φ X (.not e) (.UnaryOp .Not x pos) ∧ RT F W Φ X (.not e) (.UnaryOp .Not x pos) := by
  constructor
  · refine pe_imp (pe_not h) fun σ H Q q => ?_
    obtain ⟨σT, S, μ, a, b, c⟩ := q
    refine (rd_testV a b (A := ret (T.bl false)) (B := ret (T.bl true)) c).mono fun x H1 ⟨k, ek, S1, μ1, a1, b1, s1, c1⟩ => ⟨k, ek, ?_⟩
    cases k with
    | true => exact Post.done (a := T.bl false) c1 b1 Step.refl (.bl _)
    | false => exact Post.done (a := T.bl true) c1 b1 Step.refl (.bl _)
  · refine pt_imp (pt_not ht) fun σ H Q q => ?_
    obtain ⟨σT, S, μ, a, b, c⟩ := q
    rw [show denE Φ (.not e) σT = seq (denE Φ e σT) (fun t => onB t (ret (.bl false)) (ret (.bl true))) from rfl, seq_assoc] at c
    simp only [onB_seq] at c
    refine (rd_test a b c).mono fun k H1 ⟨S1, μ1, a1, b1, s1, c1⟩ => ?_
    cases k with
    | true => exact rt_push rfl b1 c1
    | false => exact rt_push rfl b1 c1
theorem re_ite {c e e' : E} {y x x' : PySem.Expr} {pos : Pos} (hc : RT F W Φ X c y) (h : RE F W Φ X e x) (h' : RE F W Φ X e' x') : RE F W Φ X (.ite c e e') (.IfExp y x x' pos) :=
  pe_imp (pe_ifExp hc h h') fun σ H Q q => by
    obtain ⟨σT, S, μ, a, b, c⟩ := q
    refine (rd_test a b (A := denE Φ e σT) (B := denE Φ e' σT) c).mono fun k H1 ⟨S1, μ1, a1, b1, s1, c1⟩ => ?_
    cases k with
    | true => exact ⟨σT, S1, μ1, a1, b1, c1⟩
    | false => exact ⟨σT, S1, μ1, a1, b1, c1⟩
/-- a op b op' c -/
theorem rd_chain {K : PySem.W.Frag} {p p' : Prim} {ea eb ec : E} {σ : L2.St} {H : Hp} {Q : VK} (h : rdE F K W (denE Φ (.chain ea [p, p'] [eb, ec])) σ H Q) :
    tChain (rP2 F K (prim p)) (rP2 F K (prim p')) (rdE F K W (denE Φ ea)) (rdE F K W (denE Φ eb)) (rdE F K W (denE Φ ec)) σ H Q := by
  obtain ⟨σT, S, μ, a, b, c⟩ := h
  have c0 : Post F K W σ (RV K) H μ (seq (denE Φ ea σT) (fun v => seq (denE Φ eb σT) fun w => seq (calmly (prim p [v, w])) fun r => onB r (seq (denE Φ ec σT) fun u => calmly (prim p' [w, u])) (ret (.bl false))) S) Q := c
  refine ⟨σT, S, μ, a, b, (rdE.then_ (R' := RV K) (f := fun σT v => seq (denE Φ eb σT) fun w => seq (calmly (prim p [v, w])) fun r => onB r (seq (denE Φ ec σT) fun u => calmly (prim p' [w, u])) (ret (.bl false))) a b c0).imp fun x H1 ⟨v, S1, μ1, a1, b1, rx, s1, c1⟩ => ?_⟩
  refine ⟨σT, S1, μ1, a1, b1, (rdE.then_ (R' := RV K) (f := fun σT w => seq (calmly (prim p [v, w])) fun r => onB r (seq (denE Φ ec σT) fun u => calmly (prim p' [w, u])) (ret (.bl false))) a1 b1 c1).imp fun y H2 ⟨w, S2, μ2, a2, b2, ry, s2, c2⟩ => ?_⟩
  have rx2 := rx.step b1 s2
  cases q : calmly (prim p [v, w]) S2 with
  | none => rw [show seq (calmly (prim p [v, w])) (fun r => onB r (seq (denE Φ ec σT) fun u => calmly (prim p' [w, u])) (ret (.bl false))) S2 = none by unfold seq; rw [q]] at c2; exact c2.elim
  | some r =>
    obtain ⟨t, S3, e1, e2⟩ := calmly_ok q
    subst e1
    rw [show seq (calmly (prim p [v, w])) (fun r => onB r (seq (denE Φ ec σT) fun u => calmly (prim p' [w, u])) (ret (.bl false))) S2 = onB t (seq (denE Φ ec σT) fun u => calmly (prim p' [w, u])) (ret (.bl false)) S3 by unfold seq; rw [q]] at c2
    refine ⟨S2, μ2, [v, w], t, S3, b2, .cons rx2 (.cons ry .nil), e2, fun H3 μ3 z r3 s3 rz => ?_⟩
    cases t with
    | bl k =>
      have := rz.bls
      subst this
      refine ⟨k, rfl, ?_⟩
      have c3 := c2.from s3
      cases k with
      | false => exact Post.done (a := T.bl false) c3 r3 Step.refl (.bl _)
      | true =>
        have a3 := a2.step b2 s3
        refine ⟨σT, S3, μ3, a3, r3, (rdE.then_ (R' := RV K) (f := fun σT u => calmly (prim p' [w, u])) a3 r3 c3).imp fun w' H4 ⟨u, S4, μ4, a4, b4, rw', s4, c4⟩ => ?_⟩
        exact rP_of ⟨[w, u], S4, μ4, b4, .cons ((ry.step b2 s3).step r3 s4) (.cons rw' .nil), c4⟩
    | _ => exact c2.elim
theorem re_chain {p p' : Prim} {op op' : CmpOp} {ea eb ec : E} {a b c : PySem.Expr} {pos : Pos} (ho : OpR X (compareOp op) (rP2 F X.K (prim p))) (ho' : OpR X (compareOp op') (rP2 F X.K (prim p'))) (ha : RE F W Φ X ea a) (hb : RE F W Φ X eb b) (hc : RE F W Φ X ec c)
    (hm : lastMarks [op, op'] [b, c] = false) : RE F W Φ X (.chain ea [p, p'] [eb, ec]) (.Compare a [op, op'] [b, c] pos) ∧ RT F W Φ X (.chain ea [p, p'] [eb, ec]) (.Compare a [op, op'] [b, c] pos) :=
  ⟨pe_imp (pe_chain ho ho' ha hb hc hm) fun _ _ _ q => rd_chain q, pt_imp (pt_chain ho ho' ha hb hc hm) fun _ _ _ q => rd_chain (rdT_of q)⟩
/-! ### items, slices -/
theorem re_ix (hu : X.A.units + 1 < cLine) {e e' : E} {x x' : PySem.Expr} {pos : Pos} (h : RE F W Φ X e x) (h' : RE F W Φ X e' x') (hs : PlainIx x') : RE F W Φ X (.app .get [e, e']) (.Subscript x x' pos) :=
  pe_imp (pe_ix (ix_get hu) h h' hs) fun _ _ _ q => rdA_two (rd_app q)
/-- whoever takes the bounds of a slice: they are whole numbers -/
theorem slc_int {a b : Bool} {t0 t : T} {bs : List T} {S S' : Sto} (e : pSlc a b (t0 :: bs) S = some (.ok t, S')) : ∃ n p, bounds n a b bs = some p := by
  cases t0 with
  | tup xs =>
    obtain ⟨h1, _⟩ := opt_ok (show opt ((bounds xs.length a b bs).map fun p => T.tup (cutL xs p.1 p.2)) S = _ from e)
    obtain ⟨p, h2, _⟩ := Option.map_eq_some_iff.mp h1
    exact ⟨_, p, h2⟩
  | str xs =>
    obtain ⟨_, e⟩ := when_ok (show when_ _ (opt ((bounds xs.length a b bs).map fun p => T.str (cutL xs p.1 p.2))) S = _ from e)
    obtain ⟨h1, _⟩ := opt_ok e
    obtain ⟨p, h2, _⟩ := Option.map_eq_some_iff.mp h1
    exact ⟨_, p, h2⟩
  | ref l =>
    obtain ⟨xs, S1, e1, e2⟩ := seq_ok (show seq (listAt l) (fun xs => seq (opt (bounds xs.length a b bs)) fun p => new (.lst (cutL xs p.1 p.2))) S = _ from e)
    obtain ⟨p, S2, e3, _⟩ := seq_ok e2
    exact ⟨_, p, (opt_ok e3).1⟩
  | _ => exact no_ok e
theorem re_sl00 {e : E} {x : PySem.Expr} {p2 pos : Pos} (h : RE F W Φ X e x) : RE F W Φ X (.app (.slc false false) [e]) (.Subscript x (.Slice none none none p2) pos) :=
  pe_imp (pe_slice (sl_any (a := false) (b := false)) h po_none po_none) fun σ H Q q => (rdA_one (rd_app q)).mono fun x H1 q1 => by
    obtain ⟨S, μ, a, t, S', r, ra, e1, o⟩ := q1.one
    exact ⟨S, μ, a, [], t, S', r, ra, rfl, e1, o⟩
theorem re_sl10 {e l : E} {x y : PySem.Expr} {p2 pos : Pos} (h : RE F W Φ X e x) (hl : RE F W Φ X l y) : RE F W Φ X (.app (.slc true false) [e, l]) (.Subscript x (.Slice (some y) none none p2) pos) :=
  pe_imp (pe_slice (sl_any (a := true) (b := false)) h (po_some hl) po_none) fun σ H Q q => (rdA_two (rd_app q)).mono fun x H1 q1 => q1.mono fun y H2 q2 => by
    obtain ⟨S, μ, a, b, t, S', r, ra, rb, e1, o⟩ := q2.two
    obtain ⟨n, p, e2⟩ := slc_int e1
    cases b with
    | int i => have := rb.ints; subst this; exact ⟨i, rfl, S, μ, a, [.int i], t, S', r, ra, rfl, e1, o⟩
    | _ => simp [bounds] at e2
theorem re_sl01 {e l : E} {x y : PySem.Expr} {p2 pos : Pos} (h : RE F W Φ X e x) (hl : RE F W Φ X l y) : RE F W Φ X (.app (.slc false true) [e, l]) (.Subscript x (.Slice none (some y) none p2) pos) :=
  pe_imp (pe_slice (sl_any (a := false) (b := true)) h po_none (po_some hl)) fun σ H Q q => (rdA_two (rd_app q)).mono fun x H1 q1 => q1.mono fun y H2 q2 => by
    obtain ⟨S, μ, a, b, t, S', r, ra, rb, e1, o⟩ := q2.two
    obtain ⟨n, p, e2⟩ := slc_int e1
    cases b with
    | int i => have := rb.ints; subst this; exact ⟨i, rfl, S, μ, a, [.int i], t, S', r, ra, rfl, e1, o⟩
    | _ => simp [bounds] at e2
theorem rd_num {e : E} {σ : L2.St} {H : Hp} {Q : VK} (h : rdE F X.K W (denE Φ (.num e)) σ H Q) : rdE F X.K W (denE Φ e) σ H fun y H1 => ∃ i, y = .int i ∧ Q (.int i) H1 := by
  obtain ⟨σT, S, μ, a, b, c⟩ := h
  refine ⟨σT, S, μ, a, b, (c.seq (R' := RV X.K)).imp fun x H1 ⟨t, S1, μ1, r1, s1, rv, c1⟩ => ?_⟩
  cases t with
  | int i =>
    have := rv.ints
    subst this
    exact ⟨i, rfl, Post.done (a := T.int i) c1 r1 Step.refl (.int _)⟩
  | _ => exact c1.elim
theorem re_sl11 {e l u : E} {x y z : PySem.Expr} {p2 pos : Pos} (h : RE F W Φ X e x) (hl : RE F W Φ X l y) (hu : RE F W Φ X u z) : RE F W Φ X (.app (.slc true true) [e, .num l, u]) (.Subscript x (.Slice (some y) (some z) none p2) pos) :=
  pe_imp (pe_slice (sl_any (a := true) (b := true)) h (po_some hl) (po_some hu)) fun σ H Q q => (rdA_three (rd_app q)).mono fun x H1 q1 => (rd_num q1).mono fun y H2 ⟨i, ey, q2⟩ => by
    subst ey
    refine ⟨i, rfl, q2.mono fun z H3 q3 => ?_⟩
    obtain ⟨S, μ, a, b, c, t, S', r, ra, rb, rc, e1, o⟩ := q3.three
    obtain ⟨n, p, e2⟩ := slc_int e1
    cases b with
    | int i' =>
      cases c with
      | int j =>
        have := rb.ints
        cases this
        have := rc.ints
        subst this
        exact ⟨j, rfl, S, μ, a, [.int i, .int j], t, S', r, ra, rfl, e1, o⟩
      | _ => simp [bounds] at e2
    | _ => simp [bounds] at e2
end
end LS
end

section
set_option Elab.async false
set_option linter.all false
set_option maxRecDepth 100000
set_option maxHeartbeats 4000000
/-! LS.Iter: what is walked. -/
namespace LS
open PySem PySem.Spec PyProof.Rows L2
/-! ### enumerate of a tuple -/
def IteT (K : PySem.W.Frag) (a : Addr) : It :=
  ⟨fun i H => ∃ (xs : List V) (x : V), SqT K H a xs ∧ xs[i]? = some x, fun i H v H' => ∃ p x, v = .ref p ∧ H p = none ∧ H' = upd H p (.tup [.int (i : Nat), x]) ∧ ∀ xs, SqT K H a xs → xs[i]? = some x, fun i H => ∃ xs : List V, SqT K H a xs ∧ xs.length = i⟩
theorem tupIter_apart {h : Heap} {it a : Addr} {i : Nat} {its : Array Value} (h1 : h.IsTupleIter it a i) (h2 : h.IsTuple a its) : a ≠ it := fun e => by
  subst e
  obtain ⟨o, e1, c1, _⟩ := h1
  obtain ⟨o', e2, c2, _⟩ := h2
  rw [e1] at e2
  cases e2
  rw [c1] at c2
  exact absurd c2 (by decide)
theorem enum_apart {h : Heap} {e it a : Addr} {i : Int} {old : Value} {its : Array Value} (h1 : IsEnum h e it i old) (h2 : h.IsTuple a its) : e ≠ a := fun z => by
  subst z
  obtain ⟨o', e2, c2, _⟩ := h2
  rw [show h.get? e = _ from h1] at e2
  cases e2
  exact absurd (show Value.type "enumerate" = Value.type "tuple" from c2) (by decide)
theorem turn_enumT {P : Program} {w : World} {K : PySem.W.Frag} {elts : List PySem.Expr} {kk : Nat} {tpos : Pos} (a e it : Addr) :
    Turn P w K (.Tuple elts kk tpos) (IteT K a) [e, it] e (fun i h => (∃ old, IsEnum h e it ((i : Nat) : Int) old) ∧ h.IsTupleIter it a i ∧ e ≠ it) where
  mem := List.mem_cons_self
  obj := fun i h st b hb => by
    obtain ⟨⟨old, he⟩, ⟨o, ho, hc, hd⟩, _⟩ := st
    rcases List.mem_cons.mp hb with z | z
    · subst z; exact ⟨_, he, fun v q => nomatch q⟩
    · rw [List.mem_singleton.mp z]; exact ⟨o, ho, fun v q => by rw [hd] at q; cases q⟩
  keep := fun i h h' st k => let ⟨⟨old, he⟩, hi, hne⟩ := st; ⟨⟨old, k e (by simp) _ he⟩, hi.at fun o q => k it (by simp) o q, hne⟩
  item := by
    intro X hP hw hK hc i pins s σ H E I hf st hg
    subst hP hw hK
    obtain ⟨⟨old, he⟩, hit, hne⟩ := st
    obtain ⟨xs, x, hq, hx⟩ := hg
    obtain ⟨its, rv, pt, hz⟩ := I.tuple hq
    obtain ⟨u, hu, ru⟩ := rv.get hx
    have pt' : s.heap.IsTuple a its.toArray := pt
    have hel : e < s.heap.objs.size := Heap.lt_size he
    have hil : it < s.heap.objs.size := by obtain ⟨_, q, _⟩ := hit; exact Heap.lt_size q
    have hi : i < its.toArray.size := by
      rw [List.size_toArray]
      exact (List.getElem?_eq_some_iff.mp hu).1
    have hef : e ∉ [it, a] := fun z => by
      rcases List.mem_cons.mp z with q | q
      · exact hne q
      · exact enum_apart he pt' (List.mem_singleton.mp q)
    refine wpAny_pyNext_enum_itemD (Draws.tuple (A := X.A.in1) (show X.A.handled = none from I.ok.hd hc) it a (tupIter_apart hit pt') its.toArray) he ⟨hit, pt'⟩ hi hne hef fun z h' tk hP ho hst' hT hsz hk => ?_
    have hzu : z = u := by
      have q1 : its.toArray[i]? = some z := hP
      rw [show its.toArray[i]? = its[i]? by simp, hu] at q1
      exact (Option.some.inj q1).symm
    subst hzu
    refine ⟨_, rfl, wpAny_letOwnedTupleGo_enum (s := { s with heap := h', toks := tk + 1 }) ho fun h'' he' sb => ?_⟩
    have hT2 : h''.get? s.heap.objs.size = some { cls := .type "tuple", data := .seq #[.int i tk, z] } := (sb.2 _ (Nat.ne_of_gt hel)).trans hT
    have new : ObjOk X.prog X.w (upd H s.heap.objs.size (.tup [.int (i : Nat), x])) h'' s.heap.objs.size (.tup [.int (i : Nat), x]) :=
      ⟨by show 2 ≤ sizeLine; decide, [.int i tk, z], .cons ⟨_, rfl⟩ (.cons ru .nil), ⟨_, hT2, rfl, _, rfl⟩⟩
    have I1 : Inv X pins σ (upd H s.heap.objs.size (.tup [.int (i : Nat), x])) { s with heap := h'', toks := tk + 1 } :=
      I.turnedNew (ch := [e, it]) (fun b ob hb q => (sb.2 b (fun y => hb (by simp [y]))).trans (hk b ob (fun y => hb (by simp [y])) (fun y => hb (by simp [y])) q)) hf (Nat.le_refl _) new
    refine ⟨.ref s.heap.objs.size, _, I1, rfl, ⟨_, x, rfl, I.hok.fresh (Nat.le_refl _), rfl, fun ys hy => by rw [I.tuple_inj hy hq]; exact hx⟩, ⟨⟨z, ?_⟩, hst'.1.at fun o q => (sb.2 it (Ne.symm hne)).trans q, hne⟩, fun b hb => ?_⟩
    · have e1 : ((i + 1 : Nat) : Int) = (i : Int) + 1 := by omega
      rw [e1]; exact he'
    · have hb' : b < s.heap.objs.size := by
        rcases List.mem_cons.mp hb with y | y
        · rw [y]; exact hel
        · rw [List.mem_singleton.mp y]; exact hil
      rw [upd_ne (Nat.ne_of_lt hb')]
      exact (hf b hb).1
  done := by
    intro X hP hw hK hc i pins s σ H E I hf st hg
    subst hP hw hK
    obtain ⟨⟨old, he⟩, hit, hne⟩ := st
    obtain ⟨xs, hq, hx⟩ := hg
    obtain ⟨its, rv, pt, hz⟩ := I.tuple hq
    have pt' : s.heap.IsTuple a its.toArray := pt
    obtain ⟨f0, f1, f2, f3, f4, f5⟩ := hf it (by simp)
    have hl := rv.length
    have e0 : its.toArray.size = i := by rw [List.size_toArray]; omega
    refine wpAny_pyNext_enum_endD (Draws.tuple (A := X.A.in1) (show X.A.handled = none from I.ok.hd hc) it a (tupIter_apart hit pt') its.toArray) he ⟨by rw [e0]; exact hit, pt'⟩ fun h' eb => ⟨rfl, I.turned (t' := s.toks) (fun b o hb q => eb b o hb q) f0 f1 f3 f4 f5⟩
  self := fun A i s Q E st h => let ⟨⟨_, he⟩, _⟩ := st; wpAny_pyIter_enum he h

set_option maxHeartbeats 8000000 in
theorem meets_enumB {v : Value} {o : Obj} {Hh : Heap → Prop} (B : Begins v o Hh) :
    Meets (Builtin.«enumerate.__new__» ⟨[.type "enumerate", v], []⟩) (fun _ R s => Hh s.heap ∧
      R (.ok (.ret (.ref (s.heap.push o).objs.size))) { s with heap := (s.heap.push o).push { cls := .type "enumerate", data := .fields #[.none, .bool false, .ref s.heap.objs.size, rawInt 0, .none, .none] } }) :=
  .of_wp fun prog w A R s h => by
    obtain ⟨hp, g, d, tk, os⟩ := s; obtain ⟨h1, h⟩ := h
    have hsub := sub_enumerate
    have again : ∀ {A' : Around} {E : Value → Shared → Prop} {Q : Value → Shared → Prop}, Q (.ref hp.objs.size) ⟨hp.push o, g, d, tk, os⟩ → wpAny (model prog w) A' (pyIter v) Q E ⟨hp, g, d, tk, os⟩ :=
      fun q => B.iter prog w _ _ ⟨hp, g, d, tk, os⟩ _ h1 q
    wp_walk using again
    refine wpAny_stack_any fun st => wpAny_pure ?_
    split
    · rename_i c _ _ _ _ _
      cases (c == Value.type "enumerate") <;> (wp_walk using again; exact ⟨_, rfl, h⟩)
    · wp_walk using again
      exact ⟨_, rfl, h⟩
theorem enum_begin1 {prog : Program} {w : World} {A : Around} {E : Value → Shared → Prop} {s : Shared} {v : Value} {o : Obj} {Hh : Heap → Prop} {Q : Value → Shared → Prop} (B : Begins v o Hh) (h1 : Hh s.heap)
    (h : ∀ h', IsEnum h' (s.heap.objs.size + 1) s.heap.objs.size 0 .none → h'.get? s.heap.objs.size = some o → (∀ b o, s.heap.get? b = some o → h'.get? b = some o) → Q (.ref (s.heap.objs.size + 1)) { s with heap := h' }) :
    wpAny (model prog w) A (call (.type "enumerate") [v]) Q E s := by
  refine callType_new F.called_enumerate (by decide) (F.typeCall_enumerate_1 _) (F.newCall_enumerate_1 _) (fun obj => F.args_object_init_2 obj _) F.entry_enumerate_new (meets_enumB B) ⟨h1, ?_⟩
  have hz : (s.heap.push o).objs.size = s.heap.objs.size + 1 := Heap.size_push ..
  have he := Heap.get?_push_size (s.heap.push o) (o := { cls := .type "enumerate", data := .fields #[.none, .bool false, .ref s.heap.objs.size, rawInt 0, .none, .none] }) rfl
  rw [hz] at he
  show _ ∧ _
  rw [hz]
  exact ⟨⟨_, he, rfl⟩, h _ he (Heap.get?_push_of_some _ (Heap.get?_push_size _ B.free)) fun b o' x => Heap.get?_push_of_some _ (Heap.get?_push_of_some _ x)⟩
/-! ### enumerate of a list or a tuple; a list, a tuple, a text -/
def iEnumA (K : PySem.W.Frag) (te : TE) : TI := fun σ H R => te σ H fun x H1 => ∃ a, x = .ref a ∧ ((∃ xs, SqL K H1 a xs ∧ R (Ite K a) H1) ∨ ∃ xs, SqT K H1 a xs ∧ R (IteT K a) H1)
def iAny (K : PySem.W.Frag) (te : TE) : TI := fun σ H R => te σ H fun x H1 => (∃ a, x = .ref a ∧ (∃ xs, SqL K H1 a xs) ∧ R (Itl K a) H1) ∨ (∃ a, x = .ref a ∧ (∃ xs, SqT K H1 a xs) ∧ R (Itt K a) H1) ∨ ∃ z, x = .str z ∧ R (L2.Its z) H1
section
variable {X : Cx} {tg : PySem.Expr}
theorem pi_any {e : PySem.Expr} {te : TE} (he : PE X e te) : PI X tg e (iAny X.K te) := by
  refine ⟨fun pins s σ H R I h => thn (he.run pins s σ H _ I h) fun v s1 ⟨x, H1, I1, r1, q1⟩ => ?_⟩
  rcases q1 with ⟨a, rfl, ⟨xs, hq⟩, q⟩ | ⟨a, rfl, ⟨xs, hq⟩, q⟩ | ⟨z, rfl, q⟩
  · cases r1
    obtain ⟨its, rv, pl, hz⟩ := I1.list hq
    exact wpAny_pyIter_list pl.isList (pi_one (tk := s1.toks) I1 _ (turn_list a _) ⟨_, Heap.get?_push_size _ rfl, rfl, rfl⟩ q)
  · cases r1
    obtain ⟨its, rv, pl, hz⟩ := I1.tuple hq
    exact wpAny_pyIter_tuple (show s1.heap.IsTuple a its.toArray from pl) (pi_one (tk := s1.toks) I1 _ (turn_tuple a _) ⟨_, Heap.get?_push_size _ rfl, rfl, rfl⟩ q)
  · obtain ⟨t, rfl⟩ := r1
    cases ha : z.cps.all (· < 128)
    · exact wpAny_pyIter_wide ha (pi_one (tk := s1.toks) I1 _ (turn_str _ z t "str_iterator" (.inr rfl)) ⟨_, Heap.get?_push_size _ rfl, rfl, rfl⟩ q)
    · exact wpAny_pyIter_ascii ha (pi_one (tk := s1.toks) I1 _ (turn_str _ z t "str_ascii_iterator" (.inl rfl)) ⟨_, Heap.get?_push_size _ rfl, rfl, rfl⟩ q)
theorem pi_enumA {e : PySem.Expr} {te : TE} {p pos tpos : Pos} {elts : List PySem.Expr} {kk : Nat} (hg : Gl X "enumerate") (hm : X.mg "enumerate" = none) (he : PE X e te) (hs : starEach [e] X.env = (false, eval e X.env) :: starEach [] X.env) :
    PI X (.Tuple elts kk tpos) (.Call (.Name "enumerate" p) [e] [] pos) (iEnumA X.K te) := by
  refine ⟨fun pins s σ H R I h => ?_⟩
  refine Call_ (ld_blt I hg hm boot_enumerate (PyProof.Rows.callWith_type1 (one_arg he I h (fun v s1 x H1 I1 r1 q1 => ?_) hs) hs rfl))
  obtain ⟨a, rfl, q1⟩ := q1
  cases r1
  have two : ∀ {h' : Heap} (kk : ∀ b o, s1.heap.get? b = some o → h'.get? b = some o), ∀ b ∈ [s1.heap.objs.size + 1, s1.heap.objs.size], FpOk X pins H1 b := fun {h'} kk b hb => by
    have hle : s1.heap.objs.size ≤ b := by
      rcases List.mem_cons.mp hb with z | z
      · rw [z]; exact Nat.le_add_right _ _
      · rw [List.mem_singleton.mp z]; exact Nat.le_refl _
    exact I1.fpOk hle (I1.hok.fresh hle)
  rcases q1 with ⟨xs, hq, q⟩ | ⟨xs, hq, q⟩
  · obtain ⟨its, rv, pl, hz⟩ := I1.list hq
    refine enum_begin1 (begins_list a its.toArray) pl.isList fun h' h1 h2 kk => wpAny_pyIter_enum h1 ?_
    exact ⟨s1.heap.objs.size + 1, [s1.heap.objs.size + 1, s1.heap.objs.size], _, _, H1, rfl, I1.kept (t' := s1.toks) kk, turn_enum a (s1.heap.objs.size + 1) s1.heap.objs.size, ⟨⟨.none, h1⟩, ⟨_, h2, rfl, rfl⟩, Nat.succ_ne_self _⟩, two kk, q⟩
  · obtain ⟨its, rv, pl, hz⟩ := I1.tuple hq
    refine enum_begin1 (begins_tuple a its.toArray) (show s1.heap.IsTuple a its.toArray from pl) fun h' h1 h2 kk => wpAny_pyIter_enum h1 ?_
    exact ⟨s1.heap.objs.size + 1, [s1.heap.objs.size + 1, s1.heap.objs.size], _, _, H1, rfl, I1.kept (t' := s1.toks) kk, turn_enumT a (s1.heap.objs.size + 1) s1.heap.objs.size, ⟨⟨.none, h1⟩, ⟨_, h2, rfl, rfl⟩, Nat.succ_ne_self _⟩, two kk, q⟩
end
end LS
end

section
set_option Elab.async false
set_option linter.all false
set_option maxRecDepth 100000
set_option maxHeartbeats 4000000
/-! LS.Iter2: iterators, by what the store's language walks. -/
namespace LS
open PySem PySem.Spec PyProof.Rows L2
/-- J gives the items, as long as the cells stay as they are -/
def WkOK (F : Fx) (K : PySem.W.Frag) (J : It) (its : LS.Its) (H1 : Hp) (μ1 : List Addr) : Prop := its.lock = none ∧ ∀ H μ S, Step H1 μ1 H μ → Rep F K H μ S → (its.chk.all fun p => decide (S[p.1]? = some p.2)) = true →
  (∀ i, i < its.xs.length → J.go i H) ∧ J.stop its.xs.length H ∧ ∀ i t x H', its.xs[i]? = some t → J.yld i H x H' → Rep F K H' μ S ∧ Step H μ H' μ ∧ RV K H' μ t x
def rdI (F : Fx) (K : PySem.W.Frag) (W : WX) (m : Sl → M LS.Its) : TI := fun σ H R => ∃ σT S μ, RSt K H μ σT σ ∧ Rep F K H μ S ∧ Post F K W σ (fun H μ its J => WkOK F K J its H μ) H μ (m σT S) R
theorem pi_imp {X : Cx} {tg e : PySem.Expr} {w w' : TI} (h : PI X tg e w) (i : ∀ σ H R, w' σ H R → w σ H R) : PI X tg e w' := ⟨fun pins s σ H R I q => h.run pins s σ H R I (i σ H R q)⟩
section
variable {F : Fx} {K : PySem.W.Frag} {H1 : Hp} {μ1 : List Addr} {S1 : Sto}
theorem wk_list (r1 : Rep F K H1 μ1 S1) {l : Nat} {a : Addr} {xs : List T} {c : Cell} (hc : c = .lst xs ∨ c = .fro xs) (h : S1[l]? = some c) (e : μ1[l]? = some a) : WkOK F K (Itl K a) ⟨xs, [(l, c)], none⟩ H1 μ1 := by
  refine ⟨rfl, fun H μ S st r ck => ?_⟩
  have ck' : S[l]? = some c := by simpa using ck
  obtain ⟨vs, q, rv⟩ := r.list (l := l) (xs := xs) (by rcases hc with z | z <;> subst z <;> simp [ck']) (st.get e)
  refine ⟨fun i hi => ?_, ⟨vs, q, by show vs.length ≤ xs.length; rw [rv.length] <;> exact Nat.le_refl _⟩, fun i t x H' ht y => ?_⟩
  · have hi' : i < vs.length := by rw [← rv.length]; exact hi
    exact ⟨vs, vs[i], q, by simp [hi']⟩
  · obtain ⟨e1, y⟩ := y
    subst e1
    obtain ⟨v, h3, h4⟩ := rv.get (i := i) (t := t) ht
    have := (y vs q).symm.trans h3
    cases this
    exact ⟨r, Step.refl, h4⟩
theorem wk_tup (r1 : Rep F K H1 μ1 S1) {a : Addr} {xs : List T} {vs : List V} (q1 : SqT K H1 a vs) (rv1 : RVs K H1 μ1 xs vs) : WkOK F K (Itt K a) ⟨xs, [], none⟩ H1 μ1 := by
  refine ⟨rfl, fun H μ S st r ck => ?_⟩
  have q := sqT_step q1 (fun _ _ z => r1.notup z) st
  have rv := rv1.step r1 st
  refine ⟨fun i hi => ?_, ⟨vs, q, by show vs.length ≤ xs.length; rw [rv.length] <;> exact Nat.le_refl _⟩, fun i t x H' ht y => ?_⟩
  · have hi' : i < vs.length := by rw [← rv.length]; exact hi
    exact ⟨vs, vs[i], q, by simp [hi']⟩
  · obtain ⟨e1, y⟩ := y
    subst e1
    obtain ⟨v, h3, h4⟩ := rv.get (i := i) (t := t) ht
    have := (y vs q).symm.trans h3
    cases this
    exact ⟨r, Step.refl, h4⟩
theorem wk_str (z : List Nat) : WkOK F K (L2.Its ⟨z.toArray⟩) ⟨z.map fun c => .str [c], [], none⟩ H1 μ1 := by
  refine ⟨rfl, fun H μ S st r ck => ⟨fun i hi => ?_, ?_, fun i t x H' ht y => ?_⟩⟩
  · show i < z.toArray.size
    simpa using hi
  · show z.toArray.size ≤ _
    simp
  · obtain ⟨e1, c, h1, rfl⟩ := y
    subst e1
    refine ⟨r, Step.refl, ?_⟩
    simp at ht h1
    obtain ⟨c', h2, rfl⟩ := ht
    rw [h1] at h2
    cases h2
    exact .ofStr [c]
theorem wk_range (lo : Int) (n : Nat) {xs : List T} (hx : xs = (List.range n).map fun (i : Nat) => .int (lo + (i : Int))) : WkOK F K (Itr lo n) ⟨xs, [], none⟩ H1 μ1 := by
  subst hx
  refine ⟨rfl, fun H μ S st r ck => ⟨fun i hi => ?_, ?_, fun i t x H' ht y => ?_⟩⟩
  · show i < n
    simpa using hi
  · show n ≤ _
    simp
  · obtain ⟨e1, rfl⟩ := y
    subst e1
    refine ⟨r, Step.refl, ?_⟩
    rw [List.getElem?_map] at ht
    obtain ⟨j, h1, rfl⟩ := Option.map_eq_some_iff.mp ht
    have h2 := List.getElem?_eq_some_iff.mp h1
    have h3 : i = j := by simpa using h2.2
    subst h3
    exact .int _
theorem wk_rangeD (lo : Int) (n : Nat) {xs : List T} (hx : xs = (List.range n).map fun (i : Nat) => .int (lo - (i : Int))) : WkOK F K (Itc lo (-1) n) ⟨xs, [], none⟩ H1 μ1 := by
  subst hx
  refine ⟨rfl, fun H μ S st r ck => ⟨fun i hi => ?_, ?_, fun i t x H' ht y => ?_⟩⟩
  · show i < n
    simpa using hi
  · show n ≤ _
    simp
  · obtain ⟨e1, rfl⟩ := y
    subst e1
    refine ⟨r, Step.refl, ?_⟩
    rw [List.getElem?_map] at ht
    obtain ⟨j, h1, rfl⟩ := Option.map_eq_some_iff.mp ht
    have h2 := List.getElem?_eq_some_iff.mp h1
    have h3 : i = j := by simpa using h2.2
    subst h3
    have : lo - (i : Int) = lo + (i : Nat) * (-1) := by omega
    rw [this]
    exact .int _
theorem enumT_get : ∀ {xs : List T} {k i : Nat} {t : T}, (enumT k xs)[i]? = some t → ∃ x, xs[i]? = some x ∧ t = .tup [.int ((k + i : Nat) : Int), x]
  | [], _, _, _, h => by simp [enumT] at h
  | x :: xs, k, 0, t, h => by simp [enumT] at h; exact ⟨x, rfl, by rw [← h]; simp⟩
  | x :: xs, k, i + 1, t, h => by
    simp only [enumT, List.getElem?_cons_succ] at h
    obtain ⟨y, h1, h2⟩ := enumT_get h
    exact ⟨y, by simpa using h1, by rw [h2]; congr 4; omega⟩
theorem enumT_len : ∀ (k : Nat) (xs : List T), (enumT k xs).length = xs.length
  | _, [] => rfl
  | k, x :: xs => by simp [enumT, enumT_len (k + 1) xs]
theorem zipT_get : ∀ {xs ys : List T} {i : Nat} {t : T}, (zipT xs ys)[i]? = some t → ∃ x y, xs[i]? = some x ∧ ys[i]? = some y ∧ t = .tup [x, y]
  | [], _, _, _, h => by simp [zipT] at h
  | _ :: _, [], _, _, h => by simp [zipT] at h
  | x :: xs, y :: ys, 0, t, h => by simp [zipT] at h; exact ⟨x, y, rfl, rfl, h.symm⟩
  | x :: xs, y :: ys, i + 1, t, h => by
    simp only [zipT, List.getElem?_cons_succ] at h
    obtain ⟨a, b, h1, h2, h3⟩ := zipT_get h
    exact ⟨a, b, by simpa using h1, by simpa using h2, h3⟩
theorem zipT_len : ∀ (xs ys : List T), (zipT xs ys).length = min xs.length ys.length
  | [], _ => by simp [zipT]
  | _ :: _, [] => by simp [zipT]
  | x :: xs, y :: ys => by simp only [zipT, List.length_cons, zipT_len xs ys]; omega
/-- a new pair, given out -/
theorem Rep.pair {H : Hp} {μ : List Addr} {S : Sto} (r : Rep F K H μ S) {p : Addr} {x y : V} {a b : T} (hp : H p = none) (rx : RV K H μ a x) (ry : RV K H μ b y) :
    Rep F K (upd H p (.tup [x, y])) μ S ∧ Step H μ (upd H p (.tup [x, y])) μ ∧ RV K (upd H p (.tup [x, y])) μ (.tup [a, b]) (.ref p) := by
  have q := r.beside (o := .tup [x, y]) hp
  exact ⟨q.1, q.2, .tup (SqT.of upd_same) (.cons (rx.step r q.2) (.cons (ry.step r q.2) .nil))⟩
theorem wk_enumL (r1 : Rep F K H1 μ1 S1) {l : Nat} {a : Addr} {xs : List T} {c : Cell} (hc : c = .lst xs ∨ c = .fro xs) (h : S1[l]? = some c) (e : μ1[l]? = some a) : WkOK F K (Ite K a) ⟨enumT 0 xs, [(l, c)], none⟩ H1 μ1 := by
  refine ⟨rfl, fun H μ S st r ck => ?_⟩
  have ck' : S[l]? = some c := by simpa using ck
  obtain ⟨vs, q, rv⟩ := r.list (l := l) (xs := xs) (by rcases hc with z | z <;> subst z <;> simp [ck']) (st.get e)
  have hl : (enumT 0 xs).length = vs.length := by rw [enumT_len, rv.length]
  refine ⟨fun i hi => ?_, ⟨vs, q, by show vs.length ≤ (enumT 0 xs).length; rw [hl] <;> exact Nat.le_refl _⟩, fun i t x H' ht y => ?_⟩
  · have hi' : i < vs.length := by rw [← hl]; exact hi
    exact ⟨vs, vs[i], q, by simp [hi']⟩
  · obtain ⟨p, v, rfl, hp, rfl, y⟩ := y
    obtain ⟨u, h2, rfl⟩ := enumT_get ht
    obtain ⟨v', h3, h4⟩ := rv.get h2
    have := (y vs q).symm.trans h3
    cases this
    have z := r.pair hp (.int ((0 + i : Nat) : Int)) h4
    rw [show (((0 + i : Nat) : Int)) = ((i : Nat) : Int) by simp] at z ⊢
    exact z
theorem wk_enumT (r1 : Rep F K H1 μ1 S1) {a : Addr} {xs : List T} {vs : List V} (q1 : SqT K H1 a vs) (rv1 : RVs K H1 μ1 xs vs) : WkOK F K (IteT K a) ⟨enumT 0 xs, [], none⟩ H1 μ1 := by
  refine ⟨rfl, fun H μ S st r ck => ?_⟩
  have q := sqT_step q1 (fun _ _ z => r1.notup z) st
  have rv := rv1.step r1 st
  have hl : (enumT 0 xs).length = vs.length := by rw [enumT_len, rv.length]
  refine ⟨fun i hi => ?_, ⟨vs, q, hl.symm⟩, fun i t x H' ht y => ?_⟩
  · have hi' : i < vs.length := by rw [← hl]; exact hi
    exact ⟨vs, vs[i], q, by simp [hi']⟩
  · obtain ⟨p, v, rfl, hp, rfl, y⟩ := y
    obtain ⟨u, h2, rfl⟩ := enumT_get ht
    obtain ⟨v', h3, h4⟩ := rv.get h2
    have := (y vs q).symm.trans h3
    cases this
    have z := r.pair hp (.int ((0 + i : Nat) : Int)) h4
    rw [show (((0 + i : Nat) : Int)) = ((i : Nat) : Int) by simp] at z ⊢
    exact z
theorem wk_zipL (r1 : Rep F K H1 μ1 S1) {l l' : Nat} {a a' : Addr} {xs ys : List T} {c c' : Cell} (hc : c = .lst xs ∨ c = .fro xs) (hc' : c' = .lst ys ∨ c' = .fro ys) (e : μ1[l]? = some a) (e' : μ1[l']? = some a') :
    WkOK F K (Itz K a a') ⟨zipT xs ys, [(l, c), (l', c')], none⟩ H1 μ1 := by
  refine ⟨rfl, fun H μ S st r ck => ?_⟩
  have ck' : S[l]? = some c ∧ S[l']? = some c' := by simpa using ck
  obtain ⟨vs, q, rv⟩ := r.list (l := l) (xs := xs) (by rcases hc with z | z <;> subst z <;> simp [ck'.1]) (st.get e)
  obtain ⟨ws, q', rw'⟩ := r.list (l := l') (xs := ys) (by rcases hc' with z | z <;> subst z <;> simp [ck'.2]) (st.get e')
  have hl : (zipT xs ys).length = min vs.length ws.length := by rw [zipT_len, rv.length, rw'.length]
  refine ⟨fun i hi => ?_, ⟨vs, ws, q, q', by show vs.length ≤ (zipT xs ys).length ∨ ws.length ≤ (zipT xs ys).length; rw [hl]; omega⟩, fun i t x H' ht y => ?_⟩
  · have hi0 : i < (zipT xs ys).length := hi
    have hi' : i < vs.length := by omega
    have hi2 : i < ws.length := by omega
    exact ⟨vs, ws, vs[i], ws[i], q, q', by simp [hi'], by simp [hi2]⟩
  · obtain ⟨p, v, w, rfl, hp, rfl, y, y'⟩ := y
    obtain ⟨u, u', h2, h2', rfl⟩ := zipT_get ht
    obtain ⟨v', h3, h4⟩ := rv.get h2
    obtain ⟨w', h3', h4'⟩ := rw'.get h2'
    have := (y vs q).symm.trans h3
    cases this
    have := (y' ws q').symm.trans h3'
    cases this
    exact r.pair hp h4 h4'
theorem wk_zipT (r1 : Rep F K H1 μ1 S1) {a a' : Addr} {xs ys : List T} {vs ws : List V} (q1 : SqT K H1 a vs) (rv1 : RVs K H1 μ1 xs vs) (q1' : SqT K H1 a' ws) (rw1 : RVs K H1 μ1 ys ws) :
    WkOK F K (RZ.ItzT K a a') ⟨zipT xs ys, [], none⟩ H1 μ1 := by
  refine ⟨rfl, fun H μ S st r ck => ?_⟩
  have q := sqT_step q1 (fun _ _ z => r1.notup z) st
  have q' := sqT_step q1' (fun _ _ z => r1.notup z) st
  have rv := rv1.step r1 st
  have rw' := rw1.step r1 st
  have hl : (zipT xs ys).length = min vs.length ws.length := by rw [zipT_len, rv.length, rw'.length]
  refine ⟨fun i hi => ?_, ⟨vs, ws, q, q', by show vs.length ≤ (zipT xs ys).length ∨ ws.length ≤ (zipT xs ys).length; rw [hl]; omega⟩, fun i t x H' ht y => ?_⟩
  · have hi0 : i < (zipT xs ys).length := hi
    have hi' : i < vs.length := by omega
    have hi2 : i < ws.length := by omega
    exact ⟨vs, ws, vs[i], ws[i], q, q', by simp [hi'], by simp [hi2]⟩
  · obtain ⟨p, v, w, rfl, hp, rfl, y, y'⟩ := y
    obtain ⟨u, u', h2, h2', rfl⟩ := zipT_get ht
    obtain ⟨v', h3, h4⟩ := rv.get h2
    obtain ⟨w', h3', h4'⟩ := rw'.get h2'
    have := (y vs q).symm.trans h3
    cases this
    have := (y' ws q').symm.trans h3'
    cases this
    exact r.pair hp h4 h4'
end
/-! ### the forms -/
section
variable {X : Cx} {F : Fx} {W : WX} {Φ : Fns} {tg : PySem.Expr}
abbrev RI (F : Fx) (W : WX) (Φ : Fns) (X : Cx) (tg : PySem.Expr) (i : I) (x : PySem.Expr) : Prop := PI X tg x (rdI F X.K W (denI Φ i))
theorem seqOf_ok {t : T} {S S' : Sto} {its : LS.Its} (h : seqOf t S = some (.ok its, S')) : S' = S ∧ ((∃ xs, t = .tup xs ∧ its = ⟨xs, [], none⟩) ∨ ∃ l xs c, t = .ref l ∧ (c = .lst xs ∨ c = .fro xs) ∧ S[l]? = some c ∧ its = ⟨xs, [(l, c)], none⟩) := by
  cases t with
  | tup xs =>
    obtain ⟨rfl, rfl⟩ := ret_ok (show ret (⟨xs, [], none⟩ : LS.Its) S = _ from h)
    exact ⟨rfl, .inl ⟨xs, rfl, rfl⟩⟩
  | ref l =>
    have h : (match S[l]? with
      | some (.lst xs) => some (.ok ⟨xs, [(l, .lst xs)], none⟩, S)
      | some (.fro xs) => some (.ok ⟨xs, [(l, .fro xs)], none⟩, S)
      | _ => none) = some ((.ok its, S') : Res LS.Its) := h
    split at h
    · rename_i xs q
      injection h with h; injection h with h1 h2; injection h1 with h1
      exact ⟨h2.symm, .inr ⟨l, xs, _, rfl, .inl rfl, q, h1.symm⟩⟩
    · rename_i xs q
      injection h with h; injection h with h1 h2; injection h1 with h1
      exact ⟨h2.symm, .inr ⟨l, xs, _, rfl, .inr rfl, q, h1.symm⟩⟩
    · cases h
  | _ => exact no_ok h
/-- an outcome that raises nothing -/
def Calm {α : Type} (m : M α) : Prop := ∀ S x S', m S ≠ some (.error x, S')
theorem Post.calm_of {α β : Type} {K : PySem.W.Frag} {σ : L2.St} {R : Hp → List Addr → α → β → Prop} {H : Hp} {μ : List Addr} {m : M α} {S : Sto} {Q : β → Hp → Prop} (hm : Calm m) (h : Post F K W σ R H μ (m S) Q) :
    ∃ a S', m S = some (.ok a, S') ∧ ∀ H' μ' b, Rep F K H' μ' S' → Step H μ H' μ' → R H' μ' a b → Q b H' := by
  cases q : m S with
  | none => rw [q] at h; exact h.elim
  | some r =>
    obtain ⟨e, S'⟩ := r
    cases e with
    | error x => exact absurd q (hm S x S')
    | ok a => rw [q] at h; exact ⟨a, S', rfl, h⟩
theorem calm_seqOf (t : T) : Calm (seqOf t) := fun S x S' h => by
  cases t with
  | ref l =>
    have h : (match S[l]? with
      | some (.lst xs) => some (.ok ⟨xs, [(l, .lst xs)], none⟩, S)
      | some (.fro xs) => some (.ok ⟨xs, [(l, .fro xs)], none⟩, S)
      | _ => none) = some ((.error x, S') : Res LS.Its) := h
    split at h <;> cases h
  | _ => cases h
theorem calm_itsOf (t : T) : Calm (itsOf t) := fun S x S' h => by
  cases t with
  | str z => cases h
  | tup xs => exact calm_seqOf (.tup xs) S x S' h
  | ref xs => exact calm_seqOf (.ref xs) S x S' h
  | _ => cases h
theorem ri_val {e : E} {x : PySem.Expr} (h : RE F W Φ X e x) : RI F W Φ X tg (.val e) x :=
  pi_imp (pi_any h) fun σ H R q => by
    obtain ⟨σT, S, μ, a, b, c⟩ := q
    refine ⟨σT, S, μ, a, b, (rdE.then_ (R' := RV X.K) (f := fun _ t => itsOf t) a b c).imp fun v H1 ⟨t, S1, μ1, a1, b1, rv, s1, c1⟩ => ?_⟩
    obtain ⟨its, S2, e1, q⟩ := Post.calm_of (m := itsOf t) (calm_itsOf t) c1
    cases t with
    | str z =>
      obtain ⟨rfl, rfl⟩ := ret_ok (show ret (⟨z.map fun c => .str [c], [], none⟩ : LS.Its) S1 = _ from e1)
      have := rv.strs
      subst this
      exact .inr (.inr ⟨_, rfl, q H1 μ1 _ b1 Step.refl (wk_str z)⟩)
    | tup xs =>
      obtain ⟨rfl, h2⟩ := seqOf_ok (show seqOf (.tup xs) S1 = _ from e1)
      rcases h2 with ⟨ys, hy, rfl⟩ | ⟨l, ys, c, hy, _⟩
      · cases hy
        obtain ⟨p, vs, rfl, hs, rvs⟩ := rv.tups
        exact .inr (.inl ⟨p, rfl, ⟨vs, hs⟩, q H1 μ1 _ b1 Step.refl (wk_tup b1 hs rvs)⟩)
      · cases hy
    | ref l =>
      obtain ⟨rfl, h2⟩ := seqOf_ok (show seqOf (.ref l) S1 = _ from e1)
      rcases h2 with ⟨ys, hy, rfl⟩ | ⟨l', ys, c, hy, hc, hs, rfl⟩
      · cases hy
      · cases hy
        obtain ⟨p, rfl, hl⟩ := rv.refs
        obtain ⟨vs, hq, _⟩ := b1.list (xs := ys) (by rcases hc with z | z <;> subst z <;> simp [hs]) hl
        exact .inl ⟨p, rfl, ⟨vs, hq⟩, q H1 μ1 _ b1 Step.refl (wk_list b1 hc hs hl)⟩
    | _ => exact no_ok e1
theorem ri_enum {e : E} {x : PySem.Expr} {p pos tpos : Pos} {elts : List PySem.Expr} {kk : Nat} (hg : Gl X "enumerate") (hm : X.mg "enumerate" = none) (h : RE F W Φ X e x) (hs : starEach [x] X.env = (false, eval x X.env) :: starEach [] X.env) :
    RI F W Φ X (.Tuple elts kk tpos) (.enum e) (.Call (.Name "enumerate" p) [x] [] pos) :=
  pi_imp (pi_enumA hg hm h hs) fun σ H R q => by
    obtain ⟨σT, S, μ, a, b, c⟩ := q
    refine ⟨σT, S, μ, a, b, (rdE.then_ (R' := RV X.K) (f := fun _ t => seq (seqOf t) fun its => ret (⟨enumT 0 its.xs, its.chk, none⟩ : LS.Its)) a b c).imp fun v H1 ⟨t, S1, μ1, a1, b1, rv, s1, c1⟩ => ?_⟩
    obtain ⟨its', S2, e1, q⟩ := Post.calm_of (m := seq (seqOf t) fun its => ret (⟨enumT 0 its.xs, its.chk, none⟩ : LS.Its)) (fun S x S' h => by
      unfold seq at h
      split at h
      · cases h
      · rename_i x1 S1 q1; exact calm_seqOf t _ _ _ q1
      · cases h) c1
    obtain ⟨its, S3, e2, e3⟩ := seq_ok e1
    obtain ⟨rfl, rfl⟩ := ret_ok e3
    obtain ⟨rfl, h2⟩ := seqOf_ok e2
    rcases h2 with ⟨ys, hy, rfl⟩ | ⟨l', ys, c, hy, hc, hs, rfl⟩
    · subst hy
      obtain ⟨p, vs, rfl, hs, rvs⟩ := rv.tups
      exact ⟨p, rfl, .inr ⟨vs, hs, q H1 μ1 _ b1 Step.refl (wk_enumT b1 hs rvs)⟩⟩
    · subst hy
      obtain ⟨p, rfl, hl⟩ := rv.refs
      obtain ⟨vs, hq, _⟩ := b1.list (xs := ys) (by rcases hc with z | z <;> subst z <;> simp [hs]) hl
      exact ⟨p, rfl, .inl ⟨vs, hq, q H1 μ1 _ b1 Step.refl (wk_enumL b1 hc hs hl)⟩⟩
/-- a range's reading -/
theorem rdI_range {es : List E} {σ : L2.St} {H : Hp} {R : It → Hp → Prop} (h : rdI F X.K W (denI Φ (.range es)) σ H R) :
    rdA F X.K W (denEs Φ es) σ H fun vs H1 => ∃ ts S μ xs, Rep F X.K H1 μ S ∧ RVs X.K H1 μ ts vs ∧ rangeOf ts = some xs ∧ ∀ J, WkOK F X.K J ⟨xs, [], none⟩ H1 μ → R J H1 := by
  obtain ⟨σT, S, μ, a, b, c⟩ := h
  refine ⟨σT, S, μ, a, b, (rdE.then_ (R' := RVs X.K) (f := fun _ ts => seq (opt (rangeOf ts)) fun xs => ret (⟨xs, [], none⟩ : LS.Its)) a b c).imp fun vs H1 ⟨ts, S1, μ1, a1, b1, rv, s1, c1⟩ => ?_⟩
  obtain ⟨xs, e1, c2⟩ := Post.opt c1
  exact ⟨ts, S1, μ1, xs, b1, rv, e1, fun J hJ => Post.done (a := (⟨xs, [], none⟩ : LS.Its)) c2 b1 Step.refl hJ⟩
theorem ri_range1 {e : E} {x : PySem.Expr} {p pos : Pos} (hg : Gl X "range") (hm : X.mg "range" = none) (h : RE F W Φ X e x) (hs : starEach [x] X.env = [(false, eval x X.env)]) : RI F W Φ X tg (.range [e]) (.Call (.Name "range" p) [x] [] pos) :=
  pi_imp (pi_range1 hg hm (ra_cons h ra_nil hs) hs) fun σ H R q => rdA_len ((rdI_range q).mono fun vs H1 ⟨ts, S, μ, xs, b, rv, e1, q1⟩ hl => by
    match vs, ts, rv with
    | [v], [t], .cons r1 .nil =>
      cases t with
      | int n =>
        simp only [rangeOf] at e1
        split at e1
        · rename_i hn
          have e2 := Option.some.inj e1
          have := r1.ints
          subst this
          have hb : bigR = 1000000000000 := rfl
          rw [hb] at hn
          exact ⟨n, rfl, by omega, by omega, q1 _ (wk_range 0 n.toNat (by rw [← e2]; simp))⟩
        · cases e1
      | _ => simp [rangeOf] at e1)
theorem ri_range2 {e e' : E} {x x' : PySem.Expr} {p pos : Pos} (hg : Gl X "range") (hm : X.mg "range" = none) (h : RE F W Φ X e x) (h' : RE F W Φ X e' x') (hs : starEach [x, x'] X.env = [(false, eval x X.env), (false, eval x' X.env)]) (hs2 : starEach [x'] X.env = [(false, eval x' X.env)]) :
    RI F W Φ X tg (.range [e, e']) (.Call (.Name "range" p) [x, x'] [] pos) :=
  pi_imp (pi_range2 hg hm (ra_cons h (ra_cons h' ra_nil hs2) (by rw [hs, hs2])) hs hs2) fun σ H R q => rdA_len ((rdI_range q).mono fun vs H1 ⟨ts, S, μ, xs, b, rv, e1, q1⟩ hl => by
    match vs, ts, rv with
    | [v, v'], [t, t'], .cons r1 (.cons r2 .nil) =>
      cases t with
      | int n =>
        cases t' with
        | int n' =>
          simp only [rangeOf] at e1
          split at e1
          · rename_i hn
            have e2 := Option.some.inj e1
            have := r1.ints
            subst this
            have := r2.ints
            subst this
            have hb : bigR = 1000000000000 := rfl
            rw [hb] at hn
            exact ⟨n, n', rfl, by omega, q1 _ (wk_range n (n' - n).toNat e2.symm)⟩
          · cases e1
        | _ => simp [rangeOf] at e1
      | _ => simp [rangeOf] at e1)
theorem ri_range3 {e e' e'' : E} {x x' x'' : PySem.Expr} {p pos : Pos} (hg : Gl X "range") (hm : X.mg "range" = none) (h : RE F W Φ X e x) (h' : RE F W Φ X e' x') (h'' : RE F W Φ X e'' x'')
    (hs : starEach [x, x', x''] X.env = (false, eval x X.env) :: starEach [x', x''] X.env) (hs2 : starEach [x', x''] X.env = (false, eval x' X.env) :: starEach [x''] X.env) (hs3 : starEach [x''] X.env = (false, eval x'' X.env) :: starEach [] X.env) (hpl : (backTo pos (starEach [x', x''] X.env)).any (·.1) = false) :
    RI F W Φ X tg (.range [e, e', e'']) (.Call (.Name "range" p) [x, x', x''] [] pos) :=
  pi_imp (pi_range3 hg hm (ra_cons h (ra_cons h' (ra_cons h'' ra_nil hs3) hs2) hs) hs hpl) fun σ H R q => rdA_len ((rdI_range q).mono fun vs H1 ⟨ts, S, μ, xs, b, rv, e1, q1⟩ hl => by
    match vs, ts, rv with
    | [v, v', v''], [t, t', t''], .cons r1 (.cons r2 (.cons r3 .nil)) =>
      cases t with
      | int n =>
        cases t' with
        | int n' =>
          cases t'' with
          | int n'' =>
            simp only [rangeOf] at e1
            split at e1
            · rename_i hn
              have e2 := Option.some.inj e1
              have := r1.ints
              subst this
              have := r2.ints
              subst this
              have := r3.ints
              subst this
              have hb : bigR = 1000000000000 := rfl
              rw [hb] at hn
              obtain ⟨h1, h2, h3, h4, rfl⟩ := hn
              exact ⟨n, n', -1, _, rfl, RgC.neg (by omega) (by omega) (by omega) (by omega), q1 _ (wk_rangeD n (n - n').toNat e2.symm)⟩
            · cases e1
          | _ => simp [rangeOf] at e1
        | _ => simp [rangeOf] at e1
      | _ => simp [rangeOf] at e1)
theorem calm_seq {α β : Type} {m : M α} {f : α → M β} (hm : Calm m) (hf : ∀ a, Calm (f a)) : Calm (seq m f) := fun S x S' h => by
  unfold seq at h
  split at h
  · cases h
  · rename_i x1 S1 q1; exact hm _ _ _ q1
  · rename_i a S1 q1; exact hf a S1 x S' h
theorem calm_zipOf (t t' : T) : Calm (zipOf t t') := by
  cases t with
  | ref l =>
    cases t' with
    | ref l' => exact calm_seq (calm_seqOf _) fun p => calm_seq (calm_seqOf _) fun q S x S' h => by cases h
    | _ => intro S x S' h; cases h
  | _ => intro S x S' h; cases t' <;> cases h
theorem ri_zip {e e' : E} {x x' : PySem.Expr} {p pos tpos : Pos} {elts : List PySem.Expr} {kk : Nat} (hg : Gl X "zip") (hm : X.mg "zip" = none) (h : RE F W Φ X e x) (h' : RE F W Φ X e' x') (hs : starEach [x, x'] X.env = (false, eval x X.env) :: starEach [x'] X.env)
    (hs2 : starEach [x'] X.env = (false, eval x' X.env) :: starEach [] X.env) (hpl : (backTo pos (starEach [x'] X.env)).any (·.1) = false) : RI F W Φ X (.Tuple elts kk tpos) (.zip e e') (.Call (.Name "zip" p) [x, x'] [] pos) :=
  pi_imp (RZ.pi_zipA hg hm (ra_cons h (ra_cons h' ra_nil hs2) hs) hs hpl) fun σ H R q => by
    have q' : rdA F X.K W (denEs Φ [e, e']) σ H fun vs H1 => ∃ x y, vs = [x, y] ∧ ∃ t t' S μ, Rep F X.K H1 μ S ∧ RV X.K H1 μ t x ∧ RV X.K H1 μ t' y ∧ Post F X.K W σ (fun H μ its J => WkOK F X.K J its H μ) H1 μ (zipOf t t' S) R := by
      obtain ⟨σT, S, μ, a, b, c⟩ := q
      have c' : Post F X.K W σ (fun H μ its J => WkOK F X.K J its H μ) H μ (seq (denEs Φ [e, e'] σT) (fun ts => match ts with
        | [t, t'] => zipOf t t'
        | _ => fail) S) R := by
        have e0 : denI Φ (.zip e e') σT = seq (denEs Φ [e, e'] σT) (fun ts => match ts with
          | [t, t'] => zipOf t t'
          | _ => fail) := by
          show seq (denE Φ e σT) (fun x => seq (denE Φ e' σT) fun y => zipOf x y) = seq (seq (denE Φ e σT) fun t => seq (seq (denE Φ e' σT) fun t => seq (ret []) fun ts => ret (t :: ts)) fun ts => ret (t :: ts)) _
          simp only [seq_assoc]
          rfl
        rw [← e0]
        exact c
      refine rdA_len ⟨σT, S, μ, a, b, (rdE.then_ (R' := RVs X.K) (f := fun _ ts => match ts with
        | [t, t'] => zipOf t t'
        | _ => fail) a b c').imp fun vs H1 ⟨ts, S1, μ1, a1, b1, rv, s1, c1⟩ hl => ?_⟩
      match vs, ts, rv, hl, c1 with
      | [v, v'], [t, t'], .cons r1 (.cons r2 .nil), _, c1 => exact ⟨v, v', rfl, t, t', S1, μ1, b1, r1, r2, c1⟩
    refine q'.mono fun vs H1 ⟨v, v', ev, t, t', S, μ, b, r1, r2, c⟩ => ?_
    subst ev
    obtain ⟨its, S2, e1, q⟩ := Post.calm_of (calm_zipOf t t') c
    cases t with
    | tup xs =>
      cases t' with
      | tup ys =>
        obtain ⟨rfl, rfl⟩ := ret_ok (show ret (⟨zipT xs ys, [], none⟩ : LS.Its) S = _ from e1)
        obtain ⟨p, vs, rfl, hs, rvs⟩ := r1.tups
        obtain ⟨p', vs', rfl, hs', rvs'⟩ := r2.tups
        exact ⟨p, p', vs, vs', rfl, .inr ⟨hs, hs', q H1 μ _ b Step.refl (wk_zipT b hs rvs hs' rvs')⟩⟩
      | _ => exact no_ok e1
    | ref l =>
      cases t' with
      | ref l' =>
        obtain ⟨i1, S3, e2, e3⟩ := seq_ok (show seq (seqOf (.ref l)) (fun p => seq (seqOf (.ref l')) fun q => ret (⟨zipT p.xs q.xs, p.chk ++ q.chk, none⟩ : LS.Its)) S = _ from e1)
        obtain ⟨i2, S4, e4, e5⟩ := seq_ok e3
        obtain ⟨rfl, rfl⟩ := ret_ok e5
        obtain ⟨rfl, h2⟩ := seqOf_ok e2
        obtain ⟨rfl, h4⟩ := seqOf_ok e4
        rcases h2 with ⟨ys, hy, _⟩ | ⟨_, ys, c, hy, hc, hs, rfl⟩
        · cases hy
        rcases h4 with ⟨zs, hz, _⟩ | ⟨_, zs, c', hz, hc', hs', rfl⟩
        · cases hz
        cases hy
        cases hz
        obtain ⟨p, rfl, hl⟩ := r1.refs
        obtain ⟨p', rfl, hl'⟩ := r2.refs
        obtain ⟨vs, hq, _⟩ := b.list (xs := ys) (by rcases hc with z | z <;> subst z <;> simp [hs]) hl
        obtain ⟨vs', hq', _⟩ := b.list (xs := zs) (by rcases hc' with z | z <;> subst z <;> simp [hs']) hl'
        exact ⟨p, p', vs, vs', rfl, .inl ⟨hq, hq', q H1 μ _ b Step.refl (wk_zipL b hc hc' hl hl')⟩⟩
      | _ => exact no_ok e1
    | _ => cases t' <;> exact no_ok e1
end
end LS
end

section
set_option Elab.async false
set_option linter.all false
set_option maxRecDepth 100000
set_option maxHeartbeats 4000000
/-! LS.Stmt: patterns, statements, comprehensions. -/
namespace LS
open PySem PySem.Spec PyProof.Rows L2
section
variable {F : Fx} {K : PySem.W.Frag} {W : WX} {D D' : Ends} {H H1 : Hp} {μ μ1 : List Addr} {σ : L2.St} {σT : Sl}
theorem PostS.from {r} (h : PostS F K W D H μ r) (s : Step H μ H1 μ1) : PostS F K W D H1 μ1 r := by
  match r, h with
  | some (.ok (f, σT'), S'), h => exact fun H' μ' σ' v hr st => h H' μ' σ' v hr (s.trans st)
  | some (.error (x, σT'), S'), h => exact fun H' μ' σ' cls d hr st => h H' μ' σ' cls d hr (s.trans st)
/-- an expression within a statement -/
theorem PostS.ex {α β : Type} {R' : Hp → List Addr → α → β → Prop} {m : M α} {f : α → SM} {S : Sto} (a : RSt K H μ σT σ) (b : Rep F K H μ S) (h : PostS F K W D H μ (sx σT m f S)) :
    Post F K W σ R' H μ (m S) (fun b1 H1 => ∃ a1 S1 μ1, RSt K H1 μ1 σT σ ∧ Rep F K H1 μ1 S1 ∧ Step H μ H1 μ1 ∧ R' H1 μ1 a1 b1 ∧ PostS F K W D H1 μ1 (f a1 S1)) := by
  unfold sx at h
  cases q : m S with
  | none => rw [q] at h; exact h
  | some p =>
    rw [q] at h
    obtain ⟨e, S'⟩ := p
    cases e with
    | ok t => exact fun H' μ' b1 hr st hR => ⟨t, S', μ', a.step b st, hr, st, hR, PostS.from h st⟩
    | error x => exact fun H' μ' cls d hr st hx => h H' μ' σ cls d hr st (a.step b st) hx
theorem PostS.done {f : Fl} {σT' : Sl} {S' : Sto} {σ' : L2.St} {v : V} (h : PostS F K W D H μ (sret f σT' S')) (b : Rep F K H μ S') (a : RSt K H μ σT' σ') (hv : ∀ t, f = .rt t → RV K H μ t v) : flE D H σ' f v :=
  h H μ σ' v b Step.refl a hv
end
/-! ### patterns -/
def rdG (K : PySem.W.Frag) (p : P) : TG := fun v σ H Q => ∃ t σT μ σT', RV K H μ t v ∧ RSt K H μ σT σ ∧ bindO p t σT = some σT' ∧ ∀ σ', RSt K H μ σT' σ' → (∀ own, (∀ i ∈ p.slots, i ∈ own) → wipe σ' own = wipe σ own) → Q σ' H
def rdGs (K : PySem.W.Frag) (ps : List P) : TGs := fun vs σ H Q => ∃ ts σT μ σT', RVs K H μ ts vs ∧ RSt K H μ σT σ ∧ bindOs ps ts σT = some σT' ∧ ∀ σ', RSt K H μ σT' σ' → (∀ own, (∀ i ∈ P.slotss ps, i ∈ own) → wipe σ' own = wipe σ own) → Q σ' H
theorem pg_imp {X : Cx} {e : PySem.Expr} {t t' : TG} (h : PG X e t) (i : ∀ v σ H Q, t' v σ H Q → t v σ H Q) : PG X e t' := ⟨fun pins s σ H v u Q I r q => h.run pins s σ H v u Q I r (i v σ H Q q)⟩
theorem pgs_imp {X : Cx} {e : List PySem.Expr} {t t' : TGs} (h : PGs X e t) (i : ∀ v σ H Q, t' v σ H Q → t v σ H Q) : PGs X e t' := ⟨fun pins s σ H v u Q I r q => h.run pins s σ H v u Q I r (i v σ H Q q)⟩
theorem wipe_set {σ : L2.St} {i : Nat} {o : Option V} : ∀ {own : List Nat}, i ∈ own → wipe (σ.set i o) own = wipe σ own
  | [], h => by simp at h
  | v :: vs, h => by
    unfold L2.wipe
    by_cases q : i ∈ vs
    · rw [wipe_set q]
    · have e : i = v := by
        rcases List.mem_cons.mp h with z | z
        · exact z
        · exact absurd z q
      subst e
      clear h
      have k : ∀ (vs : List Nat), i ∉ vs → wipe (σ.set i o) vs = (wipe σ vs).set i o := by
        intro vs
        induction vs with
        | nil => intro _; rfl
        | cons a r ih =>
          intro hn
          have h1 : i ≠ a := fun z => hn (by simp [z])
          unfold L2.wipe
          rw [ih fun z => hn (by simp [z])]
          exact List.set_comm _ _ h1
      rw [k vs q, List.set_set]
section
variable {X : Cx} {F : Fx} {W : WX} {Φ : Fns}
theorem rg_slot {i : Nat} {x : Str} {pos : Pos} (hN : X.N.Nodup) (hi : X.N[i]? = some x) (hx : Loc X.env.scope x) (hf : X.fn x = true ∨ X.env.scope.names.lookup x = some .local) : PG X (.Name x pos) (rdG X.K (.slot i)) :=
  pg_imp (pg_name hN hi hx hf) fun v σ H Q q => by
    obtain ⟨t, σT, μ, σT', r, a, e, q⟩ := q
    simp only [bindO] at e
    split at e
    · cases e
      exact q _ (a.set r i) fun own ho => wipe_set (ho i (by simp [P.slots]))
    · cases e
theorem rgs_nil : PGs X [] (rdGs X.K []) := pgs_imp pgs_nil fun vs σ H Q q => by
  obtain ⟨ts, σT, μ, σT', r, a, e, q⟩ := q
  cases r with
  | nil =>
    simp only [bindOs] at e
    cases e
    exact ⟨rfl, q σ a fun _ _ => rfl⟩
  | cons _ _ => simp [bindOs] at e
theorem rgs_cons {p : P} {ps : List P} {e : PySem.Expr} {es : List PySem.Expr} (h1 : PG X e (rdG X.K p)) (h2 : PGs X es (rdGs X.K ps)) (hs : (assignEach (e :: es) X.env).map (·.2) = assign e X.env :: (assignEach es X.env).map (·.2)) : PGs X (e :: es) (rdGs X.K (p :: ps)) :=
  pgs_imp (pgs_cons h1 h2 hs) fun vs σ H Q q => by
    obtain ⟨ts, σT, μ, σT', r, a, e, q⟩ := q
    cases r with
    | nil => simp [bindOs] at e
    | cons r1 r2 =>
      rename_i t v ts vs
      simp only [bindOs] at e
      split at e
      · rename_i σ1 e1
        refine ⟨_, _, rfl, t, σT, μ, σ1, r1, a, e1, fun σ' a' w1 => ?_⟩
        exact ⟨ts, σ1, μ, σT', r2, a', e, fun σ2 a2 w2 => q σ2 a2 fun own ho => (w2 own fun i hi => ho i (by simp [P.slotss, hi])).trans (w1 own fun i hi => ho i (by simp [P.slotss, hi]))⟩
      · cases e
theorem bindOs_len : ∀ {ps : List P} {ts : List T} {σ σ' : Sl}, bindOs ps ts σ = some σ' → ts.length = ps.length
  | [], [], _, _, _ => rfl
  | [], _ :: _, _, _, h => by simp [bindOs] at h
  | _ :: _, [], _, _, h => by simp [bindOs] at h
  | p :: ps, t :: ts, σ, σ', h => by
    simp only [bindOs] at h
    split at h
    · simp [bindOs_len h]
    · cases h
theorem rg_tup {ps : List P} {es : List PySem.Expr} {k : Nat} {pos : Pos} (hc : X.calm = true) (h : PGs X es (rdGs X.K ps)) (hn : (assignEach es X.env).length = ps.length) (hst : (assignEach es X.env).findIdx? (·.1) = none) : PG X (.Tuple es k pos) (rdG X.K (.tup ps)) :=
  pg_imp (pg_tup hc h hn hst) fun v σ H Q q => by
    obtain ⟨t, σT, μ, σT', r, a, e, q⟩ := q
    cases t with
    | tup ts =>
      simp only [bindO] at e
      obtain ⟨p, vs, rfl, hs, rv⟩ := r.tups
      exact ⟨p, vs, rfl, hs, by rw [← rv.length]; exact bindOs_len e, ts, σT, μ, σT', rv, a, e, fun σ' a' w => q σ' a' w⟩
    | _ => simp [bindO] at e
/-! ### statements -/
abbrev RS (F : Fx) (W : WX) (Φ : Fns) (sub : Nat → Nat → Bool) (N : Nat) (X : Cx) (s : S) (x : Stmt) : Prop := PS X x (rdS F X.K W (denS Φ sub N s))
abbrev RSs (F : Fx) (W : WX) (Φ : Fns) (sub : Nat → Nat → Bool) (N : Nat) (X : Cx) (s : List S) (x : List Stmt) : Prop := PSs X x (rdS F X.K W (denSs Φ sub N s))
variable {sub : Nat → Nat → Bool} {N : Nat}
/-- the value of an expression, then more -/
theorem rd_ex {e : E} {f : Sl → T → SM} {D : Ends} {σ : L2.St} {H : Hp} (h : rdS F X.K W (fun σ => sx σ (denE Φ e σ) (f σ)) D σ H) :
    rdE F X.K W (denE Φ e) σ H fun x H1 => ∃ t σT S1 μ1, RSt X.K H1 μ1 σT σ ∧ Rep F X.K H1 μ1 S1 ∧ RV X.K H1 μ1 t x ∧ PostS F X.K W D H1 μ1 (f σT t S1) := by
  obtain ⟨σT, S, μ, a, b, c⟩ := h
  exact ⟨σT, S, μ, a, b, (PostS.ex (R' := RV X.K) a b c).imp fun x H1 ⟨t, S1, μ1, a1, b1, s1, r1, c1⟩ => ⟨t, σT, S1, μ1, a1, b1, r1, c1⟩⟩
theorem rs_exp {e : E} {x : PySem.Expr} {pos : Pos} (h : RE F W Φ X e x) (hs : swapsWith x none pos.line X.env = pure false) : RS F W Φ sub N X (.exp e) (.Expr x pos) :=
  ps_imp (ps_expr h hs) fun D σ H q => (rd_ex (f := fun σ _ => sret .nx σ) q).mono fun x H1 ⟨t, σT, S1, μ1, a1, b1, r1, c1⟩ => PostS.done (v := .non) c1 b1 a1 fun _ z => by cases z
theorem rs_set {i : Nat} {y : Str} {e : E} {x : PySem.Expr} {pos pos' : Pos} (hN : X.N.Nodup) (hi : X.N[i]? = some y) (hx : Loc X.env.scope y) (h : RE F W Φ X e x) (hs : swapsWith x (some (.Name y pos')) pos.line X.env = pure false) (hf : X.fn y = true ∨ X.env.scope.names.lookup y = some .local) :
    RS F W Φ sub N X (.set i e) (.Assign [.Name y pos'] x pos) :=
  ps_imp (ps_set hN hi hx h hs hf) fun D σ H q => (rd_ex (f := fun σ t => if i < σ.length then sret .nx (σ.set i (some t)) else sfail) q).mono fun x H1 ⟨t, σT, S1, μ1, a1, b1, r1, c1⟩ => by
    split at c1
    · exact PostS.done (v := .non) c1 b1 (a1.set r1 i) fun _ z => by cases z
    · exact c1.elim
theorem rs_unp {p : P} {tg x : PySem.Expr} {e : E} {pos : Pos} (h : RE F W Φ X e x) (hg : PG X tg (rdG X.K p)) (hs : swapsWithSole [tg] x pos.line X.env = pure false) (hw : swappedStores [tg] x X.env = pure none) (h1 : (assignEach [tg] X.env).map (·.2) = [assign tg X.env]) :
    RS F W Φ sub N X (.unp p e) (.Assign [tg] x pos) :=
  ps_imp (ps_asg h hg hs hw h1) fun D σ H q => (rd_ex (f := fun σ t => sx σ (bindP p t σ) fun σ' => sret .nx σ') q).mono fun x H1 ⟨t, σT, S1, μ1, a1, b1, r1, c1⟩ => by
    cases e1 : bindO p t σT with
    | none =>
      rw [show sx σT (bindP p t σT) (fun σ' => sret .nx σ') S1 = none by unfold sx bindP opt; rw [e1]] at c1
      exact c1.elim
    | some σT' =>
      rw [show sx σT (bindP p t σT) (fun σ' => sret .nx σ') S1 = sret .nx σT' S1 by unfold sx bindP opt; rw [e1]] at c1
      exact ⟨t, σT, μ1, σT', r1, a1, e1, fun σ' a' _ => PostS.done (v := .non) c1 b1 a' fun _ z => by cases z⟩
theorem rs_ret {e : E} {x : PySem.Expr} {pos : Pos} (h : RE F W Φ X e x) : RS F W Φ sub N X (.ret e) (.Return (some x) pos) :=
  ps_imp (ps_ret h) fun D σ H q => (rd_ex (f := fun σ t => sret (.rt t) σ) q).mono fun x H1 ⟨t, σT, S1, μ1, a1, b1, r1, c1⟩ => PostS.done (v := x) c1 b1 a1 fun t' z => by cases z; exact r1
theorem rs_retN {pos : Pos} : RS F W Φ sub N X .retN (.Return none pos) :=
  ps_imp ps_retN fun D σ H ⟨σT, S, μ, a, b, c⟩ => PostS.done (v := .non) (f := .rt .non) c b a fun t' z => by cases z; exact .non
theorem rs_pass {pos : Pos} : RS F W Φ sub N X .pass (.Pass pos) := ps_imp ps_pass fun D σ H ⟨σT, S, μ, a, b, c⟩ => PostS.done (v := .non) (f := .nx) c b a fun t' z => by cases z
theorem rs_brk {pos : Pos} : RS F W Φ sub N X .brk (.Break pos) := ps_imp ps_break fun D σ H ⟨σT, S, μ, a, b, c⟩ => PostS.done (v := .non) (f := .bk) c b a fun t' z => by cases z
theorem rs_cont {pos : Pos} : RS F W Φ sub N X .cont (.Continue pos) := ps_imp ps_continue fun D σ H ⟨σT, S, μ, a, b, c⟩ => PostS.done (v := .non) (f := .ct) c b a fun t' z => by cases z
/-- a block -/
theorem rss_nil : RSs F W Φ sub N X [] [] := pss_imp pss_nil fun D σ H ⟨σT, S, μ, a, b, c⟩ => PostS.done (v := .non) (f := .nx) c b a fun t' z => by cases z
theorem rss_cons {s : S} {ss : List S} {x : Stmt} {xs : List Stmt} (h : RS F W Φ sub N X s x) (hs : RSs F W Φ sub N X ss xs) : RSs F W Φ sub N X (s :: ss) (x :: xs) :=
  pss_imp (pss_cons h hs) fun D σ H ⟨σT, S, μ, a, b, c⟩ => by
    refine ⟨σT, S, μ, a, b, ?_⟩
    have c' : PostS F X.K W D H μ (sseq (denS Φ sub N s σT) (fun f σ' => (match f with
      | .nx => denSs Φ sub N ss σ'
      | f => sret f σ')) S) := c
    unfold sseq at c'
    cases q : denS Φ sub N s σT S with
    | none => rw [q] at c'; exact c'
    | some r =>
      obtain ⟨r1, S'⟩ := r
      rw [q] at c'
      cases r1 with
      | error x => exact c'
      | ok p =>
        obtain ⟨f, σT'⟩ := p
        intro H' μ' σ' v r' s' a' hv
        cases f with
        | nx => exact ⟨σT', S', μ', a', r', PostS.from (show PostS F X.K W D H μ (denSs Φ sub N ss σT' S') from c') s'⟩
        | bk => exact (show PostS F X.K W D H μ (sret .bk σT' S') from c') H' μ' σ' v r' s' a' hv
        | ct => exact (show PostS F X.K W D H μ (sret .ct σT' S') from c') H' μ' σ' v r' s' a' hv
        | rt t => exact (show PostS F X.K W D H μ (sret (.rt t) σT' S') from c') H' μ' σ' v r' s' a' hv
/-- what comes behind a test -/
theorem rd_stest {e : E} {A B : SM} {D : Ends} {σ : L2.St} {H : Hp} {μ : List Addr} {σT : Sl} {S : Sto} (a : RSt X.K H μ σT σ) (b : Rep F X.K H μ S) (c : PostS F X.K W D H μ (sx σT (denE Φ e σT) (fun t => sonB t A B) S)) :
    rdT F X.K W (denE Φ e) σ H fun k H1 => ∃ S1 μ1, RSt X.K H1 μ1 σT σ ∧ Rep F X.K H1 μ1 S1 ∧ Step H μ H1 μ1 ∧ PostS F X.K W D H1 μ1 ((if k = true then A else B) S1) := by
  refine ⟨σT, S, μ, a, b, ?_⟩
  unfold sx at c
  cases q : denE Φ e σT S with
  | none => rw [q] at c; exact c.elim
  | some r =>
    obtain ⟨r1, S'⟩ := r
    rw [q] at c
    cases r1 with
    | error x =>
      rw [show seq (denE Φ e σT) asB S = some (.error x, S') by unfold seq; rw [q]]
      exact fun H' μ' cls d hr st hx => c H' μ' σ cls d hr st (a.step b st) hx
    | ok t =>
      rw [show seq (denE Φ e σT) asB S = asB t S' by unfold seq; rw [q]]
      cases t with
      | bl k =>
        intro H1 μ1 k' r1 s1 ek
        have ek' : k = k' := ek
        subst ek'
        refine ⟨S', μ1, a.step b s1, r1, s1, ?_⟩
        cases k with
        | true => exact PostS.from (show PostS F X.K W D H μ (A S') from c) s1
        | false => exact PostS.from (show PostS F X.K W D H μ (B S') from c) s1
      | _ => exact c.elim
theorem rs_if {e : E} {a b : List S} {x : PySem.Expr} {xs ys : List Stmt} {pos : Pos} (h : RT F W Φ X e x) (ha : RSs F W Φ sub N X a xs) (hb : RSs F W Φ sub N X b ys) : RS F W Φ sub N X (.ife e a b) (.If x xs ys pos) :=
  ps_imp (ps_if h ha hb) fun D σ H ⟨σT, S, μ, r, b', c⟩ => (rd_stest (A := denSs Φ sub N a σT) (B := denSs Φ sub N b σT) r b' c).mono fun k H1 ⟨S1, μ1, a1, b1, s1, c1⟩ => by
    cases k with
    | true => exact ⟨σT, S1, μ1, a1, b1, c1⟩
    | false => exact ⟨σT, S1, μ1, a1, b1, c1⟩
/-- behind a body, one turn of a loop -/
theorem PostS.turn_ {again : Sl → SM} {body : SM} {D : Ends} {H : Hp} {μ : List Addr} {S : Sto} (Nx : L2.St → Hp → Prop) (hN : ∀ σT' S' H' μ' σ', Rep F X.K H' μ' S' → Step H μ H' μ' → RSt X.K H' μ' σT' σ' → PostS F X.K W D H' μ' (again σT' S') → Nx σ' H')
    (c : PostS F X.K W D H μ (sseq body (turn again) S)) : PostS F X.K W { D with nx := Nx, ct := Nx, bk := D.nx } H μ (body S) := by
  unfold sseq at c
  cases q : body S with
  | none => rw [q] at c; exact c
  | some r =>
    obtain ⟨r1, S'⟩ := r
    rw [q] at c
    cases r1 with
    | error x => exact c
    | ok p =>
      obtain ⟨f, σT'⟩ := p
      intro H' μ' σ' v r' s' a' hv
      cases f with
      | nx => exact hN σT' S' H' μ' σ' r' s' a' (PostS.from (show PostS F X.K W D H μ (again σT' S') from c) s')
      | ct => exact hN σT' S' H' μ' σ' r' s' a' (PostS.from (show PostS F X.K W D H μ (again σT' S') from c) s')
      | bk => exact (show PostS F X.K W D H μ (sret .nx σT' S') from c) H' μ' σ' v r' s' a' fun t z => by cases z
      | rt t => exact (show PostS F X.K W D H μ (sret (.rt t) σT' S') from c) H' μ' σ' v r' s' a' hv
theorem rs_while {e : E} {b : List S} {x : PySem.Expr} {xs : List Stmt} {pos : Pos} (hp : PassesOwn (model X.prog X.w) X.A X.env X.xe) (h : RT F W Φ X e x) (hb : RSs F W Φ sub N X b xs) : RS F W Φ sub N X (.whl e b) (.While x xs [] pos) :=
  ps_imp (ps_while hp h hb) fun D σ H ⟨σT, S, μ, r, b', c⟩ => by
    refine ⟨fun n σ H => ∃ σT S μ, RSt X.K H μ σT σ ∧ Rep F X.K H μ S ∧ PostS F X.K W D H μ (whileN (fun σ => denE Φ e σ) (fun σ => denSs Φ sub N b σ) n σT S), ⟨N, σT, S, μ, r, b', c⟩, ?_⟩
    rintro n σ H ⟨σT, S, μ, r, b', c⟩
    cases n with
    | zero => exact c.elim
    | succ n =>
      refine (rd_stest (A := sseq (denSs Φ sub N b σT) (turn (whileN (fun σ => denE Φ e σ) (fun σ => denSs Φ sub N b σ) n))) (B := sret .nx σT) r b' c).mono fun k H1 ⟨S1, μ1, a1, b1, s1, c1⟩ => ?_
      cases k with
      | false => exact PostS.done (v := .non) (f := .nx) c1 b1 a1 fun t z => by cases z
      | true =>
        refine ⟨fun σ' H' => ∃ σT S μ, RSt X.K H' μ σT σ' ∧ Rep F X.K H' μ S ∧ PostS F X.K W D H' μ (whileN (fun σ => denE Φ e σ) (fun σ => denSs Φ sub N b σ) n σT S), fun σ' H' w => ⟨n, Nat.lt_succ_self n, w⟩, σT, S1, μ1, a1, b1, ?_⟩
        exact PostS.turn_ _ (fun σT' S' H' μ' σ' r' s' a' c' => ⟨σT', S', μ', a', r', c'⟩) c1
end
end LS
end

section
set_option Elab.async false
set_option linter.all false
set_option maxRecDepth 100000
set_option maxHeartbeats 4000000
/-! LS.Loop: for, comprehensions, stores of items. -/
namespace LS
open PySem PySem.Spec PyProof.Rows L2
section
variable {X : Cx} {F : Fx} {W : WX} {Φ : Fns} {sub : Nat → Nat → Bool} {N : Nat}
theorem check_ok {K : PySem.W.Frag} {cs : List (Nat × Cell)} {D : Ends} {H : Hp} {μ : List Addr} {σT : Sl} {f : SM} {S : Sto} (c : PostS F K W D H μ (sx σT (check cs) (fun _ => f) S)) : (cs.all fun p => decide (S[p.1]? = some p.2)) = true ∧ PostS F K W D H μ (f S) := by
  unfold sx check at c
  cases q : cs.all fun p => decide (S[p.1]? = some p.2) with
  | true => rw [q] at c; exact ⟨rfl, c⟩
  | false => rw [q] at c; exact c.elim
theorem bind_ok {K : PySem.W.Frag} {p : P} {t : T} {D : Ends} {H : Hp} {μ : List Addr} {σT : Sl} {f : Sl → SM} {S : Sto} (c : PostS F K W D H μ (sx σT (bindP p t σT) f S)) : ∃ σT', bindO p t σT = some σT' ∧ PostS F K W D H μ (f σT' S) := by
  unfold sx bindP opt at c
  cases q : bindO p t σT with
  | some σT' => rw [q] at c; exact ⟨σT', rfl, c⟩
  | none => rw [q] at c; exact c.elim
theorem rs_for {p : P} {it : I} {b : List S} {tg x : PySem.Expr} {xs : List Stmt} {pos : Pos} (hp : PassesOwn (model X.prog X.w) X.A X.env X.xe) (hc : X.calm = true) (hi : RI F W Φ X tg it x) (hg : PG X tg (rdG X.K p)) (hb : RSs F W Φ sub N X b xs)
    (hs : ∀ y, foldedSetIterable x X.env y = pure y) : RS F W Φ sub N X (.for p it b) (.For tg x xs [] pos) :=
  ps_imp (ps_for hp hc hi hg hb hs) fun D σ H ⟨σT, S, μ, a, b', c⟩ => by
    refine ⟨σT, S, μ, a, b', (PostS.ex (R' := fun H μ its J => WkOK F X.K J its H μ) (f := fun its => slock its.lock σT (forL its.chk (fun x σ => bindP p x σ) (fun σ => denSs Φ sub N b σ) its.xs σT)) a b' c).imp fun J H1 ⟨its, S1, μ1, a1, b1, s1, wk, c1⟩ => ?_⟩
    obtain ⟨hl, wk⟩ := wk
    obtain ⟨ixs, chk, lock⟩ := its
    have hl' : lock = none := hl
    subst hl'
    have c2 : PostS F X.K W D H1 μ1 (forL chk (fun x σ => bindP p x σ) (fun σ => denSs Φ sub N b σ) ixs σT S1) := c1
    refine ⟨fun i m σ' H' => m = ixs.length - i ∧ i ≤ ixs.length ∧ ∃ σT' S' μ', RSt X.K H' μ' σT' σ' ∧ Rep F X.K H' μ' S' ∧ Step H1 μ1 H' μ' ∧ PostS F X.K W D H' μ' (forL chk (fun x σ => bindP p x σ) (fun σ => denSs Φ sub N b σ) (ixs.drop i) σT' S'), ⟨_, rfl, Nat.zero_le _, σT, S1, μ1, a1, b1, Step.refl, by simpa using c2⟩, ?_⟩
    rintro i m σ' H' ⟨rfl, hi, σT', S', μ', a', r', st, c'⟩
    cases q : ixs.drop i with
    | nil =>
      have e : i = ixs.length := by
        have := List.drop_eq_nil_iff.mp q
        omega
      rw [q] at c'
      obtain ⟨ck, c3⟩ := check_ok (f := sret .nx σT') c'
      subst e
      exact .inl ⟨(wk H' μ' S' st r' ck).2.1, PostS.done (v := .non) (f := .nx) c3 r' a' fun t z => by cases z⟩
    | cons y ys =>
      rw [q] at c'
      obtain ⟨ck, c3⟩ := check_ok (f := sx σT' (bindP p y σT') fun σ1 => sseq (denSs Φ sub N b σ1) (turn (forL chk (fun x σ => bindP p x σ) (fun σ => denSs Φ sub N b σ) ys))) c'
      obtain ⟨σT2, eb, c4⟩ := bind_ok c3
      have hlt : i < ixs.length := by
        rcases Nat.lt_or_ge i ixs.length with z | z
        · exact z
        · rw [List.drop_eq_nil_iff.mpr z] at q; cases q
      have hy : ixs[i]? = some y := by
        have := congrArg (fun l => l[0]?) q
        simpa [List.getElem?_drop] using this
      have hys : ixs.drop (i + 1) = ys := by
        have := congrArg List.tail q
        simpa [List.tail_drop] using this
      obtain ⟨w1, w2, w3⟩ := wk H' μ' S' st r' ck
      refine .inr ⟨w1 i hlt, fun σ2 H2 => ∃ σT2 S2 μ2, RSt X.K H2 μ2 σT2 σ2 ∧ Rep F X.K H2 μ2 S2 ∧ Step H1 μ1 H2 μ2 ∧ PostS F X.K W D H2 μ2 (forL chk (fun x σ => bindP p x σ) (fun σ => denSs Φ sub N b σ) (ixs.drop (i + 1)) σT2 S2), fun σ2 H2 w => ⟨_, by omega, rfl, hlt, w⟩, fun v H2 yl => ?_⟩
      obtain ⟨r2, st2, rv⟩ := w3 i y v H2 hy yl
      refine ⟨y, σT', μ', σT2, rv, a'.step r' st2, eb, fun σ2 a2 _ => ⟨σT2, S', μ', a2, r2, ?_⟩⟩
      refine PostS.turn_ (D := D) (again := forL chk (fun x σ => bindP p x σ) (fun σ => denSs Φ sub N b σ) ys) _ (fun σT3 S3 H3 μ3 σ3 r3 s3 a3 c5 => ⟨σT3, S3, μ3, a3, r3, (st.trans st2).trans s3, ?_⟩) (PostS.from c4 st2)
      rw [hys]
      exact c5
/-! ### comprehensions -/
/-- a list that is being built beside the store -/
theorem Rep.touch {K : PySem.W.Frag} {H : Hp} {μ : List Addr} {S : Sto} {d : Addr} {vs ws : List V} (r : Rep F K H μ S) (hd : d ∉ μ) (h : H d = some (.lst vs)) : Rep F K (upd H d (.lst ws)) μ S ∧ (∀ t v, RV K H μ t v → RV K (upd H d (.lst ws)) μ t v) := by
  have sq : ∀ a xs, SqT K H a xs → SqT K (upd H d (.lst ws)) a xs := fun a xs q => by
    rcases q with q | q
    · refine .inl ?_
      have ne : a ≠ d := fun e => by
        subst e
        rcases q with q | ⟨o, q⟩ <;> rw [h] at q <;> cases q
      rcases q with q | ⟨o, q⟩
      · exact .inl (by rw [upd_ne ne]; exact q)
      · exact .inr ⟨o, by rw [upd_ne ne]; exact q⟩
    · exact .inr q
  have rv : ∀ t v, RV K H μ t v → RV K (upd H d (.lst ws)) μ t v := by
    intro t v q
    induction q using RV.rec (motive_2 := fun ts vs _ => RVs K (upd H d (.lst ws)) μ ts vs) with
    | non => exact .non
    | bl b => exact .bl b
    | int i => exact .int i
    | str x => exact .str x
    | tup q _ ih => exact .tup (sq _ _ q) ih
    | ref e => exact .ref e
    | nil => exact .nil
    | cons _ _ i1 i2 => exact .cons i1 i2
  have rvs : ∀ ts vs, RVs K H μ ts vs → RVs K (upd H d (.lst ws)) μ ts vs := by
    intro ts vs q
    induction ts generalizing vs with
    | nil => cases q; exact .nil
    | cons t ts ih => cases q with
      | cons r1 r2 => exact .cons (rv _ _ r1) (ih _ r2)
  refine ⟨⟨r.len, r.nd, fun l c a h1 h2 => ?_⟩, rv⟩
  have ne : a ≠ d := fun e => hd (e ▸ List.mem_of_getElem? h2)
  exact (r.cell l c a h1 h2).move (upd_ne ne) rvs
theorem Step.touch {H0 H : Hp} {μ0 μ : List Addr} {d : Addr} {o : HO} (s : Step H0 μ0 H μ) (h0 : H0 d = none) : Step H0 μ0 (upd H d o) μ :=
  ⟨s.ext, fun a o' ha h => by rw [upd_ne (ne_of_none h h0)]; exact s.keep a o' ha h, fun a h => by
    by_cases q : a = d
    · subst q; exact h0
    · rw [upd_ne q] at h; exact s.there a h⟩
theorem RSt.touch {K : PySem.W.Frag} {H H' : Hp} {μ : List Addr} {σT : Sl} {σ : L2.St} (a : RSt K H μ σT σ) (k : ∀ t v, RV K H μ t v → RV K H' μ t v) : RSt K H' μ σT σ := ⟨a.1, fun i t e => let ⟨v, h1, h2⟩ := a.2 i t e; ⟨v, h1, k t v h2⟩⟩
theorem wipe_wipe (σ : L2.St) : ∀ own, wipe (wipe σ own) own = wipe σ own := by
  have comm : ∀ (own : List Nat) (σ : L2.St) (i : Nat), wipe (σ.set i none) own = (wipe σ own).set i none := by
    intro own
    induction own with
    | nil => intro σ i; rfl
    | cons a r ih =>
      intro σ i
      unfold L2.wipe
      rw [ih]
      by_cases q : i = a
      · subst q; simp
      · exact List.set_comm _ _ q
  intro own
  induction own with
  | nil => rfl
  | cons a r ih =>
    show (wipe ((wipe σ r).set a none) r).set a none = (wipe σ r).set a none
    rw [comm, ih]
    simp
/-- the loop of a comprehension, calmly -/
theorem comp_step {chk : List (Nat × Cell)} {bnd : T → M Sl} {tst elt : Sl → M T} {x : T} {xs : List T} {S S' : Sto} {ys : List T} (h : compL chk bnd tst elt (x :: xs) S = some (.ok ys, S')) :
    (chk.all fun p => decide (S[p.1]? = some p.2)) = true ∧ ∃ σT S1 b S2, bnd x S = some (.ok σT, S1) ∧ tst σT S1 = some (.ok (.bl b), S2) ∧
      ((b = true ∧ ∃ y S3 ys', elt σT S2 = some (.ok y, S3) ∧ compL chk bnd tst elt xs S3 = some (.ok ys', S') ∧ ys = y :: ys') ∨ (b = false ∧ compL chk bnd tst elt xs S2 = some (.ok ys, S'))) := by
  obtain ⟨u, S0, e0, e1⟩ := seq_ok (show seq (check chk) (fun _ => seq (bnd x) fun σ => seq (tst σ) fun c => onB c (seq (elt σ) fun y => seq (compL chk bnd tst elt xs) fun ys => ret (y :: ys)) (compL chk bnd tst elt xs)) S = _ from h)
  have hck : (chk.all fun p => decide (S[p.1]? = some p.2)) = true ∧ S0 = S := by
    unfold check at e0
    split at e0
    · rename_i q
      injection e0 with e0; injection e0 with _ e2
      exact ⟨q, e2.symm⟩
    · cases e0
  obtain ⟨hck, rfl⟩ := hck
  obtain ⟨σT, S1, e2, e3⟩ := seq_ok e1
  obtain ⟨c, S2, e4, e5⟩ := seq_ok e3
  refine ⟨hck, σT, S1, ?_⟩
  cases c with
  | bl b =>
    refine ⟨b, S2, e2, e4, ?_⟩
    cases b with
    | true =>
      obtain ⟨y, S3, e6, e7⟩ := seq_ok (show seq (elt σT) (fun y => seq (compL chk bnd tst elt xs) fun ys => ret (y :: ys)) S2 = _ from e5)
      obtain ⟨ys', S4, e8, e9⟩ := seq_ok e7
      obtain ⟨rfl, rfl⟩ := ret_ok e9
      exact .inl ⟨rfl, y, S3, ys', e6, e8, rfl⟩
    | false => exact .inr ⟨rfl, e5⟩
  | _ => exact no_ok e5
/-- the tests of a comprehension -/
def rdTs (F : Fx) (K : PySem.W.Frag) (W : WX) (Φ : Fns) (cs : List E) : TT := rdT F K W (denAnd1 Φ cs)
theorem rts_nil {X : Cx} : PTs X [] (rdTs F X.K W Φ []) := ⟨fun pins s σ H Q I ⟨σT, S, μ, a, b, c⟩ => pts_nil.run pins s σ H Q I (Post.done (a := true) (b := true) c b Step.refl rfl)⟩
theorem rts_one {X : Cx} {e : E} {x : PySem.Expr} (h : RT F W Φ X e x) : PTs X [x] (rdTs F X.K W Φ [e]) := pts_one h
theorem RSt.wiped {K : PySem.W.Frag} {H : Hp} {μ : List Addr} {σT : Sl} {σ : L2.St} (h : RSt K H μ σT σ) (own : List Nat) : RSt K H μ (wipeT σT own) (L2.wipe σ own) := h.wipe own
/-- the pattern's slots are own ones; the tests and the item are told within the block -/
theorem re_lc {e : E} {own : List (Str × Nat)} {p : P} {it : I} {cs : List E} {elt tg iter : PySem.Expr} {ifs : List PySem.Expr} {scope : Scope} {pos : Pos} (hsl : ∀ i ∈ p.slots, i ∈ own.map (·.2))
    {σ : L2.St} {H : Hp} {Q : VK} (h : rdE F X.K W (denE Φ (.comp e (own.map (·.2)) p it cs)) σ H Q) :
    tLc (rdI F X.K W (denI Φ it)) (rdG X.K p) (rdTs F X.K (fun _ _ _ _ => False) Φ cs) (rdE F X.K (fun _ _ _ _ => False) (denE Φ e)) (own.map (·.2)) σ H Q := by
  obtain ⟨σT, S, μ, a, b, c⟩ := h
  have c0 : Post F X.K W σ (RV X.K) H μ (seq (denI Φ it σT) (fun its => seq (enter its.lock) fun _ =>
      seq (calmly (compL its.chk (fun x => bindP p x (wipeT σT (own.map (·.2)))) (fun σ' => denAnd1 Φ cs σ') (fun σ' => denE Φ e σ') its.xs)) fun ys =>
      seq (leave its.lock) fun _ => when_ (decide (ys.length < lineT)) (new (.lst ys))) S) Q := c
  refine ⟨σT, S, μ, a, b, (rdE.then_ (R' := fun H μ its J => WkOK F X.K J its H μ) (f := fun σT its => seq (enter its.lock) fun _ =>
      seq (calmly (compL its.chk (fun x => bindP p x (wipeT σT (own.map (·.2)))) (fun σ' => denAnd1 Φ cs σ') (fun σ' => denE Φ e σ') its.xs)) fun ys =>
      seq (leave its.lock) fun _ => when_ (decide (ys.length < lineT)) (new (.lst ys))) a b c0).imp fun J H1 ⟨its, S1, μ1, a1, b1, wk, s1, c1⟩ => ?_⟩
  obtain ⟨hl, wk⟩ := wk
  obtain ⟨ixs, chk, lock⟩ := its
  have hl' : lock = none := hl
  subst hl'
  have c2 : Post F X.K W σ (RV X.K) H1 μ1 (seq (calmly (compL chk (fun x => bindP p x (wipeT σT (own.map (·.2)))) (fun σ' => denAnd1 Φ cs σ') (fun σ' => denE Φ e σ') ixs)) (fun ys => when_ (decide (ys.length < lineT)) (new (.lst ys))) S1) Q := c1
  cases q : calmly (compL chk (fun x => bindP p x (wipeT σT (own.map (·.2)))) (fun σ' => denAnd1 Φ cs σ') (fun σ' => denE Φ e σ') ixs) S1 with
  | none => rw [show seq (calmly (compL chk (fun x => bindP p x (wipeT σT (own.map (·.2)))) (fun σ' => denAnd1 Φ cs σ') (fun σ' => denE Φ e σ') ixs)) (fun ys => when_ (decide (ys.length < lineT)) (new (.lst ys))) S1 = none by unfold seq; rw [q]] at c2; exact c2.elim
  | some r0 =>
  obtain ⟨ysF, SF, e1, e2⟩ := calmly_ok q
  subst e1
  rw [show seq (calmly (compL chk (fun x => bindP p x (wipeT σT (own.map (·.2)))) (fun σ' => denAnd1 Φ cs σ') (fun σ' => denE Φ e σ') ixs)) (fun ys => when_ (decide (ys.length < lineT)) (new (.lst ys))) S1 = when_ (decide (ysF.length < lineT)) (new (.lst ysF)) SF by unfold seq; rw [q]] at c2
  obtain ⟨hlen, c3⟩ := c2.when_
  have hlen' := of_decide_eq_true hlen
  rw [lineT_eq] at hlen'
  have fin : Out F X.K H1 μ1 (.ref SF.length) (SF ++ [.lst ysF]) Q := c3
  intro D hD
  -- what stands at each turn
  let own' := own.map (·.2)
  let L := compL chk (fun x => bindP p x (wipeT σT own')) (fun σ' => denAnd1 Φ cs σ') (fun σ' => denE Φ e σ')
  refine ⟨fun i m H' => m = ixs.length - i ∧ i ≤ ixs.length ∧ ∃ S' μ' acc accT ysR, Rep F X.K H' μ' S' ∧ Step H1 μ1 H' μ' ∧ D ∉ μ' ∧ H' D = some (.lst acc) ∧ RVs X.K H' μ' accT acc ∧ L (ixs.drop i) S' = some (.ok ysR, SF) ∧ accT ++ ysR = ysF,
    ⟨_, rfl, Nat.zero_le _, S1, μ1, [], [], ysF, (b1.beside (o := .lst []) hD).1, (b1.beside (o := .lst []) hD).2, fun hm => ?_, upd_same, .nil, by simpa using e2, by simp⟩, ?_⟩
  · obtain ⟨l, hl⟩ := List.getElem?_of_mem hm
    have hlt := (List.getElem?_eq_some_iff.mp hl).1
    rw [b1.len] at hlt
    obtain ⟨o, e, _⟩ := (b1.cell l (S1[l]) D (by simp [hlt]) hl).some
    rw [hD] at e; cases e
  rintro i m H' ⟨rfl, hi, S', μ', acc, accT, ysR, r', st, hDm, hDv, rva, hL, hys⟩
  cases qd : ixs.drop i with
  | nil =>
    have e : i = ixs.length := by
      have := List.drop_eq_nil_iff.mp qd
      omega
    rw [qd] at hL
    obtain ⟨u, S0, e0, e1⟩ := seq_ok (show seq (check chk) (fun _ => ret ([] : List T)) S' = _ from hL)
    obtain ⟨rfl, rfl⟩ := ret_ok e1
    have hck : (chk.all fun p => decide (S'[p.1]? = some p.2)) = true ∧ SF = S' := by
      unfold check at e0
      split at e0
      · rename_i q
        injection e0 with e0; injection e0 with _ e2
        exact ⟨q, e2.symm⟩
      · cases e0
    obtain ⟨hck, rfl⟩ := hck
    subst e
    refine .inl ⟨(wk H' μ' SF st r' hck).2.1, ?_⟩
    rw [List.append_nil] at hys
    subst hys
    -- the list becomes a cell
    have rl : Rep F X.K H' (μ' ++ [D]) (SF ++ [.lst accT]) ∧ Step H1 μ1 H' (μ' ++ [D]) := by
      have k : ∀ ts vs, RVs X.K H' μ' ts vs → RVs X.K H' (μ' ++ [D]) ts vs := fun ts vs q => by
        have h1 : ∀ t v, RV X.K H' μ' t v → RV X.K H' (μ' ++ [D]) t v := by
          intro t v q
          induction q using RV.rec (motive_2 := fun ts vs _ => RVs X.K H' (μ' ++ [D]) ts vs) with
          | non => exact .non
          | bl b => exact .bl b
          | int i => exact .int i
          | str x => exact .str x
          | tup q _ ih => exact .tup q ih
          | ref e => exact .ref (by rw [List.getElem?_append_left (List.getElem?_eq_some_iff.mp e).1]; exact e)
          | nil => exact .nil
          | cons _ _ i1 i2 => exact .cons i1 i2
        induction ts generalizing vs with
        | nil => cases q; exact .nil
        | cons t ts ih => cases q with
          | cons r1 r2 => exact .cons (h1 _ _ r1) (ih _ r2)
      obtain ⟨ν, e, n⟩ := st.ext
      refine ⟨⟨by simp [r'.len], ?_, fun l c' a h1 h2 => ?_⟩, ⟨ν ++ [D], by rw [e, List.append_assoc], fun x hx => ?_⟩, st.keep, st.there⟩
      · rw [List.nodup_append]
        exact ⟨r'.nd, by simp, fun a ha b hb => by simp at hb; subst hb; exact fun e => hDm (e ▸ ha)⟩
      · by_cases hl : l < SF.length
        · rw [List.getElem?_append_left hl] at h1
          rw [List.getElem?_append_left (by rw [r'.len]; exact hl)] at h2
          exact (r'.cell l c' a h1 h2).move rfl k
        · have hl2 : l = SF.length := by
            have := (List.getElem?_eq_some_iff.mp h1).1
            simp at this
            omega
          subst hl2
          rw [List.getElem?_append_right (Nat.le_refl _)] at h1
          rw [List.getElem?_append_right (by rw [r'.len]; exact Nat.le_refl _)] at h2
          simp [r'.len] at h1 h2
          subst h1; subst h2
          exact ⟨acc, hDv, k _ _ rva⟩
      · rcases List.mem_append.mp hx with z | z
        · exact n x z
        · simp at z; subst z; exact hD
    exact fin H' (μ' ++ [D]) (.ref D) rl.1 rl.2 (.ref (by rw [← r'.len, List.getElem?_append_right (Nat.le_refl _)]; simp))
  | cons y ys =>
    rw [qd] at hL
    have hlt : i < ixs.length := by
      rcases Nat.lt_or_ge i ixs.length with z | z
      · exact z
      · rw [List.drop_eq_nil_iff.mpr z] at qd; cases qd
    have hy : ixs[i]? = some y := by
      have := congrArg (fun l => l[0]?) qd
      simpa [List.getElem?_drop] using this
    have hys' : ixs.drop (i + 1) = ys := by
      have := congrArg List.tail qd
      simpa [List.tail_drop] using this
    obtain ⟨hck, σT2, Sb, k, St, eb, et, hk⟩ := comp_step hL
    obtain ⟨eb', rfl⟩ := opt_ok eb
    obtain ⟨w1, w2, w3⟩ := wk H' μ' Sb st r' hck
    let Nx : Hp → Prop := fun H2 => ∃ S2 μ2 acc2 accT2 ysR2, Rep F X.K H2 μ2 S2 ∧ Step H1 μ1 H2 μ2 ∧ D ∉ μ2 ∧ H2 D = some (.lst acc2) ∧ RVs X.K H2 μ2 accT2 acc2 ∧ L (ixs.drop (i + 1)) S2 = some (.ok ysR2, SF) ∧ accT2 ++ ysR2 = ysF
    refine .inr ⟨w1 i hlt, Nx, fun H2 w => ⟨_, by omega, rfl, hlt, w⟩, fun v H2 yl => ?_⟩
    obtain ⟨r2, st2, rv⟩ := w3 i y v H2 hy yl
    have aW : RSt X.K H2 μ' (wipeT σT own') (wipe σ own') := ((a1.wiped own').step b1 st).step r' st2
    refine ⟨y, wipeT σT own', μ', σT2, rv, aW, eb', fun σ2 a2 hw => ⟨(hw own' hsl).trans (wipe_wipe σ own'), ?_⟩⟩
    have hD2 : ∀ {H3 μ3}, Step H2 μ' H3 μ3 → D ∉ μ3 ∧ H3 D = some (.lst acc) := fun {H3 μ3} s3 => by
      have h2 : H2 D = some (.lst acc) := st2.keep D _ hDm hDv
      refine ⟨fun hm => ?_, s3.keep D _ hDm h2⟩
      obtain ⟨ν, e, n⟩ := s3.ext
      rw [e] at hm
      rcases List.mem_append.mp hm with z | z
      · exact hDm z
      · rw [n D z] at h2; cases h2
    refine ⟨σT2, Sb, μ', a2, r2, ?_⟩
    rw [show seq (denAnd1 Φ cs σT2) asB Sb = some (.ok k, St) by unfold seq; rw [et]; rfl]
    intro H3 μ3 k' r3 s3 ek
    have ek' : k = k' := ek
    subst ek'
    rcases hk with ⟨rfl, z, S3, ysR', ez, eL, rfl⟩ | ⟨rfl, eL⟩
    · rw [if_pos rfl]
      refine ⟨σT2, St, μ3, a2.step r2 s3, r3, ?_⟩
      rw [ez]
      intro H4 μ4 zv r4 s4 rz
      obtain ⟨d1, d2⟩ := hD2 (s3.trans s4)
      have accLen : acc.length < sizeLine := by
        have h1 := rva.length
        have h2 := congrArg List.length hys
        simp at h2
        omega
      refine ⟨acc, d2, accLen, ?_⟩
      have tch := r4.touch (ws := acc ++ [zv]) d1 d2
      have sAll : Step H1 μ1 H4 μ4 := (st.trans st2).trans (s3.trans s4)
      refine ⟨S3, μ4, acc ++ [zv], accT ++ [z], ysR', tch.1, sAll.touch hD, d1, upd_same, ?_, by rw [hys']; exact eL, by rw [← hys]; simp⟩
      have rva4 : RVs X.K H4 μ4 accT acc := (rva.step r' st2).step r2 (s3.trans s4)
      have lift : ∀ {ts vs}, RVs X.K H4 μ4 ts vs → RVs X.K (upd H4 D (.lst (acc ++ [zv]))) μ4 ts vs := by
        intro ts vs q
        induction ts generalizing vs with
        | nil => cases q; exact .nil
        | cons t ts ih => cases q with
          | cons r1 r2 => exact .cons (tch.2 _ _ r1) (ih r2)
      exact (lift rva4).append (.cons (tch.2 _ _ rz) .nil)
    · rw [if_neg (by simp)]
      obtain ⟨d1, d2⟩ := hD2 s3
      exact ⟨St, μ3, acc, accT, ysR, r3, (st.trans st2).trans s3, d1, d2, (rva.step r' st2).step r2 s3, by rw [hys']; exact eL, hys⟩
end
end LS
end

section
set_option Elab.async false
set_option linter.all false
set_option maxRecDepth 100000
set_option maxHeartbeats 4000000
/-! LS.Calls: built-ins, methods. -/
namespace LS
open PySem PySem.Spec PyProof.Rows L2
section
variable {X : Cx} {F : Fx} {W : WX} {Φ : Fns}
/-- a built-in function -/
theorem re_blt {p : Prim} {id : String} {x : Str} {e : E} {es : List E} {y : PySem.Expr} {ys : List PySem.Expr} {pp pos : Pos} (hc : CallR X (.builtin id) (rC F X.K (prim p))) (hg : Gl X x) (hm : X.mg x = none) (hv : bootBuiltins x = some (.builtin id)) (ha : RAs F W Φ X (e :: es) (y :: ys))
    (hn : x ≠ "__name__") (hdb : (x == ("__debug__" : Str)) = false) (he : starEach (y :: ys) X.env = (false, eval y X.env) :: starEach ys X.env) (hpl : (backTo pos (starEach ys X.env)).any (·.1) = false) : RE F W Φ X (.app p (e :: es)) (.Call (.Name x pp) (y :: ys) [] pos) :=
  pe_imp (pe_callB hc hg hm hv ha hn hdb he hpl) fun _ _ _ q => rd_app q
/-- a built-in type -/
theorem re_ty {p : Prim} {t : String} {x : Str} {e : E} {es : List E} {y : PySem.Expr} {ys : List PySem.Expr} {pp pos : Pos} (hc : CallR X (.type t) (rC F X.K (prim p))) (hg : Gl X x) (hm : X.mg x = none) (hv : bootBuiltins x = some (.type t)) (ha : RAs F W Φ X (e :: es) (y :: ys))
    (hn : x ≠ "__name__") (hdb : (x == ("__debug__" : Str)) = false) (he : starEach (y :: ys) X.env = (false, eval y X.env) :: starEach ys X.env) (hpl : (backTo pos (starEach ys X.env)).any (·.1) = false) : RE F W Φ X (.app p (e :: es)) (.Call (.Name x pp) (y :: ys) [] pos) :=
  pe_imp (pe_callTy hc hg hm hv ha hn hdb he hpl) fun _ _ _ q => rd_app q
theorem one_arg_only {m : List T → M T} (h : ∀ ts, (∀ a, ts ≠ [a]) → m ts = fail) : ∀ ts S r, (∀ a, ts ≠ [a]) → m ts S = some r → False := fun ts S r n e => by rw [h ts n] at e; cases e
theorem c_tuple : CallR X (.type "tuple") (rC F X.K pTuple) := by
  intro pins s σ H xs us Q I rx h
  obtain ⟨x, S, μ, a, t, S', rfl, r, ra, e, o⟩ := one_of h fun ts S r n e => by
    rcases ts with _ | ⟨a, _ | ⟨b, ts⟩⟩
    · exact no_ok e
    · exact n a rfl
    · cases a <;> exact no_ok e
  cases a with
  | tup ts =>
    obtain ⟨rfl, rfl⟩ := ret_ok (show ret (T.tup ts) S = _ from e)
    obtain ⟨p, vs, rfl, q, rv⟩ := ra.tups
    exact call_tuple_of pins s σ H _ us Q I rx ⟨p, vs, rfl, .inr ⟨q, o.here r (.tup q rv)⟩⟩
  | ref l =>
    obtain ⟨ts, S1, e1, e2⟩ := seq_ok (show seq (listAt l) (fun xs => ret (T.tup xs)) S = _ from e)
    obtain ⟨h1, rfl⟩ := listAt_ok e1
    obtain ⟨rfl, rfl⟩ := ret_ok e2
    obtain ⟨p, rfl, hl⟩ := ra.refs
    obtain ⟨vs, q, rv⟩ := r.list h1 hl
    exact call_tuple_of pins s σ H _ us Q I rx ⟨p, vs, rfl, .inl ⟨q, fun p hp => o.newTup r rv hp⟩⟩
  | _ => exact no_ok e
theorem c_list : CallR X (.type "list") (rC F X.K pList) := by
  intro pins s σ H xs us Q I rx h
  obtain ⟨x, S, μ, a, t, S', rfl, r, ra, e, o⟩ := one_of h fun ts S r n e => by
    rcases ts with _ | ⟨a, _ | ⟨b, ts⟩⟩
    · exact no_ok e
    · exact n a rfl
    · cases a <;> exact no_ok e
  cases a with
  | tup ts =>
    obtain ⟨rfl, rfl⟩ := new_ok (show new (.lst ts) S = _ from e)
    obtain ⟨p, vs, rfl, q, rv⟩ := ra.tups
    exact call_list_of pins s σ H _ us Q I rx ⟨p, vs, rfl, .inr q, fun p hp => o.newList r rv hp⟩
  | ref l =>
    obtain ⟨ts, S1, e1, e2⟩ := seq_ok (show seq (listAt l) (fun xs => new (.lst xs)) S = _ from e)
    obtain ⟨h1, rfl⟩ := listAt_ok e1
    obtain ⟨rfl, rfl⟩ := new_ok e2
    obtain ⟨p, rfl, hl⟩ := ra.refs
    obtain ⟨vs, q, rv⟩ := r.list h1 hl
    exact call_list_of pins s σ H _ us Q I rx ⟨p, vs, rfl, .inl q, fun p hp => o.newList r rv hp⟩
  | _ => exact no_ok e
theorem optAll_len {α β : Type} {f : α → Option β} : ∀ {xs : List α} {ys : List β}, optAll f xs = some ys → ys.length = xs.length
  | [], ys, h => by cases h; rfl
  | x :: xs, ys, h => by
    obtain ⟨b, r, rfl, _, h2⟩ := optAll_cons h
    simp [optAll_len h2]
theorem depth_mem {d : PyData} : ∀ {ds : List PyData}, d ∈ ds → d.depth ≤ PyData.depthAll ds
  | [], h => by simp at h
  | e :: r, h => by
    simp only [PyData.depthAll]
    rcases List.mem_cons.mp h with z | z
    · subst z; omega
    · have := depth_mem z; omega
theorem itemsOf_ok {t : T} {xs : List T} {S S' : Sto} (h : itemsOf t S = some (.ok xs, S')) : S' = S ∧ (t = .tup xs ∨ ∃ l, t = .ref l ∧ (S[l]? = some (.lst xs) ∨ S[l]? = some (.fro xs))) := by
  cases t with
  | tup ys =>
    obtain ⟨rfl, rfl⟩ := ret_ok (show ret ys S = _ from h)
    exact ⟨rfl, .inl rfl⟩
  | ref l =>
    obtain ⟨h1, h2⟩ := listAt_ok (show listAt l S = _ from h)
    exact ⟨h2, .inr ⟨l, rfl, h1⟩⟩
  | _ => exact no_ok h
/-- sorted(a list of data) -/
theorem c_sorted (hu : X.A.units + 100 < cLine) : CallR X (.builtin "sorted") (rC F X.K pSorted) := by
  intro pins s σ H xs us Q I rx h
  obtain ⟨x, S, μ, a, t, S', rfl, r, ra, e, o⟩ := one_of h fun ts S r n e => by
    rcases ts with _ | ⟨a, _ | ⟨b, ts⟩⟩
    · exact no_ok e
    · exact n a rfl
    · cases a <;> exact no_ok e
  cases a with
  | ref l =>
    obtain ⟨ts, S1, e1, e2⟩ := seq_ok (show seq (lstAt l) sortM S = _ from e)
    obtain ⟨h1, rfl⟩ := lstAt_ok e1
    have e3 : (match sortT S1 ts with
      | some ys => new (.lst ys) S1
      | none => none) = some (.ok t, S') := e2
    cases q : sortT S1 ts with
    | none => rw [q] at e3; cases e3
    | some ys =>
      rw [q] at e3
      obtain ⟨rfl, rfl⟩ := new_ok e3
      obtain ⟨p, rfl, hl⟩ := ra.refs
      obtain ⟨vs, qH, rv⟩ := r.lst h1 hl
      obtain ⟨its, rvV, pl, hz⟩ := I.list (SqL.of qH)
      obtain ⟨u, rfl, r1⟩ := vals1 rx
      cases r1
      -- the items' data
      unfold sortT at q
      cases qd : optAll (T.data S1 deep) ts with
      | none => rw [qd] at q; cases q
      | some ds =>
        rw [qd] at q
        simp only at q
        split at q
        · rename_i hc
          simp only [Bool.and_eq_true] at hc
          have q' := Option.some.inj q
          obtain ⟨p1, p2, p3⟩ := dps_of (fun t d v => data_dp r 60 t d v) _ _ _ qd rv
          have hlen : ds.length = ts.length := optAll_len qd
          have hal : PySem.W.AllAlike ds := fun d hd d' hd' => by
            have := hc.1
            unfold alikes at this
            simp only [List.all_eq_true] at this
            exact this d hd d' hd'
          have hk : PySem.W.Sortable ds := by
            have := hc.2
            unfold sortableD at this
            rcases Bool.or_eq_true_iff.mp this with z | z
            · left
              intro d hd
              have := List.all_eq_true.mp z d hd
              split at this
              · exact ⟨_, _, rfl⟩
              · cases this
            · right
              intro d hd
              have := List.all_eq_true.mp z d hd
              refine ⟨fun e => ?_, fun xs e => ?_⟩ <;> (subst e; simp at this)
          -- each value, its tree and its data
          have hmap : (ts.zip ds).map (fun p : T × PyData => p.2) = ds := List.map_snd_zip (by omega)
          have hfst : (ts.zip ds).map (fun p : T × PyData => p.1) = ts := List.map_fst_zip (by omega)
          have each : ∀ {ts : List T} {vs : List V} {ds : List PyData} {its : List Value}, RVs X.K H μ ts vs → DpAll X.K H vs ds → Vals vs its → PySem.W.EachIs (fun (u : Value) (p : T × PyData) => (∃ v, RV X.K H μ p.1 v ∧ L2.RelV v u) ∧ ∃ as, Reads s.heap u p.2 as) its (ts.zip ds) := by
            intro ts vs ds its h1 h2 h3
            induction h3 generalizing ts ds with
            | nil => cases h1; cases h2; exact .nil
            | cons r1 r2 ih =>
              cases h1 with
              | cons a1 a2 =>
                cases h2 with
                | cons b1 b2 => exact .cons ⟨⟨_, a1, r1⟩, Dp.reads I _ _ _ b1 r1⟩ (ih a2 b2)
          have ea := each rv p1 rvV
          have em : deep = 60 := rfl
          have hb : (ts.zip ds).length ≤ sizeLine := by
            rw [List.length_zip, hlen, Nat.min_self, rv.length]
            exact hz
          refine PySem.W.sorted_data (R := fun (u : Value) (p : T × PyData) => ∃ v, RV X.K H μ p.1 v ∧ L2.RelV v u) (enc := fun p : T × PyData => p.2) pl.isList (ea.mono fun _ _ z => z.1) (ea.mono fun _ _ z => z.2) (by rw [hmap]; exact hal) (by rw [hmap]; exact hk) hb (fun b hb => ?_) fun out ho eo => ?_
          · have hm : b.2 ∈ ds := by rw [← hmap]; exact List.mem_map.mpr ⟨b, hb, rfl⟩
            have := depth_mem hm
            omega
          · have split : ∀ {bs : List (T × PyData)} {out : List Value}, PySem.W.EachIs (fun (u : Value) (p : T × PyData) => ∃ v, RV X.K H μ p.1 v ∧ L2.RelV v u) out bs → ∃ vs, RVs X.K H μ (bs.map (·.1)) vs ∧ Vals vs out := by
              intro bs out h
              induction h with
              | nil => exact ⟨[], .nil, .nil⟩
              | cons h1 h2 ih =>
                obtain ⟨v, a1, a2⟩ := h1
                obtain ⟨vs, b1, b2⟩ := ih
                exact ⟨v :: vs, .cons a1 b1, .cons a2 b2⟩
            obtain ⟨vs', c1, c2⟩ := split eo
            obtain ⟨ep, he'⟩ := PyProof.Rows.sortedAll_at s.heap its out.toArray
            rw [q'] at c1
            have hl' : vs'.length ≤ sizeLine := by rw [c2.length, ho]; exact hb
            refine ⟨.ref _, upd H (s.heap.objs.size + 1) (.lst vs'), I.laid (t' := s.toks) (fun _ _ => PyProof.Rows.sortedAll_old) (Nat.le_succ _) ⟨hl', out, ep, c2, he'⟩, rfl, ?_⟩
            exact o.newList r c1 (I.hok.fresh (Nat.le_succ _))
        · cases q
  | _ => exact no_ok e
end
end LS
end

section
set_option Elab.async false
set_option linter.all false
set_option maxRecDepth 100000
set_option maxHeartbeats 4000000
/-! LS.Meth: methods of built-in types, stores of items. -/
namespace LS
open PySem PySem.Spec PyProof.Rows L2
def tyN : Ty → String
  | .str => "str"
  | .list => "list"
  | .dict => "dict"
  | _ => "int"
section
variable {X : Cx} {F : Fx} {W : WX} {Φ : Fns}
theorem kindOf_ok {K : PySem.W.Frag} {k : Ty} {t : T} {u : Unit} {S S' : Sto} {H : Hp} {μ : List Addr} {x : V} (r : Rep F K H μ S) (rv : RV K H μ t x) (h : kindOf k t S = some (.ok u, S')) : S' = S ∧ tyV K (tyN k) x H := by
  cases t with
  | str z =>
    cases k <;> first
      | (obtain ⟨_, h2⟩ := ret_ok (show ret () S = _ from h)
         have := rv.strs
         subst this
         exact ⟨h2, rfl⟩)
      | cases h
  | ref l =>
    obtain ⟨a, rfl, hl⟩ := rv.refs
    cases k with
    | list =>
      have h2 : (match S[l]? with
        | some (.lst _) => some (.ok (), S)
        | _ => none) = some ((.ok u, S') : Res Unit) := h
      split at h2
      · rename_i xs q
        injection h2 with h2; injection h2 with _ h3
        obtain ⟨vs, q1, _⟩ := r.lst q hl
        exact ⟨h3.symm, .inl ⟨rfl, vs, SqL.of q1⟩⟩
      · cases h2
    | dict =>
      have h2 : (match S[l]? with
        | some (.dct _ _) => some (.ok (), S)
        | _ => none) = some ((.ok u, S') : Res Unit) := h
      split at h2
      · rename_i tk kvs q
        injection h2 with h2; injection h2 with _ h3
        cases tk with
        | true => exact (r.cell l _ a q hl).elim
        | false =>
          obtain ⟨es, q1, _⟩ := r.cell l _ a q hl
          exact ⟨h3.symm, .inr (.inr (.inl ⟨rfl, .inl ⟨es, q1⟩⟩))⟩
      · cases h2
    | _ => cases h
  | _ => cases k <;> cases h
theorem calm_kindOf (k : Ty) (t : T) : Calm (kindOf k t) := fun S x S' h => by
  cases t with
  | ref l =>
    cases k with
    | list =>
      have h2 : (match S[l]? with
        | some (.lst _) => some (.ok (), S)
        | _ => none) = some ((.error x, S') : Res Unit) := h
      split at h2 <;> cases h2
    | dict =>
      have h2 : (match S[l]? with
        | some (.dct _ _) => some (.ok (), S)
        | _ => none) = some ((.error x, S') : Res Unit) := h
      split at h2 <;> cases h2
    | _ => cases h
  | _ => cases k <;> cases h
theorem rd_meth {K : PySem.W.Frag} {k : Ty} {p : Prim} {o : E} {es : List E} {σ : L2.St} {H : Hp} {Q : VK} (h : rdE F K W (denE Φ (.meth k p o es)) σ H Q) :
    rdE F K W (denE Φ o) σ H fun x H1 => tyV K (tyN k) x H1 ∧ rdA F K W (denEs Φ es) σ H1 fun xs H2 => rP F K (prim p) (x :: xs) H2 Q := by
  obtain ⟨σT, S, μ, a, b, c⟩ := h
  have c0 : Post F K W σ (RV K) H μ (seq (denE Φ o σT) (fun t => seq (kindOf k t) fun _ => seq (denEs Φ es σT) fun ts => calmly (prim p (t :: ts))) S) Q := c
  refine ⟨σT, S, μ, a, b, (rdE.then_ (R' := RV K) (f := fun σT t => seq (kindOf k t) fun _ => seq (denEs Φ es σT) fun ts => calmly (prim p (t :: ts))) a b c0).imp fun x H1 ⟨t, S1, μ1, a1, b1, rx, s1, c1⟩ => ?_⟩
  cases q : kindOf k t S1 with
  | none => rw [show seq (kindOf k t) (fun _ => seq (denEs Φ es σT) fun ts => calmly (prim p (t :: ts))) S1 = none by unfold seq; rw [q]] at c1; exact c1.elim
  | some r =>
    obtain ⟨r1, S2⟩ := r
    cases r1 with
    | error x => exact absurd q (calm_kindOf k t S1 x S2)
    | ok u =>
      obtain ⟨rfl, ty⟩ := kindOf_ok b1 rx q
      rw [show seq (kindOf k t) (fun _ => seq (denEs Φ es σT) fun ts => calmly (prim p (t :: ts))) S2 = seq (denEs Φ es σT) (fun ts => calmly (prim p (t :: ts))) S2 by unfold seq; rw [q]] at c1
      refine ⟨ty, σT, S2, μ1, a1, b1, (rdE.then_ (R' := RVs K) (f := fun _ ts => calmly (prim p (t :: ts))) a1 b1 c1).imp fun xs H2 ⟨ts, S3, μ2, a2, b2, rxs, s2, c2⟩ => ?_⟩
      exact rP_of ⟨t :: ts, S3, μ2, b2, .cons (rx.step b1 s2) rxs, c2⟩
abbrev rM (F : Fx) (K : PySem.W.Frag) (m : List T → M T) : V → List V → Hp → VK → Prop := fun x xs H Q => rP F K m (x :: xs) H Q
theorem re_meth0 {k : Ty} {p : Prim} {id : String} {name : Str} {o : E} {x : PySem.Expr} {apos cpos : Pos} (pa : PlainAttrs (tyN k)) (slot : Slot (tyN k) name id) (hty : typeOf (.builtin id) = pure (.type "method_descriptor")) (hm : MtR X id (rM F X.K (prim p))) (ho : RE F W Φ X o x)
    (hbase : attributeBase x name X.env (eval x X.env) = eval x X.env) (hline : (apos.endLine == cpos.line) = true) : RE F W Φ X (.meth k p o []) (.Call (.Attribute x name apos) [] [] cpos) :=
  pe_imp (pe_bm0 pa slot hty hm ho hbase hline) fun _ _ _ q => (rd_meth q).mono fun _ _ ⟨t, q1⟩ => ⟨t, rdA_nil q1⟩
theorem re_meth {k : Ty} {p : Prim} {id : String} {name : Str} {o e : E} {es : List E} {x y : PySem.Expr} {ys : List PySem.Expr} {apos cpos : Pos} (pa : PlainAttrs (tyN k)) (slot : Slot (tyN k) name id) (hty : typeOf (.builtin id) = pure (.type "method_descriptor")) (hm : MtR X id (rM F X.K (prim p))) (ho : RE F W Φ X o x) (ha : RAs F W Φ X (e :: es) (y :: ys))
    (hbase : attributeBase x name X.env (eval x X.env) = eval x X.env)
    (hfew : ((backTo cpos (starEach (y :: ys) X.env)).all (fun x => !x.1) && (backToKw cpos (keywordEach [] X.env)).all (fun x => x.1.isSome) && decide ((y :: ys).length + ([] : List Keyword).length + (if ([] : List Keyword).isEmpty then 0 else 1) < 30)) = true)
    (hline : (apos.endLine == cpos.line) = true) (hs : starEach (y :: ys) X.env = (false, eval y X.env) :: starEach ys X.env) (hplain : (backTo cpos (starEach ys X.env)).any (·.1) = false) :
    RE F W Φ X (.meth k p o (e :: es)) (.Call (.Attribute x name apos) (y :: ys) [] cpos) :=
  pe_imp (pe_bm pa slot hty hm ho ha hbase hfew hline hs hplain) fun _ _ _ q => rd_meth q
/-- a method of one argument, of none -/
theorem two_of {m : List T → M T} {K : PySem.W.Frag} {x : V} {xs : List V} {H : Hp} {Q : VK} (h : rM F K m x xs H Q) (hm : ∀ ts S r, (∀ a b, ts ≠ [a, b]) → m ts S = some r → False) :
    ∃ y S μ a b t S', xs = [y] ∧ Rep F K H μ S ∧ RV K H μ a x ∧ RV K H μ b y ∧ m [a, b] S = some (.ok t, S') ∧ Out F K H μ t S' Q := by
  obtain ⟨S, μ, ts, t, S', r, rv, e, o⟩ := h
  rcases rv with _ | ⟨ra, _ | ⟨rb, rv⟩⟩
  · exact (hm _ _ _ (by simp) e).elim
  · rcases rv with _ | ⟨_, rv⟩
    · exact ⟨_, S, μ, _, _, t, S', rfl, r, ra, rb, e, o⟩
    · exact (hm _ _ _ (by simp) e).elim
theorem one_of' {m : List T → M T} {K : PySem.W.Frag} {x : V} {xs : List V} {H : Hp} {Q : VK} (h : rM F K m x xs H Q) (hm : ∀ ts S r, (∀ a, ts ≠ [a]) → m ts S = some r → False) :
    ∃ S μ a t S', xs = [] ∧ Rep F K H μ S ∧ RV K H μ a x ∧ m [a] S = some (.ok t, S') ∧ Out F K H μ t S' Q := by
  obtain ⟨S, μ, ts, t, S', r, rv, e, o⟩ := h
  rcases rv with _ | ⟨ra, _ | ⟨rb, rv⟩⟩
  · exact ⟨S, μ, _, t, S', rfl, r, ra, e, o⟩
  · exact (hm _ _ _ (by simp) e).elim
theorem m_append : MtR X "list.append" (rM F X.K pAppend) := by
  intro pins s σ H x xs v us Q I rx rs h
  obtain ⟨y, S, μ, a, b, t, S', rfl, r, ra, rb, e, o⟩ := two_of h fun ts S r n e => by
    rcases ts with _ | ⟨a, _ | ⟨b, _ | ⟨c, ts⟩⟩⟩
    · exact no_ok e
    · cases a <;> exact no_ok e
    · exact n a b rfl
    · cases a <;> exact no_ok e
  cases a with
  | ref l =>
    obtain ⟨ts, S1, e1, e2⟩ := seq_ok (show seq (lstAt l) (fun xs => when_ (decide (xs.length < lineT)) (seq (put l (.lst (xs ++ [b]))) fun _ => ret T.non)) S = _ from e)
    obtain ⟨h1, rfl⟩ := lstAt_ok e1
    obtain ⟨c, e3⟩ := when_ok e2
    obtain ⟨u, S2, e4, e5⟩ := seq_ok e3
    obtain ⟨_, rfl⟩ := put_ok e4
    obtain ⟨rfl, rfl⟩ := ret_ok e5
    obtain ⟨p, rfl, hl⟩ := ra.refs
    obtain ⟨vs, q, rv⟩ := r.lst h1 hl
    have c' := of_decide_eq_true c
    rw [lineT_eq, rv.length] at c'
    exact mt_append pins s σ H _ _ v us Q I rx rs ⟨p, vs, y, rfl, rfl, q, c', o.setList r hl (rv.append (.cons rb .nil)) .non⟩
  | _ => exact no_ok e
theorem m_extend : MtR X "list.extend" (rM F X.K pExtend) := by
  intro pins s σ H x xs v us Q I rx rs h
  obtain ⟨y, S, μ, a, b, t, S', rfl, r, ra, rb, e, o⟩ := two_of h fun ts S r n e => by
    rcases ts with _ | ⟨a, _ | ⟨b, _ | ⟨c, ts⟩⟩⟩
    · exact no_ok e
    · cases a <;> exact no_ok e
    · exact n a b rfl
    · cases a <;> cases b <;> exact no_ok e
  cases a with
  | ref l =>
    cases b with
    | ref l' =>
      obtain ⟨ts, S1, e1, e2⟩ := seq_ok (show seq (lstAt l) (fun xs => seq (lstAt l') fun ys => when_ (decide (xs.length + ys.length ≤ lineT) && !(l == l')) (seq (put l (.lst (xs ++ ys))) fun _ => ret T.non)) S = _ from e)
      obtain ⟨h1, rfl⟩ := lstAt_ok e1
      obtain ⟨ts', S3, e1', e2'⟩ := seq_ok e2
      obtain ⟨h1', rfl⟩ := lstAt_ok e1'
      obtain ⟨c, e3⟩ := when_ok e2'
      obtain ⟨u, S2, e4, e5⟩ := seq_ok e3
      obtain ⟨_, rfl⟩ := put_ok e4
      obtain ⟨rfl, rfl⟩ := ret_ok e5
      obtain ⟨p, rfl, hl⟩ := ra.refs
      obtain ⟨p', rfl, hl'⟩ := rb.refs
      obtain ⟨vs, q, rv⟩ := r.lst h1 hl
      obtain ⟨vs', q', rv'⟩ := r.lst h1' hl'
      simp only [Bool.and_eq_true, decide_eq_true_eq] at c
      have c' := c.1
      rw [lineT_eq, rv.length, rv'.length] at c'
      exact mt_extend pins s σ H _ _ v us Q I rx rs ⟨p, p', vs, vs', rfl, rfl, q, q', c', o.setList r hl (rv.append rv') .non⟩
    | _ => exact no_ok e
  | _ => cases b <;> exact no_ok e
theorem RVs.dropLast {K : PySem.W.Frag} {H : Hp} {μ : List Addr} : ∀ {ts : List T} {vs : List V}, RVs K H μ ts vs → RVs K H μ ts.dropLast vs.dropLast
  | _, _, .nil => .nil
  | [_], [_], .cons a .nil => .nil
  | _ :: _ :: _, _ :: _ :: _, .cons a (.cons b c) => .cons a (RVs.dropLast (.cons b c))
theorem m_pop : MtR X "list.pop" (rM F X.K pPop) := by
  intro pins s σ H x xs v us Q I rx rs h
  obtain ⟨S, μ, a, t, S', rfl, r, ra, e, o⟩ := one_of' h fun ts S r n e => by
    rcases ts with _ | ⟨a, _ | ⟨b, ts⟩⟩
    · exact no_ok e
    · exact n a rfl
    · cases a <;> exact no_ok e
  cases a with
  | ref l =>
    obtain ⟨ts, S1, e1, e2⟩ := seq_ok (show seq (lstAt l) (fun xs => match xs.getLast? with
      | some x => seq (put l (.lst xs.dropLast)) fun _ => ret x
      | none => fail) S = _ from e)
    obtain ⟨h1, rfl⟩ := lstAt_ok e1
    cases q0 : ts.getLast? with
    | none => rw [q0] at e2; cases e2
    | some z =>
      rw [q0] at e2
      obtain ⟨u, S2, e4, e5⟩ := seq_ok (show seq (put l (.lst ts.dropLast)) (fun _ => ret z) S1 = _ from e2)
      obtain ⟨_, rfl⟩ := put_ok e4
      obtain ⟨rfl, rfl⟩ := ret_ok e5
      obtain ⟨p, rfl, hl⟩ := ra.refs
      obtain ⟨vs, q, rv⟩ := r.lst h1 hl
      have q1 : ts[ts.length - 1]? = some t := by rw [← List.getLast?_eq_getElem?]; exact q0
      obtain ⟨w, h3, h4⟩ := rv.get q1
      rw [rv.length] at h3
      exact mt_pop pins s σ H _ _ v us Q I rx rs ⟨p, vs, w, rfl, rfl, q, h3, o.setList r hl rv.dropLast h4⟩
  | _ => exact no_ok e
theorem m_popAt : MtR X "list.pop" (rM F X.K pPopAt) := by
  intro pins s σ H x xs v us Q I rx rs h
  obtain ⟨y, S, μ, a, b, t, S', rfl, r, ra, rb, e, o⟩ := two_of h fun ts S r n e => by
    rcases ts with _ | ⟨a, _ | ⟨b, _ | ⟨c, ts⟩⟩⟩
    · exact no_ok e
    · cases a <;> exact no_ok e
    · exact n a b rfl
    · cases a <;> cases b <;> exact no_ok e
  cases a with
  | ref l =>
    cases b with
    | int i =>
      obtain ⟨ts, S1, e1, e2⟩ := seq_ok (show seq (lstAt l) (fun xs => seq (opt (LS.ixN xs.length i)) fun k => match xs[k]? with
        | some x => seq (put l (.lst (xs.eraseIdx k))) fun _ => ret x
        | none => fail) S = _ from e)
      obtain ⟨h1, rfl⟩ := lstAt_ok e1
      obtain ⟨k, S3, e3, e4⟩ := seq_ok e2
      obtain ⟨hk, rfl⟩ := opt_ok e3
      cases q0 : ts[k]? with
      | none => rw [q0] at e4; cases e4
      | some z =>
        rw [q0] at e4
        obtain ⟨u, S2, e5, e6⟩ := seq_ok (show seq (put l (.lst (ts.eraseIdx k))) (fun _ => ret z) S3 = _ from e4)
        obtain ⟨_, rfl⟩ := put_ok e5
        obtain ⟨rfl, rfl⟩ := ret_ok e6
        obtain ⟨p, rfl, hl⟩ := ra.refs
        have eb := rb.ints
        subst eb
        obtain ⟨vs, q, rv⟩ := r.lst h1 hl
        obtain ⟨w, h3, h4⟩ := rv.get q0
        rw [ixN_eq, rv.length] at hk
        obtain ⟨k1, k2, k3, k4⟩ := ixN_seq hk
        obtain ⟨its, _, _, hz⟩ := I.list (SqL.of q)
        have hn := line63
        exact mt_popAt pins s σ H _ _ v us Q I rx rs ⟨p, vs, i, k, w, rfl, rfl, q, by omega, by omega, k1, h3, o.setList r hl (rv.eraseIdx k) h4⟩
    | _ => exact no_ok e
  | _ => cases b <;> exact no_ok e
/-! ### d.get(k), d.get(k, x) -/
theorem look_get {K : PySem.W.Frag} {H : Hp} {μ : List Addr} (k : Key) {kvs : List (T × T)} {es : List (Key × V)} {d : T} {y : V} (q2 : kvs.map (·.1) = es.map (fun p => keyT p.1)) (q3 : RVs K H μ (kvs.map (·.2)) (es.map (·.2))) (rd : RV K H μ d y) :
    RV K H μ ((dLook kvs (keyT k)).getD d) ((valV es k).getD y) := by
  rcases look_key k q2 q3 with ⟨z1, z2⟩ | ⟨_, _, z1, z2, z3⟩
  · rw [z1, z2]; exact rd
  · rw [z1, z2]; exact z3
theorem m_get1 (hu : X.A.units + 1 < cLine) : MtR X "dict.get" (rM F X.K pGet1) := by
  intro pins s σ H x xs v us Q I rx rs h
  obtain ⟨y, S, μ, a, b, t, S', rfl, r, ra, rb, e, o⟩ := two_of h fun ts S r n e => by
    rcases ts with _ | ⟨a, _ | ⟨b, _ | ⟨c, ts⟩⟩⟩
    · exact no_ok e
    · cases a <;> exact no_ok e
    · exact n a b rfl
    · cases a <;> exact no_ok e
  cases a with
  | ref l =>
    obtain ⟨d, S1, e1, e2⟩ := seq_ok (show seq (dctAt l) (fun d => when_ (keyOk d.1 b) (ret ((dLook d.2 b).getD .non))) S = _ from e)
    obtain ⟨h1, rfl⟩ := dctAt_ok e1
    obtain ⟨c, e3⟩ := when_ok e2
    obtain ⟨rfl, rfl⟩ := ret_ok e3
    obtain ⟨p, rfl, hl⟩ := ra.refs
    obtain ⟨tk, kvs⟩ := d
    cases tk with
    | true => rcases h1 with h1 | h1 <;> exact (r.cell l _ p h1 hl).elim
    | false =>
      obtain ⟨k, rfl⟩ := keyOk_leaf c
      obtain ⟨es, q1, q2, q3⟩ := r.leaf h1 hl
      have ek := rb.key
      subst ek
      cases rx
      obtain ⟨u, rfl, ru⟩ := vals1 rs
      exact d_get1 hu I (.inl ⟨es, k, q1, rfl, rfl⟩) ru fun w' s' J rw' => ⟨_, H, J, rw', o.here r (look_get k q2 q3 .non)⟩
  | _ => exact no_ok e
theorem m_get2 (hu : X.A.units + 1 < cLine) : MtR X "dict.get" (rM F X.K pGet2) := by
  intro pins s σ H x xs v us Q I rx rs h
  obtain ⟨S, μ, ts, t, S', r, rv, e, o⟩ := h
  match xs, ts, rv with
  | [], _, .cons (t := a) _ .nil => cases a <;> exact no_ok e
  | [_], _, .cons (t := a) _ (.cons _ .nil) => cases a <;> exact no_ok e
  | _ :: _ :: _ :: _, _, .cons (t := a) _ (.cons _ (.cons _ (.cons _ _))) => cases a <;> exact no_ok e
  | [y, z], _, .cons (t := a) ra (.cons (t := b) rb (.cons (t := c) rc .nil)) =>
  cases a with
  | ref l =>
    obtain ⟨d, S1, e1, e2⟩ := seq_ok (show seq (dctAt l) (fun d => when_ (keyOk d.1 b) (ret ((dLook d.2 b).getD c))) S = _ from e)
    obtain ⟨h1, rfl⟩ := dctAt_ok e1
    obtain ⟨cc, e3⟩ := when_ok e2
    obtain ⟨rfl, rfl⟩ := ret_ok e3
    obtain ⟨p, rfl, hl⟩ := ra.refs
    obtain ⟨tk, kvs⟩ := d
    cases tk with
    | true => rcases h1 with h1 | h1 <;> exact (r.cell l _ p h1 hl).elim
    | false =>
      obtain ⟨k, rfl⟩ := keyOk_leaf cc
      obtain ⟨es, q1, q2, q3⟩ := r.leaf h1 hl
      have ek := rb.key
      subst ek
      cases rx
      obtain ⟨u, u', rfl, ru, ru'⟩ := vals2 rs
      exact d_get2 hu I (.inl ⟨es, k, q1, rfl, rfl⟩) ru ru' fun w' s' J rw' => ⟨_, H, J, rw', o.here r (look_get k q2 q3 rc)⟩
  | _ => exact no_ok e
/-! ### o[i] = e -/
variable {sub : Nat → Nat → Bool} {N : Nat}
theorem rs_sub (hu : X.A.units + 1 < cLine) {o i e : E} {x y z : PySem.Expr} {pos pos' : Pos} (ho : RE F W Φ X o x) (hi : RE F W Φ X i y) (he : RE F W Φ X e z) (hs : swapsWithSole [.Subscript x y pos'] z pos.line X.env = pure false) (hw : swappedStores [.Subscript x y pos'] z X.env = pure none)
    (h1 : (assignEach [.Subscript x y pos'] X.env).map (·.2) = [assign (.Subscript x y pos') X.env])
    (ha : ∀ v, assign (.Subscript x y pos') X.env v = (do
      let ov ← holding [v] (eval x X.env)
      let iv ← holding [v, ov] (eval y X.env)
      standAt pos'
      holding [v, ov, iv] (setItem ov iv v)
      release [v, ov, iv] [])) : RS F W Φ sub N X (.sub o i e) (.Assign [.Subscript x y pos'] z pos) :=
  ps_imp (ps_asg he (pg_sub ho hi (set_any (F := F) hu) ha) hs hw h1) fun D σ H q => (rd_ex (f := fun σ t => sx σ (denE Φ o σ) fun v => sx σ (denE Φ i σ) fun k => sx σ (setSub v k t) fun _ => sret .nx σ) q).mono fun v H1 ⟨t, σT, S1, μ1, a1, b1, r1, c1⟩ => by
    refine ⟨σT, S1, μ1, a1, b1, (PostS.ex (R' := RV X.K) (f := fun v => sx σT (denE Φ i σT) fun k => sx σT (setSub v k t) fun _ => sret .nx σT) a1 b1 c1).imp fun ov H2 ⟨to, S2, μ2, a2, b2, s2, r2, c2⟩ => ?_⟩
    refine ⟨σT, S2, μ2, a2, b2, (PostS.ex (R' := RV X.K) (f := fun k => sx σT (setSub to k t) fun _ => sret .nx σT) a2 b2 c2).imp fun iv H3 ⟨ti, S3, μ3, a3, b3, s3, r3, c3⟩ => ?_⟩
    cases q : setSub to ti t S3 with
    | none => rw [show sx σT (setSub to ti t) (fun _ => sret .nx σT) S3 = none by unfold sx; rw [q]] at c3; exact c3.elim
    | some r =>
      obtain ⟨r0, S4⟩ := r
      cases r0 with
      | error x => exact absurd q (by
          have calm : Calm (setSub to ti t) := by
            intro S x S' h
            cases to with
            | ref l =>
              have h : (match S[l]? with
                | some (.dct tk kvs) => when_ (keyOk tk ti && decide (kvs.length < lineT)) (put l (.dct tk (dPut kvs ti t))) S
                | some (.lst xs) => (match ti with
                  | .int i => seq (opt (LS.ixN xs.length i)) fun j => put l (.lst (xs.set j t))
                  | _ => fail) S
                | _ => none) = some ((.error x, S') : Res Unit) := h
              split at h
              · unfold when_ put at h
                split at h
                · split at h <;> cases h
                · cases h
              · cases ti with
                | int i =>
                  unfold seq opt put at h
                  dsimp only at h
                  split at h
                  · cases h
                  · rename_i q1; split at q1 <;> cases q1
                  · split at h <;> cases h
                | _ => cases h
              · cases h
            | _ => cases h
          exact calm S3 x S4)
      | ok u =>
        rw [show sx σT (setSub to ti t) (fun _ => sret .nx σT) S3 = sret .nx σT S4 by unfold sx; rw [q]] at c3
        refine ⟨S3, μ3, to, ti, t, u, S4, b3, r2.step b2 s3, r3, (r1.step b1 s2).step b2 s3, q, fun H' μ' r' s' => ?_⟩
        exact c3 H' μ' σ .non r' s' (a3.step b3 s') fun _ z => by cases z
end
end LS
end

section
set_option Elab.async false
set_option linter.all false
set_option maxRecDepth 100000
set_option maxHeartbeats 4000000
/-! LS.Bind: how arguments are bound, by names alone. -/
namespace LS
open PySem PySem.Spec PyProof.Rows L2
theorem forIn_inv {α σ : Type} (f : α → σ → Sem (ForInStep σ)) (g : List α → σ) : ∀ (l pre : List α), (∀ p a q, pre ++ l = p ++ a :: q → pre.length ≤ p.length → f a (g p) = pure (.yield (g (p ++ [a])))) → forIn l (g pre) f = pure (g (pre ++ l))
  | [], pre, _ => by simp
  | a :: l, pre, h => by
    rw [List.forIn_cons, h pre a l rfl (Nat.le_refl _)]
    simp only [pure_bind]
    have := forIn_inv f g l (pre ++ [a]) fun p b q e hl => h p b q (by rw [← e]; simp) (by simp at hl; omega)
    rw [this]
    simp
theorem filterMap_zip {ν β : Type} [BEq ν] [LawfulBEq ν] (slots : List (ν × β)) : ∀ (names : List ν) (vals : List β), vals.length = names.length → (∀ (i : Nat) (n : ν) (v : β), names[i]? = some n → vals[i]? = some v → slots.lookup n = some v) →
    names.filterMap (fun n => (slots.lookup n).map (n, ·)) = names.zip vals
  | [], [], _, _ => rfl
  | [], _ :: _, h, _ => by simp at h
  | _ :: _, [], h, _ => by simp at h
  | n :: names, v :: vals, h, hv => by
    have h0 := hv 0 n v rfl rfl
    rw [List.filterMap_cons, h0]
    simp only [Option.map_some, List.zip_cons_cons]
    rw [filterMap_zip slots names vals (by simpa using h) fun i m u h1 h2 => hv (i + 1) m u (by simpa using h1) (by simpa using h2)]
theorem bind_kw {name qual : Str} {as : List Arg} {body : List Stmt} {scope : Scope} {kV doc pm cdv ct : Value} {an : Option Addr} {kd : List (Option PySem.Expr)} {us vals : List Value} {kw : List (Str × Value)} (hu : us.length ≤ as.length)
    (hk : ∀ p a q, kw = p ++ a :: q → (as.map (·.arg)).contains a.1 = true ∧ ((as.map (·.arg)).zip us ++ p).lookup a.1 = none) (hl : vals.length = as.length)
    (hv : ∀ (i : Nat) (n : Str) (v : Value), (as.map (·.arg))[i]? = some n → vals[i]? = some v → ((as.map (·.arg)).zip us ++ kw).lookup n = some v) :
    bindArgs (PySem.W.fnOf name qual ⟨[], as, none, [], kd, none, []⟩ body scope .none kV doc pm an cdv ct) ⟨us, kw⟩ = pure ((as.map (·.arg)).zip vals) := by
  have h0 : seqItems? Value.none = pure none := rfl
  have hz : (as.map (·.arg)).filterMap (fun n => (((as.map (·.arg)).zip us ++ kw).lookup n).map (n, ·)) = (as.map (·.arg)).zip vals := filterMap_zip _ _ _ (by simpa using hl) hv
  have hm : (as.map (·.arg)).filter (fun n => (((as.map (·.arg)).zip us ++ kw).lookup n).isNone) = [] := by
    rw [List.filter_eq_nil_iff]
    intro n hn
    obtain ⟨i, hi⟩ := List.getElem?_of_mem hn
    have hlt : i < vals.length := by
      have := (List.getElem?_eq_some_iff.mp hi).1
      simp at this
      omega
    rw [hv i n vals[i] hi (by simp [hlt])]
    simp
  unfold bindArgs
  simp only [PySem.W.fnOf, List.map_nil, List.nil_append, List.append_nil]
  have key : ∀ f : (Str × Value) → (List (Str × Value) × List (Str × Value)) → Sem (ForInStep (List (Str × Value) × List (Str × Value))), (∀ p a q, kw = p ++ a :: q → f a ((as.map (·.arg)).zip us ++ p, []) = pure (.yield ((as.map (·.arg)).zip us ++ (p ++ [a]), []))) →
      forIn kw ((as.map (·.arg)).zip us, ([] : List (Str × Value))) f = pure ((as.map (·.arg)).zip us ++ kw, []) := fun f hf => by
    have := forIn_inv f (fun p => ((as.map (·.arg)).zip us ++ p, ([] : List (Str × Value)))) kw [] (fun p a q e _ => hf p a q (by simpa using e))
    simpa using this
  rw [key _ fun p a q e => ?_]
  · have hgt : ¬ (us.length > (as.map (·.arg)).length) := by simp; omega
    simp only [pure_bind, h0, Option.getD_none, List.length_nil, Nat.zero_sub, List.drop_nil, Nat.sub_zero, List.take_length, hm, List.isEmpty_nil, Bool.not_true, Bool.false_eq_true, if_false, hgt, decide_false, Bool.false_and, List.drop_length, List.zip_nil_right, List.forIn_nil, hz]
  · obtain ⟨c1, c2⟩ := hk p a q e
    simp only [c1, c2, Bool.true_or, if_true, Option.isSome_none, Bool.false_eq_true, if_false, List.append_assoc]
theorem lookup_zip_none {ν β : Type} [BEq ν] [LawfulBEq ν] {n : ν} : ∀ {names : List ν} {us : List β}, n ∉ names → (names.zip us).lookup n = none
  | [], _, _ => by simp
  | _ :: _, [], _ => by simp
  | m :: names, u :: us, h => by
    have h1 : n ≠ m := fun e => h (by simp [e])
    have h2 : (n == m) = false := by simpa using h1
    simp only [List.zip_cons_cons, List.lookup_cons, h2]
    exact lookup_zip_none fun q => h (by simp [q])
theorem lookup_zip_get {ν β : Type} [BEq ν] [LawfulBEq ν] : ∀ {names : List ν} {us : List β} {i : Nat} {n : ν} {v : β}, names.Nodup → names[i]? = some n → us[i]? = some v → (names.zip us).lookup n = some v
  | [], _, _, _, _, _, h, _ => by simp at h
  | _ :: _, [], _, _, _, _, _, h => by simp at h
  | m :: names, u :: us, 0, n, v, _, h1, h2 => by simp at h1 h2; subst h1; subst h2; simp
  | m :: names, u :: us, i + 1, n, v, nd, h1, h2 => by
    have hn : n ∈ names := List.mem_of_getElem? (by simpa using h1)
    have h3 : n ≠ m := fun e => (List.nodup_cons.mp nd).1 (e ▸ hn)
    have h4 : (n == m) = false := by simpa using h3
    simp only [List.zip_cons_cons, List.lookup_cons, h4]
    exact lookup_zip_get (List.nodup_cons.mp nd).2 (by simpa using h1) (by simpa using h2)
/-- all by place -/
theorem bind_all {name qual : Str} {as : List Arg} {body : List Stmt} {scope : Scope} {kV doc pm cdv ct : Value} {an : Option Addr} {kd : List (Option PySem.Expr)} {us : List Value} (nd : (as.map (·.arg)).Nodup) (hl : us.length = as.length) :
    bindArgs (PySem.W.fnOf name qual ⟨[], as, none, [], kd, none, []⟩ body scope .none kV doc pm an cdv ct) ⟨us, []⟩ = pure ((as.map (·.arg)).zip us) :=
  bind_kw (by omega) (fun p a q e => by simp at e) hl fun i n v h1 h2 => by
    rw [List.append_nil]
    exact lookup_zip_get nd h1 h2
end LS
end

section
set_option Elab.async false
set_option linter.all false
set_option maxRecDepth 100000
set_option maxHeartbeats 4000000
/-! LS.Fn: what a def promises where nothing is being shown (so that repr may be asked for). -/
namespace LS
open PySem PySem.Spec PyProof.Rows L2
structure RoomG (k : Nat) (A : Around) : Prop where
  room : Room k A
  gd : A.guards = some []
theorem RoomG.mono {j k : Nat} {A : Around} (r : RoomG k A) (h : j ≤ k) : RoomG j A := ⟨r.room.mono h, r.gd⟩
theorem RoomG.deeper {k : Nat} {A : Around} (r : RoomG (k + 1) A) (env : Env) : RoomG k (A.deeper env) := ⟨r.room.deeper env, r.gd⟩
structure FnG (P : Program) (w : World) (K : PySem.W.Frag) (mg : Str → Option Value) (base : Heap) (k : Nat) (f : Addr) (fd : FuncData) (ps : List Str) (sp : Sp) : Prop where
  len : ∀ vs H Q E, sp vs H Q E → vs.length = ps.length
  run : ∀ (A : Around) (outer : List Env) (s : Shared) (H : Hp) (args : Args) (us : List Value) (vs : List V) (Q : VK) (E : XK), RoomG k A → Env0 P w K mg base A outer s H → BindsTo s fd args (ps.zip us) → Vals vs us → sp vs H Q E →
    codeAny (model P w) A (.call (.ref f) args) (CR (L2.CX P w) outer P w H s Q E) s
/-- a def, by its body -/
theorem fng_of {P : Program} {w : World} {K : PySem.W.Frag} {mg : Str → Option Value} {base : Heap} {k : Nat} {f : Addr} {name qual : Str} {params : Arguments} {body : List Stmt} {scope : Scope} {dvs : List V} {kws : List (Str × V)} {fd : FuncData} {N ps : List Str} {sp : Sp}
    (Fd : FunD K name qual params body scope dvs kws f fd) (Sc : FnScope N ps scope) (len : ∀ vs H Q E, sp vs H Q E → vs.length = ps.length)
    (hbody : ∀ (cdv : Value) (A : Around) (outer : List Env) (s : Shared) (H : Hp) (vs : List V) (Q : VK) (E : XK), RoomG k (A.deeper (envOfC qual scope s.heap.objs.size f cdv)) → sp vs H Q E →
      ∃ t, PSs (cxOf (L2.CX P w) P w K mg base N qual scope f cdv A outer s H E) body t ∧ t { nx := fun _ H' => Q .non H', rt := Q } (start N vs) H) : FnG P w K mg base (k + 1) f fd ps sp := by
  obtain ⟨oc, od, dV, kV, doc, pm, an, cdv, ct, osl, rfl, lk, hcd, _, _⟩ := Fd.ex
  refine ⟨len, ?_⟩
  intro A outer s H args us vs Q E hr e0 hbd rel hsp
  have room := hr.room
  have stays : K.In s.heap := e0.mod.kin.keeps fun b o e => (e0.bs b o e).1
  have unlim : s.heap.NoLimit := e0.mod.nolimit.keeps fun b o e => (e0.bs b o e).1
  have kinds : ∀ y ∈ ps.zip us, scope.names.lookup y.1 = some .local ∨ (scope.names.lookup y.1 = some .cell ∧ ((cellsFrom (s.heap.objs.size + 1) scope.names []).lookup y.1).isSome = true) := by
    intro y hy
    rcases Sc.par y.1 (List.of_mem_zip hy).1 with z | z
    · exact .inl z
    · exact .inr ⟨z, PySem.W.cellsFrom_some _ _ _ (.inl z)⟩
  refine codeAny_call_function room.depth (stays _ _ lk) rfl Sc.co Sc.gen rfl (PySem.W.codeRec_of stays hcd) (hbd _ _ _ _ (wpAny_newFunctionEnv_cells Sc.kind kinds ?_))
  intro env henv s1 inn
  subst henv
  refine ⟨unlim.keeps inn.toInCall.keep, codeAny_func ?_⟩
  obtain ⟨t, ht, hq⟩ := hbody cdv A outer s H vs Q E (hr.deeper _) hsp
  have I1 := inv_start (CX := L2.CX P w) (E := E) Sc room.hd e0 (len _ _ _ _ hsp) rel inn
  refine wpAny_mono (ht.run [] s1 (start N vs) H _ I1 hq) (fun fl s' out => ?_) fun _ _ out => out
  cases fl with
  | ret u =>
    obtain ⟨v, σ', H', J, rv, q⟩ := out
    exact ⟨v, H', J.os, J.bare, J.base, J.hok, rv, q⟩
  | next =>
    obtain ⟨σ', H', J, q⟩ := out
    exact ⟨V.non, H', J.os, J.bare, J.base, J.hok, rfl, q⟩
  | brk => obtain ⟨_, _, _, q⟩ := out; exact q.elim
  | cont => obtain ⟨_, _, _, q⟩ := out; exact q.elim
section
variable {X : Cx} {F : Fx} {W : WX} {Φ : Fns} {k : Nat} {f : Addr} {fd : FuncData} {ps : List Str} {sp : Sp}
/-- the callee runs -/
theorem fng_run {pins : List (Addr × Obj)} {σ : L2.St} {H : Hp} {s : Shared} {Q : VK} {E : XK} {us us2 : List Value} {vs : List V} {kw : List (Str × Value)} (Fn : FnG X.prog X.w X.K X.mg X.base k f fd ps sp) (hr : RoomG k X.A) (hx : PassesAt (L2.CX X.prog X.w) X σ E)
    (I : L2.Inv X pins σ H s) (r : Vals vs us2) (hb : BindsTo s fd ⟨us, kw⟩ (ps.zip us2)) (h : sp vs H Q E) : wpAny (model X.prog X.w) X.A (call (.ref f) us kw) (EP X pins σ Q) X.xe s := by
  refine wpAny_call (codeAny_mono (Fn.run X.A X.stack s H ⟨us, kw⟩ us2 vs Q E hr I.env0 hb r h) fun r s' out => ?_)
  cases r with
  | error e => exact hx pins H s e s' I out
  | ok fl =>
    cases fl with
    | ret u => exact I.after out
    | next => exact out.elim
    | brk => exact out.elim
    | cont => exact out.elim
/-- what a def of the store's language promises -/
def spF (F : Fx) (K : PySem.W.Frag) (Φ : Fns) (i : Nat) : Sp := fun vs H Q E => ∃ S μ ts, Rep F K H μ S ∧ RVs K H μ ts vs ∧ Post F K (fun cls d _ H => E cls d H) [] (RV K) H μ (Φ i ts S) Q
theorem rd_call {i : Nat} {es : List E} {σ : L2.St} {H : Hp} {Q : VK} (h : rdE F X.K W (denE Φ (.call i es)) σ H Q) : rdA F X.K W (denEs Φ es) σ H fun vs H1 => spF F X.K Φ i vs H1 Q (WE W σ) :=
  (rdE_args (g := Φ i) h).mono fun vs H1 ⟨ts, S, μ, a, b, c⟩ => by
    refine ⟨S, μ, ts, a, b, ?_⟩
    cases q : Φ i ts S with
    | none => rw [q] at c; exact c
    | some r =>
      obtain ⟨r1, S'⟩ := r
      rw [q] at c
      cases r1 with
      | ok t => exact c
      | error x => exact c
/-- how a def's parameters are bound: by place -/
def ByPlace (fd : FuncData) (ps : List Str) : Prop := ∀ us : List Value, us.length = ps.length → bindArgs fd ⟨us, []⟩ = pure (ps.zip us)
theorem re_call {i : Nat} {e : E} {es : List E} {x : Str} {y : PySem.Expr} {ys : List PySem.Expr} {p pos : Pos} (Fn : FnG X.prog X.w X.K X.mg X.base k f fd ps (spF F X.K Φ i)) (hr : RoomG k X.A) (hg : Gl X x) (hm : X.mg x = some (.ref f)) (hk : PySem.W.keepIn X.K (.ref f) = true) (hb : ByPlace fd ps)
    (tk : Takes X W) (ha : RAs F W Φ X (e :: es) (y :: ys)) (hdb : (x == ("__debug__" : Str)) = false) (he : starEach (y :: ys) X.env = (false, eval y X.env) :: starEach ys X.env) (hpl : (backTo pos (starEach ys X.env)).any (·.1) = false) :
    RE F W Φ X (.call i (e :: es)) (.Call (.Name x p) (y :: ys) [] pos) :=
  ⟨fun pins s σ H Q I h => wpAny_Call_Name_kw (ld_glob I hg hm (PySem.W.callWith_K (h₀ := X.base) I.ok.mod.kin hk (thn (ha.run pos pins s σ H _ I (rd_call h)) fun us s1 ⟨vs, H1, I1, r, q⟩ => ⟨I1.kIn, by
    refine fng_run Fn hr (passAt tk σ) I1 r (.of_eq (hb us ?_)) q
    rw [← r.length]
    exact Fn.len _ _ _ _ q⟩) he hpl) hdb)⟩
theorem re_call0 {i : Nat} {x : Str} {p pos : Pos} (Fn : FnG X.prog X.w X.K X.mg X.base k f fd ps (spF F X.K Φ i)) (hr : RoomG k X.A) (hg : Gl X x) (hm : X.mg x = some (.ref f)) (hk : PySem.W.keepIn X.K (.ref f) = true) (hb : ByPlace fd ps)
    (tk : Takes X W) (hdb : (x == ("__debug__" : Str)) = false) : RE F W Φ X (.call i []) (.Call (.Name x p) [] [] pos) :=
  ⟨fun pins s σ H Q I h => wpAny_Call_Name_kw (ld_glob I hg hm (PySem.W.callWith_K0 I.kIn hk (by
    have q := rdA_nil (rd_call h)
    refine fng_run (us := []) Fn hr (passAt tk σ) I .nil (.of_eq (hb [] ?_)) q
    exact Fn.len _ _ _ _ q)) hdb)⟩
/-- what a keyword call binds: n by place, those named ks; the i-th parameter is the perm[i]-th of all -/
def ByName (fd : FuncData) (ps : List Str) (n : Nat) (ks : List Str) (perm : List Nat) : Prop := ∀ (us ws vals : List Value), us.length = n → ws.length = ks.length → optAll (fun i => (us ++ ws)[i]?) perm = some vals → bindArgs fd ⟨us, ks.zip ws⟩ = pure (ps.zip vals)
abbrev RKs (F : Fx) (W : WX) (Φ : Fns) (X : Cx) (es : List E) (xs : List Keyword) : Prop := PK X xs (rdA F X.K W (denEs Φ es))
theorem pk_imp {X : Cx} {e : List Keyword} {t t' : TA} (h : PK X e t) (i : ∀ σ H Q, t' σ H Q → t σ H Q) : PK X e t' := ⟨fun pos pins s σ H Q I q => h.run pos pins s σ H Q I (i σ H Q q)⟩
theorem rk_nil : RKs F W Φ X [] [] := pk_imp pk_nil fun _ _ _ h => rdA_nil h
theorem rk_cons {e : E} {es : List E} {nm : Option Str} {x : PySem.Expr} {kp : Pos} {xs : List Keyword} (h : RE F W Φ X e x) (hs : RKs F W Φ X es xs) : RKs F W Φ X (e :: es) (⟨nm, x, kp⟩ :: xs) := pk_imp (pk_cons h hs) fun _ _ _ h => rdA_cons h
theorem vals_perm {vs zs : List V} {us ws : List Value} (r1 : Vals vs us) (r2 : Vals zs ws) : ∀ {perm : List Nat} {vals : List V}, optAll (fun i => (vs ++ zs)[i]?) perm = some vals → ∃ vals', optAll (fun i => (us ++ ws)[i]?) perm = some vals' ∧ Vals vals vals'
  | [], vals, h => by cases h; exact ⟨[], rfl, .nil⟩
  | i :: perm, vals, h => by
    obtain ⟨b, r, rfl, h1, h2⟩ := optAll_cons h
    obtain ⟨u, hu, ru⟩ := (r1.append r2).get h1
    obtain ⟨vals', h3, h4⟩ := vals_perm r1 r2 h2
    exact ⟨u :: vals', by simp only [optAll, hu, h3], .cons ru h4⟩
theorem rvs_perm {K : PySem.W.Frag} {H : Hp} {μ : List Addr} {ts us : List T} {vs zs : List V} (r1 : RVs K H μ ts vs) (r2 : RVs K H μ us zs) : ∀ {perm : List Nat} {vals : List T}, optAll (fun i => (ts ++ us)[i]?) perm = some vals → ∃ vals', optAll (fun i => (vs ++ zs)[i]?) perm = some vals' ∧ RVs K H μ vals vals'
  | [], vals, h => by cases h; exact ⟨[], rfl, .nil⟩
  | i :: perm, vals, h => by
    obtain ⟨b, r, rfl, h1, h2⟩ := optAll_cons h
    obtain ⟨u, hu, ru⟩ := (r1.append r2).get h1
    obtain ⟨vals', h3, h4⟩ := rvs_perm r1 r2 h2
    exact ⟨u :: vals', by simp only [optAll, hu, h3], .cons ru h4⟩
theorem rd_callK {i : Nat} {es fs : List E} {perm : List Nat} {σ : L2.St} {H : Hp} {Q : VK} (h : rdE F X.K W (denE Φ (.callK i es fs perm)) σ H Q) :
    rdA F X.K W (denEs Φ es) σ H fun vs H1 => vs.length = es.length ∧ rdA F X.K W (denEs Φ fs) σ H1 fun zs H2 => zs.length = fs.length ∧ ∃ vals, optAll (fun i => (vs ++ zs)[i]?) perm = some vals ∧ spF F X.K Φ i vals H2 Q (WE W σ) := by
  obtain ⟨σT, S, μ, a, b, c⟩ := h
  refine rdA_len ⟨σT, S, μ, a, b, (rdE.then_ (R' := RVs X.K) (f := fun σT ts => seq (denEs Φ fs σT) fun us => seq (opt (optAll (fun i => (ts ++ us)[i]?) perm)) (Φ i)) a b c).imp fun vs H1 ⟨ts, S1, μ1, a1, b1, rv, s1, c1⟩ hl => ?_⟩
  refine ⟨hl, rdA_len ⟨σT, S1, μ1, a1, b1, (rdE.then_ (R' := RVs X.K) (f := fun σT us => seq (opt (optAll (fun i => (ts ++ us)[i]?) perm)) (Φ i)) a1 b1 c1).imp fun zs H2 ⟨us, S2, μ2, a2, b2, rz, s2, c2⟩ hl2 => ?_⟩⟩
  obtain ⟨vals, e1, c3⟩ := Post.opt c2
  obtain ⟨vals', e2, r2⟩ := rvs_perm (rv.step b1 s2) rz e1
  refine ⟨hl2, vals', e2, S2, μ2, vals, b2, r2, ?_⟩
  cases q : Φ i vals S2 with
  | none => rw [q] at c3; exact c3
  | some r =>
    obtain ⟨r1, S'⟩ := r
    rw [q] at c3
    cases r1 with
    | ok t => exact c3
    | error x => exact c3
theorem re_callK {i : Nat} {e : E} {es fs : List E} {perm : List Nat} {ks : List Str} {x : Str} {y : PySem.Expr} {ys : List PySem.Expr} {kws : List Keyword} {p pos : Pos} (Fn : FnG X.prog X.w X.K X.mg X.base k f fd ps (spF F X.K Φ i)) (hr : RoomG k X.A) (hg : Gl X x) (hm : X.mg x = some (.ref f)) (hk : PySem.W.keepIn X.K (.ref f) = true)
    (hb : ByName fd ps (e :: es).length ks perm) (hfs : fs.length = ks.length) (tk : Takes X W) (ha : RAs F W Φ X (e :: es) (y :: ys)) (hkw : RKs F W Φ X fs kws) (hall : (backToKw pos (keywordEach kws X.env)).all (·.1.isSome) = true) (hks : (backToKw pos (keywordEach kws X.env)).filterMap (·.1) = ks)
    (hdb : (x == ("__debug__" : Str)) = false) (he : starEach (y :: ys) X.env = (false, eval y X.env) :: starEach ys X.env) (hpl : ((backTo pos (starEach (y :: ys) X.env)).any (·.1) || (backToKw pos (keywordEach kws X.env)).any (·.1.isNone)) = false) :
    RE F W Φ X (.callK i (e :: es) fs perm) (.Call (.Name x p) (y :: ys) kws pos) :=
  ⟨fun pins s σ H Q I h => wpAny_Call_Name_kw (ld_glob I hg hm (PySem.W.callWith_KW (h₀ := X.base) I.ok.mod.kin hk hall (thn (ha.run pos pins s σ H _ I (rd_callK h)) fun us s1 ⟨vs, H1, I1, r, hl, q⟩ => thn (hkw.run pos pins s1 σ H1 _ I1 q) fun ws s2 ⟨zs, H2, I2, rz, hl2, vals, e1, q2⟩ => ⟨I2.kIn, by
    rw [hks]
    obtain ⟨vals', e2, r2⟩ := vals_perm r rz e1
    exact fng_run Fn hr (passAt tk σ) I2 r2 (.of_eq (hb us ws vals' (by rw [← r.length, hl]) (by rw [← rz.length, hl2, hfs]) e2)) q2⟩) hpl he) hdb)⟩
/-- all by name -/
theorem re_callK0 {i : Nat} {fs : List E} {perm : List Nat} {ks : List Str} {x : Str} {kws : List Keyword} {p pos : Pos} (Fn : FnG X.prog X.w X.K X.mg X.base k f fd ps (spF F X.K Φ i)) (hr : RoomG k X.A) (hg : Gl X x) (hm : X.mg x = some (.ref f)) (hk : PySem.W.keepIn X.K (.ref f) = true)
    (hb : ByName fd ps ([] : List E).length ks perm) (hfs : fs.length = ks.length) (tk : Takes X W) (hkw : RKs F W Φ X fs kws) (hall : (backToKw pos (keywordEach kws X.env)).all (·.1.isSome) = true) (hks : (backToKw pos (keywordEach kws X.env)).filterMap (·.1) = ks)
    (hdb : (x == ("__debug__" : Str)) = false) (hpl : (backToKw pos (keywordEach kws X.env)).any (·.1.isNone) = false) : RE F W Φ X (.callK i [] fs perm) (.Call (.Name x p) [] kws pos) :=
  ⟨fun pins s σ H Q I h => wpAny_Call_Name_kw (ld_glob I hg hm (by
    obtain ⟨_, q0⟩ := rdA_nil (rd_callK h)
    exact PySem.W.callWith_KW0 I.kIn hk hall (thn (hkw.run pos pins s σ H _ I q0) fun ws s2 ⟨zs, H2, I2, rz, hl2, vals, e1, q2⟩ => ⟨I2.kIn, by
      rw [hks]
      obtain ⟨vals', e2, r2⟩ := vals_perm .nil rz e1
      exact fng_run Fn hr (passAt tk σ) I2 r2 (.of_eq (hb [] ws vals' rfl (by rw [← rz.length, hl2, hfs]) e2)) q2⟩) (by simpa [starEach, backTo] using hpl)) hdb)⟩
end
end LS
end

section
set_option Elab.async false
set_option linter.all false
set_option maxRecDepth 100000
set_option maxHeartbeats 4000000
/-! LS.More: displays with stars, dicts written out, ranges as lists, stores of comprehensions and of pairs. -/
namespace LS
open PySem PySem.Spec PyProof.Rows L2
section
variable {X : Cx} {F : Fx} {W : WX} {Φ : Fns}
/-! ### displays with stars -/
abbrev RStars (F : Fx) (W : WX) (Φ : Fns) (X : Cx) (es : List E) (ss : List Bool) (xs : List PySem.Expr) : Prop := PA X xs (rdA F X.K W (denStars Φ es ss))
theorem rst_nil : RStars F W Φ X [] [] [] := pa_imp pa_nil fun _ _ _ ⟨σT, S, μ, a, b, c⟩ => Post.done (a := []) c b Step.refl .nil
theorem rst_plain {e : E} {es : List E} {ss : List Bool} {x : PySem.Expr} {xs : List PySem.Expr} (h : RE F W Φ X e x) (hs : RStars F W Φ X es ss xs) (st : starEach (x :: xs) X.env = (false, eval x X.env) :: starEach xs X.env) : RStars F W Φ X (e :: es) (false :: ss) (x :: xs) :=
  pa_imp (pa_cons h hs st) fun σ H Q ⟨σT, S, μ, a, b, c⟩ => by
    refine ⟨σT, S, μ, a, b, (rdE.then_ (R' := RV X.K) (f := fun σ t => seq (denStars Φ es ss σ) fun ts => ret (t :: ts)) a b c).imp fun x H1 ⟨t, S1, μ1, a1, b1, rx, s1, c1⟩ => ?_⟩
    refine ⟨σT, S1, μ1, a1, b1, (rdE.then_ (R' := RVs X.K) (f := fun _ ts => ret (t :: ts)) a1 b1 c1).imp fun xs H2 ⟨ts, S2, μ2, a2, b2, rxs, s2, c2⟩ => ?_⟩
    exact c2.done b2 Step.refl (.cons (rx.step b1 s2) rxs)
theorem calm_itemsOf (t : T) : Calm (itemsOf t) := fun S x S' h => by
  cases t with
  | ref l =>
    have h : listAt l S = some (.error x, S') := h
    unfold listAt at h
    split at h <;> cases h
  | _ => cases h
theorem rst_star {e : E} {es : List E} {ss : List Bool} {x : PySem.Expr} {xs : List PySem.Expr} {p : Pos} (h : RE F W Φ X e x) (hs : RStars F W Φ X es ss xs) (st : starEach (.Starred x p :: xs) X.env = (true, eval x X.env) :: starEach xs X.env) : RStars F W Φ X (e :: es) (true :: ss) (.Starred x p :: xs) :=
  pa_imp (StX.pa_star h hs st) fun σ H Q ⟨σT, S, μ, a, b, c⟩ => by
    refine ⟨σT, S, μ, a, b, (rdE.then_ (R' := RV X.K) (f := fun σ t => seq (itemsOf t) fun xs => seq (denStars Φ es ss σ) fun r => ret (xs ++ r)) a b c).imp fun x H1 ⟨t, S1, μ1, a1, b1, rx, s1, c1⟩ => ?_⟩
    cases q : itemsOf t S1 with
    | none => rw [show seq (itemsOf t) (fun xs => seq (denStars Φ es ss σT) fun r => ret (xs ++ r)) S1 = none by unfold seq; rw [q]] at c1; exact c1.elim
    | some r =>
      obtain ⟨r1, S2⟩ := r
      cases r1 with
      | error x => exact absurd q (calm_itemsOf t S1 x S2)
      | ok ts =>
        obtain ⟨rfl, h2⟩ := itemsOf_ok q
        rw [show seq (itemsOf t) (fun xs => seq (denStars Φ es ss σT) fun r => ret (xs ++ r)) S2 = seq (denStars Φ es ss σT) (fun r => ret (ts ++ r)) S2 by unfold seq; rw [q]] at c1
        have it : ∃ p vs, x = .ref p ∧ (SqT X.K H1 p vs ∨ SqL X.K H1 p vs) ∧ RVs X.K H1 μ1 ts vs := by
          rcases h2 with rfl | ⟨l, rfl, h2⟩
          · obtain ⟨p, vs, rfl, hs, rv⟩ := rx.tups
            exact ⟨p, vs, rfl, .inl hs, rv⟩
          · obtain ⟨p, rfl, hl⟩ := rx.refs
            obtain ⟨vs, hq, rv⟩ := b1.list h2 hl
            exact ⟨p, vs, rfl, .inr hq, rv⟩
        obtain ⟨p, vs, rfl, hq, rv⟩ := it
        refine ⟨p, vs, rfl, hq, σT, S2, μ1, a1, b1, (rdE.then_ (R' := RVs X.K) (f := fun _ r => ret (ts ++ r)) a1 b1 c1).imp fun xs H2 ⟨us, S3, μ2, a2, b2, rxs, s2, c2⟩ => ?_⟩
        exact c2.done b2 Step.refl ((rv.step b1 s2).append rxs)
theorem re_tupS {es : List E} {ss : List Bool} {xs : List PySem.Expr} {k : Nat} {pos : Pos} (h : RStars F W Φ X es ss xs) : RE F W Φ X (.tupS ss es) (.Tuple xs k pos) :=
  pe_imp (pe_tup h) fun σ H Q ⟨σT, S, μ, a, b, c⟩ => by
    refine ⟨σT, S, μ, a, b, (rdE.then_ (R' := RVs X.K) (f := fun _ xs => when_ (decide (xs.length ≤ lineT)) (ret (T.tup xs))) a b c).imp fun vs H1 ⟨ts, S1, μ1, a1, b1, rv, s1, c1⟩ => ?_⟩
    obtain ⟨hl, c2⟩ := c1.when_
    have hl' := of_decide_eq_true hl
    rw [lineT_eq, rv.length] at hl'
    refine ⟨hl', fun p hp => ?_⟩
    have o : Out F X.K H1 μ1 (.tup ts) S1 Q := c2
    exact o.newTup b1 rv hp
theorem re_lstS {es : List E} {ss : List Bool} {xs : List PySem.Expr} {pos : Pos} (h : RStars F W Φ X es ss xs) : RE F W Φ X (.lstS ss es) (.List xs pos) :=
  pe_imp (pe_lst h) fun σ H Q ⟨σT, S, μ, a, b, c⟩ => by
    refine ⟨σT, S, μ, a, b, (rdE.then_ (R' := RVs X.K) (f := fun _ xs => when_ (decide (xs.length ≤ lineT)) (new (.lst xs))) a b c).imp fun vs H1 ⟨ts, S1, μ1, a1, b1, rv, s1, c1⟩ => ?_⟩
    obtain ⟨hl, c2⟩ := c1.when_
    have hl' := of_decide_eq_true hl
    rw [lineT_eq, rv.length] at hl'
    refine ⟨hl', fun p hp => ?_⟩
    have o : Out F X.K H1 μ1 (.ref S1.length) (S1 ++ [.lst ts]) Q := c2
    exact o.newList b1 rv hp
/-! ### ranges as lists and tuples -/
theorem rgV_list {K : PySem.W.Frag} {H : Hp} {μ : List Addr} (a b : Int) : RVs K H μ ((List.range (b - a).toNat).map fun (i : Nat) => .int (a + (i : Int))) (rgV a b) := by
  unfold rgV
  induction (List.range (b - a).toNat) with
  | nil => exact .nil
  | cons i r ih => exact .cons (.int _) ih
theorem range_rg {ts : List T} {vs : List V} {xs : List T} {K : PySem.W.Frag} {H : Hp} {μ : List Addr} (rv : RVs K H μ ts vs) (h : rangeOf ts = some xs) (hl : xs.length ≤ lineT) :
    (∀ n, vs = [.int n] → RgOk 0 n ∧ RVs K H μ xs (rgV 0 n)) ∧ ∀ a b, vs = [.int a, .int b] → RgOk a b ∧ RVs K H μ xs (rgV a b) := by
  have hb : bigR = 1000000000000 := rfl
  rw [lineT_eq, sizeLine_eq] at hl
  constructor
  · intro n e
    subst e
    match ts, rv with
    | [t], .cons r1 .nil =>
      cases r1 with
      | int =>
        simp only [rangeOf] at h
        split at h
        · rename_i hn
          rw [hb] at hn
          have e2 := Option.some.inj h
          subst e2
          refine ⟨⟨by omega, by omega, by omega, by omega, by simpa using hl⟩, ?_⟩
          have := rgV_list (K := K) (H := H) (μ := μ) 0 n
          simpa using this
        · cases h
  · intro a b e
    subst e
    match ts, rv with
    | [t, t'], .cons r1 (.cons r2 .nil) =>
      cases r1 with
      | int =>
        cases r2 with
        | int =>
          simp only [rangeOf] at h
          split at h
          · rename_i hn
            rw [hb] at hn
            have e2 := Option.some.inj h
            subst e2
            exact ⟨⟨by omega, by omega, by omega, by omega, by simpa using hl⟩, rgV_list a b⟩
          · cases h
theorem rd_rg {es : List E} {σ : L2.St} {H : Hp} {Q : VK} {mk : List T → M T} (h : rdE F X.K W (fun σ => seq (denI Φ (.range es) σ) fun its => when_ (decide (its.xs.length ≤ lineT)) (mk its.xs)) σ H Q) :
    rdA F X.K W (denEs Φ es) σ H fun vs H1 => ∃ ts S μ xs, Rep F X.K H1 μ S ∧ RVs X.K H1 μ ts vs ∧ rangeOf ts = some xs ∧ xs.length ≤ lineT ∧ Post F X.K W σ (RV X.K) H1 μ (mk xs S) Q := by
  obtain ⟨σT, S, μ, a, b, c⟩ := h
  have c0 : Post F X.K W σ (RV X.K) H μ (seq (denEs Φ es σT) (fun ts => seq (opt (rangeOf ts)) fun xs => when_ (decide (xs.length ≤ lineT)) (mk xs)) S) Q := by
    have c : Post F X.K W σ (RV X.K) H μ (seq (seq (denEs Φ es σT) (fun ts => seq (opt (rangeOf ts)) fun xs => ret (⟨xs, [], none⟩ : LS.Its))) (fun its => when_ (decide (its.xs.length ≤ lineT)) (mk its.xs)) S) Q := c
    simp only [seq_assoc] at c
    exact c
  refine ⟨σT, S, μ, a, b, (rdE.then_ (R' := RVs X.K) (f := fun _ ts => seq (opt (rangeOf ts)) fun xs => when_ (decide (xs.length ≤ lineT)) (mk xs)) a b c0).imp fun vs H1 ⟨ts, S1, μ1, a1, b1, rv, s1, c1⟩ => ?_⟩
  obtain ⟨xs, e1, c2⟩ := Post.opt c1
  obtain ⟨hl, c3⟩ := c2.when_
  exact ⟨ts, S1, μ1, xs, b1, rv, e1, of_decide_eq_true hl, c3⟩
theorem re_lstRg1 {e : E} {x : PySem.Expr} {p p2 pos pos2 : Pos} (hc : X.calm = true) (hg : Gl X "list") (hm : X.mg "list" = none) (hg2 : Gl X "range") (hm2 : X.mg "range" = none) (h : RE F W Φ X e x) (na : starEach [x] X.env = (false, eval x X.env) :: starEach [] X.env) (nb : ∀ q : PySem.Expr, starEach [.Call q [x] [] pos2] X.env = (false, eval (.Call q [x] [] pos2) X.env) :: starEach [] X.env) :
    RE F W Φ X (.lstI (.range [e])) (.Call (.Name "list" p) [.Call (.Name "range" p2) [x] [] pos2] [] pos) :=
  pe_imp (pe_listRg hc hg hm (prg_1 hg2 hm2 h na) (nb _)) fun σ H Q q => (rdA_one (rd_rg (mk := fun xs => new (.lst xs)) q)).mono fun v H1 ⟨ts, S, μ, xs, b, rv, e1, hl, c⟩ => by
    have hv : ∃ n, v = .int n := by
      match ts, rv with
      | [t], .cons r1 .nil => cases r1 <;> first | exact ⟨_, rfl⟩ | simp [rangeOf] at e1
    obtain ⟨n, rfl⟩ := hv
    obtain ⟨k1, k2⟩ := (range_rg rv e1 hl).1 n rfl
    exact ⟨n, rfl, k1, fun q hq => Out.newList (F := F) (show Out F X.K H1 μ (.ref S.length) (S ++ [.lst xs]) Q from c) b k2 hq⟩
theorem re_lstRg2 {e e' : E} {x x' : PySem.Expr} {p p2 pos pos2 : Pos} (hc : X.calm = true) (hg : Gl X "list") (hm : X.mg "list" = none) (hg2 : Gl X "range") (hm2 : X.mg "range" = none) (h : RE F W Φ X e x) (h' : RE F W Φ X e' x') (na : starEach [x, x'] X.env = (false, eval x X.env) :: starEach [x'] X.env)
    (na2 : starEach [x'] X.env = (false, eval x' X.env) :: starEach [] X.env) (hp : (backTo pos2 (starEach [x'] X.env)).any (·.1) = false) (nb : ∀ q : PySem.Expr, starEach [.Call q [x, x'] [] pos2] X.env = (false, eval (.Call q [x, x'] [] pos2) X.env) :: starEach [] X.env) :
    RE F W Φ X (.lstI (.range [e, e'])) (.Call (.Name "list" p) [.Call (.Name "range" p2) [x, x'] [] pos2] [] pos) :=
  pe_imp (pe_listRg hc hg hm (prg_2 hg2 hm2 h h' na na2 hp) (nb _)) fun σ H Q q => (rdA_two (rd_rg (mk := fun xs => new (.lst xs)) q)).mono fun v H1 q1 => q1.mono fun w H2 ⟨ts, S, μ, xs, b, rv, e1, hl, c⟩ => by
    have hv : ∃ n m, v = .int n ∧ w = .int m := by
      match ts, rv with
      | [t, t'], .cons r1 (.cons r2 .nil) => cases r1 <;> cases r2 <;> first | exact ⟨_, _, rfl, rfl⟩ | simp [rangeOf] at e1
    obtain ⟨n, m, rfl, rfl⟩ := hv
    obtain ⟨k1, k2⟩ := (range_rg rv e1 hl).2 n m rfl
    exact ⟨n, m, rfl, rfl, k1, fun q hq => Out.newList (F := F) (show Out F X.K H2 μ (.ref S.length) (S ++ [.lst xs]) Q from c) b k2 hq⟩
theorem re_tupRg1 {e : E} {x : PySem.Expr} {p p2 pos pos2 : Pos} (hc : X.calm = true) (hg : Gl X "tuple") (hm : X.mg "tuple" = none) (hg2 : Gl X "range") (hm2 : X.mg "range" = none) (h : RE F W Φ X e x) (na : starEach [x] X.env = (false, eval x X.env) :: starEach [] X.env) (nb : ∀ q : PySem.Expr, starEach [.Call q [x] [] pos2] X.env = (false, eval (.Call q [x] [] pos2) X.env) :: starEach [] X.env) :
    RE F W Φ X (.tupI (.range [e])) (.Call (.Name "tuple" p) [.Call (.Name "range" p2) [x] [] pos2] [] pos) :=
  pe_imp (pe_tupRg hc hg hm (prg_1 hg2 hm2 h na) (nb _)) fun σ H Q q => (rdA_one (rd_rg (mk := fun xs => ret (.tup xs)) q)).mono fun v H1 ⟨ts, S, μ, xs, b, rv, e1, hl, c⟩ => by
    have hv : ∃ n, v = .int n := by
      match ts, rv with
      | [t], .cons r1 .nil => cases r1 <;> first | exact ⟨_, rfl⟩ | simp [rangeOf] at e1
    obtain ⟨n, rfl⟩ := hv
    obtain ⟨k1, k2⟩ := (range_rg rv e1 hl).1 n rfl
    exact ⟨n, rfl, k1, fun q hq => Out.newTup (F := F) (show Out F X.K H1 μ (.tup xs) S Q from c) b k2 hq⟩
theorem re_tupRg2 {e e' : E} {x x' : PySem.Expr} {p p2 pos pos2 : Pos} (hc : X.calm = true) (hg : Gl X "tuple") (hm : X.mg "tuple" = none) (hg2 : Gl X "range") (hm2 : X.mg "range" = none) (h : RE F W Φ X e x) (h' : RE F W Φ X e' x') (na : starEach [x, x'] X.env = (false, eval x X.env) :: starEach [x'] X.env)
    (na2 : starEach [x'] X.env = (false, eval x' X.env) :: starEach [] X.env) (hp : (backTo pos2 (starEach [x'] X.env)).any (·.1) = false) (nb : ∀ q : PySem.Expr, starEach [.Call q [x, x'] [] pos2] X.env = (false, eval (.Call q [x, x'] [] pos2) X.env) :: starEach [] X.env) :
    RE F W Φ X (.tupI (.range [e, e'])) (.Call (.Name "tuple" p) [.Call (.Name "range" p2) [x, x'] [] pos2] [] pos) :=
  pe_imp (pe_tupRg hc hg hm (prg_2 hg2 hm2 h h' na na2 hp) (nb _)) fun σ H Q q => (rdA_two (rd_rg (mk := fun xs => ret (.tup xs)) q)).mono fun v H1 q1 => q1.mono fun w H2 ⟨ts, S, μ, xs, b, rv, e1, hl, c⟩ => by
    have hv : ∃ n m, v = .int n ∧ w = .int m := by
      match ts, rv with
      | [t, t'], .cons r1 (.cons r2 .nil) => cases r1 <;> cases r2 <;> first | exact ⟨_, _, rfl, rfl⟩ | simp [rangeOf] at e1
    obtain ⟨n, m, rfl, rfl⟩ := hv
    obtain ⟨k1, k2⟩ := (range_rg rv e1 hl).2 n m rfl
    exact ⟨n, m, rfl, rfl, k1, fun q hq => Out.newTup (F := F) (show Out F X.K H2 μ (.tup xs) S Q from c) b k2 hq⟩
end
end LS
end

section
set_option Elab.async false
set_option linter.all false
set_option maxRecDepth 100000
set_option maxHeartbeats 4000000
/-! LS.More2: dicts written out, stores of comprehensions, of pairs. -/
namespace LS
open PySem PySem.Spec PyProof.Rows L2
section
variable {X : Cx} {F : Fx} {W : WX} {Φ : Fns} {sub : Nat → Nat → Bool} {N : Nat}
/-- an object beside the store becomes a cell -/
theorem Rep.adopt {K : PySem.W.Frag} {H : Hp} {μ : List Addr} {S : Sto} {d : Addr} {o o' : HO} {c : Cell} (r : Rep F K H μ S) (hd : d ∉ μ) (h : H d = some o) (no : ∀ vs, o ≠ .tup vs) (no2 : ∀ x vs, o ≠ .frz x (.tup vs))
    (hc : (∀ ts vs, RVs K H μ ts vs → RVs K (upd H d o') (μ ++ [d]) ts vs) → CellR F K (upd H d o') (μ ++ [d]) c d) : Rep F K (upd H d o') (μ ++ [d]) (S ++ [c]) := by
  have sq : ∀ a xs, SqT K H a xs → SqT K (upd H d o') a xs := fun a xs q => by
    rcases q with q | q
    · have ne : a ≠ d := fun e => by
        subst e
        rcases q with q | ⟨x, q⟩
        · rw [h] at q; exact no _ (Option.some.inj q)
        · rw [h] at q; exact no2 _ _ (Option.some.inj q)
      rcases q with q | ⟨x, q⟩
      · exact .inl (.inl (by rw [upd_ne ne]; exact q))
      · exact .inl (.inr ⟨x, by rw [upd_ne ne]; exact q⟩)
    · exact .inr q
  have rv : ∀ t v, RV K H μ t v → RV K (upd H d o') (μ ++ [d]) t v := by
    intro t v q
    induction q using RV.rec (motive_2 := fun ts vs _ => RVs K (upd H d o') (μ ++ [d]) ts vs) with
    | non => exact .non
    | bl b => exact .bl b
    | int i => exact .int i
    | str x => exact .str x
    | tup q _ ih => exact .tup (sq _ _ q) ih
    | ref e => exact .ref (by rw [List.getElem?_append_left (List.getElem?_eq_some_iff.mp e).1]; exact e)
    | nil => exact .nil
    | cons _ _ i1 i2 => exact .cons i1 i2
  have rvs : ∀ ts vs, RVs K H μ ts vs → RVs K (upd H d o') (μ ++ [d]) ts vs := by
    intro ts vs q
    induction ts generalizing vs with
    | nil => cases q; exact .nil
    | cons t ts ih => cases q with
      | cons r1 r2 => exact .cons (rv _ _ r1) (ih _ r2)
  refine ⟨by simp [r.len], ?_, fun l c' a h1 h2 => ?_⟩
  · rw [List.nodup_append]
    exact ⟨r.nd, by simp, fun a ha b hb => by simp at hb; subst hb; exact fun e => hd (e ▸ ha)⟩
  · by_cases hl : l < S.length
    · rw [List.getElem?_append_left hl] at h1
      rw [List.getElem?_append_left (by rw [r.len]; exact hl)] at h2
      have ne : a ≠ d := fun e => hd (e ▸ List.mem_of_getElem? h2)
      exact (r.cell l c' a h1 h2).move (upd_ne ne) rvs
    · have hl2 : l = S.length := by
        have := (List.getElem?_eq_some_iff.mp h1).1
        simp at this
        omega
      subst hl2
      rw [List.getElem?_append_right (Nat.le_refl _)] at h1
      rw [List.getElem?_append_right (by rw [r.len]; exact Nat.le_refl _)] at h2
      simp [r.len] at h1 h2
      subst h1; subst h2
      exact hc rvs
theorem Step.adopt {H0 H : Hp} {μ0 μ : List Addr} {d : Addr} {o : HO} (s : Step H0 μ0 H μ) (h0 : H0 d = none) : Step H0 μ0 (upd H d o) (μ ++ [d]) := by
  obtain ⟨ν, e, n⟩ := s.ext
  refine ⟨⟨ν ++ [d], by rw [e, List.append_assoc], fun x hx => ?_⟩, (s.touch h0).keep, (s.touch h0).there⟩
  rcases List.mem_append.mp hx with z | z
  · exact n x z
  · simp at z; subst z; exact h0
theorem Rep.notin {K : PySem.W.Frag} {H : Hp} {μ : List Addr} {S : Sto} (r : Rep F K H μ S) {d : Addr} (h : H d = none) : d ∉ μ := fun hm => by
  obtain ⟨l, hl⟩ := List.getElem?_of_mem hm
  have hlt := (List.getElem?_eq_some_iff.mp hl).1
  rw [r.len] at hlt
  obtain ⟨o, e, _⟩ := (r.cell l (S[l]) d (by simp [hlt]) hl).some
  rw [h] at e; cases e
/-! ### {k: v, ..} -/
def trsOf (F : Fx) (K : PySem.W.Frag) (W : WX) (Φ : Fns) : List E → List (TE × TE)
  | k :: v :: es => (rdE F K W (denE Φ k), rdE F K W (denE Φ v)) :: trsOf F K W Φ es
  | _ => []
def flat2 : List (V × V) → List V
  | [] => []
  | (a, b) :: r => a :: b :: flat2 r
theorem rdA_pairs {K : PySem.W.Frag} : ∀ {n : Nat} {es : List E} {σ : L2.St} {H : Hp} {Q : List (V × V) → Hp → Prop}, es.length = 2 * n → rdA F K W (denEs Φ es) σ H (fun vs H1 => ∀ ps, flat2 ps = vs → Q ps H1) → tPairs (trsOf F K W Φ es) σ H Q
  | 0, [], σ, H, Q, _, h => rdA_nil h [] rfl
  | n + 1, [], _, _, _, hl, _ => by simp at hl
  | 0, _ :: _, _, _, _, hl, _ => by simp at hl
  | n + 1, [_], _, _, _, hl, _ => by simp at hl; omega
  | n + 1, k :: v :: es, σ, H, Q, hl, h => by
    refine (rdA_cons h).mono fun x H1 q1 => (rdA_cons q1).mono fun y H2 q2 => ?_
    refine rdA_pairs (n := n) (by simp at hl; omega) (q2.mono fun vs H3 q3 ps e => q3 ((x, y) :: ps) (by simp [flat2, e]))
theorem pairUp_ok : ∀ {ts : List T} {kvs : List (T × T)}, pairUp ts = some kvs → ∀ {K : PySem.W.Frag} {H : Hp} {μ : List Addr} {ps : List (V × V)}, RVs K H μ ts (flat2 ps) → RVs K H μ (kvs.map (·.1)) (ps.map (·.1)) ∧ RVs K H μ (kvs.map (·.2)) (ps.map (·.2))
  | [], kvs, h, _, _, _, [], _ => by cases h; exact ⟨.nil, .nil⟩
  | [], _, _, _, _, _, (_, _) :: _, r => by cases r
  | [_], _, h, _, _, _, _, _ => by simp [pairUp] at h
  | _ :: _ :: _, _, _, _, _, _, [], r => by cases r
  | k :: v :: ts, kvs, h, K, H, μ, (a, b) :: ps, .cons r1 (.cons r2 r3) => by
    simp only [pairUp, Option.map_eq_some_iff] at h
    obtain ⟨r, h1, rfl⟩ := h
    obtain ⟨i1, i2⟩ := pairUp_ok h1 r3
    exact ⟨.cons r1 i1, .cons r2 i2⟩
theorem pairUp_len : ∀ {ts : List T} {kvs : List (T × T)}, pairUp ts = some kvs → ts.length = 2 * kvs.length
  | [], _, h => by cases h; rfl
  | [_], _, h => by simp [pairUp] at h
  | _ :: _ :: ts, kvs, h => by
    simp only [pairUp, Option.map_eq_some_iff] at h
    obtain ⟨r, h1, rfl⟩ := h
    have := pairUp_len h1
    simp
    omega
/-- keys that are leaves -/
theorem leaf_keys {K : PySem.W.Frag} {H : Hp} {μ : List Addr} : ∀ {kvs : List (T × T)} {ps : List (V × V)}, (kvs.all fun kv => keyOk false kv.1) = true → RVs K H μ (kvs.map (·.1)) (ps.map (·.1)) → RVs K H μ (kvs.map (·.2)) (ps.map (·.2)) →
    ∃ es : List (Key × V), ps = es.map (fun kv => (kV kv.1, kv.2)) ∧ kvs.map (·.1) = es.map (fun p => keyT p.1) ∧ RVs K H μ (kvs.map (·.2)) (es.map (·.2))
  | [], [], _, _, _ => ⟨[], rfl, rfl, .nil⟩
  | [], _ :: _, _, r, _ => by cases r
  | _ :: _, [], _, r, _ => by cases r
  | (k, t) :: kvs, (a, b) :: ps, hk, .cons r1 r2, .cons r3 r4 => by
    simp only [List.all_cons, Bool.and_eq_true] at hk
    obtain ⟨es, e1, e2, e3⟩ := leaf_keys hk.2 r2 r4
    obtain ⟨key, rfl⟩ := keyOk_leaf hk.1
    have := r1.key
    subst this
    exact ⟨(key, b) :: es, by rw [e1]; rfl, by simp [e2], .cons r3 e3⟩
theorem merge_key {K : PySem.W.Frag} {H : Hp} {μ : List Addr} : ∀ {more : List (T × T)} {es : List (Key × V)} {kvs : List (T × T)} {fs : List (Key × V)}, more.map (·.1) = es.map (fun p => keyT p.1) → RVs K H μ (more.map (·.2)) (es.map (·.2)) →
    kvs.map (·.1) = fs.map (fun p => keyT p.1) → RVs K H μ (kvs.map (·.2)) (fs.map (·.2)) →
    (dMerge kvs more).map (·.1) = (mergeK fs es).map (fun p => keyT p.1) ∧ RVs K H μ ((dMerge kvs more).map (·.2)) ((mergeK fs es).map (·.2))
  | [], [], kvs, fs, _, _, h, r => ⟨h, r⟩
  | [], _ :: _, _, _, h, _, _, _ => by simp at h
  | _ :: _, [], _, _, h, _, _, _ => by simp at h
  | (k, t) :: more, (key, v) :: es, kvs, fs, h, .cons r1 r2, h2, r3 => by
    simp only [List.map_cons, List.cons.injEq] at h
    obtain ⟨e1, e2⟩ := h
    subst e1
    obtain ⟨i1, i2⟩ := put_key key r1 h2 r3
    have ih := merge_key e2 r2 i1 i2
    exact ih
theorem re_dct0 {pos : Pos} : RE F W Φ X (.dct false []) (.Dict [] [] pos) :=
  pe_imp pe_dnewK fun σ H Q ⟨σT, S, μ, a, b, c⟩ p hp => by
    have o : Out F X.K H μ (.ref S.length) (S ++ [.dct false []]) Q := c
    have q := b.laid (o := .dK []) (c := .dct false []) hp ⟨[], upd_same, rfl, .nil⟩
    exact o _ _ _ q.1 q.2 (.ref (by rw [← b.len, List.getElem?_append_right (Nat.le_refl _)]; simp))
theorem re_dct {es : List E} {keys : List (Option PySem.Expr)} {values : List PySem.Expr} {pos : Pos} {n : Nat} (h : PPs X pos keys values (trsOf F X.K W Φ es)) (hes : es.length = 2 * n) (hn : n ≤ 15) (hall : keys.all (·.isSome) = true) (hl : keys.length = values.length) (h0 : keys ≠ []) (h15 : keys.length ≤ 15) :
    RE F W Φ X (.dct false es) (.Dict keys values pos) :=
  pe_imp (pe_disp h hall hl h0 h15) fun σ H Q ⟨σT, S, μ, a, b, c⟩ p hp => by
    refine rdA_pairs hes ?_
    have c0 : Post F X.K W σ (RV X.K) H μ (seq (denEs Φ es σT) (fun ts => seq (opt (pairUp ts)) fun kvs => dictOf false kvs) S) Q := c
    have bs := b.beside (o := .dK []) hp
    have npμ := b.notin hp
    refine ⟨σT, S, μ, a.step b bs.2, bs.1, ?_⟩
    cases q : denEs Φ es σT S with
    | none => rw [show seq (denEs Φ es σT) (fun ts => seq (opt (pairUp ts)) fun kvs => dictOf false kvs) S = none by unfold seq; rw [q]] at c0; exact c0.elim
    | some r =>
      obtain ⟨r1, S'⟩ := r
      cases r1 with
      | error x =>
        rw [show seq (denEs Φ es σT) (fun ts => seq (opt (pairUp ts)) fun kvs => dictOf false kvs) S = some (.error x, S') by unfold seq; rw [q]] at c0
        exact fun H' μ' cls d hr st hx => c0 H' μ' cls d hr (bs.2.trans st) hx
      | ok ts =>
        rw [show seq (denEs Φ es σT) (fun ts => seq (opt (pairUp ts)) fun kvs => dictOf false kvs) S = seq (opt (pairUp ts)) (fun kvs => dictOf false kvs) S' by unfold seq; rw [q]] at c0
        intro H2 μ2 vs r2 s2 rv ps eps
        subst eps
        obtain ⟨kvs, e1, c1⟩ := Post.opt c0
        obtain ⟨hk, c2⟩ := Post.when_ (show Post F X.K W σ (RV X.K) H μ (when_ (kvs.all (fun kv => keyOk false kv.1) && decide (kvs.length ≤ lineT)) (new (.dct false (dMerge [] kvs))) S') Q from c1)
        simp only [Bool.and_eq_true] at hk
        obtain ⟨k1, k2⟩ := pairUp_ok e1 rv
        obtain ⟨es', e2, e3, e4⟩ := leaf_keys hk.1 k1 k2
        have hp2 : H2 p = some (.dK []) := s2.keep p _ npμ upd_same
        have np2 : p ∉ μ2 := fun hm => by
          obtain ⟨ν, e, nn⟩ := s2.ext
          rw [e] at hm
          rcases List.mem_append.mp hm with z | z
          · exact npμ z
          · have := nn p z; rw [upd_same] at this; cases this
        have hlen : es'.length ≤ 15 := by
          have h1 := denEs_len q
          have h2 := pairUp_len e1
          have h3 := congrArg List.length e3
          simp at h3
          omega
        refine ⟨hp2, es', e2, hlen, ?_⟩
        have o : Out F X.K H μ (.ref S'.length) (S' ++ [.dct false (dMerge [] kvs)]) Q := c2
        have ad := r2.adopt (o' := .dK (mergeK [] es')) (c := .dct false (dMerge [] kvs)) np2 hp2 (by simp) (by simp) fun lift => by
          obtain ⟨m1, m2⟩ := merge_key e3 (lift _ _ e4) (kvs := []) (fs := []) rfl .nil
          exact ⟨_, upd_same, m1, m2⟩
        exact o _ _ _ ad ((bs.2.trans s2).adopt hp) (.ref (by rw [← r2.len, List.getElem?_append_right (Nat.le_refl _)]; simp))
/-! ### y = [..] -/
theorem rs_setLc {i : Nat} {y : Str} {py : Pos} {e : E} {own : List (Str × Nat)} {p : P} {it : I} {cs : List E} {elt tg iter : PySem.Expr} {ifs : List PySem.Expr} {scope : Scope} {pos spos : Pos} (hc : X.calm = true) (hN : X.N.Nodup) (hy : X.N[i]? = some y) (hyl : X.env.scope.names.lookup y = some .local)
    (hsw : swapsWith (.ListComp elt [⟨tg, iter, ifs, 0⟩] scope pos) (some (.Name y py)) spos.line X.env = pure true) (hi : RI F W Φ X tg it iter) (ok : BlkOk X.N X.env.scope scope own) (hsl : ∀ i ∈ p.slots, i ∈ own.map (·.2))
    (hg : ∀ (s : Shared) (H : Hp) (C : Addr) (cl : List (Str × Addr)) (fp : List Addr), PG (X.blk s H scope (compEnvC scope cl C X.env) fp) tg (rdG X.K p))
    (ht : ∀ (s : Shared) (H : Hp) (C : Addr) (cl : List (Str × Addr)) (fp : List Addr), PTs (X.blk s H scope (compEnvC scope cl C X.env) fp) ifs (rdTs F X.K (fun _ _ _ _ => False) Φ cs))
    (he : ∀ (s : Shared) (H : Hp) (C : Addr) (cl : List (Str × Addr)) (fp : List Addr), PE (X.blk s H scope (compEnvC scope cl C X.env) fp) elt (rdE F X.K (fun _ _ _ _ => False) (denE Φ e))) (hs : ∀ x, foldedSetIterable iter X.env x = pure x) :
    RS F W Φ sub N X (.set i (.comp e (own.map (·.2)) p it cs)) (.Assign [.Name y py] (.ListComp elt [⟨tg, iter, ifs, 0⟩] scope pos) spos) :=
  ps_imp (ps_setLc hc hN hy hyl hsw hi ok hg ht he hs) fun D σ H q => by
    have q1 := rd_ex (f := fun σ t => if i < σ.length then sret .nx (σ.set i (some t)) else sfail) q
    have q2 := q1.mono (Q' := fun x H1 => D.nx (σ.set i (some x)) H1) fun x H1 ⟨t, σT, S1, μ1, a1, b1, r1, c1⟩ => by
      split at c1
      · exact PostS.done (v := .non) c1 b1 (a1.set r1 i) fun _ z => by cases z
      · exact c1.elim
    exact re_lc (elt := elt) (tg := tg) (iter := iter) (ifs := ifs) (scope := scope) (pos := pos) hsl q2
theorem re_comp {e : E} {own : List (Str × Nat)} {p : P} {it : I} {cs : List E} {elt tg iter : PySem.Expr} {ifs : List PySem.Expr} {scope : Scope} {pos : Pos} (hc : X.calm = true) (hN : X.N.Nodup) (hi : RI F W Φ X tg it iter) (ok : BlkOk X.N X.env.scope scope own) (hsl : ∀ i ∈ p.slots, i ∈ own.map (·.2))
    (hg : ∀ (s : Shared) (H : Hp) (C : Addr) (cl : List (Str × Addr)) (fp : List Addr), PG (X.blk s H scope (compEnvC scope cl C X.env) fp) tg (rdG X.K p))
    (ht : ∀ (s : Shared) (H : Hp) (C : Addr) (cl : List (Str × Addr)) (fp : List Addr), PTs (X.blk s H scope (compEnvC scope cl C X.env) fp) ifs (rdTs F X.K (fun _ _ _ _ => False) Φ cs))
    (he : ∀ (s : Shared) (H : Hp) (C : Addr) (cl : List (Str × Addr)) (fp : List Addr), PE (X.blk s H scope (compEnvC scope cl C X.env) fp) elt (rdE F X.K (fun _ _ _ _ => False) (denE Φ e))) (hs : ∀ x, foldedSetIterable iter X.env x = pure x) :
    RE F W Φ X (.comp e (own.map (·.2)) p it cs) (.ListComp elt [⟨tg, iter, ifs, 0⟩] scope pos) :=
  pe_imp (pe_lc hc hN hi ok hg ht he hs) fun σ H Q q => re_lc (elt := elt) (tg := tg) (iter := iter) (ifs := ifs) (scope := scope) (pos := pos) hsl q
/-! ### x, y = a, b and x, y, z = a, b, c -/
/-- the display, then the pattern -/
theorem rd_par {is : List Nat} {es : List E} {D : Ends} {σ : L2.St} {H : Hp} (h : rdS F X.K W (denS Φ sub N (.unp (.tup (is.map .slot)) (.tup es))) D σ H) :
    rdA F X.K W (denEs Φ es) σ H fun vs H1 => ∃ ts σT S1 μ1 σT', RSt X.K H1 μ1 σT σ ∧ Rep F X.K H1 μ1 S1 ∧ RVs X.K H1 μ1 ts vs ∧ bindOs (is.map .slot) ts σT = some σT' ∧ PostS F X.K W D H1 μ1 (sret .nx σT' S1) := by
  obtain ⟨σT, S, μ, a, b, c⟩ := h
  have e0 : denS Φ sub N (.unp (.tup (is.map .slot)) (.tup es)) σT S = sx σT (denEs Φ es σT) (fun ts => sx σT (bindP (.tup (is.map .slot)) (.tup ts) σT) fun σ' => sret .nx σ') S := by
    show sx σT (seq (denEs Φ es σT) fun ts => ret (T.tup ts)) _ S = _
    unfold sx seq
    cases q : denEs Φ es σT S with
    | none => rfl
    | some r =>
      obtain ⟨r1, S'⟩ := r
      cases r1 <;> rfl
  rw [e0] at c
  refine ⟨σT, S, μ, a, b, (PostS.ex (R' := RVs X.K) (f := fun ts => sx σT (bindP (.tup (is.map .slot)) (.tup ts) σT) fun σ' => sret .nx σ') a b c).imp fun vs H1 ⟨ts, S1, μ1, a1, b1, s1, rv, c1⟩ => ?_⟩
  obtain ⟨σT', eb, c2⟩ := bind_ok c1
  exact ⟨ts, σT, S1, μ1, σT', a1, b1, rv, eb, c2⟩
theorem rs_par {i j : Nat} {y z : Str} {e e' : E} {x x' : PySem.Expr} {py pz pt : Pos} {kt k2 : Nat} {pt2 pos : Pos} (hc : X.calm = true) (hN : X.N.Nodup) (hi : X.N[i]? = some y) (hj : X.N[j]? = some z) (hij : i ≠ j) (hy : X.env.scope.names.lookup y = some .local) (hz : X.env.scope.names.lookup z = some .local)
    (ha : RAs F W Φ X [e, e'] [x, x']) (hw : swappedStores [.Tuple [.Name y py, .Name z pz] kt pt] (.Tuple [x, x'] k2 pt2) X.env = pure (some [y, z])) (hs : swapsWithSole [.Tuple [.Name y py, .Name z pz] kt pt] (.Tuple [x, x'] k2 pt2) pos.line X.env = pure false) :
    RS F W Φ sub N X (.unp (.tup [.slot i, .slot j]) (.tup [e, e'])) (.Assign [.Tuple [.Name y py, .Name z pz] kt pt] (.Tuple [x, x'] k2 pt2) pos) :=
  ps_imp (ps_par hc hN hi hj hij hy hz ha hw hs) fun D σ H q => (rd_par (is := [i, j]) q).mono fun vs H1 ⟨ts, σT, S1, μ1, σT', a1, b1, rv, eb, c⟩ => by
    match vs, ts, rv with
    | [], [], .nil => simp [bindOs] at eb
    | [_], [_], .cons _ .nil =>
      simp only [List.map_cons, List.map_nil, bindOs] at eb
      split at eb <;> cases eb
    | _ :: _ :: _ :: _, _ :: _ :: _ :: _, .cons _ (.cons _ (.cons _ _)) =>
      simp only [List.map_cons, List.map_nil, bindOs] at eb
      split at eb
      · split at eb <;> cases eb
      · cases eb
    | [v, w], [t, t'], .cons r1 (.cons r2 .nil) =>
      simp only [List.map_cons, List.map_nil, bindOs, bindO] at eb
      split at eb
      · rename_i σ1 q1
        split at q1
        · cases q1
          split at eb
          · rename_i σ2 q2
            split at q2
            · cases q2
              cases eb
              exact ⟨v, w, rfl, PostS.done (v := .non) (f := .nx) c b1 ((a1.set r1 i).set r2 j) fun _ z => by cases z⟩
            · cases q2
          · cases eb
        · cases q1
      · cases eb
def tPar3 (i j k : Nat) (ta : TA) : TS := fun D σ H => ta σ H fun vs H1 => ∃ u v w, vs = [u, v, w] ∧ D.nx (((σ.set i (some u)).set j (some v)).set k (some w)) H1
theorem ps_par3 {i j k : Nat} {n1 n2 n3 : Str} {a b c : PySem.Expr} {ta : TA} {p1 p2 p3 pt pt2 pos : Pos} {kt k2 : Nat} (hc : X.calm = true) (hN : X.N.Nodup) (hi : X.N[i]? = some n1) (hj : X.N[j]? = some n2) (hk : X.N[k]? = some n3) (hij : i ≠ j) (hik : i ≠ k) (hjk : j ≠ k)
    (h1 : X.env.scope.names.lookup n1 = some .local) (h2 : X.env.scope.names.lookup n2 = some .local) (h3 : X.env.scope.names.lookup n3 = some .local) (ha : PA X [a, b, c] ta)
    (hw : swappedStores [.Tuple [.Name n1 p1, .Name n2 p2, .Name n3 p3] kt pt] (.Tuple [a, b, c] k2 pt2) X.env = pure (some [n1, n2, n3]))
    (hs : swapsWithSole [.Tuple [.Name n1 p1, .Name n2 p2, .Name n3 p3] kt pt] (.Tuple [a, b, c] k2 pt2) pos.line X.env = pure false) :
    PS X (.Assign [.Tuple [.Name n1 p1, .Name n2 p2, .Name n3 p3] kt pt] (.Tuple [a, b, c] k2 pt2) pos) (tPar3 i j k ta) := by
  refine ⟨fun pins s σ H D I q => ?_⟩
  rw [exec_Assign_arm]
  refine wpAny_bind (wpAny_standAt ?_)
  rw [hs]
  refine wpAny_bind (wpAny_pure ?_)
  rw [if_neg (by decide)]
  refine wpAny_bind (Tuple_ (thn (ha.run _ pins s σ H _ I q) fun us s1 ⟨vs, H1, I1, r1, q1⟩ => ?_))
  obtain ⟨v1, v2, v3, e1, q1⟩ := q1
  subst e1
  obtain ⟨u1, u2, u3, rfl, rv1, rv2, rv3⟩ : ∃ u1 u2 u3, us = [u1, u2, u3] ∧ L2.RelV v1 u1 ∧ L2.RelV v2 u2 ∧ L2.RelV v3 u3 := by
    cases r1 with
    | cons x r1 =>
      cases r1 with
      | cons y r1 =>
        cases r1 with
        | cons z r1 =>
          cases r1
          exact ⟨_, _, _, rfl, x, y, z⟩
  refine wpAny_newObj_type ?_ (show 3 ≤ sizeLine by rw [sizeLine_eq]; omega)
  have J2 : L2.Inv X pins σ H1 { s1 with heap := s1.heap.push { cls := .type "tuple", data := .seq [u1, u2, u3].toArray } } := I1.kept (t' := s1.toks) fun b o e => Heap.get?_push_of_some _ e
  rw [hw]
  refine wpAny_bind (wpAny_pure ?_)
  show wpAny (model X.prog X.w) X.A (do rule "assign.swapped-stores"; let items ← unpackItems (.ref s1.heap.objs.size) 3 none; assignInOrder [fun v => bindName X.env n3 v, fun v => bindName X.env n2 v, fun v => bindName X.env n1 v] items.reverse; pure Flow.next) _ _ _
  refine wpAny_bind (wpAny_rule (wpAny_bind (unpackItems_tuple (items := #[u1, u2, u3]) (I.ok.hd hc) (IsTup.new s1.heap _) fun h' hx' => ?_)))
  have J3 := J2.kept (h' := h') (t' := s1.toks) fun b o e => hx' b o (Nat.ne_of_lt (Heap.lt_size e)) e
  show wpAny _ _ (assignInOrder [fun v => bindName X.env n3 v, fun v => bindName X.env n2 v, fun v => bindName X.env n1 v] [u3, u2, u1] >>= fun _ => pure Flow.next) _ _ _
  refine wpAny_bind (assignInOrder_cons (wpAny_bindName (store_ok J3 hN hk (.inl h3) rv3 (fun s2 J4 => ?_) (.inr h3))))
  refine assignInOrder_cons (wpAny_bindName (store_ok J4 hN hj (.inl h2) rv2 (fun s3 J5 => ?_) (.inr h2)))
  refine assignInOrder_cons (wpAny_bindName (store_ok J5 hN hi (.inl h1) rv1 (fun s4 J6 => assignInOrder_nil (wpAny_pure ?_)) (.inr h1)))
  have e : ((σ.set k (some v3)).set j (some v2)).set i (some v1) = ((σ.set i (some v1)).set j (some v2)).set k (some v3) := by
    rw [List.set_comm _ _ (Ne.symm hij), List.set_comm (some v3) (some v1) (Ne.symm hik), List.set_comm (some v3) (some v2) (Ne.symm hjk)]
  rw [e] at J6
  exact ⟨_, H1, J6, q1⟩
theorem rs_par3 {i j k : Nat} {n1 n2 n3 : Str} {e1 e2 e3 : E} {a b c : PySem.Expr} {p1 p2 p3 pt pt2 pos : Pos} {kt k2 : Nat} (hc : X.calm = true) (hN : X.N.Nodup) (hi : X.N[i]? = some n1) (hj : X.N[j]? = some n2) (hk : X.N[k]? = some n3) (hij : i ≠ j) (hik : i ≠ k) (hjk : j ≠ k)
    (h1 : X.env.scope.names.lookup n1 = some .local) (h2 : X.env.scope.names.lookup n2 = some .local) (h3 : X.env.scope.names.lookup n3 = some .local) (ha : RAs F W Φ X [e1, e2, e3] [a, b, c])
    (hw : swappedStores [.Tuple [.Name n1 p1, .Name n2 p2, .Name n3 p3] kt pt] (.Tuple [a, b, c] k2 pt2) X.env = pure (some [n1, n2, n3]))
    (hs : swapsWithSole [.Tuple [.Name n1 p1, .Name n2 p2, .Name n3 p3] kt pt] (.Tuple [a, b, c] k2 pt2) pos.line X.env = pure false) :
    RS F W Φ sub N X (.unp (.tup [.slot i, .slot j, .slot k]) (.tup [e1, e2, e3])) (.Assign [.Tuple [.Name n1 p1, .Name n2 p2, .Name n3 p3] kt pt] (.Tuple [a, b, c] k2 pt2) pos) :=
  ps_imp (ps_par3 hc hN hi hj hk hij hik hjk h1 h2 h3 ha hw hs) fun D σ H q => rdA_len ((rd_par (is := [i, j, k]) q).mono fun vs H1 ⟨ts, σT, S1, μ1, σT', a1, b1, rv, eb, c⟩ hl => by
    match vs, ts, rv with
    | [u, v, w], [t, t', t''], .cons r1 (.cons r2 (.cons r3 .nil)) =>
      simp only [List.map_cons, List.map_nil, bindOs, bindO] at eb
      split at eb
      · rename_i σ1 q1
        split at q1
        · cases q1
          split at eb
          · rename_i σ2 q2
            split at q2
            · cases q2
              split at eb
              · rename_i σ3 q3
                split at q3
                · cases q3
                  cases eb
                  exact ⟨u, v, w, rfl, PostS.done (v := .non) (f := .nx) c b1 (((a1.set r1 i).set r2 j).set r3 k) fun _ z => by cases z⟩
                · cases q3
              · cases eb
            · cases q2
          · cases eb
        · cases q1
      · cases eb)
end
end LS
end

section
set_option Elab.async false
set_option linter.all false
set_option maxRecDepth 100000
set_option maxHeartbeats 4000000
/-! LS.Chk: whether a text of the program is what a term of the store's language says. -/
namespace LS
open PySem PySem.Spec PyProof.Rows L2
/-- a def: its name, its parameters -/
structure FI where
  name : Str
  ps : List Str
  deriving DecidableEq, Inhabited
def plainE : PySem.Expr → Bool
  | .Starred .. => false
  | _ => true
def noSlB : PySem.Expr → Bool
  | .Slice .. => false
  | _ => true
def noCompB : PySem.Expr → Bool
  | .ListComp .. => false
  | .SetComp .. => false
  | .DictComp .. => false
  | _ => true
def noSetB : PySem.Expr → Bool
  | .Set .. => false
  | _ => true
def baseB : PySem.Expr → Bool
  | .Call .. => false
  | _ => true
def visB (sc : Scope) (x : Str) : Bool := match sc.names.lookup x with
  | some .local => true
  | some .cell => true
  | some .free => true
  | _ => false
def locB (sc : Scope) (x : Str) : Bool := match sc.names.lookup x with
  | some .local => true
  | some .cell => true
  | _ => false
def glB (sc : Scope) (x : Str) : Bool := match sc.names.lookup x with
  | some .globalImplicit => true
  | _ => false
def conB : T → PySem.Const → Bool
  | .non, .none => true
  | .bl b, .bool c => b == c
  | .int i, .int j => i == j
  | .str s, .str z => s == z.cps.toList
  | _, _ => false
def opB : Prim → Operator → Bool
  | .add, .Add => true
  | .sub, .Sub => true
  | .mul, .Mult => true
  | .fdiv, .FloorDiv => true
  | .mod, .Mod => true
  | .pow, .Pow => true
  | _, _ => false
def cmpB : Prim → CmpOp → Bool
  | .eq, .Eq => true
  | .ne, .NotEq => true
  | .lt, .Lt => true
  | .le, .LtE => true
  | .gt, .Gt => true
  | .ge, .GtE => true
  | .isin, .In => true
  | .notin, .NotIn => true
  | _, _ => false
def getB : Prim → Bool
  | .get => true
  | _ => false
def negB : Prim → UnaryOp → Bool
  | .neg, .USub => true
  | _, _ => false
def bltName : Prim → Option Str
  | .len => some "len"
  | .repr => some "repr"
  | .abs => some "abs"
  | .sorted => some "sorted"
  | _ => none
def tyName : Prim → Option Str
  | .intOf => some "int"
  | .tuple => some "tuple"
  | .list => some "list"
  | _ => none
def blts : List Str := ["len", "repr", "abs", "sorted", "int", "tuple", "list", "range", "enumerate", "zip"]
/-- kind, method, its name, how many arguments -/
def methB : Ty → Prim → Str → Nat → Bool
  | .list, .append, m, 1 => m == "append"
  | .list, .extend, m, 1 => m == "extend"
  | .list, .pop, m, 0 => m == "pop"
  | .list, .popAt, m, 1 => m == "pop"
  | .dict, .get1, m, 1 => m == "get"
  | .dict, .get2, m, 2 => m == "get"
  | _, _, _, _ => false
/-- which item is which parameter's -/
def kwIx (n : Nat) (ks : List Str) (x : Str) : Option Nat := (ks.idxOf? x).map (n + ·)
def permB (ps : List Str) (n : Nat) (ks : List Str) (perm : List Nat) : Bool :=
  decide (perm.length = ps.length) && decide (n ≤ ps.length) && decide ks.Nodup && (ks.all fun k => decide (k ∈ ps) && !decide (k ∈ ps.take n)) &&
    ((List.range ps.length).all fun i => if i < n then perm[i]? == some i else match ps[i]? with
      | some x => perm[i]? == kwIx n ks x && (kwIx n ks x).isSome
      | none => false)
def kwNames (kws : List Keyword) : List Str := kws.filterMap fun k => k.arg
section
variable (Fs : Nat → Option FI) (N : List Str)
def slotB (sc raw : Scope) : P → PySem.Expr → Bool
  | .slot i, .Name x _ => (N[i]? == some x) && locB sc x && (locB raw x || match sc.names.lookup x with
    | some .local => true
    | _ => false)
  | _, _ => false
mutual
def chkP (sc raw : Scope) : P → PySem.Expr → Bool
  | .slot i, .Name x _ => (N[i]? == some x) && locB sc x && (match raw.names.lookup x, sc.names.lookup x with
    | some .cell, _ => true
    | _, some .local => true
    | _, _ => false)
  | .tup ps, .Tuple es _ _ => chkPs sc raw ps es
  | _, _ => false
def chkPs (sc raw : Scope) : List P → List PySem.Expr → Bool
  | [], [] => true
  | p :: ps, e :: es => plainE e && chkP sc raw p e && chkPs sc raw ps es
  | _, _ => false
end
def rangeB (sc : Scope) (x : Str) : Bool := x == "range" && glB sc x
mutual
def chkE (sc raw : Scope) : E → PySem.Expr → Bool
  | .var i, .Name x _ => (N[i]? == some x) && visB sc x && !(x == "__debug__") && !(x == "__classdict__")
  | .con t, .Constant c _ _ => conB t c
  | .num e, x => chkE sc raw e x
  | .tup es, .Tuple xs _ _ => chkEs sc raw es xs && decide (es.length ≤ 1000)
  | .lst es, .List xs _ => chkEs sc raw es xs && decide (es.length ≤ 1000)
  | .tupS ss es, .Tuple xs _ _ => chkSt sc raw es ss xs
  | .lstS ss es, .List xs _ => chkSt sc raw es ss xs
  | .dct tk es, .Dict keys values _ => !tk && chkD sc raw es keys values && decide (keys.length ≤ 15)
  | .app p es, .BinOp a op b _ => opB p op && chkEs sc raw es [a, b]
  | .app p es, .UnaryOp op a _ => negB p op && chkEs sc raw es [a]
  | .app p es, .Compare a [op] [b] _ => (match p, op, b with
    | .isNone, .Is, .Constant .none _ _ => chkEs sc raw es [a]
    | .notNone, .IsNot, .Constant .none _ _ => chkEs sc raw es [a]
    | _, _, _ => cmpB p op && chkEs sc raw es [a, b] && noSetB b)
  | .app p es, .Subscript a (.Slice lo hi none _) _ => (match p, lo, hi, es with
    | .slc false false, none, none, _ => chkEs sc raw es [a]
    | .slc true false, some l, none, _ => chkEs sc raw es [a, l]
    | .slc false true, none, some h, _ => chkEs sc raw es [a, h]
    | .slc true true, some l, some h, [_, .num _, _] => chkEs sc raw es [a, l, h]
    | _, _, _, _ => false)
  | .app p es, .Subscript a b _ => getB p && noSlB b && chkEs sc raw es [a, b]
  | .app p es, .Call (.Name x _) ys [] _ => (bltName p == some x || tyName p == some x) && glB sc x && chkEs sc raw es ys && !ys.isEmpty
  | .meth k p o es, .Call (.Attribute a m apos) ys [] cpos => methB k p m es.length && chkE sc raw o a && baseB a && chkEs sc raw es ys && (apos.endLine == cpos.line)
  | .call i es, .Call (.Name x _) ys [] _ => (match Fs i with
    | some fi => (fi.name == x) && glB sc x && chkEs sc raw es ys && !(x == "__debug__")
    | none => false)
  | .callK i es fs perm, .Call (.Name x _) ys kws _ => (match Fs i with
    | some fi => (fi.name == x) && glB sc x && chkEs sc raw es ys && !(x == "__debug__") && chkK sc raw fs kws && permB fi.ps es.length (kwNames kws) perm
    | none => false)
  | .and es, .BoolOp .And xs _ => chkEs sc raw es xs && !es.isEmpty
  | .or es, .BoolOp .Or xs _ => chkEs sc raw es xs && !es.isEmpty
  | .not e, .UnaryOp .Not x _ => chkE sc raw e x
  | .chain e [p, p'] es, .Compare a [op, op'] [b, c] _ => chkE sc raw e a && cmpB p op && cmpB p' op' && chkEs sc raw es [b, c] && noSetB c
  | .ite c e e', .IfExp y x x' _ => chkE sc raw c y && chkE sc raw e x && chkE sc raw e' x'
  | .comp e own p it cs, .ListComp elt [⟨tg, iter, ifs, as⟩] scope _ => decide (as = 0) && blkC N sc scope (own.map fun i => ((N[i]?).getD "", i)) && (p.slots.all fun i => decide (i ∈ own)) && chkI sc raw it iter tg && noSetB iter &&
      chkP N (relS scope sc) scope p tg && chkEs (relS scope sc) scope cs ifs && decide (cs.length ≤ 1) && chkE (relS scope sc) scope e elt
  | .lstI (.range es), .Call (.Name x _) [.Call (.Name y _) ys [] _] [] _ => x == "list" && glB sc x && rangeB sc y && chkEs sc raw es ys && (decide (ys.length = 1) || decide (ys.length = 2))
  | .tupI (.range es), .Call (.Name x _) [.Call (.Name y _) ys [] _] [] _ => x == "tuple" && glB sc x && rangeB sc y && chkEs sc raw es ys && (decide (ys.length = 1) || decide (ys.length = 2))
  | _, _ => false
def chkEs (sc raw : Scope) : List E → List PySem.Expr → Bool
  | [], [] => true
  | e :: es, x :: xs => plainE x && chkE sc raw e x && chkEs sc raw es xs
  | _, _ => false
def chkSt (sc raw : Scope) : List E → List Bool → List PySem.Expr → Bool
  | [], [], [] => true
  | e :: es, false :: ss, x :: xs => plainE x && chkE sc raw e x && chkSt sc raw es ss xs
  | e :: es, true :: ss, .Starred x _ :: xs => chkE sc raw e x && chkSt sc raw es ss xs
  | _, _, _ => false
def chkD (sc raw : Scope) : List E → List (Option PySem.Expr) → List PySem.Expr → Bool
  | [], [], [] => true
  | k :: v :: es, some x :: xs, y :: ys => chkE sc raw k x && chkE sc raw v y && chkD sc raw es xs ys
  | _, _, _ => false
def chkK (sc raw : Scope) : List E → List Keyword → Bool
  | [], [] => true
  | e :: es, ⟨some _, x, _⟩ :: xs => chkE sc raw e x && chkK sc raw es xs
  | _, _ => false
def chkI (sc raw : Scope) : I → PySem.Expr → PySem.Expr → Bool
  | .val e, x, _ => chkE sc raw e x
  | .range es, .Call (.Name x _) ys [] _, _ => rangeB sc x && chkEs sc raw es ys && (decide (ys.length = 1) || decide (ys.length = 2) || decide (ys.length = 3))
  | .enum e, .Call (.Name x _) [y] [] _, .Tuple .. => x == "enumerate" && glB sc x && plainE y && chkE sc raw e y
  | .zip e e', .Call (.Name x _) [y, z] [] _, .Tuple .. => x == "zip" && glB sc x && plainE y && plainE z && chkE sc raw e y && chkE sc raw e' z
  | _, _, _ => false
end
def nameB (sc : Scope) (l : Nat) : PySem.Expr → Option Str
  | .Name id pos => if sc.names.lookup id == some .local && pos.line == l then some id else none
  | _ => none
/-- what a display of two or three names stores from the right: none where that is not said -/
def swB (sc : Scope) (tg x : PySem.Expr) : Option (Option (List Str)) := match tg, x with
  | .Tuple ts _ _, .Tuple vs _ _ => if (ts.length == 2 || ts.length == 3) && vs.length == ts.length && vs.all plainE then
      (let line := ((ts.head?).map fun t => t.pos.line).getD 0
       let names := ts.filterMap (nameB sc line)
       if names.length != ts.length || names.eraseDups.length != names.length then some none
       else if vs.all (foldedForSure 8) then some none
       else if vs.all (constantsAlone 8) then none
       else some (some names))
    else if (ts.length == 2 || ts.length == 3) && vs.length == ts.length then none else some none
  | .List .., _ => none
  | _, _ => some none
def lcOnly : PySem.Expr → Bool
  | .SetComp .. => false
  | .DictComp .. => false
  | _ => true
def noNumB : E → Bool
  | .num _ => false
  | _ => true
def tupB : PySem.Expr → Bool
  | .Tuple .. => true
  | _ => false
/-- y = [..], y a local, on one line: the comprehension's frame is the statement's -/
def lcSwap (sc : Scope) (y : Str) (py : Pos) : PySem.Expr → Bool
  | .ListComp elt g scope pos => sc.names.lookup y == some .local && py.line == pos.line && !(scope.names.any fun p => p.1 == y && (p.2 == .local || p.2 == .cell))
  | _ => false
mutual
def chkS (sc : Scope) : S → Stmt → Bool
  | .exp e, .Expr x _ => chkE Fs N sc sc e x && noCompB x
  | .set i e, .Assign [.Name y py] x _ => (N[i]? == some y) && locB sc y && chkE Fs N sc sc e x && noNumB e && lcOnly x
  | .unp p e, .Assign [tg] x _ => tupB tg && chkP N sc sc p tg && chkE Fs N sc sc e x && noCompB x && (match swB sc tg x with
    | some none => true
    | some (some _) => (match p, e, x with
      | .tup [.slot i, .slot j], .tup _, .Tuple xs _ _ => !(i == j) && decide (xs.length = 2)
      | .tup [.slot i, .slot j, .slot k], .tup _, .Tuple xs _ _ => !(i == j) && !(i == k) && !(j == k) && decide (xs.length = 3)
      | _, _, _ => false)
    | none => false)
  | .sub o i e, .Assign [.Subscript a b _] x _ => chkE Fs N sc sc o a && chkE Fs N sc sc i b && chkE Fs N sc sc e x && noCompB x && noSlB b
  | .ife c a b, .If x xs ys _ => chkE Fs N sc sc c x && chkSs sc a xs && chkSs sc b ys
  | .whl c b, .While x xs [] _ => chkE Fs N sc sc c x && chkSs sc b xs
  | .for p it b, .For tg iter xs [] _ => chkP N sc sc p tg && chkI Fs N sc sc it iter tg && noSetB iter && chkSs sc b xs
  | .ret e, .Return (some x) _ => chkE Fs N sc sc e x
  | .retN, .Return none _ => true
  | .pass, .Pass _ => true
  | .cont, .Continue _ => true
  | .brk, .Break _ => true
  | _, _ => false
def chkSs (sc : Scope) : List S → List Stmt → Bool
  | [], [] => true
  | s :: ss, x :: xs => chkS sc s x && chkSs sc ss xs
  | _, _ => false
end
end
end LS
end

section
set_option Elab.async false
set_option linter.all false
set_option maxRecDepth 100000
set_option maxHeartbeats 4000000
/-! LS.Snd: what is checked is so: expressions. -/
namespace LS
open PySem PySem.Spec PyProof.Rows L2
/-- the def of that name, as it stands behind the top -/
def FnI (F : Fx) (Φ : Fns) (X : Cx) (i : Nat) (fi : FI) : Prop := ∃ k f fd, X.mg fi.name = some (.ref f) ∧ PySem.W.keepIn X.K (.ref f) = true ∧ RoomG k X.A ∧ FnG X.prog X.w X.K X.mg X.base k f fd fi.ps (spF F X.K Φ i) ∧ ByPlace fd fi.ps ∧
  ∀ n ks perm, permB fi.ps n ks perm = true → ByName fd fi.ps n ks perm
structure Good (F : Fx) (Φ : Fns) (Fs : Nat → Option FI) (N : List Str) (W : WX) (X : Cx) (sc raw : Scope) : Prop where
  hN : X.N = N
  nd : N.Nodup
  hsc : X.env.scope = sc
  calm : X.calm = true
  fn : ∀ x, raw.names.lookup x = some .cell → X.fn x = true
  room : RoomG 0 X.A
  bl : ∀ x ∈ blts, X.mg x = none
  fns : ∀ i fi, Fs i = some fi → FnI F Φ X i fi
  tk : Takes X W
  kind : sc.kind = .function
section
variable {F : Fx} {Φ : Fns} {Fs : Nat → Option FI} {N : List Str} {W : WX} {X : Cx} {sc raw : Scope}
theorem Good.hu (g : Good F Φ Fs N W X sc raw) : X.A.units + 200 < cLine := by have := g.room.room.un; omega
theorem Good.blk (g : Good F Φ Fs N W X sc raw) {scope : Scope} {own : List (Str × Nat)} (hb : blkC N sc scope own = true) (s : Shared) (H : Hp) (C : Addr) (cl : List (Str × Addr)) (fp : List Addr) :
    Good F Φ Fs N (fun _ _ _ _ => False) (X.blk s H scope (compEnvC scope cl C X.env) fp) (relS scope sc) scope where
  hN := g.hN
  nd := g.nd
  hsc := by rw [← g.hsc]; rfl
  calm := g.calm
  fn := fun x h => by
    show (scope.names.lookup x == some .cell) = true
    rw [h]; rfl
  room := g.room
  bl := g.bl
  fns := g.fns
  tk := fun _ _ ⟨_, _, _, _, _, _, _, _, _, _, _, _, _, _, _, _, w⟩ => w.elim
  kind := (blkOk_by hb).kind
theorem vis_of {sc : Scope} {x : Str} (h : visB sc x = true) : Vis sc x := by
  unfold visB at h
  split at h
  · rename_i q; exact .inl q
  · rename_i q; exact .inr (.inl q)
  · rename_i q; exact .inr (.inr q)
  · cases h
theorem loc_of {sc : Scope} {x : Str} (h : locB sc x = true) : Loc sc x := by
  unfold locB at h
  split at h
  · rename_i q; exact .inl q
  · rename_i q; exact .inr q
  · cases h
theorem Good.gl (g : Good F Φ Fs N W X sc raw) {x : Str} (h : glB sc x = true) : Gl X x := by
  unfold glB at h
  show X.env.scope.names.lookup x = some .globalImplicit
  rw [g.hsc]
  split at h
  · rename_i q; exact q
  · cases h
/-! ### the trees of arguments -/
theorem star_cons {x : PySem.Expr} (xs : List PySem.Expr) (env : Env) (h : plainE x = true) : starEach (x :: xs) env = (false, eval x env) :: starEach xs env := by
  cases x <;> first | rfl | cases h
theorem star_none : ∀ (xs : List PySem.Expr) (env : Env) (pos : Pos), (xs.all plainE) = true → (backTo pos (starEach xs env)).any (·.1) = false
  | [], env, pos, _ => rfl
  | x :: xs, env, pos, h => by
    simp only [List.all_cons, Bool.and_eq_true] at h
    rw [star_cons xs env h.1]
    have ih := star_none xs env pos h.2
    simpa [backTo] using ih
theorem star_len : ∀ (xs : List PySem.Expr) (env : Env), (starEach xs env).length = xs.length
  | [], _ => rfl
  | x :: xs, env => by cases x <;> simp [starEach, star_len xs env]
theorem few_of {xs : List PySem.Expr} {env : Env} {pos : Pos} (h : (xs.all plainE) = true) (hl : xs.length < 28) : ((backTo pos (starEach xs env)).all (fun x => !x.1) && (backToKw pos (keywordEach [] env)).all (fun x => x.1.isSome) && decide (xs.length + ([] : List Keyword).length + (if ([] : List Keyword).isEmpty then 0 else 1) < 30)) = true := by
  have h1 := star_none xs env pos h
  have h2 : (backTo pos (starEach xs env)).all (fun x => !x.1) = true := by
    rw [List.all_eq_true]
    intro x hx
    have := (List.any_eq_false.mp h1) x hx
    simpa using this
  rw [h2]
  simp [keywordEach, backToKw]
  omega
theorem base_of {o : PySem.Expr} (m : Str) (env : Env) (h : baseB o = true) : attributeBase o m env (eval o env) = eval o env := by
  cases o <;> first | rfl | cases h
theorem set_of {x : PySem.Expr} (env : Env) (h : noSetB x = true) : ∀ y, foldedSetIterable x env y = pure y := by
  intro y
  cases x <;> first | rfl | cases h
theorem mark_of {op : CmpOp} {b : PySem.Expr} (h : noSetB b = true) : behindInMarks op b = false := by
  cases b <;> first | rfl | cases h
theorem plainIx_of {b : PySem.Expr} (h : noSlB b = true) : PlainIx b := by
  intro o i
  cases b <;> first | rfl | cases h
/-- how a value that is no test of its own is tested -/
def valTest : PySem.Expr → Bool
  | .BoolOp .. => false
  | .IfExp .. => false
  | .Compare .. => false
  | .UnaryOp .Not _ _ => false
  | _ => true
theorem test_of {x : PySem.Expr} (env : Env) (h : valTest x = true) : ∀ whole, isTrue x env whole = (do let v ← whole; standAt x.pos; holding [v] (truthy v)) := by
  intro whole
  cases x with
  | UnaryOp op a p => cases op <;> first | rfl | cases h
  | _ => first | rfl | cases h
theorem both {e : E} {x : PySem.Expr} (h : RE F W Φ X e x) (t : valTest x = true) : RE F W Φ X e x ∧ RT F W Φ X e x := ⟨h, rt_val h (test_of X.env t)⟩
/-! ### lists of expressions -/
inductive F2 (F : Fx) (W : WX) (Φ : Fns) (X : Cx) : List E → List PySem.Expr → Prop
  | nil : F2 F W Φ X [] []
  | cons {e : E} {es : List E} {x : PySem.Expr} {xs : List PySem.Expr} : plainE x = true → RE F W Φ X e x → RT F W Φ X e x → F2 F W Φ X es xs → F2 F W Φ X (e :: es) (x :: xs)
theorem F2.plain {es : List E} {xs : List PySem.Expr} (h : F2 F W Φ X es xs) : (xs.all plainE) = true := by
  induction h with
  | nil => rfl
  | cons p _ _ _ ih => simp [p, ih]
theorem F2.len {es : List E} {xs : List PySem.Expr} (h : F2 F W Φ X es xs) : es.length = xs.length := by
  induction h with
  | nil => rfl
  | cons _ _ _ _ ih => simp [ih]
theorem F2.ras {es : List E} {xs : List PySem.Expr} (h : F2 F W Φ X es xs) : RAs F W Φ X es xs := by
  induction h with
  | nil => exact ra_nil
  | cons p r _ _ ih => exact ra_cons r ih (star_cons _ _ p)
def PE_ (F : Fx) (Φ : Fns) (Fs : Nat → Option FI) (e : E) : Prop := ∀ (N : List Str) (W : WX) (X : Cx) (sc raw : Scope) (x : PySem.Expr), Good F Φ Fs N W X sc raw → chkE Fs N sc raw e x = true → RE F W Φ X e x ∧ RT F W Φ X e x
theorem snd_es {es : List E} (ih : ∀ e ∈ es, PE_ F Φ Fs e) (g : Good F Φ Fs N W X sc raw) : ∀ {xs : List PySem.Expr}, chkEs Fs N sc raw es xs = true → F2 F W Φ X es xs := by
  induction es with
  | nil =>
    intro xs h
    cases xs with
    | nil => exact .nil
    | cons _ _ => simp [chkEs] at h
  | cons e es ihl =>
    intro xs h
    cases xs with
    | nil => simp [chkEs] at h
    | cons x xs =>
      simp only [chkEs, Bool.and_eq_true] at h
      obtain ⟨r, t⟩ := ih e (by simp) N W X sc raw x g h.1.2
      exact .cons h.1.1 r t (ihl (fun e he => ih e (by simp [he])) h.2)
theorem snd_st {es : List E} (ih : ∀ e ∈ es, PE_ F Φ Fs e) (g : Good F Φ Fs N W X sc raw) : ∀ {ss : List Bool} {xs : List PySem.Expr}, chkSt Fs N sc raw es ss xs = true → RStars F W Φ X es ss xs := by
  induction es with
  | nil =>
    intro ss xs h
    cases ss <;> cases xs <;> first | exact rst_nil | simp [chkSt] at h
  | cons e es ihl =>
    intro ss xs h
    cases ss with
    | nil => simp [chkSt] at h
    | cons b ss =>
      cases xs with
      | nil => cases b <;> simp [chkSt] at h
      | cons x xs =>
        cases b with
        | false =>
          simp only [chkSt, Bool.and_eq_true] at h
          exact rst_plain (ih e (by simp) N W X sc raw x g h.1.2).1 (ihl (fun e he => ih e (by simp [he])) h.2) (star_cons _ _ h.1.1)
        | true =>
          cases x with
          | Starred y p =>
            simp only [chkSt, Bool.and_eq_true] at h
            exact rst_star (ih e (by simp) N W X sc raw y g h.1).1 (ihl (fun e he => ih e (by simp [he])) h.2) rfl
          | _ => simp [chkSt] at h
theorem snd_d : ∀ {es : List E}, (∀ e ∈ es, PE_ F Φ Fs e) → Good F Φ Fs N W X sc raw → ∀ {keys : List (Option PySem.Expr)} {vals : List PySem.Expr} {pos : Pos}, chkD Fs N sc raw es keys vals = true →
    PPs X pos keys vals (trsOf F X.K W Φ es) ∧ keys.all (·.isSome) = true ∧ keys.length = vals.length ∧ es.length = 2 * keys.length
  | [], ih, g, keys, vals, pos, h => by
    cases keys <;> cases vals <;> first | exact ⟨pps_nil, rfl, rfl, rfl⟩ | simp [chkD] at h
  | [_], ih, g, keys, vals, pos, h => by simp [chkD] at h
  | k :: v :: es, ih, g, keys, vals, pos, h => by
    cases keys with
    | nil => simp [chkD] at h
    | cons key keys =>
      cases key with
      | none => simp [chkD] at h
      | some x =>
        cases vals with
        | nil => simp [chkD] at h
        | cons y vals =>
          simp only [chkD, Bool.and_eq_true] at h
          obtain ⟨a, b, c, d⟩ := snd_d (es := es) (fun e he => ih e (by simp [he])) g (pos := pos) h.2
          exact ⟨pps_cons (ih k (by simp) N W X sc raw x g h.1.1).1 (ih v (by simp) N W X sc raw y g h.1.2).1 a, by simpa using b, by simp [c], by simp [d]; omega⟩
theorem snd_k {es : List E} (ih : ∀ e ∈ es, PE_ F Φ Fs e) (g : Good F Φ Fs N W X sc raw) : ∀ {kws : List Keyword} {pos : Pos}, chkK Fs N sc raw es kws = true →
    RKs F W Φ X es kws ∧ (backToKw pos (keywordEach kws X.env)).all (·.1.isSome) = true ∧ (backToKw pos (keywordEach kws X.env)).filterMap (·.1) = kwNames kws ∧ es.length = (kwNames kws).length ∧ (backToKw pos (keywordEach kws X.env)).any (·.1.isNone) = false := by
  induction es with
  | nil =>
    intro kws pos h
    cases kws with
    | nil => exact ⟨rk_nil, rfl, rfl, rfl, rfl⟩
    | cons k kws => cases k with | mk a b c => cases a <;> simp [chkK] at h
  | cons e es ihl =>
    intro kws pos h
    cases kws with
    | nil => simp [chkK] at h
    | cons k kws =>
      obtain ⟨a, x, c⟩ := k
      cases a with
      | none => simp [chkK] at h
      | some nm =>
        simp only [chkK, Bool.and_eq_true] at h
        obtain ⟨i1, i2, i3, i4, i5⟩ := ihl (fun e he => ih e (by simp [he])) (pos := pos) h.2
        refine ⟨rk_cons (ih e (by simp) N W X sc raw x g h.1).1 i1, ?_, ?_, ?_, ?_⟩
        · simpa [keywordEach, backToKw] using i2
        · simp only [keywordEach, backToKw, List.map_cons, List.filterMap_cons, kwNames] at i3 ⊢
          rw [i3]
        · simp only [kwNames, List.filterMap_cons, List.length_cons] at i4 ⊢
          rw [i4]
        · simpa [keywordEach, backToKw] using i5
/-! ### patterns -/
theorem assign_cons {x : PySem.Expr} (xs : List PySem.Expr) (env : Env) (h : plainE x = true) : assignEach (x :: xs) env = (false, assign x env) :: assignEach xs env := by
  cases x <;> first | rfl | cases h
theorem P.ind {p1 : P → Prop} {p2 : List P → Prop} (h1 : ∀ i, p1 (.slot i)) (h2 : ∀ ps, p2 ps → p1 (.tup ps)) (h3 : p2 []) (h4 : ∀ p ps, p1 p → p2 ps → p2 (p :: ps)) : ∀ p, p1 p := fun p => P.rec h1 h2 h3 h4 p
theorem snd_p (g : Good F Φ Fs N W X sc raw) : ∀ (p : P) {x : PySem.Expr}, chkP N sc raw p x = true → PG X x (rdG X.K p) := by
  intro p
  refine P.ind (p1 := fun p => ∀ {x : PySem.Expr}, chkP N sc raw p x = true → PG X x (rdG X.K p)) (p2 := fun ps => ∀ {xs : List PySem.Expr}, chkPs N sc raw ps xs = true → PGs X xs (rdGs X.K ps) ∧ (assignEach xs X.env).length = ps.length ∧ (assignEach xs X.env).findIdx? (·.1) = none) ?_ ?_ ?_ ?_ p
  · intro i x h
    cases x with
    | Name y pos =>
      simp only [chkP, Bool.and_eq_true, beq_iff_eq] at h
      refine rg_slot (by rw [g.hN]; exact g.nd) (by rw [g.hN]; exact h.1.1) (by rw [g.hsc]; exact loc_of h.1.2) ?_
      have h3 := h.2
      by_cases q : raw.names.lookup y = some .cell
      · exact .inl (g.fn _ q)
      · refine .inr ?_
        rw [g.hsc]
        split at h3 <;> simp_all
    | _ => simp [chkP] at h
  · intro ps ih x h
    cases x with
    | Tuple es k pos =>
      simp only [chkP] at h
      obtain ⟨a, b, c⟩ := ih h
      exact rg_tup g.calm a b c
    | _ => simp [chkP] at h
  · intro xs h
    cases xs with
    | nil => exact ⟨rgs_nil, rfl, rfl⟩
    | cons _ _ => simp [chkPs] at h
  · intro p ps ip ips xs h
    cases xs with
    | nil => simp [chkPs] at h
    | cons x xs =>
      simp only [chkPs, Bool.and_eq_true] at h
      obtain ⟨a, b, c⟩ := ips h.2
      have e := assign_cons xs X.env h.1.1
      refine ⟨rgs_cons (ip h.1.2) a (by rw [e]; rfl), by rw [e]; simp [b], ?_⟩
      rw [e, List.findIdx?_cons]
      simp [c]
end
end LS
end

section
set_option Elab.async false
set_option linter.all false
set_option maxRecDepth 100000
set_option maxHeartbeats 8000000
/-! LS.Snd2: what is checked is so: all expressions. -/
namespace LS
open PySem PySem.Spec PyProof.Rows L2
section
variable {F : Fx} {Φ : Fns} {Fs : Nat → Option FI} {N : List Str} {W : WX} {X : Cx} {sc raw : Scope}
theorem op_of {p : Prim} {op : Operator} (h : opB p op = true) : OpR X (binaryOp op) (rP2 F X.K (prim p)) := by
  unfold opB at h
  split at h <;> first
    | (cases h; done)
    | exact o_add
    | exact o_sub
    | exact o_mul
    | exact o_fdiv
    | exact o_mod
    | exact o_pow
theorem cmp_of (g : Good F Φ Fs N W X sc raw) {p : Prim} {op : CmpOp} (h : cmpB p op = true) : OpR X (compareOp op) (rP2 F X.K (prim p)) := by
  have hu := g.hu
  unfold cmpB at h
  split at h <;> first
    | (cases h; done)
    | exact o_eq (by omega)
    | exact o_ne (by omega)
    | exact o_lt (by omega)
    | exact o_le
    | exact o_gt
    | exact o_ge
    | exact o_in (by omega)
    | exact o_notin (by omega)
theorem boot_lenS : bootBuiltins ("len" : Str) = some (.builtin "len") := by decide +kernel
theorem boot_reprS : bootBuiltins ("repr" : Str) = some (.builtin "repr") := by decide +kernel
theorem boot_absS : bootBuiltins ("abs" : Str) = some (.builtin "abs") := by decide +kernel
theorem boot_sortedS : bootBuiltins ("sorted" : Str) = some (.builtin "sorted") := by decide +kernel
theorem boot_intS : bootBuiltins ("int" : Str) = some (.type "int") := by decide +kernel
theorem boot_tupleS : bootBuiltins ("tuple" : Str) = some (.type "tuple") := by decide +kernel
theorem boot_listS : bootBuiltins ("list" : Str) = some (.type "list") := by decide +kernel
theorem blt_of (g : Good F Φ Fs N W X sc raw) {p : Prim} {x : Str} (h : bltName p = some x) : X.mg x = none ∧ x ≠ "__name__" ∧ (x == ("__debug__" : Str)) = false ∧ ∃ id, bootBuiltins x = some (.builtin id) ∧ CallR X (.builtin id) (rC F X.K (prim p)) := by
  have hu := g.hu
  unfold bltName at h
  split at h <;> first
    | (cases h; done)
    | (cases h
       refine ⟨g.bl _ (by decide), by decide, by decide, ?_⟩
       first
         | exact ⟨_, boot_lenS, c_len⟩
         | exact ⟨_, boot_reprS, c_repr g.room.gd (by omega)⟩
         | exact ⟨_, boot_absS, c_abs⟩
         | exact ⟨_, boot_sortedS, c_sorted (by omega)⟩)
theorem ty_of (g : Good F Φ Fs N W X sc raw) {p : Prim} {x : Str} (h : tyName p = some x) : X.mg x = none ∧ x ≠ "__name__" ∧ (x == ("__debug__" : Str)) = false ∧ ∃ id, bootBuiltins x = some (.type id) ∧ CallR X (.type id) (rC F X.K (prim p)) := by
  unfold tyName at h
  split at h <;> first
    | (cases h; done)
    | (cases h
       refine ⟨g.bl _ (by decide), by decide, by decide, ?_⟩
       first
         | exact ⟨_, boot_intS, c_int⟩
         | exact ⟨_, boot_tupleS, c_tuple⟩
         | exact ⟨_, boot_listS, c_list⟩)
/-- a method's facts -/
theorem meth_of (g : Good F Φ Fs N W X sc raw) {k : Ty} {p : Prim} {m : Str} {n : Nat} (h : methB k p m n = true) : n < 28 ∧ ∃ id, PlainAttrs (tyN k) ∧ Slot (tyN k) m id ∧ typeOf (.builtin id) = pure (.type "method_descriptor") ∧ MtR X id (rM F X.K (prim p)) := by
  have hu := g.hu
  unfold methB at h
  split at h
  · rw [beq_iff_eq] at h; subst h
    exact ⟨by decide, _, PySem.F.plainAttrs_list, PySem.F.slot_list_append, PySem.F.type_list_append, m_append⟩
  · rw [beq_iff_eq] at h; subst h
    exact ⟨by decide, _, PySem.F.plainAttrs_list, PySem.F.slot_list_extend, PySem.F.type_list_extend, m_extend⟩
  · rw [beq_iff_eq] at h; subst h
    exact ⟨by decide, _, PySem.F.plainAttrs_list, PySem.F.slot_list_pop, PySem.F.type_list_pop, m_pop⟩
  · rw [beq_iff_eq] at h; subst h
    exact ⟨by decide, _, PySem.F.plainAttrs_list, PySem.F.slot_list_pop, PySem.F.type_list_pop, m_popAt⟩
  · rw [beq_iff_eq] at h; subst h
    exact ⟨by decide, _, PySem.F.plainAttrs_dict, PySem.F.slot_dict_get, PySem.F.type_dict_get, m_get1 (by omega)⟩
  · rw [beq_iff_eq] at h; subst h
    exact ⟨by decide, _, PySem.F.plainAttrs_dict, PySem.F.slot_dict_get, PySem.F.type_dict_get, m_get2 (by omega)⟩
  · cases h
/-- the end of an argument list -/
theorem F2.parts {e : E} {es : List E} {x : PySem.Expr} {xs : List PySem.Expr} (h : F2 F W Φ X (e :: es) (x :: xs)) : RE F W Φ X e x ∧ RT F W Φ X e x ∧ plainE x = true ∧ F2 F W Φ X es xs := by
  cases h with
  | cons a b c d => exact ⟨b, c, a, d⟩
theorem F2.one {es : List E} {x : PySem.Expr} (h : F2 F W Φ X es [x]) : ∃ e, es = [e] ∧ RE F W Φ X e x ∧ RT F W Φ X e x := by
  cases h with
  | cons a b c d => cases d; exact ⟨_, rfl, b, c⟩
theorem F2.two {es : List E} {x y : PySem.Expr} (h : F2 F W Φ X es [x, y]) : ∃ e e', es = [e, e'] ∧ RE F W Φ X e x ∧ RE F W Φ X e' y := by
  cases h with
  | cons a b c d =>
    obtain ⟨e', rfl, h1, _⟩ := d.one
    exact ⟨_, e', rfl, b, h1⟩
theorem F2.three {es : List E} {x y z : PySem.Expr} (h : F2 F W Φ X es [x, y, z]) : ∃ e e' e'', es = [e, e', e''] ∧ RE F W Φ X e x ∧ RE F W Φ X e' y ∧ RE F W Φ X e'' z := by
  cases h with
  | cons a b c d =>
    obtain ⟨e', e'', rfl, h1, h2⟩ := d.two
    exact ⟨_, e', e'', rfl, b, h1, h2⟩
/-- a whole number it has to be -/
theorem rd_num' {e : E} {σ : L2.St} {H : Hp} {Q : VK} (h : rdE F X.K W (denE Φ (.num e)) σ H Q) : rdE F X.K W (denE Φ (.num e)) σ H fun y H1 => ∃ i, y = .int i ∧ Q (.int i) H1 := by
  obtain ⟨σT, S, μ, a, b, c⟩ := h
  refine ⟨σT, S, μ, a, b, ?_⟩
  have c' : Post F X.K W σ (RV X.K) H μ (seq (denE Φ e σT) isNum S) Q := c
  show Post F X.K W σ (RV X.K) H μ (seq (denE Φ e σT) isNum S) _
  unfold seq at c' ⊢
  cases q : denE Φ e σT S with
  | none => rw [q] at c'; exact c'
  | some r =>
    obtain ⟨r1, S'⟩ := r
    rw [q] at c'
    cases r1 with
    | error x => exact c'
    | ok t =>
      cases t with
      | int i =>
        intro H' μ' y r1 s1 rv
        have := rv.ints
        subst this
        exact ⟨i, rfl, c' H' μ' _ r1 s1 (.int i)⟩
      | _ => exact c'
theorem re_num {e : E} {x : PySem.Expr} (h : RE F W Φ X e x) : RE F W Φ X (.num e) x := pe_imp h fun σ H Q q => (rd_num q).mono fun y H1 ⟨i, e, q1⟩ => by subst e; exact q1
theorem rt_num {e : E} {x : PySem.Expr} (h : RT F W Φ X e x) : RT F W Φ X (.num e) x := pt_imp h fun σ H Q ⟨σT, S, μ, a, b, c⟩ => by
  refine ⟨σT, S, μ, a, b, ?_⟩
  have c' : Post F X.K W σ (fun _ _ (a b : Bool) => a = b) H μ (seq (seq (denE Φ e σT) isNum) asB S) Q := c
  rw [seq_assoc] at c'
  unfold seq at c' ⊢
  cases q : denE Φ e σT S with
  | none => rw [q] at c'; exact c'
  | some r =>
    obtain ⟨r1, S'⟩ := r
    rw [q] at c'
    cases r1 with
    | error x => exact c'
    | ok t => cases t <;> exact c'.elim
theorem re_sl11' {e l u : E} {x y z : PySem.Expr} {p2 pos : Pos} (h : RE F W Φ X e x) (hl : RE F W Φ X (.num l) y) (hu : RE F W Φ X u z) : RE F W Φ X (.app (.slc true true) [e, .num l, u]) (.Subscript x (.Slice (some y) (some z) none p2) pos) :=
  pe_imp (pe_slice (sl_any (a := true) (b := true)) h (po_some hl) (po_some hu)) fun σ H Q q => (rdA_three (rd_app q)).mono fun x H1 q1 => (rd_num' q1).mono fun y H2 ⟨i, ey, q2⟩ => by
    subst ey
    refine ⟨i, rfl, q2.mono fun z H3 q3 => ?_⟩
    obtain ⟨S, μ, a, b, c, t, S', r, ra, rb, rc, e1, o⟩ := q3.three
    obtain ⟨n, p, e2⟩ := slc_int e1
    cases b with
    | int i' =>
      cases c with
      | int j =>
        have := rb.ints
        cases this
        have := rc.ints
        subst this
        exact ⟨j, rfl, S, μ, a, [.int i, .int j], t, S', r, ra, rfl, e1, o⟩
      | _ => simp [bounds] at e2
    | _ => simp [bounds] at e2
theorem pt_ifExp {X : Cx} {c a b : PySem.Expr} {pos : Pos} {tc ta tb : TT} (hc : PT X c tc) (ha : PT X a ta) (hb : PT X b tb) : PT X (.IfExp c a b pos) (fun σ H Q => tc σ H fun k H1 => if k = true then ta σ H1 Q else tb σ H1 Q) :=
  ⟨fun pins s σ H Q I h => wpAny_bind (thn (hc.run pins s σ H _ I h) fun k s1 ⟨H1, I1, q1⟩ => by
    cases k with
    | true => rw [if_pos rfl] at q1 ⊢; exact ha.run pins s1 σ H1 Q I1 q1
    | false => rw [if_neg (by simp)] at q1 ⊢; exact hb.run pins s1 σ H1 Q I1 q1)⟩
theorem rt_ite {c e e' : E} {y x x' : PySem.Expr} {pos : Pos} (hc : RT F W Φ X c y) (h : RT F W Φ X e x) (h' : RT F W Φ X e' x') : RT F W Φ X (.ite c e e') (.IfExp y x x' pos) :=
  pt_imp (pt_ifExp hc h h') fun σ H Q ⟨σT, S, μ, a, b, c'⟩ => by
    rw [show denE Φ (.ite c e e') σT = seq (denE Φ c σT) (fun t => onB t (denE Φ e σT) (denE Φ e' σT)) from rfl, seq_assoc] at c'
    simp only [onB_seq] at c'
    refine (rd_test a b c').mono fun k H1 ⟨S1, μ1, a1, b1, s1, c1⟩ => ?_
    cases k with
    | true => exact ⟨σT, S1, μ1, a1, b1, c1⟩
    | false => exact ⟨σT, S1, μ1, a1, b1, c1⟩
/-! ### all of and, or -/
theorem F2.and {op : BoolOp} {pos : Pos} (hop : op = .And) : ∀ {es : List E} {xs : List PySem.Expr}, es ≠ [] → F2 F W Φ X es xs → RE F W Φ X (.and es) (.BoolOp op xs pos) ∧ PW X (.BoolOp op xs pos) (rdT F X.K W (denE Φ (.and es)))
  | [], _, h, _ => absurd rfl h
  | [e], _, _, .cons _ r t .nil => by subst hop; exact ⟨re_and1 r, rw_and1 t⟩
  | e :: e' :: es, _, _, .cons _ r t (.cons p' r' t' rest) => by
    subst hop
    obtain ⟨a, b⟩ := F2.and (pos := pos) rfl (by simp) (F2.cons p' r' t' rest)
    exact ⟨re_and r a, rw_and t b⟩
theorem F2.or {op : BoolOp} {pos : Pos} (hop : op = .Or) : ∀ {es : List E} {xs : List PySem.Expr}, es ≠ [] → F2 F W Φ X es xs → RE F W Φ X (.or es) (.BoolOp op xs pos) ∧ PW X (.BoolOp op xs pos) (rdT F X.K W (denE Φ (.or es)))
  | [], _, h, _ => absurd rfl h
  | [e], _, _, .cons _ r t .nil => by subst hop; exact ⟨re_or1 r, rw_or1 t⟩
  | e :: e' :: es, _, _, .cons _ r t (.cons p' r' t' rest) => by
    subst hop
    obtain ⟨a, b⟩ := F2.or (pos := pos) rfl (by simp) (F2.cons p' r' t' rest)
    exact ⟨re_or r a, rw_or t b⟩
end
end LS
end

section
set_option Elab.async false
set_option linter.all false
set_option maxRecDepth 100000
set_option maxHeartbeats 8000000
/-! LS.Snd3: what is checked is so: all expressions. -/
namespace LS
open PySem PySem.Spec PyProof.Rows L2
section
variable {F : Fx} {Φ : Fns} {Fs : Nat → Option FI} {N : List Str} {W : WX} {X : Cx} {sc raw : Scope}
def PI_ (F : Fx) (Φ : Fns) (Fs : Nat → Option FI) (i : I) : Prop := ∀ (N : List Str) (W : WX) (X : Cx) (sc raw : Scope) (x tg : PySem.Expr), Good F Φ Fs N W X sc raw → chkI Fs N sc raw i x tg = true → RI F W Φ X tg i x
theorem con_of {t : T} {c : PySem.Const} {k : Nat} {pos : Pos} (h : conB t c = true) : ∃ v, PE X (.Constant c k pos) (tC v) ∧ ∀ H μ, RV X.K H μ t v := by
  unfold conB at h
  split at h
  · exact ⟨_, pe_non, fun _ _ => .non⟩
  · rw [beq_iff_eq] at h; subst h; exact ⟨_, pe_bl, fun _ _ => .bl _⟩
  · rw [beq_iff_eq] at h; subst h; exact ⟨_, pe_int, fun _ _ => .int _⟩
  · rw [beq_iff_eq] at h; subst h
    rename_i z
    exact ⟨_, pe_str, fun _ _ => .str z⟩
  · cases h
theorem range_of (g : Good F Φ Fs N W X sc raw) {x : Str} (h : rangeB sc x = true) : x = "range" ∧ Gl X "range" ∧ X.mg "range" = none := by
  unfold rangeB at h
  simp only [Bool.and_eq_true, beq_iff_eq] at h
  obtain ⟨rfl, h⟩ := h
  exact ⟨rfl, g.gl h, g.bl _ (by decide)⟩
/-- app of one form after another -/
theorem snd_app {p : Prim} {es : List E} (ih : ∀ e ∈ es, PE_ F Φ Fs e) : PE_ F Φ Fs (.app p es) := by
  intro N W X sc raw x g h
  have hu := g.hu
  cases x with
  | BinOp a op b pos =>
    simp only [chkE, Bool.and_eq_true] at h
    obtain ⟨e, e', rfl, h1, h2⟩ := (snd_es ih g h.2).two
    exact both (re_op (op_of h.1) h1 h2) rfl
  | UnaryOp op a pos =>
    simp only [chkE, Bool.and_eq_true] at h
    obtain ⟨e, rfl, h1, _⟩ := (snd_es ih g h.2).one
    have h3 := h.1
    unfold negB at h3
    split at h3
    · exact both (re_neg h1) rfl
    · cases h3
  | Compare a ops bs pos =>
    match ops, bs with
    | [op], [b] =>
      simp only [chkE] at h
      split at h
      · obtain ⟨e, rfl, h1, _⟩ := (snd_es ih g h).one
        exact re_isN h1
      · obtain ⟨e, rfl, h1, _⟩ := (snd_es ih g h).one
        exact re_notN h1
      · simp only [Bool.and_eq_true] at h
        obtain ⟨e, e', rfl, h1, h2⟩ := (snd_es ih g h.1.2).two
        exact ⟨re_cmp (cmp_of g h.1.1) h1 h2 (mark_of h.2), rt_cmp (cmp_of g h.1.1) h1 h2 (mark_of h.2)⟩
    | [], _ => simp [chkE] at h
    | _ :: _ :: _, _ => simp [chkE] at h
    | [_], [] => simp [chkE] at h
    | [_], _ :: _ :: _ => simp [chkE] at h
  | Subscript a b pos =>
    by_cases hb : ∃ lo hi p2, b = .Slice lo hi none p2
    · obtain ⟨lo, hi, p2, rfl⟩ := hb
      simp only [chkE] at h
      split at h
      · obtain ⟨e, rfl, h1, _⟩ := (snd_es ih g h).one
        exact both (re_sl00 h1) rfl
      · obtain ⟨e, e', rfl, h1, h2⟩ := (snd_es ih g h).two
        exact both (re_sl10 h1 h2) rfl
      · obtain ⟨e, e', rfl, h1, h2⟩ := (snd_es ih g h).two
        exact both (re_sl01 h1 h2) rfl
      · obtain ⟨e, e', e'', q, h1, h2, h3⟩ := (snd_es ih g h).three
        cases q
        exact both (re_sl11' h1 h2 h3) rfl
      · cases h
    · have h' : (getB p && noSlB b && chkEs Fs N sc raw es [a, b]) = true := by
        cases b with
        | Slice lo hi st p2 =>
          cases st with
          | none => exact absurd ⟨lo, hi, p2, rfl⟩ hb
          | some st => simpa only [chkE] using h
        | _ => simpa only [chkE] using h
      simp only [Bool.and_eq_true] at h'
      obtain ⟨⟨h1, h2⟩, h3⟩ := h'
      obtain ⟨e, e', rfl, r1, r2⟩ := (snd_es ih g h3).two
      unfold getB at h1
      split at h1
      · exact both (re_ix (by omega) r1 r2 (plainIx_of h2)) rfl
      · cases h1
  | Call f ys kws pos =>
    cases f with
    | Name x pp =>
      cases kws with
      | nil =>
        simp only [chkE, Bool.and_eq_true, Bool.or_eq_true] at h
        obtain ⟨⟨⟨h1, h2⟩, h3⟩, h4⟩ := h
        have f2 := snd_es ih g h3
        cases f2 with
        | nil => simp at h4
        | @cons e es y ys pl r t rest =>
          have ra : RAs F W Φ X (e :: es) (y :: ys) := (F2.cons pl r t rest).ras
          rcases h1 with h1 | h1
          · rw [beq_iff_eq] at h1
            obtain ⟨q1, q2, q3, id, q4, q5⟩ := blt_of g h1
            exact both (re_blt q5 (g.gl h2) q1 q4 ra q2 q3 (star_cons _ _ pl) (star_none _ _ _ rest.plain)) rfl
          · rw [beq_iff_eq] at h1
            obtain ⟨q1, q2, q3, id, q4, q5⟩ := ty_of g h1
            exact both (re_ty q5 (g.gl h2) q1 q4 ra q2 q3 (star_cons _ _ pl) (star_none _ _ _ rest.plain)) rfl
      | cons _ _ => simp [chkE] at h
    | _ => simp [chkE] at h
  | _ => simp [chkE] at h
theorem nb_of {q : PySem.Expr} {ys : List PySem.Expr} {pos : Pos} (env : Env) : starEach [.Call q ys [] pos] env = (false, eval (.Call q ys [] pos) env) :: starEach [] env := rfl
theorem str_eq {x : Str} {n : Str} {b : Bool} (h : (x == n && b) = true) : x = n ∧ b = true := by
  simp only [Bool.and_eq_true, beq_iff_eq] at h
  exact h
theorem snd_rg {es : List E} (ih : ∀ e ∈ es, PE_ F Φ Fs e) : PE_ F Φ Fs (.lstI (.range es)) ∧ PE_ F Φ Fs (.tupI (.range es)) := by
  constructor
  · intro N W X sc raw x g h
    unfold chkE at h
    split at h <;> first | (cases h; done) | skip
    all_goals try contradiction
    rename_i es' x pp y p2 ys pos2 pos e1
    cases e1
    simp only [Bool.and_eq_true, beq_iff_eq, Bool.or_eq_true, decide_eq_true_eq] at h
    obtain ⟨⟨⟨⟨rfl, h2⟩, h3⟩, h4⟩, h5⟩ := h
    obtain ⟨rfl, h6, h7⟩ := range_of g h3
    have f2 := snd_es ih g h4
    rcases h5 with h5 | h5
    · match ys, f2, h5 with
      | [y], .cons pl r t .nil, _ => exact both (re_lstRg1 g.calm (g.gl h2) (g.bl _ (by decide)) h6 h7 r (star_cons _ _ pl) fun _ => rfl) rfl
    · match ys, f2, h5 with
      | [y, z], .cons pl r t (.cons pl' r' t' .nil), _ => exact both (re_lstRg2 g.calm (g.gl h2) (g.bl _ (by decide)) h6 h7 r r' (star_cons _ _ pl) (star_cons _ _ pl') (star_none _ _ _ (by simp [pl'])) fun _ => rfl) rfl
  · intro N W X sc raw x g h
    unfold chkE at h
    split at h <;> first | (cases h; done) | skip
    all_goals try contradiction
    rename_i es' x pp y p2 ys pos2 pos e1
    cases e1
    simp only [Bool.and_eq_true, beq_iff_eq, Bool.or_eq_true, decide_eq_true_eq] at h
    obtain ⟨⟨⟨⟨rfl, h2⟩, h3⟩, h4⟩, h5⟩ := h
    obtain ⟨rfl, h6, h7⟩ := range_of g h3
    have f2 := snd_es ih g h4
    rcases h5 with h5 | h5
    · match ys, f2, h5 with
      | [y], .cons pl r t .nil, _ => exact both (re_tupRg1 g.calm (g.gl h2) (g.bl _ (by decide)) h6 h7 r (star_cons _ _ pl) fun _ => rfl) rfl
    · match ys, f2, h5 with
      | [y, z], .cons pl r t (.cons pl' r' t' .nil), _ => exact both (re_tupRg2 g.calm (g.gl h2) (g.bl _ (by decide)) h6 h7 r r' (star_cons _ _ pl) (star_cons _ _ pl') (star_none _ _ _ (by simp [pl'])) fun _ => rfl) rfl
end
end LS
end

section
set_option Elab.async false
set_option linter.all false
set_option maxRecDepth 100000
set_option maxHeartbeats 8000000
/-! LS.Snd4: what is checked is so: all expressions, put together. -/
namespace LS
open PySem PySem.Spec PyProof.Rows L2
section
variable {F : Fx} {Φ : Fns} {Fs : Nat → Option FI} {N : List Str} {W : WX} {X : Cx} {sc raw : Scope}
theorem snd_irange {es : List E} (ih : ∀ e ∈ es, PE_ F Φ Fs e) : PI_ F Φ Fs (.range es) := by
  intro N W X sc raw x tg g h
  cases x with
  | Call f ys kws pos =>
    cases f with
    | Name x pp =>
      cases kws with
      | nil =>
        simp only [chkI, Bool.and_eq_true, Bool.or_eq_true, decide_eq_true_eq] at h
        obtain ⟨⟨h1, h2⟩, h3⟩ := h
        obtain ⟨rfl, h6, h7⟩ := range_of g h1
        have f2 := snd_es ih g h2
        rcases h3 with (h3 | h3) | h3
        · match ys, f2, h3 with
          | [y], .cons pl r t .nil, _ => exact ri_range1 h6 h7 r (star_cons _ _ pl)
        · match ys, f2, h3 with
          | [y, z], .cons pl r t (.cons pl' r' t' .nil), _ => exact ri_range2 h6 h7 r r' (by rw [star_cons _ _ pl, star_cons _ _ pl']; rfl) (star_cons _ _ pl')
        · match ys, f2, h3 with
          | [y, z, u], .cons pl r t (.cons pl' r' t' (.cons pl'' r'' t'' .nil)), _ => exact ri_range3 h6 h7 r r' r'' (star_cons _ _ pl) (star_cons _ _ pl') (star_cons _ _ pl'') (star_none _ _ _ (by simp [pl', pl'']))
      | cons _ _ => simp [chkI] at h
    | _ => simp [chkI] at h
  | _ => simp [chkI] at h
theorem snd_ienum {e : E} (ih : PE_ F Φ Fs e) : PI_ F Φ Fs (.enum e) := by
  intro N W X sc raw x tg g h
  unfold chkI at h
  split at h
  case h_3 =>
    rename_i e' x pp y pos es k tp e1
    cases e1
    simp only [Bool.and_eq_true, beq_iff_eq] at h
    obtain ⟨⟨⟨rfl, h2⟩, h3⟩, h4⟩ := h
    exact ri_enum (g.gl h2) (g.bl _ (by decide)) (ih N W X sc raw y g h4).1 (star_cons _ _ h3)
  all_goals first | contradiction | (cases h; done)
theorem snd_izip {e e' : E} (ih : PE_ F Φ Fs e) (ih' : PE_ F Φ Fs e') : PI_ F Φ Fs (.zip e e') := by
  intro N W X sc raw x tg g h
  unfold chkI at h
  split at h
  case h_4 =>
    rename_i e1 e2 x pp y z pos es k tp q
    cases q
    simp only [Bool.and_eq_true, beq_iff_eq] at h
    obtain ⟨⟨⟨⟨⟨rfl, h2⟩, h3⟩, h4⟩, h5⟩, h6⟩ := h
    exact ri_zip (g.gl h2) (g.bl _ (by decide)) (ih N W X sc raw y g h5).1 (ih' N W X sc raw z g h6).1 (star_cons _ _ h3) (star_cons _ _ h4) (star_none _ _ _ (by simp [h4]))
  all_goals first | contradiction | (cases h; done)
/-- the parts of a comprehension -/
theorem comp_parts {e : E} {own : List Nat} {p : P} {it : I} {cs : List E} (ie : PE_ F Φ Fs e) (ii : PI_ F Φ Fs it) (ic : ∀ c ∈ cs, PE_ F Φ Fs c) (g : Good F Φ Fs N W X sc raw) {elt tg iter : PySem.Expr} {ifs : List PySem.Expr} {scope : Scope} {pos : Pos}
    (h : chkE Fs N sc raw (.comp e own p it cs) (.ListComp elt [⟨tg, iter, ifs, 0⟩] scope pos) = true) :
    ∃ own' : List (Str × Nat), own'.map (·.2) = own ∧ RI F W Φ X tg it iter ∧ BlkOk X.N X.env.scope scope own' ∧ (∀ i ∈ p.slots, i ∈ own'.map (·.2)) ∧
    (∀ (s : Shared) (H : Hp) (C : Addr) (cl : List (Str × Addr)) (fp : List Addr), PG (X.blk s H scope (compEnvC scope cl C X.env) fp) tg (rdG X.K p)) ∧
    (∀ (s : Shared) (H : Hp) (C : Addr) (cl : List (Str × Addr)) (fp : List Addr), PTs (X.blk s H scope (compEnvC scope cl C X.env) fp) ifs (rdTs F X.K (fun _ _ _ _ => False) Φ cs)) ∧
    (∀ (s : Shared) (H : Hp) (C : Addr) (cl : List (Str × Addr)) (fp : List Addr), PE (X.blk s H scope (compEnvC scope cl C X.env) fp) elt (rdE F X.K (fun _ _ _ _ => False) (denE Φ e))) ∧ ∀ x, foldedSetIterable iter X.env x = pure x := by
  simp only [chkE, Bool.and_eq_true, decide_eq_true_eq, List.all_eq_true] at h
  obtain ⟨⟨⟨⟨⟨⟨⟨⟨_, h1⟩, h2⟩, h3⟩, h4⟩, h5⟩, h6⟩, h7⟩, h8⟩ := h
  have em : (own.map fun (i : Nat) => ((N[i]?).getD ("" : Str), i)).map (·.2) = own := by
    rw [List.map_map]
    exact List.map_id' own
  refine ⟨_, em, ii N W X sc raw iter tg g h3, ?_, fun i hi => by rw [em]; exact h2 i hi, fun s H C cl fp => ?_, fun s H C cl fp => ?_, fun s H C cl fp => ?_, set_of _ h4⟩
  · rw [g.hN, g.hsc]
    exact blkOk_by h1
  · exact snd_p (g.blk h1 s H C cl fp) p h5
  · have f2 := snd_es ic (g.blk h1 s H C cl fp) h6
    match cs, ifs, f2, h7 with
    | [], [], .nil, _ => exact rts_nil
    | [c], [x], .cons _ _ t .nil, _ => exact rts_one t
    | _ :: _ :: _, _, _, h7 => simp at h7
  · exact (ie N _ _ _ _ elt (g.blk h1 s H C cl fp) h8).1
/-- what is known of an iterator: what it walks; of a range, its bounds too -/
def PI2 (F : Fx) (Φ : Fns) (Fs : Nat → Option FI) (i : I) : Prop := PI_ F Φ Fs i ∧ match i with
  | .range es => ∀ e ∈ es, PE_ F Φ Fs e
  | _ => True
theorem sndE : ∀ e : E, PE_ F Φ Fs e := by
  intro e
  refine E.rec (motive_1 := fun e => PE_ F Φ Fs e) (motive_2 := fun i => PI2 F Φ Fs i) (motive_3 := fun es => ∀ e ∈ es, PE_ F Φ Fs e)
    ?var ?con ?glo ?tup ?lst ?tupS ?lstS ?dct ?app ?num ?meth ?call ?callK ?and ?or ?not ?chain ?ite ?comp ?tupI ?lstI ?dctI ?val ?range ?enum ?zip ?items ?values ?nil ?cons e
  case var =>
    intro i N W X sc raw x g h
    cases x with
    | Name y pos =>
      simp only [chkE, Bool.and_eq_true, beq_iff_eq, Bool.not_eq_true'] at h
      obtain ⟨⟨⟨h1, h2⟩, h3⟩, h4⟩ := h
      exact both (re_var (by rw [g.hN]; exact h1) (by rw [g.hsc]; exact vis_of h2) h3 h4) rfl
    | _ => simp [chkE] at h
  case con =>
    intro t N W X sc raw x g h
    cases x with
    | Constant c k pos =>
      simp only [chkE] at h
      obtain ⟨v, q1, q2⟩ := con_of (X := X) (k := k) (pos := pos) h
      exact both (re_con q1 q2) rfl
    | _ => simp [chkE] at h
  case glo =>
    intro n t N W X sc raw x g h
    cases x <;> simp [chkE] at h
  case tup =>
    intro es ih N W X sc raw x g h
    cases x with
    | Tuple xs k pos =>
      simp only [chkE, Bool.and_eq_true, decide_eq_true_eq] at h
      exact both (re_tup (snd_es ih g h.1).ras h.2) rfl
    | _ => simp [chkE] at h
  case lst =>
    intro es ih N W X sc raw x g h
    cases x with
    | List xs pos =>
      simp only [chkE, Bool.and_eq_true, decide_eq_true_eq] at h
      exact both (re_lst (snd_es ih g h.1).ras h.2) rfl
    | _ => simp [chkE] at h
  case tupS =>
    intro ss es ih N W X sc raw x g h
    cases x with
    | Tuple xs k pos =>
      simp only [chkE] at h
      exact both (re_tupS (snd_st ih g h)) rfl
    | _ => simp [chkE] at h
  case lstS =>
    intro ss es ih N W X sc raw x g h
    cases x with
    | List xs pos =>
      simp only [chkE] at h
      exact both (re_lstS (snd_st ih g h)) rfl
    | _ => simp [chkE] at h
  case dct =>
    intro tk es ih N W X sc raw x g h
    cases x with
    | Dict keys values pos =>
      simp only [chkE, Bool.and_eq_true, decide_eq_true_eq, Bool.not_eq_true'] at h
      obtain ⟨⟨rfl, h2⟩, h3⟩ := h
      obtain ⟨a, b, c, d⟩ := snd_d ih g (pos := pos) h2
      cases keys with
      | nil =>
        cases values with
        | nil =>
          have : es = [] := List.length_eq_zero_iff.mp (by simpa using d)
          subst this
          exact both re_dct0 rfl
        | cons _ _ => simp at c
      | cons k keys => exact both (re_dct a d h3 b c (by simp) h3) rfl
    | _ => simp [chkE] at h
  case app => exact fun p es ih => snd_app ih
  case num =>
    intro e ih N W X sc raw x g h
    have h' : chkE Fs N sc raw e x = true := by cases x <;> simpa only [chkE] using h
    obtain ⟨a, b⟩ := ih N W X sc raw x g h'
    exact ⟨re_num a, rt_num b⟩
  case meth =>
    intro k p o es io ih N W X sc raw x g h
    cases x with
    | Call f ys kws pos =>
      cases f with
      | Attribute a m apos =>
        cases kws with
        | nil =>
          simp only [chkE, Bool.and_eq_true] at h
          obtain ⟨⟨⟨⟨h1, h2⟩, h3⟩, h4⟩, h5⟩ := h
          obtain ⟨hn, id, pa, slot, hty, hm⟩ := meth_of g h1
          have ro := (io N W X sc raw a g h2).1
          have f2 := snd_es ih g h4
          cases f2 with
          | nil => exact both (re_meth0 pa slot hty hm ro (base_of _ _ h3) h5) rfl
          | @cons e es y ys pl r t rest =>
            have all := F2.cons pl r t rest
            have hl : (y :: ys).length < 28 := by rw [← all.len]; exact hn
            exact both (re_meth pa slot hty hm ro all.ras (base_of _ _ h3) (few_of all.plain hl) h5 (star_cons _ _ pl) (star_none _ _ _ rest.plain)) rfl
        | cons _ _ => simp [chkE] at h
      | _ => simp [chkE] at h
    | _ => simp [chkE] at h
  case call =>
    intro i es ih N W X sc raw x g h
    cases x with
    | Call f ys kws pos =>
      cases f with
      | Name y pp =>
        cases kws with
        | nil =>
          simp only [chkE] at h
          cases q : Fs i with
          | none => rw [q] at h; cases h
          | some fi =>
            rw [q] at h
            simp only [Bool.and_eq_true, beq_iff_eq, Bool.not_eq_true'] at h
            obtain ⟨⟨⟨rfl, h2⟩, h3⟩, h4⟩ := h
            obtain ⟨k, f, fd, m1, m2, m3, m4, m5, _⟩ := g.fns i fi q
            have f2 := snd_es ih g h3
            cases f2 with
            | nil => exact both (re_call0 m4 m3 (g.gl h2) m1 m2 m5 g.tk h4) rfl
            | @cons e es y ys pl r t rest => exact both (re_call m4 m3 (g.gl h2) m1 m2 m5 g.tk (F2.cons pl r t rest).ras h4 (star_cons _ _ pl) (star_none _ _ _ rest.plain)) rfl
        | cons _ _ => simp [chkE] at h
      | _ => simp [chkE] at h
    | _ => simp [chkE] at h
  case callK =>
    intro i es fs perm ih ihk N W X sc raw x g h
    cases x with
    | Call f ys kws pos =>
      cases f with
      | Name y pp =>
        simp only [chkE] at h
        cases q : Fs i with
        | none => rw [q] at h; cases h
        | some fi =>
          rw [q] at h
          simp only [Bool.and_eq_true, beq_iff_eq, Bool.not_eq_true'] at h
          obtain ⟨⟨⟨⟨⟨rfl, h2⟩, h3⟩, h4⟩, h5⟩, h6⟩ := h
          obtain ⟨k, f, fd, m1, m2, m3, m4, m5, m6⟩ := g.fns i fi q
          have f2 := snd_es ih g h3
          obtain ⟨k1, k2, k3, k4, k5⟩ := snd_k ihk g (pos := pos) h5
          cases f2 with
          | nil => exact both (re_callK0 m4 m3 (g.gl h2) m1 m2 (m6 _ _ _ h6) k4 g.tk k1 k2 k3 h4 k5) rfl
          | @cons e es y ys pl r t rest =>
            have all := F2.cons pl r t rest
            exact both (re_callK m4 m3 (g.gl h2) m1 m2 (m6 _ _ _ h6) k4 g.tk all.ras k1 k2 k3 h4 (star_cons _ _ pl) (by rw [star_none _ _ _ all.plain, k5]; rfl)) rfl
      | _ => simp [chkE] at h
    | _ => simp [chkE] at h
  case and =>
    intro es ih N W X sc raw x g h
    cases x with
    | BoolOp op xs pos =>
      cases op with
      | And =>
        simp only [chkE, Bool.and_eq_true, Bool.not_eq_true'] at h
        obtain ⟨a, b⟩ := F2.and (pos := pos) rfl (fun e => by rw [e] at h; simp at h) (snd_es ih g h.1)
        exact ⟨a, b.pt⟩
      | Or => simp [chkE] at h
    | _ => simp [chkE] at h
  case or =>
    intro es ih N W X sc raw x g h
    cases x with
    | BoolOp op xs pos =>
      cases op with
      | Or =>
        simp only [chkE, Bool.and_eq_true, Bool.not_eq_true'] at h
        obtain ⟨a, b⟩ := F2.or (pos := pos) rfl (fun e => by rw [e] at h; simp at h) (snd_es ih g h.1)
        exact ⟨a, b.pt⟩
      | And => simp [chkE] at h
    | _ => simp [chkE] at h
  case not =>
    intro e ih N W X sc raw x g h
    cases x with
    | UnaryOp op y pos =>
      cases op with
      | Not =>
        simp only [chkE] at h
        obtain ⟨a, b⟩ := ih N W X sc raw y g h
        exact re_not a b
      | _ => simp [chkE] at h
    | _ => simp [chkE] at h
  case chain =>
    intro e ops es ih ihs N W X sc raw x g h
    cases x with
    | Compare a qs bs pos =>
      match ops, qs, bs with
      | [p, p'], [op, op'], [b, c] =>
        simp only [chkE, Bool.and_eq_true] at h
        obtain ⟨⟨⟨⟨h1, h2⟩, h3⟩, h4⟩, h5⟩ := h
        obtain ⟨e1, e2, rfl, r1, r2⟩ := (snd_es ihs g h4).two
        exact re_chain (cmp_of g h2) (cmp_of g h3) (ih N W X sc raw a g h1).1 r1 r2 (mark_of h5)
      | [], _, _ => simp [chkE] at h
      | [_], _, _ => simp [chkE] at h
      | _ :: _ :: _ :: _, _, _ => simp [chkE] at h
      | [_, _], [], _ => simp [chkE] at h
      | [_, _], [_], _ => simp [chkE] at h
      | [_, _], _ :: _ :: _ :: _, _ => simp [chkE] at h
      | [_, _], [_, _], [] => simp [chkE] at h
      | [_, _], [_, _], [_] => simp [chkE] at h
      | [_, _], [_, _], _ :: _ :: _ :: _ => simp [chkE] at h
    | _ => simp [chkE] at h
  case ite =>
    intro c e e' ic ie ie' N W X sc raw x g h
    cases x with
    | IfExp y x x' pos =>
      simp only [chkE, Bool.and_eq_true] at h
      obtain ⟨c1, c2⟩ := ic N W X sc raw y g h.1.1
      obtain ⟨a1, a2⟩ := ie N W X sc raw x g h.1.2
      obtain ⟨b1, b2⟩ := ie' N W X sc raw x' g h.2
      exact ⟨re_ite c2 a1 b1, rt_ite c2 a2 b2⟩
    | _ => simp [chkE] at h
  case comp =>
    intro e own p it cs ie ii ic N W X sc raw x g h
    have hx : ∃ elt tg iter ifs scope pos, x = .ListComp elt [⟨tg, iter, ifs, 0⟩] scope pos := by
      cases x with
      | ListComp elt gs scope pos =>
        match gs with
        | [⟨tg, iter, ifs, as⟩] =>
          have h' := h
          simp only [chkE, Bool.and_eq_true, decide_eq_true_eq] at h'
          obtain ⟨⟨⟨⟨⟨⟨⟨⟨h0, _⟩, _⟩, _⟩, _⟩, _⟩, _⟩, _⟩, _⟩ := h'
          subst h0
          exact ⟨elt, tg, iter, ifs, scope, pos, rfl⟩
        | [] => simp [chkE] at h
        | _ :: _ :: _ => simp [chkE] at h
      | _ => simp [chkE] at h
    obtain ⟨elt, tg, iter, ifs, scope, pos, rfl⟩ := hx
    obtain ⟨own', rfl, q1, q2, q3, q4, q5, q6, q7⟩ := comp_parts ie ii.1 ic g h
    exact both (re_comp g.calm (by rw [g.hN]; exact g.nd) q1 q2 q3 q4 q5 q6 q7) rfl
  case tupI =>
    intro it ih
    cases it with
    | range es => exact (snd_rg ih.2).2
    | _ =>
      intro N W X sc raw x g h
      cases x <;> simp [chkE] at h
  case lstI =>
    intro it ih
    cases it with
    | range es => exact (snd_rg ih.2).1
    | _ =>
      intro N W X sc raw x g h
      cases x <;> simp [chkE] at h
  case dctI =>
    intro tk it ih N W X sc raw x g h
    cases x <;> simp [chkE] at h
  case val =>
    intro e ih
    refine ⟨?_, trivial⟩
    intro N W X sc raw x tg g h
    exact ri_val (ih N W X sc raw x g (by cases x <;> simpa only [chkI] using h)).1
  case range => exact fun es ih => ⟨snd_irange ih, ih⟩
  case enum => exact fun e ih => ⟨snd_ienum ih, trivial⟩
  case zip => exact fun e e' i1 i2 => ⟨snd_izip i1 i2, trivial⟩
  case items =>
    intro e ih
    refine ⟨?_, trivial⟩
    intro N W X sc raw x tg g h
    cases x <;> simp [chkI] at h
  case values =>
    intro e ih
    refine ⟨?_, trivial⟩
    intro N W X sc raw x tg g h
    cases x <;> simp [chkI] at h
  case nil => intro e he; simp at he
  case cons =>
    intro e es i1 i2 e' he
    rcases List.mem_cons.mp he with z | z
    · subst z; exact i1
    · exact i2 e' z
end
end LS
end

section
set_option Elab.async false
set_option linter.all false
set_option maxRecDepth 100000
set_option maxHeartbeats 8000000
/-! LS.Snd5: what is checked is so: statements. -/
namespace LS
open PySem PySem.Spec PyProof.Rows L2
section
variable {F : Fx} {Φ : Fns} {Fs : Nat → Option FI} {N : List Str} {W : WX} {X : Cx} {sc : Scope} {sub : Nat → Nat → Bool} {M : Nat}
theorem sndI : ∀ i : I, PI_ F Φ Fs i := by
  intro i
  cases i with
  | val e => exact fun N W X sc raw x tg g h => ri_val (sndE e N W X sc raw x g (by cases x <;> simpa only [chkI] using h)).1
  | range es => exact snd_irange fun e _ => sndE e
  | enum e => exact snd_ienum (sndE e)
  | zip a b => exact snd_izip (sndE a) (sndE b)
  | items e =>
    intro N W X sc raw x tg g h
    cases x <;> simp [chkI] at h
  | values e =>
    intro N W X sc raw x tg g h
    cases x <;> simp [chkI] at h
/-- within a def -/
structure GoodS (F : Fx) (Φ : Fns) (Fs : Nat → Option FI) (N : List Str) (W : WX) (X : Cx) (sc : Scope) : Prop where
  g : Good F Φ Fs N W X sc sc
  fnT : ∀ x, X.fn x = true
  own : PassesOwn (model X.prog X.w) X.A X.env X.xe
theorem swaps_no {x : PySem.Expr} (t : Option PySem.Expr) (l : Nat) (env : Env) (h : noCompB x = true) : swapsWith x t l env = pure false := by
  cases x <;> first | rfl | cases h
theorem blk_of (g : GoodS F Φ Fs N W X sc) : X.env.blockKind = .function := by
  unfold Env.blockKind
  rw [g.g.hsc, g.g.kind]
  rfl
theorem sw_of (g : GoodS F Φ Fs N W X sc) {tg x : PySem.Expr} {r : Option (List Str)} (h : swB sc tg x = some r) : swappedStores [tg] x X.env = pure r := by
  have hb := blk_of g
  obtain rfl := g.g.hsc
  unfold swB at h
  split at h
  · rename_i ts k1 p1 vs k2 p2
    have hst : (vs.any fun x => match x with
        | .Starred .. => true
        | _ => false) = !vs.all plainE := by
      clear h
      induction vs with
      | nil => rfl
      | cons v vs ih =>
        simp only [List.any_cons, List.all_cons, ih]
        cases v <;> simp [plainE]
    unfold swappedStores
    dsimp only
    by_cases c1 : ((ts.length == 2 || ts.length == 3) && vs.length == ts.length) = true
    · obtain ⟨c2, c3⟩ := Bool.and_eq_true_iff.mp c1
      have c4 : (vs.length != ts.length) = false := by
        rw [bne, c3]; rfl
      have c5 : (X.env.blockKind != ScopeKind.function) = false := by rw [hb]; rfl
      have n1 : ¬ (!(ts.length == 2 || ts.length == 3) || vs.length != ts.length || X.env.blockKind != ScopeKind.function) = true := by rw [c2, c4, c5]; simp
      refine (if_neg n1).trans ?_
      cases c6 : vs.all plainE with
      | false =>
        rw [c1, c6] at h
        simp at h
      | true =>
        rw [c1, c6] at h
        simp only [Bool.and_self, if_true] at h
        have n2 : ¬ (vs.any fun x => match x with
          | .Starred .. => true
          | _ => false) = true := by rw [hst, c6]; simp
        refine (if_neg n2).trans ?_
        split at h
        · rename_i q
          cases h
          exact if_pos q
        · rename_i q
          refine (if_neg q).trans ?_
          split at h
          · rename_i q2
            cases h
            exact if_pos q2
          · rename_i q2
            refine (if_neg q2).trans ?_
            split at h
            · cases h
            · rename_i q3
              cases h
              exact if_neg q3
    · have c2 : (!(ts.length == 2 || ts.length == 3) || vs.length != ts.length || X.env.blockKind != ScopeKind.function) = true := by
        cases a : (ts.length == 2 || ts.length == 3) with
        | false => simp
        | true =>
          cases b : (vs.length == ts.length) with
          | false => simp [bne, b]
          | true => rw [a, b] at c1; simp at c1
      refine (if_pos c2).trans ?_
      have c3 : ((ts.length == 2 || ts.length == 3) && vs.length == ts.length) = false := by simpa using c1
      rw [c3] at h
      simp at h
      subst h
      rfl
  · cases h
  · cases h
    rename_i n1 n2
    unfold swappedStores
    dsimp only
    cases tg with
    | Tuple ts k p =>
      cases x with
      | Tuple vs k2 p2 => first | exact (n1 _ _ _ _ _ _ rfl rfl).elim | exact (n2 _ _ _ _ _ _ rfl rfl).elim | exact (n1 rfl _ _ _ rfl).elim | (simp_all; done)
      | _ => rfl
    | List ts p => first | exact (n1 _ _ rfl).elim | exact (n2 _ _ rfl).elim | (simp_all; done)
    | _ => rfl
theorem lc_swap (g : GoodS F Φ Fs N W X sc) {y : Str} {py : Pos} {x : PySem.Expr} {l : Nat} (h : lcOnly x = true) : swapsWith x (some (.Name y py)) l X.env = pure (lcSwap sc y py x) := by
  have hb := blk_of g
  have hk : X.env.kindOf y = sc.names.lookup y := by
    show X.env.scope.names.lookup y = _
    rw [g.g.hsc]
  cases x with
  | ListComp elt gs scope pos =>
    show (pure (X.env.blockKind == .function && X.env.kindOf y == some .local && py.line == pos.line && !(scope.names.any fun (n, k) => n == y && (k == .local || k == .cell))) : Sem Bool) = _
    rw [hb, hk]
    rfl
  | _ => first | rfl | cases h
theorem asg_two {s : S} {t u : PySem.Expr} {r : List PySem.Expr} {z : PySem.Expr} {pos : Pos} : chkS Fs N sc s (.Assign (t :: u :: r) z pos) = false := by
  cases s <;> first | rfl | (cases t <;> rfl)
/-- the names of a display that is stored from the right -/
theorem sw_names {ts vs : List PySem.Expr} {k k2 : Nat} {p p2 : Pos} {nm : List Str} (h : swB sc (.Tuple ts k p) (.Tuple vs k2 p2) = some (some nm)) : ∃ l : Nat, nm = ts.filterMap (nameB sc l) ∧ nm.length = ts.length := by
  unfold swB at h
  dsimp only at h
  split at h
  · split at h
    · cases h
    · rename_i q
      split at h
      · cases h
      · split at h
        · cases h
        · injection h with h
          injection h with h
          refine ⟨_, h.symm, ?_⟩
          rw [← h]
          simp only [Bool.or_eq_true, bne_iff_ne, ne_eq, not_or, Decidable.not_not] at q
          exact q.1
  · split at h <;> cases h
theorem names_all {l : Nat} : ∀ {ts : List PySem.Expr}, (ts.filterMap (nameB sc l)).length = ts.length → ∀ (i : Nat) (y : Str) (py : Pos), ts[i]? = some (.Name y py) → sc.names.lookup y = some .local ∧ (ts.filterMap (nameB sc l))[i]? = some y
  | [], _, _, _, _, h => by simp at h
  | t :: ts, hl, i, y, py, h => by
    have le : (ts.filterMap (nameB sc l)).length ≤ ts.length := List.length_filterMap_le _ _
    cases q : nameB sc l t with
    | none =>
      rw [List.filterMap_cons, q] at hl
      simp only [List.length_cons] at hl
      omega
    | some z =>
      rw [List.filterMap_cons, q] at hl ⊢
      simp only [List.length_cons, Nat.add_right_cancel_iff] at hl ⊢
      cases i with
      | zero =>
        simp at h
        subst h
        simp only [nameB] at q
        split at q
        · rename_i c
          cases q
          simp only [Bool.and_eq_true, beq_iff_eq] at c
          exact ⟨c.1, rfl⟩
        · cases q
      | succ i => simpa using names_all hl i y py (by simpa using h)
def PS_ (F : Fx) (Φ : Fns) (Fs : Nat → Option FI) (sub : Nat → Nat → Bool) (M : Nat) (s : S) : Prop := ∀ (N : List Str) (W : WX) (X : Cx) (sc : Scope) (x : Stmt), GoodS F Φ Fs N W X sc → chkS Fs N sc s x = true → RS F W Φ sub M X s x
theorem snd_ss {ss : List S} (ih : ∀ s ∈ ss, PS_ F Φ Fs sub M s) (g : GoodS F Φ Fs N W X sc) : ∀ {xs : List Stmt}, chkSs Fs N sc ss xs = true → RSs F W Φ sub M X ss xs := by
  induction ss with
  | nil =>
    intro xs h
    cases xs with
    | nil => exact rss_nil
    | cons _ _ => simp [chkSs] at h
  | cons s ss ihl =>
    intro xs h
    cases xs with
    | nil => simp [chkSs] at h
    | cons x xs =>
      simp only [chkSs, Bool.and_eq_true] at h
      exact rss_cons (ih s (by simp) N W X sc x g h.1) (ihl (fun s hs => ih s (by simp [hs])) h.2)
theorem sndS : ∀ s : S, PS_ F Φ Fs sub M s := by
  intro s
  refine S.rec (motive_1 := fun s => PS_ F Φ Fs sub M s) (motive_2 := fun ss => ∀ s ∈ ss, PS_ F Φ Fs sub M s) ?exp ?set ?unp ?sub ?ife ?whl ?fr ?ret ?retN ?pass ?cont ?brk ?raise ?tr ?nil ?cons s
  case exp =>
    intro e N W X sc x g h
    cases x with
    | Expr y pos =>
      simp only [chkS, Bool.and_eq_true] at h
      exact rs_exp (sndE e N W X sc sc y g.g h.1).1 (swaps_no _ _ _ h.2)
    | _ => simp [chkS] at h
  case set =>
    intro i e N W X sc x g h
    have hx : ∃ y py z pos, x = .Assign [.Name y py] z pos := by
      cases x with
      | Assign ts z pos =>
        cases ts with
        | nil => simp [chkS] at h
        | cons t r =>
          cases r with
          | cons _ _ => rw [asg_two] at h; cases h
          | nil =>
            cases t with
            | Name y py => exact ⟨y, py, z, pos, rfl⟩
            | _ => simp [chkS] at h
      | _ => simp [chkS] at h
    obtain ⟨y, py, z, pos, rfl⟩ := hx
    simp only [chkS, Bool.and_eq_true, beq_iff_eq] at h
    obtain ⟨⟨⟨⟨h1, h2⟩, h3⟩, h4⟩, h5⟩ := h
    have hN : X.N.Nodup := by rw [g.g.hN]; exact g.g.nd
    have hi : X.N[i]? = some y := by rw [g.g.hN]; exact h1
    cases hb : lcSwap sc y py z with
    | false =>
      refine rs_set hN hi (by rw [g.g.hsc]; exact loc_of h2) (sndE e N W X sc sc z g.g h3).1 ?_ (.inl (g.fnT y))
      rw [lc_swap g h5, hb]
    | true =>
      cases z with
      | ListComp elt gs scope cpos =>
        have hy : X.env.scope.names.lookup y = some .local := by
          rw [g.g.hsc]
          simp only [lcSwap, Bool.and_eq_true, beq_iff_eq] at hb
          exact hb.1.1
        have sw : swapsWith (.ListComp elt gs scope cpos) (some (.Name y py)) pos.line X.env = pure true := by rw [lc_swap g rfl, hb]
        have he : ∃ c own p it cs, e = .comp c own p it cs ∧ ∃ tg iter ifs, gs = [⟨tg, iter, ifs, 0⟩] := by
          cases e with
          | comp c own p it cs =>
            cases gs with
            | nil => simp [chkE] at h3
            | cons q0 r0 =>
             cases r0 with
             | cons _ _ => simp [chkE] at h3
             | nil =>
              obtain ⟨tg, iter, ifs, as⟩ := q0
              have h' := h3
              simp only [chkE, Bool.and_eq_true, decide_eq_true_eq] at h'
              obtain ⟨⟨⟨⟨⟨⟨⟨⟨h0, _⟩, _⟩, _⟩, _⟩, _⟩, _⟩, _⟩, _⟩ := h'
              subst h0
              exact ⟨c, own, p, it, cs, rfl, tg, iter, ifs, rfl⟩
          | num e => cases h4
          | _ => simp [chkE] at h3
        obtain ⟨c, own, p, it, cs, rfl, tg, iter, ifs, rfl⟩ := he
        obtain ⟨own', rfl, q1, q2, q3, q4, q5, q6, q7⟩ := comp_parts (sndE c) (sndI it) (fun c _ => sndE c) g.g h3
        exact rs_setLc g.g.calm hN hi hy sw q1 q2 q3 q4 q5 q6 q7
      | _ => simp [lcSwap] at hb
  case unp =>
    intro p e N W X sc x g h
    have hx : ∃ tg z pos, x = .Assign [tg] z pos := by
      cases x with
      | Assign ts z pos =>
        cases ts with
        | nil => simp [chkS] at h
        | cons t r =>
          cases r with
          | cons _ _ => rw [asg_two] at h; cases h
          | nil => exact ⟨t, z, pos, rfl⟩
      | _ => simp [chkS] at h
    obtain ⟨tg, z, pos, rfl⟩ := hx
    simp only [chkS, Bool.and_eq_true] at h
    obtain ⟨⟨⟨⟨h1, h2⟩, h3⟩, h4⟩, h5⟩ := h
    have hpl : plainE tg = true := by cases tg <;> first | rfl | cases h1
    cases hs : swB sc tg z with
    | none => rw [hs] at h5; cases h5
    | some r =>
      have sw := sw_of g hs
      have ss : swapsWithSole [tg] z pos.line X.env = pure false := swaps_no (some tg) pos.line X.env h4
      cases r with
      | none => exact rs_unp (sndE e N W X sc sc z g.g h3).1 (snd_p g.g p h2) ss sw (by rw [assign_cons _ _ hpl]; rfl)
      | some nm =>
        rw [hs] at h5
        have slot : ∀ {i : Nat} {t : PySem.Expr}, chkP N sc sc (.slot i) t = true → ∃ y py, t = .Name y py ∧ X.N[i]? = some y := by
          intro i t ht
          cases t with
          | Name y py =>
            simp only [chkP, Bool.and_eq_true, beq_iff_eq] at ht
            exact ⟨y, py, rfl, by rw [g.g.hN]; exact ht.1.1⟩
          | _ => simp [chkP] at ht
        have hN : X.N.Nodup := by rw [g.g.hN]; exact g.g.nd
        cases tg with
        | Tuple ts k1 p1 =>
          simp only at h5
          split at h5
          · rename_i i j es xs k2 p2
            simp only [Bool.and_eq_true, Bool.not_eq_true', beq_eq_false_iff_ne, decide_eq_true_eq] at h5
            simp only [chkP] at h2
            match ts, h2 with
            | _ :: _ :: _ :: _, h2 => simp [chkPs] at h2
            | [t1, t2], h2 =>
              simp only [chkPs, Bool.and_eq_true] at h2
              obtain ⟨y1, q1, rfl, n1⟩ := slot h2.1.2
              obtain ⟨y2, q2, rfl, n2⟩ := slot h2.2.1.2
              obtain ⟨l, e1, e2⟩ := sw_names hs
              rw [e1] at e2
              obtain ⟨l1, g1⟩ := names_all e2 0 y1 q1 rfl
              obtain ⟨l2, g2⟩ := names_all e2 1 y2 q2 rfl
              rw [← e1] at e2 g1 g2
              have en : nm = [y1, y2] := by
                match nm, e2, g1, g2 with
                | [a, b], _, g1, g2 => simp at g1 g2; rw [g1, g2]
              subst en
              simp only [chkE, Bool.and_eq_true] at h3
              obtain ⟨f1, f2, rfl, x1, x2, rfl, ra⟩ : ∃ e1 e2, es = [e1, e2] ∧ ∃ x1 x2, xs = [x1, x2] ∧ RAs F W Φ X [e1, e2] [x1, x2] := by
                have f2 := snd_es (fun e _ => sndE e) g.g h3.1
                match xs, h5.2, es, f2 with
                | [x1, x2], _, _, .cons pl r t (.cons pl' r' t' .nil) => exact ⟨_, _, rfl, x1, x2, rfl, (F2.cons pl r t (.cons pl' r' t' .nil)).ras⟩
              exact rs_par g.g.calm hN n1 n2 h5.1 (by rw [g.g.hsc]; exact l1) (by rw [g.g.hsc]; exact l2) ra sw ss
          · rename_i i j k es xs k2 p2
            simp only [Bool.and_eq_true, Bool.not_eq_true', beq_eq_false_iff_ne, decide_eq_true_eq] at h5
            simp only [chkP] at h2
            match ts, h2 with
            | [_, _], h2 => simp [chkPs] at h2
            | [t1, t2, t3], h2 =>
              simp only [chkPs, Bool.and_eq_true] at h2
              obtain ⟨y1, q1, rfl, n1⟩ := slot h2.1.2
              obtain ⟨y2, q2, rfl, n2⟩ := slot h2.2.1.2
              obtain ⟨y3, q3, rfl, n3⟩ := slot h2.2.2.1.2
              obtain ⟨l, e1, e2⟩ := sw_names hs
              rw [e1] at e2
              obtain ⟨l1, g1⟩ := names_all e2 0 y1 q1 rfl
              obtain ⟨l2, g2⟩ := names_all e2 1 y2 q2 rfl
              obtain ⟨l3, g3⟩ := names_all e2 2 y3 q3 rfl
              rw [← e1] at e2 g1 g2 g3
              have en : nm = [y1, y2, y3] := by
                match nm, e2, g1, g2, g3 with
                | [a, b, c], _, g1, g2, g3 => simp at g1 g2 g3; rw [g1, g2, g3]
              subst en
              simp only [chkE, Bool.and_eq_true] at h3
              obtain ⟨f1, f2, f3, rfl, x1, x2, x3, rfl, ra⟩ : ∃ e1 e2 e3, es = [e1, e2, e3] ∧ ∃ x1 x2 x3, xs = [x1, x2, x3] ∧ RAs F W Φ X [e1, e2, e3] [x1, x2, x3] := by
                have f2 := snd_es (fun e _ => sndE e) g.g h3.1
                match xs, h5.2, es, f2 with
                | [x1, x2, x3], _, _, .cons pl r t (.cons pl' r' t' (.cons pl'' r'' t'' .nil)) => exact ⟨_, _, _, rfl, x1, x2, x3, rfl, (F2.cons pl r t (.cons pl' r' t' (.cons pl'' r'' t'' .nil))).ras⟩
              exact rs_par3 g.g.calm hN n1 n2 n3 h5.1.1.1 h5.1.1.2 h5.1.2 (by rw [g.g.hsc]; exact l1) (by rw [g.g.hsc]; exact l2) (by rw [g.g.hsc]; exact l3) ra sw ss
          · cases h5
        | _ => cases h1
  case sub =>
    intro o i e N W X sc x g h
    have hx : ∃ a b p' z pos, x = .Assign [.Subscript a b p'] z pos := by
      cases x with
      | Assign ts z pos =>
        cases ts with
        | nil => simp [chkS] at h
        | cons t r =>
          cases r with
          | cons _ _ => rw [asg_two] at h; cases h
          | nil =>
            cases t with
            | Subscript a b p' => exact ⟨a, b, p', z, pos, rfl⟩
            | _ => simp [chkS] at h
      | _ => simp [chkS] at h
    obtain ⟨a, b, p', z, pos, rfl⟩ := hx
    simp only [chkS, Bool.and_eq_true] at h
    obtain ⟨⟨⟨⟨h1, h2⟩, h3⟩, h4⟩, h5⟩ := h
    have hu := g.g.hu
    have ss : swapsWithSole [.Subscript a b p'] z pos.line X.env = pure false := swaps_no (some (.Subscript a b p')) pos.line X.env h4
    exact rs_sub (by omega) (sndE o N W X sc sc a g.g h1).1 (sndE i N W X sc sc b g.g h2).1 (sndE e N W X sc sc z g.g h3).1 ss rfl rfl fun _ => by cases b <;> first | rfl | cases h5
  case ife =>
    intro c a b ia ib N W X sc x g h
    cases x with
    | If y xs ys pos =>
      simp only [chkS, Bool.and_eq_true] at h
      exact rs_if (sndE c N W X sc sc y g.g h.1.1).2 (snd_ss ia g h.1.2) (snd_ss ib g h.2)
    | _ => simp [chkS] at h
  case whl =>
    intro c b ib N W X sc x g h
    cases x with
    | While y xs ys pos =>
      cases ys with
      | nil =>
        simp only [chkS, Bool.and_eq_true] at h
        exact rs_while g.own (sndE c N W X sc sc y g.g h.1).2 (snd_ss ib g h.2)
      | cons _ _ => simp [chkS] at h
    | _ => simp [chkS] at h
  case fr =>
    intro p it b ib N W X sc x g h
    cases x with
    | For tg iter xs ys pos =>
      cases ys with
      | nil =>
        simp only [chkS, Bool.and_eq_true] at h
        obtain ⟨⟨⟨h1, h2⟩, h3⟩, h4⟩ := h
        exact rs_for g.own g.g.calm (sndI it N W X sc sc iter tg g.g h2) (snd_p g.g p h1) (snd_ss ib g h4) (set_of _ h3)
      | cons _ _ => simp [chkS] at h
    | _ => simp [chkS] at h
  case ret =>
    intro e N W X sc x g h
    cases x with
    | Return v pos =>
      cases v with
      | some y =>
        simp only [chkS] at h
        exact rs_ret (sndE e N W X sc sc y g.g h).1
      | none => simp [chkS] at h
    | _ => simp [chkS] at h
  case retN =>
    intro N W X sc x g h
    cases x with
    | Return v pos =>
      cases v with
      | none => exact rs_retN
      | some y => simp [chkS] at h
    | _ => simp [chkS] at h
  case pass =>
    intro N W X sc x g h
    cases x with
    | Pass pos => exact rs_pass
    | _ => simp [chkS] at h
  case cont =>
    intro N W X sc x g h
    cases x with
    | Continue pos => exact rs_cont
    | _ => simp [chkS] at h
  case brk =>
    intro N W X sc x g h
    cases x with
    | Break pos => exact rs_brk
    | _ => simp [chkS] at h
  case raise =>
    intro c es N W X sc x g h
    cases x <;> simp [chkS] at h
  case tr =>
    intro b c i hh i1 i2 N W X sc x g h
    cases x <;> simp [chkS] at h
  case nil => intro s hs; simp at hs
  case cons =>
    intro s ss i1 i2 s' hs
    rcases List.mem_cons.mp hs with z | z
    · subst z; exact i1
    · exact i2 s' z
end
end LS
end

section
set_option Elab.async false
set_option linter.all false
set_option maxRecDepth 100000
set_option maxHeartbeats 8000000
/-! LS.Top: from the law's def to the law. -/
namespace LS
open PySem PySem.Spec PyProof.Rows L2
/-- what is known of the text behind the top holds no list -/
def noLst (K : PySem.W.Frag) : Bool := K.all fun p => match p.2.cls with
  | .type c => !(c == "list")
  | _ => true
theorem noLst_ok : ∀ {K : PySem.W.Frag} {a : Addr} {o : Obj}, noLst K = true → K.lookup a = some o → o.cls ≠ .type "list"
  | [], _, _, _, h => by simp at h
  | (b, p) :: r, a, o, h, e => by
    unfold noLst at h
    simp only [List.all_cons, Bool.and_eq_true] at h
    rw [List.lookup_cons] at e
    split at e
    · cases e
      intro z
      rw [z] at h
      simp at h
    · exact noLst_ok (K := r) h.2 e
def hookL (n : Nat) (fa : List He.Fa) (fn : List He.DefD) : PySem.W.Hook where
  α := Bool × He.AlD
  obs := fun s => (noLst (He.frG s.heap.get? (He.asD s.heap.get? n)), He.obsD fa fn (He.frG s.heap.get? (He.asD s.heap.get? n)))
  val := fun _ => (true, He.valD fn)
  says := fun _ h => ∃ K : PySem.W.Frag, K.In h ∧ He.SaysD fa fn K ∧ noLst K = true
  of := fun _ _ e => ⟨_, He.frG_in, congrArg (fun z : Bool × He.AlD => z.2) e, congrArg (fun z : Bool × He.AlD => z.1) e⟩
  keeps := fun _ _ _ ⟨K, hK, c, d⟩ k => ⟨K, PySem.W.Frag.In.keeps hK k, c, d⟩
def obsL (n : Nat) (fa : List He.Fa) (fn : List He.DefD) (g : Addr → Option Obj) : Bool × He.AlD := (noLst (He.frG g (He.asD g n)), He.obsD fa fn (He.frG g (He.asD g n)))
theorem obsL_eq {n : Nat} {fa : List He.Fa} {fn : List He.DefD} {g : Addr → Option Obj} {s : Shared} (h : ∀ a, g a = s.heap.get? a) : obsL n fa fn g = (hookL n fa fn).obs s := by
  have e : g = s.heap.get? := funext h
  rw [e] <;> rfl
/-- the law is called with its script, nothing being shown -/
theorem law_run {P : Program} {w : World} {K : PySem.W.Frag} {mg mb : Str → Option Value} {k : Nat} {fa a : Addr} {fd : FuncData} {x : Str} {sp : Sp} {s₁ : Shared} {vs : List Value} {ns : List Int} (KX : K.In s₁.heap) (noK : K.lookup a = none) (hns : s₁.heap.Ns mainGlobals mg) (hb : s₁.heap.Ns builtinsNs mb)
    (hbb : ∀ x : Str, x ≠ "__name__" → mb x = bootBuiltins x) (hlim : s₁.heap.NoLimit) (hg : s₁.gens = #[]) (ha : s₁.heap.get? a = some { cls := .type "list", data := .seq vs.toArray }) (hi : IntsAre vs ns) (hl : ns.length ≤ sizeLine) (hr : RoomG k callerA)
    (Fn : ∀ base : Heap, K.In base → base.Ns mainGlobals mg → FnG P w K mg base k fa fd [x] sp) (hbind : ∀ (s : Shared) (u : Value), BindsTo s fd ⟨[u], []⟩ [(x, u)])
    (hsp : ∀ (H : Hp) (o : Obj), H a = some (.frz o (.lst (ns.map V.int))) → sp [.ref a] H (fun v _ => v = .bl true) fun _ _ _ => False) (hCX : ∀ H e s', L2.CX P w [] H s₁ (fun _ _ _ => False) e s' → False) :
    codeAny (model P w) callerA (.call (.ref fa) ⟨[.ref a], []⟩) (fun r s' => r = .ok (.ret (.bool true)) ∧ OldK s₁.heap s'.heap ∧ s'.os = s₁.os ∧ AllBare s'.gens) s₁ := by
  have rv := vals_ints hi
  let o0 : Obj := { cls := .type "list", data := .seq vs.toArray }
  let H : Hp := fun b => if b = a then some (.frz o0 (.lst (ns.map V.int))) else none
  have Ha : H a = some (.frz o0 (.lst (ns.map V.int))) := if_pos rfl
  have Hn : ∀ {b : Addr}, b ≠ a → H b = none := fun h => if_neg h
  have hO : Only H := fun b => by
    by_cases q : b = a
    · exact .inr ⟨_, _, if_pos q⟩
    · exact .inl (Hn q)
  have ok : HOk P w H s₁.heap := fun b u z => by
    by_cases q : b = a
    · subst q
      rw [Ha] at z
      cases z
      exact ⟨ha, by rw [List.length_map]; exact hl, vs, _, rv, ha⟩
    · rw [Hn q] at z; cases z
  have below : ∀ {b : Addr} {o : Obj}, s₁.heap.get? b = some o → H b = none → (hidT s₁.heap H).get? b = some o := fun e n => hidT_get e n
  have noDict : ∀ {b : Addr} {o : Obj} {es : Array DictEntry} {ep : Nat}, s₁.heap.get? b = some o → o.data = .dict es ep → H b = none := fun {b o es ep} e d => by
    by_cases q : b = a
    · subst q
      rw [ha] at e
      cases e
      exact absurd (show Data.seq vs.toArray _ = Data.dict es ep from d) (by simp)
    · exact Hn q
  have nsB : ∀ {b : Addr} {m : Str → Option Value}, s₁.heap.Ns b m → (hidT s₁.heap H).Ns b m := fun {b m} ⟨o, es, ep, e, d, r⟩ => ⟨o, es, ep, below e (noDict e d), d, r⟩
  have KB : K.In (hidT s₁.heap H) := fun b o e => below (KX b o e) (Hn fun q => by subst q; rw [noK] at e; cases e)
  have M0 : Mod K mg (hidT s₁.heap H) := ⟨KB, nsB hns, ⟨mb, nsB hb, hbb⟩, let ⟨mc, h1, h2⟩ := hlim; ⟨mc, nsB h1, h2⟩⟩
  have env : Env0 P w K mg (hidT s₁.heap H) callerA [] s₁ H := ⟨rfl, M0, fun b o e => of_hidT e, Nat.le_of_eq (hidT_size _ _), trivial, fun b hb => (by cases hb), ok, .of_eq hg⟩
  refine codeAny_mono ((Fn _ KB (nsB hns)).run callerA [] s₁ H ⟨[.ref a], []⟩ [.ref a] [.ref a] _ _ hr env (hbind s₁ (.ref a)) (.cons rfl .nil) (hsp H _ Ha)) fun r s' out => ?_
  cases r with
  | error e => exact (hCX H e s' out).elim
  | ok fl =>
    cases fl with
    | next => exact out.elim
    | brk => exact out.elim
    | cont => exact out.elim
    | ret u =>
      obtain ⟨v, H', os, bare, un, ok', rel, q⟩ := out
      have q' : v = .bl true := q
      subst q'
      obtain rfl : u = Value.bool true := rel
      refine ⟨rfl, OldK.of_keep fun b o e => ?_, os, bare⟩
      by_cases z : b = a
      · subst z
        obtain ⟨e2, _⟩ := ok' b _ (un.frzs b _ _ Ha)
        rw [ha] at e
        cases e
        exact e2
      · exact un.keep b o e (Hn z) (by intro y; cases y) (by simp)
/-- the end that is left of a head -/
theorem walk_ofG {l : PySem.W.OpenLaw} {n k : Nat} {q : Program} {loose : List Str} {XP : (Str → Option Value) → Heap → Prop} {YP : World → Heap → Prop} {d : DefRec} {x : Str} (hn : l.most = some n) (hn2 : n ≤ sizeLine) (hdf : d.params.defaults = []) (hr : RoomG k callerA)
    (Fw : ∀ (w : World) (mg : Str → Option Value) (fa : Addr) (h : Heap), YP w h → h.Ns mainGlobals mg → mg d.name = some (.ref fa) → ∃ (K : PySem.W.Frag) (fd : FuncData) (sp : Sp), K.In h ∧ noLst K = true ∧ (∀ (s : Shared) (u : Value), BindsTo s fd ⟨[u], []⟩ [(x, u)]) ∧
      (∀ (H : Hp) (a : Addr) (o : Obj) (ns : List Int), ns.length ≤ n → (∀ z ∈ ns, Builtin.Int.intBits z ≤ 1048576) → H a = some (.frz o (.lst (ns.map V.int))) → sp [.ref a] H (fun v _ => v = .bl true) fun _ _ _ => False) ∧
      ∀ base : Heap, K.In base → base.Ns mainGlobals mg → FnG l.prog w K mg base k fa fd [x] sp) : PySem.W.WalkO q loose XP YP l.row.toRowW d [] (fun f vs => PySem.call f vs) := by
  refine Att.attach_callB hn hdf fun w s₀ s₁ mg mb fa o pm cd doc a vs ns G Y ho hd hcd hmg hobj hints hlen hbits hg => ?_
  obtain ⟨K, fd, sp, KX, nl, hb, hsp, hF⟩ := Fw w mg fa _ Y G.T.g hmg
  have noK : K.lookup a = none := by
    cases e : K.lookup a with
    | none => rfl
    | some o' =>
      have := KX a o' e
      rw [hobj] at this
      cases this
      exact absurd rfl (noLst_ok nl e)
  refine law_run KX noK G.T.g G.T.b G.T.builtins G.T.nolimit hg hobj hints (Nat.le_trans hlen hn2) hr hF hb (fun H o' h => hsp H a o' ns hlen hbits h) fun H e s' c => ?_
  obtain ⟨_, _, _, _, _, _, _, _, _, _, _, _, z⟩ := c
  exact z
end LS
end

section
set_option Elab.async false
set_option linter.all false
set_option maxRecDepth 100000
set_option maxHeartbeats 8000000
/-! LS.All: all defs of a text at once. -/
namespace LS
open PySem PySem.Spec PyProof.Rows L2
theorem lookup_append {ν β : Type} [BEq ν] [LawfulBEq ν] {n : ν} : ∀ {l r : List (ν × β)}, (l ++ r).lookup n = (l.lookup n).or (r.lookup n)
  | [], r => by simp
  | (m, b) :: l, r => by
    simp only [List.cons_append, List.lookup_cons]
    split
    · rfl
    · exact lookup_append
theorem zip_take {α β : Type} : ∀ (l : List α) (r : List β), l.zip r = (l.take r.length).zip r
  | [], r => by simp
  | _ :: _, [] => by simp
  | a :: l, b :: r => by simp [← zip_take l r]
theorem optAll_get {α β : Type} {f : α → Option β} : ∀ {l : List α} {r : List β}, optAll f l = some r → ∀ (i : Nat) (b : β), r[i]? = some b → ∃ a, l[i]? = some a ∧ f a = some b
  | [], r, h, i, b, e => by cases h; simp at e
  | a :: l, r, h, i, b, e => by
    obtain ⟨c, r', rfl, h1, h2⟩ := optAll_cons h
    cases i with
    | zero => simp at e; subst e; exact ⟨a, rfl, h1⟩
    | succ i => simpa using optAll_get h2 i b (by simpa using e)
theorem idxOf_get {ν : Type} [BEq ν] [LawfulBEq ν] {x : ν} : ∀ {l : List ν} {i : Nat}, l.idxOf? x = some i → l[i]? = some x
  | [], i, h => by simp at h
  | a :: l, i, h => by
    rw [List.idxOf?_cons] at h
    split at h
    · rename_i q
      cases h
      simpa using q
    · obtain ⟨j, h1, rfl⟩ := Option.map_eq_some_iff.mp h
      simpa using idxOf_get h1
section
variable {P : Program} {w : World} {K : PySem.W.Frag} {mg : Str → Option Value} {base : Heap} {f : Addr} {fd : FuncData} {x qual : Str} {as : List Arg} {kd : List (Option PySem.Expr)} {body : List Stmt} {scope : Scope} {kws : List (Str × V)}
theorem byPlace (Fd : FunD K x qual ⟨[], as, none, [], kd, none, []⟩ body scope [] kws f fd) (nd : (as.map (·.arg)).Nodup) : ByPlace fd (as.map (·.arg)) := by
  intro us hl
  obtain ⟨oc, od, dV, kV, doc, pm, an, cdv, ct, osl, rfl, lk, hcd, hD, _⟩ := Fd.ex
  rcases hD with ⟨_, rfl⟩ | ⟨e, _⟩
  · exact bind_all nd (by simpa using hl)
  · exact absurd rfl e
theorem byName (Fd : FunD K x qual ⟨[], as, none, [], kd, none, []⟩ body scope [] kws f fd) (nd : (as.map (·.arg)).Nodup) {n : Nat} {ks : List Str} {perm : List Nat} (h : permB (as.map (·.arg)) n ks perm = true) : ByName fd (as.map (·.arg)) n ks perm := by
  intro us ws vals hu hw hv
  obtain ⟨oc, od, dV, kV, doc, pm, an, cdv, ct, osl, rfl, lk, hcd, hD, _⟩ := Fd.ex
  rcases hD with ⟨_, rfl⟩ | ⟨e, _⟩
  · unfold permB at h
    simp only [Bool.and_eq_true, decide_eq_true_eq, List.all_eq_true, Bool.not_eq_true', decide_eq_false_iff_not] at h
    obtain ⟨⟨⟨⟨h1, h2⟩, h3⟩, h4⟩, h5⟩ := h
    have hn : (as.map (·.arg)).length = as.length := by simp
    have zt : (as.map (·.arg)).zip us = ((as.map (·.arg)).take n).zip us := by rw [zip_take, hu]
    refine bind_kw (by omega) (fun p a q e => ?_) (by rw [optAll_len hv, h1]; simp) fun i y v e1 e2 => ?_
    · have ha : a.1 ∈ ks := by
        have : a ∈ ks.zip ws := by rw [e]; simp
        exact (List.of_mem_zip this).1
      obtain ⟨k1, k2⟩ := h4 a.1 ha
      refine ⟨by simpa using k1, ?_⟩
      rw [lookup_append, zt, lookup_zip_none k2]
      have hp : a.1 ∉ p.map (·.1) := by
        have hks : (ks.zip ws).map (·.1) = ks := List.map_fst_zip (by omega)
        rw [e] at hks
        rw [← hks] at h3
        simp only [List.map_append, List.map_cons] at h3
        have := (List.nodup_append.mp h3).2.2
        intro z
        exact this _ z _ (by simp) rfl
      simp only [Option.none_or]
      rw [List.lookup_eq_none_iff]
      intro z hz
      have : a.1 ≠ z.1 := fun e => hp (by rw [e]; exact List.mem_map.mpr ⟨z, hz, rfl⟩)
      simpa using this
    · have hi : i < (as.map (·.arg)).length := (List.getElem?_eq_some_iff.mp e1).1
      obtain ⟨j, j1, j2⟩ := optAll_get hv i v e2
      have h6 := h5 i (by simpa using hi)
      rw [lookup_append]
      by_cases hin : i < n
      · rw [if_pos hin] at h6
        have : j = i := by rw [j1] at h6; simpa using h6
        subst this
        rw [List.getElem?_append_left (by omega)] at j2
        rw [lookup_zip_get nd e1 j2]
        rfl
      · rw [if_neg hin, e1] at h6
        simp only [Bool.and_eq_true, beq_iff_eq] at h6
        obtain ⟨h7, h8⟩ := h6
        rw [j1] at h7
        obtain ⟨m, h9⟩ := Option.isSome_iff_exists.mp h8
        rw [h9] at h7
        cases h7
        unfold kwIx at h9
        obtain ⟨m', h10, rfl⟩ := Option.map_eq_some_iff.mp h9
        rw [List.getElem?_append_right (by omega), hu, Nat.add_sub_cancel_left] at j2
        have k1 : (as.map (·.arg)).zip us = ((as.map (·.arg)).take n).zip us := zt
        have k2 : y ∉ (as.map (·.arg)).take n := fun hm => by
          obtain ⟨i', hi'⟩ := List.getElem?_of_mem hm
          have hlt := (List.getElem?_eq_some_iff.mp hi').1
          simp only [List.length_take] at hlt
          rw [List.getElem?_take_of_lt (by omega)] at hi'
          have h11 := (List.getElem?_eq_some_iff.mp hi').2
          have h12 := (List.getElem?_eq_some_iff.mp e1).2
          have := (List.getElem_inj nd).mp (h11.trans h12.symm)
          omega
        rw [k1, lookup_zip_none k2, Option.none_or]
        exact lookup_zip_get h3 (idxOf_get h10) j2
  · exact absurd rfl e
end
/-! ### all defs -/
/-- a def stands behind the top as it is said -/
def Has (K : PySem.W.Frag) (mg : Str → Option Value) (Fs : Nat → Option FI) (G : Nat → Option Def) (i : Nat) (fi : FI) : Prop := ∃ (d : Def) (f : Addr) (fd : FuncData) (qual : Str) (as : List Arg) (kd : List (Option PySem.Expr)) (body : List Stmt) (scope : Scope) (kws : List (Str × V)) (N : List Str),
  G i = some d ∧ mg fi.name = some (.ref f) ∧ PySem.W.keepIn K (.ref f) = true ∧ FunD K fi.name qual ⟨[], as, none, [], kd, none, []⟩ body scope [] kws f fd ∧ fi.ps = as.map (·.arg) ∧ chkSs Fs N scope d.body body = true ∧ FnScope N (as.map (·.arg)) scope ∧ d.np = as.length ∧ d.nn = N.length
theorem funAt {K : PySem.W.Frag} {x qual : Str} {params : Arguments} {body : List Stmt} {scope : Scope} {dvs : List V} {kws : List (Str × V)} {f : Addr} {fd : FuncData} (Fd : FunD K x qual params body scope dvs kws f fd) : ∃ oc od osl, K.lookup f = some ⟨oc, od, .func fd, osl⟩ := by
  obtain ⟨oc, od, dV, kV, doc, pm, an, cdv, ct, osl, e, lk, _⟩ := Fd.ex
  exact ⟨oc, od, osl, lk⟩
theorem rst_start {K : PySem.W.Frag} {H : Hp} {μ : List Addr} {ts : List T} {vs : List V} (r : RVs K H μ ts vs) (n : Nat) : RSt K H μ (ts.map some ++ List.replicate n none) (vs.map some ++ List.replicate n none) := by
  refine ⟨by simp [r.length], fun i t e => ?_⟩
  by_cases hi : i < ts.length
  · rw [List.getElem?_append_left (by simpa using hi)] at e
    rw [List.getElem?_map] at e
    obtain ⟨u, h1, h2⟩ := Option.map_eq_some_iff.mp e
    cases h2
    obtain ⟨v, h3, h4⟩ := r.get h1
    exact ⟨v, by rw [List.getElem?_append_left (by simpa [← r.length] using hi), List.getElem?_map, h3]; rfl, h4⟩
  · rw [List.getElem?_append_right (by simpa using hi), List.getElem?_replicate] at e
    split at e <;> cases e
theorem all_ok {F : Fx} {P : Program} {w : World} {K : PySem.W.Frag} {mg : Str → Option Value} {base : Heap} {Fs : Nat → Option FI} {G : Nat → Option Def} {sub : Nat → Nat → Bool} {M : Nat} (hb : ∀ x ∈ blts, mg x = none) (all : ∀ i fi, Fs i = some fi → Has K mg Fs G i fi) :
    ∀ (k i : Nat) (fi : FI), Fs i = some fi → ∃ f fd, mg fi.name = some (.ref f) ∧ PySem.W.keepIn K (.ref f) = true ∧ FnG P w K mg base k f fd fi.ps (spF F K (run sub G M k) i) ∧ ByPlace fd fi.ps ∧ (∀ n ks perm, permB fi.ps n ks perm = true → ByName fd fi.ps n ks perm) ∧ ∃ oc od osl, K.lookup f = some ⟨oc, od, .func fd, osl⟩ := by
  intro k
  induction k with
  | zero =>
    intro i fi hf
    obtain ⟨d, f, fd, qual, as, kd, body, scope, kws, N, g1, g2, g3, g4, g5, g6, g7, g8, g9⟩ := all i fi hf
    have nd : (as.map (·.arg)).Nodup := by
      rw [← g7.pre]
      exact g7.nd.sublist (List.take_sublist _ _)
    exact ⟨f, fd, g2, g3, ⟨fun vs H Q E ⟨S, μ, ts, _, _, h⟩ => h.elim, fun A outer s H args us vs Q E _ _ _ _ ⟨S, μ, ts, _, _, h⟩ => h.elim⟩, by rw [g5]; exact byPlace g4 nd, fun n ks perm h => by rw [g5] at h ⊢; exact byName g4 nd h, funAt g4⟩
  | succ k ih =>
    intro i fi hf
    obtain ⟨d, f, fd, qual, as, kd, body, scope, kws, N, g1, g2, g3, g4, g5, g6, g7, g8, g9⟩ := all i fi hf
    have nd : (as.map (·.arg)).Nodup := by
      rw [← g7.pre]
      exact g7.nd.sublist (List.take_sublist _ _)
    refine ⟨f, fd, g2, g3, ?_, by rw [g5]; exact byPlace g4 nd, fun n ks perm h => by rw [g5] at h ⊢; exact byName g4 nd h, funAt g4⟩
    have step : ∀ (ts : List T), run sub G M (k + 1) i ts = when_ (decide (ts.length = d.np)) (fin (denSs (run sub G M k) sub M d.body (ts.map some ++ List.replicate (d.nn - d.np) none))) := fun ts => by
      show (match G i with
        | some d => _
        | none => fail) = _
      rw [g1]
    rw [g5]
    refine fng_of g4 g7 (fun vs H Q E ⟨S, μ, ts, r, rv, h⟩ => ?_) fun cdv A outer s H vs Q E hr ⟨S, μ, ts, r, rv, h⟩ => ?_
    · rw [step] at h
      obtain ⟨c, _⟩ := h.when_
      have c' := of_decide_eq_true c
      rw [← rv.length, c', g8]
      simp
    · rw [step] at h
      obtain ⟨c, h⟩ := h.when_
      have c' := of_decide_eq_true c
      have gS : GoodS F (run sub G M k) Fs N (fun cls d _ H => E cls d H) (cxOf (L2.CX P w) P w K mg base N qual scope f cdv A outer s H E) scope := {
        g := {
          hN := rfl
          nd := g7.nd
          hsc := rfl
          calm := rfl
          fn := fun _ _ => rfl
          room := hr.mono (Nat.zero_le _)
          bl := hb
          fns := fun j fj hj => by
            obtain ⟨f', fd', a1, a2, a3, a4, a5, _⟩ := ih j fj hj
            exact ⟨k, f', fd', a1, a2, hr, a3, a4, a5⟩
          tk := takes_of rfl rfl rfl rfl
          kind := g7.kind }
        fnT := fun _ => rfl
        own := passes_of rfl }
      refine ⟨_, snd_ss (sub := sub) (M := M) (fun s _ => sndS s) gS g6, ts.map some ++ List.replicate (d.nn - d.np) none, S, μ, ?_, r, ?_⟩
      · have hl : N.length - vs.length = d.nn - d.np := by rw [← rv.length, c', g9]
        show RSt K H μ _ (vs.map some ++ List.replicate (N.length - vs.length) none)
        rw [hl]
        exact rst_start rv _
      · unfold fin at h
        show PostS F K _ _ H μ (denSs (run sub G M k) sub M d.body (ts.map some ++ List.replicate (d.nn - d.np) none) S)
        cases q : denSs (run sub G M k) sub M d.body (ts.map some ++ List.replicate (d.nn - d.np) none) S with
        | none => rw [q] at h; exact h
        | some r0 =>
          obtain ⟨r1, S'⟩ := r0
          rw [q] at h
          cases r1 with
          | error x =>
            obtain ⟨x, σx⟩ := x
            exact fun H' μ' σ' cls dd hr' st _ hx => h H' μ' cls dd hr' st hx
          | ok p =>
            obtain ⟨fl, σ'⟩ := p
            cases fl with
            | nx => exact fun H' μ' σ2 v hr' st _ _ => h H' μ' .non hr' st .non
            | rt t => exact fun H' μ' σ2 v hr' st _ hv => h H' μ' v hr' st (hv t rfl)
            | bk => exact h.elim
            | ct => exact h.elim
end LS
end

section
set_option Elab.async false
set_option linter.all false
set_option maxRecDepth 100000
set_option maxHeartbeats 8000000
/-! LS.Law: a law, from the list of its defs. -/
namespace LS
open PySem PySem.Spec PyProof.Rows L2
/-- one def: its number, its name, its parameters, the names of its slots, what it says -/
structure Ent where
  id : Nat
  name : Str
  ps : List Str
  N : List Str
  d : Def
  deriving Inhabited
def findE (ents : List Ent) (i : Nat) : Option Ent := ents.find? fun e => Nat.beq e.id i
def fsOf (ents : List Ent) (i : Nat) : Option FI := (findE ents i).map fun e => ⟨e.name, e.ps⟩
def gOf (ents : List Ent) (i : Nat) : Option Def := (findE ents i).map fun e => e.d
def toD : Stmt → Option He.DefD
  | .FunctionDef n a b _ _ _ sc _ _ _ => some ⟨(n, none), n, n, a, b, sc, [], []⟩
  | _ => none
def fnOf' (body : List Stmt) : List He.DefD := body.filterMap toD
def faOf (body : List Stmt) : List He.Fa := (fnOf' body).map (fun d => .glo d.name) ++ blts.map .free
/-- a def's scope, by a look -/
def scB (N ps : List Str) (sc : Scope) : Bool := (match sc.kind with
  | .function => true
  | _ => false) && !sc.isCoroutine && !sc.isGenerator && decide N.Nodup && (N.take ps.length == ps) && (ps.all fun x => locB sc x) && sc.names.all fun y => match y.2 with
  | .free => false
  | _ => true
theorem scB_ok {N ps : List Str} {sc : Scope} (h : scB N ps sc = true) : FnScope N ps sc := by
  unfold scB at h
  simp only [Bool.and_eq_true, Bool.not_eq_true', decide_eq_true_eq, beq_iff_eq, List.all_eq_true] at h
  obtain ⟨⟨⟨⟨⟨⟨h1, h2⟩, h3⟩, h4⟩, h5⟩, h6⟩, h7⟩ := h
  refine ⟨?_, h2, h3, h4, h5, fun x hx => loc_of (h6 x hx), fun y hy e => ?_⟩
  · split at h1
    · assumption
    · cases h1
  · have := h7 y hy
    rw [e] at this
    cases this
def argsB (a : Arguments) (ps : List Str) : Bool := a.posonlyargs.isEmpty && a.vararg.isNone && a.kwonlyargs.isEmpty && a.kwarg.isNone && a.defaults.isEmpty && (a.args.map (·.arg) == ps)
/-- the def is what the text says -/
def entB (ents : List Ent) (e : Ent) (st : Stmt) : Bool := match st with
  | .FunctionDef n a b _ _ _ sc _ _ _ => (n == e.name) && argsB a e.ps && scB e.N e.ps sc && Nat.beq e.d.np e.ps.length && Nat.beq e.d.nn e.N.length && chkSs (fsOf ents) e.N sc e.d.body b
  | _ => false
/-- each def's place among the statements -/
def entsB (ents : List Ent) (body : List Stmt) : Bool := ents.all fun e => body.any fun st => entB ents e st
theorem find_mem {ents : List Ent} {i : Nat} {e : Ent} (h : findE ents i = some e) : e ∈ ents := List.mem_of_find?_eq_some h
theorem has_of {K : PySem.W.Frag} {h : Heap} {mg : Str → Option Value} {ents : List Ent} {body : List Stmt} (X : K.In h) (Gs : h.Ns mainGlobals mg) (c : He.SaysD (faOf body) (fnOf' body) K) (ok : entsB ents body = true) : ∀ i fi, fsOf ents i = some fi → Has K mg (fsOf ents) (gOf ents) i fi := by
  intro i fi hf
  obtain ⟨e, he, rfl⟩ := Option.map_eq_some_iff.mp hf
  unfold entsB at ok
  obtain ⟨st, hst, hb⟩ := List.any_eq_true.mp (List.all_eq_true.mp ok e (find_mem he))
  cases st with
  | FunctionDef n a b dl rt tp sc ts bd pos =>
    simp only [entB, Bool.and_eq_true, beq_iff_eq] at hb
    obtain ⟨⟨⟨⟨⟨rfl, h2⟩, h3⟩, h4⟩, h5⟩, h6⟩ := hb
    obtain ⟨po, as, va, ko, kd, kw, df⟩ := a
    simp only [argsB, Bool.and_eq_true, List.isEmpty_iff, Option.isNone_iff_eq_none, beq_iff_eq] at h2
    obtain ⟨⟨⟨⟨⟨rfl, rfl⟩, rfl⟩, rfl⟩, rfl⟩, h2⟩ := h2
    have hm : (⟨(e.name, none), e.name, e.name, ⟨[], as, none, [], kd, none, []⟩, b, sc, [], []⟩ : He.DefD) ∈ fnOf' body := List.mem_filterMap.mpr ⟨_, hst, rfl⟩
    obtain ⟨j, hj⟩ := List.getElem?_of_mem hm
    obtain ⟨fd, FD⟩ := c.def_ j hj
    have hg : (He.Fa.glo e.name) ∈ faOf body := List.mem_append_left _ (List.mem_map.mpr ⟨_, hm, rfl⟩)
    obtain ⟨j', hj'⟩ := List.getElem?_of_mem hg
    have eg := He.glo_ok X Gs (c.fact j' hj')
    refine ⟨e.d, _, fd, e.name, as, kd, b, sc, _, e.N, by unfold gOf; rw [he]; rfl, eg, FD.kp, FD, h2.symm, h6, by rw [h2]; exact scB_ok h3, ?_, Nat.eq_of_beq_eq_true h5⟩
    rw [Nat.eq_of_beq_eq_true h4, ← h2]
    simp
  | _ => simp [entB] at hb
theorem free_of {K : PySem.W.Frag} {h : Heap} {mg : Str → Option Value} {body : List Stmt} (X : K.In h) (Gs : h.Ns mainGlobals mg) (c : He.SaysD (faOf body) (fnOf' body) K) : ∀ x ∈ blts, mg x = none := by
  intro x hx
  have hg : (He.Fa.free x) ∈ faOf body := List.mem_append_right _ (List.mem_map.mpr ⟨_, hx, rfl⟩)
  obtain ⟨j, hj⟩ := List.getElem?_of_mem hg
  exact He.free_ok X Gs (c.fact j hj)
def noSub : Nat → Nat → Bool := fun _ _ => false
/-- the law, from what the store's language does with each script -/
theorem walk_law {l : PySem.W.OpenLaw} {n : Nat} {q : Program} {loose : List Str} {XP : (Str → Option Value) → Heap → Prop} {d : DefRec} {body : List Stmt} {ents : List Ent} {il : Nat} (M : Nat) (hn : l.most = some n) (hn2 : n ≤ sizeLine) (hdf : d.params.defaults = []) (hd : d.name = "law") (ok : entsB ents body = true)
    (hil : fsOf ents il = some ⟨"law", ["script"]⟩) (law : ∀ ns : List Int, ns.length ≤ n → (∀ z ∈ ns, Builtin.Int.intBits z ≤ 1048576) → ∃ S', run noSub (gOf ents) M 100 il [.ref 0] [.fro (ns.map .int)] = some (.ok (.bl true), S')) :
    PySem.W.WalkO q loose XP (hookL 4 (faOf body) (fnOf' body)).says l.row.toRowW d [] (fun f vs => PySem.call f vs) := by
  refine walk_ofG (k := 100) (x := "script") hn hn2 hdf ⟨⟨rfl, by decide, by decide⟩, rfl⟩ fun w mg fa h ⟨K, KX, c, nl⟩ Gs hm => ?_
  rw [hd] at hm
  have has := has_of KX Gs c ok
  have fr := free_of KX Gs c
  let F : Fx := ⟨w, fun _ => 0, fun _ => []⟩
  have all := fun (base : Heap) => all_ok (F := F) (P := l.prog) (w := w) (base := base) (sub := noSub) (M := M) fr has 100 il _ hil
  obtain ⟨f, fd, e1, e2, _, e4, _, k1⟩ := all h
  have ef : f = fa := by
    rw [show mg "law" = some (.ref f) from e1] at hm
    cases hm
    rfl
  subst ef
  refine ⟨K, fd, spF F K (run noSub (gOf ents) M 100) il, KX, nl, fun s u => .of_eq (e4 [u] rfl), fun H a o ns hl hb ha => ?_, fun base KB GB => ?_⟩
  · obtain ⟨S', e⟩ := law ns hl hb
    refine ⟨[.fro (ns.map .int)], [a], [.ref 0], ⟨rfl, by simp, fun i cc b h1 h2 => ?_⟩, .cons (.ref rfl) .nil, ?_⟩
    · cases i with
      | zero =>
        simp at h1 h2
        subst h1; subst h2
        refine ⟨o, _, ha, ?_⟩
        clear hb hl e ha
        induction ns with
        | nil => exact .nil
        | cons z r ih => exact .cons (.int z) ih
      | succ i => simp at h1
    · rw [e]
      intro H' μ' v _ _ rv
      exact rv.bls
  · obtain ⟨f', fd', e1', e2', e3', e4', _, k2⟩ := all base
    have ef : f' = f := by
      have h1 : mg "law" = some (.ref f') := e1'
      rw [show mg "law" = some (.ref f) from e1] at h1
      cases h1
      rfl
    subst ef
    have efd : fd' = fd := by
      obtain ⟨_, _, _, k1⟩ := k1
      obtain ⟨_, _, _, k2⟩ := k2
      rw [k1] at k2
      cases k2
      rfl
    subst efd
    exact e3'
end LS
end

section
set_option Elab.async false
set_option linter.all false
set_option maxRecDepth 100000
/-! LS.V: the same language over values alone (lists and dicts are values, each with a flag: whether it may be changed). -/
namespace LS
open PySem (Str PyData)
inductive V where
  | non | bl (b : Bool) | int (i : Int) | str (s : List Nat) | tup (xs : List V)
  | lst (o : Bool) (xs : List V)
  | fro (xs : List V)
  /-- its items: pairs -/
  | dct (o tk : Bool) (kvs : List V)
  deriving Inhabited
mutual
def V.plain : V → Bool
  | .lst _ _ => false
  | .fro _ => false
  | .dct _ _ _ => false
  | .tup xs => V.plains xs
  | _ => true
def V.plains : List V → Bool
  | [] => true
  | v :: vs => V.plain v && V.plains vs
end
mutual
def V.frz : V → V
  | .lst _ xs => .lst false (V.frzs xs)
  | .fro xs => .fro (V.frzs xs)
  | .dct _ tk xs => .dct false tk (V.frzs xs)
  | .tup xs => .tup (V.frzs xs)
  | v => v
def V.frzs : List V → List V
  | [] => []
  | v :: vs => V.frz v :: V.frzs vs
end
mutual
def V.toT : V → T
  | .bl b => .bl b
  | .int i => .int i
  | .str s => .str s
  | .tup xs => .tup (V.toTs xs)
  | _ => .non
def V.toTs : List V → List T
  | [] => []
  | v :: vs => V.toT v :: V.toTs vs
end
mutual
def T.toV : T → V
  | .bl b => .bl b
  | .int i => .int i
  | .str s => .str s
  | .tup xs => .tup (T.toVs xs)
  | _ => .non
def T.toVs : List T → List V
  | [] => []
  | v :: vs => T.toV v :: T.toVs vs
end
/-- nothing in it that may be changed, but itself -/
def V.flat : V → Bool
  | .lst true xs => V.plains xs
  | .dct true _ xs => V.plains xs
  | v => V.plain v
def V.data : Nat → V → Option PyData
  | _, .non => some .none
  | _, .bl b => some (.bool b)
  | _, .int i => some (.int i)
  | _, .str s => if s.all (fun c => decide (c < 1114112)) then some (.str ⟨s.toArray⟩) else none
  | 0, _ => none
  | n + 1, .tup xs => (optAll (V.data n) xs).map .tuple
  | n + 1, .lst _ xs => (optAll (V.data n) xs).map .list
  | n + 1, .fro xs => (optAll (V.data n) xs).map .list
  | _ + 1, .dct _ _ _ => none
structure VX where
  cls : Nat
  args : List V
  deriving Inhabited
abbrev Vs := List (Option V)
abbrev VM (α : Type) := Vs → Option (Except VX α × Vs)
def retV {α : Type} (a : α) : VM α := fun σ => some (.ok a, σ)
def failV {α : Type} : VM α := fun _ => none
def seqV {α β : Type} (m : VM α) (f : α → VM β) : VM β := fun σ => match m σ with
  | none => none
  | some (.error x, σ') => some (.error x, σ')
  | some (.ok a, σ') => f a σ'
def optV {α : Type} (o : Option α) : VM α := fun σ => match o with
  | some a => some (.ok a, σ)
  | none => none
def calmV {α : Type} (m : VM α) : VM α := fun σ => match m σ with
  | some (.ok a, σ') => some (.ok a, σ')
  | _ => none
def onV {α : Type} (v : V) (a b : VM α) : VM α := match v with
  | .bl true => a
  | .bl false => b
  | _ => failV
/-- to read a slot: from then on what stands there may not be changed -/
def rdV (i : Nat) : VM V := fun σ => match σ[i]? with
  | some (some v) => bif v.plain then some (.ok v, σ) else some (.ok v.frz, σ.set i (some v.frz))
  | _ => none

/-! ### operations -/
def eqV2 (a b : V) : Option Bool := match V.data deep a, V.data deep b with
  | some x, some y => some (PyData.eqv x y)
  | _, _ => none
def anyV (a : V) (ys : List V) : Option Bool := match V.data deep a, optAll (V.data 59) ys with
  | some x, some ds => some (ds.any fun y => PyData.eqv y x)
  | _, _ => none
def keyV (tk : Bool) (k : V) : Bool := k.plain && keyOk tk k.toT
def sameV (a b : V) : Bool := decide (T.norm a.toT = T.norm b.toT)
def lookV : List V → V → Option V
  | .tup [k', v] :: r, k => if sameV k' k then some v else lookV r k
  | _, _ => none
def setV : List V → V → V → List V
  | .tup [k', x] :: r, k, v => .tup [k', if sameV k' k then v else x] :: setV r k v
  | r, _, _ => r
/-- the first such alone -/
def set1V : List V → V → V → List V
  | .tup [k', x] :: r, k, v => if sameV k' k then .tup [k', v] :: r else .tup [k', x] :: set1V r k v
  | r, _, _ => r
/-- no more than one such -/
def oneV : List V → V → Bool
  | .tup [k', _] :: r, k => if sameV k' k then (lookV r k).isNone else oneV r k
  | _, _ => true
def putV (kvs : List V) (k v : V) : List V := if (lookV kvs k).isSome then setV kvs k v else kvs ++ [.tup [k, v]]
def pairsV : List V → Option (List (V × V))
  | [] => some []
  | .tup [a, b] :: r => (pairsV r).map ((a, b) :: ·)
  | _ => none
def mergeV (kvs : List V) (more : List (V × V)) : List V := more.foldl (fun acc kv => putV acc kv.1 kv.2) kvs
def distV : List (V × V) → Bool
  | [] => true
  | kv :: r => r.all (fun kv' => !sameV kv.1 kv'.1) && distV r
def dictV (tk : Bool) (kvs : List (V × V)) : Option V := bif kvs.all (fun kv => keyV tk kv.1) && decide (kvs.length ≤ lineT) then
    (bif kvs.all (fun kv => kv.2.plain) then some (.dct true tk (mergeV [] kvs)) else bif distV kvs then some (.dct true tk (kvs.map fun kv => .tup [kv.1, kv.2])) else none)
  else none
def pairUpV : List V → Option (List (V × V))
  | [] => some []
  | k :: v :: r => (pairUpV r).map ((k, v) :: ·)
  | _ => none
def sortV (xs : List V) : Option (List V) := match optAll (V.data deep) xs with
  | some ds => if alikes ds && sortableD ds then some (((xs.zip ds).mergeSort (PySem.W.dataLe false fun p : V × PyData => p.2)).map (·.1)) else none
  | none => none
def firstsV (xs : List V) : List V := xs.foldl (fun acc x => if acc.any fun y => sameV y x then acc else acc ++ [x]) []
def boundsV (n : Nat) : Bool → Bool → List V → Option (Nat × Nat)
  | true, true, [.int i, .int j] => some (cutIx n i, cutIx n j)
  | true, false, [.int i] => some (cutIx n i, n)
  | false, true, [.int j] => some (0, cutIx n j)
  | false, false, [] => some (0, n)
  | _, _, _ => none
def boolsV : List V → Option (List Bool)
  | [] => some []
  | .bl b :: r => (boolsV r).map (b :: ·)
  | _ => none
def intsV : List V → Option (List Int)
  | [] => some []
  | .int i :: r => (intsV r).map (i :: ·)
  | _ => none
def strsV : List V → Option (List (List Nat))
  | [] => some []
  | .str i :: r => (strsV r).map (i :: ·)
  | _ => none
/-- the items of a list or a tuple -/
def itemsV : V → Option (List V)
  | .tup xs => some xs
  | .lst _ xs => some xs
  | .fro xs => some xs
  | _ => none
def V.isTup : V → Bool
  | .tup _ => true
  | _ => false
def isaV : Ty → V → Option Bool
  | .int, .int _ => some true
  | .int, .bl _ => some true
  | .bool, .bl _ => some true
  | .str, .str _ => some true
  | .tuple, .tup _ => some true
  | ty, .lst _ _ => some (decide (ty = .list))
  | ty, .dct _ _ _ => some (decide (ty = .dict))
  | _, .fro _ => none
  | _, _ => some false
def fmtV : List V → Option (List Nat)
  | [] => some []
  | .int i :: r => if i.natAbs.log2 < 1920 then (fmtV r).map (intFigs i ++ ·) else none
  | .str x :: r => (fmtV r).map (x ++ ·)
  | _ => none
def whenO {α : Type} (c : Bool) (o : Option α) : Option α := bif c then o else none
def atV {α : Type} (xs : List α) (i : Int) : Option α := (ixN xs.length i).bind fun k => xs[k]?
def cmpV (p : Prim) : List V → Option V
  | [.int a, .int b] => (cmpI p a b).map .bl
  | [a, b] => (match p with
    | .lt => (match V.data deep a, V.data deep b with
      | some x, some y => (dLt x y).map .bl
      | _, _ => none)
    | _ => none)
  | _ => none
def vAdd : List V → Option V
  | [.int a, .int b] => some (.int (a + b))
  | [.str a, .str b] => whenO (decide (a.length + b.length ≤ lineT)) (some (.str (a ++ b)))
  | [.tup a, .tup b] => whenO (decide (a.length + b.length ≤ lineT)) (some (.tup (a ++ b)))
  | [.lst _ a, .lst _ b] => whenO (decide (a.length + b.length ≤ lineT)) (some (.lst true (a ++ b)))
  | _ => none
def vSub : List V → Option V
  | [.int a, .int b] => some (.int (a - b))
  | _ => none
def vMul : List V → Option V
  | [.int a, .int b] => whenO (bits2 a b) (some (.int (a * b)))
  | [.tup a, .int b] => whenO (decide (b < 64) && decide (-64 < b) && decide (a.length ≤ 1000)) (some (.tup (List.replicate b.toNat a).flatten))
  | [.lst _ a, .int b] => whenO (decide (b < 64) && decide (-64 < b) && decide (a.length ≤ 1000)) (some (.lst true (List.replicate b.toNat a).flatten))
  | _ => none
def vFdiv : List V → Option V
  | [.int a, .int b] => whenO (decide (0 < b) && decide (b.natAbs.log2 < 9000)) (some (.int (a / b)))
  | _ => none
def vMod : List V → Option V
  | [.int a, .int b] => whenO (decide (0 < b)) (some (.int (a % b)))
  | _ => none
def vPow : List V → Option V
  | [.int a, .int b] => whenO (decide (0 ≤ b) && decide (b ≤ 1000) && decide (a.natAbs < 1000)) (some (.int (a ^ b.toNat)))
  | _ => none
def vNeg : List V → Option V
  | [.int a] => some (.int (-a))
  | _ => none
def vEq : List V → Option V
  | [a, b] => (eqV2 a b).map .bl
  | _ => none
def vNe : List V → Option V
  | [a, b] => (eqV2 a b).map fun c => .bl (!c)
  | _ => none
def vIsNone : List V → Option V
  | [a] => some (.bl (match a with | .non => true | _ => false))
  | _ => none
def vNotNone : List V → Option V
  | [a] => some (.bl (match a with | .non => false | _ => true))
  | _ => none
def vIsin : List V → Option V
  | [.str [c], .str s] => some (.bl (decide (c ∈ s)))
  | [a, .tup ys] => (anyV a ys).map .bl
  | [a, .lst _ ys] => (anyV a ys).map .bl
  | [a, .dct _ tk kvs] => whenO (keyV tk a) (some (.bl (lookV kvs a).isSome))
  | _ => none
def vNotin : List V → Option V
  | [.str [c], .str s] => some (.bl (!decide (c ∈ s)))
  | [a, .tup ys] => (anyV a ys).map fun c => .bl (!c)
  | [a, .lst _ ys] => (anyV a ys).map fun c => .bl (!c)
  | [a, .dct _ tk kvs] => whenO (keyV tk a) (some (.bl (!(lookV kvs a).isSome)))
  | _ => none
def vGet : List V → Option V
  | [.tup xs, .int i] => atV xs i
  | [.str s, .int i] => whenO (decide (s.length ≤ lineT)) ((atV s i).map fun c => .str [c])
  | [.lst _ xs, .int i] => atV xs i
  | [.fro xs, .int i] => atV xs i
  | [.dct _ tk kvs, k] => whenO (keyV tk k) (lookV kvs k)
  | _ => none
def vSlc (a b : Bool) : List V → Option V
  | .tup xs :: r => (boundsV xs.length a b r).map fun p => .tup (cutL xs p.1 p.2)
  | .str xs :: r => whenO (decide (xs.length ≤ lineT)) ((boundsV xs.length a b r).map fun p => .str (cutL xs p.1 p.2))
  | .lst _ xs :: r => (boundsV xs.length a b r).map fun p => .lst true (cutL xs p.1 p.2)
  | .fro xs :: r => (boundsV xs.length a b r).map fun p => .lst true (cutL xs p.1 p.2)
  | _ => none
def vRev : List V → Option V
  | [.tup xs] => some (.tup xs.reverse)
  | [.lst _ xs] => some (.lst true xs.reverse)
  | _ => none
def vLen : List V → Option V
  | [.tup xs] => some (.int xs.length)
  | [.str xs] => whenO (decide (xs.length ≤ lineT)) (some (.int xs.length))
  | [.lst _ xs] => some (.int xs.length)
  | [.fro xs] => some (.int xs.length)
  | [.dct _ _ xs] => some (.int xs.length)
  | _ => none
def vTuple : List V → Option V
  | [.tup xs] => some (.tup xs)
  | [.lst _ xs] => some (.tup xs)
  | _ => none
def vList : List V → Option V
  | [.tup xs] => some (.lst true xs)
  | [.lst _ xs] => some (.lst true xs)
  | _ => none
def vSorted : List V → Option V
  | [.lst _ xs] => (sortV xs).map fun ys => .lst true ys
  | _ => none
def vSortedSet : List V → Option V
  | [a] => (itemsV a).bind fun xs => whenO (xs.all fun x => x.plain && x.isTup) ((sortV (firstsV xs)).map fun ys => .lst true ys)
  | _ => none
def vLenSet : List V → Option V
  | [a] => (itemsV a).bind fun xs => whenO (xs.all fun x => x.plain && x.isTup) (some (.int (firstsV xs).length))
  | _ => none
def vRepr : List V → Option V
  | [.tup xs] => ((V.data deep (.tup xs)).bind reprOf).map .str
  | [.lst o xs] => ((V.data deep (.lst o xs)).bind reprOf).map .str
  | _ => none
def vStr : List V → Option V
  | [.int i] => whenO (decide (i.natAbs.log2 < 1920)) (some (.str (intFigs i)))
  | _ => none
def vIntOf : List V → Option V
  | [.int i] => some (.int i)
  | [.bl b] => some (.int (if b then 1 else 0))
  | _ => none
def vAbs : List V → Option V
  | [.int i] => some (.int i.natAbs)
  | _ => none
def vMax2 : List V → Option V
  | [.int a, .int b] => some (.int (max a b))
  | _ => none
def vMin2 : List V → Option V
  | [.int a, .int b] => some (.int (min a b))
  | _ => none
def vMax1 : List V → Option V
  | [a] => ((itemsV a).bind intsV).bind fun is => match is with
    | [] => none
    | i :: r => some (.int (r.foldl max i))
  | _ => none
def vMin1 : List V → Option V
  | [a] => ((itemsV a).bind intsV).bind fun is => match is with
    | [] => none
    | i :: r => some (.int (r.foldl min i))
  | _ => none
def vAll : List V → Option V
  | [.lst _ xs] => (boolsV xs).map fun bs => .bl (bs.all id)
  | _ => none
def vAny : List V → Option V
  | [.lst _ xs] => (boolsV xs).map fun bs => .bl (bs.any id)
  | _ => none
def vIsa (t : Ty) : List V → Option V
  | [a] => (isaV t a).map .bl
  | _ => none
def vGet1 : List V → Option V
  | [.dct _ tk kvs, k] => whenO (keyV tk k) (some ((lookV kvs k).getD .non))
  | _ => none
def vGet2 : List V → Option V
  | [.dct _ tk kvs, k, x] => whenO (keyV tk k) (some ((lookV kvs k).getD x))
  | _ => none
def vJoin : List V → Option V
  | [.str s, a] => ((itemsV a).bind strsV).bind fun ss => whenO (decide ((sepJoin s ss).length ≤ lineT)) (some (.str (sepJoin s ss)))
  | _ => none
def vFmt : List V → Option V
  | vs => (fmtV vs).bind fun z => whenO (decide (z.length ≤ lineT)) (some (.str z))
def vSplit : List V → Option V
  | [.str s, .str sep] => whenO (decide (1 ≤ sep.length) && decide (s.length + 2 ≤ lineT)) (some (.lst true ((splitL sep s).map .str)))
  | _ => none
def vInTbl (kvs : List (T × T)) : List V → Option V
  | [k] => whenO (keyV false k) (some (.bl (dLook kvs k.toT).isSome))
  | _ => none
def vGetTbl (kvs : List (T × T)) : List V → Option V
  | [k] => whenO (keyV false k) ((dLook kvs k.toT).bind fun t => whenO t.plain (some t.toV))
  | _ => none
def vGet1Tbl (kvs : List (T × T)) : List V → Option V
  | [k] => whenO (keyV false k) (whenO ((dLook kvs k.toT).getD .non).plain (some ((dLook kvs k.toT).getD .non).toV))
  | _ => none
/-- what a built-in operation tells (of values none of which it changes) -/
def primV : Prim → List V → Option V
  | .add => vAdd
  | .sub => vSub
  | .mul => vMul
  | .fdiv => vFdiv
  | .mod => vMod
  | .pow => vPow
  | .neg => vNeg
  | .eq => vEq
  | .ne => vNe
  | .isNone => vIsNone
  | .notNone => vNotNone
  | .isin => vIsin
  | .notin => vNotin
  | .get => vGet
  | .slc a b => vSlc a b
  | .rev => vRev
  | .len => vLen
  | .tuple => vTuple
  | .list => vList
  | .sorted => vSorted
  | .sortedSet => vSortedSet
  | .lenSet => vLenSet
  | .repr => vRepr
  | .str => vStr
  | .intOf => vIntOf
  | .abs => vAbs
  | .max2 => vMax2
  | .min2 => vMin2
  | .max1 => vMax1
  | .min1 => vMin1
  | .all => vAll
  | .any => vAny
  | .isa t => vIsa t
  | .get1 => vGet1
  | .get2 => vGet2
  | .join => vJoin
  | .fmt => vFmt
  | .split => vSplit
  | .inTbl kvs => vInTbl kvs
  | .getTbl kvs => vGetTbl kvs
  | .get1Tbl kvs => vGet1Tbl kvs
  | .lt => cmpV .lt
  | .le => cmpV .le
  | .gt => cmpV .gt
  | .ge => cmpV .ge
  | _ => fun _ => none
/-- what a method does to what it is asked of: what it tells, what stands there then -/
def mutV : Ty → Prim → V → List V → Option (V × V)
  | .list, .append, .lst true xs, [x] => whenO (decide (xs.length < lineT)) (some (.non, .lst true (xs ++ [x])))
  | .list, .extend, .lst true xs, [.lst _ ys] => whenO (decide (xs.length + ys.length ≤ lineT)) (some (.non, .lst true (xs ++ ys)))
  | .list, .pop, .lst true xs, [] => (xs.getLast?).map fun x => (x, .lst true xs.dropLast)
  | .list, .popAt, .lst true xs, [.int i] => (ixN xs.length i).bind fun k => (xs[k]?).map fun x => (x, .lst true (xs.eraseIdx k))
  | .dict, .setdefault, .dct true tk kvs, [k, x] => whenO (keyV tk k && x.plain && decide (kvs.length < lineT)) (match lookV kvs k with
    | some v => whenO v.plain (some (v, .dct true tk kvs))
    | none => some (x, .dct true tk (kvs ++ [.tup [k, x]])))
  | _, _, _, _ => none
def mutP : Prim → Bool
  | .append => true
  | .extend => true
  | .pop => true
  | .popAt => true
  | .insert => true
  | .setdefault => true
  | _ => false
/-- o[k] = v -/
def subV (o k v : V) : Option V := match o with
  | .dct true tk kvs => whenO (keyV tk k && decide (kvs.length < lineT) && (v.plain || oneV kvs k)) (some (.dct true tk (putV kvs k v)))
  | .lst true xs => (match k with
    | .int i => (ixN xs.length i).map fun j => .lst true (xs.set j v)
    | _ => none)
  | _ => none
/-- what a method is asked of -/
def kindV : Ty → V → Bool
  | .str, .str _ => true
  | .list, .lst _ _ => true
  | .dict, .dct _ _ _ => true
  | _, _ => false
/-- a part, and what stands there with another part -/
def partV (o k : V) : Option V := match o with
  | .dct true tk kvs => whenO (keyV tk k) (lookV kvs k)
  | .lst true xs => (match k with
    | .int i => atV xs i
    | _ => none)
  | _ => none
def withV (o k v : V) : Option V := match o with
  | .dct true tk kvs => some (.dct true tk (set1V kvs k v))
  | .lst true xs => (match k with
    | .int i => (ixN xs.length i).map fun j => .lst true (xs.set j v)
    | _ => none)
  | _ => none
/-! ### expressions -/
inductive Arg where
  | v (x : V) | s (i : Nat)
def getA (σ : Vs) : List Arg → Option (List V)
  | [] => some []
  | .v x :: r => (getA σ r).map (x.frz :: ·)
  | .s i :: r => match σ[i]? with
    | some (some v) => (getA σ r).map (v.frz :: ·)
    | _ => none
def frzA (σ : Vs) : List Arg → Vs
  | [] => σ
  | .v _ :: r => frzA σ r
  | .s i :: r => match σ[i]? with
    | some (some v) => frzA (σ.set i (some v.frz)) r
    | _ => frzA σ r
def appV (p : Prim) (as : List Arg) : VM V := fun σ => match getA σ as with
  | some vs => (match primV p vs with
    | some r => bif r.flat then some (.ok r, σ) else some (.ok r, frzA σ as)
    | none => none)
  | none => none
/-- what a part of a name's value is asked for: nothing of it is kept -/
def appP (p : Prim) (as : List Arg) (i : Nat) (key : V) (post : List Arg) : VM V := fun σ => match getA σ as, σ[i]?, getA σ post with
  | some vs, some (some c), some ps => (match primV .get [c.frz, key.frz] with
    | some ch => (match primV p (vs ++ ch.frz :: ps) with
      | some r => bif r.flat then some (.ok r, σ) else none
      | none => none)
    | none => none)
  | _, _, _ => none
/-- whether it is a name, a written value or [] -/
def simpE : E → Bool
  | .lst [] => true
  | .con t => t.plain
  | .var _ => true
  | _ => false
def postE : E → List Arg
  | .lst [] => [.v (.lst true [])]
  | .con t => [.v t.toV]
  | .var j => [.s j]
  | _ => []
def E.at1 : E → Option Nat
  | .app .get [.var i, _] => some i
  | _ => none
/-- whether a part of a name's value is asked for: which name, whether it stands second -/
def pathK : List E → Option (Nat × Bool)
  | [e] => e.at1.map fun i => (i, false)
  | [e, e2] => (match e.at1 with
    | some i => (match simpE e2 with
      | true => some (i, false)
      | false => e2.at1.map fun i => (i, true))
    | none => e2.at1.map fun i => (i, true))
  | _ => none
def postOf : List E → List Arg
  | [_, e] => postE e
  | _ => []
def E.var? : E → Option Nat
  | .var i => some i
  | _ => none
/-- o, o[..]: the name -/
def E.at0 : E → Option Nat
  | .var i => some i
  | _ => none
def headVar : List E → Option Nat
  | .var i :: _ => some i
  | _ => none
def itsV : V → Option (List V)
  | .str s => some (s.map fun c => .str [c])
  | .tup xs => some (V.frzs xs)
  | .lst _ xs => some (V.frzs xs)
  | .fro xs => some (V.frzs xs)
  | _ => none
def seqItsV : V → Option (List V)
  | .tup xs => some (V.frzs xs)
  | .lst _ xs => some (V.frzs xs)
  | .fro xs => some (V.frzs xs)
  | _ => none
def enumV : Nat → List V → List V
  | _, [] => []
  | i, x :: r => .tup [.int i, x] :: enumV (i + 1) r
def zipV : List V → List V → List V
  | x :: r, y :: q => .tup [x, y] :: zipV r q
  | _, _ => []
def zipOfV : V → V → Option (List V)
  | .tup xs, .tup ys => some (zipV (V.frzs xs) (V.frzs ys))
  | .lst _ xs, .lst _ ys => some (zipV (V.frzs xs) (V.frzs ys))
  | _, _ => none
def rangeV : List V → Option (List V)
  | [.int n] => if n < bigR ∧ -bigR < n then some ((List.range n.toNat).map fun (i : Nat) => .int (i : Int)) else none
  | [.int a, .int b] => if a < bigR ∧ -bigR < a ∧ b < bigR ∧ -bigR < b then some ((List.range (b - a).toNat).map fun (i : Nat) => .int (a + (i : Int))) else none
  | [.int a, .int b, .int c] => if a < bigR ∧ -bigR < a ∧ b < bigR ∧ -bigR < b ∧ c = -1 then some ((List.range (a - b).toNat).map fun (i : Nat) => .int (a - (i : Int))) else none
  | _ => none
mutual
def bindV : P → V → Vs → Option Vs
  | .slot i, v, σ => if i < σ.length then some (σ.set i (some v)) else none
  | .tup ps, .tup vs, σ => bindVs ps vs σ
  | .tup _, _, _ => none
def bindVs : List P → List V → Vs → Option Vs
  | [], [], σ => some σ
  | p :: ps, v :: vs, σ => match bindV p v σ with
    | some σ' => bindVs ps vs σ'
    | none => none
  | _, _, _ => none
end
def wipeV (σ : Vs) : List Nat → Vs
  | [] => σ
  | i :: is => (wipeV σ is).set i none
def bindM (p : P) (v : V) : VM Unit := fun σ => match bindV p v σ with
  | some σ' => some (.ok (), σ')
  | none => none
/-- what stood there ahead, where that never changes -/
def backV (old : Vs) (σ : Vs) : List Nat → Vs
  | [] => σ
  | i :: is => (backV old σ is).set i (match old[i]? with
    | some (some v) => bif v.plain then some v else none
    | _ => none)
def compV (own : List Nat) (p : P) (tst elt : VM V) : List V → VM (List V)
  | [] => retV []
  | x :: xs => fun σ => seqV (bindM p x) (fun _ => seqV tst fun c => onV c
      (seqV elt fun y => seqV (compV own p tst elt xs) fun ys => retV (y :: ys))
      (compV own p tst elt xs)) (wipeV σ own)
def isNumV : V → VM V
  | .int i => retV (.int i)
  | _ => failV
/-- a def: what it tells, and its first argument behind it (where that may be changed) -/
abbrev Fnv := Nat → List V → Option (Except VX V × V)
def askV (Ψ : Fnv) (f : Nat) (vs : List V) : VM V := fun σ => match Ψ f vs with
  | some (r, _) => some (r, σ)
  | none => none
def askIO (Ψ : Fnv) (f i : Nat) (vs : List V) : VM V := fun σ => match σ[i]? with
  | some (some v) => (match Ψ f (v :: vs) with
    | some (r, v') => some (r, σ.set i (some v'))
    | none => none)
  | _ => none
def takeV (i : Nat) : VM V := fun σ => match σ[i]? with
  | some (some v) => some (.ok v, σ.set i none)
  | _ => none
def putS (i : Nat) (v : V) : VM Unit := fun σ => if i < σ.length then some (.ok (), σ.set i (some v)) else none
/-- what a method is asked of -/
def askK (k : Ty) (a : Arg) : VM Unit := fun σ => match getA σ [a] with
  | some [v] => bif kindV k v then some (.ok (), σ) else none
  | _ => none
def seeS (i : Nat) : VM Arg := fun σ => match σ[i]? with
  | some (some _) => some (.ok (.s i), σ)
  | _ => none
def seeV (k : Ty) (i : Nat) : VM Unit := fun σ => match σ[i]? with
  | some (some v) => bif kindV k v then some (.ok (), σ) else none
  | _ => none
section
variable (Ψ : Fnv) (io : Nat → Bool)
set_option maxHeartbeats 1000000
mutual
def denV : E → VM V
  | .var i => rdV i
  | .con t => optV (whenO t.plain (some t.toV))
  | .glo _ t => optV (whenO t.plain (some t.toV))
  | .tup es => seqV (denVs es) fun vs => retV (.tup vs)
  | .lst es => seqV (denVs es) fun vs => retV (.lst true vs)
  | .tupS ss es => seqV (denStV es ss) fun xs => optV (whenO (decide (xs.length ≤ lineT)) (some (.tup xs)))
  | .lstS ss es => seqV (denStV es ss) fun xs => optV (whenO (decide (xs.length ≤ lineT)) (some (.lst true xs)))
  | .dct tk es => seqV (denVs es) fun vs => optV ((pairUpV vs).bind fun kvs => dictV tk kvs)
  | .app p es => (match pathK es with
      | some (i, false) => seqV (seeS i) fun _ => seqV (denFk es) fun key => appP p [] i key (postOf es)
      | some (i, true) => seqV (denAs1 es) fun as => seqV (seeS i) fun _ => seqV (denSk es) fun key => appP p as i key []
      | none => seqV (denAs es) fun as => appV p as)
  | .num e => seqV (denV e) isNumV
  | .meth k p o es => bif mutP p then (match o.at0, o.at1 with
      | some i, _ => seqV (seeV k i) fun _ => seqV (denVs es) fun vs => seqV (takeV i) fun c => seqV (optV (mutV k p c vs)) fun r => seqV (putS i r.2) fun _ => retV r.1
      | none, some i => seqV (seeS i) fun _ => seqV (denKey o) fun key => seqV (takeV i) fun c => seqV (optV (partV c key)) fun ch => bif kindV k ch then seqV (denVs es) fun vs =>
          seqV (optV (mutV k p ch vs)) fun r => seqV (optV (withV c key r.2)) fun c' => seqV (putS i c') fun _ => retV r.1 else failV
      | none, none => failV)
    else seqV (match o.var? with
      | some i => seeS i
      | none => seqV (denV o) fun v => retV (.v v)) fun a => seqV (askK k a) fun _ => seqV (denAs es) fun as => appV p (a :: as)
  | .call f es => bif io f then (match headVar es with
      | some i => seqV (seeS i) fun _ => seqV (denTl es) fun vs => askIO Ψ f i vs
      | none => failV)
    else seqV (denVs es) fun vs => askV Ψ f vs
  | .callK f es ks perm => bif io f || !decide perm.Nodup then failV else seqV (denVs es) fun a => seqV (denVs ks) fun b => seqV (optV (optAll (fun i => (a ++ b)[i]?) perm)) fun vs => askV Ψ f vs
  | .and es => denAndV es
  | .or es => denOrV es
  | .not e => seqV (denV e) fun v => onV v (retV (.bl false)) (retV (.bl true))
  | .chain e ops es => seqV (denV e) fun v => denChV v ops es
  | .ite c a b => seqV (denV c) fun v => onV v (denV a) (denV b)
  | .comp e own p it cs => bif p.slots.all (fun i => decide (i ∈ own)) then seqV (denIV it) fun xs => fun σ => (match calmV (compV own p (denAnd1V cs) (denV e) xs) σ with
      | some (.ok ys, σ') => bif decide (ys.length < lineT) then some (.ok (.lst true ys), backV σ σ' own) else none
      | _ => none) else failV
  | .tupI it => seqV (denIV it) fun xs => optV (whenO (decide (xs.length ≤ lineT)) (some (.tup xs)))
  | .lstI it => seqV (denIV it) fun xs => optV (whenO (decide (xs.length ≤ lineT)) (some (.lst true xs)))
  | .dctI tk it => seqV (denIV it) fun xs => optV ((pairsV xs).bind fun kvs => dictV tk kvs)
def denVs : List E → VM (List V)
  | [] => retV []
  | e :: es => seqV (denV e) fun v => seqV (denVs es) fun vs => retV (v :: vs)
def denTl : List E → VM (List V)
  | [] => failV
  | _ :: es => denVs es
def denKey : E → VM V
  | .app .get [_, e] => denV e
  | _ => failV
def denFk : List E → VM V
  | .app .get [_, e] :: _ => denV e
  | _ => failV
def denSk : List E → VM V
  | [_, .app .get [_, e]] => denV e
  | _ => failV
def denAs1 : List E → VM (List Arg)
  | e :: _ => seqV (match e.var? with
      | some i => seeS i
      | none => seqV (denV e) fun v => retV (.v v)) fun a => retV [a]
  | [] => failV
def denAs : List E → VM (List Arg)
  | [] => retV []
  | e :: es => seqV (match e.var? with
      | some i => seeS i
      | none => seqV (denV e) fun v => retV (.v v)) fun a => seqV (denAs es) fun as => retV (a :: as)
def denStV : List E → List Bool → VM (List V)
  | [], [] => retV []
  | e :: es, false :: ss => seqV (denV e) fun v => seqV (denStV es ss) fun r => retV (v :: r)
  | e :: es, true :: ss => seqV (denV e) fun v => seqV (optV (itemsV v)) fun xs => seqV (denStV es ss) fun r => retV (xs ++ r)
  | _, _ => failV
def denAndV : List E → VM V
  | [] => failV
  | [e] => denV e
  | e :: es => seqV (denV e) fun v => onV v (denAndV es) (retV (.bl false))
def denAnd1V : List E → VM V
  | [] => retV (.bl true)
  | [e] => denV e
  | _ :: _ :: _ => failV
def denOrV : List E → VM V
  | [] => failV
  | [e] => denV e
  | e :: es => seqV (denV e) fun v => onV v (retV (.bl true)) (denOrV es)
def denChV : V → List Prim → List E → VM V
  | v, [op], [e] => seqV (denV e) fun w => optV (primV op [v.frz, w.frz])
  | v, op :: ops, e :: es => seqV (denV e) fun w => seqV (optV (primV op [v.frz, w.frz])) fun c => onV c (denChV w.frz ops es) (retV (.bl false))
  | _, _, _ => failV
def denIV : I → VM (List V)
  | .val e => seqV (denV e) fun v => optV (itsV v)
  | .range es => seqV (denVs es) fun vs => optV (rangeV vs)
  | .enum e => seqV (denV e) fun v => optV ((seqItsV v).map (enumV 0))
  | .zip a b => seqV (denV a) fun v => seqV (denV b) fun w => optV (zipOfV v w)
  | .items _ => failV
  | .values _ => failV
end
/-! ### statements -/
inductive FV where
  | nx | bk | ct | rt (v : V)
  deriving Inhabited
def turnV (again : VM FV) : FV → VM FV
  | .nx => again
  | .ct => again
  | .bk => retV .nx
  | .rt v => retV (.rt v)
def forV (p : P) (body : VM FV) : List V → VM FV
  | [] => retV .nx
  | x :: xs => seqV (bindM p x) fun _ => seqV body (turnV (forV p body xs))
def whileV (tst : VM V) (body : VM FV) : Nat → VM FV
  | 0 => failV
  | n + 1 => seqV tst fun c => onV c (seqV body (turnV (whileV tst body n))) (retV .nx)
/-- slot 0 is not stored where it may be changed for the caller -/
def okS (lk : Bool) (i : Nat) : Bool := !(lk && i == 0)
def outV (i : Nat) : VM V := fun σ => match σ[i]? with
  | some (some v) => bif v.plain then some (.ok v, σ) else some (.ok v, σ.set i none)
  | _ => none
variable (sub : Nat → Nat → Bool) (N : Nat) (lk : Bool)
mutual
def stV : S → VM FV
  | .exp e => seqV (denV Ψ io e) fun _ => retV .nx
  | .set i e => bif okS lk i then seqV (denV Ψ io e) fun v => seqV (putS i v) fun _ => retV .nx else failV
  | .unp p e => bif p.slots.all (okS lk) then seqV (denV Ψ io e) fun v => seqV (bindM p v) fun _ => retV .nx else failV
  | .sub o i e => (match o.at0, o.at1 with
      | some j, _ => seqV (denV Ψ io e) fun v => seqV (seeS j) fun _ => seqV (denV Ψ io i) fun k => seqV (takeV j) fun c => seqV (optV (subV c k v)) fun c' => seqV (putS j c') fun _ => retV .nx
      | none, some j => seqV (denV Ψ io e) fun v => seqV (seeS j) fun _ => seqV (denKey Ψ io o) fun key => seqV (takeV j) fun c => seqV (optV (partV c key)) fun ch => seqV (denV Ψ io i) fun k =>
          seqV (optV (subV ch k v)) fun ch' => seqV (optV (withV c key ch')) fun c' => seqV (putS j c') fun _ => retV .nx
      | none, none => failV)
  | .ife c a b => seqV (denV Ψ io c) fun v => onV v (stsV a) (stsV b)
  | .whl c b => whileV (denV Ψ io c) (stsV b) N
  | .for p it b => bif p.slots.all (okS lk) then seqV (denIV Ψ io it) fun xs => forV p (stsV b) xs else failV
  | .ret e => (match e.var? with
      | some i => seqV (outV i) fun v => retV (.rt v)
      | none => seqV (denV Ψ io e) fun v => retV (.rt v))
  | .retN => retV (.rt .non)
  | .pass => retV .nx
  | .cont => retV .ct
  | .brk => retV .bk
  | .raise c es => seqV (denVs Ψ io es) fun vs => fun σ => some (.error ⟨c, vs⟩, σ)
  | .try b c i h => fun σ => (match stsV b σ with
    | some (.ok r, σ') => some (.ok r, σ')
    | some (.error x, σ') => (match sub x.cls c with
      | true => (match i with
        | none => stsV h σ'
        | some i => bif okS lk i then (match stsV h (σ'.set i none) with
          | some (.ok f, σ'') => some (.ok f, σ''.set i none)
          | r => r) else none)
      | false => some (.error x, σ'))
    | none => none)
def stsV : List S → VM FV
  | [] => retV .nx
  | s :: ss => seqV (stV s) fun f => (match f with
    | .nx => stsV ss
    | f => retV f)
end
end
/-- the first argument, where it may be changed -/
def headO : Bool → Vs → Option V
  | false, _ => some .non
  | true, some v :: _ => some v
  | true, _ => none
/-- a body's end -/
def finV (io : Bool) (m : Option (Except VX FV × Vs)) : Option (Except VX V × V) := match m with
  | some (r, σ) => (match headO io σ with
    | none => none
    | some v0 => (match r with
      | .ok (.rt v) => some (.ok v, v0)
      | .ok .nx => some (.ok .non, v0)
      | .error x => some (.error x, v0)
      | _ => none))
  | none => none
def runV (sub : Nat → Nat → Bool) (io : Nat → Bool) (G : Nat → Option Def) (N : Nat) : Nat → Fnv
  | 0, _, _ => none
  | k + 1, f, vs => match G f with
    | some d => bif decide (vs.length = d.np) then finV (io f) (stsV (runV sub io G N k) io sub N (io f) d.body (vs.map some ++ List.replicate (d.nn - d.np) none)) else none
    | none => none
end LS
end

section
set_option Elab.async false
set_option linter.all false
set_option maxRecDepth 100000
/-! LS.VR: when a value of the store's language is a value alone. -/
namespace LS
open PySem (Str PyData)
abbrev Ps := Nat → Prop
abbrev no : Ps := fun _ => False
def kvT (p : T × T) : T := .tup [p.1, p.2]
/-- the keys of a dict never change -/
def keysV : List V → Bool
  | [] => true
  | .tup [k, _] :: r => k.plain && keysV r
  | _ => false
section
variable (Z : Ps) (S : Sto)
mutual
/-- t reads as v; what may be changed of it stands at places of F -/
def Rd : V → Ps → T → Prop
  | .non, _, t => t = .non
  | .bl b, _, t => t = .bl b
  | .int i, _, t => t = .int i
  | .str s, _, t => t = .str s
  | .tup vs, F, t => ∃ ts, t = .tup ts ∧ Rds vs F ts
  | .lst true vs, F, t => ∃ l ts, t = .ref l ∧ F l ∧ S[l]? = some (.lst ts) ∧ Rds vs (fun m => F m ∧ m ≠ l) ts
  | .lst false vs, _, t => ∃ l ts, t = .ref l ∧ Z l ∧ S[l]? = some (.lst ts) ∧ Rds vs no ts
  | .fro vs, _, t => ∃ l ts, t = .ref l ∧ Z l ∧ S[l]? = some (.fro ts) ∧ Rds vs no ts
  | .dct true tk vs, F, t => ∃ l kvs, t = .ref l ∧ F l ∧ S[l]? = some (.dct tk kvs) ∧ keysV vs = true ∧ Rds vs (fun m => F m ∧ m ≠ l) (kvs.map kvT)
  | .dct false tk vs, _, t => ∃ l kvs, t = .ref l ∧ Z l ∧ S[l]? = some (.dct tk kvs) ∧ keysV vs = true ∧ Rds vs no (kvs.map kvT)
def Rds : List V → Ps → List T → Prop
  | [], _, ts => ts = []
  | v :: vs, F, ts => ∃ t ts' F1 F2, ts = t :: ts' ∧ (∀ m, F1 m → F m) ∧ (∀ m, F2 m → F m) ∧ (∀ m, F1 m → F2 m → False) ∧ Rd v F1 t ∧ Rds vs F2 ts'
end
end
mutual
theorem V.frz_plain : ∀ (v : V), v.plain = true → v.frz = v
  | .non, _ => rfl
  | .bl _, _ => rfl
  | .int _, _ => rfl
  | .str _, _ => rfl
  | .tup ts, p => by simp [V.frz, V.frzs_plain ts (by simpa [V.plain] using p)]
  | .lst _ vs, p => by simp [V.plain] at p
  | .fro vs, p => by simp [V.plain] at p
  | .dct _ _ vs, p => by simp [V.plain] at p
theorem V.frzs_plain : ∀ (t : List V), V.plains t = true → V.frzs t = t
  | [], _ => rfl
  | t :: ts, p => by
    simp only [V.plains, Bool.and_eq_true] at p
    simp [V.frzs, V.frz_plain t p.1, V.frzs_plain ts p.2]
end
theorem keysV_frz : ∀ {vs : List V}, keysV vs = true → keysV (V.frzs vs) = true
  | [], _ => rfl
  | .tup [k, _] :: r, h => by
    simp only [keysV, Bool.and_eq_true] at h
    simp only [V.frzs, V.frz, keysV, Bool.and_eq_true, keysV_frz h.2, and_true]
    rw [V.frz_plain k h.1]
    exact h.1
  | .tup [] :: _, h => by simp [keysV] at h
  | .tup [_] :: _, h => by simp [keysV] at h
  | .tup (_ :: _ :: _ :: _) :: _, h => by simp [keysV] at h
  | .non :: _, h => by simp [keysV] at h
  | .bl _ :: _, h => by simp [keysV] at h
  | .int _ :: _, h => by simp [keysV] at h
  | .str _ :: _, h => by simp [keysV] at h
  | .lst _ _ :: _, h => by simp [keysV] at h
  | .fro _ :: _, h => by simp [keysV] at h
  | .dct _ _ _ :: _, h => by simp [keysV] at h
mutual
/-- what reads so reads so later, where what it stands on stays -/
theorem Rd.to {Z Z' : Ps} {S S' : Sto} : ∀ (v : V) {F F' : Ps} {t : T}, Rd Z S v F t → (∀ m, Z m → Z' m) → (∀ m, F m ∨ Z m → S'[m]? = S[m]?) → (∀ m, F m → F' m) → Rd Z' S' v F' t
  | .non, _, _, _, h, _, _, _ => h
  | .bl _, _, _, _, h, _, _, _ => h
  | .int _, _, _, _, h, _, _, _ => h
  | .str _, _, _, _, h, _, _, _ => h
  | .tup vs, _, _, _, ⟨ts, e, h⟩, z, k, f => ⟨ts, e, Rds.to vs h z k f⟩
  | .lst true vs, _, _, _, ⟨l, ts, e, a, b, h⟩, z, k, f => ⟨l, ts, e, f _ a, by rw [k l (.inl a)]; exact b, Rds.to vs h z (fun m h => k m (h.imp (·.1) id)) fun m h => ⟨f m h.1, h.2⟩⟩
  | .lst false vs, _, _, _, ⟨l, ts, e, a, b, h⟩, z, k, f => ⟨l, ts, e, z _ a, by rw [k l (.inr a)]; exact b, Rds.to vs h z (fun m h => k m (h.elim (fun h => h.elim) .inr)) fun m h => h⟩
  | .fro vs, _, _, _, ⟨l, ts, e, a, b, h⟩, z, k, f => ⟨l, ts, e, z _ a, by rw [k l (.inr a)]; exact b, Rds.to vs h z (fun m h => k m (h.elim (fun h => h.elim) .inr)) fun m h => h⟩
  | .dct true tk vs, _, _, _, ⟨l, ts, e, a, b, c, h⟩, z, k, f => ⟨l, ts, e, f _ a, by rw [k l (.inl a)]; exact b, c, Rds.to vs h z (fun m h => k m (h.imp (·.1) id)) fun m h => ⟨f m h.1, h.2⟩⟩
  | .dct false tk vs, _, _, _, ⟨l, ts, e, a, b, c, h⟩, z, k, f => ⟨l, ts, e, z _ a, by rw [k l (.inr a)]; exact b, c, Rds.to vs h z (fun m h => k m (h.elim (fun h => h.elim) .inr)) fun m h => h⟩
theorem Rds.to {Z Z' : Ps} {S S' : Sto} : ∀ (v : List V) {F F' : Ps} {t : List T}, Rds Z S v F t → (∀ m, Z m → Z' m) → (∀ m, F m ∨ Z m → S'[m]? = S[m]?) → (∀ m, F m → F' m) → Rds Z' S' v F' t
  | [], _, _, _, h, _, _, _ => h
  | v :: vs, F, F', _, ⟨t, ts, F1, F2, e, f1, f2, d, a, b⟩, z, k, f => ⟨t, ts, F1, F2, e, fun m h => f m (f1 m h), fun m h => f m (f2 m h), d, Rd.to v a z (fun m h => k m (h.imp (f1 m) id)) fun m h => h, Rds.to vs b z (fun m h => k m (h.imp (f2 m) id)) fun m h => h⟩
end
mutual
theorem Rd.frz {Z Z' : Ps} {S : Sto} : ∀ (v : V) {F F' : Ps} {t : T}, Rd Z S v F t → (∀ m, Z m → Z' m) → (∀ m, F m → Z' m) → Rd Z' S v.frz F' t
  | .non, _, _, _, h, _, _ => h
  | .bl _, _, _, _, h, _, _ => h
  | .int _, _, _, _, h, _, _ => h
  | .str _, _, _, _, h, _, _ => h
  | .tup vs, _, _, _, ⟨ts, e, h⟩, z, f => ⟨ts, e, Rds.frz vs h z f⟩
  | .lst true vs, _, _, _, ⟨l, ts, e, a, b, h⟩, z, f => ⟨l, ts, e, f _ a, b, Rds.frz vs h z fun m h => f m h.1⟩
  | .lst false vs, _, _, _, ⟨l, ts, e, a, b, h⟩, z, f => ⟨l, ts, e, z _ a, b, Rds.frz vs h z fun m h => h.elim⟩
  | .fro vs, _, _, _, ⟨l, ts, e, a, b, h⟩, z, f => ⟨l, ts, e, z _ a, b, Rds.frz vs h z fun m h => h.elim⟩
  | .dct true tk vs, _, _, _, ⟨l, ts, e, a, b, c, h⟩, z, f => ⟨l, ts, e, f _ a, b, keysV_frz c, Rds.frz vs h z fun m h => f m h.1⟩
  | .dct false tk vs, _, _, _, ⟨l, ts, e, a, b, c, h⟩, z, f => ⟨l, ts, e, z _ a, b, keysV_frz c, Rds.frz vs h z fun m h => h.elim⟩
theorem Rds.frz {Z Z' : Ps} {S : Sto} : ∀ (v : List V) {F F' : Ps} {t : List T}, Rds Z S v F t → (∀ m, Z m → Z' m) → (∀ m, F m → Z' m) → Rds Z' S (V.frzs v) F' t
  | [], _, _, _, h, _, _ => h
  | v :: vs, F, F', _, ⟨t, ts, F1, F2, e, f1, f2, d, a, b⟩, z, f => ⟨t, ts, no, no, e, fun m h => h.elim, fun m h => h.elim, fun m h => h.elim, Rd.frz v a z fun m h => f m (f1 m h), Rds.frz vs b z fun m h => f m (f2 m h)⟩
end
mutual
theorem Rd.plain {Z Z' : Ps} {S S' : Sto} : ∀ (v : V) {F F' : Ps} {t : T}, v.plain = true → Rd Z S v F t → t = v.toT ∧ Rd Z' S' v F' t
  | .non, _, _, _, _, h => ⟨h, h⟩
  | .bl _, _, _, _, _, h => ⟨h, h⟩
  | .int _, _, _, _, _, h => ⟨h, h⟩
  | .str _, _, _, _, _, h => ⟨h, h⟩
  | .tup vs, _, _, _, p, ⟨ts, e, h⟩ => by
    have := Rds.plain (Z' := Z') (S' := S') (F' := ‹_›) vs (by simpa [V.plain] using p) h
    exact ⟨by rw [e, this.1]; simp [V.toT], ts, e, this.2⟩
  | .lst _ vs, _, _, _, p, _ => by simp [V.plain] at p
  | .fro vs, _, _, _, p, _ => by simp [V.plain] at p
  | .dct _ _ vs, _, _, _, p, _ => by simp [V.plain] at p
theorem Rds.plain {Z Z' : Ps} {S S' : Sto} : ∀ (v : List V) {F F' : Ps} {t : List T}, V.plains v = true → Rds Z S v F t → t = V.toTs v ∧ Rds Z' S' v F' t
  | [], _, _, _, _, h => ⟨by rw [h]; simp [V.toTs], h⟩
  | v :: vs, F, F', _, p, ⟨t, ts, F1, F2, e, f1, f2, d, a, b⟩ => by
    simp only [V.plains, Bool.and_eq_true] at p
    have h1 := Rd.plain (Z' := Z') (S' := S') (F' := no) v p.1 a
    have h2 := Rds.plain (Z' := Z') (S' := S') (F' := no) vs p.2 b
    exact ⟨by rw [e, h1.1, h2.1]; simp [V.toTs], t, ts, no, no, e, fun m h => h.elim, fun m h => h.elim, fun m h => h.elim, h1.2, h2.2⟩
end
mutual
theorem Rd.ofPlain {Z : Ps} {S : Sto} {F : Ps} : ∀ (v : V), v.plain = true → Rd Z S v F v.toT
  | .non, _ => by simp [Rd, V.toT]
  | .bl _, _ => by simp [Rd, V.toT]
  | .int _, _ => by simp [Rd, V.toT]
  | .str _, _ => by simp [Rd, V.toT]
  | .tup vs, p => by simpa [Rd, V.toT] using Rds.ofPlain vs (by simpa [V.plain] using p)
  | .lst _ vs, p => by simp [V.plain] at p
  | .fro vs, p => by simp [V.plain] at p
  | .dct _ _ vs, p => by simp [V.plain] at p
theorem Rds.ofPlain {Z : Ps} {S : Sto} {F : Ps} : ∀ (v : List V), V.plains v = true → Rds Z S v F (V.toTs v)
  | [], _ => by simp [Rds, V.toTs]
  | v :: vs, p => by
    simp only [V.plains, Bool.and_eq_true] at p
    simp only [V.toTs]
    exact ⟨_, _, no, no, rfl, fun m h => h.elim, fun m h => h.elim, fun m h => h.elim, Rd.ofPlain v p.1, Rds.ofPlain vs p.2⟩
end
mutual
theorem T.toV_plain : ∀ (t : T), t.toV.plain = true
  | .non => rfl
  | .bl _ => rfl
  | .int _ => rfl
  | .str _ => rfl
  | .ref _ => rfl
  | .tup ts => by simp [T.toV, V.plain, T.toVs_plain ts]
theorem T.toVs_plain : ∀ (t : List T), V.plains (T.toVs t) = true
  | [] => rfl
  | t :: ts => by simp [T.toVs, V.plains, T.toV_plain t, T.toVs_plain ts]
end
mutual
theorem T.toV_toT : ∀ (t : T), t.plain = true → t.toV.toT = t
  | .non, _ => rfl
  | .bl _, _ => rfl
  | .int _, _ => rfl
  | .str _, _ => rfl
  | .ref _, p => by simp [T.plain] at p
  | .tup ts, p => by simp [T.toV, V.toT, T.toVs_toTs ts (by simpa [T.plain] using p)]
theorem T.toVs_toTs : ∀ (t : List T), T.plains t = true → V.toTs (T.toVs t) = t
  | [], _ => rfl
  | t :: ts, p => by
    simp only [T.plains, Bool.and_eq_true] at p
    simp [T.toVs, V.toTs, T.toV_toT t p.1, T.toVs_toTs ts p.2]
end
mutual
theorem V.toT_plain : ∀ (v : V), v.plain = true → v.toT.plain = true
  | .non, _ => rfl
  | .bl _, _ => rfl
  | .int _, _ => rfl
  | .str _, _ => rfl
  | .tup ts, p => by simp [V.toT, T.plain, V.toTs_plain ts (by simpa [V.plain] using p)]
  | .lst _ vs, p => by simp [V.plain] at p
  | .fro vs, p => by simp [V.plain] at p
  | .dct _ _ vs, p => by simp [V.plain] at p
theorem V.toTs_plain : ∀ (t : List V), V.plains t = true → T.plains (V.toTs t) = true
  | [], _ => rfl
  | t :: ts, p => by
    simp only [V.plains, Bool.and_eq_true] at p
    simp [V.toTs, T.plains, V.toT_plain t p.1, V.toTs_plain ts p.2]
end
theorem V.plains_iff {vs : List V} : V.plains vs = true ↔ ∀ v ∈ vs, v.plain = true := by
  induction vs with
  | nil => simp [V.plains]
  | cons v vs ih => simp [V.plains, ih]
theorem V.frzs_map : ∀ vs : List V, V.frzs vs = vs.map V.frz
  | [] => rfl
  | v :: vs => by simp [V.frzs, V.frzs_map vs]
theorem V.toTs_map : ∀ vs : List V, V.toTs vs = vs.map V.toT
  | [] => rfl
  | v :: vs => by simp [V.toTs, V.toTs_map vs]
/-- what nothing in it may be changed but itself reads so in any such store -/
theorem Rd.flat {Z Z' : Ps} {S S' : Sto} {v : V} {F : Ps} {t : T} (p : v.flat = true) (h : Rd Z S v F t) (k : ∀ m, F m → S'[m]? = S[m]?) : Rd Z' S' v F t := by
  unfold V.flat at p
  split at p
  · obtain ⟨l, ts, e, a, b, h⟩ := h
    exact ⟨l, ts, e, a, by rw [k l a]; exact b, (Rds.plain _ p h).2⟩
  · obtain ⟨l, ts, e, a, b, c, h⟩ := h
    exact ⟨l, ts, e, a, by rw [k l a]; exact b, c, (Rds.plain _ p h).2⟩
  · exact (Rd.plain _ p h).2
theorem Rds.len {Z : Ps} {S : Sto} : ∀ {vs : List V} {F : Ps} {ts : List T}, Rds Z S vs F ts → ts.length = vs.length
  | [], _, ts, h => by
    obtain rfl : ts = [] := h
    rfl
  | v :: vs, _, _, ⟨t, ts, _, _, e, _, _, _, _, b⟩ => by rw [e]; simp [Rds.len b]
/-- the j-th, and the others with another one in its place -/
theorem Rds.focus {Z : Ps} {S : Sto} : ∀ {vs : List V} {F : Ps} {ts : List T} (j : Nat) {v : V}, Rds Z S vs F ts → vs[j]? = some v → ∃ (t : T) (F1 F2 : Ps), ts[j]? = some t ∧ (∀ m, F1 m → F m) ∧ (∀ m, F2 m → F m) ∧ (∀ m, F1 m → F2 m → False) ∧ Rd Z S v F1 t ∧
      ∀ (Z' : Ps) (S' : Sto) (F1' F' : Ps) (v' : V) (t' : T), (∀ m, Z m → Z' m) → (∀ m, F2 m ∨ Z m → S'[m]? = S[m]?) → (∀ m, F1' m → F2 m → False) → (∀ m, F1' m → F' m) → (∀ m, F2 m → F' m) → Rd Z' S' v' F1' t' → Rds Z' S' (vs.set j v') F' (ts.set j t')
  | [], _, _, _, _, _, e => by simp at e
  | v :: vs, F, _, 0, w, ⟨t, ts, F1, F2, e, f1, f2, d, a, b⟩, e2 => by
    simp only [List.getElem?_cons_zero, Option.some.injEq] at e2
    subst e2; subst e
    refine ⟨t, F1, F2, rfl, f1, f2, d, a, fun Z' S' F1' F' v' t' z k d' g1 g2 a' => ?_⟩
    exact ⟨t', ts, F1', F2, rfl, g1, g2, d', a', Rds.to vs b z k fun m h => h⟩
  | v :: vs, F, _, j + 1, w, ⟨t, ts, F1, F2, e, f1, f2, d, a, b⟩, e2 => by
    subst e
    simp only [List.getElem?_cons_succ] at e2
    obtain ⟨u, G1, G2, h1, g1, g2, gd, h2, h3⟩ := Rds.focus j b e2
    refine ⟨u, G1, fun m => F1 m ∨ G2 m, h1, fun m h => f2 m (g1 m h), fun m h => h.elim (f1 m) fun h => f2 m (g2 m h), fun m h x => x.elim (fun x => d m x (g1 m h)) (gd m h), h2, fun Z' S' F1' F' v' t' z k d' k1 k2 a' => ?_⟩
    exact ⟨t, ts.set j t', F1, fun m => F1' m ∨ G2 m, rfl, fun m h => k2 m (.inl h), fun m h => h.elim (k1 m) fun h => k2 m (.inr h), fun m h x => x.elim (fun x => d' m x (.inl h)) fun x => d m h (g2 m x), Rd.to v a z (fun m h => k m (h.imp .inl id)) fun m h => h, h3 Z' S' F1' _ v' t' z (fun m h => k m (h.imp .inr id)) (fun m x y => d' m x (.inr y)) (fun m h => .inl h) (fun m h => .inr h) a'⟩
theorem Rds.app {Z : Ps} {S : Sto} : ∀ {vs ws : List V} {F1 F2 F : Ps} {ts us : List T}, Rds Z S vs F1 ts → Rds Z S ws F2 us → (∀ m, F1 m → F m) → (∀ m, F2 m → F m) → (∀ m, F1 m → F2 m → False) → Rds Z S (vs ++ ws) F (ts ++ us)
  | [], ws, _, _, _, _, _, h, w, _, f2, _ => by
    rw [h]
    exact Rds.to ws w (fun m h => h) (fun m h => rfl) f2
  | v :: vs, ws, F1, F2, F, _, us, ⟨t, ts, G1, G2, e, f1, f2, d, a, b⟩, w, g1, g2, gd => by
    subst e
    exact ⟨t, ts ++ us, G1, fun m => G2 m ∨ F2 m, rfl, fun m h => g1 m (f1 m h), fun m h => h.elim (fun h => g1 m (f2 m h)) (g2 m), fun m x y => y.elim (d m x) (gd m (f1 m x)), a, Rds.app b w (fun m h => .inl h) (fun m h => .inr h) fun m x y => gd m (f2 m x) y⟩
theorem Rds.split {Z : Ps} {S : Sto} : ∀ {vs ws : List V} {F : Ps} {ts : List T}, Rds Z S (vs ++ ws) F ts → ∃ F1 F2 ts1 ts2, ts = ts1 ++ ts2 ∧ (∀ m, F1 m → F m) ∧ (∀ m, F2 m → F m) ∧ (∀ m, F1 m → F2 m → False) ∧ Rds Z S vs F1 ts1 ∧ Rds Z S ws F2 ts2
  | [], ws, F, ts, h => ⟨no, F, [], ts, rfl, fun m h => h.elim, fun m h => h, fun m h => h.elim, rfl, h⟩
  | v :: vs, ws, F, _, ⟨t, ts, G1, G2, e, f1, f2, d, a, b⟩ => by
    subst e
    obtain ⟨H1, H2, t1, t2, e, h1, h2, hd, x, y⟩ := Rds.split b
    refine ⟨fun m => G1 m ∨ H1 m, H2, t :: t1, t2, by rw [e]; rfl, fun m h => h.elim (f1 m) fun h => f2 m (h1 m h), fun m h => f2 m (h2 m h), fun m x y => x.elim (fun x => d m x (h2 m y)) fun x => hd m x y, ?_, y⟩
    exact ⟨t, t1, G1, H1, rfl, fun m h => .inl h, fun m h => .inr h, fun m x y => d m x (h1 m y), a, x⟩
/-- lists of which nothing may be changed: item by item -/
theorem Rds.no_iff {Z : Ps} {S : Sto} : ∀ {vs : List V} {ts : List T} {F : Ps}, Rds Z S vs no ts → Rds Z S vs F ts
  | vs, ts, F, h => Rds.to vs h (fun m h => h) (fun m h => rfl) fun m h => h.elim
/-- the slots -/
def RdS (Z : Ps) (S : Sto) : Vs → Ps → Sl → Prop
  | [], _, σ => σ = []
  | none :: vs, F, σ => ∃ o σ', σ = o :: σ' ∧ RdS Z S vs F σ'
  | some v :: vs, F, σ => ∃ t σ' F1 F2, σ = some t :: σ' ∧ (∀ m, F1 m → F m) ∧ (∀ m, F2 m → F m) ∧ (∀ m, F1 m → F2 m → False) ∧ Rd Z S v F1 t ∧ RdS Z S vs F2 σ'
theorem RdS.to {Z Z' : Ps} {S S' : Sto} : ∀ (v : Vs) {F F' : Ps} {t : Sl}, RdS Z S v F t → (∀ m, Z m → Z' m) → (∀ m, F m ∨ Z m → S'[m]? = S[m]?) → (∀ m, F m → F' m) → RdS Z' S' v F' t
  | [], _, _, _, h, _, _, _ => h
  | none :: vs, _, _, _, ⟨o, σ', e, h⟩, z, k, f => ⟨o, σ', e, RdS.to vs h z k f⟩
  | some v :: vs, F, F', _, ⟨t, ts, F1, F2, e, f1, f2, d, a, b⟩, z, k, f => ⟨t, ts, F1, F2, e, fun m h => f m (f1 m h), fun m h => f m (f2 m h), d, Rd.to v a z (fun m h => k m (h.imp (f1 m) id)) fun m h => h, RdS.to vs b z (fun m h => k m (h.imp (f2 m) id)) fun m h => h⟩
theorem RdS.len {Z : Ps} {S : Sto} : ∀ {vs : Vs} {F : Ps} {ts : Sl}, RdS Z S vs F ts → ts.length = vs.length
  | [], _, ts, h => by
    obtain rfl : ts = [] := h
    rfl
  | none :: vs, _, _, ⟨o, ts, e, b⟩ => by rw [e]; simp [RdS.len b]
  | some v :: vs, _, _, ⟨t, ts, _, _, e, _, _, _, _, b⟩ => by rw [e]; simp [RdS.len b]
theorem RdS.focus {Z : Ps} {S : Sto} : ∀ {vs : Vs} {F : Ps} {ts : Sl} (j : Nat) {v : V}, RdS Z S vs F ts → vs[j]? = some (some v) → ∃ (t : T) (F1 F2 : Ps), ts[j]? = some (some t) ∧ (∀ m, F1 m → F m) ∧ (∀ m, F2 m → F m) ∧ (∀ m, F1 m → F2 m → False) ∧ Rd Z S v F1 t ∧
      (∀ (Z' : Ps) (S' : Sto) (F1' F' : Ps) (v' : V), (∀ m, Z m → Z' m) → (∀ m, F2 m ∨ Z m → S'[m]? = S[m]?) → (∀ m, F1' m → F2 m → False) → (∀ m, F1' m → F' m) → (∀ m, F2 m → F' m) → Rd Z' S' v' F1' t → RdS Z' S' (vs.set j (some v')) F' ts) ∧
      RdS Z S (vs.set j none) F2 ts
  | [], _, _, _, _, _, e => by simp at e
  | none :: vs, F, _, 0, w, _, e2 => by simp at e2
  | some v :: vs, F, _, 0, w, ⟨t, ts, F1, F2, e, f1, f2, d, a, b⟩, e2 => by
    simp only [List.getElem?_cons_zero, Option.some.injEq] at e2
    subst e2; subst e
    refine ⟨t, F1, F2, rfl, f1, f2, d, a, fun Z' S' F1' F' v' z k d' g1 g2 a' => ?_, ⟨_, ts, rfl, b⟩⟩
    exact ⟨t, ts, F1', F2, rfl, g1, g2, d', a', RdS.to vs b z k fun m h => h⟩
  | none :: vs, F, _, j + 1, w, ⟨o, ts, e, b⟩, e2 => by
    subst e
    simp only [List.getElem?_cons_succ] at e2
    obtain ⟨u, G1, G2, h1, g1, g2, gd, h2, h3, h4⟩ := RdS.focus j b e2
    exact ⟨u, G1, G2, h1, g1, g2, gd, h2, fun Z' S' F1' F' v' z k d' k1 k2 a' => ⟨o, ts, rfl, h3 Z' S' F1' F' v' z k d' k1 k2 a'⟩, ⟨o, ts, rfl, h4⟩⟩
  | some v :: vs, F, _, j + 1, w, ⟨t, ts, F1, F2, e, f1, f2, d, a, b⟩, e2 => by
    subst e
    simp only [List.getElem?_cons_succ] at e2
    obtain ⟨u, G1, G2, h1, g1, g2, gd, h2, h3, h4⟩ := RdS.focus j b e2
    refine ⟨u, G1, fun m => F1 m ∨ G2 m, h1, fun m h => f2 m (g1 m h), fun m h => h.elim (f1 m) fun h => f2 m (g2 m h), fun m h x => x.elim (fun x => d m x (g1 m h)) (gd m h), h2, fun Z' S' F1' F' v' z k d' k1 k2 a' => ?_, ?_⟩
    · exact ⟨t, ts, F1, fun m => F1' m ∨ G2 m, rfl, fun m h => k2 m (.inl h), fun m h => h.elim (k1 m) fun h => k2 m (.inr h), fun m h x => x.elim (fun x => d' m x (.inl h)) fun x => d m h (g2 m x), Rd.to v a z (fun m h => k m (h.imp .inl id)) fun m h => h, h3 Z' S' F1' _ v' z (fun m h => k m (h.imp .inr id)) (fun m x y => d' m x (.inr y)) (fun m h => .inl h) (fun m h => .inr h) a'⟩
    · exact ⟨t, ts, F1, G2, rfl, fun m h => .inl h, fun m h => .inr h, fun m x y => d m x (g2 m y), a, h4⟩
/-- a slot is stored (what stood there may not be asked any more) -/
theorem RdS.put {Z : Ps} {S : Sto} : ∀ {vs : Vs} {F G F' : Ps} {ts : Sl} (j : Nat) {v : V} {t : T}, RdS Z S vs F ts → (∀ m, F m → F' m) → (∀ m, G m → F' m) → (∀ m, G m → F m → False) → Rd Z S v G t → RdS Z S (vs.set j (some v)) F' (ts.set j (some t))
  | [], _, _, _, _, _, _, _, h, _, _, _, _ => by rw [h]; rfl
  | none :: vs, F, G, F', _, 0, v, t, ⟨o, ts, e, b⟩, f, g, d, a => by
    subst e
    exact ⟨t, ts, G, F, rfl, g, f, d, a, b⟩
  | some w :: vs, F, G, F', _, 0, v, t, ⟨u, ts, F1, F2, e, f1, f2, d1, a1, b⟩, f, g, d, a => by
    subst e
    exact ⟨t, ts, G, F2, rfl, g, fun m h => f m (f2 m h), fun m x y => d m x (f2 m y), a, b⟩
  | none :: vs, F, G, F', _, j + 1, v, t, ⟨o, ts, e, b⟩, f, g, d, a => by
    subst e
    exact ⟨o, _, rfl, RdS.put j b f g d a⟩
  | some w :: vs, F, G, F', _, j + 1, v, t, ⟨u, ts, F1, F2, e, f1, f2, d1, a1, b⟩, f, g, d, a => by
    subst e
    exact ⟨u, _, F1, fun m => F2 m ∨ G m, rfl, fun m h => f m (f1 m h), fun m h => h.elim (fun h => f m (f2 m h)) (g m), fun m x y => y.elim (d1 m x) fun y => d m y (f1 m x), a1, RdS.put j b (fun m h => .inl h) (fun m h => .inr h) (fun m x y => d m x (f2 m y)) a⟩
theorem RdS.wipe {Z : Ps} {S : Sto} : ∀ {vs : Vs} {F : Ps} {ts : Sl} (j : Nat) (o : Option T), RdS Z S vs F ts → RdS Z S (vs.set j none) F (ts.set j o)
  | [], _, _, _, _, h => by rw [h]; rfl
  | none :: vs, F, _, 0, o', ⟨o, ts, e, b⟩ => by
    subst e
    exact ⟨o', ts, rfl, b⟩
  | some w :: vs, F, _, 0, o', ⟨u, ts, F1, F2, e, f1, f2, d1, a1, b⟩ => by
    subst e
    exact ⟨o', ts, rfl, RdS.to vs b (fun m h => h) (fun m h => rfl) f2⟩
  | none :: vs, F, _, j + 1, o', ⟨o, ts, e, b⟩ => by
    subst e
    exact ⟨o, _, rfl, RdS.wipe j o' b⟩
  | some w :: vs, F, _, j + 1, o', ⟨u, ts, F1, F2, e, f1, f2, d1, a1, b⟩ => by
    subst e
    exact ⟨u, _, F1, F2, rfl, f1, f2, d1, a1, RdS.wipe j o' b⟩
end LS
end

section
set_option Elab.async false
set_option linter.all false
set_option maxRecDepth 100000
/-! LS.VA: what the two runs keep, side by side. -/
namespace LS
open PySem (Str PyData)
structure Asn where
  p : Ps → Sto → Ps → Prop
  to : ∀ {Z Z' : Ps} {S S' : Sto} {F F' : Ps}, p Z S F → (∀ m, Z m → Z' m) → (∀ m, F m ∨ Z m → S'[m]? = S[m]?) → (∀ m, F m → F' m) → p Z' S' F'
def Asn.star (A B : Asn) : Asn := ⟨fun Z S F => ∃ F1 F2 : Ps, (∀ m, F1 m → F m) ∧ (∀ m, F2 m → F m) ∧ (∀ m, F1 m → F2 m → False) ∧ A.p Z S F1 ∧ B.p Z S F2,
  fun ⟨F1, F2, f1, f2, d, a, b⟩ z k f => ⟨F1, F2, fun m h => f m (f1 m h), fun m h => f m (f2 m h), d, A.to a z (fun m h => k m (h.imp (f1 m) id)) fun m h => h, B.to b z (fun m h => k m (h.imp (f2 m) id)) fun m h => h⟩⟩
instance : Append Asn := ⟨Asn.star⟩
def emp : Asn := ⟨fun _ _ _ => True, fun _ _ _ _ => trivial⟩
def rdAV (t : T) (v : V) : Asn := ⟨fun Z S F => Rd Z S v F t, fun h z k f => Rd.to v h z k f⟩
def rdsA (t : List T) (v : List V) : Asn := ⟨fun Z S F => Rds Z S v F t, fun h z k f => Rds.to v h z k f⟩
def slA (t : Sl) (v : Vs) : Asn := ⟨fun Z S F => RdS Z S v F t, fun h z k f => RdS.to v h z k f⟩
def xA (x : Exn) (y : VX) : Asn := ⟨fun Z S F => x.cls = y.cls ∧ Rds Z S y.args F x.args, fun h z k f => ⟨h.1, Rds.to _ h.2 z k f⟩⟩
def pureA (c : Prop) : Asn := ⟨fun _ _ _ => c, fun h _ _ _ => h⟩
structure Wf (Z : Ps) (S : Sto) (F : Ps) : Prop where
  d : ∀ m, F m → Z m → False
  f : ∀ m, F m → m < S.length
  z : ∀ m, Z m → m < S.length
theorem Wf.sub {Z : Ps} {S : Sto} {F G : Ps} (w : Wf Z S F) (g : ∀ m, G m → F m) : Wf Z S G := ⟨fun m h => w.d m (g m h), fun m h => w.f m (g m h), w.z⟩
structure Ext (Z : Ps) (S : Sto) (F : Ps) (Z' : Ps) (S' : Sto) (F' : Ps) : Prop where
  len : S.length ≤ S'.length
  fr : ∀ m, m < S.length → ¬ F m → S'[m]? = S[m]?
  zz : ∀ m, Z m → Z' m
  zn : ∀ m, Z' m → Z m ∨ F m ∨ S.length ≤ m
  fn : ∀ m, F' m → F m ∨ S.length ≤ m
  wf : Wf Z' S' F'
theorem Ext.refl {Z : Ps} {S : Sto} {F : Ps} (w : Wf Z S F) : Ext Z S F Z S F := ⟨Nat.le_refl _, fun _ _ _ => rfl, fun _ h => h, fun _ h => .inl h, fun _ h => .inl h, w⟩
theorem Ext.trans {Z Z1 Z2 : Ps} {S S1 S2 : Sto} {F F1 F2 : Ps} (a : Ext Z S F Z1 S1 F1) (b : Ext Z1 S1 F1 Z2 S2 F2) : Ext Z S F Z2 S2 F2 := by
  refine ⟨Nat.le_trans a.len b.len, fun m h n => ?_, fun m h => b.zz m (a.zz m h), fun m h => ?_, fun m h => ?_, b.wf⟩
  · rw [b.fr m (Nat.lt_of_lt_of_le h a.len) fun x => ?_]
    · exact a.fr m h n
    · rcases a.fn m x with x | x
      · exact n x
      · omega
  · rcases b.zn m h with x | x | x
    · exact a.zn m x
    · rcases a.fn m x with x | x
      · exact .inr (.inl x)
      · exact .inr (.inr x)
    · exact .inr (.inr (Nat.le_trans a.len x))
  · rcases b.fn m h with x | x
    · exact a.fn m x
    · exact .inr (Nat.le_trans a.len x)
theorem Ext.less {Z Z' : Ps} {S S' : Sto} {F F' G : Ps} (a : Ext Z S F Z' S' F') (g : ∀ m, G m → F' m) : Ext Z S F Z' S' G := ⟨a.len, a.fr, a.zz, a.zn, fun m h => a.fn m (g m h), a.wf.sub g⟩
/-- beside something else -/
theorem Ext.beside {Z Z' : Ps} {S S' : Sto} {F F1 F1' G : Ps} (w : Wf Z S F) (f1 : ∀ m, F1 m → F m) (g : ∀ m, G m → F m) (d : ∀ m, F1 m → G m → False) (a : Ext Z S F1 Z' S' F1') :
    Ext Z S F Z' S' (fun m => F1' m ∨ G m) ∧ (∀ m, F1' m → G m → False) ∧ (∀ m, G m ∨ Z m → S'[m]? = S[m]?) := by
  have dd : ∀ m, F1' m → G m → False := fun m x y => by
    rcases a.fn m x with x | x
    · exact d m x y
    · have := w.f m (g m y)
      omega
  refine ⟨⟨a.len, fun m h n => a.fr m h fun x => n (f1 m x), a.zz, fun m h => (a.zn m h).imp id (Or.imp (f1 m) id), fun m h => ?_, ?_, ?_, a.wf.z⟩, dd, fun m h => ?_⟩
  · rcases h with h | h
    · exact (a.fn m h).imp (f1 m) id
    · exact .inl (g m h)
  · intro m h z
    rcases h with h | h
    · exact a.wf.d m h z
    · rcases a.zn m z with z | z | z
      · exact w.d m (g m h) z
      · exact d m z h
      · have := w.f m (g m h)
        omega
  · intro m h
    rcases h with h | h
    · exact a.wf.f m h
    · exact Nat.lt_of_lt_of_le (w.f m (g m h)) a.len
  · rcases h with h | h
    · exact a.fr m (w.f m (g m h)) fun x => d m x h
    · exact a.fr m (w.z m h) fun x => w.d m (f1 m x) h
/-- what nothing may change stays -/
theorem Ext.keeps {Z Z' : Ps} {S S' : Sto} {F F' : Ps} (w : Wf Z S F) (a : Ext Z S F Z' S' F') (m : Nat) (h : Z m) : S'[m]? = S[m]? := a.fr m (w.z m h) fun x => w.d m x h
theorem Rds.keeps {Z Z' : Ps} {S S' : Sto} {F F' G : Ps} {vs : List V} {ts : List T} (h : Rds Z S vs no ts) (w : Wf Z S F) (a : Ext Z S F Z' S' F') : Rds Z' S' vs G ts :=
  Rds.to vs h a.zz (fun m x => x.elim (fun x => x.elim) (a.keeps w m)) fun m x => x.elim
section
variable {α α' β β' : Type}
/-- what comes of both runs -/
def Res2 (Q : α → α' → Asn) (σT : Sl) (σ' : Vs) : Except Exn α → Except VX α' → Asn
  | .ok a, .ok a' => Q a a' ++ slA σT σ'
  | .error x, .error x' => xA x x' ++ slA σT σ'
  | _, _ => pureA False
def Sim (H : Asn) (σT : Sl) (m : M α) (mV : VM α') (Q : α → α' → Asn) : Prop :=
  ∀ (σ : Vs) (r : Except VX α') (σ' : Vs), mV σ = some (r, σ') → ∀ (Z : Ps) (S : Sto) (F : Ps), Wf Z S F → (H ++ slA σT σ).p Z S F →
    ∃ (rT : Except Exn α) (S' : Sto) (Z' F' : Ps), m S = some (rT, S') ∧ Ext Z S F Z' S' F' ∧ (Res2 Q σT σ' rT r).p Z' S' F'
theorem Sim.ret {H : Asn} {σT : Sl} {a : α} {a' : α'} {Q : α → α' → Asn} (q : ∀ Z S F, Wf Z S F → H.p Z S F → (Q a a').p Z S F) : Sim H σT (ret a) (retV a') Q := by
  intro σ r σ' e Z S F w ⟨F1, F2, f1, f2, d, h, s⟩
  cases e
  exact ⟨.ok a, S, Z, F, rfl, Ext.refl w, F1, F2, f1, f2, d, q Z S F1 (w.sub f1) h, s⟩
theorem Sim.fail {H : Asn} {σT : Sl} {m : M α} {Q : α → α' → Asn} : Sim H σT m (failV : VM α') Q := by
  intro σ r σ' e
  cases e
theorem Sim.conseq {H H' : Asn} {σT : Sl} {m : M α} {mV : VM α'} {Q Q' : α → α' → Asn} (s : Sim H σT m mV Q) (h : ∀ Z S F, Wf Z S F → H'.p Z S F → H.p Z S F) (q : ∀ a a' Z S F, Wf Z S F → (Q a a').p Z S F → (Q' a a').p Z S F) : Sim H' σT m mV Q' := by
  intro σ r σ' e Z S F w ⟨F1, F2, f1, f2, d, h', s'⟩
  obtain ⟨rT, S', Z', F', e1, x, p⟩ := s σ r σ' e Z S F w ⟨F1, F2, f1, f2, d, h Z S F1 (w.sub f1) h', s'⟩
  refine ⟨rT, S', Z', F', e1, x, ?_⟩
  cases rT with
  | ok a =>
    cases r with
    | ok a' =>
      obtain ⟨F1, F2, f1, f2, d, h', s'⟩ := p
      exact ⟨F1, F2, f1, f2, d, q a a' _ _ _ (x.wf.sub f1) h', s'⟩
    | error y => exact p.elim
  | error z =>
    cases r with
    | ok a' => exact p.elim
    | error y => exact p
theorem Sim.seq {H : Asn} {σT : Sl} {m : M α} {mV : VM α'} {f : α → M β} {fV : α' → VM β'} {Q : α → α' → Asn} {R : β → β' → Asn} (s : Sim H σT m mV Q) (k : ∀ a a', Sim (Q a a') σT (f a) (fV a') R) : Sim H σT (seq m f) (seqV mV fV) R := by
  intro σ r σ' e Z S F w h
  unfold seqV at e
  split at e
  · cases e
  · rename_i x σ1 e1
    cases e
    obtain ⟨rT, S', Z', F', e2, x2, p⟩ := s _ _ _ e1 Z S F w h
    cases rT with
    | ok a => exact p.elim
    | error y => exact ⟨.error y, S', Z', F', by simp only [LS.seq, e2], x2, p⟩
  · rename_i a' σ1 e1
    obtain ⟨rT, S', Z', F', e2, x2, p⟩ := s _ _ _ e1 Z S F w h
    cases rT with
    | error y => exact p.elim
    | ok a =>
      obtain ⟨rT, S2, Z2, F2, e3, x3, p⟩ := k a a' _ _ _ e Z' S' F' x2.wf p
      exact ⟨rT, S2, Z2, F2, by simp only [LS.seq, e2]; exact e3, x2.trans x3, p⟩
/-- beside something else -/
theorem Sim.frame {H K : Asn} {σT : Sl} {m : M α} {mV : VM α'} {Q : α → α' → Asn} (s : Sim H σT m mV Q) : Sim (K ++ H) σT m mV fun a a' => K ++ Q a a' := by
  intro σ r σ' e Z S F w ⟨F1, F2, f1, f2, d, ⟨G1, G2, g1, g2, gd, hK, hH⟩, s'⟩
  have w1 : Wf Z S fun m => G2 m ∨ F2 m := w.sub fun m h => h.elim (fun h => f1 m (g2 m h)) (f2 m)
  obtain ⟨rT, S', Z', F', e1, x, p⟩ := s σ r σ' e Z S _ w1 ⟨G2, F2, fun m h => .inl h, fun m h => .inr h, fun m h x => d m (g2 m h) x, hH, s'⟩
  obtain ⟨x1, dd, kk⟩ := Ext.beside (F := F) (G := G1) w (fun m h => h.elim (fun h => f1 m (g2 m h)) (f2 m)) (fun m h => f1 m (g1 m h)) (fun m h y => h.elim (gd m y) (d m (g1 m y))) x
  refine ⟨rT, S', Z', _, e1, x1, ?_⟩
  cases rT with
  | ok a =>
    cases r with
    | ok a' =>
      obtain ⟨H1, H2, h1, h2, hd, q, sl⟩ := p
      exact ⟨fun m => G1 m ∨ H1 m, H2, fun m h => h.elim .inr fun h => .inl (h1 m h), fun m h => .inl (h2 m h), fun m h y => h.elim (dd m (h2 m y)) fun h => hd m h y, ⟨G1, H1, fun m h => .inl h, fun m h => .inr h, fun m h y => dd m (h1 m y) h, K.to hK x.zz kk fun m h => h, q⟩, sl⟩
    | error y => exact p.elim
  | error z =>
    cases r with
    | ok a' => exact p.elim
    | error y => exact (xA z y ++ slA σT σ').to p (fun m h => h) (fun m h => rfl) fun m h => .inl h
theorem Sim.emp' {H : Asn} {σT : Sl} {m : M α} {mV : VM α'} {Q : α → α' → Asn} (s : Sim emp σT m mV Q) : Sim H σT m mV fun a a' => H ++ Q a a' :=
  (Sim.frame (K := H) s).conseq (fun Z S F w h => ⟨F, no, fun m h => h, fun m h => h.elim, fun m h x => x, h, trivial⟩) fun a a' Z S F w h => h
theorem Sim.emp'' {H : Asn} {σT : Sl} {m : M α} {mV : VM α'} {Q : α → α' → Asn} (s : Sim emp σT m mV Q) : Sim H σT m mV Q := s.conseq (fun Z S F w h => trivial) fun a a' Z S F w h => h
/-- an operation that says no more than a value -/
theorem Sim.opt {H : Asn} {σT : Sl} {m : M α} {o : Option α'} {Q : α → α' → Asn} (q : ∀ a', o = some a' → ∀ Z S F, Wf Z S F → H.p Z S F → ∃ a S' F', m S = some (.ok a, S') ∧ Ext Z S F Z S' F' ∧ (Q a a').p Z S' F') : Sim H σT m (optV o) Q := by
  intro σ r σ' e Z S F w ⟨F1, F2, f1, f2, d, h, s⟩
  unfold optV at e
  split at e
  · cases e
    rename_i a'
    obtain ⟨a, S', F', e1, x, q⟩ := q a' rfl Z S F1 (w.sub f1) h
    obtain ⟨x1, dd, kk⟩ := Ext.beside (F := F) (G := F2) w f1 f2 d x
    exact ⟨.ok a, S', Z, _, e1, x1, F', F2, fun m h => .inl h, fun m h => .inr h, dd, q, (slA σT _).to s (fun m h => h) kk fun m h => h⟩
  · cases e
/-- .. and changes nothing -/
theorem Sim.optP {H : Asn} {σT : Sl} {m : M α} {o : Option α'} {Q : α → α' → Asn} (q : ∀ a', o = some a' → ∀ Z S F, Wf Z S F → H.p Z S F → ∃ a, m S = some (.ok a, S) ∧ (Q a a').p Z S F) : Sim H σT m (optV o) Q :=
  Sim.opt fun a' e Z S F w h => by
    obtain ⟨a, e1, q⟩ := q a' e Z S F w h
    exact ⟨a, S, F, e1, Ext.refl w, q⟩
theorem Ext.new {Z : Ps} {S : Sto} {F : Ps} (w : Wf Z S F) (c : Cell) : Ext Z S F Z (S ++ [c]) (fun m => F m ∨ m = S.length) := by
  refine ⟨by simp, fun m h n => List.getElem?_append_left h, fun m h => h, fun m h => .inl h, fun m h => h.imp id fun h => by omega, fun m h z => ?_, fun m h => ?_, fun m h => ?_⟩
  · rcases h with h | h
    · exact w.d m h z
    · have := w.z m z
      omega
  · rcases h with h | h
    · have := w.f m h
      simp
      omega
    · simp
      omega
  · have := w.z m h
    simp
    omega
/-- a new list -/
theorem newL {Z : Ps} {S : Sto} {F : Ps} {vs : List V} {ts : List T} (w : Wf Z S F) (h : Rds Z S vs F ts) : Rd Z (S ++ [.lst ts]) (.lst true vs) (fun m => F m ∨ m = S.length) (.ref S.length) := by
  refine ⟨S.length, ts, rfl, .inr rfl, by simp, Rds.to vs h (fun m h => h) (fun m h => ?_) fun m h => ⟨.inl h, ?_⟩⟩
  · rw [List.getElem?_append_left]
    rcases h with h | h
    · exact w.f m h
    · exact w.z m h
  · have := w.f m h
    omega
theorem newD {Z : Ps} {S : Sto} {F : Ps} {vs : List V} {tk : Bool} {kvs : List (T × T)} (w : Wf Z S F) (kk : keysV vs = true) (h : Rds Z S vs F (kvs.map kvT)) : Rd Z (S ++ [.dct tk kvs]) (.dct true tk vs) (fun m => F m ∨ m = S.length) (.ref S.length) := by
  refine ⟨S.length, kvs, rfl, .inr rfl, by simp, kk, Rds.to vs h (fun m h => h) (fun m h => ?_) fun m h => ⟨.inl h, ?_⟩⟩
  · rw [List.getElem?_append_left]
    rcases h with h | h
    · exact w.f m h
    · exact w.z m h
  · have := w.f m h
    omega
theorem Sim.newL {H : Asn} {σT : Sl} {vs : List V} {ts : List T} (q : ∀ Z S F, Wf Z S F → H.p Z S F → Rds Z S vs F ts) : Sim H σT (new (.lst ts)) (retV (V.lst true vs)) rdAV := by
  intro σ r σ' e Z S F w ⟨F1, F2, f1, f2, d, h, s⟩
  cases e
  have x := Ext.new (w.sub f1) (.lst ts)
  obtain ⟨x1, dd, kk⟩ := Ext.beside (F := F) (G := F2) w f1 f2 d x
  exact ⟨.ok (.ref S.length), _, Z, _, rfl, x1, _, F2, fun m h => .inl h, fun m h => .inr h, dd, LS.newL (w.sub f1) (q Z S F1 (w.sub f1) h), (slA σT _).to s (fun m h => h) kk fun m h => h⟩
/-- no exception goes out of it -/
theorem Sim.calm {H : Asn} {σT : Sl} {m : M α} {mV : VM α'} {Q : α → α' → Asn} (s : Sim H σT m mV Q) : Sim H σT (calmly m) (calmV mV) Q := by
  intro σ r σ' e Z S F w h
  unfold calmV at e
  split at e
  · cases e
    rename_i a' e1
    obtain ⟨rT, S', Z', F', e2, x2, p⟩ := s _ _ _ e1 Z S F w h
    cases rT with
    | error y => exact p.elim
    | ok a => exact ⟨.ok a, S', Z', F', by simp only [calmly, e2], x2, p⟩
  · cases e
theorem Sim.onB {H : Asn} {σT : Sl} {t : T} {v : V} {a b : M α} {a' b' : VM α'} {Q : α → α' → Asn} (x : Sim emp σT a a' Q) (y : Sim emp σT b b' Q) : Sim (rdAV t v) σT (onB t a b) (onV v a' b') Q := by
  intro σ r σ' e Z S F w h
  obtain ⟨F1, F2, f1, f2, d, h, s⟩ := h
  unfold onV at e
  split at e
  · obtain rfl : t = .bl true := h
    exact x σ r σ' e Z S F w ⟨F1, F2, f1, f2, d, trivial, s⟩
  · obtain rfl : t = .bl false := h
    exact y σ r σ' e Z S F w ⟨F1, F2, f1, f2, d, trivial, s⟩
  · cases e
end
end LS
end

section
set_option Elab.async false
set_option linter.all false
set_option maxRecDepth 100000
set_option maxHeartbeats 4000000
/-! LS.VP: the operations, side by side. -/
namespace LS
open PySem (Str PyData)
section
variable {Z : Ps} {S : Sto} {F : Ps}
theorem Rds.nil_inv {ts : List T} (h : Rds Z S [] F ts) : ts = [] := h
theorem Rds.cons_inv {ts : List T} {v : V} {vs : List V} (h : Rds Z S (v :: vs) no ts) : ∃ t ts', ts = t :: ts' ∧ Rd Z S v no t ∧ Rds Z S vs no ts' := by
  obtain ⟨t, ts', F1, F2, e, f1, f2, d, a, b⟩ := h
  exact ⟨t, ts', e, Rd.to v a (fun m h => h) (fun m h => rfl) f1, Rds.to vs b (fun m h => h) (fun m h => rfl) f2⟩
theorem Rds.cons_mk {t : T} {ts : List T} {v : V} {vs : List V} (a : Rd Z S v no t) (b : Rds Z S vs no ts) : Rds Z S (v :: vs) F (t :: ts) := ⟨t, ts, no, no, rfl, fun m h => h.elim, fun m h => h.elim, fun m h => h.elim, a, b⟩
theorem Rds.one {ts : List T} {v : V} (h : Rds Z S [v] no ts) : ∃ t, ts = [t] ∧ Rd Z S v no t := by
  obtain ⟨t, ts', e, a, b⟩ := h.cons_inv
  exact ⟨t, by rw [e, b.nil_inv], a⟩
theorem Rds.two {ts : List T} {v w : V} (h : Rds Z S [v, w] no ts) : ∃ t u, ts = [t, u] ∧ Rd Z S v no t ∧ Rd Z S w no u := by
  obtain ⟨t, ts', e, a, b⟩ := h.cons_inv
  obtain ⟨u, rfl, b'⟩ := b.one
  exact ⟨t, u, e, a, b'⟩
theorem Rds.three {ts : List T} {v w x : V} (h : Rds Z S [v, w, x] no ts) : ∃ t u y, ts = [t, u, y] ∧ Rd Z S v no t ∧ Rd Z S w no u ∧ Rd Z S x no y := by
  obtain ⟨t, ts', e, a, b⟩ := h.cons_inv
  obtain ⟨u, y, rfl, b', c⟩ := b.two
  exact ⟨t, u, y, e, a, b', c⟩
mutual
theorem Rd.data : ∀ (n : Nat) (v : V) {F : Ps} {t : T}, Rd Z S v F t → T.data S n t = V.data n v
  | n, .non, _, t, h => by obtain rfl : t = .non := h; cases n <;> rfl
  | n, .bl _, _, t, h => by obtain rfl : t = .bl _ := h; cases n <;> rfl
  | n, .int _, _, t, h => by obtain rfl : t = .int _ := h; cases n <;> rfl
  | n, .str _, _, t, h => by obtain rfl : t = .str _ := h; cases n <;> rfl
  | 0, .tup vs, _, _, ⟨ts, e, h⟩ => by subst e; rfl
  | n + 1, .tup vs, _, _, ⟨ts, e, h⟩ => by subst e; simp only [T.data, V.data, Rds.data n vs h]
  | 0, .lst true vs, _, _, ⟨l, ts, e, a, b, h⟩ => by subst e; rfl
  | n + 1, .lst true vs, _, _, ⟨l, ts, e, a, b, h⟩ => by subst e; simp only [T.data, V.data, b, Rds.data n vs h]
  | 0, .lst false vs, _, _, ⟨l, ts, e, a, b, h⟩ => by subst e; rfl
  | n + 1, .lst false vs, _, _, ⟨l, ts, e, a, b, h⟩ => by subst e; simp only [T.data, V.data, b, Rds.data n vs h]
  | 0, .fro vs, _, _, ⟨l, ts, e, a, b, h⟩ => by subst e; rfl
  | n + 1, .fro vs, _, _, ⟨l, ts, e, a, b, h⟩ => by subst e; simp only [T.data, V.data, b, Rds.data n vs h]
  | 0, .dct true tk vs, _, _, ⟨l, ts, e, a, b, _, h⟩ => by subst e; rfl
  | n + 1, .dct true tk vs, _, _, ⟨l, ts, e, a, b, _, h⟩ => by subst e; simp only [T.data, V.data, b]
  | 0, .dct false tk vs, _, _, ⟨l, ts, e, a, b, _, h⟩ => by subst e; rfl
  | n + 1, .dct false tk vs, _, _, ⟨l, ts, e, a, b, _, h⟩ => by subst e; simp only [T.data, V.data, b]
theorem Rds.data : ∀ (n : Nat) (v : List V) {F : Ps} {t : List T}, Rds Z S v F t → optAll (T.data S n) t = optAll (V.data n) v
  | n, [], _, t, h => by rw [h.nil_inv]; rfl
  | n, v :: vs, _, _, ⟨t, ts, _, _, e, _, _, _, a, b⟩ => by subst e; simp only [optAll, Rd.data n v a, Rds.data n vs b]
end
theorem Rds.get {vs : List V} {ts : List T} {j : Nat} {v : V} (h : Rds Z S vs no ts) (e : vs[j]? = some v) : ∃ t, ts[j]? = some t ∧ Rd Z S v no t := by
  obtain ⟨t, F1, F2, e1, f1, f2, d, a, _⟩ := h.focus j e
  exact ⟨t, e1, Rd.to v a (fun m h => h) (fun m h => rfl) f1⟩
theorem Rds.get_none {vs : List V} {F : Ps} {ts : List T} {j : Nat} (h : Rds Z S vs F ts) (e : vs[j]? = none) : ts[j]? = none := by
  rw [List.getElem?_eq_none_iff] at e ⊢
  rw [h.len]
  exact e
theorem Rds.take : ∀ {vs : List V} {ts : List T} (n : Nat), Rds Z S vs no ts → Rds Z S (vs.take n) no (ts.take n)
  | _, _, 0, h => by simp [Rds]
  | [], ts, n + 1, h => by rw [h.nil_inv]; simp [Rds]
  | v :: vs, ts, n + 1, h => by
    obtain ⟨t, ts', rfl, a, b⟩ := h.cons_inv
    exact .cons_mk a (b.take n)
theorem Rds.drop : ∀ {vs : List V} {ts : List T} (n : Nat), Rds Z S vs no ts → Rds Z S (vs.drop n) no (ts.drop n)
  | _, _, 0, h => by simpa using h
  | [], ts, n + 1, h => by rw [h.nil_inv]; simp [Rds]
  | v :: vs, ts, n + 1, h => by
    obtain ⟨t, ts', rfl, a, b⟩ := h.cons_inv
    exact b.drop n
theorem Rds.rev : ∀ {vs : List V} {ts : List T}, Rds Z S vs no ts → Rds Z S vs.reverse no ts.reverse
  | [], ts, h => by rw [h.nil_inv]; simp [Rds]
  | v :: vs, ts, h => by
    obtain ⟨t, ts', rfl, a, b⟩ := h.cons_inv
    simp only [List.reverse_cons]
    exact b.rev.app (.cons_mk a (F := no) (show Rds Z S [] no [] from rfl)) (fun m h => h) (fun m h => h) fun m h => h.elim
theorem Rds.flat : ∀ (n : Nat) {vs : List V} {ts : List T}, Rds Z S vs no ts → Rds Z S (List.replicate n vs).flatten no (List.replicate n ts).flatten
  | 0, _, _, h => by simp [Rds]
  | n + 1, vs, ts, h => by
    simp only [List.replicate_succ, List.flatten_cons]
    exact h.app (Rds.flat n h) (fun m h => h) (fun m h => h) fun m h => h.elim
/-- a key -/
theorem Rd.key {v : V} {F : Ps} {t : T} {tk : Bool} (h : Rd Z S v F t) (k : keyV tk v = true) : t = v.toT ∧ keyOk tk t = true ∧ v.plain = true := by
  simp only [keyV, Bool.and_eq_true] at k
  have := (Rd.plain (Z' := Z) (S' := S) (F' := F) v k.1 h).1
  exact ⟨this, by rw [this]; exact k.2, k.1⟩
theorem Rd.pair {v w : V} {F : Ps} {p : T × T} (h : Rd Z S (.tup [v, w]) F (kvT p)) (k : v.plain = true) : p.1 = v.toT ∧ Rd Z S w F p.2 := by
  obtain ⟨ts, e, h⟩ := h
  obtain ⟨t, ts', F1, F2, e1, f1, f2, d, a, h⟩ := h
  obtain ⟨u, ts'', G1, G2, e2, g1, g2, gd, b, h⟩ := h
  obtain rfl : ts'' = [] := h
  subst e2; subst e1
  simp only [kvT, T.tup.injEq, List.cons.injEq, and_true] at e
  rw [e.1, e.2]
  exact ⟨(Rd.plain (Z' := Z) (S' := S) (F' := no) v k a).1, Rd.to w b (fun m h => h) (fun m h => rfl) fun m h => f2 m (g1 m h)⟩
theorem keysV_cons {v : V} {vs : List V} (h : keysV (v :: vs) = true) : ∃ k x, v = .tup [k, x] ∧ k.plain = true ∧ keysV vs = true := by
  unfold keysV at h
  split at h
  · rename_i heq
    cases heq
  · rename_i heq
    cases heq
    simp only [Bool.and_eq_true] at h
    exact ⟨_, _, rfl, h.1, h.2⟩
  · cases h
theorem Rds.look {k : V} (kp : k.plain = true) : ∀ {vs : List V} {kvs : List (T × T)}, keysV vs = true → Rds Z S vs no (kvs.map kvT) → (∀ v, lookV vs k = some v → ∃ t, dLook kvs k.toT = some t ∧ Rd Z S v no t) ∧ (lookV vs k = none → dLook kvs k.toT = none)
  | [], kvs, _, h => by
    have := h.nil_inv
    simp only [List.map_eq_nil_iff] at this
    subst this
    simp [lookV, dLook]
  | v :: vs, kvs, ks, h => by
    obtain ⟨k', x, rfl, kp', ks⟩ := keysV_cons ks
    cases kvs with
    | nil => obtain ⟨t, ts', e, _⟩ := h.cons_inv; simp at e
    | cons p kvs =>
      obtain ⟨t, ts', e, a, b⟩ := h.cons_inv
      simp only [List.map_cons, List.cons.injEq] at e
      obtain ⟨rfl, rfl⟩ := e
      obtain ⟨e1, a'⟩ := a.pair kp'
      have ih := Rds.look kp ks b
      obtain ⟨p1, p2⟩ := p
      simp only at e1 a'
      subst e1
      simp only [lookV, dLook, sameV, decide_eq_true_eq]
      split
      · exact ⟨fun v e => by cases e; exact ⟨p2, rfl, a'⟩, fun e => by cases e⟩
      · exact ih
theorem Rds.look_isSome {k : V} (kp : k.plain = true) {vs : List V} {kvs : List (T × T)} (ks : keysV vs = true) (h : Rds Z S vs no (kvs.map kvT)) : (dLook kvs k.toT).isSome = (lookV vs k).isSome := by
  have := h.look kp ks
  cases e : lookV vs k with
  | none => rw [this.2 e]; rfl
  | some v => obtain ⟨t, e1, _⟩ := this.1 v e; rw [e1]; rfl
theorem Rds.bools : ∀ {vs : List V} {F : Ps} {ts : List T} {bs}, Rds Z S vs F ts → boolsV vs = some bs → boolsOf ts = some bs
  | [], _, ts, bs, h, e => by rw [h.nil_inv]; exact e
  | v :: vs, _, _, bs, ⟨t, ts, F1, F2, e1, f1, f2, d, a, b⟩, e => by
    subst e1
    cases v <;> simp only [boolsV] at e <;> try cases e
    rename_i c
    obtain rfl : t = .bl c := a
    obtain ⟨bs', e2, e3⟩ := Option.map_eq_some_iff.mp e
    simp only [boolsOf, Rds.bools b e2, Option.map_some, e3]
theorem Rds.ints' : ∀ {vs : List V} {F : Ps} {ts : List T} {bs}, Rds Z S vs F ts → intsV vs = some bs → intsOf ts = some bs
  | [], _, ts, bs, h, e => by rw [h.nil_inv]; exact e
  | v :: vs, _, _, bs, ⟨t, ts, F1, F2, e1, f1, f2, d, a, b⟩, e => by
    subst e1
    cases v <;> simp only [intsV] at e <;> try cases e
    rename_i c
    obtain rfl : t = .int c := a
    obtain ⟨bs', e2, e3⟩ := Option.map_eq_some_iff.mp e
    simp only [intsOf, Rds.ints' b e2, Option.map_some, e3]
theorem Rds.strs : ∀ {vs : List V} {F : Ps} {ts : List T} {bs}, Rds Z S vs F ts → strsV vs = some bs → strsOf ts = some bs
  | [], _, ts, bs, h, e => by rw [h.nil_inv]; exact e
  | v :: vs, _, _, bs, ⟨t, ts, F1, F2, e1, f1, f2, d, a, b⟩, e => by
    subst e1
    cases v <;> simp only [strsV] at e <;> try cases e
    rename_i c
    obtain rfl : t = .str c := a
    obtain ⟨bs', e2, e3⟩ := Option.map_eq_some_iff.mp e
    simp only [strsOf, Rds.strs b e2, Option.map_some, e3]
theorem Rds.fmts : ∀ {vs : List V} {F : Ps} {ts : List T} {bs}, Rds Z S vs F ts → fmtV vs = some bs → fmtOf ts = some bs
  | [], _, ts, bs, h, e => by rw [h.nil_inv]; exact e
  | v :: vs, _, _, bs, ⟨t, ts, F1, F2, e1, f1, f2, d, a, b⟩, e => by
    subst e1
    cases v <;> simp only [fmtV] at e <;> try cases e
    · rename_i c
      obtain rfl : t = .int c := a
      split at e
      · rename_i hc
        obtain ⟨bs', e2, e3⟩ := Option.map_eq_some_iff.mp e
        simp only [fmtOf, Rds.fmts b e2, Option.map_some, e3, hc, if_true]
      · cases e
    · rename_i c
      obtain rfl : t = .str c := a
      obtain ⟨bs', e2, e3⟩ := Option.map_eq_some_iff.mp e
      simp only [fmtOf, Rds.fmts b e2, Option.map_some, e3]
theorem Rds.bounds {n : Nat} {a b : Bool} : ∀ {vs : List V} {ts : List T} {p}, Rds Z S vs no ts → boundsV n a b vs = some p → bounds n a b ts = some p := by
  intro vs ts p h e
  unfold boundsV at e
  split at e
  · obtain ⟨t, u, rfl, x, y⟩ := h.two
    obtain rfl : t = .int _ := x
    obtain rfl : u = .int _ := y
    exact e
  · obtain ⟨t, rfl, x⟩ := h.one
    obtain rfl : t = .int _ := x
    exact e
  · obtain ⟨t, rfl, x⟩ := h.one
    obtain rfl : t = .int _ := x
    exact e
  · rw [h.nil_inv]
    exact e
  · cases e
theorem itemsOf_okV {v : V} {F : Ps} {t : T} {xs : List V} (h : Rd Z S v F t) (e : itemsV v = some xs) : ∃ ts G, itemsOf t S = some (.ok ts, S) ∧ (∀ m, G m → F m) ∧ Rds Z S xs G ts := by
  unfold itemsV at e
  split at e <;> cases e
  · obtain ⟨ts, rfl, h⟩ := h
    exact ⟨ts, _, rfl, fun m h => h, h⟩
  · rename_i o
    cases o with
    | true =>
      obtain ⟨l, ts, rfl, a, b, h⟩ := h
      exact ⟨ts, _, by simp only [itemsOf, listAt, b], fun m h => h.1, h⟩
    | false =>
      obtain ⟨l, ts, rfl, a, b, h⟩ := h
      exact ⟨ts, _, by simp only [itemsOf, listAt, b], fun m h => h.elim, h⟩
  · obtain ⟨l, ts, rfl, a, b, h⟩ := h
    exact ⟨ts, _, by simp only [itemsOf, listAt, b], fun m h => h.elim, h⟩
/-- sorting -/
theorem Rds.zipAll : ∀ {vs : List V} {ts : List T} {γ : Type} {ds : List γ}, Rds Z S vs no ts → ds.length = vs.length → ∃ L : List ((T × V) × γ), ts.zip ds = L.map (fun x => (x.1.1, x.2)) ∧ vs.zip ds = L.map (fun x => (x.1.2, x.2)) ∧ ∀ x ∈ L, Rd Z S x.1.2 no x.1.1
  | [], ts, γ, ds, h, e => ⟨[], by rw [h.nil_inv]; simp, by simp, by simp⟩
  | v :: vs, ts, γ, [], h, e => by simp at e
  | v :: vs, ts, γ, d :: ds, h, e => by
    obtain ⟨t, ts', rfl, a, b⟩ := h.cons_inv
    obtain ⟨L, h1, h2, h3⟩ := Rds.zipAll (ds := ds) b (by simpa using e)
    refine ⟨((t, v), d) :: L, by simp [h1], by simp [h2], fun x hx => ?_⟩
    rcases List.mem_cons.mp hx with rfl | hx
    · exact a
    · exact h3 x hx
theorem Rds.ofAll : ∀ (L : List (T × V)), (∀ x ∈ L, Rd Z S x.2 no x.1) → Rds Z S (L.map (·.2)) no (L.map (·.1))
  | [], _ => rfl
  | x :: L, h => .cons_mk (h x (by simp)) (Rds.ofAll L fun y hy => h y (by simp [hy]))
theorem optAll_lenV {α β : Type} {f : α → Option β} : ∀ {xs : List α} {ys : List β}, optAll f xs = some ys → ys.length = xs.length
  | [], ys, e => by cases e; rfl
  | x :: xs, ys, e => by
    unfold optAll at e
    split at e
    · split at e
      · rename_i e2
        cases e
        simp [optAll_lenV e2]
      · cases e
    · cases e
theorem Rds.sort {vs ws : List V} {ts : List T} (h : Rds Z S vs no ts) (e : sortV vs = some ws) : ∃ us, sortT S ts = some us ∧ Rds Z S ws no us := by
  unfold sortV at e
  split at e
  · rename_i ds ed
    split at e
    · rename_i c
      cases e
      have hd : optAll (T.data S deep) ts = some ds := by rw [h.data]; exact ed
      obtain ⟨L, h1, h2, h3⟩ := h.zipAll (ds := ds) (optAll_lenV ed)
      refine ⟨_, by unfold sortT; rw [hd]; simp only [c, if_true]; rfl, ?_⟩
      have m1 : (ts.zip ds).mergeSort (PySem.W.dataLe false fun p : T × PyData => p.2) = (L.mergeSort (PySem.W.dataLe false fun p => p.2)).map (fun x => (x.1.1, x.2)) := by
        rw [h1]
        exact (List.map_mergeSort (f := fun x : (T × V) × PyData => (x.1.1, x.2)) (r := PySem.W.dataLe false fun p : (T × V) × PyData => p.2) fun a _ b _ => rfl).symm
      have m2 : (vs.zip ds).mergeSort (PySem.W.dataLe false fun p : V × PyData => p.2) = (L.mergeSort (PySem.W.dataLe false fun p => p.2)).map (fun x => (x.1.2, x.2)) := by
        rw [h2]
        exact (List.map_mergeSort (f := fun x : (T × V) × PyData => (x.1.2, x.2)) (r := PySem.W.dataLe false fun p : (T × V) × PyData => p.2) fun a _ b _ => rfl).symm
      rw [m1, m2]
      have := Rds.ofAll (Z := Z) (S := S) ((L.mergeSort (PySem.W.dataLe false fun p => p.2)).map (·.1)) fun x hx => by
        obtain ⟨y, hy, rfl⟩ := List.mem_map.mp hx
        exact h3 y (List.mem_mergeSort.mp hy)
      simpa [List.map_map, Function.comp_def] using this
    · cases e
  · cases e
theorem Rds.all_plain {vs : List V} {F : Ps} {ts : List T} (h : Rds Z S vs F ts) (p : vs.all (fun x => x.plain && x.isTup) = true) : ts = vs.map V.toT ∧ ts.all (fun x => T.plain x && x.isTup) = true := by
  have hp : V.plains vs = true := V.plains_iff.mpr fun v hv => by
    have := List.all_eq_true.mp p v hv
    simp only [Bool.and_eq_true] at this
    exact this.1
  have e := (Rds.plain (Z' := Z) (S' := S) (F' := F) vs hp h).1
  rw [V.toTs_map] at e
  refine ⟨e, ?_⟩
  rw [e, List.all_map, List.all_eq_true]
  intro v hv
  have := List.all_eq_true.mp p v hv
  simp only [Bool.and_eq_true] at this
  simp only [Function.comp_apply, Bool.and_eq_true, V.toT_plain v this.1, true_and]
  have h2 := this.2
  cases v <;> simp [V.isTup] at h2 <;> rfl
theorem firsts_map : ∀ (vs acc : List V), (vs.map V.toT).foldl (fun acc x => if acc.any fun y => T.norm y = T.norm x then acc else acc ++ [x]) (acc.map V.toT) = (vs.foldl (fun acc x => if acc.any fun y => sameV y x then acc else acc ++ [x]) acc).map V.toT
  | [], acc => rfl
  | v :: vs, acc => by
    simp only [List.map_cons, List.foldl_cons]
    have e : ((acc.map V.toT).any fun y => decide (T.norm y = T.norm v.toT)) = acc.any fun y => sameV y v := by
      rw [List.any_map]
      rfl
    rw [e]
    split
    · exact firsts_map vs acc
    · have := firsts_map vs (acc ++ [v])
      simpa using this
theorem firstsV_sub : ∀ (vs acc : List V), ∀ x ∈ vs.foldl (fun acc x => if acc.any fun y => sameV y x then acc else acc ++ [x]) acc, x ∈ acc ∨ x ∈ vs
  | [], acc, x, h => .inl h
  | v :: vs, acc, x, h => by
    simp only [List.foldl_cons] at h
    rcases firstsV_sub vs _ x h with h | h
    · split at h
      · exact .inl h
      · rcases List.mem_append.mp h with h | h
        · exact .inl h
        · exact .inr (by simp only [List.mem_singleton] at h; subst h; simp)
    · exact .inr (by simp [h])
end
/-- what an operation brings about -/
def PR (Z : Ps) (S : Sto) (m : M T) (r : V) : Prop := ∃ t S' F', m S = some (.ok t, S') ∧ Ext Z S no Z S' F' ∧ Rd Z S' r F' t
section
variable {Z : Ps} {S : Sto} {r : V}
theorem PR.ret {t : T} (w : Wf Z S no) (h : Rd Z S r no t) : PR Z S (ret t) r := ⟨t, S, no, rfl, Ext.refl w, h⟩
theorem PR.seq {α : Type} {m : M α} {f : α → M T} {a : α} (e : m S = some (.ok a, S)) (p : PR Z S (f a) r) : PR Z S (seq m f) r := by
  obtain ⟨t, S', F', e2, x, h⟩ := p
  exact ⟨t, S', F', by simp only [LS.seq, e, e2], x, h⟩
theorem PR.opt {α : Type} {o : Option α} {f : α → M T} {a : α} (e : o = some a) (p : PR Z S (f a) r) : PR Z S (LS.seq (opt o) f) r := .seq (by rw [e]; rfl) p
theorem PR.opt1 {o : Option T} {t : T} (w : Wf Z S no) (e : o = some t) (h : Rd Z S r no t) : PR Z S (LS.opt o) r := ⟨t, S, no, by rw [e]; rfl, Ext.refl w, h⟩
theorem PR.when {c : Bool} {m : M T} (e : c = true) (p : PR Z S m r) : PR Z S (when_ c m) r := by
  subst e
  exact p
theorem PR.new {ts : List T} {vs : List V} (w : Wf Z S no) (h : Rds Z S vs no ts) : PR Z S (new (.lst ts)) (.lst true vs) := ⟨_, _, _, rfl, Ext.new w _, newL w h⟩
theorem PR.at {m m' : M T} (e : m S = m' S) (p : PR Z S m' r) : PR Z S m r := by
  obtain ⟨t, S', F', e2, x, h⟩ := p
  exact ⟨t, S', F', by rw [e, e2], x, h⟩
theorem whenO_some {α : Type} {c : Bool} {o : Option α} {a : α} (e : whenO c o = some a) : c = true ∧ o = some a := by
  unfold whenO at e
  cases c with
  | true => exact ⟨rfl, e⟩
  | false => cases e
theorem Rd.lstF {vs : List V} {t : T} {o : Bool} (h : Rd Z S (.lst o vs) no t) : ∃ l ts, t = .ref l ∧ S[l]? = some (.lst ts) ∧ Rds Z S vs no ts := by
  cases o with
  | true => obtain ⟨l, ts, _, a, _⟩ := h; exact a.elim
  | false => obtain ⟨l, ts, e, a, b, c⟩ := h; exact ⟨l, ts, e, b, c⟩
theorem Rd.dctF {vs : List V} {t : T} {o tk : Bool} (h : Rd Z S (.dct o tk vs) no t) : ∃ l kvs, t = .ref l ∧ S[l]? = some (.dct tk kvs) ∧ keysV vs = true ∧ Rds Z S vs no (kvs.map kvT) := by
  cases o with
  | true => obtain ⟨l, ts, _, a, _⟩ := h; exact a.elim
  | false => obtain ⟨l, ts, e, a, b, c, d⟩ := h; exact ⟨l, ts, e, b, c, d⟩
theorem dataOf_okV {v : V} {t : T} {F : Ps} {d : PyData} (h : Rd Z S v F t) (e : V.data deep v = some d) : dataOf t S = some (.ok d, S) := by
  simp only [dataOf, h.data, e]
theorem eqV2_some {a b : V} {c : Bool} (e : eqV2 a b = some c) : ∃ x y, V.data deep a = some x ∧ V.data deep b = some y ∧ c = PyData.eqv x y := by
  unfold eqV2 at e
  split at e
  · rename_i x y e1 e2
    cases e
    exact ⟨x, y, e1, e2, rfl⟩
  · cases e
theorem anyV_some {a : V} {ys : List V} {c : Bool} (e : anyV a ys = some c) : ∃ x ds, V.data deep a = some x ∧ optAll (V.data 59) ys = some ds ∧ c = ds.any fun y => PyData.eqv y x := by
  unfold anyV at e
  split at e
  · rename_i x y e1 e2
    cases e
    exact ⟨x, y, e1, e2, rfl⟩
  · cases e
theorem isin_gen {a : V} {ys : List V} {t : T} {us : List T} {c : Bool} {f : Bool → Bool} (w : Wf Z S no) (ha : Rd Z S a no t) (hb : Rds Z S ys no us) (e : anyV a ys = some c) :
    PR Z S (LS.seq (dataOf t) fun x => LS.seq (dataOf (.tup us)) fun d => match d with
      | .tuple ds => ret (.bl (f (ds.any fun y => PyData.eqv y x)))
      | _ => fail) (.bl (f c)) := by
  obtain ⟨x, ds, e1, e2, rfl⟩ := anyV_some e
  refine .seq (dataOf_okV ha e1) (.seq (a := .tuple ds) ?_ (.ret w rfl))
  simp only [dataOf, deep, T.data, hb.data, e2, Option.map_some]
theorem ix_getV {vs : List V} {ts : List T} {i : Int} {v : V} (h : Rds Z S vs no ts) (e : atV vs i = some v) : ∃ t, ((ixN ts.length i).bind fun k => ts[k]?) = some t ∧ Rd Z S v no t := by
  unfold atV at e
  rw [h.len]
  obtain ⟨k, e1, e2⟩ := Option.bind_eq_some_iff.mp e
  obtain ⟨t, e3, e4⟩ := h.get e2
  exact ⟨t, by rw [e1]; exact e3, e4⟩
end
end LS
end

section
set_option Elab.async false
set_option linter.all false
set_option maxRecDepth 100000
set_option maxHeartbeats 4000000
/-! LS.VQ: each operation. -/
namespace LS
open PySem (Str PyData)
theorem vAdd_ok {Z : Ps} {S : Sto} {vs : List V} {r : V} {ts : List T} (w : Wf Z S no) (h : Rds Z S vs no ts) (e : vAdd vs = some r) : PR Z S (prim (.add) ts) r := by
  unfold vAdd at e
  split at e
  · -- add
    obtain ⟨t, u, rfl, a, b⟩ := h.two
    obtain rfl : t = .int _ := a
    obtain rfl : u = .int _ := b
    cases e
    exact .ret w rfl
  · obtain ⟨t, u, rfl, a, b⟩ := h.two
    obtain rfl : t = .str _ := a
    obtain rfl : u = .str _ := b
    obtain ⟨c, e⟩ := whenO_some e
    cases e
    exact .when c (.ret w rfl)
  · obtain ⟨t, u, rfl, a, b⟩ := h.two
    obtain ⟨ta, rfl, a⟩ := a
    obtain ⟨tb, rfl, b⟩ := b
    obtain ⟨c, e⟩ := whenO_some e
    cases e
    rw [← a.len, ← b.len] at c
    exact .when c (.ret w ⟨_, rfl, a.app b (fun m h => h) (fun m h => h) fun m h => h.elim⟩)
  · obtain ⟨t, u, rfl, a, b⟩ := h.two
    obtain ⟨l, ta, rfl, ea, a⟩ := a.lstF
    obtain ⟨m, tb, rfl, eb, b⟩ := b.lstF
    obtain ⟨c, e⟩ := whenO_some e
    cases e
    rw [← a.len, ← b.len] at c
    exact .seq (a := ta) (by simp only [lstAt, ea]) (.seq (a := tb) (by simp only [lstAt, eb]) (.when c (.new w (a.app b (fun m h => h) (fun m h => h) fun m h => h.elim))))
  · cases e
theorem vSub_ok {Z : Ps} {S : Sto} {vs : List V} {r : V} {ts : List T} (w : Wf Z S no) (h : Rds Z S vs no ts) (e : vSub vs = some r) : PR Z S (prim (.sub) ts) r := by
  unfold vSub at e
  split at e
  · -- sub
    obtain ⟨t, u, rfl, a, b⟩ := h.two
    obtain rfl : t = .int _ := a
    obtain rfl : u = .int _ := b
    cases e
    exact .ret w rfl
  · cases e
theorem vMul_ok {Z : Ps} {S : Sto} {vs : List V} {r : V} {ts : List T} (w : Wf Z S no) (h : Rds Z S vs no ts) (e : vMul vs = some r) : PR Z S (prim (.mul) ts) r := by
  unfold vMul at e
  split at e
  · -- mul
    obtain ⟨t, u, rfl, a, b⟩ := h.two
    obtain rfl : t = .int _ := a
    obtain rfl : u = .int _ := b
    obtain ⟨c, e⟩ := whenO_some e
    cases e
    exact .when c (.ret w rfl)
  · obtain ⟨t, u, rfl, a, b⟩ := h.two
    obtain ⟨ta, rfl, a⟩ := a
    obtain rfl : u = .int _ := b
    obtain ⟨c, e⟩ := whenO_some e
    cases e
    rw [← a.len] at c
    exact .when c (.ret w ⟨_, rfl, a.flat _⟩)
  · obtain ⟨t, u, rfl, a, b⟩ := h.two
    obtain ⟨l, ta, rfl, ea, a⟩ := a.lstF
    obtain rfl : u = .int _ := b
    obtain ⟨c, e⟩ := whenO_some e
    cases e
    rw [← a.len] at c
    exact .seq (a := ta) (by simp only [lstAt, ea]) (.when c (.new w (a.flat _)))
  · cases e
theorem vFdiv_ok {Z : Ps} {S : Sto} {vs : List V} {r : V} {ts : List T} (w : Wf Z S no) (h : Rds Z S vs no ts) (e : vFdiv vs = some r) : PR Z S (prim (.fdiv) ts) r := by
  unfold vFdiv at e
  split at e
  · -- fdiv
    obtain ⟨t, u, rfl, a, b⟩ := h.two
    obtain rfl : t = .int _ := a
    obtain rfl : u = .int _ := b
    obtain ⟨c, e⟩ := whenO_some e
    cases e
    exact .when c (.ret w rfl)
  · cases e
theorem vMod_ok {Z : Ps} {S : Sto} {vs : List V} {r : V} {ts : List T} (w : Wf Z S no) (h : Rds Z S vs no ts) (e : vMod vs = some r) : PR Z S (prim (.mod) ts) r := by
  unfold vMod at e
  split at e
  · -- mod
    obtain ⟨t, u, rfl, a, b⟩ := h.two
    obtain rfl : t = .int _ := a
    obtain rfl : u = .int _ := b
    obtain ⟨c, e⟩ := whenO_some e
    cases e
    exact .when c (.ret w rfl)
  · cases e
theorem vPow_ok {Z : Ps} {S : Sto} {vs : List V} {r : V} {ts : List T} (w : Wf Z S no) (h : Rds Z S vs no ts) (e : vPow vs = some r) : PR Z S (prim (.pow) ts) r := by
  unfold vPow at e
  split at e
  · -- pow
    obtain ⟨t, u, rfl, a, b⟩ := h.two
    obtain rfl : t = .int _ := a
    obtain rfl : u = .int _ := b
    obtain ⟨c, e⟩ := whenO_some e
    cases e
    exact .when c (.ret w rfl)
  · cases e
theorem vNeg_ok {Z : Ps} {S : Sto} {vs : List V} {r : V} {ts : List T} (w : Wf Z S no) (h : Rds Z S vs no ts) (e : vNeg vs = some r) : PR Z S (prim (.neg) ts) r := by
  unfold vNeg at e
  split at e
  · -- neg
    obtain ⟨t, rfl, a⟩ := h.one
    obtain rfl : t = .int _ := a
    cases e
    exact .ret w rfl
  · cases e
theorem vEq_ok {Z : Ps} {S : Sto} {vs : List V} {r : V} {ts : List T} (w : Wf Z S no) (h : Rds Z S vs no ts) (e : vEq vs = some r) : PR Z S (prim (.eq) ts) r := by
  unfold vEq at e
  split at e
  · -- eq
    obtain ⟨t, u, rfl, a, b⟩ := h.two
    obtain ⟨c, e1, rfl⟩ := Option.map_eq_some_iff.mp e
    obtain ⟨x, y, e3, e2, rfl⟩ := eqV2_some e1
    exact .seq (dataOf_okV a e3) (.seq (dataOf_okV b e2) (.ret w rfl))
  · cases e
theorem vNe_ok {Z : Ps} {S : Sto} {vs : List V} {r : V} {ts : List T} (w : Wf Z S no) (h : Rds Z S vs no ts) (e : vNe vs = some r) : PR Z S (prim (.ne) ts) r := by
  unfold vNe at e
  split at e
  · obtain ⟨t, u, rfl, a, b⟩ := h.two
    obtain ⟨c, e1, rfl⟩ := Option.map_eq_some_iff.mp e
    obtain ⟨x, y, e3, e2, rfl⟩ := eqV2_some e1
    exact .seq (dataOf_okV a e3) (.seq (dataOf_okV b e2) (.ret w rfl))
  · cases e
theorem vIsNone_ok {Z : Ps} {S : Sto} {vs : List V} {r : V} {ts : List T} (w : Wf Z S no) (h : Rds Z S vs no ts) (e : vIsNone vs = some r) : PR Z S (prim (.isNone) ts) r := by
  unfold vIsNone at e
  split at e
  · -- isNone
    rename_i v
    obtain ⟨t, rfl, a⟩ := h.one
    cases e
    refine .ret w ?_
    cases v with
    | non => obtain rfl : t = .non := a; rfl
    | bl _ => obtain rfl : t = .bl _ := a; rfl
    | int _ => obtain rfl : t = .int _ := a; rfl
    | str _ => obtain rfl : t = .str _ := a; rfl
    | tup _ => obtain ⟨ts, rfl, _⟩ := a; rfl
    | lst o _ => obtain ⟨l, ts, rfl, _⟩ := a.lstF; rfl
    | fro _ => obtain ⟨l, ts, rfl, _⟩ := a; rfl
    | dct o _ _ => obtain ⟨l, ts, rfl, _⟩ := a.dctF; rfl
  · cases e
theorem vNotNone_ok {Z : Ps} {S : Sto} {vs : List V} {r : V} {ts : List T} (w : Wf Z S no) (h : Rds Z S vs no ts) (e : vNotNone vs = some r) : PR Z S (prim (.notNone) ts) r := by
  unfold vNotNone at e
  split at e
  · rename_i v
    obtain ⟨t, rfl, a⟩ := h.one
    cases e
    refine .ret w ?_
    cases v with
    | non => obtain rfl : t = .non := a; rfl
    | bl _ => obtain rfl : t = .bl _ := a; rfl
    | int _ => obtain rfl : t = .int _ := a; rfl
    | str _ => obtain rfl : t = .str _ := a; rfl
    | tup _ => obtain ⟨ts, rfl, _⟩ := a; rfl
    | lst o _ => obtain ⟨l, ts, rfl, _⟩ := a.lstF; rfl
    | fro _ => obtain ⟨l, ts, rfl, _⟩ := a; rfl
    | dct o _ _ => obtain ⟨l, ts, rfl, _⟩ := a.dctF; rfl
  · cases e
theorem vIsin_ok {Z : Ps} {S : Sto} {vs : List V} {r : V} {ts : List T} (w : Wf Z S no) (h : Rds Z S vs no ts) (e : vIsin vs = some r) : PR Z S (prim (.isin) ts) r := by
  unfold vIsin at e
  split at e
  · -- isin
    obtain ⟨t, u, rfl, a, b⟩ := h.two
    obtain rfl : t = .str _ := a
    obtain rfl : u = .str _ := b
    cases e
    exact .ret w rfl
  · obtain ⟨t, u, rfl, a, b⟩ := h.two
    obtain ⟨tb, rfl, b⟩ := b
    obtain ⟨c, e1, rfl⟩ := Option.map_eq_some_iff.mp e
    refine .at ?_ (isin_gen (f := id) w a b e1)
    cases t with
    | str s => rcases s with _ | ⟨c, _ | ⟨d, r⟩⟩ <;> rfl
    | _ => rfl
  · obtain ⟨t, u, rfl, a, b⟩ := h.two
    obtain ⟨l, tb, rfl, eb, b⟩ := b.lstF
    obtain ⟨c, e1, rfl⟩ := Option.map_eq_some_iff.mp e
    refine .at ?_ (isin_gen (f := id) w a b e1)
    cases t with
    | str s => rcases s with _ | ⟨c, _ | ⟨d, r⟩⟩ <;> (simp only [prim, pIsin, eb, id] <;> rfl)
    | _ => (simp only [prim, pIsin, eb, id] <;> rfl)
  · obtain ⟨t, u, rfl, a, b⟩ := h.two
    obtain ⟨l, tb, rfl, eb, ks, b⟩ := b.dctF
    obtain ⟨c, e⟩ := whenO_some e
    cases e
    obtain ⟨k1, k2, k3⟩ := a.key c
    refine .at (m' := when_ (keyOk _ t) (ret (.bl (dLook tb t).isSome))) ?_ (.when k2 (.ret w ?_))
    · clear k1 k2 a h
      cases t with
      | str s => rcases s with _ | ⟨c, _ | ⟨d, r⟩⟩ <;> (simp only [prim, pIsin, eb] <;> rfl)
      | _ => (simp only [prim, pIsin, eb] <;> rfl)
    · rw [k1, b.look_isSome k3 ks]
      rfl
  · cases e
theorem vNotin_ok {Z : Ps} {S : Sto} {vs : List V} {r : V} {ts : List T} (w : Wf Z S no) (h : Rds Z S vs no ts) (e : vNotin vs = some r) : PR Z S (prim (.notin) ts) r := by
  unfold vNotin at e
  split at e
  · -- notin
    obtain ⟨t, u, rfl, a, b⟩ := h.two
    obtain rfl : t = .str _ := a
    obtain rfl : u = .str _ := b
    cases e
    exact .ret w rfl
  · obtain ⟨t, u, rfl, a, b⟩ := h.two
    obtain ⟨tb, rfl, b⟩ := b
    obtain ⟨c, e1, rfl⟩ := Option.map_eq_some_iff.mp e
    refine .at ?_ (isin_gen (f := not) w a b e1)
    cases t with
    | str s => rcases s with _ | ⟨c, _ | ⟨d, r⟩⟩ <;> rfl
    | _ => rfl
  · obtain ⟨t, u, rfl, a, b⟩ := h.two
    obtain ⟨l, tb, rfl, eb, b⟩ := b.lstF
    obtain ⟨c, e1, rfl⟩ := Option.map_eq_some_iff.mp e
    refine .at ?_ (isin_gen (f := not) w a b e1)
    cases t with
    | str s => rcases s with _ | ⟨c, _ | ⟨d, r⟩⟩ <;> (simp only [prim, pNotin, eb] <;> rfl)
    | _ => (simp only [prim, pNotin, eb] <;> rfl)
  · obtain ⟨t, u, rfl, a, b⟩ := h.two
    obtain ⟨l, tb, rfl, eb, ks, b⟩ := b.dctF
    obtain ⟨c, e⟩ := whenO_some e
    cases e
    obtain ⟨k1, k2, k3⟩ := a.key c
    refine .at (m' := when_ (keyOk _ t) (ret (.bl (!(dLook tb t).isSome)))) ?_ (.when k2 (.ret w ?_))
    · clear k1 k2 a h
      cases t with
      | str s => rcases s with _ | ⟨c, _ | ⟨d, r⟩⟩ <;> (simp only [prim, pNotin, eb] <;> rfl)
      | _ => (simp only [prim, pNotin, eb] <;> rfl)
    · rw [k1, b.look_isSome k3 ks]
      rfl
  · cases e
theorem vGet_ok {Z : Ps} {S : Sto} {vs : List V} {r : V} {ts : List T} (w : Wf Z S no) (h : Rds Z S vs no ts) (e : vGet vs = some r) : PR Z S (prim (.get) ts) r := by
  unfold vGet at e
  split at e
  · -- get
    obtain ⟨t, u, rfl, a, b⟩ := h.two
    obtain ⟨ta, rfl, a⟩ := a
    obtain rfl : u = .int _ := b
    obtain ⟨t, e1, h1⟩ := ix_getV a e
    exact .opt1 w e1 h1
  · obtain ⟨t, u, rfl, a, b⟩ := h.two
    obtain rfl : t = .str _ := a
    obtain rfl : u = .int _ := b
    obtain ⟨c, e⟩ := whenO_some e
    obtain ⟨d, e1, rfl⟩ := Option.map_eq_some_iff.mp e
    refine .when c (.opt1 (t := .str [d]) w ?_ rfl)
    obtain ⟨k, e2, e3⟩ := Option.bind_eq_some_iff.mp e1
    rw [e2]
    simp only [Option.bind_some, e3, Option.map_some]
  · obtain ⟨t, u, rfl, a, b⟩ := h.two
    obtain ⟨l, ta, rfl, ea, a⟩ := a.lstF
    obtain rfl : u = .int _ := b
    obtain ⟨t, e1, h1⟩ := ix_getV a e
    exact .at (m' := LS.opt _) (by simp only [prim, pGet, ea] <;> rfl) (.opt1 w e1 h1)
  · obtain ⟨t, u, rfl, a, b⟩ := h.two
    obtain ⟨l, ta, rfl, _, ea, a⟩ := a
    obtain rfl : u = .int _ := b
    obtain ⟨t, e1, h1⟩ := ix_getV a e
    exact .at (m' := LS.opt _) (by simp only [prim, pGet, ea] <;> rfl) (.opt1 w e1 h1)
  · obtain ⟨t, u, rfl, a, b⟩ := h.two
    obtain ⟨l, ta, rfl, ea, ks, a⟩ := a.dctF
    obtain ⟨c, e⟩ := whenO_some e
    obtain ⟨k1, k2, k3⟩ := b.key c
    subst k1
    obtain ⟨x, e1, h1⟩ := (a.look k3 ks).1 _ e
    exact .at (m' := when_ _ (LS.opt _)) (by simp only [prim, pGet, ea] <;> rfl) (.when k2 (.opt1 w e1 h1))
  · cases e
theorem vSlc_ok {Z : Ps} {S : Sto} {x y : Bool} {vs : List V} {r : V} {ts : List T} (w : Wf Z S no) (h : Rds Z S vs no ts) (e : vSlc x y vs = some r) : PR Z S (prim (.slc x y) ts) r := by
  unfold vSlc at e
  split at e
  · -- slc
    obtain ⟨t, us, rfl, a, b⟩ := h.cons_inv
    obtain ⟨ta, rfl, a⟩ := a
    obtain ⟨q, e1, rfl⟩ := Option.map_eq_some_iff.mp e
    refine .opt1 w (t := .tup (cutL ta q.1 q.2)) ?_ ⟨_, rfl, (a.take _).drop _⟩
    rw [a.len, b.bounds e1]
    rfl
  · obtain ⟨t, us, rfl, a, b⟩ := h.cons_inv
    obtain rfl : t = .str _ := a
    obtain ⟨c, e⟩ := whenO_some e
    obtain ⟨q, e1, rfl⟩ := Option.map_eq_some_iff.mp e
    refine .when c (.opt1 w (t := .str (cutL _ q.1 q.2)) ?_ rfl)
    rw [b.bounds e1]
    rfl
  · obtain ⟨t, us, rfl, a, b⟩ := h.cons_inv
    obtain ⟨l, ta, rfl, ea, a⟩ := a.lstF
    obtain ⟨q, e1, rfl⟩ := Option.map_eq_some_iff.mp e
    refine .seq (a := ta) (by simp only [listAt, ea]) (.opt (a := q) ?_ (.new w ((a.take _).drop _)))
    rw [a.len, b.bounds e1]
  · obtain ⟨t, us, rfl, a, b⟩ := h.cons_inv
    obtain ⟨l, ta, rfl, _, ea, a⟩ := a
    obtain ⟨q, e1, rfl⟩ := Option.map_eq_some_iff.mp e
    refine .seq (a := ta) (by simp only [listAt, ea]) (.opt (a := q) ?_ (.new w ((a.take _).drop _)))
    rw [a.len, b.bounds e1]
  · cases e
theorem vRev_ok {Z : Ps} {S : Sto} {vs : List V} {r : V} {ts : List T} (w : Wf Z S no) (h : Rds Z S vs no ts) (e : vRev vs = some r) : PR Z S (prim (.rev) ts) r := by
  unfold vRev at e
  split at e
  · -- rev
    obtain ⟨t, rfl, a⟩ := h.one
    obtain ⟨ta, rfl, a⟩ := a
    cases e
    exact .ret w ⟨_, rfl, a.rev⟩
  · obtain ⟨t, rfl, a⟩ := h.one
    obtain ⟨l, ta, rfl, ea, a⟩ := a.lstF
    cases e
    exact .seq (a := ta) (by simp only [lstAt, ea]) (.new w a.rev)
  · cases e
theorem vLen_ok {Z : Ps} {S : Sto} {vs : List V} {r : V} {ts : List T} (w : Wf Z S no) (h : Rds Z S vs no ts) (e : vLen vs = some r) : PR Z S (prim (.len) ts) r := by
  unfold vLen at e
  split at e
  · -- len
    obtain ⟨t, rfl, a⟩ := h.one
    obtain ⟨ta, rfl, a⟩ := a
    cases e
    rw [← a.len]
    exact .ret w rfl
  · obtain ⟨t, rfl, a⟩ := h.one
    obtain rfl : t = .str _ := a
    obtain ⟨c, e⟩ := whenO_some e
    cases e
    exact .when c (.ret w rfl)
  · obtain ⟨t, rfl, a⟩ := h.one
    obtain ⟨l, ta, rfl, ea, a⟩ := a.lstF
    cases e
    rw [← a.len]
    exact .at (m' := ret _) (by simp only [prim, pLen, ea] <;> rfl) (.ret w rfl)
  · obtain ⟨t, rfl, a⟩ := h.one
    obtain ⟨l, ta, rfl, _, ea, a⟩ := a
    cases e
    rw [← a.len]
    exact .at (m' := ret _) (by simp only [prim, pLen, ea] <;> rfl) (.ret w rfl)
  · obtain ⟨t, rfl, a⟩ := h.one
    obtain ⟨l, ta, rfl, ea, _, a⟩ := a.dctF
    cases e
    rw [← a.len, List.length_map]
    exact .at (m' := ret _) (by simp only [prim, pLen, ea] <;> rfl) (.ret w rfl)
  · cases e
theorem vTuple_ok {Z : Ps} {S : Sto} {vs : List V} {r : V} {ts : List T} (w : Wf Z S no) (h : Rds Z S vs no ts) (e : vTuple vs = some r) : PR Z S (prim (.tuple) ts) r := by
  unfold vTuple at e
  split at e
  · -- tuple
    obtain ⟨t, rfl, a⟩ := h.one
    obtain ⟨ta, rfl, a⟩ := a
    cases e
    exact .ret w ⟨_, rfl, a⟩
  · obtain ⟨t, rfl, a⟩ := h.one
    obtain ⟨l, ta, rfl, ea, a⟩ := a.lstF
    cases e
    exact .seq (a := ta) (by simp only [listAt, ea]) (.ret w ⟨_, rfl, a⟩)
  · cases e
theorem vList_ok {Z : Ps} {S : Sto} {vs : List V} {r : V} {ts : List T} (w : Wf Z S no) (h : Rds Z S vs no ts) (e : vList vs = some r) : PR Z S (prim (.list) ts) r := by
  unfold vList at e
  split at e
  · -- list
    obtain ⟨t, rfl, a⟩ := h.one
    obtain ⟨ta, rfl, a⟩ := a
    cases e
    exact .new w a
  · obtain ⟨t, rfl, a⟩ := h.one
    obtain ⟨l, ta, rfl, ea, a⟩ := a.lstF
    cases e
    exact .seq (a := ta) (by simp only [listAt, ea]) (.new w a)
  · cases e
theorem vSorted_ok {Z : Ps} {S : Sto} {vs : List V} {r : V} {ts : List T} (w : Wf Z S no) (h : Rds Z S vs no ts) (e : vSorted vs = some r) : PR Z S (prim (.sorted) ts) r := by
  unfold vSorted at e
  split at e
  · -- sorted
    obtain ⟨t, rfl, a⟩ := h.one
    obtain ⟨l, ta, rfl, ea, a⟩ := a.lstF
    obtain ⟨ys, e1, rfl⟩ := Option.map_eq_some_iff.mp e
    obtain ⟨us, e2, h2⟩ := a.sort e1
    exact .seq (a := ta) (by simp only [lstAt, ea]) (.at (m' := new _) (by simp only [sortM, e2] <;> rfl) (.new w h2))
  · cases e
theorem vSortedSet_ok {Z : Ps} {S : Sto} {vs : List V} {r : V} {ts : List T} (w : Wf Z S no) (h : Rds Z S vs no ts) (e : vSortedSet vs = some r) : PR Z S (prim (.sortedSet) ts) r := by
  unfold vSortedSet at e
  split at e
  · -- sortedSet
    obtain ⟨t, rfl, a⟩ := h.one
    obtain ⟨xs, e1, e⟩ := Option.bind_eq_some_iff.mp e
    obtain ⟨c, e⟩ := whenO_some e
    obtain ⟨ys, e2, rfl⟩ := Option.map_eq_some_iff.mp e
    obtain ⟨ts, G, e3, g, h3⟩ := itemsOf_okV a e1
    obtain ⟨rfl, c'⟩ := h3.all_plain c
    have ef : firsts (xs.map V.toT) = (firstsV xs).map V.toT := firsts_map xs []
    have pl : V.plains (firstsV xs) = true := V.plains_iff.mpr fun v hv => by
      rcases firstsV_sub xs [] v hv with h | h
      · exact absurd h (by simp)
      · have := List.all_eq_true.mp c v h
        simp only [Bool.and_eq_true] at this
        exact this.1
    have hf : Rds Z S (firstsV xs) no (firsts (xs.map V.toT)) := by
      rw [ef, ← V.toTs_map]
      exact Rds.ofPlain _ pl
    obtain ⟨us, e4, h4⟩ := hf.sort e2
    exact .seq e3 (.when c' (.at (m' := new _) (by simp only [e4] <;> rfl) (.new w h4)))
  · cases e
theorem vLenSet_ok {Z : Ps} {S : Sto} {vs : List V} {r : V} {ts : List T} (w : Wf Z S no) (h : Rds Z S vs no ts) (e : vLenSet vs = some r) : PR Z S (prim (.lenSet) ts) r := by
  unfold vLenSet at e
  split at e
  · obtain ⟨t, rfl, a⟩ := h.one
    obtain ⟨xs, e1, e⟩ := Option.bind_eq_some_iff.mp e
    obtain ⟨c, e⟩ := whenO_some e
    cases e
    obtain ⟨ts, G, e3, g, h3⟩ := itemsOf_okV a e1
    obtain ⟨rfl, c'⟩ := h3.all_plain c
    have ef : firsts (xs.map V.toT) = (firstsV xs).map V.toT := firsts_map xs []
    refine .seq e3 (.when c' (.ret w ?_))
    rw [ef, List.length_map]
    rfl
  · cases e
theorem vRepr_ok {Z : Ps} {S : Sto} {vs : List V} {r : V} {ts : List T} (w : Wf Z S no) (h : Rds Z S vs no ts) (e : vRepr vs = some r) : PR Z S (prim (.repr) ts) r := by
  unfold vRepr at e
  split at e
  · -- repr
    obtain ⟨t, rfl, a⟩ := h.one
    obtain ⟨z, e1, rfl⟩ := Option.map_eq_some_iff.mp e
    obtain ⟨d, e1, e2⟩ := Option.bind_eq_some_iff.mp e1
    have hd := dataOf_okV a e1
    obtain ⟨ta, rfl, a⟩ := a
    exact .seq hd (.opt e2 (.ret w rfl))
  · obtain ⟨t, rfl, a⟩ := h.one
    obtain ⟨z, e1, rfl⟩ := Option.map_eq_some_iff.mp e
    obtain ⟨d, e1, e2⟩ := Option.bind_eq_some_iff.mp e1
    have hd := dataOf_okV a e1
    obtain ⟨l, ta, rfl, a⟩ := a.lstF
    exact .seq hd (.opt e2 (.ret w rfl))
  · cases e
theorem vStr_ok {Z : Ps} {S : Sto} {vs : List V} {r : V} {ts : List T} (w : Wf Z S no) (h : Rds Z S vs no ts) (e : vStr vs = some r) : PR Z S (prim (.str) ts) r := by
  unfold vStr at e
  split at e
  · -- str
    obtain ⟨t, rfl, a⟩ := h.one
    obtain rfl : t = .int _ := a
    obtain ⟨c, e⟩ := whenO_some e
    cases e
    exact .when c (.ret w rfl)
  · cases e
theorem vIntOf_ok {Z : Ps} {S : Sto} {vs : List V} {r : V} {ts : List T} (w : Wf Z S no) (h : Rds Z S vs no ts) (e : vIntOf vs = some r) : PR Z S (prim (.intOf) ts) r := by
  unfold vIntOf at e
  split at e
  · obtain ⟨t, rfl, a⟩ := h.one
    obtain rfl : t = .int _ := a
    cases e
    exact .ret w rfl
  · obtain ⟨t, rfl, a⟩ := h.one
    obtain rfl : t = .bl _ := a
    cases e
    exact .ret w rfl
  · cases e
theorem vAbs_ok {Z : Ps} {S : Sto} {vs : List V} {r : V} {ts : List T} (w : Wf Z S no) (h : Rds Z S vs no ts) (e : vAbs vs = some r) : PR Z S (prim (.abs) ts) r := by
  unfold vAbs at e
  split at e
  · obtain ⟨t, rfl, a⟩ := h.one
    obtain rfl : t = .int _ := a
    cases e
    exact .ret w rfl
  · cases e
theorem vMax2_ok {Z : Ps} {S : Sto} {vs : List V} {r : V} {ts : List T} (w : Wf Z S no) (h : Rds Z S vs no ts) (e : vMax2 vs = some r) : PR Z S (prim (.max2) ts) r := by
  unfold vMax2 at e
  split at e
  · obtain ⟨t, u, rfl, a, b⟩ := h.two
    obtain rfl : t = .int _ := a
    obtain rfl : u = .int _ := b
    cases e
    exact .ret w rfl
  · cases e
theorem vMin2_ok {Z : Ps} {S : Sto} {vs : List V} {r : V} {ts : List T} (w : Wf Z S no) (h : Rds Z S vs no ts) (e : vMin2 vs = some r) : PR Z S (prim (.min2) ts) r := by
  unfold vMin2 at e
  split at e
  · obtain ⟨t, u, rfl, a, b⟩ := h.two
    obtain rfl : t = .int _ := a
    obtain rfl : u = .int _ := b
    cases e
    exact .ret w rfl
  · cases e
theorem vMax1_ok {Z : Ps} {S : Sto} {vs : List V} {r : V} {ts : List T} (w : Wf Z S no) (h : Rds Z S vs no ts) (e : vMax1 vs = some r) : PR Z S (prim (.max1) ts) r := by
  unfold vMax1 at e
  split at e
  · -- max
    obtain ⟨t, rfl, a⟩ := h.one
    obtain ⟨is, e1, e⟩ := Option.bind_eq_some_iff.mp e
    obtain ⟨xs, e1, e2⟩ := Option.bind_eq_some_iff.mp e1
    obtain ⟨ts, G, e3, g, h3⟩ := itemsOf_okV a e1
    refine .seq e3 (.opt (h3.ints' e2) ?_)
    cases is with
    | nil => cases e
    | cons i r => cases e; exact .ret w rfl
  · cases e
theorem vMin1_ok {Z : Ps} {S : Sto} {vs : List V} {r : V} {ts : List T} (w : Wf Z S no) (h : Rds Z S vs no ts) (e : vMin1 vs = some r) : PR Z S (prim (.min1) ts) r := by
  unfold vMin1 at e
  split at e
  · obtain ⟨t, rfl, a⟩ := h.one
    obtain ⟨is, e1, e⟩ := Option.bind_eq_some_iff.mp e
    obtain ⟨xs, e1, e2⟩ := Option.bind_eq_some_iff.mp e1
    obtain ⟨ts, G, e3, g, h3⟩ := itemsOf_okV a e1
    refine .seq e3 (.opt (h3.ints' e2) ?_)
    cases is with
    | nil => cases e
    | cons i r => cases e; exact .ret w rfl
  · cases e
theorem vAll_ok {Z : Ps} {S : Sto} {vs : List V} {r : V} {ts : List T} (w : Wf Z S no) (h : Rds Z S vs no ts) (e : vAll vs = some r) : PR Z S (prim (.all) ts) r := by
  unfold vAll at e
  split at e
  · -- all
    obtain ⟨t, rfl, a⟩ := h.one
    obtain ⟨l, ta, rfl, ea, a⟩ := a.lstF
    obtain ⟨bs, e1, rfl⟩ := Option.map_eq_some_iff.mp e
    exact .seq (a := ta) (by simp only [lstAt, ea]) (.opt (a.bools e1) (.ret w rfl))
  · cases e
theorem vAny_ok {Z : Ps} {S : Sto} {vs : List V} {r : V} {ts : List T} (w : Wf Z S no) (h : Rds Z S vs no ts) (e : vAny vs = some r) : PR Z S (prim (.any) ts) r := by
  unfold vAny at e
  split at e
  · obtain ⟨t, rfl, a⟩ := h.one
    obtain ⟨l, ta, rfl, ea, a⟩ := a.lstF
    obtain ⟨bs, e1, rfl⟩ := Option.map_eq_some_iff.mp e
    exact .seq (a := ta) (by simp only [lstAt, ea]) (.opt (a.bools e1) (.ret w rfl))
  · cases e
theorem vIsa_ok {Z : Ps} {S : Sto} {x : Ty} {vs : List V} {r : V} {ts : List T} (w : Wf Z S no) (h : Rds Z S vs no ts) (e : vIsa x vs = some r) : PR Z S (prim (.isa x) ts) r := by
  unfold vIsa at e
  split at e
  · -- isa
    rename_i v
    obtain ⟨t, rfl, a⟩ := h.one
    obtain ⟨c, e1, rfl⟩ := Option.map_eq_some_iff.mp e
    refine .seq (a := c) ?_ (.ret w rfl)
    cases v with
    | non => obtain rfl : t = .non := a; cases x <;> cases e1 <;> rfl
    | bl _ => obtain rfl : t = .bl _ := a; cases x <;> cases e1 <;> rfl
    | int _ => obtain rfl : t = .int _ := a; cases x <;> cases e1 <;> rfl
    | str _ => obtain rfl : t = .str _ := a; cases x <;> cases e1 <;> rfl
    | tup _ => obtain ⟨ts, rfl, _⟩ := a; cases x <;> cases e1 <;> rfl
    | lst o _ => obtain ⟨l, ts, rfl, ea, _⟩ := a.lstF; cases x <;> cases e1 <;> simp only [isaT, ea]
    | fro _ => cases x <;> cases e1
    | dct o _ _ => obtain ⟨l, ts, rfl, ea, _⟩ := a.dctF; cases x <;> cases e1 <;> simp only [isaT, ea]
  · cases e
theorem vGet1_ok {Z : Ps} {S : Sto} {vs : List V} {r : V} {ts : List T} (w : Wf Z S no) (h : Rds Z S vs no ts) (e : vGet1 vs = some r) : PR Z S (prim (.get1) ts) r := by
  unfold vGet1 at e
  split at e
  · -- get1
    obtain ⟨t, u, rfl, a, b⟩ := h.two
    obtain ⟨l, ta, rfl, ea, ks, a⟩ := a.dctF
    obtain ⟨c, e⟩ := whenO_some e
    cases e
    obtain ⟨k1, k2, k3⟩ := b.key c
    subst k1
    refine .seq (a := (_, ta)) (by simp only [dctAt, ea]) (.when k2 (.ret w ?_))
    cases el : lookV _ _ with
    | none => rw [(a.look k3 ks).2 el]; rfl
    | some x => obtain ⟨y, e2, h2⟩ := (a.look k3 ks).1 _ el; rw [e2]; exact h2
  · cases e
theorem vGet2_ok {Z : Ps} {S : Sto} {vs : List V} {r : V} {ts : List T} (w : Wf Z S no) (h : Rds Z S vs no ts) (e : vGet2 vs = some r) : PR Z S (prim (.get2) ts) r := by
  unfold vGet2 at e
  split at e
  · obtain ⟨t, u, y, rfl, a, b, d⟩ := h.three
    obtain ⟨l, ta, rfl, ea, ks, a⟩ := a.dctF
    obtain ⟨c, e⟩ := whenO_some e
    cases e
    obtain ⟨k1, k2, k3⟩ := b.key c
    subst k1
    refine .seq (a := (_, ta)) (by simp only [dctAt, ea]) (.when k2 (.ret w ?_))
    cases el : lookV _ _ with
    | none => rw [(a.look k3 ks).2 el]; exact d
    | some x => obtain ⟨y, e2, h2⟩ := (a.look k3 ks).1 _ el; rw [e2]; exact h2
  · cases e
theorem vJoin_ok {Z : Ps} {S : Sto} {vs : List V} {r : V} {ts : List T} (w : Wf Z S no) (h : Rds Z S vs no ts) (e : vJoin vs = some r) : PR Z S (prim (.join) ts) r := by
  unfold vJoin at e
  split at e
  · -- join
    obtain ⟨t, u, rfl, a, b⟩ := h.two
    obtain rfl : t = .str _ := a
    obtain ⟨ss, e1, e⟩ := Option.bind_eq_some_iff.mp e
    obtain ⟨xs, e1, e2⟩ := Option.bind_eq_some_iff.mp e1
    obtain ⟨c, e⟩ := whenO_some e
    cases e
    obtain ⟨ts, G, e3, g, h3⟩ := itemsOf_okV b e1
    exact .seq e3 (.opt (h3.strs e2) (.when c (.ret w rfl)))
  · cases e
theorem vFmt_ok {Z : Ps} {S : Sto} {vs : List V} {r : V} {ts : List T} (w : Wf Z S no) (h : Rds Z S vs no ts) (e : vFmt vs = some r) : PR Z S (prim (.fmt) ts) r := by
  unfold vFmt at e
  -- fmt
  obtain ⟨z, e1, e⟩ := Option.bind_eq_some_iff.mp e
  obtain ⟨c, e⟩ := whenO_some e
  cases e
  exact .opt (h.fmts e1) (.when c (.ret w rfl))
theorem vSplit_ok {Z : Ps} {S : Sto} {vs : List V} {r : V} {ts : List T} (w : Wf Z S no) (h : Rds Z S vs no ts) (e : vSplit vs = some r) : PR Z S (prim (.split) ts) r := by
  unfold vSplit at e
  split at e
  · -- split
    obtain ⟨t, u, rfl, a, b⟩ := h.two
    obtain rfl : t = .str _ := a
    obtain rfl : u = .str _ := b
    obtain ⟨c, e⟩ := whenO_some e
    cases e
    refine .when c (.new w ?_)
    generalize splitL _ _ = ss
    induction ss with
    | nil => rfl
    | cons s ss ih => exact .cons_mk rfl ih
  · cases e
theorem vInTbl_ok {Z : Ps} {S : Sto} {x : List (T × T)} {vs : List V} {r : V} {ts : List T} (w : Wf Z S no) (h : Rds Z S vs no ts) (e : vInTbl x vs = some r) : PR Z S (prim (.inTbl x) ts) r := by
  unfold vInTbl at e
  split at e
  · -- tables
    obtain ⟨t, rfl, a⟩ := h.one
    obtain ⟨c, e⟩ := whenO_some e
    cases e
    obtain ⟨k1, k2, k3⟩ := a.key c
    subst k1
    exact .when k2 (.ret w rfl)
  · cases e
theorem vGetTbl_ok {Z : Ps} {S : Sto} {x : List (T × T)} {vs : List V} {r : V} {ts : List T} (w : Wf Z S no) (h : Rds Z S vs no ts) (e : vGetTbl x vs = some r) : PR Z S (prim (.getTbl x) ts) r := by
  unfold vGetTbl at e
  split at e
  · obtain ⟨t, rfl, a⟩ := h.one
    obtain ⟨c, e⟩ := whenO_some e
    obtain ⟨k1, k2, k3⟩ := a.key c
    subst k1
    obtain ⟨x, e1, e⟩ := Option.bind_eq_some_iff.mp e
    obtain ⟨c2, e⟩ := whenO_some e
    cases e
    refine .when k2 (.opt1 w e1 ?_)
    have := Rd.ofPlain (Z := Z) (S := S) (F := no) x.toV (T.toV_plain x)
    rwa [T.toV_toT x c2] at this
  · cases e
theorem vGet1Tbl_ok {Z : Ps} {S : Sto} {x : List (T × T)} {vs : List V} {r : V} {ts : List T} (w : Wf Z S no) (h : Rds Z S vs no ts) (e : vGet1Tbl x vs = some r) : PR Z S (prim (.get1Tbl x) ts) r := by
  unfold vGet1Tbl at e
  split at e
  · obtain ⟨t, rfl, a⟩ := h.one
    obtain ⟨c, e⟩ := whenO_some e
    obtain ⟨k1, k2, k3⟩ := a.key c
    subst k1
    obtain ⟨c2, e⟩ := whenO_some e
    cases e
    refine .when k2 (.ret w ?_)
    generalize Option.getD _ _ = x at c2 ⊢
    have := Rd.ofPlain (Z := Z) (S := S) (F := no) x.toV (T.toV_plain x)
    rwa [T.toV_toT x c2] at this
  · cases e
theorem cmpV_ok {Z : Ps} {S : Sto} (p : Prim) {vs : List V} {r : V} {ts : List T} (w : Wf Z S no) (h : Rds Z S vs no ts) (e : cmpV p vs = some r) : PR Z S (pCmp p ts) r := by
  unfold cmpV at e
  split at e
  · obtain ⟨t, u, rfl, a, b⟩ := h.two
    obtain rfl : t = .int _ := a
    obtain rfl : u = .int _ := b
    obtain ⟨c, e1, rfl⟩ := Option.map_eq_some_iff.mp e
    exact .opt e1 (.ret w rfl)
  · rename_i a' b' hn
    split at e
    · split at e
      · rename_i x y e1 e2
        obtain ⟨t, u, rfl, a, b⟩ := h.two
        obtain ⟨c, e3, rfl⟩ := Option.map_eq_some_iff.mp e
        have g : PR Z S (LS.seq (dataOf t) fun x => LS.seq (dataOf u) fun y => LS.seq (LS.opt (dLt x y)) fun c => LS.ret (.bl c)) (.bl c) :=
          .seq (dataOf_okV a e1) (.seq (dataOf_okV b e2) (.opt e3 (.ret w rfl)))
        refine .at ?_ g
        cases t with
        | int i => cases u with
          | int j =>
            exfalso
            cases a' <;> first | (obtain ⟨_, z, _⟩ := a; cases z; done) | (obtain ⟨_, _, z, _⟩ := a.lstF; cases z; done) | (obtain ⟨_, _, z, _⟩ := a.dctF; cases z; done) | (obtain ⟨_, _, z, _⟩ := a; cases z; done) | skip
            all_goals (try cases (show _ = _ from a))
            cases b' <;> first | (obtain ⟨_, z, _⟩ := b; cases z; done) | (obtain ⟨_, _, z, _⟩ := b.lstF; cases z; done) | (obtain ⟨_, _, z, _⟩ := b.dctF; cases z; done) | (obtain ⟨_, _, z, _⟩ := b; cases z; done) | skip
            all_goals (try cases (show _ = _ from b))
            exact hn _ _ rfl rfl
          | _ => rfl
        | _ => rfl
      · cases e
    · cases e
  · cases e
theorem prim_ok {Z : Ps} {S : Sto} {p : Prim} {vs : List V} {r : V} {ts : List T} (w : Wf Z S no) (h : Rds Z S vs no ts) (e : primV p vs = some r) : PR Z S (prim p ts) r := by
  cases p with
  | add  => exact vAdd_ok w h e
  | sub  => exact vSub_ok w h e
  | mul  => exact vMul_ok w h e
  | fdiv  => exact vFdiv_ok w h e
  | mod  => exact vMod_ok w h e
  | pow  => exact vPow_ok w h e
  | neg  => exact vNeg_ok w h e
  | eq  => exact vEq_ok w h e
  | ne  => exact vNe_ok w h e
  | isNone  => exact vIsNone_ok w h e
  | notNone  => exact vNotNone_ok w h e
  | isin  => exact vIsin_ok w h e
  | notin  => exact vNotin_ok w h e
  | get  => exact vGet_ok w h e
  | slc x y => exact vSlc_ok w h e
  | rev  => exact vRev_ok w h e
  | len  => exact vLen_ok w h e
  | tuple  => exact vTuple_ok w h e
  | list  => exact vList_ok w h e
  | sorted  => exact vSorted_ok w h e
  | sortedSet  => exact vSortedSet_ok w h e
  | lenSet  => exact vLenSet_ok w h e
  | repr  => exact vRepr_ok w h e
  | str  => exact vStr_ok w h e
  | intOf  => exact vIntOf_ok w h e
  | abs  => exact vAbs_ok w h e
  | max2  => exact vMax2_ok w h e
  | min2  => exact vMin2_ok w h e
  | max1  => exact vMax1_ok w h e
  | min1  => exact vMin1_ok w h e
  | all  => exact vAll_ok w h e
  | any  => exact vAny_ok w h e
  | isa x => exact vIsa_ok w h e
  | get1  => exact vGet1_ok w h e
  | get2  => exact vGet2_ok w h e
  | join  => exact vJoin_ok w h e
  | fmt  => exact vFmt_ok w h e
  | split  => exact vSplit_ok w h e
  | inTbl x => exact vInTbl_ok w h e
  | getTbl x => exact vGetTbl_ok w h e
  | get1Tbl x => exact vGet1Tbl_ok w h e
  | lt => exact cmpV_ok .lt w h e
  | le => exact cmpV_ok .le w h e
  | gt => exact cmpV_ok .gt w h e
  | ge => exact cmpV_ok .ge w h e
  | _ => cases e
end LS
end

section
set_option Elab.async false
set_option linter.all false
set_option maxRecDepth 100000
set_option maxHeartbeats 4000000
/-! LS.VE: the parts of expressions, side by side. -/
namespace LS
open PySem (Str PyData)
/-- arguments that are asked for at the end -/
def ArgR (σT : Sl) (Z : Ps) (S : Sto) : List Arg → Ps → List T → Prop
  | [], _, ts => ts = []
  | .v x :: as, F, ts => ∃ t ts' F1 F2, ts = t :: ts' ∧ (∀ m, F1 m → F m) ∧ (∀ m, F2 m → F m) ∧ (∀ m, F1 m → F2 m → False) ∧ Rd Z S x F1 t ∧ ArgR σT Z S as F2 ts'
  | .s i :: as, F, ts => ∃ t ts', ts = t :: ts' ∧ σT[i]? = some (some t) ∧ ArgR σT Z S as F ts'
theorem ArgR.to {σT : Sl} {Z Z' : Ps} {S S' : Sto} : ∀ (as : List Arg) {F F' : Ps} {t : List T}, ArgR σT Z S as F t → (∀ m, Z m → Z' m) → (∀ m, F m ∨ Z m → S'[m]? = S[m]?) → (∀ m, F m → F' m) → ArgR σT Z' S' as F' t
  | [], _, _, _, h, _, _, _ => h
  | .v x :: as, _, _, _, ⟨t, ts, F1, F2, e, f1, f2, d, a, b⟩, z, k, f => ⟨t, ts, F1, F2, e, fun m h => f m (f1 m h), fun m h => f m (f2 m h), d, Rd.to x a z (fun m h => k m (h.imp (f1 m) id)) fun m h => h, ArgR.to as b z (fun m h => k m (h.imp (f2 m) id)) fun m h => h⟩
  | .s i :: as, _, _, _, ⟨t, ts, e, g, b⟩, z, k, f => ⟨t, ts, e, g, ArgR.to as b z k f⟩
def argA (σT : Sl) (ts : List T) (as : List Arg) : Asn := ⟨fun Z S F => ArgR σT Z S as F ts, fun h z k f => ArgR.to _ h z k f⟩
mutual
theorem V.frz_frz : ∀ v : V, v.frz.frz = v.frz
  | .non => rfl
  | .bl _ => rfl
  | .int _ => rfl
  | .str _ => rfl
  | .tup vs => by simp [V.frz, V.frzs_frzs vs]
  | .lst _ vs => by simp [V.frz, V.frzs_frzs vs]
  | .fro vs => by simp [V.frz, V.frzs_frzs vs]
  | .dct _ _ vs => by simp [V.frz, V.frzs_frzs vs]
theorem V.frzs_frzs : ∀ v : List V, V.frzs (V.frzs v) = V.frzs v
  | [] => rfl
  | v :: vs => by simp [V.frzs, V.frz_frz v, V.frzs_frzs vs]
end
theorem getA_set {σ : Vs} {i : Nat} {v : V} (e : σ[i]? = some (some v)) : ∀ as : List Arg, getA (σ.set i (some v.frz)) as = getA σ as
  | [] => rfl
  | .v x :: as => by simp only [getA, getA_set e as]
  | .s j :: as => by
    simp only [getA, getA_set e as]
    by_cases h : i = j
    · subst h
      have hl : i < σ.length := (List.getElem?_eq_some_iff.mp e).1
      rw [List.getElem?_set_self hl, e]
      simp only [V.frz_frz]
    · rw [List.getElem?_set_ne h]
/-- a slot's value may not be changed any more -/
theorem RdS.freeze {Z : Ps} {S : Sto} {σ : Vs} {F : Ps} {σT : Sl} {i : Nat} {v : V} (w : Wf Z S F) (h : RdS Z S σ F σT) (e : σ[i]? = some (some v)) : ∃ (t : T) (N G : Ps), σT[i]? = some (some t) ∧ (∀ m, N m → F m) ∧ (∀ m, G m → F m) ∧ (∀ m, G m → N m → False) ∧
    Rd (fun m => Z m ∨ N m) S v.frz no t ∧ RdS (fun m => Z m ∨ N m) S (σ.set i (some v.frz)) G σT := by
  obtain ⟨t, F1, F2, e1, f1, f2, d, a, k, _⟩ := h.focus i e
  have a' : Rd (fun m => Z m ∨ F1 m) S v.frz no t := Rd.frz v a (fun m h => .inl h) fun m h => .inr h
  exact ⟨t, F1, F2, e1, f1, f2, fun m x y => d m y x, a', k _ S no F2 _ (fun m h => .inl h) (fun m h => rfl) (fun m h => h.elim) (fun m h => h.elim) (fun m h => h) a'⟩
/-- all arguments may not be changed any more -/
theorem freezeAll {S : Sto} {σT : Sl} : ∀ (as : List Arg) {Z : Ps} {σ : Vs} {F1 F2 : Ps} {ts : List T} {vs : List V}, Wf Z S (fun m => F1 m ∨ F2 m) → (∀ m, F1 m → F2 m → False) → ArgR σT Z S as F1 ts → RdS Z S σ F2 σT → getA σ as = some vs →
    ∃ (N G : Ps), (∀ m, N m → F1 m ∨ F2 m) ∧ (∀ m, G m → F2 m) ∧ (∀ m, G m → N m → False) ∧ Rds (fun m => Z m ∨ N m) S vs no ts ∧ RdS (fun m => Z m ∨ N m) S (frzA σ as) G σT
  | [], Z, σ, F1, F2, ts, vs, w, d, h, s, e => by
    cases e
    obtain rfl : ts = [] := h
    exact ⟨no, F2, fun m h => h.elim, fun m h => h, fun m _ h => h, rfl, RdS.to _ s (fun m h => .inl h) (fun m h => rfl) fun m h => h⟩
  | .v x :: as, Z, σ, F1, F2, ts, vs, w, d, ⟨t, ts', G1, G2, e0, g1, g2, gd, a, b⟩, s, e => by
    subst e0
    simp only [getA] at e
    obtain ⟨ws, e1, rfl⟩ := Option.map_eq_some_iff.mp e
    obtain ⟨N, G, n, g, dd, p, q⟩ := freezeAll as (F1 := G2) (F2 := F2) (w.sub fun m h => h.imp (g2 m) id) (fun m h => d m (g2 m h)) b s e1
    refine ⟨fun m => N m ∨ G1 m, G, fun m h => h.elim (fun h => (n m h).imp (g2 m) id) fun h => .inl (g1 m h), g, fun m h x => x.elim (dd m h) fun x => d m (g1 m x) (g m h), ?_, ?_⟩
    · exact .cons_mk (Rd.frz x a (fun m h => .inl h) fun m h => .inr (.inr h)) (Rds.to _ p (fun m h => h.imp id .inl) (fun m h => rfl) fun m h => h)
    · exact RdS.to _ q (fun m h => h.imp id .inl) (fun m h => rfl) fun m h => h
  | .s i :: as, Z, σ, F1, F2, ts, vs, w, d, ⟨t, ts', e0, ei, b⟩, s, e => by
    subst e0
    simp only [getA] at e
    split at e
    · rename_i v ev
      obtain ⟨ws, e1, rfl⟩ := Option.map_eq_some_iff.mp e
      obtain ⟨t', N1, G1, h1, n1, g1, d1, a1, s1⟩ := s.freeze (w.sub fun m h => .inr h) ev
      rw [ei] at h1
      cases h1
      have w1 : Wf (fun m => Z m ∨ N1 m) S (fun m => F1 m ∨ G1 m) := ⟨fun m h z => h.elim (fun h => z.elim (w.d m (.inl h)) fun z => d m h (n1 m z)) (fun h => z.elim (w.d m (.inr (g1 m h))) fun z => d1 m h z), fun m h => w.f m (h.imp id (g1 m)), fun m h => h.elim (w.z m) fun h => w.f m (.inr (n1 m h))⟩
      have b1 : ArgR σT (fun m => Z m ∨ N1 m) S as F1 ts' := ArgR.to _ b (fun m h => .inl h) (fun m h => rfl) fun m h => h
      rw [← getA_set ev] at e1
      obtain ⟨N, G, n, g, dd, p, q⟩ := freezeAll as w1 (fun m x y => d m x (g1 m y)) b1 s1 e1
      refine ⟨fun m => N1 m ∨ N m, G, fun m h => h.elim (fun h => .inr (n1 m h)) fun h => (n m h).imp id (g1 m), fun m h => g1 m (g m h), fun m h x => x.elim (fun x => d1 m (g m h) x) (dd m h), ?_, ?_⟩
      · refine .cons_mk (Rd.to _ a1 (fun m h => h.imp id .inl) (fun m h => rfl) fun m h => h) (Rds.to _ p (fun m h => ?_) (fun m h => rfl) fun m h => h)
        rcases h with (h | h) | h
        · exact .inl h
        · exact .inr (.inl h)
        · exact .inr (.inr h)
      · simp only [frzA, ev]
        refine RdS.to _ q (fun m h => ?_) (fun m h => rfl) fun m h => h
        rcases h with (h | h) | h
        · exact .inl h
        · exact .inr (.inl h)
        · exact .inr (.inr h)
    · cases e
theorem app_ok {σT : Sl} {p : Prim} {as : List Arg} {ts : List T} : Sim (argA σT ts as) σT (calmly (prim p ts)) (appV p as) rdAV := by
  intro σ r σ' e Z S F w ⟨F1, F2, f1, f2, d, h, s⟩
  unfold appV at e
  split at e
  · rename_i vs ev
    split at e
    · rename_i r' er
      have w1 : Wf Z S fun m => F1 m ∨ F2 m := w.sub fun m h => h.elim (f1 m) (f2 m)
      obtain ⟨N, G, n, g, dd, hp, q⟩ := freezeAll as w1 d h s ev
      have w2 : Wf (fun m => Z m ∨ N m) S no := ⟨fun m h => h.elim, fun m h => h.elim, fun m h => h.elim (w.z m) fun h => w1.f m (n m h)⟩
      obtain ⟨t, S', F', e1, x, a⟩ := prim_ok w2 hp er
      have keep : ∀ m, m < S.length → S'[m]? = S[m]? := fun m hm => x.fr m hm id
      have fresh : ∀ m, F' m → S.length ≤ m := fun m hm => (x.fn m hm).elim (fun h => h.elim) id
      cases hf : r'.flat with
      | true =>
        rw [hf] at e
        cases e
        refine ⟨.ok t, S', Z, fun m => F' m ∨ F2 m, by simp only [calmly, e1], ⟨x.len, fun m hm _ => keep m hm, fun m h => h, fun m h => .inl h, fun m h => h.elim (fun h => .inr (fresh m h)) fun h => .inl (f2 m h), ?_, ?_, ?_⟩, F', F2, fun m h => .inl h, fun m h => .inr h, fun m h y => ?_, Rd.flat hf a fun m h => rfl, (slA σT _).to s (fun m h => h) (fun m h => keep m (h.elim (fun h => w1.f m (.inr h)) (w.z m))) fun m h => h⟩
        · intro m h z
          rcases h with h | h
          · have := fresh m h
            have := w.z m z
            omega
          · exact w1.d m (.inr h) z
        · intro m h
          rcases h with h | h
          · exact x.wf.f m h
          · exact Nat.lt_of_lt_of_le (w1.f m (.inr h)) x.len
        · intro m h
          exact Nat.lt_of_lt_of_le (w.z m h) x.len
        · have := fresh m h
          have := w1.f m (.inr y)
          omega
      | false =>
        rw [hf] at e
        cases e
        refine ⟨.ok t, S', fun m => Z m ∨ N m, fun m => F' m ∨ G m, by simp only [calmly, e1], ⟨x.len, fun m hm _ => keep m hm, fun m h => .inl h, fun m h => h.imp id fun h => .inl ((n m h).elim (f1 m) (f2 m)), fun m h => h.elim (fun h => .inr (fresh m h)) fun h => .inl (f2 m (g m h)), ?_, ?_, ?_⟩, F', G, fun m h => .inl h, fun m h => .inr h, fun m h y => ?_, a, (slA σT _).to q (fun m h => h) (fun m h => keep m (h.elim (fun h => w1.f m (.inr (g m h))) (w2.z m))) fun m h => h⟩
        · intro m h z
          rcases h with h | h
          · exact x.wf.d m h z
          · rcases z with z | z
            · exact w1.d m (.inr (g m h)) z
            · exact dd m h z
        · intro m h
          rcases h with h | h
          · exact x.wf.f m h
          · exact Nat.lt_of_lt_of_le (w1.f m (.inr (g m h))) x.len
        · intro m h
          exact Nat.lt_of_lt_of_le (w2.z m h) x.len
        · have := fresh m h
          have := w1.f m (.inr (g m y))
          omega
    · cases e
  · cases e
/-- what a slot holds -/
theorem var_ok {σT : Sl} {i : Nat} {mT : M T} (hm : ∀ t, σT[i]? = some (some t) → mT = ret t) : Sim emp σT mT (rdV i) rdAV := by
  intro σ r σ' e Z S F w ⟨F1, F2, f1, f2, d, h, s⟩
  unfold rdV at e
  split at e
  · rename_i v ev
    cases hp : v.plain with
    | true =>
      rw [hp] at e
      cases e
      obtain ⟨t, G1, G2, e1, g1, g2, gd, a, _⟩ := RdS.focus i s ev
      have := (Rd.plain (Z' := Z) (S' := S) (F' := no) v hp a)
      rw [hm t e1]
      exact ⟨.ok t, S, Z, F, rfl, Ext.refl w, no, F2, fun m h => h.elim, f2, fun m h => h.elim, this.2, s⟩
    | false =>
      rw [hp] at e
      cases e
      obtain ⟨t, N, G, e1, n, g, dd, a, q⟩ := s.freeze (w.sub f2) ev
      rw [hm t e1]
      refine ⟨.ok t, S, fun m => Z m ∨ N m, G, rfl, ⟨Nat.le_refl _, fun _ _ _ => rfl, fun m h => .inl h, fun m h => h.imp id fun h => .inl (f2 m (n m h)), fun m h => .inl (f2 m (g m h)), ⟨fun m h z => z.elim (w.d m (f2 m (g m h))) (dd m h), fun m h => w.f m (f2 m (g m h)), fun m h => h.elim (w.z m) fun h => w.f m (f2 m (n m h))⟩⟩, no, G, fun m h => h.elim, fun m h => h, fun m h => h.elim, a, q⟩
  · cases e
/-- a slot's value is taken out -/
theorem take_ok {σT : Sl} {i : Nat} {H : Asn} : Sim H σT (α := T) (fun S => match σT[i]? with
    | some (some t) => some (.ok t, S)
    | _ => none) (takeV i) fun t c => (pureA (σT[i]? = some (some t)) ++ rdAV t c) ++ H := by
  intro σ r σ' e Z S F w ⟨F1, F2, f1, f2, d, h, s⟩
  unfold takeV at e
  split at e
  · rename_i v ev
    cases e
    obtain ⟨t, G1, G2, e1, g1, g2, gd, a, _, q⟩ := RdS.focus i s ev
    refine ⟨.ok t, S, Z, F, by rw [e1], Ext.refl w, fun m => G1 m ∨ F1 m, G2, fun m h => h.elim (fun h => f2 m (g1 m h)) (f1 m), fun m h => f2 m (g2 m h), fun m x y => x.elim (fun x => gd m x y) fun x => d m x (g2 m y), ⟨G1, F1, fun m h => .inl h, fun m h => .inr h, fun m x y => d m y (g1 m x), ⟨no, G1, fun m h => h.elim, fun m h => h, fun m h => h.elim, e1, a⟩, h⟩, q⟩
  · cases e
/-- a slot is stored -/
theorem putS_ok {σT : Sl} {i : Nat} {t : T} {v : V} {H : Asn} (ht : ∀ Z S F, H.p Z S F → σT[i]? = some (some t) ∧ Rd Z S v F t) : Sim H σT (ret ()) (putS i v) fun _ _ => emp := by
  intro σ r σ' e Z S F w ⟨F1, F2, f1, f2, d, h, s⟩
  unfold putS at e
  split at e
  · cases e
    obtain ⟨e1, a⟩ := ht Z S F1 h
    have q := RdS.put i s f2 f1 (fun m x y => d m x y) a
    have : σT.set i (some t) = σT := by
      apply List.ext_getElem?
      intro j
      rw [List.getElem?_set]
      split
      · subst j
        rw [e1]
        simp [(List.getElem?_eq_some_iff.mp e1).1]
      · rfl
    rw [this] at q
    exact ⟨.ok (), S, Z, F, rfl, Ext.refl w, no, F, fun m h => h.elim, fun m h => h, fun m h => h.elim, trivial, q⟩
  · cases e
end LS
end

section
set_option Elab.async false
set_option linter.all false
set_option maxRecDepth 100000
set_option maxHeartbeats 4000000
/-! LS.VM: what changes, side by side. -/
namespace LS
open PySem (Str PyData)
section
variable {Z : Ps} {S : Sto}
theorem keysV_app : ∀ {vs ws : List V}, keysV vs = true → keysV ws = true → keysV (vs ++ ws) = true
  | [], ws, _, h => h
  | v :: vs, ws, h, h2 => by
    obtain ⟨k, x, rfl, p, h⟩ := keysV_cons h
    simp only [List.cons_append, keysV, p, keysV_app h h2, Bool.and_self]
theorem keysV_set1 {k v : V} : ∀ {vs : List V}, keysV vs = true → keysV (set1V vs k v) = true
  | [], h => h
  | w :: vs, h => by
    obtain ⟨k', x, rfl, p, h⟩ := keysV_cons h
    simp only [set1V]
    split
    · simp only [keysV, p, h, Bool.and_self]
    · simp only [keysV, p, keysV_set1 h, Bool.and_self]
theorem keysV_set {k v : V} : ∀ {vs : List V}, keysV vs = true → keysV (setV vs k v) = true
  | [], h => h
  | w :: vs, h => by
    obtain ⟨k', x, rfl, p, h⟩ := keysV_cons h
    simp only [setV, keysV, p, keysV_set h, Bool.and_self]
theorem Rd.pair2 {v w : V} {F : Ps} {p : T × T} (h : Rd Z S (.tup [v, w]) F (kvT p)) (k : v.plain = true) : p.1 = v.toT ∧ Rd Z S w F p.2 ∧ ∀ (Z' : Ps) (S' : Sto) (F' : Ps) (w' : V) (t : T), Rd Z' S' w' F' t → Rd Z' S' (.tup [v, w']) F' (kvT (p.1, t)) := by
  have := h.pair k
  refine ⟨this.1, this.2, fun Z' S' F' w' t a => ?_⟩
  refine ⟨_, rfl, p.1, [t], no, F', rfl, fun m h => h.elim, fun m h => h, fun m h => h.elim, ?_, t, [], F', no, rfl, fun m h => h, fun m h => h.elim, fun m _ h => h, a, rfl⟩
  rw [this.1]
  exact Rd.ofPlain v k
/-- the value of a key, and the others with another one there -/
theorem Rds.look2 {k : V} (kp : k.plain = true) : ∀ {vs : List V} {F : Ps} {kvs : List (T × T)}, keysV vs = true → Rds Z S vs F (kvs.map kvT) → (lookV vs k = none → dLook kvs k.toT = none) ∧ ∀ v, lookV vs k = some v → ∃ (t : T) (F1 F2 : Ps), dLook kvs k.toT = some t ∧ (∀ m, F1 m → F m) ∧ (∀ m, F2 m → F m) ∧ (∀ m, F1 m → F2 m → False) ∧ Rd Z S v F1 t ∧
      ∀ (Z' : Ps) (S' : Sto) (F1' F' : Ps) (v' : V), (∀ m, Z m → Z' m) → (∀ m, F2 m ∨ Z m → S'[m]? = S[m]?) → (∀ m, F1' m → F2 m → False) → (∀ m, F1' m → F' m) → (∀ m, F2 m → F' m) → Rd Z' S' v' F1' t → Rds Z' S' (set1V vs k v') F' (kvs.map kvT)
  | [], F, kvs, _, h => by
    have := h.nil_inv
    simp only [List.map_eq_nil_iff] at this
    subst this
    simp [lookV, dLook]
  | v :: vs, F, kvs, ks, h => by
    obtain ⟨k', x, rfl, kp', ks⟩ := keysV_cons ks
    obtain ⟨t, ts', F1, F2, e, f1, f2, d, a, b⟩ := h
    cases kvs with
    | nil => simp at e
    | cons p kvs =>
      simp only [List.map_cons, List.cons.injEq] at e
      obtain ⟨rfl, rfl⟩ := e
      obtain ⟨e1, a', a2⟩ := a.pair2 kp'
      have ih := Rds.look2 kp ks b
      obtain ⟨p1, p2⟩ := p
      simp only at e1 a' a2
      subst e1
      simp only [lookV, dLook, sameV, decide_eq_true_eq]
      split
      · rename_i hs
        refine ⟨fun e => (by cases e), fun v e => ?_⟩
        cases e
        refine ⟨p2, F1, F2, rfl, f1, f2, d, a', fun Z' S' F1' F' v' z kk d' g1 g2 a'' => ?_⟩
        simp only [set1V, sameV, hs, decide_true, if_true]
        exact ⟨_, _, F1', F2, rfl, g1, g2, d', a2 _ _ _ _ _ a'', Rds.to vs b z kk fun m h => h⟩
      · rename_i hs
        refine ⟨ih.1, fun v e => ?_⟩
        obtain ⟨t, G1, G2, e1, g1, g2, gd, h1, h2⟩ := ih.2 v e
        refine ⟨t, G1, fun m => F1 m ∨ G2 m, e1, fun m h => f2 m (g1 m h), fun m h => h.elim (f1 m) fun h => f2 m (g2 m h), fun m h y => y.elim (fun y => d m y (g1 m h)) (gd m h), h1, fun Z' S' F1' F' v' z kk d' k1 k2 a'' => ?_⟩
        simp only [set1V, sameV, hs, decide_false]
        exact ⟨_, _, F1, fun m => F1' m ∨ G2 m, rfl, fun m h => k2 m (.inl h), fun m h => h.elim (k1 m) fun h => k2 m (.inr h), fun m h y => y.elim (fun y => d' m y (.inl h)) fun y => d m h (g2 m y), Rd.to _ a z (fun m h => kk m (h.imp .inl id)) fun m h => h, h2 Z' S' F1' _ v' z (fun m h => kk m (h.imp .inr id)) (fun m x y => d' m x (.inr y)) (fun m h => .inl h) (fun m h => .inr h) a''⟩
theorem setV_none {k v : V} : ∀ {vs : List V}, lookV vs k = none → keysV vs = true → setV vs k v = vs
  | [], _, _ => rfl
  | w :: vs, h, ks => by
    obtain ⟨k', x, rfl, p, ks⟩ := keysV_cons ks
    simp only [lookV] at h
    split at h
    · cases h
    · rename_i hs
      simp only [setV, hs, setV_none h ks]
      rfl
theorem map_none {kT tv : T} : ∀ {kvs : List (T × T)}, dLook kvs kT = none → kvs.map (fun kv => if T.norm kv.1 = T.norm kT then (kv.1, tv) else kv) = kvs
  | [], _ => rfl
  | (a, b) :: kvs, h => by
    simp only [dLook] at h
    split at h
    · cases h
    · rename_i hs
      simp only [List.map_cons, hs, if_false, map_none h]
theorem Rds.setV {k v : V} {tv : T} {G : Ps} (kp : k.plain = true) (hv : Rd Z S v G tv) : ∀ {vs : List V} {F : Ps} {kvs : List (T × T)}, keysV vs = true → (∀ m, G m → F m → False) → (v.plain = true ∨ oneV vs k = true) → Rds Z S vs F (kvs.map kvT) →
    Rds Z S (setV vs k v) (fun m => F m ∨ G m) ((kvs.map fun kv => if T.norm kv.1 = T.norm k.toT then (kv.1, tv) else kv).map kvT)
  | [], F, kvs, _, _, _, h => by
    have := h.nil_inv
    simp only [List.map_eq_nil_iff] at this
    subst this
    rfl
  | v0 :: vs, F, kvs, ks, dg, c, h => by
    obtain ⟨k', x, rfl, kp', ks⟩ := keysV_cons ks
    obtain ⟨t, ts', F1, F2, e, f1, f2, d, a, b⟩ := h
    cases kvs with
    | nil => simp at e
    | cons p kvs =>
      simp only [List.map_cons, List.cons.injEq] at e
      obtain ⟨rfl, rfl⟩ := e
      obtain ⟨e1, a', a2⟩ := a.pair2 kp'
      obtain ⟨p1, p2⟩ := p
      simp only at e1 a' a2
      subst e1
      simp only [LS.setV, List.map_cons, sameV, decide_eq_true_eq]
      by_cases hs : T.norm k'.toT = T.norm k.toT
      · simp only [hs, if_true]
        rcases c with c | c
        · have hv' : Rd Z S v no tv := (Rd.plain v c hv).2
          have := Rds.setV kp hv ks (fun m x y => dg m x (f2 m y)) (.inl c) b
          have hv0 := (Rd.plain (Z' := Z) (S' := S) (F' := no) v c hv)
          refine ⟨_, _, no, fun m => F2 m ∨ G m, rfl, fun m h => h.elim, fun m h => h.imp (f2 m) id, fun m h => h.elim, a2 _ _ _ _ _ hv', this⟩
        · simp only [oneV, sameV, hs, decide_true, if_true, Option.isNone_iff_eq_none] at c
          rw [setV_none c ks, map_none ((Rds.look2 kp ks b).1 c)]
          exact ⟨_, _, G, F2, rfl, fun m h => .inr h, fun m h => .inl (f2 m h), fun m x y => dg m x (f2 m y), a2 _ _ _ _ _ hv, b⟩
      · simp only [hs, if_false]
        have c' : v.plain = true ∨ oneV vs k = true := by
          rcases c with c | c
          · exact .inl c
          · simp only [oneV, sameV, hs, decide_false] at c
            exact .inr c
        have := Rds.setV kp hv ks (fun m x y => dg m x (f2 m y)) c' b
        exact ⟨_, _, F1, fun m => F2 m ∨ G m, rfl, fun m h => .inl (f1 m h), fun m h => h.imp (f2 m) id, fun m x y => y.elim (d m x) fun y => dg m y (f1 m x), a, this⟩
theorem Rds.look2_isSome {k : V} (kp : k.plain = true) {vs : List V} {F : Ps} {kvs : List (T × T)} (ks : keysV vs = true) (h : Rds Z S vs F (kvs.map kvT)) : (dLook kvs k.toT).isSome = (lookV vs k).isSome := by
  have := h.look2 kp ks
  cases e : lookV vs k with
  | none => rw [this.1 e]; rfl
  | some v => obtain ⟨t, _, _, e1, _⟩ := this.2 v e; rw [e1]; rfl
theorem pair_mk {k v : V} {G : Ps} {tv : T} (kp : k.plain = true) (hv : Rd Z S v G tv) : Rd Z S (.tup [k, v]) G (kvT (k.toT, tv)) :=
  ⟨_, rfl, k.toT, [tv], no, G, rfl, fun m h => h.elim, fun m h => h, fun m h => h.elim, Rd.ofPlain k kp, tv, [], G, no, rfl, fun m h => h, fun m h => h.elim, fun m _ h => h, hv, rfl⟩
theorem Rds.putV {k v : V} {tv : T} {F G : Ps} {vs : List V} {kvs : List (T × T)} (kp : k.plain = true) (hv : Rd Z S v G tv) (ks : keysV vs = true) (dg : ∀ m, G m → F m → False) (c : v.plain = true ∨ oneV vs k = true) (h : Rds Z S vs F (kvs.map kvT)) :
    Rds Z S (putV vs k v) (fun m => F m ∨ G m) ((dPut kvs k.toT tv).map kvT) ∧ keysV (LS.putV vs k v) = true := by
  unfold LS.putV dPut
  rw [h.look2_isSome kp ks]
  split
  · exact ⟨h.setV kp hv ks dg c, keysV_set ks⟩
  · refine ⟨?_, keysV_app ks (by simp only [keysV, kp, Bool.and_self])⟩
    rw [List.map_append]
    refine h.app (F2 := G) ?_ (fun m h => .inl h) (fun m h => .inr h) fun m x y => dg m y x
    exact ⟨_, _, G, no, rfl, fun m h => h, fun m h => h.elim, fun m _ h => h, pair_mk kp hv, rfl⟩
theorem Rds.erase : ∀ {vs : List V} {F : Ps} {ts : List T} (j : Nat) {v : V}, Rds Z S vs F ts → vs[j]? = some v → ∃ (t : T) (F1 F2 : Ps), ts[j]? = some t ∧ (∀ m, F1 m → F m) ∧ (∀ m, F2 m → F m) ∧ (∀ m, F1 m → F2 m → False) ∧ Rd Z S v F1 t ∧ Rds Z S (vs.eraseIdx j) F2 (ts.eraseIdx j)
  | [], _, _, _, _, _, e => by simp at e
  | v :: vs, F, _, 0, w, ⟨t, ts, F1, F2, e, f1, f2, d, a, b⟩, e2 => by
    simp only [List.getElem?_cons_zero, Option.some.injEq] at e2
    subst e2; subst e
    exact ⟨t, F1, F2, rfl, f1, f2, d, a, b⟩
  | v :: vs, F, _, j + 1, w, ⟨t, ts, F1, F2, e, f1, f2, d, a, b⟩, e2 => by
    subst e
    simp only [List.getElem?_cons_succ] at e2
    obtain ⟨u, G1, G2, h1, g1, g2, gd, h2, h3⟩ := Rds.erase j b e2
    exact ⟨u, G1, fun m => F1 m ∨ G2 m, h1, fun m h => f2 m (g1 m h), fun m h => h.elim (f1 m) fun h => f2 m (g2 m h), fun m h x => x.elim (fun x => d m x (g1 m h)) (gd m h), h2, t, _, F1, G2, rfl, fun m h => .inl h, fun m h => .inr h, fun m x y => d m x (g2 m y), a, h3⟩
theorem set_ne {l m : Nat} {c : Cell} (h : m ≠ l) : (S.set l c)[m]? = S[m]? := List.getElem?_set_ne (Ne.symm h)
theorem set_eq {l : Nat} {c c' : Cell} (h : S[l]? = some c) : (S.set l c')[l]? = some c' := List.getElem?_set_self (List.getElem?_eq_some_iff.mp h).1
theorem put_some {l : Nat} {c c' : Cell} (h : S[l]? = some c) : put l c' S = some (.ok (), S.set l c') := by
  have : l < S.length := (List.getElem?_eq_some_iff.mp h).1
  simp only [put, this, if_true]
/-- what changes at one place, and what comes of it -/
def Chg (Z : Ps) (S : Sto) (U : Ps) (G : Ps) (m : M T) (r c : V) (t : T) : Prop := ∃ (tr : T) (S' : Sto) (A B : Ps), m S = some (.ok tr, S') ∧ S'.length = S.length ∧ (∀ m, ¬ G m → S'[m]? = S[m]?) ∧ (∀ m, A m → U m) ∧ (∀ m, B m → U m) ∧ (∀ m, A m → B m → False) ∧ Rd Z S' r A tr ∧ Rd Z S' c B t
theorem mutV_ok {G F1 : Ps} {t : T} {ts : List T} {c : V} {vs : List V} {k : Ty} {p : Prim} {r : V × V} (w : Wf Z S fun m => G m ∨ F1 m) (d : ∀ m, G m → F1 m → False) (hc : Rd Z S c G t) (hv : Rds Z S vs F1 ts) (e : mutV k p c vs = some r) :
    Chg Z S (fun m => G m ∨ F1 m) G (prim p (t :: ts)) r.1 r.2 t := by
  unfold mutV at e
  split at e
  · -- append
    obtain ⟨l, tl, rfl, gl, el, a⟩ := hc
    obtain ⟨u, us, H1, H2, rfl, h1, h2, hd, b, z⟩ := hv
    obtain rfl : us = [] := z
    obtain ⟨c, e⟩ := whenO_some e
    cases e
    rw [← a.len] at c
    refine ⟨.non, S.set l (.lst (tl ++ [u])), no, fun m => G m ∨ F1 m, ?_, by simp, fun m n => set_ne fun h => n (h ▸ gl), fun m h => h.elim, fun m h => h, fun m h => h.elim, rfl, l, tl ++ [u], rfl, .inl gl, set_eq el, ?_⟩
    · simp only [prim, pAppend, LS.seq, lstAt, el, when_, c, put_some el]
      rfl
    · refine Rds.app (F1 := fun m => G m ∧ m ≠ l) (F2 := F1) (Rds.to _ a (fun m h => h) (fun m h => set_ne ?_) fun m h => h) ?_ (fun m h => ⟨.inl h.1, h.2⟩) (fun m h => ⟨.inr h, fun e => d l gl (e ▸ h)⟩) fun m x y => d m x.1 y
      · rcases h with h | h
        · exact h.2
        · exact fun e => w.d l (.inl gl) (e ▸ h)
      · refine ⟨u, [], H1, no, rfl, h1, fun m h => h.elim, fun m _ h => h, Rd.to _ b (fun m h => h) (fun m h => set_ne ?_) fun m h => h, rfl⟩
        rcases h with h | h
        · exact fun e => d l gl (e ▸ h1 m h)
        · exact fun e => w.d l (.inl gl) (e ▸ h)
  · -- extend
    obtain ⟨l, tl, rfl, gl, el, a⟩ := hc
    obtain ⟨u, us, H1, H2, rfl, h1, h2, hd, b, z⟩ := hv
    obtain rfl : us = [] := z
    obtain ⟨c, e⟩ := whenO_some e
    cases e
    rename_i o ys
    have : ∃ m tm F2, u = .ref m ∧ l ≠ m ∧ S[m]? = some (.lst tm) ∧ (∀ m, F2 m → F1 m) ∧ Rds Z S ys F2 tm := by
      cases o with
      | true =>
        obtain ⟨m, tm, rfl, gm, em, b⟩ := b
        exact ⟨m, tm, _, rfl, fun e => d l gl (e ▸ h1 m gm), em, fun m h => h1 m h.1, b⟩
      | false =>
        obtain ⟨m, tm, rfl, gm, em, b⟩ := b
        exact ⟨m, tm, _, rfl, fun e => w.d l (.inl gl) (e ▸ gm), em, fun m h => h.elim, b⟩
    obtain ⟨m, tm, F2, rfl, ne, em, f2, b⟩ := this
    rw [← a.len, ← b.len] at c
    refine ⟨.non, S.set l (.lst (tl ++ tm)), no, fun m => G m ∨ F1 m, ?_, by simp, fun m n => set_ne fun h => n (h ▸ gl), fun m h => h.elim, fun m h => h, fun m h => h.elim, rfl, l, tl ++ tm, rfl, .inl gl, set_eq el, ?_⟩
    · have c2 : (decide (tl.length + tm.length ≤ lineT) && !(l == m)) = true := by simpa [ne] using c
      simp only [prim, pExtend, LS.seq, lstAt, el, em, when_, c2, put_some el]
      rfl
    · refine Rds.app (F1 := fun m => G m ∧ m ≠ l) (F2 := F2) (Rds.to _ a (fun m h => h) (fun m h => set_ne ?_) fun m h => h) (Rds.to _ b (fun m h => h) (fun m h => set_ne ?_) fun m h => h) (fun m h => ⟨.inl h.1, h.2⟩) (fun m h => ⟨.inr (f2 m h), fun e => d l gl (e ▸ f2 m h)⟩) fun m x y => d m x.1 (f2 m y)
      · rcases h with h | h
        · exact h.2
        · exact fun e => w.d l (.inl gl) (e ▸ h)
      · rcases h with h | h
        · exact fun e => d l gl (e ▸ f2 m h)
        · exact fun e => w.d l (.inl gl) (e ▸ h)
  · -- pop
    obtain ⟨l, tl, rfl, gl, el, a⟩ := hc
    obtain rfl : ts = [] := hv
    obtain ⟨x, e1, rfl⟩ := Option.map_eq_some_iff.mp e
    rename_i xs
    have hx : xs = xs.dropLast ++ [x] := by
      have hn : xs ≠ [] := fun h => by subst h; simp at e1
      rw [List.getLast?_eq_some_getLast hn] at e1
      cases e1
      exact (List.dropLast_concat_getLast hn).symm
    rw [hx] at a
    obtain ⟨H1, H2, t1, t2, rfl, h1, h2, hd, a', b'⟩ := a.split
    obtain ⟨u, us, K1, K2, rfl, k1, k2, kd, b, z⟩ := b'
    obtain rfl : us = [] := z
    refine ⟨u, S.set l (.lst t1), K1, fun m => H1 m ∨ m = l, ?_, by simp, fun m n => set_ne fun h => n (h ▸ gl), fun m h => .inl (h2 m (k1 m h)).1, fun m h => h.elim (fun h => .inl (h1 m h).1) fun h => .inl (h ▸ gl), fun m h y => y.elim (fun y => hd m y (k1 m h)) fun y => (h2 m (k1 m h)).2 y, Rd.to _ b (fun m h => h) (fun m h => set_ne ?_) fun m h => h, l, t1, rfl, .inr rfl, set_eq el, Rds.to _ a' (fun m h => h) (fun m h => set_ne ?_) fun m h => ⟨.inl h, (h1 m h).2⟩⟩
    · simp only [prim, pPop, LS.seq, lstAt, el, List.getLast?_concat, List.dropLast_concat, put_some el]
      rfl
    · rcases h with h | h
      · exact (h2 m (k1 m h)).2
      · exact fun e => w.d l (.inl gl) (e ▸ h)
    · rcases h with h | h
      · exact (h1 m h).2
      · exact fun e => w.d l (.inl gl) (e ▸ h)
  · -- popAt
    obtain ⟨l, tl, rfl, gl, el, a⟩ := hc
    obtain ⟨u, us, H1, H2, rfl, h1, h2, hd, b, z⟩ := hv
    obtain rfl : us = [] := z
    obtain rfl : u = .int _ := b
    obtain ⟨j, e1, e2⟩ := Option.bind_eq_some_iff.mp e
    obtain ⟨x, e4, rfl⟩ := Option.map_eq_some_iff.mp e2
    obtain ⟨u, K1, K2, e3, k1, k2, kd, x1, x2⟩ := a.erase j e4
    rw [← a.len] at e1
    refine ⟨u, S.set l (.lst (tl.eraseIdx j)), K1, fun m => K2 m ∨ m = l, ?_, by simp, fun m n => set_ne fun h => n (h ▸ gl), fun m h => .inl (k1 m h).1, fun m h => h.elim (fun h => .inl (k2 m h).1) fun h => .inl (h ▸ gl), fun m h y => y.elim (fun y => kd m h y) fun y => (k1 m h).2 y, Rd.to _ x1 (fun m h => h) (fun m h => set_ne ?_) fun m h => h, l, _, rfl, .inr rfl, set_eq el, Rds.to _ x2 (fun m h => h) (fun m h => set_ne ?_) fun m h => ⟨.inl h, (k2 m h).2⟩⟩
    · simp only [prim, pPopAt, LS.seq, lstAt, el, e1, LS.opt, e3, put_some el]
      rfl
    · rcases h with h | h
      · exact (k1 m h).2
      · exact fun e => w.d l (.inl gl) (e ▸ h)
    · rcases h with h | h
      · exact (k2 m h).2
      · exact fun e => w.d l (.inl gl) (e ▸ h)
  · -- setdefault
    rename_i tk' kvs' kk xx
    obtain ⟨l, kvs, rfl, gl, el, ks, a⟩ := hc
    obtain ⟨u, us, H1, H2, rfl, h1, h2, hd, b, z⟩ := hv
    obtain ⟨y, us', K1, K2, rfl, k1, k2, kd, b2, z⟩ := z
    obtain rfl : us' = [] := z
    obtain ⟨c, e⟩ := whenO_some e
    simp only [Bool.and_eq_true] at c
    obtain ⟨⟨ck, cx⟩, cl⟩ := c
    obtain ⟨rfl, q2, q3⟩ := b.key ck
    have cl' : kvs.length < lineT := by
      have := a.len
      rw [List.length_map] at this
      rw [this]
      exact of_decide_eq_true cl
    have b2' := Rd.plain (Z' := Z) (S' := S) (F' := no) _ cx b2
    split at e
    · rename_i v ev
      obtain ⟨c3, e⟩ := whenO_some e
      cases e
      obtain ⟨t, F1', F2', e1, _, _, _, g, _⟩ := (a.look2 q3 ks).2 v ev
      refine ⟨t, S, no, G, ?_, rfl, fun m n => rfl, fun m h => h.elim, fun m h => .inl h, fun m h => h.elim, (Rd.plain v c3 g).2, l, kvs, rfl, gl, el, ks, a⟩
      simp only [prim, pSetdefault, el, when_, q2, cl', decide_true, Bool.and_self, e1]
      rfl
    · rename_i ev
      cases e
      refine ⟨y, S.set l (.dct tk' (kvs ++ [(kk.toT, y)])), no, G, ?_, by simp, fun m n => set_ne fun h => n (h ▸ gl), fun m h => h.elim, fun m h => .inl h, fun m h => h.elim, (Rd.plain _ cx b2).2, l, _, rfl, gl, set_eq el, keysV_app ks (by simp only [keysV, q3, Bool.and_self]), ?_⟩
      · simp only [prim, pSetdefault, el, when_, q2, cl', decide_true, Bool.and_self, (a.look2 q3 ks).1 ev, LS.seq, put_some el]
        rfl
      · rw [List.map_append]
        refine Rds.app (F1 := fun m => G m ∧ m ≠ l) (F2 := no) (Rds.to _ a (fun m h => h) (fun m h => set_ne ?_) fun m h => h) ?_ (fun m h => h) (fun m h => h.elim) fun m _ h => h
        · rcases h with h | h
          · exact h.2
          · exact fun e => w.d l (.inl gl) (e ▸ h)
        · exact ⟨_, _, no, no, rfl, fun m h => h.elim, fun m h => h.elim, fun m h => h.elim, pair_mk q3 ((Rd.plain _ cx b2).2), rfl⟩
  · cases e
/-- o[k] = v -/
theorem subV_ok {G F1 F2 : Ps} {t tk tv : T} {c c' k v : V} (w : Wf Z S fun m => G m ∨ F1 m) (d : ∀ m, G m → F1 m → False) (hc : Rd Z S c G t) (hk : Rd Z S k F2 tk) (hv : Rd Z S v F1 tv) (e : subV c k v = some c') :
    ∃ S', setSub t tk tv S = some (.ok (), S') ∧ S'.length = S.length ∧ (∀ m, ¬ G m → S'[m]? = S[m]?) ∧ Rd Z S' c' (fun m => G m ∨ F1 m) t := by
  unfold subV at e
  split at e
  · obtain ⟨l, kvs, rfl, gl, el, ks, a⟩ := hc
    obtain ⟨c, e⟩ := whenO_some e
    cases e
    simp only [Bool.and_eq_true, Bool.or_eq_true] at c
    obtain ⟨⟨ck, cl⟩, c2⟩ := c
    obtain ⟨rfl, q2, q3⟩ := hk.key ck
    have cl' : kvs.length < lineT := by
      have := a.len
      rw [List.length_map] at this
      rw [this]
      exact of_decide_eq_true cl
    refine ⟨S.set l (.dct _ (dPut kvs k.toT tv)), ?_, by simp, fun m n => set_ne fun h => n (h ▸ gl), l, _, rfl, .inl gl, set_eq el, ?_⟩
    · simp only [setSub, el, when_, q2, cl', decide_true, Bool.and_self, put_some el]
    · have hv' : Rd Z (S.set l (.dct ‹_› (dPut kvs k.toT tv))) v F1 tv := Rd.to _ hv (fun m h => h) (fun m h => set_ne (by
        rcases h with h | h
        · exact fun e => d l gl (e ▸ h)
        · exact fun e => w.d l (.inl gl) (e ▸ h))) fun m h => h
      have a' : Rds Z (S.set l (.dct ‹_› (dPut kvs k.toT tv))) _ (fun m => G m ∧ m ≠ l) (kvs.map kvT) := Rds.to _ a (fun m h => h) (fun m h => set_ne (by
        rcases h with h | h
        · exact h.2
        · exact fun e => w.d l (.inl gl) (e ▸ h))) fun m h => h
      have := Rds.putV q3 hv' ks (fun m x y => d m y.1 x) c2 a'
      refine ⟨this.2, Rds.to _ this.1 (fun m h => h) (fun m h => rfl) fun m h => ?_⟩
      rcases h with h | h
      · exact ⟨.inl h.1, h.2⟩
      · exact ⟨.inr h, fun e => d l gl (e ▸ h)⟩
  · obtain ⟨l, tl, rfl, gl, el, a⟩ := hc
    split at e
    · obtain ⟨j, e1, rfl⟩ := Option.map_eq_some_iff.mp e
      obtain rfl : tk = .int _ := hk
      rename_i xs _ i
      have hj : j < xs.length := by
        unfold ixN at e1
        split at e1
        · split at e1
          · cases e1; assumption
          · cases e1
        · split at e1
          · cases e1; omega
          · cases e1
      obtain ⟨u, H1, H2, _, h1, h2, hd, _, k⟩ := a.focus j (List.getElem?_eq_getElem hj)
      rw [← a.len] at e1
      refine ⟨S.set l (.lst (tl.set j tv)), ?_, by simp, fun m n => set_ne fun h => n (h ▸ gl), l, _, rfl, .inl gl, set_eq el, ?_⟩
      · simp only [setSub, el, LS.seq, e1, LS.opt, put_some el]
      · refine k Z _ F1 _ v tv (fun m h => h) (fun m h => set_ne ?_) (fun m x y => d m (h2 m y).1 x) (fun m h => ⟨.inr h, fun e => d l gl (e ▸ h)⟩) (fun m h => ⟨.inl (h2 m h).1, (h2 m h).2⟩) (Rd.to _ hv (fun m h => h) (fun m h => set_ne ?_) fun m h => h)
        · rcases h with h | h
          · exact (h2 m h).2
          · exact fun e => w.d l (.inl gl) (e ▸ h)
        · rcases h with h | h
          · exact fun e => d l gl (e ▸ h)
          · exact fun e => w.d l (.inl gl) (e ▸ h)
    · cases e
  · cases e
/-- where a part was taken out -/
def holeA (t : T) (c key : V) (tc : T) : Asn := ⟨fun Z S F => ∀ (Z' : Ps) (S' : Sto) (F1 F' : Ps) (ch c' : V), (∀ m, Z m → Z' m) → (∀ m, F m ∨ Z m → S'[m]? = S[m]?) → (∀ m, F1 m → F m → False) → (∀ m, F1 m → F' m) → (∀ m, F m → F' m) → withV c key ch = some c' → Rd Z' S' ch F1 tc → Rd Z' S' c' F' t,
  fun {Z Z1 S S1 F F3} h z k f => fun Z' S' F1 F' ch c' z' k' d g1 g2 e a => h Z' S' F1 F' ch c' (fun m h => z' m (z m h)) (fun m h => by rw [k' m (h.imp (f m) (z m)), k m h]) (fun m x y => d m x (f m y)) g1 (fun m h => g2 m (f m h)) e a⟩
theorem partV_ok {G F2 : Ps} {t tk : T} {c key ch : V} (w : Wf Z S G) (hc : Rd Z S c G t) (hk : Rd Z S key F2 tk) (e : partV c key = some ch) :
    ∃ tc, prim .get [t, tk] S = some (.ok tc, S) ∧ (rdAV tc ch ++ holeA t c key tc).p Z S G := by
  unfold partV at e
  split at e
  · obtain ⟨l, kvs, rfl, gl, el, ks, a⟩ := hc
    obtain ⟨ck, e⟩ := whenO_some e
    obtain ⟨rfl, q2, q3⟩ := hk.key ck
    obtain ⟨tc, H1, H2, e1, h1, h2, hd, x, k⟩ := (a.look2 q3 ks).2 _ e
    refine ⟨tc, by simp only [prim, pGet, el, when_, q2, LS.opt, e1], H1, fun m => H2 m ∨ m = l, fun m h => (h1 m h).1, fun m h => h.elim (fun h => (h2 m h).1) fun h => h ▸ gl, fun m x y => y.elim (hd m x) (h1 m x).2, x, ?_⟩
    intro Z' S' K F' ch c' z kk d g1 g2 e x
    cases e
    refine ⟨l, kvs, rfl, g2 l (.inr rfl), by rw [kk l (.inl (.inr rfl))]; exact el, keysV_set1 ks, k Z' S' K _ ch z (fun m h => kk m (h.imp .inl id)) (fun m x y => d m x (.inl y)) (fun m h => ⟨g1 m h, fun e => d m h (.inr e)⟩) (fun m h => ⟨g2 m (.inl h), (h2 m h).2⟩) x⟩
  · obtain ⟨l, tl, rfl, gl, el, a⟩ := hc
    split at e
    · obtain rfl : tk = .int _ := hk
      obtain ⟨j, e1, e2⟩ := Option.bind_eq_some_iff.mp e
      obtain ⟨tc, H1, H2, e3, h1, h2, hd, x, k⟩ := a.focus j e2
      have e1' := e1
      rw [← a.len] at e1
      refine ⟨tc, by simp only [prim, pGet, el, e1, Option.bind_some, e3, LS.opt], H1, fun m => H2 m ∨ m = l, fun m h => (h1 m h).1, fun m h => h.elim (fun h => (h2 m h).1) fun h => h ▸ gl, fun m x y => y.elim (hd m x) (h1 m x).2, x, ?_⟩
      intro Z' S' K F' ch c' z kk d g1 g2 e x
      simp only [withV, e1', Option.map_some, Option.some.injEq] at e
      subst e
      have es : tl.set j tc = tl := by
        apply List.ext_getElem?
        intro i
        rw [List.getElem?_set]
        split
        · subst i
          rw [e3]
          simp [(List.getElem?_eq_some_iff.mp e3).1]
        · rfl
      have := k Z' S' K (fun m => F' m ∧ m ≠ l) ch tc z (fun m h => kk m (h.imp .inl id)) (fun m x y => d m x (.inl y)) (fun m h => ⟨g1 m h, fun e => d m h (.inr e)⟩) (fun m h => ⟨g2 m (.inl h), (h2 m h).2⟩) x
      rw [es] at this
      exact ⟨l, tl, rfl, g2 l (.inr rfl), by rw [kk l (.inl (.inr rfl))]; exact el, this⟩
    · cases e
  · cases e
end
end LS
end

section
set_option Elab.async false
set_option linter.all false
set_option maxRecDepth 100000
set_option maxHeartbeats 4000000
/-! LS.VX: expressions, side by side. -/
namespace LS
open PySem (Str PyData)
def resA : Except Exn T → Except VX V → Asn
  | .ok t, .ok v => rdAV t v
  | .error x, .error y => xA x y
  | _, _ => pureA False
/-- defs, side by side -/
def FnsOk (Φ : Fns) (Ψ : Fnv) (io : Nat → Bool) : Prop := ∀ (f : Nat) (vs : List V) (r : Except VX V) (v0 : V), Ψ f vs = some (r, v0) → ∀ (Z : Ps) (S : Sto) (F : Ps) (ts : List T), Wf Z S F → Rds Z S vs F ts →
  ∃ (rT : Except Exn T) (S' : Sto) (Z' F' : Ps), Φ f ts S = some (rT, S') ∧ Ext Z S F Z' S' F' ∧ (io f = false → (resA rT r).p Z' S' F') ∧ (io f = true → ∃ t0 ts', ts = t0 :: ts' ∧ (resA rT r ++ rdAV t0 v0).p Z' S' F')
def itsA (its : Its) (xs : List V) : Asn := ⟨fun Z S F => its.lock = none ∧ Rds Z S xs no its.xs ∧ ∀ p ∈ its.chk, Z p.1 ∧ S[p.1]? = some p.2,
  fun ⟨a, b, c⟩ z k f => ⟨a, Rds.to _ b z (fun m h => k m (h.elim (fun h => h.elim) .inr)) fun m h => h, fun p hp => ⟨z _ (c p hp).1, by rw [k _ (.inr (c p hp).1)]; exact (c p hp).2⟩⟩⟩
section
variable {α α' : Type}
/-- what is held may not be changed any more -/
theorem Sim.freeze {H : Asn} {σT : Sl} {m : M α} {o : Option α'} {Q : α → α' → Asn} (q : ∀ a', o = some a' → ∀ Z S F, Wf Z S F → H.p Z S F → ∃ a, m S = some (.ok a, S) ∧ (Q a a').p (fun m => Z m ∨ F m) S no) : Sim H σT m (optV o) Q := by
  intro σ r σ' e Z S F w ⟨F1, F2, f1, f2, d, h, s⟩
  unfold optV at e
  split at e
  · cases e
    rename_i a'
    obtain ⟨a, e1, q⟩ := q a' rfl Z S F1 (w.sub f1) h
    refine ⟨.ok a, S, fun m => Z m ∨ F1 m, F2, e1, ⟨Nat.le_refl _, fun _ _ _ => rfl, fun m h => .inl h, fun m h => h.imp id fun h => .inl (f1 m h), fun m h => .inl (f2 m h), ⟨fun m h z => z.elim (w.d m (f2 m h)) fun z => d m z h, fun m h => w.f m (f2 m h), fun m h => h.elim (w.z m) fun h => w.f m (f1 m h)⟩⟩, no, F2, fun m h => h.elim, fun m h => h, fun m h => h.elim, q, (slA σT _).to s (fun m h => .inl h) (fun m h => rfl) fun m h => h⟩
  · cases e
theorem Sim.assoc {H A B : Asn} {Z : Ps} {S : Sto} {F : Ps} (h : ((A ++ B) ++ H).p Z S F) : (A ++ (B ++ H)).p Z S F := by
  obtain ⟨F1, F2, f1, f2, d, ⟨G1, G2, g1, g2, gd, a, b⟩, c⟩ := h
  exact ⟨G1, fun m => G2 m ∨ F2 m, fun m h => f1 m (g1 m h), fun m h => h.elim (fun h => f1 m (g2 m h)) (f2 m), fun m x y => y.elim (gd m x) (d m (g1 m x)), a, G2, F2, fun m h => .inl h, fun m h => .inr h, fun m x y => d m (g2 m x) y, b, c⟩
theorem star_pure {c : Prop} {A : Asn} {Z : Ps} {S : Sto} {F : Ps} (h : (pureA c ++ A).p Z S F) : c ∧ A.p Z S F := by
  obtain ⟨F1, F2, f1, f2, d, a, b⟩ := h
  exact ⟨a, A.to b (fun m h => h) (fun m h => rfl) f2⟩
theorem star_r {A B : Asn} {Z : Ps} {S : Sto} {F : Ps} (h : (A ++ B).p Z S F) : B.p Z S F := by
  obtain ⟨F1, F2, f1, f2, d, a, b⟩ := h
  exact B.to b (fun m h => h) (fun m h => rfl) f2
theorem star_l {A B : Asn} {Z : Ps} {S : Sto} {F : Ps} (h : (A ++ B).p Z S F) : A.p Z S F := by
  obtain ⟨F1, F2, f1, f2, d, a, b⟩ := h
  exact A.to a (fun m h => h) (fun m h => rfl) f1
end
theorem lst_of {σT : Sl} {Z : Ps} {S : Sto} {σ : Vs} {F : Ps} {i : Nat} {v : V} (s : RdS Z S σ F σT) (e : σ[i]? = some (some v)) : ∃ t, σT[i]? = some (some t) ∧ Rd Z S v F t := by
  obtain ⟨t, G1, G2, e1, g1, g2, gd, a, _⟩ := RdS.focus i s e
  exact ⟨t, e1, Rd.to v a (fun m h => h) (fun m h => rfl) g1⟩
theorem kind_ok {Z : Ps} {S : Sto} {F : Ps} {k : Ty} {v : V} {t : T} (h : Rd Z S v F t) (c : kindV k v = true) : kindOf k t S = some (.ok (), S) := by
  unfold kindV at c
  split at c
  · obtain rfl : t = .str _ := h; rfl
  · rename_i o _
    cases o with
    | true => obtain ⟨l, ts, rfl, _, e, _⟩ := h; simp only [kindOf, e]
    | false => obtain ⟨l, ts, rfl, _, e, _⟩ := h; simp only [kindOf, e]
  · rename_i o _ _
    cases o with
    | true => obtain ⟨l, ts, rfl, _, e, _⟩ := h; simp only [kindOf, e]
    | false => obtain ⟨l, ts, rfl, _, e, _⟩ := h; simp only [kindOf, e]
  · cases c
theorem seeV_ok {σT : Sl} {k : Ty} {i : Nat} {t : T} {H : Asn} (ht : σT[i]? = some (some t)) : Sim H σT (kindOf k t) (seeV k i) fun _ _ => H := by
  intro σ r σ' e Z S F w hs
  obtain ⟨F1, F2, f1, f2, d, h, s⟩ := hs
  unfold seeV at e
  split at e
  · rename_i v ev
    cases c : kindV k v with
    | true =>
      rw [c] at e
      cases e
      obtain ⟨t', e1, a⟩ := lst_of s ev
      rw [ht] at e1
      cases e1
      exact ⟨.ok (), S, Z, F, kind_ok a c, Ext.refl w, F1, F2, f1, f2, d, h, s⟩
    | false => rw [c] at e; cases e
  · cases e
theorem seeS_ok {σT : Sl} {i : Nat} {mT : M T} {H : Asn} (hm : ∀ t, σT[i]? = some (some t) → mT = ret t) : Sim H σT mT (seeS i) fun t a => argA σT [t] [a] := by
  intro σ r σ' e Z S F w hs
  obtain ⟨F1, F2, f1, f2, d, h, s⟩ := hs
  unfold seeS at e
  split at e
  · rename_i v ev
    cases e
    obtain ⟨t', e1, a⟩ := lst_of s ev
    rw [hm t' e1]
    exact ⟨.ok t', S, Z, F, rfl, Ext.refl w, no, F2, fun m h => h.elim, f2, fun m h => h.elim, ⟨t', [], rfl, e1, rfl⟩, s⟩
  · cases e
theorem askK_ok {σT : Sl} {k : Ty} {t : T} {a : Arg} : Sim (argA σT [t] [a]) σT (kindOf k t) (askK k a) fun _ _ => argA σT [t] [a] := by
  intro σ r σ' e Z S F w hs
  obtain ⟨F1, F2, f1, f2, d, h, s⟩ := hs
  have key : ∀ v, getA σ [a] = some [v] → Rd (fun m => Z m ∨ F m) S v no t := by
    intro v ev
    cases a with
    | v x =>
      obtain ⟨t', ts', G1, G2, e0, g1, g2, gd, a, b⟩ := h
      cases e0
      simp only [getA, Option.map_some, Option.some.injEq, List.cons.injEq, and_true] at ev
      subst ev
      exact Rd.frz x a (fun m h => .inl h) fun m h => .inr (f1 m (g1 m h))
    | s i =>
      obtain ⟨t', ts', e0, ei, b⟩ := h
      cases e0
      simp only [getA] at ev
      split at ev
      · rename_i u eu
        simp only [Option.map_some, Option.some.injEq, List.cons.injEq, and_true] at ev
        subst ev
        obtain ⟨t', e1, a⟩ := lst_of s eu
        rw [ei] at e1
        cases e1
        exact Rd.frz u a (fun m h => .inl h) fun m h => .inr (f2 m h)
      · cases ev
  unfold askK at e
  split at e
  · rename_i v ev
    cases c : kindV k v with
    | true =>
      rw [c] at e
      cases e
      exact ⟨.ok (), S, Z, F, kind_ok (key v ev) c, Ext.refl w, F1, F2, f1, f2, d, h, s⟩
    | false => rw [c] at e; cases e
  · cases e
/-- a method that changes what a name stands for -/
theorem mut0_ok {σT : Sl} {k : Ty} {p : Prim} {i : Nat} {t : T} {ts : List T} {vs : List V} (ht : σT[i]? = some (some t)) :
    Sim (rdsA ts vs) σT (calmly (prim p (t :: ts))) (seqV (takeV i) fun c => seqV (optV (mutV k p c vs)) fun r => seqV (putS i r.2) fun _ => retV r.1) rdAV := by
  intro σ r σ' e Z S F w hs
  obtain ⟨F1, F2, f1, f2, d, h, s⟩ := hs
  unfold seqV takeV at e
  cases ev : σ[i]? with
  | none => rw [ev] at e; cases e
  | some o =>
    cases o with
    | none => rw [ev] at e; cases e
    | some c =>
      rw [ev] at e
      simp only [seqV, optV] at e
      cases em : mutV k p c vs with
      | none => rw [em] at e; cases e
      | some rc =>
        rw [em] at e
        simp only [putS] at e
        have hl : i < (σ.set i none).length := by simpa using (List.getElem?_eq_some_iff.mp ev).1
        simp only [hl, if_true, retV, Option.some.injEq, Prod.mk.injEq] at e
        obtain ⟨rfl, rfl⟩ := e
        obtain ⟨t', G1, G2, e1, g1, g2, gd, a, kk, _⟩ := RdS.focus i s ev
        rw [ht] at e1
        cases e1
        have w1 : Wf Z S fun m => G1 m ∨ F1 m := w.sub fun m h => h.elim (fun h => f2 m (g1 m h)) (f1 m)
        obtain ⟨tr, S', A, B, e2, el, ek, ha, hb, hd, ra, rb⟩ := mutV_ok w1 (fun m x y => d m y (g1 m x)) a h em
        have keep : ∀ m, G2 m ∨ Z m → S'[m]? = S[m]? := fun m hm => ek m fun g => hm.elim (fun hm => gd m g hm) fun hm => w1.d m (.inl g) hm
        have q := kk Z S' B (fun m => B m ∨ G2 m) rc.2 (fun m h => h) keep (fun m x y => (hb m x).elim (fun x => gd m x y) fun x => d m x (g2 m y)) (fun m h => .inl h) (fun m h => .inr h) rb
        refine ⟨.ok tr, S', Z, fun m => A m ∨ B m ∨ G2 m, by simp only [calmly, e2], ⟨Nat.le_of_eq el.symm, fun m _ hm => ek m fun g => hm (f2 m (g1 m g)), fun m h => h, fun m h => .inl h, fun m h => ?_, ?_⟩, A, fun m => B m ∨ G2 m, fun m h => .inl h, fun m h => .inr h, fun m x y => ?_, ra, ?_⟩
        · left
          rcases h with h | h | h
          · exact (ha m h).elim (fun h => f2 m (g1 m h)) (f1 m)
          · exact (hb m h).elim (fun h => f2 m (g1 m h)) (f1 m)
          · exact f2 m (g2 m h)
        · refine ⟨fun m h z => ?_, fun m h => ?_, fun m h => by rw [el]; exact w.z m h⟩
          · rcases h with h | h | h
            · exact w1.d m (ha m h) z
            · exact w1.d m (hb m h) z
            · exact w.d m (f2 m (g2 m h)) z
          · rw [el]
            rcases h with h | h | h
            · exact w1.f m (ha m h)
            · exact w1.f m (hb m h)
            · exact w.f m (f2 m (g2 m h))
        · rcases y with y | y
          · exact hd m x y
          · exact (ha m x).elim (fun x => gd m x y) fun x => d m x (g2 m y)
        · have es : (σ.set i none).set i (some rc.2) = σ.set i (some rc.2) := List.set_set ..
          rw [es]
          exact q
/-- a part is taken out, and a part put back -/
theorem part_ok {σT : Sl} {t tk : T} {c key : V} {H : Asn} : Sim ((rdAV tk key) ++ (rdAV t c)) σT (calmly (prim .get [t, tk])) (optV (partV c key)) fun tc ch => rdAV tc ch ++ holeA t c key tc := by
  refine Sim.optP fun ch e Z S F w h => ?_
  obtain ⟨F1, F2, f1, f2, d, hk, hc⟩ := h
  obtain ⟨tc, e1, a⟩ := partV_ok (w.sub f2) hc hk e
  exact ⟨tc, by simp only [calmly, e1], (rdAV tc ch ++ holeA t c key tc).to a (fun m h => h) (fun m h => rfl) f2⟩
theorem Chg.ext {Z : Ps} {S : Sto} {U G : Ps} {m : M T} {r c : V} {t : T} (w : Wf Z S U) (g : ∀ m, G m → U m) (h : Chg Z S U G m r c t) : ∃ (tr : T) (S' : Sto) (F' : Ps), m S = some (.ok tr, S') ∧ Ext Z S U Z S' F' ∧ (rdAV tr r ++ rdAV t c).p Z S' F' := by
  obtain ⟨tr, S', A, B, e2, el, ek, ha, hb, hd, ra, rb⟩ := h
  refine ⟨tr, S', fun m => A m ∨ B m, e2, ⟨Nat.le_of_eq el.symm, fun m _ hm => ek m fun x => hm (g m x), fun m h => h, fun m h => .inl h, fun m h => .inl (h.elim (ha m) (hb m)), ⟨fun m h z => w.d m (h.elim (ha m) (hb m)) z, fun m h => by rw [el]; exact w.f m (h.elim (ha m) (hb m)), fun m h => by rw [el]; exact w.z m h⟩⟩, A, B, fun m h => .inl h, fun m h => .inr h, hd, ra, rb⟩
theorem mut1_ok {σT : Sl} {k : Ty} {p : Prim} {tc : T} {ch : V} {ts : List T} {vs : List V} : Sim (rdAV tc ch ++ rdsA ts vs) σT (calmly (prim p (tc :: ts))) (optV (mutV k p ch vs)) fun tr r => rdAV tr r.1 ++ rdAV tc r.2 := by
  refine Sim.opt fun r e Z S F w h => ?_
  obtain ⟨F1, F2, f1, f2, d, hc, hv⟩ := h
  obtain ⟨tr, S', F', e2, x, q⟩ := (mutV_ok (w.sub fun m h => h.elim (f1 m) (f2 m)) d hc hv e).ext (w.sub fun m h => h.elim (f1 m) (f2 m)) fun m h => .inl h
  obtain ⟨x1, dd, kk⟩ := Ext.beside (F := F) (G := no) w (fun m h => h.elim (f1 m) (f2 m)) (fun m h => h.elim) (fun m _ h => h) x
  exact ⟨tr, S', _, by simp only [calmly, e2], x1, Asn.to _ q (fun m h => h) (fun m h => rfl) fun m h => .inl h⟩
/-- the changed part is put back -/
theorem back_ok {σT : Sl} {i : Nat} {t tc : T} {c key ch : V} {H : Asn} (ht : σT[i]? = some (some t)) {α α' : Type} {a : α} {a' : α'} {Q : α → α' → Asn} (q : ∀ Z S F, H.p Z S F → (Q a a').p Z S F) :
    Sim (H ++ (rdAV tc ch ++ holeA t c key tc)) σT (ret a) (seqV (optV (withV c key ch)) fun c' => seqV (putS i c') fun _ => retV a') Q := by
  intro σ r σ' e Z S F w hs
  obtain ⟨F1, F2, f1, f2, d, ⟨G1, G2, g1, g2, gd, hh, K1, K2, k1, k2, kd, hc, ho⟩, s⟩ := hs
  simp only [seqV, optV] at e
  cases ew : withV c key ch with
  | none => rw [ew] at e; cases e
  | some c' =>
    rw [ew] at e
    simp only [putS] at e
    by_cases hl : i < σ.length
    · simp only [hl, if_true, retV, Option.some.injEq, Prod.mk.injEq] at e
      obtain ⟨rfl, rfl⟩ := e
      have a2 : Rd Z S c' (fun m => K1 m ∨ K2 m) t := ho Z S K1 _ ch c' (fun m h => h) (fun m h => rfl) kd (fun m h => .inl h) (fun m h => .inr h) ew hc
      have q2 := RdS.put i s (F' := fun m => (K1 m ∨ K2 m) ∨ F2 m) (fun m h => .inr h) (fun m h => .inl h) (fun m x y => d m (g2 m (x.elim (k1 m) (k2 m))) y) a2
      have : σT.set i (some t) = σT := by
        apply List.ext_getElem?
        intro j
        rw [List.getElem?_set]
        split
        · subst j
          rw [ht]
          simp [(List.getElem?_eq_some_iff.mp ht).1]
        · rfl
      rw [this] at q2
      exact ⟨.ok a, S, Z, F, rfl, Ext.refl w, G1, _, fun m h => f1 m (g1 m h), fun m h => h.elim (fun h => f1 m (g2 m (h.elim (k1 m) (k2 m)))) (f2 m), fun m x y => y.elim (fun y => gd m x (y.elim (k1 m) (k2 m))) fun y => d m (g1 m x) y, q Z S G1 hh, q2⟩
    · simp only [hl, if_false] at e
      cases e
theorem opt_plain {σT : Sl} {t : T} {H : Asn} : Sim H σT (ret t) (optV (whenO t.plain (some t.toV))) rdAV := by
  refine Sim.optP fun v e Z S F w h => ?_
  obtain ⟨c, e⟩ := whenO_some e
  cases e
  refine ⟨t, rfl, ?_⟩
  have := Rd.ofPlain (Z := Z) (S := S) (F := F) t.toV (T.toV_plain t)
  rwa [T.toV_toT t c] at this
theorem frzs_ok {Z : Ps} {S : Sto} {F : Ps} {vs : List V} {ts : List T} (h : Rds Z S vs F ts) : Rds (fun m => Z m ∨ F m) S (V.frzs vs) no ts := Rds.frz vs h (fun m h => .inl h) fun m h => .inr h
theorem seqOf_okV {Z : Ps} {S : Sto} {F : Ps} {v : V} {t : T} {xs : List V} (h : Rd Z S v F t) (e : seqItsV v = some xs) : ∃ its, seqOf t S = some (.ok its, S) ∧ (itsA its xs).p (fun m => Z m ∨ F m) S no := by
  unfold seqItsV at e
  split at e <;> cases e
  · obtain ⟨ts, rfl, h⟩ := h
    exact ⟨⟨ts, [], none⟩, rfl, rfl, frzs_ok h, fun p hp => by simp at hp⟩
  · rename_i o _
    cases o with
    | true =>
      obtain ⟨l, ts, rfl, a, b, h⟩ := h
      refine ⟨⟨ts, [(l, .lst ts)], none⟩, by simp only [seqOf, b], rfl, Rds.frz _ h (fun m h => .inl h) fun m h => .inr h.1, fun p hp => ?_⟩
      simp only [List.mem_singleton] at hp
      subst hp
      exact ⟨.inr a, b⟩
    | false =>
      obtain ⟨l, ts, rfl, a, b, h⟩ := h
      refine ⟨⟨ts, [(l, .lst ts)], none⟩, by simp only [seqOf, b], rfl, Rds.frz _ h (fun m h => .inl h) fun m h => h.elim, fun p hp => ?_⟩
      simp only [List.mem_singleton] at hp
      subst hp
      exact ⟨.inl a, b⟩
  · obtain ⟨l, ts, rfl, a, b, h⟩ := h
    refine ⟨⟨ts, [(l, .fro ts)], none⟩, by simp only [seqOf, b], rfl, Rds.frz _ h (fun m h => .inl h) fun m h => h.elim, fun p hp => ?_⟩
    simp only [List.mem_singleton] at hp
    subst hp
    exact ⟨.inl a, b⟩
theorem signs_ok {Z : Ps} {S : Sto} {F : Ps} : ∀ s : List Nat, Rds Z S (s.map fun c => V.str [c]) F (s.map fun c => T.str [c])
  | [] => rfl
  | c :: s => .cons_mk rfl (signs_ok s)
theorem ints_ok {Z : Ps} {S : Sto} {F : Ps} {γ : Type} {f : γ → Int} : ∀ s : List γ, Rds Z S (s.map fun c => V.int (f c)) F (s.map fun c => T.int (f c))
  | [] => rfl
  | c :: s => .cons_mk rfl (ints_ok s)
theorem itsOf_ok' {Z : Ps} {S : Sto} {F : Ps} {v : V} {t : T} {xs : List V} (h : Rd Z S v F t) (e : itsV v = some xs) : ∃ its, itsOf t S = some (.ok its, S) ∧ (itsA its xs).p (fun m => Z m ∨ F m) S no := by
  unfold itsV at e
  split at e
  · cases e
    obtain rfl : t = .str _ := h
    exact ⟨_, rfl, rfl, signs_ok _, fun p hp => by simp at hp⟩
  · obtain ⟨its, e1, q⟩ := seqOf_okV h (xs := xs) (by rw [← e]; rfl)
    refine ⟨its, ?_, q⟩
    obtain ⟨ts, rfl, h⟩ := h
    exact e1
  · obtain ⟨its, e1, q⟩ := seqOf_okV h (xs := xs) (by rw [← e]; rfl)
    refine ⟨its, ?_, q⟩
    rename_i o _
    cases o with
    | true => obtain ⟨l, ts, rfl, _⟩ := h; exact e1
    | false => obtain ⟨l, ts, rfl, _⟩ := h; exact e1
  · obtain ⟨its, e1, q⟩ := seqOf_okV h (xs := xs) (by rw [← e]; rfl)
    refine ⟨its, ?_, q⟩
    obtain ⟨l, ts, rfl, _⟩ := h
    exact e1
  · cases e
theorem enum_ok {Z : Ps} {S : Sto} {F : Ps} : ∀ {vs : List V} {ts : List T} (n : Nat), Rds Z S vs no ts → Rds Z S (enumV n vs) F (enumT n ts)
  | [], ts, n, h => by rw [h.nil_inv]; rfl
  | v :: vs, ts, n, h => by
    obtain ⟨t, ts', rfl, a, b⟩ := h.cons_inv
    exact .cons_mk ⟨_, rfl, .cons_mk rfl (.cons_mk a rfl)⟩ (enum_ok (n + 1) b)
theorem zip_ok {Z : Ps} {S : Sto} {F : Ps} : ∀ {vs ws : List V} {ts us : List T}, Rds Z S vs no ts → Rds Z S ws no us → Rds Z S (zipV vs ws) F (zipT ts us)
  | [], ws, ts, us, h, h2 => by rw [h.nil_inv]; rfl
  | v :: vs, [], ts, us, h, h2 => by
    obtain ⟨t, ts', rfl, a, b⟩ := h.cons_inv
    rw [h2.nil_inv]; rfl
  | v :: vs, w :: ws, ts, us, h, h2 => by
    obtain ⟨t, ts', rfl, a, b⟩ := h.cons_inv
    obtain ⟨u, us', rfl, c, d⟩ := h2.cons_inv
    exact .cons_mk ⟨_, rfl, .cons_mk a (.cons_mk c rfl)⟩ (zip_ok b d)
theorem range_ok {Z : Ps} {S : Sto} {F G : Ps} {vs xs : List V} {ts : List T} (h : Rds Z S vs F ts) (e : rangeV vs = some xs) : ∃ us, rangeOf ts = some us ∧ Rds Z S xs G us := by
  unfold rangeV at e
  split at e
  · obtain ⟨t, us, _, _, rfl, _, _, _, a, h⟩ := h
    obtain rfl : us = [] := h
    obtain rfl : t = .int _ := a
    split at e
    · rename_i c
      cases e
      exact ⟨_, by simp only [rangeOf, c]; rfl, ints_ok _⟩
    · cases e
  · obtain ⟨t, us, _, _, rfl, _, _, _, a, h⟩ := h
    obtain ⟨t2, us, _, _, rfl, _, _, _, a2, h⟩ := h
    obtain rfl : us = [] := h
    obtain rfl : t = .int _ := a
    obtain rfl : t2 = .int _ := a2
    split at e
    · rename_i c
      cases e
      exact ⟨_, by simp only [rangeOf, c]; rfl, ints_ok _⟩
    · cases e
  · obtain ⟨t, us, _, _, rfl, _, _, _, a, h⟩ := h
    obtain ⟨t2, us, _, _, rfl, _, _, _, a2, h⟩ := h
    obtain ⟨t3, us, _, _, rfl, _, _, _, a3, h⟩ := h
    obtain rfl : us = [] := h
    obtain rfl : t = .int _ := a
    obtain rfl : t2 = .int _ := a2
    obtain rfl : t3 = .int _ := a3
    split at e
    · rename_i c
      cases e
      exact ⟨_, by simp only [rangeOf, c]; rfl, ints_ok _⟩
    · cases e
  · cases e
theorem zipOf_ok {Z : Ps} {S : Sto} {F G : Ps} {v w : V} {t u : T} {xs : List V} (h : Rd Z S v F t) (h2 : Rd Z S w G u) (e : zipOfV v w = some xs) : ∃ its, zipOf t u S = some (.ok its, S) ∧ (itsA its xs).p (fun m => Z m ∨ F m ∨ G m) S no := by
  unfold zipOfV at e
  split at e
  · cases e
    obtain ⟨ts, rfl, h⟩ := h
    obtain ⟨us, rfl, h2⟩ := h2
    exact ⟨_, rfl, rfl, zip_ok (Rds.frz _ h (fun m h => .inl h) fun m h => .inr (.inl h)) (Rds.frz _ h2 (fun m h => .inl h) fun m h => .inr (.inr h)), fun p hp => by simp at hp⟩
  · cases e
    rename_i o vs o2 ws
    obtain ⟨p, e1, l1, q1, c1⟩ := seqOf_okV (xs := V.frzs vs) h rfl
    obtain ⟨q, e2, l2, q2, c2⟩ := seqOf_okV (xs := V.frzs ws) h2 rfl
    have a1 : ∃ l, t = .ref l := by cases o <;> obtain ⟨l, ts, rfl, _⟩ := h <;> exact ⟨l, rfl⟩
    have a2 : ∃ l, u = .ref l := by cases o2 <;> obtain ⟨l, ts, rfl, _⟩ := h2 <;> exact ⟨l, rfl⟩
    obtain ⟨l, rfl⟩ := a1
    obtain ⟨l', rfl⟩ := a2
    refine ⟨⟨zipT p.xs q.xs, p.chk ++ q.chk, none⟩, by simp only [zipOf, LS.seq, e1, e2]; rfl, rfl, zip_ok (Rds.to _ q1 (fun m h => h.imp id .inl) (fun m h => rfl) fun m h => h) (Rds.to _ q2 (fun m h => h.imp id .inr) (fun m h => rfl) fun m h => h), fun x hx => ?_⟩
    rcases List.mem_append.mp hx with hx | hx
    · exact ⟨(c1 x hx).1.imp id .inl, (c1 x hx).2⟩
    · exact ⟨(c2 x hx).1.imp id .inr, (c2 x hx).2⟩
  · cases e
end LS
end

section
set_option Elab.async false
set_option linter.all false
set_option maxRecDepth 100000
set_option maxHeartbeats 4000000
/-! LS.VY: comprehensions and calls, side by side. -/
namespace LS
open PySem (Str PyData)
theorem seq_assocV {α β γ : Type} (m : M α) (f : α → M β) (g : β → M γ) : seq (seq m f) g = seq m fun a => seq (f a) g := by
  funext S
  simp only [seq]
  cases m S with
  | none => rfl
  | some r =>
    obtain ⟨r, S'⟩ := r
    cases r <;> rfl
theorem seq_ret {α β : Type} (a : α) (f : α → M β) : seq (ret a) f = f a := rfl
theorem seqV_assoc {α β γ : Type} (m : VM α) (f : α → VM β) (g : β → VM γ) : seqV (seqV m f) g = seqV m fun a => seqV (f a) g := by
  funext S
  simp only [seqV]
  cases m S with
  | none => rfl
  | some r =>
    obtain ⟨r, S'⟩ := r
    cases r <;> rfl
theorem seqV_ret {α β : Type} (a : α) (f : α → VM β) : seqV (retV a) f = f a := rfl
theorem seqV_ok {α β : Type} {m : VM α} {f : α → VM β} {σ : Vs} {b : β} {σ' : Vs} (e : seqV m f σ = some (.ok b, σ')) : ∃ a σ1, m σ = some (.ok a, σ1) ∧ f a σ1 = some (.ok b, σ') := by
  unfold seqV at e
  split at e
  · cases e
  · cases e
  · rename_i a σ1 e1
    exact ⟨a, σ1, e1, e⟩
mutual
theorem bind_okV {Z : Ps} {S : Sto} : ∀ (p : P) {v : V} {σ σ' : Vs} {F G : Ps} {t : T} {σT : Sl}, bindV p v σ = some σ' → Rd Z S v G t → RdS Z S σ F σT → (∀ m, G m → F m → False) →
    ∃ σT', bindO p t σT = some σT' ∧ RdS Z S σ' (fun m => F m ∨ G m) σT' ∧ σT'.length = σT.length ∧ ∀ j, j ∉ p.slots → σT'[j]? = σT[j]?
  | .slot i, v, σ, σ', F, G, t, σT, e, a, s, d => by
    simp only [bindV] at e
    split at e
    · rename_i hl
      cases e
      have hl' : i < σT.length := by rw [s.len]; exact hl
      refine ⟨σT.set i (some t), by simp only [bindO, hl', if_true], RdS.put i s (fun m h => .inl h) (fun m h => .inr h) d a, by simp, fun j hj => ?_⟩
      simp only [P.slots, List.mem_singleton] at hj
      exact List.getElem?_set_ne fun h => hj h.symm
    · cases e
  | .tup ps, .tup vs, σ, σ', F, G, t, σT, e, ⟨ts, e2, a⟩, s, d => by
    subst e2
    simp only [bindV] at e
    obtain ⟨σT', h1, h2, h3, h4⟩ := binds_ok ps e a s d
    exact ⟨σT', by simp only [bindO]; exact h1, h2, h3, fun j hj => h4 j (by simpa only [P.slots] using hj)⟩
  | .tup ps, .non, σ, σ', F, G, t, σT, e, _, s, d => by simp [bindV] at e
  | .tup ps, .bl _, σ, σ', F, G, t, σT, e, _, s, d => by simp [bindV] at e
  | .tup ps, .int _, σ, σ', F, G, t, σT, e, _, s, d => by simp [bindV] at e
  | .tup ps, .str _, σ, σ', F, G, t, σT, e, _, s, d => by simp [bindV] at e
  | .tup ps, .lst _ _, σ, σ', F, G, t, σT, e, _, s, d => by simp [bindV] at e
  | .tup ps, .fro _, σ, σ', F, G, t, σT, e, _, s, d => by simp [bindV] at e
  | .tup ps, .dct _ _ _, σ, σ', F, G, t, σT, e, _, s, d => by simp [bindV] at e
theorem binds_ok {Z : Ps} {S : Sto} : ∀ (p : List P) {v : List V} {σ σ' : Vs} {F G : Ps} {t : List T} {σT : Sl}, bindVs p v σ = some σ' → Rds Z S v G t → RdS Z S σ F σT → (∀ m, G m → F m → False) →
    ∃ σT', bindOs p t σT = some σT' ∧ RdS Z S σ' (fun m => F m ∨ G m) σT' ∧ σT'.length = σT.length ∧ ∀ j, j ∉ P.slotss p → σT'[j]? = σT[j]?
  | [], [], σ, σ', F, G, t, σT, e, a, s, d => by
    cases e
    rw [a.nil_inv]
    exact ⟨σT, by simp only [bindOs], RdS.to _ s (fun m h => h) (fun m h => rfl) fun m h => .inl h, rfl, fun _ _ => rfl⟩
  | p :: ps, v :: vs, σ, σ', F, G, t, σT, e, ⟨t1, ts, G1, G2, e2, g1, g2, gd, a, b⟩, s, d => by
    subst e2
    simp only [bindVs] at e
    split at e
    · rename_i σ1 e1
      obtain ⟨σT1, h1, h2, h3, h4⟩ := bind_okV p e1 a s fun m x y => d m (g1 m x) y
      obtain ⟨σT2, k1, k2, k3, k4⟩ := binds_ok ps e b h2 fun m x y => y.elim (d m (g2 m x)) fun y => gd m y x
      refine ⟨σT2, by simp only [bindOs, h1]; exact k1, RdS.to _ k2 (fun m h => h) (fun m h => rfl) fun m h => ?_, by rw [k3, h3], fun j hj => ?_⟩
      · rcases h with (h | h) | h
        · exact .inl h
        · exact .inr (g1 m h)
        · exact .inr (g2 m h)
      · simp only [P.slotss, List.mem_append, not_or] at hj
        rw [k4 j hj.2, h4 j hj.1]
    · cases e
  | [], _ :: _, σ, σ', F, G, t, σT, e, _, s, d => by simp [bindVs] at e
  | _ :: _, [], σ, σ', F, G, t, σT, e, _, s, d => by simp [bindVs] at e
end
/-- alike but for some slots -/
def Off (own : List Nat) (τ σT : Sl) : Prop := τ.length = σT.length ∧ ∀ j, j ∉ own → τ[j]? = σT[j]?
theorem wipe_len : ∀ (own : List Nat) (τ : Sl), (wipeT τ own).length = τ.length
  | [], τ => rfl
  | i :: is, τ => by simp [wipeT, wipe_len is τ]
theorem wipe_get : ∀ (own : List Nat) (τ : Sl) (j : Nat), (wipeT τ own)[j]? = if j ∈ own then (if j < τ.length then some none else none) else τ[j]?
  | [], τ, j => by simp [wipeT]
  | i :: is, τ, j => by
    simp only [wipeT, List.getElem?_set, wipe_len]
    by_cases h : i = j
    · subst h
      simp
    · rw [if_neg h, wipe_get is τ j]
      have : (j ∈ i :: is) ↔ j ∈ is := by simp [Ne.symm h]
      simp only [this]
theorem wipe_off {own : List Nat} {τ σT : Sl} (h : Off own τ σT) : wipeT τ own = wipeT σT own := by
  apply List.ext_getElem?
  intro j
  rw [wipe_get, wipe_get, h.1]
  split
  · rfl
  · exact h.2 j (by assumption)
theorem off_wipe (own : List Nat) (σT : Sl) : Off own (wipeT σT own) σT := ⟨wipe_len own σT, fun j hj => by rw [wipe_get, if_neg hj]⟩
theorem RdS.wipes {Z : Ps} {S : Sto} {σ : Vs} {F : Ps} {σT : Sl} (h : RdS Z S σ F σT) : ∀ own : List Nat, RdS Z S (wipeV σ own) F (wipeT σT own)
  | [] => h
  | i :: is => RdS.wipe i none (RdS.wipes h is)
def restT (σT τ : Sl) : List Nat → Sl
  | [] => τ
  | i :: is => (restT σT τ is).set i ((σT[i]?).getD none)
theorem restT_len (σT τ : Sl) : ∀ own, (restT σT τ own).length = τ.length
  | [] => rfl
  | i :: is => by simp [restT, restT_len σT τ is]
theorem restT_get (σT τ : Sl) (hl : τ.length = σT.length) : ∀ (own : List Nat) (j : Nat), (restT σT τ own)[j]? = if j ∈ own then σT[j]? else τ[j]?
  | [], j => by simp [restT]
  | i :: is, j => by
    simp only [restT, List.getElem?_set, restT_len]
    by_cases h : i = j
    · subst h
      simp only [if_true, List.mem_cons, true_or]
      rw [hl]
      split
      · rename_i h
        simp [List.getElem?_eq_getElem h]
      · rename_i h
        rw [List.getElem?_eq_none_iff.mpr (Nat.not_lt.mp h)]
    · rw [if_neg h, restT_get σT τ hl is j]
      have : (j ∈ i :: is) ↔ j ∈ is := by simp [Ne.symm h]
      simp only [this]
theorem rest_eq {own : List Nat} {τ σT : Sl} (h : Off own τ σT) : restT σT τ own = σT := by
  apply List.ext_getElem?
  intro j
  rw [restT_get σT τ h.1]
  split
  · rfl
  · exact h.2 j (by assumption)
theorem RdS.back {Z Z0 : Ps} {S S0 : Sto} {σ old : Vs} {F F0 : Ps} {σT τ : Sl} (h : RdS Z S σ F τ) (h0 : RdS Z0 S0 old F0 σT) : ∀ own : List Nat, RdS Z S (backV old σ own) F (restT σT τ own)
  | [] => h
  | i :: is => by
    have ih := RdS.back h h0 is
    simp only [backV, restT]
    split
    · rename_i v ev
      cases hp : v.plain with
      | true =>
        obtain ⟨t, e1, a⟩ := lst_of h0 ev
        rw [e1]
        exact RdS.put (G := no) i ih (fun m h => h) (fun m h => h.elim) (fun m h => h.elim) (Rd.plain v hp a).2
      | false => exact RdS.wipe i _ ih
    · exact RdS.wipe i _ ih
theorem check_okV {Z : Ps} {S : Sto} {chk : List (Nat × Cell)} (h : ∀ p ∈ chk, Z p.1 ∧ S[p.1]? = some p.2) : check chk S = some (.ok (), S) := by
  have : (chk.all fun p => decide (S[p.1]? = some p.2)) = true := by
    rw [List.all_eq_true]
    exact fun p hp => decide_eq_true (h p hp).2
  simp only [check, this]
theorem chk_keeps {Z Z' : Ps} {S S' : Sto} {F F' : Ps} {chk : List (Nat × Cell)} (w : Wf Z S F) (x : Ext Z S F Z' S' F') (h : ∀ p ∈ chk, Z p.1 ∧ S[p.1]? = some p.2) : ∀ p ∈ chk, Z' p.1 ∧ S'[p.1]? = some p.2 :=
  fun p hp => ⟨x.zz _ (h p hp).1, by rw [x.keeps w _ (h p hp).1]; exact (h p hp).2⟩
theorem comp_ok {own : List Nat} {p : P} (hp : ∀ i ∈ p.slots, i ∈ own) {σT : Sl} {tT eT : Sl → M T} {tV eV : VM V} (ht : ∀ τ, Sim emp τ (tT τ) tV rdAV) (he : ∀ τ, Sim emp τ (eT τ) eV rdAV) {chk : List (Nat × Cell)} :
    ∀ (xs : List V) {σ : Vs} {ys : List V} {σ' : Vs}, compV own p tV eV xs σ = some (.ok ys, σ') → ∀ {Z : Ps} {S : Sto} {F : Ps} {ts : List T} {τ : Sl}, Wf Z S F → RdS Z S σ F τ → Off own τ σT → Rds Z S xs no ts → (∀ p ∈ chk, Z p.1 ∧ S[p.1]? = some p.2) →
      ∃ (us : List T) (S' : Sto) (Z' F' : Ps) (τ' : Sl), compL chk (fun x => bindP p x (wipeT σT own)) tT eT ts S = some (.ok us, S') ∧ Ext Z S F Z' S' F' ∧ (rdsA us ys ++ slA τ' σ').p Z' S' F' ∧ Off own τ' σT
  | [], σ, ys, σ', e, Z, S, F, ts, τ, w, s, o, h, c => by
    cases e
    rw [h.nil_inv]
    exact ⟨[], S, Z, F, τ, by simp only [compL, LS.seq, check_okV c]; rfl, Ext.refl w, ⟨no, F, fun m h => h.elim, fun m h => h, fun m h => h.elim, rfl, s⟩, o⟩
  | x :: xs, σ, ys, σ', e, Z, S, F, ts, τ, w, s, o, h, c => by
    obtain ⟨t, ts', rfl, a, b⟩ := h.cons_inv
    simp only [compV] at e
    obtain ⟨_, σ1, e1, e⟩ := seqV_ok e
    obtain ⟨cv, σ2, e2, e⟩ := seqV_ok e
    unfold bindM at e1
    split at e1
    · rename_i σ1' eb
      cases e1
      have sw := s.wipes own
      rw [wipe_off o] at sw
      obtain ⟨σT1, b1, b2, b3, b4⟩ := bind_okV p eb a sw fun m h => h.elim
      have o1 : Off own σT1 σT := ⟨by rw [b3, wipe_len], fun j hj => by rw [b4 j fun h => hj (hp j h), wipe_get, if_neg hj]⟩
      have b2' : RdS Z S _ F σT1 := RdS.to _ b2 (fun m h => h) (fun m h => rfl) fun m h => h.elim id fun h => h.elim
      obtain ⟨rT, S1, Z1, F1, h1, x1, q1⟩ := ht σT1 _ _ _ e2 Z S F w ⟨no, F, fun m h => h.elim, fun m h => h, fun m h => h.elim, trivial, b2'⟩
      cases rT with
      | error y => exact q1.elim
      | ok tc =>
        obtain ⟨G1, G2, g1, g2, gd, qc, s1⟩ := q1
        have x1' : Ext Z S F Z1 S1 G2 := x1.less g2
        have c1 := chk_keeps w x1 c
        have b' : Rds Z1 S1 xs no ts' := b.keeps w x1
        unfold onV at e
        split at e
        · obtain rfl : tc = .bl true := qc
          obtain ⟨y, σ3, e3, e⟩ := seqV_ok e
          obtain ⟨ys', σ4, e4, e⟩ := seqV_ok e
          cases e
          obtain ⟨rT, S2, Z2, F2, h2, x2, q2⟩ := he σT1 _ _ _ e3 Z1 S1 G2 x1'.wf ⟨no, G2, fun m h => h.elim, fun m h => h, fun m h => h.elim, trivial, s1⟩
          cases rT with
          | error y => exact q2.elim
          | ok ty =>
            obtain ⟨K1, K2, k1, k2, kd, qy, s2⟩ := q2
            have x2' : Ext Z1 S1 G2 Z2 S2 K2 := x2.less k2
            obtain ⟨us, S3, Z3, F3, τ', h3, x3, q3, o3⟩ := comp_ok hp ht he xs e4 x2'.wf s2 o1 (b'.keeps x1'.wf x2) (chk_keeps x1'.wf x2 c1)
            obtain ⟨x3', dd, kk⟩ := Ext.beside (F := F2) (F1 := K2) (G := K1) x2.wf k2 k1 (fun m x y => kd m y x) x3
            obtain ⟨L1, L2, l1, l2, ld, qu, s3⟩ := q3
            refine ⟨ty :: us, S3, Z3, _, τ', ?_, (x1'.trans x2).trans x3', ⟨fun m => L1 m ∨ K1 m, L2, fun m h => h.imp (l1 m) id, fun m h => .inl (l2 m h), fun m x y => x.elim (fun x => ld m x y) fun x => dd m (l2 m y) x, ⟨ty, us, K1, L1, rfl, fun m h => .inr h, fun m h => .inl h, fun m x y => dd m (l1 m y) x, Rd.to _ qy x3.zz kk fun m h => h, qu⟩, s3⟩, o3⟩
            simp only [bindP] at h3
            simp only [compL, LS.seq, check_okV c, bindP, LS.opt, b1, h1, onB, h2, h3]
            rfl
        · obtain rfl : tc = .bl false := qc
          obtain ⟨us, S3, Z3, F3, τ', h3, x3, q3, o3⟩ := comp_ok hp ht he xs e x1'.wf s1 o1 b' c1
          refine ⟨us, S3, Z3, F3, τ', ?_, x1'.trans x3, q3, o3⟩
          simp only [bindP] at h3
          simp only [compL, LS.seq, check_okV c, bindP, LS.opt, b1, h1, onB, h3]
        · cases e
    · cases e1
/-- a call -/
theorem ask_ok {Φ : Fns} {Ψ : Fnv} {io : Nat → Bool} (FO : FnsOk Φ Ψ io) {σT : Sl} {f : Nat} {ts : List T} {vs : List V} (hf : io f = false) : Sim (rdsA ts vs) σT (Φ f ts) (askV Ψ f vs) rdAV := by
  intro σ r σ' e Z S F w ⟨F1, F2, f1, f2, d, h, s⟩
  unfold askV at e
  split at e
  · rename_i r' v0 er
    cases e
    obtain ⟨rT, S', Z', F', e1, x, q, _⟩ := FO f vs _ v0 er Z S F1 ts (w.sub f1) h
    obtain ⟨x1, dd, kk⟩ := Ext.beside (F := F) (G := F2) w f1 f2 d x
    refine ⟨rT, S', Z', _, e1, x1, ?_⟩
    have q := q hf
    have s' : RdS Z' S' _ F2 σT := (slA σT _).to s x.zz kk fun m h => h
    cases rT with
    | ok t =>
      cases r with
      | ok v => exact ⟨F', F2, fun m h => .inl h, fun m h => .inr h, dd, q, s'⟩
      | error y => exact q.elim
    | error y =>
      cases r with
      | ok v => exact q.elim
      | error z => exact ⟨F', F2, fun m h => .inl h, fun m h => .inr h, dd, q, s'⟩
  · cases e
theorem askIO_ok {Φ : Fns} {Ψ : Fnv} {io : Nat → Bool} (FO : FnsOk Φ Ψ io) {σT : Sl} {f i : Nat} {t : T} {ts : List T} {vs : List V} (hf : io f = true) (ht : σT[i]? = some (some t)) : Sim (rdsA ts vs) σT (Φ f (t :: ts)) (askIO Ψ f i vs) rdAV := by
  intro σ r σ' e Z S F w ⟨F1, F2, f1, f2, d, h, s⟩
  unfold askIO at e
  split at e
  · rename_i v ev
    split at e
    · rename_i r' v' er
      cases e
      obtain ⟨t', G1, G2, e1, g1, g2, gd, a, kk, _⟩ := RdS.focus i s ev
      rw [ht] at e1
      cases e1
      have w1 : Wf Z S fun m => G1 m ∨ F1 m := w.sub fun m h => h.elim (fun h => f2 m (g1 m h)) (f1 m)
      obtain ⟨rT, S', Z', F', e1, x, _, q⟩ := FO f _ _ v' er Z S (fun m => G1 m ∨ F1 m) (t :: ts) w1 ⟨t, ts, G1, F1, rfl, fun m h => .inl h, fun m h => .inr h, fun m x y => d m y (g1 m x), a, h⟩
      obtain ⟨x1, dd, keep⟩ := Ext.beside (F := F) (G := G2) w (fun m h => h.elim (fun h => f2 m (g1 m h)) (f1 m)) (fun m h => f2 m (g2 m h)) (fun m x y => x.elim (fun x => gd m x y) fun x => d m x (g2 m y)) x
      obtain ⟨t0, ts', e0, q⟩ := q hf
      cases e0
      obtain ⟨K1, K2, k1, k2, kd, q, a'⟩ := q
      have s' := kk Z' S' K2 (fun m => K2 m ∨ G2 m) v' x.zz keep (fun m x y => dd m (k2 m x) y) (fun m h => .inl h) (fun m h => .inr h) a'
      refine ⟨rT, S', Z', _, e1, x1, ?_⟩
      have fin : ∀ A : Asn, A.p Z' S' K1 → (A ++ slA σT (σ.set i (some v'))).p Z' S' (fun m => F' m ∨ G2 m) := fun A hA =>
        ⟨K1, fun m => K2 m ∨ G2 m, fun m h => .inl (k1 m h), fun m h => h.imp (k2 m) id, fun m x y => y.elim (kd m x) (dd m (k1 m x)), hA, s'⟩
      cases rT with
      | ok t =>
        cases r with
        | ok v => exact fin _ q
        | error y => exact q.elim
      | error y =>
        cases r with
        | ok v => exact q.elim
        | error z => exact fin _ q
    · cases e
  · cases e
theorem perm_ok {Z : Ps} {S : Sto} : ∀ (perm : List Nat) {vs ws : List V} {F : Ps} {ts : List T}, perm.Nodup → Rds Z S vs F ts → optAll (fun i => vs[i]?) perm = some ws → ∃ us, optAll (fun i => ts[i]?) perm = some us ∧ Rds Z S ws F us
  | [], vs, ws, F, ts, nd, h, e => by
    cases e
    exact ⟨[], rfl, rfl⟩
  | i :: is, vs, ws, F, ts, nd, h, e => by
    simp only [optAll] at e
    split at e
    · rename_i v ev
      split at e
      · rename_i ws' ew
        cases e
        obtain ⟨hn, nd⟩ := List.nodup_cons.mp nd
        obtain ⟨t, F1, F2, et, f1, f2, d, a, k⟩ := h.focus i ev
        have h2 : Rds Z S (vs.set i .non) F2 (ts.set i .non) := k Z S no F2 .non .non (fun m h => h) (fun m h => rfl) (fun m h => h.elim) (fun m h => h.elim) (fun m h => h) rfl
        have same : ∀ {α : Type} (xs : List α) (x : α) (js : List Nat), i ∉ js → optAll (fun j => (xs.set i x)[j]?) js = optAll (fun j => xs[j]?) js := by
          intro α xs x js
          induction js with
          | nil => intro _; rfl
          | cons j js ih =>
            intro hj
            simp only [List.mem_cons, not_or] at hj
            simp only [optAll, ih hj.2, List.getElem?_set_ne hj.1]
        obtain ⟨us, e3, r⟩ := perm_ok is nd h2 (by rw [same vs .non is hn]; exact ew)
        rw [same ts .non is hn] at e3
        exact ⟨t :: us, by simp only [optAll, et, e3], t, us, F1, F2, rfl, f1, f2, d, a, r⟩
      · cases e
    · cases e
end LS
end

section
set_option Elab.async false
set_option linter.all false
set_option maxRecDepth 100000
set_option maxHeartbeats 4000000
/-! LS.VZ: expressions, side by side. -/
namespace LS
open PySem (Str PyData)
theorem not_var {σT : Sl} {σ : Vs} {Z : Ps} {S : Sto} {F : Ps} {i : Nat} (h : ∀ t, σT[i]? ≠ some (some t)) (s : RdS Z S σ F σT) {v : V} : σ[i]? ≠ some (some v) := fun e => by
  obtain ⟨t, e1, _⟩ := lst_of s e
  exact h t e1
theorem Sim.seeV_none {σT : Sl} {k : Ty} {i : Nat} {H : Asn} {α α' : Type} {m : M α} {f : Unit → VM α'} {Q : α → α' → Asn} (h : ∀ t, σT[i]? ≠ some (some t)) : Sim H σT m (seqV (seeV k i) f) Q := by
  intro σ r σ' e Z S F w ⟨F1, F2, f1, f2, d, hh, s⟩
  have : ∀ v, σ[i]? ≠ some (some v) := fun v => not_var h s
  unfold seqV seeV at e
  split at e
  · cases e
  · rename_i e1
    split at e1
    · rename_i v ev; exact absurd ev (this v)
    · cases e1
  · rename_i e1
    split at e1
    · rename_i v ev; exact absurd ev (this v)
    · cases e1
theorem Sim.seeS_none {σT : Sl} {i : Nat} {H : Asn} {α α' : Type} {m : M α} {f : Arg → VM α'} {Q : α → α' → Asn} (h : ∀ t, σT[i]? ≠ some (some t)) : Sim H σT m (seqV (seeS i) f) Q := by
  intro σ r σ' e Z S F w ⟨F1, F2, f1, f2, d, hh, s⟩
  have : ∀ v, σ[i]? ≠ some (some v) := fun v => not_var h s
  unfold seqV seeS at e
  split at e
  · cases e
  · rename_i e1
    split at e1
    · cases e1
    · cases e1
  · rename_i e1
    split at e1
    · rename_i v ev; exact absurd ev (this v)
    · cases e1
theorem Sim.bif {H : Asn} {σT : Sl} {α α' : Type} {m : M α} {c : Bool} {a b : VM α'} {Q : α → α' → Asn} (x : c = true → Sim H σT m a Q) (y : c = false → Sim H σT m b Q) : Sim H σT m (bif c then a else b) Q := by
  cases c with
  | true => exact x rfl
  | false => exact y rfl
theorem cons_ok {t : T} {v : V} {ts : List T} {vs : List V} {Z : Ps} {S : Sto} {F : Ps} (h : (rdAV t v ++ rdsA ts vs).p Z S F) : Rds Z S (v :: vs) F (t :: ts) := by
  obtain ⟨F1, F2, f1, f2, d, a, b⟩ := h
  exact ⟨t, ts, F1, F2, rfl, f1, f2, d, a, b⟩
theorem app_arg {σT : Sl} {t : T} {a : Arg} {ts : List T} {as : List Arg} {Z : Ps} {S : Sto} {F : Ps} (h : (argA σT [t] [a] ++ argA σT ts as).p Z S F) : ArgR σT Z S (a :: as) F (t :: ts) := by
  obtain ⟨F1, F2, f1, f2, d, a1, b⟩ := h
  cases a with
  | v x =>
    obtain ⟨t', ts', G1, G2, e0, g1, g2, gd, a, _⟩ := a1
    cases e0
    exact ⟨t, ts, F1, F2, rfl, f1, f2, d, Rd.to _ a (fun m h => h) (fun m h => rfl) g1, b⟩
  | s i =>
    obtain ⟨t', ts', e0, ei, _⟩ := a1
    cases e0
    exact ⟨t, ts, rfl, ei, ArgR.to _ b (fun m h => h) (fun m h => rfl) f2⟩
theorem pairUp_okV {Z : Ps} {S : Sto} : ∀ {vs : List V} {F : Ps} {ts : List T} {kvs : List (V × V)}, Rds Z S vs F ts → pairUpV vs = some kvs → ∃ tvs, pairUp ts = some tvs ∧ Rds Z S (kvs.map fun kv => V.tup [kv.1, kv.2]) F (tvs.map kvT)
  | [], F, ts, kvs, h, e => by
    cases e
    rw [h.nil_inv]
    exact ⟨[], rfl, rfl⟩
  | [v], F, ts, kvs, h, e => by cases e
  | v :: w :: vs, F, ts, kvs, ⟨t, ts1, F1, F2, e1, f1, f2, d, a, u, ts2, G1, G2, e2, g1, g2, gd, b, h⟩, e => by
    subst e1; subst e2
    obtain ⟨kvs', e3, rfl⟩ := Option.map_eq_some_iff.mp e
    obtain ⟨tvs, e4, h4⟩ := pairUp_okV h e3
    refine ⟨(t, u) :: tvs, by simp only [pairUp, e4, Option.map_some], _, _, fun m => F1 m ∨ G1 m, G2, rfl, fun m h => h.elim (f1 m) fun h => f2 m (g1 m h), fun m h => f2 m (g2 m h), fun m x y => x.elim (fun x => d m x (g2 m y)) fun x => gd m x y, ?_, h4⟩
    exact ⟨_, rfl, t, [u], F1, G1, rfl, fun m h => .inl h, fun m h => .inr h, fun m x y => d m x (g1 m y), a, u, [], G1, no, rfl, fun m h => h, fun m h => h.elim, fun m _ h => h, b, rfl⟩
theorem pairs_ok {Z : Ps} {S : Sto} : ∀ {vs : List V} {ts : List T} {kvs : List (V × V)}, Rds Z S vs no ts → pairsV vs = some kvs → ∃ tvs, pairsOf ts = some tvs ∧ Rds Z S (kvs.map fun kv => V.tup [kv.1, kv.2]) no (tvs.map kvT)
  | [], ts, kvs, h, e => by
    cases e
    rw [h.nil_inv]
    exact ⟨[], rfl, rfl⟩
  | .tup [a, b] :: vs, ts, kvs, h, e => by
    obtain ⟨t, ts', rfl, x, y⟩ := h.cons_inv
    obtain ⟨kvs', e3, rfl⟩ := Option.map_eq_some_iff.mp e
    obtain ⟨tvs, e4, h4⟩ := pairs_ok y e3
    obtain ⟨us, rfl, x⟩ := x
    obtain ⟨t1, t2, rfl, x1, x2⟩ := x.two
    exact ⟨(t1, t2) :: tvs, by simp only [pairsOf, e4, Option.map_some], .cons_mk ⟨_, rfl, .cons_mk x1 (.cons_mk x2 rfl)⟩ h4⟩
  | .tup [] :: _, _, _, _, e => by simp [pairsV] at e
  | .tup [_] :: _, _, _, _, e => by simp [pairsV] at e
  | .tup (_ :: _ :: _ :: _) :: _, _, _, _, e => by simp [pairsV] at e
  | .non :: _, _, _, _, e => by simp [pairsV] at e
  | .bl _ :: _, _, _, _, e => by simp [pairsV] at e
  | .int _ :: _, _, _, _, e => by simp [pairsV] at e
  | .str _ :: _, _, _, _, e => by simp [pairsV] at e
  | .lst _ _ :: _, _, _, _, e => by simp [pairsV] at e
  | .fro _ :: _, _, _, _, e => by simp [pairsV] at e
  | .dct _ _ _ :: _, _, _, _, e => by simp [pairsV] at e
theorem merge_ok {Z : Ps} {S : Sto} {F : Ps} : ∀ (kvs : List (V × V)) {tvs : List (T × T)} {acc : List V} {tacc : List (T × T)}, kvs.all (fun kv => kv.1.plain && kv.2.plain) = true → Rds Z S (kvs.map fun kv => V.tup [kv.1, kv.2]) F (tvs.map kvT) → keysV acc = true → Rds Z S acc F (tacc.map kvT) →
    Rds Z S (mergeV acc kvs) F ((dMerge tacc tvs).map kvT) ∧ keysV (mergeV acc kvs) = true
  | [], tvs, acc, tacc, p, h, k, a => by
    have := h.nil_inv
    simp only [List.map_eq_nil_iff] at this
    subst this
    exact ⟨a, k⟩
  | kv :: kvs, tvs, acc, tacc, p, ⟨t, ts', F1, F2, e, f1, f2, d, x, y⟩, k, a => by
    cases tvs with
    | nil => simp at e
    | cons q tvs =>
      simp only [List.map_cons, List.cons.injEq] at e
      obtain ⟨rfl, rfl⟩ := e
      simp only [List.all_cons, Bool.and_eq_true] at p
      obtain ⟨e1, x1⟩ := x.pair p.1.1
      obtain ⟨q1, q2⟩ := q
      simp only at e1 x1
      subst e1
      have x2 : Rd Z S kv.2 no q2 := (Rd.plain kv.2 p.1.2 x1).2
      have := Rds.putV p.1.1 x2 k (fun m h => h.elim) (.inl p.1.2) a
      have h2 : Rds Z S (putV acc kv.1 kv.2) F ((dPut tacc kv.1.toT q2).map kvT) := Rds.to _ this.1 (fun m h => h) (fun m h => rfl) fun m h => h.elim id fun h => h.elim
      exact merge_ok kvs (acc := putV acc kv.1 kv.2) (tacc := dPut tacc kv.1.toT q2) (tvs := tvs) (by simpa using p.2) (Rds.to _ y (fun m h => h) (fun m h => rfl) f2) this.2 h2
theorem dLook_none {k : T} : ∀ {kvs : List (T × T)}, (∀ p ∈ kvs, T.norm p.1 ≠ T.norm k) → dLook kvs k = none
  | [], _ => rfl
  | (a, b) :: kvs, h => by
    simp only [dLook]
    rw [if_neg (h (a, b) (by simp))]
    exact dLook_none fun p hp => h p (by simp [hp])
theorem merge_dist : ∀ (tvs tacc : List (T × T)), (∀ p ∈ tacc, ∀ q ∈ tvs, T.norm p.1 ≠ T.norm q.1) → tvs.Pairwise (fun p q => T.norm p.1 ≠ T.norm q.1) → dMerge tacc tvs = tacc ++ tvs
  | [], tacc, _, _ => by simp [dMerge]
  | q :: tvs, tacc, h, p => by
    obtain ⟨p1, p2⟩ := List.pairwise_cons.mp p
    have e : dPut tacc q.1 q.2 = tacc ++ [q] := by
      unfold dPut
      rw [dLook_none fun x hx => h x hx q (by simp)]
      rfl
    have ih := merge_dist tvs (tacc ++ [q]) (fun x hx y hy => by
      rcases List.mem_append.mp hx with hx | hx
      · exact h x hx y (by simp [hy])
      · simp only [List.mem_singleton] at hx
        subst hx
        exact p1 y hy) p2
    show dMerge (dPut tacc q.1 q.2) tvs = _
    rw [e, ih]
    simp
theorem dist_ok : ∀ {kvs : List (V × V)}, distV kvs = true → kvs.Pairwise fun p q => T.norm p.1.toT ≠ T.norm q.1.toT
  | [], _ => .nil
  | kv :: kvs, h => by
    simp only [distV, Bool.and_eq_true, List.all_eq_true] at h
    refine .cons (fun q hq => ?_) (dist_ok h.2)
    have := h.1 q hq
    simpa [sameV] using this
theorem keysV_map : ∀ {kvs : List (V × V)}, kvs.all (fun kv => kv.1.plain) = true → keysV (kvs.map fun kv => V.tup [kv.1, kv.2]) = true
  | [], _ => rfl
  | kv :: kvs, h => by
    simp only [List.all_cons, Bool.and_eq_true] at h
    simp only [List.map_cons, keysV, h.1, keysV_map h.2, Bool.and_self]
theorem keys_ok {Z : Ps} {S : Sto} : ∀ {kvs : List (V × V)} {F : Ps} {tvs : List (T × T)}, kvs.all (fun kv => kv.1.plain) = true → Rds Z S (kvs.map fun kv => V.tup [kv.1, kv.2]) F (tvs.map kvT) → tvs.map (·.1) = kvs.map (fun kv => kv.1.toT)
  | [], F, tvs, p, h => by
    have := h.nil_inv
    simp only [List.map_eq_nil_iff] at this
    subst this
    rfl
  | kv :: kvs, F, tvs, p, ⟨t, ts', F1, F2, e, f1, f2, d, x, y⟩ => by
    cases tvs with
    | nil => simp at e
    | cons q tvs =>
      simp only [List.map_cons, List.cons.injEq] at e
      obtain ⟨rfl, rfl⟩ := e
      simp only [List.all_cons, Bool.and_eq_true] at p
      obtain ⟨e1, x1⟩ := x.pair p.1
      simp only [List.map_cons, e1, keys_ok p.2 y]
theorem dict_ok {Z : Ps} {S : Sto} {F : Ps} {tk : Bool} {kvs : List (V × V)} {tvs : List (T × T)} {r : V} (w : Wf Z S F) (h : Rds Z S (kvs.map fun kv => V.tup [kv.1, kv.2]) F (tvs.map kvT)) (e : dictV tk kvs = some r) :
    ∃ t S' F', dictOf tk tvs S = some (.ok t, S') ∧ Ext Z S F Z S' F' ∧ Rd Z S' r F' t := by
  unfold dictV at e
  cases c : (kvs.all (fun kv => keyV tk kv.1) && decide (kvs.length ≤ lineT)) with
  | false => rw [c] at e; cases e
  | true =>
    rw [c] at e
    simp only [Bool.and_eq_true] at c
    have kp : kvs.all (fun kv => kv.1.plain) = true := List.all_eq_true.mpr fun kv hkv => by
      have := List.all_eq_true.mp c.1 kv hkv
      simp only [keyV, Bool.and_eq_true] at this
      exact this.1
    have ke := keys_ok kp h
    have kl : tvs.length = kvs.length := by
      have := congrArg List.length ke
      simpa using this
    have ck : (tvs.all (fun kv => keyOk tk kv.1) && decide (tvs.length ≤ lineT)) = true := by
      rw [kl, Bool.and_eq_true]
      refine ⟨?_, c.2⟩
      have : (tvs.map (·.1)).all (fun k => keyOk tk k) = true := by
        rw [ke, List.all_map, List.all_eq_true]
        intro kv hkv
        have := List.all_eq_true.mp c.1 kv hkv
        simp only [keyV, Bool.and_eq_true] at this
        exact this.2
      simpa [List.all_map, Function.comp_def] using this
    have fin : ∀ vs, r = .dct true tk vs → keysV vs = true → Rds Z S vs F ((dMerge [] tvs).map kvT) → ∃ t S' F', dictOf tk tvs S = some (.ok t, S') ∧ Ext Z S F Z S' F' ∧ Rd Z S' r F' t := by
      intro vs er kv hv
      subst er
      exact ⟨_, _, _, by simp only [dictOf, ck, when_]; rfl, Ext.new w _, newD w kv hv⟩
    simp only [cond_true] at e
    cases c2 : kvs.all fun kv => kv.2.plain with
    | true =>
      rw [c2] at e
      cases e
      have := merge_ok kvs (acc := []) (tacc := []) (by
        rw [List.all_eq_true]
        intro kv hkv
        rw [List.all_eq_true.mp kp kv hkv, List.all_eq_true.mp c2 kv hkv]
        rfl) h rfl rfl
      exact fin _ rfl this.2 this.1
    | false =>
      rw [c2] at e
      cases c3 : distV kvs with
      | false => rw [c3] at e; cases e
      | true =>
        rw [c3] at e
        cases e
        have pd := dist_ok c3
        have pw : tvs.Pairwise fun p q => T.norm p.1 ≠ T.norm q.1 := by
          have a : (kvs.map fun kv => kv.1.toT).Pairwise fun p q => T.norm p ≠ T.norm q := List.pairwise_map.mpr pd
          rw [← ke] at a
          exact (List.pairwise_map (f := Prod.fst) (R := fun p q => T.norm p ≠ T.norm q)).mp a
        refine fin _ rfl (keysV_map kp) ?_
        rw [merge_dist tvs [] (fun p hp => by simp at hp) pw]
        exact h

theorem star_comm {A B : Asn} {Z : Ps} {S : Sto} {F : Ps} (h : (A ++ B).p Z S F) : (B ++ A).p Z S F := by
  obtain ⟨F1, F2, f1, f2, d, a, b⟩ := h
  exact ⟨F2, F1, f2, f1, fun m x y => d m y x, b, a⟩
theorem star_mono {A A' B B' : Asn} {Z : Ps} {S : Sto} {F : Ps} (h : (A ++ B).p Z S F) (x : ∀ G, A.p Z S G → A'.p Z S G) (y : ∀ G, B.p Z S G → B'.p Z S G) : (A' ++ B').p Z S F := by
  obtain ⟨F1, F2, f1, f2, d, a, b⟩ := h
  exact ⟨F1, F2, f1, f2, d, x _ a, y _ b⟩
theorem star_assoc' {A B C : Asn} {Z : Ps} {S : Sto} {F : Ps} (h : (A ++ (B ++ C)).p Z S F) : ((A ++ B) ++ C).p Z S F :=
  star_comm (star_mono (Sim.assoc (star_comm (star_mono h (fun _ h => h) fun _ h => star_comm h) |> fun h => h)) (fun _ h => h) fun _ h => star_comm h)
section
variable {α α' β β' : Type}
theorem Sim.pre {H H' : Asn} {σT : Sl} {m : M α} {mV : VM α'} {Q : α → α' → Asn} (h : ∀ Z S F, H'.p Z S F → H.p Z S F) (s : Sim H σT m mV Q) : Sim H' σT m mV Q := s.conseq (fun Z S F _ => h Z S F) fun _ _ _ _ _ _ h => h
theorem Sim.take {H : Asn} {σT : Sl} {m : M α} {i : Nat} {t : T} {f : V → VM α'} {Q : α → α' → Asn} (ht : σT[i]? = some (some t)) (k : ∀ c, Sim (H ++ rdAV t c) σT m (f c) Q) : Sim H σT m (seqV (takeV i) f) Q := by
  intro σ r σ' e Z S F w ⟨F1, F2, f1, f2, d, h, s⟩
  unfold seqV takeV at e
  cases ev : σ[i]? with
  | none => rw [ev] at e; cases e
  | some o =>
    cases o with
    | none => rw [ev] at e; cases e
    | some c =>
      rw [ev] at e
      obtain ⟨t', G1, G2, e1, g1, g2, gd, a, _, q⟩ := RdS.focus i s ev
      rw [ht] at e1
      cases e1
      exact k c _ r σ' e Z S F w ⟨fun m => F1 m ∨ G1 m, G2, fun m h => h.elim (f1 m) fun h => f2 m (g1 m h), fun m h => f2 m (g2 m h), fun m x y => x.elim (fun x => d m x (g2 m y)) fun x => gd m x y, ⟨F1, G1, fun m h => .inl h, fun m h => .inr h, fun m x y => d m x (g1 m y), h, a⟩, q⟩
theorem Sim.stepT {H : Asn} {σT : Sl} {m : M α} {a : α} {f : α → M β} {mV : VM β'} {Q : β → β' → Asn} (h : ∀ Z S F, H.p Z S F → m S = some (.ok a, S)) (k : Sim H σT (f a) mV Q) : Sim H σT (LS.seq m f) mV Q := by
  intro σ r σ' e Z S F w hs
  obtain ⟨rT, S', Z', F', e1, x, p⟩ := k σ r σ' e Z S F w hs
  exact ⟨rT, S', Z', F', by simp only [LS.seq, h Z S _ (star_l hs), e1], x, p⟩
theorem Sim.onH {H : Asn} {σT : Sl} {t : T} {v : V} {a b : M α} {a' b' : VM α'} {Q : α → α' → Asn} (x : Sim H σT a a' Q) (y : Sim H σT b b' Q) : Sim (rdAV t v ++ H) σT (LS.onB t a b) (onV v a' b') Q := by
  intro σ r σ' e Z S F w h
  obtain ⟨F1, F2, f1, f2, d, ⟨G1, G2, g1, g2, gd, hv, hh⟩, s⟩ := h
  unfold onV at e
  split at e
  · obtain rfl : t = .bl true := hv
    exact x σ r σ' e Z S F w ⟨G2, F2, fun m h => f1 m (g2 m h), f2, fun m x y => d m (g2 m x) y, hh, s⟩
  · obtain rfl : t = .bl false := hv
    exact y σ r σ' e Z S F w ⟨G2, F2, fun m h => f1 m (g2 m h), f2, fun m x y => d m (g2 m x) y, hh, s⟩
  · cases e
theorem num_ok {σT : Sl} {t : T} {v : V} : Sim (rdAV t v) σT (isNum t) (isNumV v) rdAV := by
  intro σ r σ' e Z S F w ⟨F1, F2, f1, f2, d, h, s⟩
  unfold isNumV at e
  split at e
  · obtain rfl : t = .int _ := h
    cases e
    exact ⟨_, S, Z, F, rfl, Ext.refl w, F1, F2, f1, f2, d, rfl, s⟩
  · cases e
theorem chain_ok {σT : Sl} {t u : T} {v w : V} {op : Prim} : Sim (rdAV t v ++ rdAV u w) σT (calmly (prim op [t, u])) (optV (primV op [v.frz, w.frz])) fun c r => rdAV c r ++ rdAV u w.frz := by
  intro σ r σ' e Z S F wf ⟨F1, F2, f1, f2, d, ⟨G1, G2, g1, g2, gd, hv, hw⟩, s⟩
  unfold optV at e
  split at e
  · cases e
    rename_i r' er
    have w1 : Wf (fun m => Z m ∨ F1 m) S no := ⟨fun m h => h.elim, fun m h => h.elim, fun m h => h.elim (wf.z m) fun h => wf.f m (f1 m h)⟩
    have w2 : Wf (fun m => Z m ∨ F1 m) S F2 := ⟨fun m h z => z.elim (wf.d m (f2 m h)) fun z => d m z h, fun m h => wf.f m (f2 m h), w1.z⟩
    have hw' : Rd (fun m => Z m ∨ F1 m) S w.frz no u := Rd.frz _ hw (fun m h => .inl h) fun m h => .inr (g2 m h)
    have a := Rds.cons_mk (F := no) (Rd.frz (Z' := fun m => Z m ∨ F1 m) (F' := no) v hv (fun m h => .inl h) fun m h => .inr (g1 m h)) (Rds.cons_mk (F := no) hw' (show Rds _ S [] no [] from rfl))
    obtain ⟨tc, S', F', e1, x, q⟩ := prim_ok w1 a er
    obtain ⟨x1, dd, kk⟩ := Ext.beside (F := F2) (G := F2) w2 (fun m h => h.elim) (fun m h => h) (fun m h => h.elim) x
    refine ⟨.ok tc, S', _, fun m => F' m ∨ F2 m, by simp only [calmly, e1], ⟨x1.len, fun m hm n => x1.fr m hm fun h => n (f2 m h), fun m h => x1.zz m (.inl h), fun m h => ?_, fun m h => (x1.fn m h).imp (f2 m) id, x1.wf⟩, F', F2, fun m h => .inl h, fun m h => .inr h, dd, ⟨F', no, fun m h => h, fun m h => h.elim, fun m _ h => h, q, Rd.to _ hw' (fun m h => x.zz m h) (fun m h => h.elim (fun h => h.elim) fun h => kk m (.inr h)) fun m h => h⟩, (slA σT _).to s (fun m h => x1.zz m (.inl h)) (fun m h => h.elim (fun h => kk m (.inl h)) fun h => kk m (.inr (.inl h))) fun m h => h⟩
    rcases x1.zn m h with h | h | h
    · exact h.imp id fun h => .inl (f1 m h)
    · exact .inr (.inl (f2 m h))
    · exact .inr (.inr h)
  · cases e
end
theorem seq_retR {α : Type} (m : M α) : seq m ret = m := by
  funext S
  simp only [seq]
  cases m S with
  | none => rfl
  | some r =>
    obtain ⟨r, S'⟩ := r
    cases r <;> rfl
section
variable {Φ : Fns} {Ψ : Fnv} {io : Nat → Bool}
theorem denE_var {σT : Sl} {i : Nat} : ∀ t, σT[i]? = some (some t) → denE Φ (.var i) σT = ret t := fun t h => by simp only [denE, h]
theorem denE_get {σT : Sl} {i : Nat} {ie : E} {t : T} (h : σT[i]? = some (some t)) : denE Φ (.app .get [.var i, ie]) σT = seq (denE Φ ie σT) fun tk => calmly (prim .get [t, tk]) := by
  simp only [denE, denEs, h, seq_ret, seq_assocV]
theorem its_ok {σT : Sl} {its : Its} {xs : List V} {own : List Nat} {p : P} (hp : ∀ i ∈ p.slots, i ∈ own) {tT eT : Sl → M T} {tV eV : VM V} (ht : ∀ τ, Sim emp τ (tT τ) tV rdAV) (he : ∀ τ, Sim emp τ (eT τ) eV rdAV) :
    Sim (itsA its xs) σT (seq (enter its.lock) fun _ => seq (calmly (compL its.chk (fun x => bindP p x (wipeT σT own)) tT eT its.xs)) fun ys => seq (leave its.lock) fun _ => when_ (decide (ys.length < lineT)) (new (.lst ys)))
      (fun σ => match calmV (compV own p tV eV xs) σ with
        | some (.ok ys, σ') => bif decide (ys.length < lineT) then some (.ok (.lst true ys), backV σ σ' own) else none
        | _ => none) rdAV := by
  intro σ r σ' e Z S F w ⟨F1, F2, f1, f2, d, ⟨hl, hx, hc⟩, s⟩
  dsimp only at e
  split at e
  · rename_i ys σ1 e1
    unfold calmV at e1
    split at e1
    · rename_i ys' σ1' e2
      cases e1
      cases c : decide (ys.length < lineT) with
      | false => rw [c] at e; cases e
      | true =>
        rw [c] at e
        cases e
        obtain ⟨us, S', Z', F', τ', h1, x, q, o⟩ := comp_ok (σT := σT) hp ht he xs e2 (w.sub f2) s ⟨rfl, fun _ _ => rfl⟩ hx hc
        obtain ⟨G1, G2, g1, g2, gd, qu, s1⟩ := q
        have hlen : us.length = ys.length := Rds.len qu
        rw [← hlen] at c
        have s2 := RdS.back s1 s own
        rw [rest_eq o] at s2
        have x' : Ext Z S F Z' S' F' := ⟨x.len, fun m hm n => x.fr m hm fun h => n (f2 m h), x.zz, fun m h => (x.zn m h).imp id (Or.imp (f2 m) id), fun m h => (x.fn m h).imp (f2 m) id, x.wf⟩
        have x3 := Ext.new (x.wf.sub g1) (.lst us)
        obtain ⟨x4, dd, kk⟩ := Ext.beside (F := F') (G := G2) x.wf g1 g2 gd x3
        refine ⟨.ok (.ref S'.length), _, Z', _, ?_, x'.trans x4, _, G2, fun m h => .inl h, fun m h => .inr h, dd, newL (x.wf.sub g1) qu, (slA σT _).to s2 (fun m h => h) kk fun m h => h⟩
        rw [hl]
        simp only [LS.seq, enter, leave, LS.ret, calmly, h1, when_, c, LS.new]
    · cases e1
  · cases e
/-- what stands behind the part that is asked for -/
def PostOk (σT : Sl) (m : M (List T)) (post : List Arg) : Prop := ∀ (σ : Vs) (Z : Ps) (S : Sto) (F : Ps) (ps : List V), Wf Z S F → RdS Z S σ F σT → getA σ post = some ps →
  ∃ (us : List T) (S' : Sto) (F' : Ps), m S = some (.ok us, S') ∧ Ext Z S no Z S' F' ∧ Rds (fun m => Z m ∨ F m ∨ F' m) S' ps no us
theorem PostOk.nil {σT : Sl} : PostOk σT (ret []) [] := fun σ Z S F ps w s e => by
  cases e
  exact ⟨[], S, no, rfl, Ext.refl (w.sub fun m h => h.elim), rfl⟩
theorem PostOk.con {σT : Sl} {t : T} (h : t.plain = true) : PostOk σT (ret [t]) [.v t.toV] := fun σ Z S F ps w s e => by
  simp only [getA, Option.map_some, Option.some.injEq] at e
  subst e
  refine ⟨[t], S, no, rfl, Ext.refl (w.sub fun m h => h.elim), .cons_mk ?_ rfl⟩
  rw [V.frz_plain _ (T.toV_plain t)]
  have := Rd.ofPlain (Z := fun m => Z m ∨ F m ∨ no m) (S := S) (F := no) t.toV (T.toV_plain t)
  rwa [T.toV_toT t h] at this
theorem PostOk.lst {σT : Sl} : PostOk σT (seq (new (.lst [])) fun u => ret [u]) [.v (.lst true [])] := fun σ Z S F ps w s e => by
  simp only [getA, Option.map_some, Option.some.injEq] at e
  subst e
  refine ⟨[.ref S.length], S ++ [.lst []], fun m => no m ∨ m = S.length, rfl, Ext.new (w.sub fun m h => h.elim) _, .cons_mk ?_ rfl⟩
  exact ⟨S.length, [], rfl, .inr (.inr (.inr rfl)), by simp, rfl⟩
theorem PostOk.var {σT : Sl} {j : Nat} {m : M T} (hm : ∀ t, σT[j]? = some (some t) → m = ret t) : PostOk σT (seq m fun u => ret [u]) [.s j] := fun σ Z S F ps w s e => by
  simp only [getA] at e
  split at e
  · rename_i v ev
    simp only [Option.map_some, Option.some.injEq] at e
    subst e
    obtain ⟨t, e1, a⟩ := lst_of s ev
    rw [hm t e1]
    exact ⟨[t], S, no, rfl, Ext.refl (w.sub fun m h => h.elim), .cons_mk (Rd.frz v a (fun m h => .inl h) fun m h => .inr (.inl h)) rfl⟩
  · cases e
theorem appP_ok {σT : Sl} {p : Prim} {as post : List Arg} {i : Nat} {t tk : T} {key : V} {ts : List T} {m : M (List T)} (hσ : σT[i]? = some (some t)) (hp : PostOk σT m post) :
    Sim (argA σT ts as ++ rdAV tk key) σT (seq (calmly (prim .get [t, tk])) fun tc => seq m fun us => calmly (prim p (ts ++ tc :: us))) (appP p as i key post) rdAV := by
  intro σ r σ' e Z S F w ⟨F1, F2, f1, f2, d, ⟨G1, G2, g1, g2, gd, ha, hk⟩, s⟩
  unfold appP at e
  split at e
  · rename_i vs c ps ev ec ep
    cases eg : primV .get [c.frz, key.frz] with
    | none => rw [eg] at e; cases e
    | some ch =>
      rw [eg] at e
      simp only at e
      cases er : primV p (vs ++ ch.frz :: ps) with
      | none => rw [er] at e; cases e
      | some r' =>
        rw [er] at e
        simp only at e
        cases hf : r'.flat with
        | false => rw [hf] at e; cases e
        | true =>
          rw [hf] at e
          cases e
          have w1 : Wf Z S fun m => G1 m ∨ F2 m := w.sub fun m h => h.elim (fun h => f1 m (g1 m h)) (f2 m)
          obtain ⟨N, G, n, g, dd, hv, q⟩ := freezeAll as w1 (fun m x y => d m (g1 m x) y) ha s ev
          -- all of it, frozen
          have wZ : Wf (fun m => Z m ∨ F m) S no := ⟨fun m h => h.elim, fun m h => h.elim, fun m h => h.elim (w.z m) (w.f m)⟩
          have hv' : Rds (fun m => Z m ∨ F m) S vs no ts := Rds.to _ hv (fun m h => h.imp id fun h => (n m h).elim (fun h => f1 m (g1 m h)) (f2 m)) (fun m h => rfl) fun m h => h
          obtain ⟨t', e1, a⟩ := lst_of s ec
          rw [hσ] at e1
          cases e1
          have hc : Rd (fun m => Z m ∨ F m) S c.frz no t := Rd.frz c a (fun m h => .inl h) fun m h => .inr (f2 m h)
          have hk' : Rd (fun m => Z m ∨ F m) S key.frz no tk := Rd.frz key hk (fun m h => .inl h) fun m h => .inr (f1 m (g2 m h))
          obtain ⟨tc, S1, H1, h1, x1, r1⟩ := prim_ok wZ (.cons_mk hc (.cons_mk (F := no) hk' (show Rds _ S [] no [] from rfl))) eg
          have keep1 : ∀ m, m < S.length → S1[m]? = S[m]? := fun m hm => x1.fr m hm id
          have wF : Wf Z S1 F2 := ⟨fun m h z => w.d m (f2 m h) z, fun m h => Nat.lt_of_lt_of_le (w.f m (f2 m h)) x1.len, fun m h => Nat.lt_of_lt_of_le (w.z m h) x1.len⟩
          have s1 : RdS Z S1 σ F2 σT := RdS.to _ s (fun m h => h) (fun m h => keep1 m (h.elim (fun h => w.f m (f2 m h)) (w.z m))) fun m h => h
          obtain ⟨us, S2, H2, h2, x2, hp2⟩ := hp σ Z S1 F2 ps wF s1 ep
          have keep2 : ∀ m, m < S1.length → S2[m]? = S1[m]? := fun m hm => x2.fr m hm id
          have w2 : Wf (fun m => Z m ∨ F m ∨ H1 m ∨ H2 m) S2 no := ⟨fun m h => h.elim, fun m h => h.elim, fun m h => by
            rcases h with h | h | h | h
            · exact Nat.lt_of_lt_of_le (w.z m h) (Nat.le_trans x1.len x2.len)
            · exact Nat.lt_of_lt_of_le (w.f m h) (Nat.le_trans x1.len x2.len)
            · exact Nat.lt_of_lt_of_le (x1.wf.f m h) x2.len
            · exact x2.wf.f m h⟩
          have rc : Rd (fun m => Z m ∨ F m ∨ H1 m ∨ H2 m) S2 ch.frz no tc := Rd.frz ch (Rd.to ch r1 (fun m h => h) (fun m h => keep2 m (h.elim (x1.wf.f m) (x1.wf.z m))) fun m h => h) (fun m h => h.imp id .inl) fun m h => .inr (.inr (.inl h))
          have rv : Rds (fun m => Z m ∨ F m ∨ H1 m ∨ H2 m) S2 vs no ts := Rds.to _ hv' (fun m h => h.imp id .inl) (fun m h => by
            have hm : m < S.length := h.elim (fun h => h.elim) (wZ.z m)
            rw [keep2 m (Nat.lt_of_lt_of_le hm x1.len), keep1 m hm]) fun m h => h
          have rp : Rds (fun m => Z m ∨ F m ∨ H1 m ∨ H2 m) S2 ps no us := Rds.to _ hp2 (fun m h => h.imp id (Or.imp (f2 m) .inr)) (fun m h => rfl) fun m h => h
          obtain ⟨tr, S3, H3, h3, x3, r3⟩ := prim_ok w2 (Rds.app (F := no) rv (.cons_mk (F := no) rc rp) (fun m h => h) (fun m h => h) fun m h => h.elim) er
          have keep3 : ∀ m, m < S2.length → S3[m]? = S2[m]? := fun m hm => x3.fr m hm id
          have keep : ∀ m, m < S.length → S3[m]? = S[m]? := fun m hm => by
            rw [keep3 m (Nat.lt_of_lt_of_le hm (Nat.le_trans x1.len x2.len)), keep2 m (Nat.lt_of_lt_of_le hm x1.len), keep1 m hm]
          have len : S.length ≤ S3.length := Nat.le_trans x1.len (Nat.le_trans x2.len x3.len)
          have fresh : ∀ m, H3 m → S.length ≤ m := fun m hm => Nat.le_trans (Nat.le_trans x1.len x2.len) ((x3.fn m hm).elim (fun h => h.elim) id)
          refine ⟨.ok tr, S3, Z, fun m => H3 m ∨ F2 m, by simp only [LS.seq, calmly, h1, h2, h3], ⟨len, fun m hm _ => keep m hm, fun m h => h, fun m h => .inl h, fun m h => h.elim (fun h => .inr (fresh m h)) fun h => .inl (f2 m h), fun m h z => ?_, fun m h => ?_, fun m h => Nat.lt_of_lt_of_le (w.z m h) len⟩, H3, F2, fun m h => .inl h, fun m h => .inr h, fun m h y => ?_, Rd.flat hf r3 fun m h => rfl, (slA σT _).to s (fun m h => h) (fun m h => keep m (h.elim (fun h => w.f m (f2 m h)) (w.z m))) fun m h => h⟩
          · rcases h with h | h
            · have := fresh m h
              have := w.z m z
              omega
            · exact w.d m (f2 m h) z
          · rcases h with h | h
            · exact x3.wf.f m h
            · exact Nat.lt_of_lt_of_le (w.f m (f2 m h)) len
          · have := fresh m h
            have := w.f m (f2 m y)
            omega
  · cases e
theorem arg1_ok {σT : Sl} {e : E} (h : Sim emp σT (denE Φ e σT) (denV Ψ io e) rdAV) : Sim emp σT (denE Φ e σT) (match e.var? with
      | some i => seeS i
      | none => seqV (denV Ψ io e) fun v => retV (.v v)) fun t a => argA σT [t] [a] := by
  cases e with
  | var i => exact seeS_ok denE_var
  | _ =>
    rw [← seq_retR (denE _ _ _)]
    exact Sim.seq h fun t v => Sim.ret fun Z S F w h => ⟨t, [], F, no, rfl, fun m h => h, fun m h => h.elim, fun m _ h => h, h, rfl⟩
def keyTV (Φ : Fns) : E → Sl → M T
  | .app .get [_, e], σ => denE Φ e σ
  | _, _ => fail
theorem at1_eq {e : E} {i : Nat} (h : e.at1 = some i) : ∃ ie, e = .app .get [.var i, ie] := by
  unfold E.at1 at h
  split at h
  · cases h
    exact ⟨_, rfl⟩
  · cases h
theorem appP0 {p : Prim} {e : E} {i : Nat} {σT : Sl} {r : List E} {post : List Arg} (he : e.at1 = some i) (hr : PostOk σT (denEs Φ r σT) post) (hk : Sim emp σT (keyTV Φ e σT) (denKey Ψ io e) rdAV) :
    Sim emp σT (seq (denEs Φ (e :: r) σT) fun ts => calmly (prim p ts)) (seqV (seeS i) fun _ => seqV (denKey Ψ io e) fun key => appP p [] i key post) rdAV := by
  obtain ⟨ie, rfl⟩ := at1_eq he
  rcases hσ : σT[i]? with _ | _ | t
  · exact Sim.seeS_none fun t => by rw [hσ]; simp
  · exact Sim.seeS_none fun t => by rw [hσ]; simp
  · have e1 : (seq (denEs Φ (.app .get [.var i, ie] :: r) σT) fun ts => calmly (prim p ts)) = seq (ret t) fun _ => seq (denE Φ ie σT) fun tk => seq (calmly (prim .get [t, tk])) fun tc => seq (denEs Φ r σT) fun us => calmly (prim p ([] ++ tc :: us)) := by
      simp only [denEs, denE_get hσ, seq_assocV, seq_ret, List.nil_append]
    rw [e1]
    exact Sim.seq (Q := fun _ _ => emp) (Sim.conseq (seeS_ok fun t' h => by rw [hσ] at h; cases h; rfl) (fun _ _ _ _ h => h) fun _ _ _ _ _ _ _ => trivial) fun _ _ => Sim.seq (Q := rdAV) hk fun tk key => (appP_ok hσ hr).pre fun Z S F h => (⟨no, F, fun m h => h.elim, fun m h => h, fun m h => h.elim, rfl, h⟩ : (argA σT [] [] ++ rdAV tk key).p Z S F)
theorem path0 {p : Prim} {e : E} {i : Nat} {σT : Sl} (h : pathK [e] = some (i, false)) (hk : Sim emp σT (keyTV Φ e σT) (denKey Ψ io e) rdAV) :
    Sim emp σT (seq (denEs Φ [e] σT) fun ts => calmly (prim p ts)) (seqV (seeS i) fun _ => seqV (denFk Ψ io [e]) fun key => appP p [] i key (postOf [e])) rdAV := by
  simp only [pathK, Option.map_eq_some_iff, Prod.mk.injEq, and_true] at h
  obtain ⟨j, h, rfl⟩ := h
  have h2 := h
  obtain ⟨ie, rfl⟩ := at1_eq h
  exact appP0 (r := []) (post := []) h2 (by simp only [denEs]; exact PostOk.nil) hk
theorem path02 {p : Prim} {e e2 : E} {i : Nat} {σT : Sl} (h : pathK [e, e2] = some (i, false)) (hk : Sim emp σT (keyTV Φ e σT) (denKey Ψ io e) rdAV) :
    Sim emp σT (seq (denEs Φ [e, e2] σT) fun ts => calmly (prim p ts)) (seqV (seeS i) fun _ => seqV (denFk Ψ io [e, e2]) fun key => appP p [] i key (postOf [e, e2])) rdAV := by
  simp only [pathK] at h
  have : e.at1 = some i ∧ simpE e2 = true := by
    split at h
    · split at h
      · rename_i h1 _ h2
        cases h
        exact ⟨h1, h2⟩
      · obtain ⟨_, _, h⟩ := Option.map_eq_some_iff.mp h
        cases h
    · obtain ⟨_, _, h⟩ := Option.map_eq_some_iff.mp h
      cases h
  obtain ⟨h1, h2⟩ := this
  have h3 := h1
  obtain ⟨ie, rfl⟩ := at1_eq h1
  refine appP0 (r := [e2]) (post := postE e2) h3 ?_ hk
  simp only [denEs, seq_ret]
  unfold simpE at h2
  split at h2
  · simp only [denE, denEs, postE, seq_assocV, seq_ret]
    exact PostOk.lst
  · simp only [denE, postE, seq_ret]
    exact PostOk.con h2
  · simp only [postE]
    exact PostOk.var denE_var
  · cases h2
theorem path10 {p : Prim} {e : E} {i : Nat} {σT : Sl} (h : pathK [e] = some (i, true)) : Sim emp σT (seq (denEs Φ [e] σT) fun ts => calmly (prim p ts)) (seqV (denAs1 Ψ io [e]) fun as => seqV (seeS i) fun _ => seqV (denSk Ψ io [e]) fun key => appP p as i key []) rdAV := by
  simp only [pathK] at h
  obtain ⟨_, _, h⟩ := Option.map_eq_some_iff.mp h
  cases h
theorem path1 {p : Prim} {e e2 : E} {i : Nat} {σT : Sl} (h : pathK [e, e2] = some (i, true)) (h1 : Sim emp σT (denE Φ e σT) (denV Ψ io e) rdAV) (hk : Sim emp σT (keyTV Φ e2 σT) (denKey Ψ io e2) rdAV) :
    Sim emp σT (seq (denEs Φ [e, e2] σT) fun ts => calmly (prim p ts)) (seqV (denAs1 Ψ io [e, e2]) fun as => seqV (seeS i) fun _ => seqV (denSk Ψ io [e, e2]) fun key => appP p as i key []) rdAV := by
  have he : e2.at1 = some i := by
    simp only [pathK] at h
    split at h
    · split at h
      · cases h
      · obtain ⟨_, h1, h⟩ := Option.map_eq_some_iff.mp h
        cases h
        exact h1
    · obtain ⟨_, h1, h⟩ := Option.map_eq_some_iff.mp h
      cases h
      exact h1
  obtain ⟨ie, rfl⟩ := at1_eq he
  simp only [denAs1, seqV_assoc, seqV_ret]
  have e1 : (seq (denEs Φ [e, .app .get [.var i, ie]] σT) fun ts => calmly (prim p ts)) = seq (denE Φ e σT) fun t0 => seq (denE Φ (.app .get [.var i, ie]) σT) fun tc => seq (ret []) fun us => calmly (prim p ([t0] ++ tc :: us)) := by
    simp only [denEs, seq_assocV, seq_ret, List.cons_append, List.nil_append]
  rw [e1]
  refine Sim.seq (arg1_ok h1) fun t0 a => ?_
  rcases hσ : σT[i]? with _ | _ | t
  · exact Sim.seeS_none fun t => by rw [hσ]; simp
  · exact Sim.seeS_none fun t => by rw [hσ]; simp
  · have e2 : (seq (denE Φ (.app .get [.var i, ie]) σT) fun tc => seq (ret []) fun us => calmly (prim p ([t0] ++ tc :: us))) = seq (ret t) fun _ => seq (denE Φ ie σT) fun tk => seq (calmly (prim .get [t, tk])) fun tc => seq (ret []) fun us => calmly (prim p ([t0] ++ tc :: us)) := by
      rw [denE_get hσ, seq_assocV]
      rfl
    rw [e2]
    exact Sim.seq (Q := fun _ _ => argA σT [t0] [a]) (Sim.conseq (Sim.emp' (H := argA σT [t0] [a]) (seeS_ok fun t' h => by rw [hσ] at h; cases h; rfl)) (fun _ _ _ _ h => h) fun _ _ _ _ _ _ h => star_l h) fun _ _ => Sim.seq (Sim.emp' hk) fun tk key => (appP_ok hσ PostOk.nil).pre fun Z S F h => h
theorem keyG (q : Prim) (as : List E) (σT : Sl) (h : ∀ a e, as = [a, e] → False) : Sim emp σT (keyTV Φ (.app q as) σT) (denKey Ψ io (.app q as)) rdAV := by
  unfold denKey
  split
  · rename_i heq
    cases heq
    exact (h _ _ rfl).elim
  · exact Sim.fail
theorem keyG2 (q : Prim) (a e : E) (σT : Sl) (h : Sim emp σT (denE Φ e σT) (denV Ψ io e) rdAV) : Sim emp σT (keyTV Φ (.app q [a, e]) σT) (denKey Ψ io (.app q [a, e])) rdAV := by
  unfold denKey
  split
  · rename_i heq
    cases heq
    exact h
  · exact Sim.fail
theorem simM (k : Ty) (p : Prim) (q : Prim) (as : List E) (es : List E) (σT : Sl) (hG : Sim emp σT (keyTV Φ (.app q as) σT) (denKey Ψ io (.app q as)) rdAV) (hes : Sim emp σT (denEs Φ es σT) (denVs Ψ io es) rdsA) : Sim emp σT (denE Φ (.meth k p (.app q as) es) σT) (match (E.app q as).at0, (E.app q as).at1 with
      | some i, _ => seqV (seeV k i) fun _ => seqV (denVs Ψ io es) fun vs => seqV (takeV i) fun c => seqV (optV (mutV k p c vs)) fun r => seqV (putS i r.2) fun _ => retV r.1
      | none, some i => seqV (seeS i) fun _ => seqV (denKey Ψ io (.app q as)) fun key => seqV (takeV i) fun c => seqV (optV (partV c key)) fun ch => bif kindV k ch then seqV (denVs Ψ io es) fun vs =>
          seqV (optV (mutV k p ch vs)) fun r => seqV (optV (withV c key r.2)) fun c' => seqV (putS i c') fun _ => retV r.1 else failV
      | none, none => failV) rdAV := by
    simp only [E.at0, E.at1]
    split
    · rename_i h; cases h
    · rename_i i h1 h2
      split at h2
      · rename_i j ie heq
        cases h2
        cases heq
        simp only [denKey]
        rcases hσ : σT[i]? with _ | _ | t
        · exact Sim.seeS_none fun t => by rw [hσ]; simp
        · exact Sim.seeS_none fun t => by rw [hσ]; simp
        · rw [denE, denE_get hσ, seq_assocV, ← seq_ret t fun _ => LS.seq (denE Φ ie σT) _]
          refine Sim.seq (m := ret t) (Q := fun _ _ => emp) (Sim.conseq (seeS_ok fun t' h => by rw [hσ] at h; cases h; rfl) (fun _ _ _ _ h => h) fun _ _ _ _ _ _ _ => trivial) fun _ _ => ?_
          refine Sim.seq (Q := rdAV) hG fun tk key => Sim.take hσ fun c => Sim.seq (part_ok (H := emp)) fun tc ch => Sim.bif (fun hk => ?_) fun _ => Sim.fail
          refine Sim.stepT (a := ()) (fun Z S F h => kind_ok (show Rd Z S ch F tc from star_l h) hk) ?_
          refine Sim.seq (Sim.emp' hes) fun ts vs => ?_
          rw [← seq_retR (calmly _)]
          refine Sim.seq (Q := fun tr r => rdAV tr r.1 ++ (rdAV tc r.2 ++ holeA t c key tc)) ?_ fun tr r => back_ok hσ fun Z S F h => h
          refine Sim.conseq (Sim.frame (K := holeA t c key tc) mut1_ok) (fun Z S F w h => ?_) fun a a' Z S F w h => ?_
          · exact star_mono (Sim.assoc (star_mono h (fun _ h => star_comm h) fun _ h => h)) (fun _ h => h) fun _ h => h
          · exact Sim.assoc (star_comm h)
      · cases h2
    · exact Sim.fail
mutual
theorem simE (FO : FnsOk Φ Ψ io) : ∀ (e : E) (σT : Sl), Sim emp σT (denE Φ e σT) (denV Ψ io e) rdAV
  | .var i, σT => by
    simp only [denV]
    exact var_ok denE_var
  | .con t, σT => by
    simp only [denV, denE]
    exact opt_plain
  | .glo _ t, σT => by
    simp only [denV, denE]
    exact opt_plain
  | .tup es, σT => by
    simp only [denV, denE]
    exact Sim.seq (simEs FO es σT) fun ts vs => Sim.ret fun Z S F w h => ⟨ts, rfl, h⟩
  | .lst es, σT => by
    simp only [denV, denE]
    exact Sim.seq (simEs FO es σT) fun ts vs => Sim.newL fun Z S F w h => h
  | .tupS ss es, σT => by
    simp only [denV, denE]
    refine Sim.seq (simSt FO es ss σT) fun ts vs => Sim.optP fun r e Z S F w h => ?_
    obtain ⟨c, e⟩ := whenO_some e
    cases e
    have hl : ts.length = vs.length := Rds.len h
    rw [← hl] at c
    exact ⟨.tup ts, by simp only [when_, c]; rfl, ts, rfl, h⟩
  | .lstS ss es, σT => by
    simp only [denV, denE]
    refine Sim.seq (simSt FO es ss σT) fun ts vs => Sim.opt fun r e Z S F w h => ?_
    obtain ⟨c, e⟩ := whenO_some e
    cases e
    have hl : ts.length = vs.length := Rds.len h
    rw [← hl] at c
    exact ⟨_, _, _, by simp only [when_, c]; rfl, Ext.new w _, newL w h⟩
  | .dct tk es, σT => by
    simp only [denV, denE]
    refine Sim.seq (simEs FO es σT) fun ts vs => Sim.opt fun r e Z S F w h => ?_
    obtain ⟨kvs, e1, e2⟩ := Option.bind_eq_some_iff.mp e
    obtain ⟨tvs, e3, h3⟩ := pairUp_okV h e1
    obtain ⟨t, S', F', e4, x, q⟩ := dict_ok w h3 e2
    exact ⟨t, S', F', by simp only [LS.seq, e3, LS.opt, e4], x, q⟩
  | .app p es, σT => by
    simp only [denV, denE]
    split
    · rename_i i hk
      match es with
      | [] => cases hk
      | [e] => exact path0 hk (simG FO e σT)
      | [e, e2] => exact path02 hk (simG FO e σT)
      | _ :: _ :: _ :: _ => cases hk
    · rename_i i hk
      match es with
      | [] => cases hk
      | [e] => exact path10 hk
      | [e, e2] => exact path1 hk (simE FO e σT) (simG FO e2 σT)
      | _ :: _ :: _ :: _ => cases hk
    · exact Sim.seq (simAs FO es σT) fun ts as => app_ok
  | .num e, σT => by
    simp only [denV, denE]
    exact Sim.seq (simE FO e σT) fun t v => num_ok
  | .meth k p o es, σT => by
    simp only [denV]
    refine Sim.bif (fun hp => ?_) fun hp => ?_
    · cases o with
      | var j =>
        simp only [E.at0]
        rcases hσ : σT[j]? with _ | _ | t
        · exact Sim.seeV_none fun t => by rw [hσ]; simp
        · exact Sim.seeV_none fun t => by rw [hσ]; simp
        · simp only [denE, hσ, seq_ret]
          exact Sim.seq (seeV_ok hσ) fun _ _ => Sim.seq (simEs FO es σT) fun ts vs => mut0_ok hσ
      | app q as => exact simM k p q as es σT (simG2 FO q as σT) (simEs FO es σT)
      | _ => exact Sim.fail
    · simp only [denE]
      refine Sim.seq (arg1_ok (simE FO o σT)) fun t a => Sim.seq askK_ok fun _ _ => ?_
      refine Sim.seq (Sim.emp' (simAs FO es σT)) fun ts as => ?_
      exact app_ok.conseq (fun Z S F w h => app_arg h) fun _ _ _ _ _ _ h => h
  | .call f es, σT => by
    simp only [denV, denE]
    refine Sim.bif (fun hf => ?_) fun hf => ?_
    · match es with
      | [] => exact Sim.fail
      | .var i :: es =>
        simp only [headVar, denTl, denEs]
        rcases hσ : σT[i]? with _ | _ | t
        · exact Sim.seeS_none fun t => by rw [hσ]; simp
        · exact Sim.seeS_none fun t => by rw [hσ]; simp
        · rw [denE_var t hσ, seq_ret, seq_assocV]
          exact Sim.seq (m := ret t) (Sim.pre (fun _ _ _ h => h) (seeS_ok fun t' h => by rw [hσ] at h; cases h; rfl)) fun _ _ => Sim.seq (Sim.emp'' (simEs FO es σT)) fun ts vs => askIO_ok FO hf hσ
      | .con _ :: _ => exact Sim.fail
      | .glo _ _ :: _ => exact Sim.fail
      | .tup _ :: _ => exact Sim.fail
      | .lst _ :: _ => exact Sim.fail
      | .tupS _ _ :: _ => exact Sim.fail
      | .lstS _ _ :: _ => exact Sim.fail
      | .dct _ _ :: _ => exact Sim.fail
      | .app _ _ :: _ => exact Sim.fail
      | .num _ :: _ => exact Sim.fail
      | .meth _ _ _ _ :: _ => exact Sim.fail
      | .call _ _ :: _ => exact Sim.fail
      | .callK _ _ _ _ :: _ => exact Sim.fail
      | .and _ :: _ => exact Sim.fail
      | .or _ :: _ => exact Sim.fail
      | .not _ :: _ => exact Sim.fail
      | .chain _ _ _ :: _ => exact Sim.fail
      | .ite _ _ _ :: _ => exact Sim.fail
      | .comp _ _ _ _ _ :: _ => exact Sim.fail
      | .tupI _ :: _ => exact Sim.fail
      | .lstI _ :: _ => exact Sim.fail
      | .dctI _ _ :: _ => exact Sim.fail
    · exact Sim.seq (simEs FO es σT) fun ts vs => ask_ok FO hf
  | .callK f es ks perm, σT => by
    simp only [denV, denE]
    refine Sim.bif (fun hf => Sim.fail) fun hf => ?_
    simp only [Bool.or_eq_false_iff, Bool.not_eq_false', decide_eq_true_eq] at hf
    refine Sim.seq (simEs FO es σT) fun a a' => Sim.seq (Sim.emp' (simEs FO ks σT)) fun b b' => Sim.seq (Q := rdsA) (Sim.optP fun vs e Z S F w h => ?_) fun ts vs => ask_ok FO hf.1
    obtain ⟨F1, F2, f1, f2, d, h1, h2⟩ := h
    obtain ⟨us, e1, h3⟩ := perm_ok perm hf.2 (Rds.app h1 h2 f1 f2 d) e
    exact ⟨us, by simp only [LS.opt, e1], h3⟩
  | .and es, σT => by
    simp only [denV, denE]
    exact simAnd FO es σT
  | .or es, σT => by
    simp only [denV, denE]
    exact simOr FO es σT
  | .not e, σT => by
    simp only [denV, denE]
    exact Sim.seq (simE FO e σT) fun t v => Sim.onB (H := emp) (Sim.ret fun _ _ _ _ _ => rfl) (Sim.ret fun _ _ _ _ _ => rfl)
  | .chain e ops es, σT => by
    simp only [denV, denE]
    exact Sim.seq (simE FO e σT) fun t v => simCh FO es ops t v σT
  | .ite c a b, σT => by
    simp only [denV, denE]
    exact Sim.seq (simE FO c σT) fun t v => Sim.onB (H := emp) (simE FO a σT) (simE FO b σT)
  | .comp e own p it cs, σT => by
    simp only [denV, denE]
    refine Sim.bif (fun hp => ?_) fun hp => Sim.fail
    exact Sim.seq (simI FO it σT) fun its xs => its_ok (fun i hi => of_decide_eq_true (List.all_eq_true.mp hp i hi)) (fun τ => simAnd1 FO cs τ) (fun τ => simE FO e τ)
  | .tupI it, σT => by
    simp only [denV, denE]
    refine Sim.seq (simI FO it σT) fun its xs => Sim.optP fun r e Z S F w h => ?_
    obtain ⟨c, e⟩ := whenO_some e
    cases e
    have hl : its.xs.length = xs.length := Rds.len h.2.1
    rw [← hl] at c
    exact ⟨.tup its.xs, by simp only [when_, c]; rfl, _, rfl, h.2.1.no_iff⟩
  | .lstI it, σT => by
    simp only [denV, denE]
    refine Sim.seq (simI FO it σT) fun its xs => Sim.opt fun r e Z S F w h => ?_
    obtain ⟨c, e⟩ := whenO_some e
    cases e
    have hl : its.xs.length = xs.length := Rds.len h.2.1
    rw [← hl] at c
    exact ⟨_, _, _, by simp only [when_, c]; rfl, Ext.new w _, newL w h.2.1.no_iff⟩
  | .dctI tk it, σT => by
    simp only [denV, denE]
    refine Sim.seq (simI FO it σT) fun its xs => Sim.opt fun r e Z S F w h => ?_
    obtain ⟨kvs, e1, e2⟩ := Option.bind_eq_some_iff.mp e
    obtain ⟨tvs, e3, h3⟩ := pairs_ok h.2.1 e1
    obtain ⟨t, S', F', e4, x, q⟩ := dict_ok w h3.no_iff e2
    exact ⟨t, S', F', by simp only [LS.seq, e3, LS.opt, e4], x, q⟩
theorem simEs (FO : FnsOk Φ Ψ io) : ∀ (e : List E) (σT : Sl), Sim emp σT (denEs Φ e σT) (denVs Ψ io e) rdsA
  | [], σT => by
    simp only [denVs, denEs]
    exact Sim.ret fun Z S F w h => rfl
  | e :: es, σT => by
    simp only [denVs, denEs]
    exact Sim.seq (simE FO e σT) fun t v => Sim.seq (Sim.emp' (simEs FO es σT)) fun ts vs => Sim.ret fun Z S F w h => cons_ok h
theorem simG (FO : FnsOk Φ Ψ io) : ∀ (e : E) (σT : Sl), Sim emp σT (keyTV Φ e σT) (denKey Ψ io e) rdAV
  | .app q as, σT => simG2 FO q as σT
  | .var _, σT => Sim.fail
  | .con _, σT => Sim.fail
  | .glo _ _, σT => Sim.fail
  | .tup _, σT => Sim.fail
  | .lst _, σT => Sim.fail
  | .tupS _ _, σT => Sim.fail
  | .lstS _ _, σT => Sim.fail
  | .dct _ _, σT => Sim.fail
  | .num _, σT => Sim.fail
  | .meth _ _ _ _, σT => Sim.fail
  | .call _ _, σT => Sim.fail
  | .callK _ _ _ _, σT => Sim.fail
  | .and _, σT => Sim.fail
  | .or _, σT => Sim.fail
  | .not _, σT => Sim.fail
  | .chain _ _ _, σT => Sim.fail
  | .ite _ _ _, σT => Sim.fail
  | .comp _ _ _ _ _, σT => Sim.fail
  | .tupI _, σT => Sim.fail
  | .lstI _, σT => Sim.fail
  | .dctI _ _, σT => Sim.fail
theorem simG2 (FO : FnsOk Φ Ψ io) : ∀ (q : Prim) (as : List E) (σT : Sl), Sim emp σT (keyTV Φ (.app q as) σT) (denKey Ψ io (.app q as)) rdAV
  | q, [], σT => keyG q [] σT fun a e h => by cases h
  | q, [_], σT => keyG q _ σT fun a e h => by cases h
  | q, [a, e], σT => keyG2 q a e σT (simE FO e σT)
  | q, _ :: _ :: _ :: _, σT => keyG q _ σT fun a e h => by cases h
theorem simAs (FO : FnsOk Φ Ψ io) : ∀ (e : List E) (σT : Sl), Sim emp σT (denEs Φ e σT) (denAs Ψ io e) (argA σT)
  | [], σT => by
    simp only [denAs, denEs]
    exact Sim.ret fun Z S F w h => rfl
  | e :: es, σT => by
    simp only [denAs, denEs]
    exact Sim.seq (arg1_ok (simE FO e σT)) fun t a => Sim.seq (Sim.emp' (simAs FO es σT)) fun ts as => Sim.ret fun Z S F w h => app_arg h
theorem simSt (FO : FnsOk Φ Ψ io) : ∀ (e : List E) (ss : List Bool) (σT : Sl), Sim emp σT (denStars Φ e ss σT) (denStV Ψ io e ss) rdsA
  | [], [], σT => by
    simp only [denStV, denStars]
    exact Sim.ret fun Z S F w h => rfl
  | e :: es, false :: ss, σT => by
    simp only [denStV, denStars]
    exact Sim.seq (simE FO e σT) fun t v => Sim.seq (Sim.emp' (simSt FO es ss σT)) fun ts vs => Sim.ret fun Z S F w h => cons_ok h
  | e :: es, true :: ss, σT => by
    simp only [denStV, denStars]
    refine Sim.seq (simE FO e σT) fun t v => Sim.seq (Q := rdsA) (Sim.optP fun xs e Z S F w h => ?_) fun us xs => Sim.seq (Sim.emp' (simSt FO es ss σT)) fun ts vs => Sim.ret fun Z S F w h => ?_
    · obtain ⟨ts, G, e1, g, h1⟩ := itemsOf_okV h e
      exact ⟨ts, e1, Rds.to _ h1 (fun m h => h) (fun m h => rfl) g⟩
    · obtain ⟨F1, F2, f1, f2, d, a, b⟩ := h
      exact Rds.app a b f1 f2 d
  | [], _ :: _, σT => Sim.fail
  | _ :: _, [], σT => by
    simp only [denStV]
    exact Sim.fail
theorem simAnd (FO : FnsOk Φ Ψ io) : ∀ (e : List E) (σT : Sl), Sim emp σT (denAnd Φ e σT) (denAndV Ψ io e) rdAV
  | [], σT => Sim.fail
  | [e], σT => by
    simp only [denAnd, denAndV]
    exact simE FO e σT
  | e :: e2 :: es, σT => by
    simp only [denAnd, denAndV]
    exact Sim.seq (simE FO e σT) fun t v => Sim.onB (H := emp) (simAnd FO (e2 :: es) σT) (Sim.ret fun _ _ _ _ _ => rfl)
theorem simAnd1 (FO : FnsOk Φ Ψ io) : ∀ (e : List E) (σT : Sl), Sim emp σT (denAnd1 Φ e σT) (denAnd1V Ψ io e) rdAV
  | [], σT => by
    simp only [denAnd1, denAnd1V]
    exact Sim.ret fun _ _ _ _ _ => rfl
  | [e], σT => by
    simp only [denAnd1, denAnd1V]
    exact simE FO e σT
  | e :: e2 :: es, σT => Sim.fail
theorem simOr (FO : FnsOk Φ Ψ io) : ∀ (e : List E) (σT : Sl), Sim emp σT (denOr Φ e σT) (denOrV Ψ io e) rdAV
  | [], σT => Sim.fail
  | [e], σT => by
    simp only [denOr, denOrV]
    exact simE FO e σT
  | e :: e2 :: es, σT => by
    simp only [denOr, denOrV]
    exact Sim.seq (simE FO e σT) fun t v => Sim.onB (H := emp) (Sim.ret fun _ _ _ _ _ => rfl) (simOr FO (e2 :: es) σT)
theorem simCh (FO : FnsOk Φ Ψ io) : ∀ (es : List E) (ops : List Prim) (t : T) (v : V) (σT : Sl), Sim (rdAV t v) σT (denChain Φ t ops es σT) (denChV Ψ io v ops es) rdAV
  | [], ops, t, v, σT => by
    cases ops with
    | nil => exact Sim.fail
    | cons op ops => cases ops <;> exact Sim.fail
  | [e], ops, t, v, σT => by
    cases ops with
    | nil => exact Sim.fail
    | cons op ops =>
      cases ops with
      | nil =>
        simp only [denChain, denChV]
        exact Sim.seq (Sim.emp' (simE FO e σT)) fun u w => chain_ok.conseq (fun _ _ _ _ h => h) fun _ _ _ _ _ _ h => star_l h
      | cons op2 ops =>
        simp only [denChain, denChV]
        refine Sim.seq (Sim.emp' (simE FO e σT)) fun u w => Sim.seq chain_ok fun c r => Sim.onH ?_ (Sim.ret fun _ _ _ _ _ => rfl)
        cases ops <;> exact Sim.fail
  | e :: e2 :: es, ops, t, v, σT => by
    cases ops with
    | nil => exact Sim.fail
    | cons op ops =>
      simp only [denChain, denChV]
      exact Sim.seq (Sim.emp' (simE FO e σT)) fun u w => Sim.seq chain_ok fun c r => Sim.onH (simCh FO (e2 :: es) ops u w.frz σT) (Sim.ret fun _ _ _ _ _ => rfl)
theorem simI (FO : FnsOk Φ Ψ io) : ∀ (it : I) (σT : Sl), Sim emp σT (denI Φ it σT) (denIV Ψ io it) itsA
  | .val e, σT => by
    simp only [denI, denIV]
    exact Sim.seq (simE FO e σT) fun t v => Sim.freeze fun xs e Z S F w h => itsOf_ok' h e
  | .range es, σT => by
    simp only [denI, denIV]
    refine Sim.seq (simEs FO es σT) fun ts vs => Sim.optP fun xs e Z S F w h => ?_
    obtain ⟨us, e1, h1⟩ := range_ok h e
    exact ⟨⟨us, [], none⟩, by simp only [LS.seq, e1, LS.opt]; rfl, rfl, h1, fun p hp => by simp at hp⟩
  | .enum e, σT => by
    simp only [denI, denIV]
    refine Sim.seq (simE FO e σT) fun t v => Sim.freeze fun xs e Z S F w h => ?_
    obtain ⟨ys, e1, rfl⟩ := Option.map_eq_some_iff.mp e
    obtain ⟨its, e2, h1, h2, h3⟩ := seqOf_okV h e1
    exact ⟨⟨enumT 0 its.xs, its.chk, none⟩, by simp only [LS.seq, e2]; rfl, rfl, enum_ok 0 h2, h3⟩
  | .zip a b, σT => by
    simp only [denI, denIV]
    refine Sim.seq (simE FO a σT) fun t v => Sim.seq (Sim.emp' (simE FO b σT)) fun u w => Sim.freeze fun xs e Z S F wf h => ?_
    obtain ⟨F1, F2, f1, f2, d, h1, h2⟩ := h
    obtain ⟨its, e1, q⟩ := zipOf_ok h1 h2 e
    refine ⟨its, e1, (itsA its xs).to q (fun m h => ?_) (fun m h => rfl) fun m h => h⟩
    rcases h with h | h | h
    · exact .inl h
    · exact .inr (f1 m h)
    · exact .inr (f2 m h)
  | .items _, σT => by
    simp only [denIV]
    exact Sim.fail
  | .values _, σT => by
    simp only [denIV]
    exact Sim.fail
end
end
end LS
end

section
set_option Elab.async false
set_option linter.all false
set_option maxRecDepth 100000
set_option maxHeartbeats 4000000
/-! LS.VS: statements and defs, side by side. -/
namespace LS
open PySem (Str PyData)
def flA : Fl → FV → Asn
  | .nx, .nx => emp
  | .bk, .bk => emp
  | .ct, .ct => emp
  | .rt t, .rt v => rdAV t v
  | _, _ => pureA False
/-- slot 0 stays, where it may be changed for the caller -/
def Lk (lk : Bool) (σ σ' : Sl) : Prop := lk = true → σ'[0]? = σ[0]?
def Res3 (σ' : Vs) : Except (Exn × Sl) (Fl × Sl) → Except VX FV → Asn
  | .ok (f, τ), .ok f' => flA f f' ++ slA τ σ'
  | .error (x, τ), .error x' => xA x x' ++ slA τ σ'
  | _, _ => pureA False
def slOf : Except (Exn × Sl) (Fl × Sl) → Sl
  | .ok (_, τ) => τ
  | .error (_, τ) => τ
def SimS (lk : Bool) (H : Asn) (σT : Sl) (m : SM) (mV : VM FV) : Prop :=
  ∀ (σ : Vs) (r : Except VX FV) (σ' : Vs), mV σ = some (r, σ') → ∀ (Z : Ps) (S : Sto) (F : Ps), Wf Z S F → (H ++ slA σT σ).p Z S F →
    ∃ (rT : Except (Exn × Sl) (Fl × Sl)) (S' : Sto) (Z' F' : Ps), m S = some (rT, S') ∧ Ext Z S F Z' S' F' ∧ (Res3 σ' rT r).p Z' S' F' ∧ Lk lk σT (slOf rT)
section
variable {lk : Bool} {α α' : Type}
theorem SimS.sx {H : Asn} {σT : Sl} {m : M α} {mV : VM α'} {f : α → SM} {fV : α' → VM FV} {Q : α → α' → Asn} (s : Sim H σT m mV Q) (k : ∀ a a', SimS lk (Q a a') σT (f a) (fV a')) : SimS lk H σT (sx σT m f) (seqV mV fV) := by
  intro σ r σ' e Z S F w h
  unfold seqV at e
  split at e
  · cases e
  · rename_i x σ1 e1
    cases e
    obtain ⟨rT, S', Z', F', e2, x2, p⟩ := s _ _ _ e1 Z S F w h
    cases rT with
    | ok a => exact p.elim
    | error y => exact ⟨.error (y, σT), S', Z', F', by simp only [LS.sx, e2], x2, p, fun _ => rfl⟩
  · rename_i a' σ1 e1
    obtain ⟨rT, S', Z', F', e2, x2, p⟩ := s _ _ _ e1 Z S F w h
    cases rT with
    | error y => exact p.elim
    | ok a =>
      obtain ⟨rT, S2, Z2, F2, e3, x3, p, l⟩ := k a a' _ _ _ e Z' S' F' x2.wf p
      exact ⟨rT, S2, Z2, F2, by simp only [LS.sx, e2]; exact e3, x2.trans x3, p, l⟩
theorem SimS.ret {H : Asn} {σT : Sl} {f : Fl} {f' : FV} (q : ∀ Z S F, Wf Z S F → H.p Z S F → (flA f f').p Z S F) : SimS lk H σT (sret f σT) (retV f') := by
  intro σ r σ' e Z S F w ⟨F1, F2, f1, f2, d, h, s⟩
  cases e
  exact ⟨.ok (f, σT), S, Z, F, rfl, Ext.refl w, ⟨F1, F2, f1, f2, d, q Z S F1 (w.sub f1) h, s⟩, fun _ => rfl⟩
theorem SimS.fail {H : Asn} {σT : Sl} {m : SM} : SimS lk H σT m failV := by
  intro σ r σ' e
  cases e
theorem SimS.bif {H : Asn} {σT : Sl} {m : SM} {c : Bool} {a b : VM FV} (x : c = true → SimS lk H σT m a) (y : c = false → SimS lk H σT m b) : SimS lk H σT m (bif c then a else b) := by
  cases c with
  | true => exact x rfl
  | false => exact y rfl
theorem SimS.pre {H H' : Asn} {σT : Sl} {m : SM} {mV : VM FV} (h : ∀ Z S F, H'.p Z S F → H.p Z S F) (s : SimS lk H σT m mV) : SimS lk H' σT m mV := by
  intro σ r σ' e Z S F w ⟨F1, F2, f1, f2, d, hh, hs⟩
  exact s σ r σ' e Z S F w ⟨F1, F2, f1, f2, d, h _ _ _ hh, hs⟩
theorem SimS.sseq {H : Asn} {σT : Sl} {m : SM} {mV : VM FV} {g : Fl → Sl → SM} {gV : FV → VM FV} (s : SimS lk H σT m mV) (k : ∀ f f' τ, SimS lk (flA f f') τ (g f τ) (gV f')) : SimS lk H σT (sseq m g) (seqV mV gV) := by
  intro σ r σ' e Z S F w h
  unfold seqV at e
  split at e
  · cases e
  · rename_i x σ1 e1
    cases e
    obtain ⟨rT, S', Z', F', e2, x2, p, l⟩ := s _ _ _ e1 Z S F w h
    cases rT with
    | ok a => exact p.elim
    | error y => exact ⟨.error y, S', Z', F', by simp only [LS.sseq, e2], x2, p, l⟩
  · rename_i a' σ1 e1
    obtain ⟨rT, S', Z', F', e2, x2, p, l⟩ := s _ _ _ e1 Z S F w h
    cases rT with
    | error y => exact p.elim
    | ok a =>
      obtain ⟨f, τ⟩ := a
      obtain ⟨rT, S2, Z2, F2, e3, x3, p, l2⟩ := k f a' τ _ _ _ e Z' S' F' x2.wf p
      exact ⟨rT, S2, Z2, F2, by simp only [LS.sseq, e2]; exact e3, x2.trans x3, p, fun h => by rw [l2 h]; exact l h⟩
theorem SimS.onB {H : Asn} {σT : Sl} {t : T} {v : V} {a b : SM} {a' b' : VM FV} (x : SimS lk emp σT a a') (y : SimS lk emp σT b b') : SimS lk (rdAV t v) σT (sonB t a b) (onV v a' b') := by
  intro σ r σ' e Z S F w h
  obtain ⟨F1, F2, f1, f2, d, h, s⟩ := h
  unfold onV at e
  split at e
  · obtain rfl : t = .bl true := h
    exact x σ r σ' e Z S F w ⟨F1, F2, f1, f2, d, trivial, s⟩
  · obtain rfl : t = .bl false := h
    exact y σ r σ' e Z S F w ⟨F1, F2, f1, f2, d, trivial, s⟩
  · cases e
theorem SimS.turn {f : Fl} {f' : FV} {τ : Sl} {a : Sl → SM} {a' : VM FV} (k : ∀ τ, SimS lk emp τ (a τ) a') : SimS lk (flA f f') τ (turn a f τ) (turnV a' f') := by
  intro σ r σ' e Z S F w ⟨F1, F2, f1, f2, d, h, s⟩
  cases f with
  | nx => cases f' with
    | nx => exact k τ σ r σ' e Z S F w ⟨F1, F2, f1, f2, d, trivial, s⟩
    | _ => exact h.elim
  | ct => cases f' with
    | ct => exact k τ σ r σ' e Z S F w ⟨F1, F2, f1, f2, d, trivial, s⟩
    | _ => exact h.elim
  | bk => cases f' with
    | bk => cases e; exact ⟨_, S, Z, F, rfl, Ext.refl w, ⟨F1, F2, f1, f2, d, trivial, s⟩, fun _ => rfl⟩
    | _ => exact h.elim
  | rt t => cases f' with
    | rt v => cases e; exact ⟨_, S, Z, F, rfl, Ext.refl w, ⟨F1, F2, f1, f2, d, h, s⟩, fun _ => rfl⟩
    | _ => exact h.elim
/-- a slot is stored anew -/
theorem set_ok {σT : Sl} {i : Nat} {t : T} {v : V} (hk : okS lk i = true) : SimS lk (rdAV t v) σT (if i < σT.length then sret .nx (σT.set i (some t)) else sfail) (seqV (putS i v) fun _ => retV .nx) := by
  intro σ r σ' e Z S F w ⟨F1, F2, f1, f2, d, h, s⟩
  simp only [seqV, putS] at e
  by_cases hl : i < σ.length
  · simp only [hl, if_true, retV, Option.some.injEq, Prod.mk.injEq] at e
    obtain ⟨rfl, rfl⟩ := e
    have hl' : i < σT.length := by rw [RdS.len s]; exact hl
    refine ⟨.ok (.nx, σT.set i (some t)), S, Z, F, by simp only [hl', if_true]; rfl, Ext.refl w, ⟨no, F, fun m h => h.elim, fun m h => h, fun m h => h.elim, trivial, RdS.put i s f2 f1 (fun m x y => d m x y) h⟩, fun hlk => ?_⟩
    subst hlk
    simp only [okS, Bool.true_and, Bool.not_eq_true', beq_eq_false_iff_ne] at hk
    exact List.getElem?_set_ne hk
  · simp only [hl, if_false] at e
    cases e
theorem unp_ok {σT : Sl} {p : P} {t : T} {v : V} {f : Sl → SM} {fV : VM FV} (hk : p.slots.all (okS lk) = true) (k : ∀ τ, SimS lk emp τ (f τ) fV) : SimS lk (rdAV t v) σT (sx σT (bindP p t σT) f) (seqV (bindM p v) fun _ => fV) := by
  intro σ r σ' e Z S F w ⟨F1, F2, f1, f2, d, h, s⟩
  simp only [seqV, bindM] at e
  cases eb : bindV p v σ with
  | none => rw [eb] at e; cases e
  | some σ1 =>
    rw [eb] at e
    obtain ⟨τ, b1, b2, b3, b4⟩ := bind_okV p eb h s d
    have w1 : Wf Z S fun m => F2 m ∨ F1 m := w.sub fun m h => h.elim (f2 m) (f1 m)
    obtain ⟨rT, S', Z', F', e1, x, q, l⟩ := k τ _ _ _ e Z S _ w1 ⟨no, fun m => F2 m ∨ F1 m, fun m h => h.elim, fun m h => h, fun m h => h.elim, trivial, b2⟩
    refine ⟨rT, S', Z', F', by simp only [LS.sx, bindP, b1, LS.opt]; exact e1, ⟨x.len, fun m hm n => x.fr m hm fun h => n (h.elim (f2 m) (f1 m)), x.zz, fun m h => (x.zn m h).imp id (Or.imp (fun h => h.elim (f2 m) (f1 m)) id), fun m h => (x.fn m h).imp (fun h => h.elim (f2 m) (f1 m)) id, x.wf⟩, q, fun hlk => ?_⟩
    rw [l hlk]
    refine b4 0 fun h0 => ?_
    have := List.all_eq_true.mp hk 0 h0
    rw [hlk] at this
    cases this
theorem for_ok {p : P} {chk : List (Nat × Cell)} {body : Sl → SM} {bodyV : VM FV} (hk : p.slots.all (okS lk) = true) (hb : ∀ τ, SimS lk emp τ (body τ) bodyV) :
    ∀ (xs : List V) {σ : Vs} {r : Except VX FV} {σ' : Vs}, forV p bodyV xs σ = some (r, σ') → ∀ {Z : Ps} {S : Sto} {F : Ps} {ts : List T} {σT : Sl}, Wf Z S F → RdS Z S σ F σT → Rds Z S xs no ts → (∀ p ∈ chk, Z p.1 ∧ S[p.1]? = some p.2) →
      ∃ (rT : Except (Exn × Sl) (Fl × Sl)) (S' : Sto) (Z' F' : Ps), forL chk (fun x σ => bindP p x σ) body ts σT S = some (rT, S') ∧ Ext Z S F Z' S' F' ∧ (Res3 σ' rT r).p Z' S' F' ∧ Lk lk σT (slOf rT)
  | [], σ, r, σ', e, Z, S, F, ts, σT, w, s, h, c => by
    cases e
    rw [h.nil_inv]
    exact ⟨.ok (.nx, σT), S, Z, F, by simp only [forL, LS.sx, check_okV c]; rfl, Ext.refl w, ⟨no, F, fun m h => h.elim, fun m h => h, fun m h => h.elim, trivial, s⟩, fun _ => rfl⟩
  | x :: xs, σ, r, σ', e, Z, S, F, ts, σT, w, s, h, c => by
    obtain ⟨t, ts', rfl, a, b⟩ := h.cons_inv
    simp only [forV, seqV, bindM] at e
    cases eb : bindV p x σ with
    | none => rw [eb] at e; cases e
    | some σ1 =>
      rw [eb] at e
      simp only at e
      obtain ⟨τ, b1, b2, b3, b4⟩ := bind_okV p eb a s fun m h => h.elim
      have b2' : RdS Z S _ F τ := RdS.to _ b2 (fun m h => h) (fun m h => rfl) fun m h => h.elim id fun h => h.elim
      have l1 : Lk lk σT τ := fun hlk => b4 0 fun h0 => by
        have := List.all_eq_true.mp hk 0 h0
        rw [hlk] at this
        cases this
      cases e2 : bodyV σ1 with
      | none => rw [e2] at e; cases e
      | some q =>
        obtain ⟨r2, σ2⟩ := q
        obtain ⟨rT, S2, Z2, F2, h2, x2, q2, l2⟩ := hb τ _ _ _ e2 Z S F w ⟨no, F, fun m h => h.elim, fun m h => h, fun m h => h.elim, trivial, b2'⟩
        rw [e2] at e
        cases r2 with
        | error y =>
          cases e
          cases rT with
          | ok a => exact q2.elim
          | error z =>
            refine ⟨.error z, S2, Z2, F2, ?_, x2, q2, fun hlk => (l2 hlk).trans (l1 hlk)⟩
            simp only [forL, LS.sx, check_okV c, bindP, b1, LS.opt, LS.sseq, h2]
        | ok f' =>
          cases rT with
          | error z => exact q2.elim
          | ok fz =>
            obtain ⟨f, τ2⟩ := fz
            have kk := SimS.turn (lk := lk) (f := f) (f' := f') (τ := τ2) (a := forL chk (fun x σ => bindP p x σ) body ts') (a' := fun σ => forV p bodyV xs σ)
            have b3' : Rds Z2 S2 xs no ts' := b.keeps w x2
            have c2 := chk_keeps w x2 c
            simp only at e
            obtain ⟨G1, G2, g1, g2, gd, hf, s2⟩ := q2
            have done : ∀ (o : Option (Except (Exn × Sl) (Fl × Sl) × Sto)), forL chk (fun x σ => bindP p x σ) body (t :: ts') σT S = LS.turn (forL chk (fun x σ => bindP p x σ) body ts') f τ2 S2 := by
              intro _
              simp only [forL, LS.sx, check_okV c, bindP, b1, LS.opt, LS.sseq, h2]
            rw [done none]
            have goon : f = .nx ∨ f = .ct → f' = .nx ∨ f' = .ct → forV p bodyV xs σ2 = some (r, σ') → ∃ (rT : Except (Exn × Sl) (Fl × Sl)) (S' : Sto) (Z' F' : Ps), LS.turn (forL chk (fun x σ => bindP p x σ) body ts') f τ2 S2 = some (rT, S') ∧ Ext Z S F Z' S' F' ∧ (Res3 σ' rT r).p Z' S' F' ∧ Lk lk σT (slOf rT) := by
              intro hf1 _ e3
              obtain ⟨rT, S3, Z3, F3, h3, x3, q3, l3⟩ := for_ok hk hb xs e3 (x2.less g2).wf s2 b3' c2
              refine ⟨rT, S3, Z3, F3, ?_, (x2.less g2).trans x3, q3, fun hlk => ((l3 hlk).trans (l2 hlk)).trans (l1 hlk)⟩
              rcases hf1 with rfl | rfl <;> exact h3
            cases f with
            | nx => cases f' with
              | nx => exact goon (.inl rfl) (.inl rfl) e
              | _ => exact hf.elim
            | ct => cases f' with
              | ct => exact goon (.inr rfl) (.inr rfl) e
              | _ => exact hf.elim
            | bk => cases f' with
              | bk => cases e; exact ⟨_, S2, Z2, F2, rfl, x2, ⟨G1, G2, g1, g2, gd, trivial, s2⟩, fun hlk => (l2 hlk).trans (l1 hlk)⟩
              | _ => exact hf.elim
            | rt t => cases f' with
              | rt v => cases e; exact ⟨_, S2, Z2, F2, rfl, x2, ⟨G1, G2, g1, g2, gd, hf, s2⟩, fun hlk => (l2 hlk).trans (l1 hlk)⟩
              | _ => exact hf.elim
theorem while_ok {tst : Sl → M T} {tstV : VM V} {body : Sl → SM} {bodyV : VM FV} (ht : ∀ τ, Sim emp τ (tst τ) tstV rdAV) (hb : ∀ τ, SimS lk emp τ (body τ) bodyV) : ∀ (n : Nat) (σT : Sl), SimS lk emp σT (whileN tst body n σT) (whileV tstV bodyV n)
  | 0, σT => SimS.fail
  | n + 1, σT => by
    simp only [whileN, whileV]
    exact SimS.sx (ht σT) fun t v => SimS.onB (H := emp) (SimS.sseq (hb σT) fun f f' τ => SimS.turn fun τ => while_ok ht hb n τ) (SimS.ret fun _ _ _ _ _ => trivial)
theorem sub0_ok {σT : Sl} {t tk tv : T} {k v : V} {j : Nat} (hσ : σT[j]? = some (some t)) : SimS lk (rdAV tv v ++ rdAV tk k) σT (sx σT (setSub t tk tv) fun _ => sret .nx σT) (seqV (takeV j) fun c => seqV (optV (subV c k v)) fun c' => seqV (putS j c') fun _ => retV .nx) := by
  intro σ r σ' e Z S F w ⟨F1, F2, f1, f2, d, ⟨H1, H2, h1, h2, hd, hv, hk⟩, s⟩
  simp only [seqV, takeV] at e
  rcases ev : σ[j]? with _ | _ | c
  · rw [ev] at e; cases e
  · rw [ev] at e; cases e
  · rw [ev] at e
    simp only [optV] at e
    cases em : subV c k v with
    | none => rw [em] at e; cases e
    | some c' =>
      rw [em] at e
      have hl : j < (σ.set j none).length := by simpa using (List.getElem?_eq_some_iff.mp ev).1
      simp only [putS, hl, if_true, retV, Option.some.injEq, Prod.mk.injEq] at e
      obtain ⟨rfl, rfl⟩ := e
      obtain ⟨t', G1, G2, e1, g1, g2, gd, a, kk, _⟩ := RdS.focus j s ev
      rw [hσ] at e1
      cases e1
      have w1 : Wf Z S fun m => G1 m ∨ H1 m := w.sub fun m h => h.elim (fun h => f2 m (g1 m h)) fun h => f1 m (h1 m h)
      obtain ⟨S', e2, el, ek, rb⟩ := subV_ok w1 (fun m x y => d m (h1 m y) (g1 m x)) a hk hv em
      have keep : ∀ m, G2 m ∨ Z m → S'[m]? = S[m]? := fun m hm => ek m fun g => hm.elim (fun hm => gd m g hm) fun hm => w1.d m (.inl g) hm
      have q := kk Z S' (fun m => G1 m ∨ H1 m) (fun m => (G1 m ∨ H1 m) ∨ G2 m) c' (fun m h => h) keep (fun m x y => x.elim (fun x => gd m x y) fun x => d m (h1 m x) (g2 m y)) (fun m h => .inl h) (fun m h => .inr h) rb
      have es : (σ.set j none).set j (some c') = σ.set j (some c') := List.set_set ..
      rw [es]
      refine ⟨.ok (.nx, σT), S', Z, fun m => (G1 m ∨ H1 m) ∨ G2 m, by simp only [LS.sx, e2]; rfl, ⟨Nat.le_of_eq el.symm, fun m _ hm => ek m fun g => hm (f2 m (g1 m g)), fun m h => h, fun m h => .inl h, fun m h => .inl ?_, ⟨fun m h z => ?_, fun m h => ?_, fun m h => by rw [el]; exact w.z m h⟩⟩, ⟨no, _, fun m h => h.elim, fun m h => h, fun m h => h.elim, trivial, q⟩, fun _ => rfl⟩
      · exact h.elim (fun h => h.elim (fun h => f2 m (g1 m h)) fun h => f1 m (h1 m h)) fun h => f2 m (g2 m h)
      · exact h.elim (fun h => w1.d m h z) fun h => w.d m (f2 m (g2 m h)) z
      · rw [el]
        exact h.elim (fun h => w1.f m h) fun h => w.f m (f2 m (g2 m h))
/-- o[..][k] = v -/
theorem sub1_ok {σT : Sl} {t tc tk tv : T} {c key ch k v : V} {j : Nat} (hσ : σT[j]? = some (some t)) : SimS lk (rdAV tv v ++ ((rdAV tc ch ++ holeA t c key tc) ++ rdAV tk k)) σT (sx σT (setSub tc tk tv) fun _ => sret .nx σT)
    (seqV (optV (subV ch k v)) fun ch' => seqV (optV (withV c key ch')) fun c' => seqV (putS j c') fun _ => retV .nx) := by
  refine SimS.sx (Q := fun _ ch' => rdAV tc ch' ++ holeA t c key tc) ?_ fun _ ch' => ?_
  · refine Sim.opt fun ch' e Z S F w h => ?_
    obtain ⟨F1, F2, f1, f2, d, hv, G1, G2, g1, g2, gd, ⟨H1, H2, h1, h2, hd, hc, ho⟩, hk⟩ := h
    have w1 : Wf Z S fun m => H1 m ∨ F1 m := w.sub fun m h => h.elim (fun h => f2 m (g1 m (h1 m h))) (f1 m)
    obtain ⟨S', e2, el, ek, rb⟩ := subV_ok w1 (fun m x y => d m y (g1 m (h1 m x) |> f2 m |> fun _ => g1 m (h1 m x))) hc hk hv e
    have x : Ext Z S (fun m => H1 m ∨ F1 m) Z S' (fun m => H1 m ∨ F1 m) := ⟨Nat.le_of_eq el.symm, fun m _ hm => ek m fun g => hm (.inl g), fun m h => h, fun m h => .inl h, fun m h => .inl h, ⟨fun m h z => w1.d m h z, fun m h => by rw [el]; exact w1.f m h, fun m h => by rw [el]; exact w.z m h⟩⟩
    obtain ⟨x1, dd, kk⟩ := Ext.beside (F := F) (G := H2) w (fun m h => h.elim (fun h => f2 m (g1 m (h1 m h))) (f1 m)) (fun m h => f2 m (g1 m (h2 m h))) (fun m x y => x.elim (fun x => hd m x y) fun x => d m x (g1 m (h2 m y))) x
    exact ⟨(), S', _, e2, x1, _, H2, fun m h => .inl h, fun m h => .inr h, dd, rb, (holeA t c key tc).to ho (fun m h => h) kk fun m h => h⟩
  · have := back_ok (H := emp) (i := j) (tc := tc) (c := c) (key := key) (ch := ch') hσ (a := ()) (a' := FV.nx) (Q := fun _ _ => emp) fun _ _ _ _ => trivial
    intro σ r σ' e Z S F w h
    have h' : ((emp ++ (rdAV tc ch' ++ holeA t c key tc)) ++ slA σT σ).p Z S F := star_mono h (fun G h => ⟨no, G, fun m h => h.elim, fun m h => h, fun m h => h.elim, trivial, h⟩) fun _ h => h
    obtain ⟨rT, S', Z', F', e1, x, q⟩ := this σ r σ' e Z S F w h'
    cases e1
    cases r with
    | error y => exact q.elim
    | ok f =>
      refine ⟨.ok (.nx, σT), S, Z', F', rfl, x, ?_, fun _ => rfl⟩
      have hf : f = .nx := by
        simp only [seqV, optV] at e
        split at e
        · cases e
        · cases e
        · rename_i e1
          simp only [putS] at e
          split at e
          · cases e
          · cases e
          · cases e; rfl
      subst hf
      exact q
end
theorem out_ok {σT : Sl} {i : Nat} {mT : M T} (hm : ∀ t, σT[i]? = some (some t) → mT = ret t) : Sim emp σT mT (outV i) rdAV := by
  intro σ r σ' e Z S F w ⟨F1, F2, f1, f2, d, h, s⟩
  unfold outV at e
  split at e
  · rename_i v ev
    obtain ⟨t, G1, G2, e1, g1, g2, gd, a, _, q⟩ := RdS.focus i s ev
    cases hp : v.plain with
    | true =>
      rw [hp] at e
      cases e
      have := (Rd.plain (Z' := Z) (S' := S) (F' := no) v hp a)
      rw [hm t e1]
      exact ⟨.ok t, S, Z, F, rfl, Ext.refl w, no, F2, fun m h => h.elim, f2, fun m h => h.elim, this.2, s⟩
    | false =>
      rw [hp] at e
      cases e
      rw [hm t e1]
      exact ⟨.ok t, S, Z, F, rfl, Ext.refl w, G1, G2, fun m h => f2 m (g1 m h), fun m h => f2 m (g2 m h), gd, a, q⟩
  · cases e
section
variable {Φ : Fns} {Ψ : Fnv} {io : Nat → Bool} {sub : Nat → Nat → Bool} {N : Nat} {lk : Bool}
theorem sx_ret {α : Type} {σT : Sl} {a : α} {f : α → SM} : LS.sx σT (LS.ret a) f = f a := rfl
theorem SimS.seeS_none {σT : Sl} {i : Nat} {H : Asn} {m : SM} {f : Arg → VM FV} (h : ∀ t, σT[i]? ≠ some (some t)) : SimS lk H σT m (seqV (seeS i) f) := by
  intro σ r σ' e Z S F w ⟨F1, F2, f1, f2, d, hh, s⟩
  have : ∀ v, σ[i]? ≠ some (some v) := fun v => not_var h s
  unfold seqV seeS at e
  split at e
  · cases e
  · rename_i e1
    split at e1
    · cases e1
    · cases e1
  · rename_i e1
    split at e1
    · rename_i v ev; exact absurd ev (this v)
    · cases e1
theorem SimS.take {H : Asn} {σT : Sl} {m : SM} {i : Nat} {t : T} {f : V → VM FV} (ht : σT[i]? = some (some t)) (k : ∀ c, SimS lk (H ++ rdAV t c) σT m (f c)) : SimS lk H σT m (seqV (takeV i) f) := by
  intro σ r σ' e Z S F w ⟨F1, F2, f1, f2, d, h, s⟩
  unfold seqV takeV at e
  rcases ev : σ[i]? with _ | _ | c
  · rw [ev] at e; cases e
  · rw [ev] at e; cases e
  · rw [ev] at e
    obtain ⟨t', G1, G2, e1, g1, g2, gd, a, _, q⟩ := RdS.focus i s ev
    rw [ht] at e1
    cases e1
    exact k c _ r σ' e Z S F w ⟨fun m => F1 m ∨ G1 m, G2, fun m h => h.elim (f1 m) fun h => f2 m (g1 m h), fun m h => f2 m (g2 m h), fun m x y => x.elim (fun x => d m x (g2 m y)) fun x => gd m x y, ⟨F1, G1, fun m h => .inl h, fun m h => .inr h, fun m x y => d m x (g1 m y), h, a⟩, q⟩
theorem see_step {H : Asn} {σT : Sl} {j : Nat} {t : T} {m : SM} {f : VM FV} (hσ : σT[j]? = some (some t)) (k : SimS lk H σT m f) : SimS lk H σT m (seqV (seeS j) fun _ => f) := by
  intro σ r σ' e Z S F w hs
  refine k σ r σ' ?_ Z S F w hs
  simp only [seqV, seeS] at e
  rcases ev : σ[j]? with _ | _ | c
  · rw [ev] at e; cases e
  · rw [ev] at e; cases e
  · rw [ev] at e; exact e
theorem simSub (FO : FnsOk Φ Ψ io) : ∀ (o i e : E) (σT : Sl), SimS lk emp σT (denS Φ sub N (.sub o i e) σT) (stV Ψ io sub N lk (.sub o i e)) := by
  intro o i e σT
  cases o with
  | var j =>
    simp only [denS, stV, E.at0]
    refine SimS.sx (simE FO e σT) fun tv v => ?_
    rcases hσ : σT[j]? with _ | _ | t
    · exact SimS.seeS_none fun t => by rw [hσ]; simp
    · exact SimS.seeS_none fun t => by rw [hσ]; simp
    · rw [denE_var t hσ, sx_ret]
      exact see_step hσ (SimS.sx (Sim.emp' (simE FO i σT)) fun tk k => sub0_ok hσ)
  | app q as =>
    simp only [denS, stV, E.at0, E.at1]
    split
    · rename_i h; cases h
    · rename_i j h1 h2
      split at h2
      · rename_i j ie heq
        cases h2
        cases heq
        refine SimS.sx (simE FO e σT) fun tv v => ?_
        rcases hσ : σT[j]? with _ | _ | t
        · exact SimS.seeS_none fun t => by rw [hσ]; simp
        · exact SimS.seeS_none fun t => by rw [hσ]; simp
        · refine see_step hσ ?_
          have e1 : ∀ f, LS.sx σT (denE Φ (.app .get [.var j, ie]) σT) f = LS.sx σT (denE Φ ie σT) fun tk => LS.sx σT (calmly (prim .get [t, tk])) f := by
            intro f
            rw [denE_get hσ]
            funext St
            simp only [LS.sx, LS.seq]
            cases denE Φ ie σT St with
            | none => rfl
            | some r =>
              obtain ⟨r, S'⟩ := r
              cases r <;> rfl
          rw [e1]
          simp only [denKey]
          refine SimS.sx (Sim.emp' (simE FO ie σT)) fun tk key => SimS.take hσ fun c => ?_
          refine SimS.sx (Q := fun tc ch => rdAV tv v ++ (rdAV tc ch ++ holeA t c key tc)) (Sim.pre (fun Z S F h => ?_) (Sim.frame (K := rdAV tv v) (part_ok (H := emp)))) fun tc ch => ?_
          · exact Sim.assoc h
          · refine SimS.sx (Sim.emp' (simE FO i σT)) fun tk2 k => SimS.pre (fun Z S F h => Sim.assoc h) (sub1_ok hσ)
      · cases h2
    · exact SimS.fail
  | _ =>
    simp only [denS, stV, E.at0, E.at1]
    exact SimS.fail
mutual
theorem simS (FO : FnsOk Φ Ψ io) : ∀ (s : S) (σT : Sl), SimS lk emp σT (denS Φ sub N s σT) (stV Ψ io sub N lk s)
  | .exp e, σT => by
    simp only [denS, stV]
    exact SimS.sx (simE FO e σT) fun _ _ => SimS.ret fun _ _ _ _ _ => trivial
  | .set i e, σT => by
    simp only [denS, stV]
    exact SimS.bif (fun hk => SimS.sx (simE FO e σT) fun t v => set_ok hk) fun _ => SimS.fail
  | .unp p e, σT => by
    simp only [denS, stV]
    exact SimS.bif (fun hk => SimS.sx (simE FO e σT) fun t v => unp_ok hk fun τ => SimS.ret fun _ _ _ _ _ => trivial) fun _ => SimS.fail
  | .sub o i e, σT => simSub FO o i e σT
  | .ife c a b, σT => by
    simp only [denS, stV]
    exact SimS.sx (simE FO c σT) fun t v => SimS.onB (H := emp) (simSs FO a σT) (simSs FO b σT)
  | .whl c b, σT => by
    simp only [denS, stV]
    exact while_ok (fun τ => simE FO c τ) (fun τ => simSs FO b τ) N σT
  | .for p it b, σT => by
    simp only [denS, stV]
    refine SimS.bif (fun hk => ?_) fun _ => SimS.fail
    refine SimS.sx (simI FO it σT) fun its xs => ?_
    intro σ r σ' e Z S F w ⟨F1, F2, f1, f2, d, ⟨h1, h2, h3⟩, s⟩
    rw [h1]
    obtain ⟨rT, S', Z', F', e1, x, q, l⟩ := for_ok hk (fun τ => simSs FO b τ) xs e (w.sub f2) s h2 h3
    exact ⟨rT, S', Z', F', e1, ⟨x.len, fun m hm n => x.fr m hm fun h => n (f2 m h), x.zz, fun m h => (x.zn m h).imp id (Or.imp (f2 m) id), fun m h => (x.fn m h).imp (f2 m) id, x.wf⟩, q, l⟩
  | .ret e, σT => by
    cases e with
    | var i =>
      simp only [denS, stV, E.var?]
      exact SimS.sx (out_ok denE_var) fun t v => SimS.ret fun _ _ _ _ h => h
    | _ =>
      simp only [denS, stV, E.var?]
      exact SimS.sx (simE FO _ σT) fun t v => SimS.ret fun _ _ _ _ h => h
  | .retN, σT => by
    simp only [denS, stV]
    exact SimS.ret fun _ _ _ _ h => rfl
  | .pass, σT => by
    simp only [denS, stV]
    exact SimS.ret fun _ _ _ _ h => trivial
  | .cont, σT => by
    simp only [denS, stV]
    exact SimS.ret fun _ _ _ _ h => trivial
  | .brk, σT => by
    simp only [denS, stV]
    exact SimS.ret fun _ _ _ _ h => trivial
  | .raise c es, σT => by
    simp only [denS, stV]
    refine SimS.sx (simEs FO es σT) fun ts vs => ?_
    intro σ r σ' e Z S F w ⟨F1, F2, f1, f2, d, h, s⟩
    cases e
    exact ⟨.error (⟨c, ts⟩, σT), S, Z, F, rfl, Ext.refl w, ⟨F1, F2, f1, f2, d, ⟨rfl, h⟩, s⟩, fun _ => rfl⟩
  | .try b c i h, σT => by
    simp only [denS, stV]
    intro σ r σ' e Z S F w hs
    dsimp only at e
    cases e1 : stsV Ψ io sub N lk b σ with
    | none => rw [e1] at e; cases e
    | some q =>
      obtain ⟨r1, σ1⟩ := q
      obtain ⟨rT, S1, Z1, F1, h1, x1, q1, l1⟩ := simSs FO b σT _ _ _ e1 Z S F w hs
      rw [e1] at e
      cases r1 with
      | ok f =>
        cases e
        cases rT with
        | error z => exact q1.elim
        | ok y => exact ⟨.ok y, S1, Z1, F1, by simp only [h1], x1, q1, l1⟩
      | error y =>
        cases rT with
        | ok z => exact q1.elim
        | error z =>
          obtain ⟨z, τ⟩ := z
          obtain ⟨G1, G2, g1, g2, gd, ⟨hc, hx⟩, s1⟩ := q1
          simp only at e
          cases ec : sub y.cls c with
          | false =>
            rw [ec] at e
            cases e
            exact ⟨.error (z, τ), S1, Z1, F1, by simp only [h1, hc, ec], x1, ⟨G1, G2, g1, g2, gd, ⟨hc, hx⟩, s1⟩, l1⟩
          | true =>
            rw [ec] at e
            simp only at e
            cases i with
            | none =>
              obtain ⟨rT, S2, Z2, F2, h2, x2, q2, l2⟩ := simSs FO h τ _ _ _ e Z1 S1 F1 x1.wf ⟨G1, G2, g1, g2, gd, trivial, s1⟩
              exact ⟨rT, S2, Z2, F2, by simp only [h1, hc, ec, h2], x1.trans x2, q2, fun hlk => (l2 hlk).trans (l1 hlk)⟩
            | some i =>
              simp only at e
              cases ek : okS lk i with
              | false => rw [ek] at e; cases e
              | true =>
                rw [ek] at e
                simp only [cond_true] at e
                have xn := Ext.new x1.wf (.exc z.cls z.args)
                have s2 : RdS Z1 (S1 ++ [.exc z.cls z.args]) (σ1.set i none) (fun m => F1 m ∨ m = S1.length) (τ.set i (some (.ref S1.length))) := RdS.wipe i _ (RdS.to _ s1 (fun m h => h) (fun m hm => List.getElem?_append_left (hm.elim (fun h => x1.wf.f m (g2 m h)) (x1.wf.z m))) fun m h => .inl (g2 m h))
                have lkk : Lk lk σT (τ.set i (some (.ref S1.length))) := fun hlk => by
                  subst hlk
                  simp only [okS, Bool.true_and, Bool.not_eq_true', beq_eq_false_iff_ne] at ek
                  rw [List.getElem?_set_ne ek]
                  exact l1 rfl
                have lki : ∀ τ', Lk lk τ' (τ'.set i none) := fun τ' hlk => by
                  subst hlk
                  simp only [okS, Bool.true_and, Bool.not_eq_true', beq_eq_false_iff_ne] at ek
                  exact List.getElem?_set_ne ek
                cases e3 : stsV Ψ io sub N lk h (σ1.set i none) with
                | none => rw [e3] at e; cases e
                | some q3 =>
                  obtain ⟨r3, σ3⟩ := q3
                  rw [e3] at e
                  obtain ⟨rT, S2, Z2, F2, h2, x2, q2, l2⟩ := simSs FO h _ _ _ _ e3 Z1 _ _ xn.wf ⟨no, _, fun m h => h.elim, fun m h => h, fun m h => h.elim, trivial, s2⟩
                  rw [hc] at h2
                  cases r3 with
                  | ok f =>
                    cases e
                    cases rT with
                    | error z => exact q2.elim
                    | ok fz =>
                      obtain ⟨f2, τ2⟩ := fz
                      obtain ⟨K1, K2, k1, k2, kd, hf, s3⟩ := q2
                      exact ⟨.ok (f2, τ2.set i none), S2, Z2, F2, by simp only [h1, hc, ec, h2], (x1.trans xn).trans x2, ⟨K1, K2, k1, k2, kd, hf, RdS.wipe i none s3⟩, fun hlk => ((lki τ2 hlk).trans (l2 hlk)).trans (lkk hlk)⟩
                  | error f =>
                    cases e
                    cases rT with
                    | ok z => exact q2.elim
                    | error fz =>
                      exact ⟨.error fz, S2, Z2, F2, by simp only [h1, hc, ec, h2], (x1.trans xn).trans x2, q2, fun hlk => (l2 hlk).trans (lkk hlk)⟩
theorem simSs (FO : FnsOk Φ Ψ io) : ∀ (s : List S) (σT : Sl), SimS lk emp σT (denSs Φ sub N s σT) (stsV Ψ io sub N lk s)
  | [], σT => by
    simp only [denSs, stsV]
    exact SimS.ret fun _ _ _ _ _ => trivial
  | s :: ss, σT => by
    simp only [denSs, stsV]
    refine SimS.sseq (simS FO s σT) fun f f' τ => ?_
    cases f with
    | nx => cases f' with
      | nx => exact simSs FO ss τ
      | _ => exact fun σ r σ' e Z S F w ⟨F1, F2, f1, f2, d, h, s⟩ => h.elim
    | ct => cases f' with
      | ct => exact SimS.ret fun _ _ _ _ h => h
      | _ => exact fun σ r σ' e Z S F w ⟨F1, F2, f1, f2, d, h, s⟩ => h.elim
    | bk => cases f' with
      | bk => exact SimS.ret fun _ _ _ _ h => h
      | _ => exact fun σ r σ' e Z S F w ⟨F1, F2, f1, f2, d, h, s⟩ => h.elim
    | rt t => cases f' with
      | rt v => exact SimS.ret fun _ _ _ _ h => h
      | _ => exact fun σ r σ' e Z S F w ⟨F1, F2, f1, f2, d, h, s⟩ => h.elim
end
end
theorem fin_ok {lk : Bool} {m : SM} {σT : Sl} {mV : VM FV} {σ : Vs} {r : Except VX V} {v0 : V} (s : SimS lk emp σT m mV) (e : finV lk (mV σ) = some (r, v0)) {Z : Ps} {S : Sto} {F : Ps} (w : Wf Z S F) (h : RdS Z S σ F σT) :
    ∃ (rT : Except Exn T) (S' : Sto) (Z' F' : Ps), fin m S = some (rT, S') ∧ Ext Z S F Z' S' F' ∧ (lk = false → (resA rT r).p Z' S' F') ∧ (lk = true → ∃ t0, σT[0]? = some (some t0) ∧ (resA rT r ++ rdAV t0 v0).p Z' S' F') := by
  unfold finV at e
  split at e
  · rename_i r1 σ1 e1
    obtain ⟨rT, S', Z', F', h1, x, q, l⟩ := s σ _ _ e1 Z S F w ⟨no, F, fun m h => h.elim, fun m h => h, fun m h => h.elim, trivial, h⟩
    cases ho : headO lk σ1 with
    | none => rw [ho] at e; cases e
    | some v1 =>
      rw [ho] at e
      simp only at e
      have slot0 : ∀ {τ : Sl} {G : Ps}, RdS Z' S' σ1 G τ → lk = true → σT[0]? = τ[0]? → ∃ t0, σT[0]? = some (some t0) ∧ Rd Z' S' v1 G t0 := by
        intro τ G hs hlk he
        subst hlk
        cases σ1 with
        | nil => cases ho
        | cons o σ2 =>
          cases o with
          | none => cases ho
          | some u =>
            cases ho
            obtain ⟨t0, e0, a⟩ := lst_of (i := 0) hs rfl
            exact ⟨t0, by rw [he]; exact e0, a⟩
      have fin1 : ∀ {τ : Sl} {A : Asn}, (A ++ slA τ σ1).p Z' S' F' → Lk lk σT τ → ∀ rr : Except Exn T, resA rr r = A → (lk = false → (resA rr r).p Z' S' F') ∧ (lk = true → ∃ t0, σT[0]? = some (some t0) ∧ (resA rr r ++ rdAV t0 v1).p Z' S' F') := by
        intro τ A q l rr er
        rw [er]
        refine ⟨fun _ => star_l q, fun hlk => ?_⟩
        obtain ⟨G1, G2, g1, g2, gd, a, b⟩ := q
        obtain ⟨t0, e0, c⟩ := slot0 b hlk (l hlk).symm
        exact ⟨t0, e0, G1, G2, g1, g2, gd, a, c⟩
      cases r1 with
      | ok f =>
        cases rT with
        | error z => exact q.elim
        | ok ft =>
          obtain ⟨ft, τ⟩ := ft
          cases f with
          | nx =>
            cases e
            cases ft with
            | nx => exact ⟨.ok .non, S', Z', F', by simp only [fin, h1], x, fin1 (A := resA (.ok .non) (.ok .non)) (star_mono q (fun _ _ => rfl) fun _ h => h) l _ rfl⟩
            | _ => obtain ⟨_, _, _, _, _, hf, _⟩ := q; exact hf.elim
          | rt v =>
            cases e
            cases ft with
            | rt t => exact ⟨.ok t, S', Z', F', by simp only [fin, h1], x, fin1 q l _ rfl⟩
            | _ => obtain ⟨_, _, _, _, _, hf, _⟩ := q; exact hf.elim
          | bk => cases e
          | ct => cases e
      | error y =>
        cases rT with
        | ok z => exact q.elim
        | error z =>
          obtain ⟨z, τ⟩ := z
          cases e
          exact ⟨.error z, S', Z', F', by simp only [fin, h1], x, fin1 q l _ rfl⟩
  · cases e
theorem args_ok {Z : Ps} {S : Sto} : ∀ {vs : List V} {F : Ps} {ts : List T} (n : Nat), Rds Z S vs F ts → RdS Z S (vs.map some ++ List.replicate n none) F (ts.map some ++ List.replicate n none)
  | [], F, ts, n, h => by
    rw [h.nil_inv]
    simp only [List.map_nil, List.nil_append]
    induction n with
    | zero => rfl
    | succ n ih => exact ⟨none, _, rfl, ih⟩
  | v :: vs, F, _, n, ⟨t, ts, F1, F2, e, f1, f2, d, a, b⟩ => by
    subst e
    exact ⟨t, _, F1, F2, rfl, f1, f2, d, a, args_ok n b⟩
/-- every def, side by side -/
theorem run_ok (sub : Nat → Nat → Bool) (io : Nat → Bool) (G : Nat → Option Def) (N : Nat) : ∀ k, FnsOk (run sub G N k) (runV sub io G N k) io
  | 0 => fun f vs r v0 e => by cases e
  | k + 1 => fun f vs r v0 e Z S F ts w h => by
    simp only [runV] at e
    cases hg : G f with
    | none => rw [hg] at e; cases e
    | some d =>
      rw [hg] at e
      simp only at e
      cases hl : decide (vs.length = d.np) with
      | false => rw [hl] at e; cases e
      | true =>
        rw [hl] at e
        simp only [cond_true] at e
        obtain ⟨rT, S', Z', F', e1, x, q1, q2⟩ := fin_ok (simSs (lk := io f) (sub := sub) (N := N) (run_ok sub io G N k) d.body (ts.map some ++ List.replicate (d.nn - d.np) none)) e w (args_ok _ h)
        refine ⟨rT, S', Z', F', ?_, x, q1, fun hlk => ?_⟩
        · rw [← h.len] at hl
          simp only [run, hg, hl, when_]
          exact e1
        · obtain ⟨t0, e0, q⟩ := q2 hlk
          cases ts with
          | nil =>
            have : ∀ n, (List.replicate n (none : Option T))[0]? ≠ some (some t0) := fun n => by
              cases n with
              | zero => simp
              | succ n => simp [List.replicate_succ]
            exact absurd e0 (this _)
          | cons t ts =>
            simp only [List.map_cons, List.cons_append, List.getElem?_cons_zero, Option.some.injEq] at e0
            subst e0
            exact ⟨t, ts, rfl, q⟩
/-- a law, from what is done with values alone -/
theorem law_of {sub : Nat → Nat → Bool} {io : Nat → Bool} {G : Nat → Option Def} {N k f : Nat} {ns : List Int} {v0 : V} (hf : io f = false) (e : runV sub io G N k f [.fro (ns.map .int)] = some (.ok (.bl true), v0)) : ∃ S', run sub G N k f [.ref 0] [.fro (ns.map .int)] = some (.ok (.bl true), S') := by
  have w : Wf (fun m => m = 0) [.fro (ns.map .int)] no := ⟨fun m h => h.elim, fun m h => h.elim, fun m h => by rw [h]; exact Nat.zero_lt_one⟩
  obtain ⟨rT, S', Z', F', e1, x, q, _⟩ := run_ok sub io G N k f _ _ _ e _ _ _ [.ref 0] w (.cons_mk ⟨0, _, rfl, rfl, rfl, ints_ok (f := id) ns⟩ rfl)
  have q := q hf
  cases rT with
  | error z => exact q.elim
  | ok t =>
    obtain rfl : t = .bl true := q
    exact ⟨S', e1⟩
end LS
end

section
set_option Elab.async false
set_option linter.all false
set_option maxRecDepth 100000
/-! LS.VW: what a run over values alone brings about. -/
namespace LS
open PySem (Str PyData)
@[irreducible] def VW {α : Type} (m : VM α) (σ : Vs) (Q : α → Vs → Prop) (X : VX → Vs → Prop) : Prop := match m σ with
  | some (.ok a, σ') => Q a σ'
  | some (.error x, σ') => X x σ'
  | none => False
@[irreducible] def FW (o : Option (Except VX V × V)) (Q : V → V → Prop) (X : VX → V → Prop) : Prop := match o with
  | some (.ok a, v) => Q a v
  | some (.error x, v) => X x v
  | none => False
abbrev noX : VX → Vs → Prop := fun _ _ => False
abbrev noF : VX → V → Prop := fun _ _ => False
theorem FW.mono {o : Option (Except VX V × V)} {Q Q' : V → V → Prop} {X X' : VX → V → Prop} (h : FW o Q X) (q : ∀ v w, Q v w → Q' v w) (x : ∀ v w, X v w → X' v w) : FW o Q' X' := by
  unfold FW at h ⊢
  split <;> simp_all
theorem FW.eq {o : Option (Except VX V × V)} {Q : V → V → Prop} {X : VX → V → Prop} {v w : V} (e : o = some (.ok v, w)) (q : Q v w) : FW o Q X := by
  subst e
  unfold FW
  exact q
theorem FW.elim {o : Option (Except VX V × V)} {Q : V → V → Prop} (h : FW o Q noF) : ∃ v w, o = some (.ok v, w) ∧ Q v w := by
  unfold FW at h
  split at h
  · exact ⟨_, _, rfl, h⟩
  · exact h.elim
  · exact h.elim
section
variable {α β : Type} {σ : Vs} {X : VX → Vs → Prop}
theorem VW.mono {m : VM α} {Q Q' : α → Vs → Prop} {X' : VX → Vs → Prop} (w : VW m σ Q X) (q : ∀ a s, Q a s → Q' a s) (x : ∀ a s, X a s → X' a s) : VW m σ Q' X' := by
  unfold VW at w ⊢
  split <;> simp_all
theorem VW.seq {m : VM α} {f : α → VM β} {Q : β → Vs → Prop} (w : VW m σ (fun a s => VW (f a) s Q X) X) : VW (seqV m f) σ Q X := by
  unfold VW seqV at *
  cases h : m σ with
  | none => simp [h] at w
  | some r =>
    obtain ⟨r, s⟩ := r
    cases r <;> simp [h] at w ⊢ <;> exact w
theorem VW.ret {a : α} {Q : α → Vs → Prop} (q : Q a σ) : VW (retV a) σ Q X := by
  unfold VW
  exact q
theorem VW.opt {o : Option α} {a : α} {Q : α → Vs → Prop} (e : o = some a) (q : Q a σ) : VW (optV o) σ Q X := by
  subst e
  unfold VW
  exact q
theorem VW.onV {b : Bool} {x y : VM α} {Q : α → Vs → Prop} (h1 : b = true → VW x σ Q X) (h2 : b = false → VW y σ Q X) : VW (onV (.bl b) x y) σ Q X := by
  cases b with
  | true => exact h1 rfl
  | false => exact h2 rfl
theorem VW.calm {m : VM α} {Q : α → Vs → Prop} (w : VW m σ Q noX) : VW (calmV m) σ Q X := by
  unfold VW calmV at *
  cases h : m σ with
  | none => simp [h] at w
  | some r =>
    obtain ⟨r, s⟩ := r
    cases r <;> simp [h, noX] at w ⊢
    exact w
theorem VW.at {m : VM α} {Q : α → Vs → Prop} {a : α} {σ' : Vs} (e : m σ = some (.ok a, σ')) (q : Q a σ') : VW m σ Q X := by
  unfold VW
  rw [e]
  exact q
theorem VW.elim {m : VM α} {Q : α → Vs → Prop} (h : VW m σ Q noX) : ∃ v s, m σ = some (.ok v, s) ∧ Q v s := by
  unfold VW at h
  split at h
  · exact ⟨_, _, by assumption, h⟩
  · exact h.elim
  · exact h.elim
end
/-! ### what is equal -/
mutual
def V.eqb : V → V → Bool
  | .non, .non => true
  | .bl a, .bl b => a == b
  | .bl a, .int j => (if a then 1 else 0) == j
  | .int i, .bl b => i == (if b then 1 else 0)
  | .int i, .int j => i == j
  | .str x, .str y => decide (x = y)
  | .tup xs, .tup ys => V.eqbs xs ys
  | .lst _ xs, .lst _ ys => V.eqbs xs ys
  | .lst _ xs, .fro ys => V.eqbs xs ys
  | .fro xs, .lst _ ys => V.eqbs xs ys
  | .fro xs, .fro ys => V.eqbs xs ys
  | _, _ => false
def V.eqbs : List V → List V → Bool
  | [], [] => true
  | x :: xs, y :: ys => V.eqb x y && V.eqbs xs ys
  | _, _ => false
end
mutual
/-- it reads as data of at most that depth -/
def V.okd : Nat → V → Bool
  | _, .non => true
  | _, .bl _ => true
  | _, .int _ => true
  | _, .str s => s.all fun c => decide (c < 1114112)
  | 0, _ => false
  | n + 1, .tup xs => V.okds n xs
  | n + 1, .lst _ xs => V.okds n xs
  | n + 1, .fro xs => V.okds n xs
  | _ + 1, .dct _ _ _ => false
def V.okds : Nat → List V → Bool
  | _, [] => true
  | n, x :: xs => V.okd n x && V.okds n xs
end
mutual
theorem V.okd_data : ∀ (n : Nat) (v : V), V.okd n v = true → ∃ d, V.data n v = some d
  | 0, .non, _ => ⟨_, rfl⟩
  | 0, .bl _, _ => ⟨_, rfl⟩
  | 0, .int _, _ => ⟨_, rfl⟩
  | 0, .str s, h => ⟨_, by simp only [V.data]; rw [if_pos (by simpa [V.okd] using h)]⟩
  | 0, .tup _, h => by simp [V.okd] at h
  | 0, .lst _ _, h => by simp [V.okd] at h
  | 0, .fro _, h => by simp [V.okd] at h
  | 0, .dct _ _ _, h => by simp [V.okd] at h
  | n + 1, .non, _ => ⟨_, rfl⟩
  | n + 1, .bl _, _ => ⟨_, rfl⟩
  | n + 1, .int _, _ => ⟨_, rfl⟩
  | n + 1, .str s, h => ⟨_, by simp only [V.data]; rw [if_pos (by simpa [V.okd] using h)]⟩
  | n + 1, .tup xs, h => by
    obtain ⟨ds, e⟩ := V.okds_data n xs (by simpa [V.okd] using h)
    exact ⟨_, by simp only [V.data, e, Option.map_some]; rfl⟩
  | n + 1, .lst _ xs, h => by
    obtain ⟨ds, e⟩ := V.okds_data n xs (by simpa [V.okd] using h)
    exact ⟨_, by simp only [V.data, e, Option.map_some]; rfl⟩
  | n + 1, .fro xs, h => by
    obtain ⟨ds, e⟩ := V.okds_data n xs (by simpa [V.okd] using h)
    exact ⟨_, by simp only [V.data, e, Option.map_some]; rfl⟩
  | n + 1, .dct _ _ _, h => by simp [V.okd] at h
theorem V.okds_data : ∀ (n : Nat) (v : List V), V.okds n v = true → ∃ d, optAll (V.data n) v = some d
  | n, [], _ => ⟨[], rfl⟩
  | n, x :: xs, h => by
    simp only [V.okds, Bool.and_eq_true] at h
    obtain ⟨d, e⟩ := V.okd_data n x h.1
    obtain ⟨ds, e2⟩ := V.okds_data n xs h.2
    exact ⟨d :: ds, by simp only [optAll, e, e2]⟩
end
theorem data_str {n : Nat} {s : List Nat} {d : PyData} (h : V.data n (.str s) = some d) : d = .str ⟨s.toArray⟩ := by
  cases n <;> (simp only [V.data] at h; split at h <;> cases h; rfl)
theorem data_atom {n : Nat} : (∀ d, V.data n .non = some d → d = .none) ∧ (∀ b d, V.data n (.bl b) = some d → d = .bool b) ∧ ∀ i d, V.data n (.int i) = some d → d = .int i := by
  refine ⟨fun d h => ?_, fun b d h => ?_, fun i d h => ?_⟩ <;> cases n <;> (simp only [V.data] at h; cases h; rfl)
theorem data_tup {n : Nat} {xs : List V} {d : PyData} (h : V.data n (.tup xs) = some d) : ∃ m ds, optAll (V.data m) xs = some ds ∧ d = .tuple ds := by
  cases n with
  | zero => simp [V.data] at h
  | succ n =>
    simp only [V.data] at h
    obtain ⟨ds, e, rfl⟩ := Option.map_eq_some_iff.mp h
    exact ⟨n, ds, e, rfl⟩
theorem data_lst {n : Nat} {o : Bool} {xs : List V} {d : PyData} (h : V.data n (.lst o xs) = some d) : ∃ m ds, optAll (V.data m) xs = some ds ∧ d = .list ds := by
  cases n with
  | zero => simp [V.data] at h
  | succ n =>
    simp only [V.data] at h
    obtain ⟨ds, e, rfl⟩ := Option.map_eq_some_iff.mp h
    exact ⟨n, ds, e, rfl⟩
theorem data_fro {n : Nat} {xs : List V} {d : PyData} (h : V.data n (.fro xs) = some d) : ∃ m ds, optAll (V.data m) xs = some ds ∧ d = .list ds := by
  cases n with
  | zero => simp [V.data] at h
  | succ n =>
    simp only [V.data] at h
    obtain ⟨ds, e, rfl⟩ := Option.map_eq_some_iff.mp h
    exact ⟨n, ds, e, rfl⟩
theorem data_dct {n : Nat} {o tk : Bool} {xs : List V} {d : PyData} (h : V.data n (.dct o tk xs) = some d) : False := by
  cases n <;> simp [V.data] at h
theorem str_eqb (x y : List Nat) : PyData.eqv (.str ⟨x.toArray⟩) (.str ⟨y.toArray⟩) = decide (x = y) := by
  simp only [PyData.eqv]
  by_cases h : x = y
  · subst h; simp
  · simp only [h, decide_false, beq_eq_false_iff_ne, ne_eq]
    intro e
    apply h
    have : x.toArray = y.toArray := by injection e
    simpa using this
mutual
theorem eqb_data : ∀ (a b : V) {n m : Nat} {x y : PyData}, V.data n a = some x → V.data m b = some y → PyData.eqv x y = V.eqb a b
  | a, b, n, m, x, y, ha, hb => by
    cases a with
    | non =>
      have := data_atom.1 _ ha; subst this
      cases b with
      | non => have := data_atom.1 _ hb; subst this; simp [PyData.eqv, V.eqb]
      | bl c => have := data_atom.2.1 _ _ hb; subst this; simp [PyData.eqv, V.eqb]
      | int j => have := data_atom.2.2 _ _ hb; subst this; simp [PyData.eqv, V.eqb]
      | str s => have := data_str hb; subst this; simp [PyData.eqv, V.eqb]
      | tup ys => obtain ⟨_, _, _, rfl⟩ := data_tup hb; simp [PyData.eqv, V.eqb]
      | lst o ys => obtain ⟨_, _, _, rfl⟩ := data_lst hb; simp [PyData.eqv, V.eqb]
      | fro ys => obtain ⟨_, _, _, rfl⟩ := data_fro hb; simp [PyData.eqv, V.eqb]
      | dct o tk ys => exact (data_dct hb).elim
    | bl a =>
      have := data_atom.2.1 _ _ ha; subst this
      cases b with
      | non => have := data_atom.1 _ hb; subst this; simp [PyData.eqv, V.eqb]
      | bl c => have := data_atom.2.1 _ _ hb; subst this; simp [PyData.eqv, V.eqb]
      | int j => have := data_atom.2.2 _ _ hb; subst this; simp [PyData.eqv, V.eqb]
      | str s => have := data_str hb; subst this; simp [PyData.eqv, V.eqb]
      | tup ys => obtain ⟨_, _, _, rfl⟩ := data_tup hb; simp [PyData.eqv, V.eqb]
      | lst o ys => obtain ⟨_, _, _, rfl⟩ := data_lst hb; simp [PyData.eqv, V.eqb]
      | fro ys => obtain ⟨_, _, _, rfl⟩ := data_fro hb; simp [PyData.eqv, V.eqb]
      | dct o tk ys => exact (data_dct hb).elim
    | int i =>
      have := data_atom.2.2 _ _ ha; subst this
      cases b with
      | non => have := data_atom.1 _ hb; subst this; simp [PyData.eqv, V.eqb]
      | bl c => have := data_atom.2.1 _ _ hb; subst this; simp [PyData.eqv, V.eqb]
      | int j => have := data_atom.2.2 _ _ hb; subst this; simp [PyData.eqv, V.eqb]
      | str s => have := data_str hb; subst this; simp [PyData.eqv, V.eqb]
      | tup ys => obtain ⟨_, _, _, rfl⟩ := data_tup hb; simp [PyData.eqv, V.eqb]
      | lst o ys => obtain ⟨_, _, _, rfl⟩ := data_lst hb; simp [PyData.eqv, V.eqb]
      | fro ys => obtain ⟨_, _, _, rfl⟩ := data_fro hb; simp [PyData.eqv, V.eqb]
      | dct o tk ys => exact (data_dct hb).elim
    | str s =>
      have := data_str ha; subst this
      cases b with
      | non => have := data_atom.1 _ hb; subst this; simp [PyData.eqv, V.eqb]
      | bl c => have := data_atom.2.1 _ _ hb; subst this; simp [PyData.eqv, V.eqb]
      | int j => have := data_atom.2.2 _ _ hb; subst this; simp [PyData.eqv, V.eqb]
      | str t => have := data_str hb; subst this; rw [str_eqb]; simp [V.eqb]
      | tup ys => obtain ⟨_, _, _, rfl⟩ := data_tup hb; simp [PyData.eqv, V.eqb]
      | lst o ys => obtain ⟨_, _, _, rfl⟩ := data_lst hb; simp [PyData.eqv, V.eqb]
      | fro ys => obtain ⟨_, _, _, rfl⟩ := data_fro hb; simp [PyData.eqv, V.eqb]
      | dct o tk ys => exact (data_dct hb).elim
    | tup xs =>
      obtain ⟨k, ds, e1, rfl⟩ := data_tup ha
      cases b with
      | non => have := data_atom.1 _ hb; subst this; simp [PyData.eqv, V.eqb]
      | bl c => have := data_atom.2.1 _ _ hb; subst this; simp [PyData.eqv, V.eqb]
      | int j => have := data_atom.2.2 _ _ hb; subst this; simp [PyData.eqv, V.eqb]
      | str t => have := data_str hb; subst this; simp [PyData.eqv, V.eqb]
      | tup ys => obtain ⟨_, _, e2, rfl⟩ := data_tup hb; simp only [PyData.eqv, V.eqb]; exact eqbs_data xs ys e1 e2
      | lst o ys => obtain ⟨_, _, _, rfl⟩ := data_lst hb; simp [PyData.eqv, V.eqb]
      | fro ys => obtain ⟨_, _, _, rfl⟩ := data_fro hb; simp [PyData.eqv, V.eqb]
      | dct o tk ys => exact (data_dct hb).elim
    | lst o xs =>
      obtain ⟨k, ds, e1, rfl⟩ := data_lst ha
      cases b with
      | non => have := data_atom.1 _ hb; subst this; simp [PyData.eqv, V.eqb]
      | bl c => have := data_atom.2.1 _ _ hb; subst this; simp [PyData.eqv, V.eqb]
      | int j => have := data_atom.2.2 _ _ hb; subst this; simp [PyData.eqv, V.eqb]
      | str t => have := data_str hb; subst this; simp [PyData.eqv, V.eqb]
      | tup ys => obtain ⟨_, _, _, rfl⟩ := data_tup hb; simp [PyData.eqv, V.eqb]
      | lst o ys => obtain ⟨_, _, e2, rfl⟩ := data_lst hb; simp only [PyData.eqv, V.eqb]; exact eqbs_data xs ys e1 e2
      | fro ys => obtain ⟨_, _, e2, rfl⟩ := data_fro hb; simp only [PyData.eqv, V.eqb]; exact eqbs_data xs ys e1 e2
      | dct o tk ys => exact (data_dct hb).elim
    | fro xs =>
      obtain ⟨k, ds, e1, rfl⟩ := data_fro ha
      cases b with
      | non => have := data_atom.1 _ hb; subst this; simp [PyData.eqv, V.eqb]
      | bl c => have := data_atom.2.1 _ _ hb; subst this; simp [PyData.eqv, V.eqb]
      | int j => have := data_atom.2.2 _ _ hb; subst this; simp [PyData.eqv, V.eqb]
      | str t => have := data_str hb; subst this; simp [PyData.eqv, V.eqb]
      | tup ys => obtain ⟨_, _, _, rfl⟩ := data_tup hb; simp [PyData.eqv, V.eqb]
      | lst o ys => obtain ⟨_, _, e2, rfl⟩ := data_lst hb; simp only [PyData.eqv, V.eqb]; exact eqbs_data xs ys e1 e2
      | fro ys => obtain ⟨_, _, e2, rfl⟩ := data_fro hb; simp only [PyData.eqv, V.eqb]; exact eqbs_data xs ys e1 e2
      | dct o tk ys => exact (data_dct hb).elim
    | dct o tk xs => exact (data_dct ha).elim
theorem eqbs_data : ∀ (a b : List V) {n m : Nat} {x y : List PyData}, optAll (V.data n) a = some x → optAll (V.data m) b = some y → PyData.eqvAll x y = V.eqbs a b
  | [], [], n, m, x, y, ha, hb => by cases ha; cases hb; simp [PyData.eqvAll, V.eqbs]
  | [], b :: bs, n, m, x, y, ha, hb => by
    cases ha
    simp only [optAll] at hb
    split at hb
    · split at hb
      · cases hb; simp [PyData.eqvAll, V.eqbs]
      · cases hb
    · cases hb
  | a :: as, [], n, m, x, y, ha, hb => by
    cases hb
    simp only [optAll] at ha
    split at ha
    · split at ha
      · cases ha; simp [PyData.eqvAll, V.eqbs]
      · cases ha
    · cases ha
  | a :: as, b :: bs, n, m, x, y, ha, hb => by
    simp only [optAll] at ha hb
    split at ha
    · rename_i d1 h1
      split at ha
      · rename_i d2 h2
        cases ha
        split at hb
        · rename_i e1 k1
          split at hb
          · rename_i e2 k2
            cases hb
            simp only [PyData.eqvAll, V.eqbs, eqb_data a b h1 k1, eqbs_data as bs h2 k2]
          · cases hb
        · cases hb
      · cases ha
    · cases ha
end
theorem eqV2_eqb {a b : V} (ha : V.okd deep a = true) (hb : V.okd deep b = true) : eqV2 a b = some (V.eqb a b) := by
  obtain ⟨x, e1⟩ := V.okd_data _ _ ha
  obtain ⟨y, e2⟩ := V.okd_data _ _ hb
  unfold eqV2
  rw [e1, e2]
  simp only [eqb_data a b e1 e2]
theorem anyV_eqb {a : V} {ys : List V} (ha : V.okd deep a = true) (hb : V.okds 59 ys = true) : anyV a ys = some (ys.any fun y => V.eqb y a) := by
  obtain ⟨x, e1⟩ := V.okd_data _ _ ha
  obtain ⟨ds, e2⟩ := V.okds_data _ _ hb
  unfold anyV
  rw [e1, e2]
  simp only [Option.some.injEq]
  clear hb
  induction ys generalizing ds with
  | nil => cases e2; rfl
  | cons y ys ih =>
    simp only [optAll] at e2
    split at e2
    · rename_i d h1
      split at e2
      · rename_i ds' h2
        cases e2
        simp only [List.any_cons, eqb_data y a h1 e1, ih ds' h2]
      · cases e2
    · cases e2
end LS
end

section
set_option Elab.async false
set_option linter.all false
set_option maxRecDepth 100000
/-! LS.VU: rules for each form. -/
namespace LS
open PySem (Str PyData)
/-- an operation, what it tells -/
def VP (p : Prim) (vs : List V) (Q : V → Prop) : Prop := ∃ r, primV p vs = some r ∧ r.flat = true ∧ Q r
section
variable {Q : V → Prop}
theorem flat_of {v : V} (h : v.plain = true) : v.flat = true := by
  cases v <;> simp_all [V.flat, V.plain]
theorem VP.addI {a b : Int} (q : Q (.int (a + b))) : VP .add [.int a, .int b] Q := ⟨_, rfl, rfl, q⟩
theorem VP.addT {a b : List V} (c : a.length + b.length ≤ lineT) (p : V.plains (a ++ b) = true) (q : Q (.tup (a ++ b))) : VP .add [.tup a, .tup b] Q := ⟨.tup (a ++ b), by simp [primV, vAdd, whenO, c], by simpa [V.flat, V.plain] using p, q⟩
theorem VP.addS {a b : List Nat} (c : a.length + b.length ≤ lineT) (q : Q (.str (a ++ b))) : VP .add [.str a, .str b] Q := ⟨.str (a ++ b), by simp [primV, vAdd, whenO, c], rfl, q⟩
theorem VP.addL {o1 o2 : Bool} {a b : List V} (c : a.length + b.length ≤ lineT) (p : V.plains (a ++ b) = true) (q : Q (.lst true (a ++ b))) : VP .add [.lst o1 a, .lst o2 b] Q := ⟨.lst true (a ++ b), by simp [primV, vAdd, whenO, c], by simpa [V.flat] using p, q⟩
theorem VP.subI {a b : Int} (q : Q (.int (a - b))) : VP .sub [.int a, .int b] Q := ⟨_, rfl, rfl, q⟩
theorem VP.mulI {a b : Int} (c : bits2 a b = true) (q : Q (.int (a * b))) : VP .mul [.int a, .int b] Q := ⟨.int (a * b), by simp [primV, vMul, whenO, c], rfl, q⟩
theorem VP.mulT {a : List V} {b : Int} (c : (decide (b < 64) && decide (-64 < b) && decide (a.length ≤ 1000)) = true) (p : V.plains (List.replicate b.toNat a).flatten = true) (q : Q (.tup (List.replicate b.toNat a).flatten)) : VP .mul [.tup a, .int b] Q := ⟨.tup (List.replicate b.toNat a).flatten, by simp only [primV, vMul, whenO, c, cond_true], by simpa [V.flat, V.plain] using p, q⟩
theorem VP.fdivI {a b : Int} (c : 0 < b) (c2 : b.natAbs.log2 < 9000) (q : Q (.int (a / b))) : VP .fdiv [.int a, .int b] Q := ⟨.int (a / b), by simp [primV, vFdiv, whenO, c, c2], rfl, q⟩
theorem VP.modI {a b : Int} (c : 0 < b) (q : Q (.int (a % b))) : VP .mod [.int a, .int b] Q := ⟨.int (a % b), by simp [primV, vMod, whenO, c], rfl, q⟩
theorem VP.powI {a b : Int} (c : (decide (0 ≤ b) && decide (b ≤ 1000) && decide (a.natAbs < 1000)) = true) (q : Q (.int (a ^ b.toNat))) : VP .pow [.int a, .int b] Q := ⟨.int (a ^ b.toNat), by simp only [primV, vPow, whenO, c, cond_true], rfl, q⟩
theorem VP.negI {a : Int} (q : Q (.int (-a))) : VP .neg [.int a] Q := ⟨_, rfl, rfl, q⟩
theorem VP.ltI {a b : Int} (q : Q (.bl (decide (a < b)))) : VP .lt [.int a, .int b] Q := ⟨_, rfl, rfl, q⟩
theorem VP.leI {a b : Int} (q : Q (.bl (decide (a ≤ b)))) : VP .le [.int a, .int b] Q := ⟨_, rfl, rfl, q⟩
theorem VP.gtI {a b : Int} (q : Q (.bl (decide (b < a)))) : VP .gt [.int a, .int b] Q := ⟨_, rfl, rfl, q⟩
theorem VP.geI {a b : Int} (q : Q (.bl (decide (b ≤ a)))) : VP .ge [.int a, .int b] Q := ⟨_, rfl, rfl, q⟩
theorem VP.eq {a b : V} (ha : V.okd deep a = true) (hb : V.okd deep b = true) (q : Q (.bl (V.eqb a b))) : VP .eq [a, b] Q := ⟨.bl (V.eqb a b), by simp [primV, vEq, eqV2_eqb ha hb], rfl, q⟩
theorem VP.ne {a b : V} (ha : V.okd deep a = true) (hb : V.okd deep b = true) (q : Q (.bl (!V.eqb a b))) : VP .ne [a, b] Q := ⟨.bl (!V.eqb a b), by simp [primV, vNe, eqV2_eqb ha hb], rfl, q⟩
theorem VP.isNone {a : V} (q : Q (.bl (match a with | .non => true | _ => false))) : VP .isNone [a] Q := ⟨_, rfl, rfl, q⟩
theorem VP.notNone {a : V} (q : Q (.bl (match a with | .non => false | _ => true))) : VP .notNone [a] Q := ⟨_, rfl, rfl, q⟩
theorem VP.isinT {a : V} {ys : List V} (ha : V.okd deep a = true) (hb : V.okds 59 ys = true) (q : Q (.bl (ys.any fun y => V.eqb y a))) : VP .isin [a, .tup ys] Q := ⟨.bl (ys.any fun y => V.eqb y a), by
  have := anyV_eqb ha hb
  cases a with
  | str s => rcases s with _ | ⟨c, _ | ⟨d, r⟩⟩ <;> simp [primV, vIsin, this]
  | _ => simp [primV, vIsin, this], rfl, q⟩
theorem VP.isinL {o : Bool} {a : V} {ys : List V} (ha : V.okd deep a = true) (hb : V.okds 59 ys = true) (q : Q (.bl (ys.any fun y => V.eqb y a))) : VP .isin [a, .lst o ys] Q := ⟨.bl (ys.any fun y => V.eqb y a), by
  have := anyV_eqb ha hb
  cases a with
  | str s => rcases s with _ | ⟨c, _ | ⟨d, r⟩⟩ <;> simp [primV, vIsin, this]
  | _ => simp [primV, vIsin, this], rfl, q⟩
theorem VP.notinT {a : V} {ys : List V} (ha : V.okd deep a = true) (hb : V.okds 59 ys = true) (q : Q (.bl (!ys.any fun y => V.eqb y a))) : VP .notin [a, .tup ys] Q := ⟨.bl (!ys.any fun y => V.eqb y a), by
  have := anyV_eqb ha hb
  cases a with
  | str s => rcases s with _ | ⟨c, _ | ⟨d, r⟩⟩ <;> simp [primV, vNotin, this]
  | _ => simp [primV, vNotin, this], rfl, q⟩
theorem VP.notinL {o : Bool} {a : V} {ys : List V} (ha : V.okd deep a = true) (hb : V.okds 59 ys = true) (q : Q (.bl (!ys.any fun y => V.eqb y a))) : VP .notin [a, .lst o ys] Q := ⟨.bl (!ys.any fun y => V.eqb y a), by
  have := anyV_eqb ha hb
  cases a with
  | str s => rcases s with _ | ⟨c, _ | ⟨d, r⟩⟩ <;> simp [primV, vNotin, this]
  | _ => simp [primV, vNotin, this], rfl, q⟩
theorem VP.getT {xs : List V} {i : Int} {v : V} (e : atV xs i = some v) (p : v.plain = true) (q : Q v) : VP .get [.tup xs, .int i] Q := ⟨v, e, flat_of p, q⟩
theorem VP.getL {o : Bool} {xs : List V} {i : Int} {v : V} (e : atV xs i = some v) (p : v.plain = true) (q : Q v) : VP .get [.lst o xs, .int i] Q := ⟨v, e, flat_of p, q⟩
theorem VP.slcT {a b : Bool} {xs r : List V} {z : Nat × Nat} (e : boundsV xs.length a b r = some z) (p : V.plains (cutL xs z.1 z.2) = true) (q : Q (.tup (cutL xs z.1 z.2))) : VP (.slc a b) (.tup xs :: r) Q := ⟨.tup (cutL xs z.1 z.2), by simp [primV, vSlc, e], by simpa [V.flat, V.plain] using p, q⟩
theorem VP.slcL {o a b : Bool} {xs r : List V} {z : Nat × Nat} (e : boundsV xs.length a b r = some z) (p : V.plains (cutL xs z.1 z.2) = true) (q : Q (.lst true (cutL xs z.1 z.2))) : VP (.slc a b) (.lst o xs :: r) Q := ⟨.lst true (cutL xs z.1 z.2), by simp [primV, vSlc, e], by simpa [V.flat] using p, q⟩
theorem VP.slcF {a b : Bool} {xs r : List V} {z : Nat × Nat} (e : boundsV xs.length a b r = some z) (p : V.plains (cutL xs z.1 z.2) = true) (q : Q (.lst true (cutL xs z.1 z.2))) : VP (.slc a b) (.fro xs :: r) Q := ⟨.lst true (cutL xs z.1 z.2), by simp [primV, vSlc, e], by simpa [V.flat] using p, q⟩
theorem VP.lenT {xs : List V} (q : Q (.int xs.length)) : VP .len [.tup xs] Q := ⟨_, rfl, rfl, q⟩
theorem VP.lenL {o : Bool} {xs : List V} (q : Q (.int xs.length)) : VP .len [.lst o xs] Q := ⟨_, rfl, rfl, q⟩
theorem VP.lenF {xs : List V} (q : Q (.int xs.length)) : VP .len [.fro xs] Q := ⟨_, rfl, rfl, q⟩
theorem VP.tupleT {xs : List V} (p : V.plains xs = true) (q : Q (.tup xs)) : VP .tuple [.tup xs] Q := ⟨_, rfl, p, q⟩
theorem VP.tupleL {o : Bool} {xs : List V} (p : V.plains xs = true) (q : Q (.tup xs)) : VP .tuple [.lst o xs] Q := ⟨_, rfl, p, q⟩
theorem VP.listT {xs : List V} (p : V.plains xs = true) (q : Q (.lst true xs)) : VP .list [.tup xs] Q := ⟨_, rfl, p, q⟩
theorem VP.listL {o : Bool} {xs : List V} (p : V.plains xs = true) (q : Q (.lst true xs)) : VP .list [.lst o xs] Q := ⟨_, rfl, p, q⟩
theorem VP.intOfI {a : Int} (q : Q (.int a)) : VP .intOf [.int a] Q := ⟨_, rfl, rfl, q⟩
theorem VP.intOfB {a : Bool} (q : Q (.int (if a then 1 else 0))) : VP .intOf [.bl a] Q := ⟨_, rfl, rfl, q⟩
theorem VP.absI {a : Int} (q : Q (.int a.natAbs)) : VP .abs [.int a] Q := ⟨_, rfl, rfl, q⟩
theorem VP.sortedL {o : Bool} {xs ys : List V} (e : sortV xs = some ys) (p : V.plains ys = true) (q : Q (.lst true ys)) : VP .sorted [.lst o xs] Q := ⟨.lst true ys, by simp [primV, vSorted, e], p, q⟩
end
/-! ### arguments -/
section
variable {σ : Vs} {as : List Arg} {vs : List V}
theorem getA_nil : getA σ [] = some [] := rfl
theorem getA_vp {x : V} (p : x.plain = true) (h : getA σ as = some vs) : getA σ (.v x :: as) = some (x :: vs) := by simp only [getA, h, Option.map_some, V.frz_plain x p]
theorem getA_vl {o : Bool} {xs : List V} (p : V.plains xs = true) (h : getA σ as = some vs) : getA σ (.v (.lst o xs) :: as) = some (.lst false xs :: vs) := by simp only [getA, h, Option.map_some, V.frz, V.frzs_plain xs p]
theorem getA_vf {xs : List V} (p : V.plains xs = true) (h : getA σ as = some vs) : getA σ (.v (.fro xs) :: as) = some (.fro xs :: vs) := by simp only [getA, h, Option.map_some, V.frz, V.frzs_plain xs p]
theorem getA_vd {o tk : Bool} {xs : List V} (p : V.plains xs = true) (h : getA σ as = some vs) : getA σ (.v (.dct o tk xs) :: as) = some (.dct false tk xs :: vs) := by simp only [getA, h, Option.map_some, V.frz, V.frzs_plain xs p]
theorem getA_sp {i : Nat} {x : V} (e : σ[i]? = some (some x)) (p : x.plain = true) (h : getA σ as = some vs) : getA σ (.s i :: as) = some (x :: vs) := by simp only [getA, e, h, Option.map_some, V.frz_plain x p]
theorem getA_sl {i : Nat} {o : Bool} {xs : List V} (e : σ[i]? = some (some (.lst o xs))) (p : V.plains xs = true) (h : getA σ as = some vs) : getA σ (.s i :: as) = some (.lst false xs :: vs) := by simp only [getA, e, h, Option.map_some, V.frz, V.frzs_plain xs p]
theorem getA_sf {i : Nat} {xs : List V} (e : σ[i]? = some (some (.fro xs))) (p : V.plains xs = true) (h : getA σ as = some vs) : getA σ (.s i :: as) = some (.fro xs :: vs) := by simp only [getA, e, h, Option.map_some, V.frz, V.frzs_plain xs p]
theorem getA_sd {i : Nat} {o tk : Bool} {xs : List V} (e : σ[i]? = some (some (.dct o tk xs))) (p : V.plains xs = true) (h : getA σ as = some vs) : getA σ (.s i :: as) = some (.dct false tk xs :: vs) := by simp only [getA, e, h, Option.map_some, V.frz, V.frzs_plain xs p]
end
/-! ### expressions -/
section
variable {Ψ : Fnv} {io : Nat → Bool} {σ : Vs} {X : VX → Vs → Prop} {Q : V → Vs → Prop} {e a b c o : E} {es ks : List E}
theorem VE.var {i : Nat} {v : V} (h : σ[i]? = some (some v)) (p : v.plain = true) (q : Q v σ) : VW (denV Ψ io (.var i)) σ Q X := VW.at (by simp only [denV, rdV, h, p, cond_true] <;> rfl) q
theorem VE.varL {i : Nat} {o : Bool} {xs : List V} (h : σ[i]? = some (some (.lst o xs))) (p : V.plains xs = true) (q : Q (.lst false xs) (σ.set i (some (.lst false xs)))) : VW (denV Ψ io (.var i)) σ Q X := VW.at (by simp only [denV, rdV, h, V.plain, V.frz, V.frzs_plain xs p, cond_false] <;> rfl) q
theorem VE.varF {i : Nat} {xs : List V} (h : σ[i]? = some (some (.fro xs))) (p : V.plains xs = true) (q : Q (.fro xs) (σ.set i (some (.fro xs)))) : VW (denV Ψ io (.var i)) σ Q X := VW.at (by simp only [denV, rdV, h, V.plain, V.frz, V.frzs_plain xs p, cond_false] <;> rfl) q
theorem VE.con {t : T} {v : V} (p : t.plain = true) (ev : t.toV = v) (q : Q v σ) : VW (denV Ψ io (.con t)) σ Q X := by
  subst ev
  exact VW.at (by simp only [denV, optV, whenO, p, cond_true] <;> rfl) q
theorem VE.int {i : Int} (q : Q (.int i) σ) : VW (denV Ψ io (.con (.int i))) σ Q X := VW.at (σ' := σ) rfl q
theorem VE.str {i : List Nat} (q : Q (.str i) σ) : VW (denV Ψ io (.con (.str i))) σ Q X := VW.at (σ' := σ) rfl q
theorem VE.bl {i : Bool} (q : Q (.bl i) σ) : VW (denV Ψ io (.con (.bl i))) σ Q X := VW.at (σ' := σ) rfl q
theorem VE.non (q : Q .non σ) : VW (denV Ψ io (.con .non)) σ Q X := VW.at (σ' := σ) rfl q
theorem VE.glo {n : Nat} {t : T} {v : V} (p : t.plain = true) (ev : t.toV = v) (q : Q v σ) : VW (denV Ψ io (.glo n t)) σ Q X := by
  subst ev
  exact VW.at (by simp only [denV, optV, whenO, p, cond_true] <;> rfl) q
theorem VE.tup (w : VW (denVs Ψ io es) σ (fun vs s => Q (.tup vs) s) X) : VW (denV Ψ io (.tup es)) σ Q X := by
  simp only [denV]
  exact VW.seq (w.mono (fun _ _ q => VW.ret q) fun _ _ h => h)
theorem VE.lst (w : VW (denVs Ψ io es) σ (fun vs s => Q (.lst true vs) s) X) : VW (denV Ψ io (.lst es)) σ Q X := by
  simp only [denV]
  exact VW.seq (w.mono (fun _ _ q => VW.ret q) fun _ _ h => h)
theorem VEs.nil {Q : List V → Vs → Prop} (q : Q [] σ) : VW (denVs Ψ io []) σ Q X := by
  simp only [denVs]
  exact VW.ret q
theorem VEs.cons {Q : List V → Vs → Prop} (w : VW (denV Ψ io e) σ (fun v s => VW (denVs Ψ io es) s (fun vs s' => Q (v :: vs) s') X) X) : VW (denVs Ψ io (e :: es)) σ Q X := by
  simp only [denVs]
  exact VW.seq (w.mono (fun v s w => VW.seq (w.mono (fun vs s q => VW.ret q) fun _ _ h => h)) fun _ _ h => h)
theorem VE.tupS {ss : List Bool} (w : VW (denStV Ψ io es ss) σ (fun xs s => xs.length ≤ lineT ∧ Q (.tup xs) s) X) : VW (denV Ψ io (.tupS ss es)) σ Q X := by
  simp only [denV]
  exact VW.seq (w.mono (fun xs s q => VW.opt (by simp only [whenO, decide_eq_true q.1, cond_true]) q.2) fun _ _ h => h)
theorem VE.lstS {ss : List Bool} (w : VW (denStV Ψ io es ss) σ (fun xs s => xs.length ≤ lineT ∧ Q (.lst true xs) s) X) : VW (denV Ψ io (.lstS ss es)) σ Q X := by
  simp only [denV]
  exact VW.seq (w.mono (fun xs s q => VW.opt (by simp only [whenO, decide_eq_true q.1, cond_true]) q.2) fun _ _ h => h)
theorem VSt.nil {Q : List V → Vs → Prop} (q : Q [] σ) : VW (denStV Ψ io [] []) σ Q X := by
  simp only [denStV]
  exact VW.ret q
theorem VSt.f {ss : List Bool} {Q : List V → Vs → Prop} (w : VW (denV Ψ io e) σ (fun v s => VW (denStV Ψ io es ss) s (fun r s' => Q (v :: r) s') X) X) : VW (denStV Ψ io (e :: es) (false :: ss)) σ Q X := by
  simp only [denStV]
  exact VW.seq (w.mono (fun v s w => VW.seq (w.mono (fun vs s q => VW.ret q) fun _ _ h => h)) fun _ _ h => h)
theorem VSt.t {ss : List Bool} {Q : List V → Vs → Prop} (w : VW (denV Ψ io e) σ (fun v s => ∃ xs, itemsV v = some xs ∧ VW (denStV Ψ io es ss) s (fun r s' => Q (xs ++ r) s') X) X) : VW (denStV Ψ io (e :: es) (true :: ss)) σ Q X := by
  simp only [denStV]
  refine VW.seq (w.mono (fun v s w => ?_) fun _ _ h => h)
  obtain ⟨xs, e1, w⟩ := w
  exact VW.seq (VW.opt e1 (VW.seq (w.mono (fun vs s q => VW.ret q) fun _ _ h => h)))
theorem VE.dct {tk : Bool} (w : VW (denVs Ψ io es) σ (fun vs s => ∃ r, ((pairUpV vs).bind fun kvs => dictV tk kvs) = some r ∧ Q r s) X) : VW (denV Ψ io (.dct tk es)) σ Q X := by
  simp only [denV]
  refine VW.seq (w.mono (fun vs s w => ?_) fun _ _ h => h)
  obtain ⟨r, e1, q⟩ := w
  exact VW.opt e1 q
theorem VE.app {p : Prim} (hk : pathK es = none) (w : VW (denAs Ψ io es) σ (fun as s => ∃ vs, getA s as = some vs ∧ VP p vs fun r => Q r s) X) : VW (denV Ψ io (.app p es)) σ Q X := by
  simp only [denV, hk]
  refine VW.seq (w.mono (fun as s w => ?_) fun _ _ h => h)
  obtain ⟨vs, e1, r, e2, fl, q⟩ := w
  exact VW.at (by simp only [appV, e1, e2, fl, cond_true] <;> rfl) q
theorem VE.appP0 {p : Prim} {i : Nat} {cv : V} (hk : pathK es = some (i, false)) (h : σ[i]? = some (some cv)) (w : VW (denFk Ψ io es) σ (fun key s => ∃ c ch ps, s[i]? = some (some c) ∧ getA s (postOf es) = some ps ∧ primV .get [c.frz, key.frz] = some ch ∧ VP p (ch.frz :: ps) fun r => Q r s) X) : VW (denV Ψ io (.app p es)) σ Q X := by
  simp only [denV, hk]
  refine VW.seq (VW.at (a := Arg.s i) (σ' := σ) (by simp only [seeS, h]) (VW.seq (w.mono (fun key s w => ?_) fun _ _ h => h)))
  obtain ⟨c, ch, ps, e1, e2, e3, r, e4, fl, q⟩ := w
  exact VW.at (by simp only [appP, getA, e1, e2, e3, List.nil_append, e4, fl, cond_true] <;> rfl) q
theorem VE.appP1 {p : Prim} {i : Nat} (hk : pathK es = some (i, true)) (w : VW (denAs1 Ψ io es) σ (fun as s => (∃ c, s[i]? = some (some c)) ∧ VW (denSk Ψ io es) s (fun key s => ∃ vs c ch, getA s as = some vs ∧ s[i]? = some (some c) ∧ primV .get [c.frz, key.frz] = some ch ∧ VP p (vs ++ [ch.frz]) fun r => Q r s) X) X) : VW (denV Ψ io (.app p es)) σ Q X := by
  simp only [denV, hk]
  refine VW.seq (w.mono (fun as s w => ?_) fun _ _ h => h)
  obtain ⟨⟨c0, h⟩, w⟩ := w
  refine VW.seq (VW.at (a := Arg.s i) (σ' := s) (by simp only [seeS, h]) (VW.seq (w.mono (fun key s w => ?_) fun _ _ h => h)))
  obtain ⟨vs, c, ch, e0, e1, e3, r, e4, fl, q⟩ := w
  exact VW.at (by simp only [appP, getA, e0, e1, e3, e4, fl, cond_true] <;> rfl) q
theorem VAs.nil {Q : List Arg → Vs → Prop} (q : Q [] σ) : VW (denAs Ψ io []) σ Q X := by
  simp only [denAs]
  exact VW.ret q
theorem VAs.var {i : Nat} {v : V} {Q : List Arg → Vs → Prop} (h : σ[i]? = some (some v)) (w : VW (denAs Ψ io es) σ (fun as s => Q (.s i :: as) s) X) : VW (denAs Ψ io (.var i :: es)) σ Q X := by
  simp only [denAs, E.var?]
  exact VW.seq (VW.at (a := Arg.s i) (σ' := σ) (by simp only [seeS, h]) (VW.seq (w.mono (fun _ _ q => VW.ret q) fun _ _ h => h)))
theorem VAs.ex {Q : List Arg → Vs → Prop} (hn : e.var? = none) (w : VW (denV Ψ io e) σ (fun v s => VW (denAs Ψ io es) s (fun as s' => Q (.v v :: as) s') X) X) : VW (denAs Ψ io (e :: es)) σ Q X := by
  simp only [denAs, hn]
  exact VW.seq (VW.seq (w.mono (fun v s w => VW.ret (VW.seq (w.mono (fun vs s q => VW.ret q) fun _ _ h => h))) fun _ _ h => h))
theorem VE.num {i : Int} (w : VW (denV Ψ io e) σ (fun v s => ∃ i, v = .int i ∧ Q (.int i) s) X) : VW (denV Ψ io (.num e)) σ Q X := by
  simp only [denV]
  refine VW.seq (w.mono (fun v s w => ?_) fun _ _ h => h)
  obtain ⟨i, rfl, q⟩ := w
  exact VW.at (σ' := s) rfl q
theorem VE.call {f : Nat} (hf : io f = false) (w : VW (denVs Ψ io es) σ (fun vs s => FW (Ψ f vs) (fun v _ => Q v s) fun x _ => X x s) X) : VW (denV Ψ io (.call f es)) σ Q X := by
  simp only [denV, hf, cond_false]
  refine VW.seq (w.mono (fun vs s w => ?_) fun _ _ h => h)
  unfold FW at w
  unfold VW askV
  split at w
  · rename_i h; simp only [h]; exact w
  · rename_i h; simp only [h]; exact w
  · exact w.elim
theorem VE.callK {f : Nat} {perm : List Nat} (hf : io f = false) (hp : perm.Nodup) (w : VW (denVs Ψ io es) σ (fun as s => VW (denVs Ψ io ks) s (fun bs s => ∃ vs, optAll (fun i => (as ++ bs)[i]?) perm = some vs ∧ FW (Ψ f vs) (fun v _ => Q v s) fun x _ => X x s) X) X) : VW (denV Ψ io (.callK f es ks perm)) σ Q X := by
  simp only [denV, hf, hp, decide_true, Bool.not_true, Bool.or_self, cond_false]
  refine VW.seq (w.mono (fun as s w => VW.seq (w.mono (fun bs s w => ?_) fun _ _ h => h)) fun _ _ h => h)
  obtain ⟨vs, e1, w⟩ := w
  refine VW.seq (VW.opt e1 ?_)
  unfold FW at w
  unfold VW askV
  split at w
  · rename_i h; simp only [h]; exact w
  · rename_i h; simp only [h]; exact w
  · exact w.elim
theorem VE.callIO {f i : Nat} {cv : V} (hf : io f = true) (hh : headVar es = some i) (h : σ[i]? = some (some cv)) (w : VW (denTl Ψ io es) σ (fun vs s => ∃ v, s[i]? = some (some v) ∧ FW (Ψ f (v :: vs)) (fun r v' => Q r (s.set i (some v'))) fun x v' => X x (s.set i (some v'))) X) : VW (denV Ψ io (.call f es)) σ Q X := by
  simp only [denV, hf, hh, cond_true]
  refine VW.seq (VW.at (a := Arg.s i) (σ' := σ) (by simp only [seeS, h]) (VW.seq (w.mono (fun vs s w => ?_) fun _ _ h => h)))
  obtain ⟨v, e1, w⟩ := w
  unfold FW at w
  unfold VW askIO
  simp only [e1]
  split at w
  · rename_i h; simp only [h]; exact w
  · rename_i h; simp only [h]; exact w
  · exact w.elim
theorem VTl.cons {Q : List V → Vs → Prop} (w : VW (denVs Ψ io es) σ Q X) : VW (denTl Ψ io (e :: es)) σ Q X := by
  simp only [denTl]
  exact w
theorem VE.and (w : VW (denAndV Ψ io es) σ Q X) : VW (denV Ψ io (.and es)) σ Q X := by
  simp only [denV]
  exact w
theorem VE.or (w : VW (denOrV Ψ io es) σ Q X) : VW (denV Ψ io (.or es)) σ Q X := by
  simp only [denV]
  exact w
theorem VAnd.one (w : VW (denV Ψ io e) σ Q X) : VW (denAndV Ψ io [e]) σ Q X := by
  simp only [denAndV]
  exact w
theorem VAnd.cons {e2 : E} (w : VW (denV Ψ io e) σ (fun v s => ∃ z, v = .bl z ∧ (z = true → VW (denAndV Ψ io (e2 :: es)) s Q X) ∧ (z = false → Q (.bl false) s)) X) : VW (denAndV Ψ io (e :: e2 :: es)) σ Q X := by
  simp only [denAndV]
  refine VW.seq (w.mono (fun v s w => ?_) fun _ _ h => h)
  obtain ⟨z, rfl, h1, h2⟩ := w
  exact VW.onV h1 fun h => VW.ret (h2 h)
theorem VOr.one (w : VW (denV Ψ io e) σ Q X) : VW (denOrV Ψ io [e]) σ Q X := by
  simp only [denOrV]
  exact w
theorem VOr.cons {e2 : E} (w : VW (denV Ψ io e) σ (fun v s => ∃ z, v = .bl z ∧ (z = false → VW (denOrV Ψ io (e2 :: es)) s Q X) ∧ (z = true → Q (.bl true) s)) X) : VW (denOrV Ψ io (e :: e2 :: es)) σ Q X := by
  simp only [denOrV]
  refine VW.seq (w.mono (fun v s w => ?_) fun _ _ h => h)
  obtain ⟨z, rfl, h1, h2⟩ := w
  exact VW.onV (fun h => VW.ret (h2 h)) h1
theorem VE.not (w : VW (denV Ψ io e) σ (fun v s => ∃ z, v = .bl z ∧ Q (.bl (!z)) s) X) : VW (denV Ψ io (.not e)) σ Q X := by
  simp only [denV]
  refine VW.seq (w.mono (fun v s w => ?_) fun _ _ h => h)
  obtain ⟨z, rfl, q⟩ := w
  cases z <;> exact VW.at rfl q
theorem VE.ite (w : VW (denV Ψ io c) σ (fun v s => ∃ z, v = .bl z ∧ (z = true → VW (denV Ψ io a) s Q X) ∧ (z = false → VW (denV Ψ io b) s Q X)) X) : VW (denV Ψ io (.ite c a b)) σ Q X := by
  simp only [denV]
  refine VW.seq (w.mono (fun v s w => ?_) fun _ _ h => h)
  obtain ⟨z, rfl, h1, h2⟩ := w
  exact VW.onV h1 h2
theorem VE.chain {ops : List Prim} (w : VW (denV Ψ io e) σ (fun v s => VW (denChV Ψ io v ops es) s Q X) X) : VW (denV Ψ io (.chain e ops es)) σ Q X := by
  simp only [denV]
  exact VW.seq w
theorem VCh.one {v : V} {op : Prim} (w : VW (denV Ψ io e) σ (fun w s => ∃ r, primV op [v.frz, w.frz] = some r ∧ Q r s) X) : VW (denChV Ψ io v [op] [e]) σ Q X := by
  simp only [denChV]
  refine VW.seq (w.mono (fun v s w => ?_) fun _ _ h => h)
  obtain ⟨r, e1, q⟩ := w
  exact VW.opt e1 q
theorem VCh.cons {v : V} {op op2 : Prim} {ops : List Prim} {e2 : E} (w : VW (denV Ψ io e) σ (fun w s => ∃ z, primV op [v.frz, w.frz] = some (.bl z) ∧ (z = true → VW (denChV Ψ io w.frz (op2 :: ops) (e2 :: es)) s Q X) ∧ (z = false → Q (.bl false) s)) X) : VW (denChV Ψ io v (op :: op2 :: ops) (e :: e2 :: es)) σ Q X := by
  simp only [denChV]
  refine VW.seq (w.mono (fun v s w => ?_) fun _ _ h => h)
  obtain ⟨z, e1, h1, h2⟩ := w
  exact VW.seq (VW.opt e1 (VW.onV h1 fun h => VW.ret (h2 h)))
theorem VE.tupI {it : I} (w : VW (denIV Ψ io it) σ (fun xs s => xs.length ≤ lineT ∧ Q (.tup xs) s) X) : VW (denV Ψ io (.tupI it)) σ Q X := by
  simp only [denV]
  exact VW.seq (w.mono (fun xs s q => VW.opt (by simp only [whenO, decide_eq_true q.1, cond_true]) q.2) fun _ _ h => h)
theorem VE.lstI {it : I} (w : VW (denIV Ψ io it) σ (fun xs s => xs.length ≤ lineT ∧ Q (.lst true xs) s) X) : VW (denV Ψ io (.lstI it)) σ Q X := by
  simp only [denV]
  exact VW.seq (w.mono (fun xs s q => VW.opt (by simp only [whenO, decide_eq_true q.1, cond_true]) q.2) fun _ _ h => h)
theorem VI.val {Q : List V → Vs → Prop} (w : VW (denV Ψ io e) σ (fun v s => ∃ xs, itsV v = some xs ∧ Q xs s) X) : VW (denIV Ψ io (.val e)) σ Q X := by
  simp only [denIV]
  refine VW.seq (w.mono (fun v s w => ?_) fun _ _ h => h)
  obtain ⟨xs, e1, q⟩ := w
  exact VW.opt e1 q
theorem VI.range {Q : List V → Vs → Prop} (w : VW (denVs Ψ io es) σ (fun vs s => ∃ xs, rangeV vs = some xs ∧ Q xs s) X) : VW (denIV Ψ io (.range es)) σ Q X := by
  simp only [denIV]
  refine VW.seq (w.mono (fun v s w => ?_) fun _ _ h => h)
  obtain ⟨xs, e1, q⟩ := w
  exact VW.opt e1 q
theorem VI.enum {Q : List V → Vs → Prop} (w : VW (denV Ψ io e) σ (fun v s => ∃ xs, seqItsV v = some xs ∧ Q (enumV 0 xs) s) X) : VW (denIV Ψ io (.enum e)) σ Q X := by
  simp only [denIV]
  refine VW.seq (w.mono (fun v s w => ?_) fun _ _ h => h)
  obtain ⟨xs, e1, q⟩ := w
  exact VW.opt (by rw [e1] <;> rfl) q
theorem VI.zip {Q : List V → Vs → Prop} (w : VW (denV Ψ io a) σ (fun v s => VW (denV Ψ io b) s (fun u s => ∃ xs, zipOfV v u = some xs ∧ Q xs s) X) X) : VW (denIV Ψ io (.zip a b)) σ Q X := by
  simp only [denIV]
  refine VW.seq (w.mono (fun v s w => VW.seq (w.mono (fun v s w => ?_) fun _ _ h => h)) fun _ _ h => h)
  obtain ⟨xs, e1, q⟩ := w
  exact VW.opt e1 q
/-- a method that changes a name's value -/
theorem VE.mut0 {k : Ty} {p : Prim} {i : Nat} {cv : V} (hm : mutP p = true) (h : σ[i]? = some (some cv)) (hk : kindV k cv = true) (w : VW (denVs Ψ io es) σ (fun vs s => ∃ c r, s[i]? = some (some c) ∧ mutV k p c vs = some r ∧ Q r.1 (s.set i (some r.2))) X) : VW (denV Ψ io (.meth k p (.var i) es)) σ Q X := by
  simp only [denV, hm, cond_true, E.at0]
  refine VW.seq (VW.at (a := ()) (σ' := σ) (by simp only [seeV, h, hk, cond_true]) (VW.seq (w.mono (fun vs s w => ?_) fun _ _ h => h)))
  obtain ⟨c, r, e1, e2, q⟩ := w
  have hl : i < (s.set i none).length := by simpa using (List.getElem?_eq_some_iff.mp e1).1
  refine VW.seq (VW.at (a := c) (σ' := s.set i none) (by simp only [takeV, e1]) (VW.seq (VW.opt e2 (VW.seq (VW.at (a := ()) (σ' := s.set i (some r.2)) ?_ (VW.ret q))))))
  simp only [putS, hl, if_true, List.set_set]
/-- .. that changes a part of it -/
theorem VE.mut1 {k : Ty} {p : Prim} {i : Nat} {ie : E} {cv : V} (hm : mutP p = true) (h : σ[i]? = some (some cv)) (w : VW (denV Ψ io ie) σ (fun key s => ∃ c ch, s[i]? = some (some c) ∧ partV c key = some ch ∧ kindV k ch = true ∧ VW (denVs Ψ io es) (s.set i none) (fun vs s' => ∃ r c', mutV k p ch vs = some r ∧ withV c key r.2 = some c' ∧ i < s'.length ∧ Q r.1 (s'.set i (some c'))) X) X) : VW (denV Ψ io (.meth k p (.app .get [.var i, ie]) es)) σ Q X := by
  simp only [denV, hm, cond_true, E.at0, E.at1, denKey]
  refine VW.seq (VW.at (a := Arg.s i) (σ' := σ) (by simp only [seeS, h]) (VW.seq (w.mono (fun key s w => ?_) fun _ _ h => h)))
  obtain ⟨c, ch, e1, e2, e3, w⟩ := w
  refine VW.seq (VW.at (a := c) (σ' := s.set i none) (by simp only [takeV, e1]) (VW.seq (VW.opt e2 ?_)))
  rw [e3]
  refine VW.seq (w.mono (fun vs s' w => ?_) fun _ _ h => h)
  obtain ⟨r, c', e4, e5, hl, q⟩ := w
  exact VW.seq (VW.opt e4 (VW.seq (VW.opt e5 (VW.seq (VW.at (a := ()) (by simp only [putS, hl, if_true] <;> rfl) (VW.ret q))))))
theorem VW.one_list {α : Type} {σ : Vs} {X : VX → Vs → Prop} {m : VM α} {R : α → V → Vs → Prop} (w : VW (seqV m fun a => retV [a]) σ (fun as s => ∃ a v, as = [a] ∧ R a v s) X) : VW m σ (fun a s => ∃ v, R a v s) X := by
  unfold VW seqV at w
  unfold VW
  cases h : m σ with
  | none => simp [h] at w
  | some r =>
    obtain ⟨r, s⟩ := r
    cases r with
    | error x =>
      simp only [h] at w
      exact w
    | ok a =>
      simp only [h, retV] at w
      obtain ⟨a', v, ea, r⟩ := w
      cases ea
      exact ⟨v, r⟩
/-- a method that changes nothing -/
theorem VE.meth {k : Ty} {p : Prim} (hm : mutP p = false) (w : VW (denAs Ψ io [o]) σ (fun as s => ∃ a v, as = [a] ∧ getA s [a] = some [v] ∧ kindV k v = true ∧ VW (denAs Ψ io es) s (fun bs s => ∃ vs, getA s (a :: bs) = some vs ∧ VP p vs fun r => Q r s) X) X) : VW (denV Ψ io (.meth k p o es)) σ Q X := by
  simp only [denV, hm, cond_false]
  simp only [denAs, seqV_assoc, seqV_ret] at w
  have w2 : VW (match o.var? with
      | some i => seeS i
      | none => seqV (denV Ψ io o) fun v => retV (.v v)) σ (fun a s => ∃ v, getA s [a] = some [v] ∧ kindV k v = true ∧ VW (denAs Ψ io es) s (fun bs s => ∃ vs, getA s (a :: bs) = some vs ∧ VP p vs fun r => Q r s) X) X := by
    exact VW.one_list w
  refine VW.seq (w2.mono (fun a s w => ?_) fun _ _ h => h)
  obtain ⟨v, e1, e2, w⟩ := w
  refine VW.seq (VW.at (a := ()) (σ' := s) (by simp only [askK, e1, e2, cond_true]) (VW.seq (w.mono (fun bs s w => ?_) fun _ _ h => h)))
  obtain ⟨vs, e3, r, e4, fl, q⟩ := w
  exact VW.at (by simp only [appV, e3, e4, fl, cond_true] <;> rfl) q
/-- a comprehension: what holds ahead of each item -/
theorem VE.comp {β : Type} {own : List Nat} {p : P} {it : I} {cs : List E} (hp : p.slots.all (fun i => decide (i ∈ own)) = true) (enc : β → V) (J : List β → List V → Vs → Prop)
    (w : VW (denIV Ψ io it) σ (fun xs s => ∃ l : List β, xs = l.map enc ∧ J l [] s ∧
      (∀ x l ys s, J (x :: l) ys s → ∃ s1, bindV p (enc x) (wipeV s own) = some s1 ∧ VW (denAnd1V Ψ io cs) s1 (fun c s2 => ∃ z, c = .bl z ∧ (z = true → VW (denV Ψ io e) s2 (fun y s3 => J l (ys ++ [y]) s3) noX) ∧ (z = false → J l ys s2)) noX) ∧
      (∀ ys s', J [] ys s' → ys.length < lineT ∧ Q (.lst true ys) (backV s s' own))) X) : VW (denV Ψ io (.comp e own p it cs)) σ Q X := by
  simp only [denV, hp, cond_true]
  refine VW.seq (w.mono (fun xs s w => ?_) fun _ _ h => h)
  obtain ⟨l, rfl, j0, step, last⟩ := w
  have key : ∀ (l : List β) (ys : List V) (s' : Vs), J l ys s' → ∃ zs s2, compV own p (denAnd1V Ψ io cs) (denV Ψ io e) (l.map enc) s' = some (.ok zs, s2) ∧ J [] (ys ++ zs) s2 := by
    intro l
    induction l with
    | nil => exact fun ys s' j => ⟨[], s', rfl, by simpa using j⟩
    | cons x l ih =>
      intro ys s' j
      obtain ⟨s1, e1, w⟩ := step x l ys s' j
      obtain ⟨c, s2, e2, z, rfl, h1, h2⟩ := w.elim
      simp only [List.map_cons, compV, seqV, bindM, e1, e2]
      cases z with
      | true =>
        obtain ⟨y, s3, e3, j3⟩ := (h1 rfl).elim
        obtain ⟨zs, s4, e4, j4⟩ := ih (ys ++ [y]) s3 j3
        exact ⟨y :: zs, s4, by simp only [LS.onV, seqV, e3, e4] <;> rfl, by simpa using j4⟩
      | false =>
        obtain ⟨zs, s4, e4, j4⟩ := ih ys s2 (h2 rfl)
        exact ⟨zs, s4, by simp only [LS.onV, e4], j4⟩
  obtain ⟨zs, s2, e2, j2⟩ := key l [] s j0
  simp only [List.nil_append] at j2
  obtain ⟨hl, q⟩ := last zs s2 j2
  exact VW.at (by simp only [calmV, e2, decide_eq_true hl, cond_true] <;> rfl) q
end
/-! ### statements -/
section
variable {Ψ : Fnv} {io : Nat → Bool} {sub : Nat → Nat → Bool} {N : Nat} {lk : Bool} {σ : Vs} {X : VX → Vs → Prop} {Q : FV → Vs → Prop} {e c o : E}
/-- behind a statement -/
def nextV (Ψ : Fnv) (io : Nat → Bool) (sub : Nat → Nat → Bool) (N : Nat) (lk : Bool) (ss : List S) (Q : FV → Vs → Prop) (X : VX → Vs → Prop) : FV → Vs → Prop
  | .nx, σ => VW (stsV Ψ io sub N lk ss) σ Q X
  | f, σ => Q f σ
theorem VS.nil (q : Q .nx σ) : VW (stsV Ψ io sub N lk []) σ Q X := by
  simp only [stsV]
  exact VW.ret q
theorem VS.cons {s : S} {ss : List S} (w : VW (stV Ψ io sub N lk s) σ (nextV Ψ io sub N lk ss Q X) X) : VW (stsV Ψ io sub N lk (s :: ss)) σ Q X := by
  simp only [stsV]
  refine VW.seq (w.mono (fun f s q => ?_) fun _ _ h => h)
  cases f <;> first | exact q | exact VW.ret q
theorem VS.exp (w : VW (denV Ψ io e) σ (fun _ s => Q .nx s) X) : VW (stV Ψ io sub N lk (.exp e)) σ Q X := by
  simp only [stV]
  exact VW.seq (w.mono (fun _ _ q => VW.ret q) fun _ _ h => h)
theorem VS.set {i : Nat} (hk : okS lk i = true) (w : VW (denV Ψ io e) σ (fun v s => i < s.length ∧ Q .nx (s.set i (some v))) X) : VW (stV Ψ io sub N lk (.set i e)) σ Q X := by
  simp only [stV, hk, cond_true]
  refine VW.seq (w.mono (fun v s q => VW.seq (VW.at (a := ()) (by simp only [putS, q.1, if_true] <;> rfl) (VW.ret q.2))) fun _ _ h => h)
theorem VS.unp {p : P} (hk : p.slots.all (okS lk) = true) (w : VW (denV Ψ io e) σ (fun v s => ∃ s', bindV p v s = some s' ∧ Q .nx s') X) : VW (stV Ψ io sub N lk (.unp p e)) σ Q X := by
  simp only [stV, hk, cond_true]
  refine VW.seq (w.mono (fun v s q => ?_) fun _ _ h => h)
  obtain ⟨s', e1, q⟩ := q
  exact VW.seq (VW.at (a := ()) (by simp only [bindM, e1] <;> rfl) (VW.ret q))
theorem VS.sub0 {j : Nat} {i : E} (w : VW (denV Ψ io e) σ (fun v s => (∃ c, s[j]? = some (some c)) ∧ VW (denV Ψ io i) s (fun k s => ∃ c c', s[j]? = some (some c) ∧ subV c k v = some c' ∧ Q .nx (s.set j (some c'))) X) X) : VW (stV Ψ io sub N lk (.sub (.var j) i e)) σ Q X := by
  simp only [stV, E.at0]
  refine VW.seq (w.mono (fun v s w => ?_) fun _ _ h => h)
  obtain ⟨⟨c0, h0⟩, w⟩ := w
  refine VW.seq (VW.at (a := Arg.s j) (σ' := s) (by simp only [seeS, h0]) (VW.seq (w.mono (fun k s w => ?_) fun _ _ h => h)))
  obtain ⟨c, c', e1, e2, q⟩ := w
  have hl : j < (s.set j none).length := by simpa using (List.getElem?_eq_some_iff.mp e1).1
  refine VW.seq (VW.at (a := c) (σ' := s.set j none) (by simp only [takeV, e1]) (VW.seq (VW.opt e2 (VW.seq (VW.at (a := ()) (σ' := s.set j (some c')) ?_ (VW.ret q))))))
  simp only [putS, hl, if_true, List.set_set]
theorem VS.ife {x y : List S} (w : VW (denV Ψ io c) σ (fun v s => ∃ z, v = .bl z ∧ (z = true → VW (stsV Ψ io sub N lk x) s Q X) ∧ (z = false → VW (stsV Ψ io sub N lk y) s Q X)) X) : VW (stV Ψ io sub N lk (.ife c x y)) σ Q X := by
  simp only [stV]
  refine VW.seq (w.mono (fun v s w => ?_) fun _ _ h => h)
  obtain ⟨z, rfl, h1, h2⟩ := w
  exact VW.onV h1 h2
theorem VS.ret (hn : e.var? = none) (w : VW (denV Ψ io e) σ (fun v s => Q (.rt v) s) X) : VW (stV Ψ io sub N lk (.ret e)) σ Q X := by
  simp only [stV, hn]
  exact VW.seq (w.mono (fun _ _ q => VW.ret q) fun _ _ h => h)
theorem VS.retVar {i : Nat} {v : V} (h : σ[i]? = some (some v)) (q : ∀ s, (s = σ ∨ s = σ.set i none) → Q (.rt v) s) : VW (stV Ψ io sub N lk (.ret (.var i))) σ Q X := by
  simp only [stV, E.var?]
  refine VW.seq ?_
  cases hp : v.plain with
  | true => exact VW.at (a := v) (σ' := σ) (by simp only [outV, h, hp, cond_true]) (VW.ret (q _ (.inl rfl)))
  | false => exact VW.at (a := v) (σ' := σ.set i none) (by simp only [outV, h, hp, cond_false]) (VW.ret (q _ (.inr rfl)))
theorem VS.retN (q : Q (.rt .non) σ) : VW (stV Ψ io sub N lk .retN) σ Q X := by
  simp only [stV]
  exact VW.ret q
theorem VS.pass (q : Q .nx σ) : VW (stV Ψ io sub N lk .pass) σ Q X := by
  simp only [stV]
  exact VW.ret q
theorem VS.cont (q : Q .ct σ) : VW (stV Ψ io sub N lk .cont) σ Q X := by
  simp only [stV]
  exact VW.ret q
theorem VS.brk (q : Q .bk σ) : VW (stV Ψ io sub N lk .brk) σ Q X := by
  simp only [stV]
  exact VW.ret q
/-- behind a turn -/
def turnQ2 (I : Vs → Prop) (Q : FV → Vs → Prop) : FV → Vs → Prop
  | .nx, σ => I σ
  | .ct, σ => I σ
  | .bk, σ => Q .nx σ
  | .rt t, σ => Q (.rt t) σ
theorem VW.forV {β : Type} {p : P} {body : VM FV} (enc : β → V) (J : List β → Vs → Prop) (step : ∀ x l s, J (x :: l) s → ∃ s1, bindV p (enc x) s = some s1 ∧ VW body s1 (turnQ2 (J l) Q) X) (last : ∀ s, J [] s → Q .nx s) : ∀ (l : List β) (s : Vs), J l s → VW (LS.forV p body (l.map enc)) s Q X
  | [], s, j => VW.ret (last s j)
  | x :: l, s, j => by
    obtain ⟨s1, e1, w⟩ := step x l s j
    simp only [List.map_cons, LS.forV]
    refine VW.seq (VW.at (a := ()) (by simp only [bindM, e1] <;> rfl) (VW.seq (w.mono (fun f s q => ?_) fun _ _ h => h)))
    cases f with
    | nx => exact VW.forV enc J step last l s q
    | ct => exact VW.forV enc J step last l s q
    | bk => exact VW.ret q
    | rt v => exact VW.ret q
theorem VS.for {β : Type} {p : P} {it : I} {b : List S} (hk : p.slots.all (okS lk) = true) (enc : β → V) (J : List β → Vs → Prop) (w : VW (denIV Ψ io it) σ (fun xs s => ∃ l : List β, xs = l.map enc ∧ J l s) X)
    (step : ∀ x l s, J (x :: l) s → ∃ s1, bindV p (enc x) s = some s1 ∧ VW (stsV Ψ io sub N lk b) s1 (turnQ2 (J l) Q) X) (last : ∀ s, J [] s → Q .nx s) : VW (stV Ψ io sub N lk (.for p it b)) σ Q X := by
  simp only [stV, hk, cond_true]
  refine VW.seq (w.mono (fun xs s w => ?_) fun _ _ h => h)
  obtain ⟨l, rfl, j⟩ := w
  exact VW.forV enc J step last l s j
theorem VW.whileV {tst : VM V} {body : VM FV} (J : Nat → Vs → Prop) (step : ∀ n s, J n s → VW tst s (fun c s1 => ∃ z, c = .bl z ∧ (z = true → ∃ m, n = m + 1 ∧ VW body s1 (turnQ2 (J m) Q) X) ∧ (z = false → Q .nx s1)) X) : ∀ (k n : Nat) (s : Vs), n < k → J n s → VW (LS.whileV tst body k) s Q X
  | 0, n, s, h, _ => absurd h (Nat.not_lt_zero _)
  | k + 1, n, s, h, j => by
    simp only [LS.whileV]
    refine VW.seq ((step n s j).mono (fun c s1 w => ?_) fun _ _ h => h)
    obtain ⟨z, rfl, h1, h2⟩ := w
    refine VW.onV (fun hz => ?_) fun h => VW.ret (h2 h)
    obtain ⟨m, rfl, w⟩ := h1 hz
    refine VW.seq (w.mono (fun f s q => ?_) fun _ _ h => h)
    cases f with
    | nx => exact VW.whileV J step k m s (by omega) q
    | ct => exact VW.whileV J step k m s (by omega) q
    | bk => exact VW.ret q
    | rt v => exact VW.ret q
theorem VS.whl {b : List S} (J : Nat → Vs → Prop) (n : Nat) (hn : n < N) (j : J n σ) (step : ∀ n s, J n s → VW (denV Ψ io c) s (fun c s1 => ∃ z, c = .bl z ∧ (z = true → ∃ m, n = m + 1 ∧ VW (stsV Ψ io sub N lk b) s1 (turnQ2 (J m) Q) X) ∧ (z = false → Q .nx s1)) X) : VW (stV Ψ io sub N lk (.whl c b)) σ Q X := by
  simp only [stV]
  exact VW.whileV J step N n σ hn j
/-- a body's end -/
def endV (io : Bool) (Q : V → V → Prop) : FV → Vs → Prop
  | .rt v, σ => ∃ w, headO io σ = some w ∧ Q v w
  | .nx, σ => ∃ w, headO io σ = some w ∧ Q .non w
  | _, _ => False
def endX (io : Bool) (X : VX → V → Prop) : VX → Vs → Prop := fun x σ => ∃ w, headO io σ = some w ∧ X x w
/-- a def -/
structure Fn (G : Nat → Option Def) (io : Nat → Bool) (i : Nat) (b : Bool) (d : Def) : Prop where
  g : G i = some d
  o : io i = b
theorem FW.run {G : Nat → Option Def} {f k : Nat} {b : Bool} {d : Def} {vs : List V} {Q : V → V → Prop} {X : VX → V → Prop} (h : Fn G io f b d) (hl : vs.length = d.np)
    (w : VW (stsV (runV sub io G N k) io sub N b d.body) (vs.map some ++ List.replicate (d.nn - d.np) none) (endV b Q) (endX b X)) : FW (runV sub io G N (k + 1) f vs) Q X := by
  unfold runV
  simp only [h.g, h.o, hl, decide_true, cond_true]
  unfold VW at w
  unfold FW finV
  split at w
  · rename_i h2
    rw [h2]
    rename_i fl s
    cases fl with
    | nx => obtain ⟨v, e, q⟩ := w; simp only [e]; exact q
    | rt t => obtain ⟨v, e, q⟩ := w; simp only [e]; exact q
    | bk => exact w.elim
    | ct => exact w.elim
  · rename_i h2
    rw [h2]
    obtain ⟨v, e, q⟩ := w
    simp only [e]
    exact q
  · exact w.elim
end
end LS
end

section
set_option Elab.async false
set_option linter.all false
set_option maxRecDepth 100000
/-! LS.VT: small facts. -/
namespace LS
open PySem (Str PyData)
theorem GA.mk {σ : Vs} {as : List Arg} {vs : List V} {P : List V → Prop} (h : getA σ as = some vs) (q : P vs) : ∃ vs, getA σ as = some vs ∧ P vs := ⟨vs, h, q⟩
section
variable {Ψ : Fnv} {io : Nat → Bool} {σ : Vs} {X : VX → Vs → Prop} {e a : E} {es : List E}
theorem VFk.mk {Q : V → Vs → Prop} (w : VW (denV Ψ io e) σ Q X) : VW (denFk Ψ io (.app .get [a, e] :: es)) σ Q X := by
  simp only [denFk]
  exact w
theorem VSk.mk {x : E} {Q : V → Vs → Prop} (w : VW (denV Ψ io e) σ Q X) : VW (denSk Ψ io [x, .app .get [a, e]]) σ Q X := by
  simp only [denSk]
  exact w
theorem VAs1.var {i : Nat} {v : V} {Q : List Arg → Vs → Prop} (h : σ[i]? = some (some v)) (q : Q [.s i] σ) : VW (denAs1 Ψ io (.var i :: es)) σ Q X := by
  simp only [denAs1, E.var?]
  exact VW.seq (VW.at (a := Arg.s i) (σ' := σ) (by simp only [seeS, h]) (VW.ret q))
theorem VAs1.ex {Q : List Arg → Vs → Prop} (hn : e.var? = none) (w : VW (denV Ψ io e) σ (fun v s => Q [.v v] s) X) : VW (denAs1 Ψ io (e :: es)) σ Q X := by
  simp only [denAs1, hn]
  exact VW.seq (VW.seq (w.mono (fun _ _ q => VW.ret (VW.ret q)) fun _ _ h => h))
end
/-- ways that meet again -/
theorem VW.join {m : VM FV} {σ : Vs} {Q : FV → Vs → Prop} {X : VX → Vs → Prop} (P : Vs → Prop) (w : VW m σ (fun f s => f = .nx ∧ P s) X) (k : ∀ s, P s → Q .nx s) : VW m σ Q X :=
  w.mono (fun f s h => by obtain ⟨rfl, h⟩ := h; exact k s h) fun _ _ h => h
theorem lt_rfl {a b : Nat} (h : Nat.blt a b = true) : a < b := by
  rw [Nat.blt_eq] at h
  exact h
theorem V.plains_app {as bs : List V} : V.plains (as ++ bs) = (V.plains as && V.plains bs) := by
  induction as with
  | nil => simp [V.plains]
  | cons a as ih => simp [V.plains, ih, Bool.and_assoc]
theorem V.plains_map {β : Type} {f : β → V} {l : List β} : V.plains (l.map f) = l.all fun b => (f b).plain := by
  induction l with
  | nil => simp [V.plains]
  | cons a as ih => simp [V.plains, ih]
theorem V.okds_app {n : Nat} {as bs : List V} : V.okds n (as ++ bs) = (V.okds n as && V.okds n bs) := by
  induction as with
  | nil => simp [V.okds]
  | cons a as ih => simp [V.okds, ih, Bool.and_assoc]
theorem V.okds_map {n : Nat} {β : Type} {f : β → V} {l : List β} : V.okds n (l.map f) = l.all fun b => (f b).okd n := by
  induction l with
  | nil => simp [V.okds]
  | cons a as ih => simp [V.okds, ih]
theorem V.okds_iff {n : Nat} {l : List V} : V.okds n l = true ↔ ∀ v ∈ l, V.okd n v = true := by
  induction l with
  | nil => simp [V.okds]
  | cons a as ih => simp [V.okds, ih]
theorem plains_int {l : List Int} : V.plains (l.map V.int) = true := by simp [V.plains_map, V.plain]
theorem frzs_int {l : List Int} : V.frzs (l.map V.int) = l.map V.int := V.frzs_plain _ plains_int
theorem atV_of {xs : List V} {v : Int} (h0 : 0 ≤ v) (h : v < xs.length) : ∃ t, atV xs v = some t ∧ t ∈ xs := by
  have hl : v.toNat < xs.length := by omega
  refine ⟨xs[v.toNat], ?_, List.getElem_mem _⟩
  simp [atV, ixN, h0, hl]
theorem atV_map {β : Type} {f : β → V} {l : List β} {i : Nat} {b : β} (h : l[i]? = some b) : atV (l.map f) (i : Int) = some (f b) := by
  have hl : i < l.length := (List.getElem?_eq_some_iff.mp h).1
  have e := (List.getElem?_eq_some_iff.mp h).2
  simp [atV, ixN, hl, e]
theorem VA1.nil {Ψ : Fnv} {io : Nat → Bool} {σ : Vs} {X : VX → Vs → Prop} {Q : V → Vs → Prop} (q : Q (.bl true) σ) : VW (denAnd1V Ψ io []) σ Q X := by
  simp only [denAnd1V]
  exact VW.ret q
theorem VA1.one {Ψ : Fnv} {io : Nat → Bool} {σ : Vs} {X : VX → Vs → Prop} {Q : V → Vs → Prop} {e : E} (w : VW (denV Ψ io e) σ Q X) : VW (denAnd1V Ψ io [e]) σ Q X := by
  simp only [denAnd1V]
  exact w
/-! ### comprehensions that change nothing -/
def OffV (own : List Nat) (τ σ : Vs) : Prop := τ.length = σ.length ∧ ∀ j, j ∉ own → τ[j]? = σ[j]?
mutual
theorem bindV_off : ∀ (p : P) {v : V} {σ σ' : Vs}, bindV p v σ = some σ' → OffV p.slots σ' σ
  | .slot i, v, σ, σ', e => by
    simp only [bindV] at e
    split at e
    · cases e
      refine ⟨by simp, fun j hj => ?_⟩
      simp only [P.slots, List.mem_singleton] at hj
      exact List.getElem?_set_ne fun h => hj h.symm
    · cases e
  | .tup ps, .tup vs, σ, σ', e => by
    simp only [bindV] at e
    have := bindVs_off ps e
    exact ⟨this.1, fun j hj => this.2 j (by simpa only [P.slots] using hj)⟩
  | .tup ps, .non, σ, σ', e => by simp [bindV] at e
  | .tup ps, .bl _, σ, σ', e => by simp [bindV] at e
  | .tup ps, .int _, σ, σ', e => by simp [bindV] at e
  | .tup ps, .str _, σ, σ', e => by simp [bindV] at e
  | .tup ps, .lst _ _, σ, σ', e => by simp [bindV] at e
  | .tup ps, .fro _, σ, σ', e => by simp [bindV] at e
  | .tup ps, .dct _ _ _, σ, σ', e => by simp [bindV] at e
theorem bindVs_off : ∀ (p : List P) {v : List V} {σ σ' : Vs}, bindVs p v σ = some σ' → OffV (P.slotss p) σ' σ
  | [], [], σ, σ', e => by cases e; exact ⟨rfl, fun _ _ => rfl⟩
  | p :: ps, v :: vs, σ, σ', e => by
    simp only [bindVs] at e
    split at e
    · rename_i σ1 e1
      have h1 := bindV_off p e1
      have h2 := bindVs_off ps e
      refine ⟨by rw [h2.1, h1.1], fun j hj => ?_⟩
      simp only [P.slotss, List.mem_append, not_or] at hj
      rw [h2.2 j hj.2, h1.2 j hj.1]
    · cases e
  | [], _ :: _, σ, σ', e => by simp [bindVs] at e
  | _ :: _, [], σ, σ', e => by simp [bindVs] at e
end
theorem wipeV_len : ∀ (own : List Nat) (τ : Vs), (wipeV τ own).length = τ.length
  | [], τ => rfl
  | i :: is, τ => by simp [wipeV, wipeV_len is τ]
theorem wipeV_get : ∀ (own : List Nat) (τ : Vs) (j : Nat), (wipeV τ own)[j]? = if j ∈ own then (if j < τ.length then some none else none) else τ[j]?
  | [], τ, j => by simp [wipeV]
  | i :: is, τ, j => by
    simp only [wipeV, List.getElem?_set, wipeV_len]
    by_cases h : i = j
    · subst h
      simp
    · rw [if_neg h, wipeV_get is τ j]
      have : (j ∈ i :: is) ↔ j ∈ is := by simp [Ne.symm h]
      simp only [this]
theorem wipeV_off {own : List Nat} {τ σ : Vs} (h : OffV own τ σ) : wipeV τ own = wipeV σ own := by
  apply List.ext_getElem?
  intro j
  rw [wipeV_get, wipeV_get, h.1]
  split
  · rfl
  · exact h.2 j (by assumption)
theorem off_wipeV (own : List Nat) (σ : Vs) : OffV own (wipeV σ own) σ := ⟨wipeV_len own σ, fun j hj => by rw [wipeV_get, if_neg hj]⟩
/-- what stands in those slots never changes, or nothing does -/
def ownOk (σ : Vs) (own : List Nat) : Bool := own.all fun i => match σ[i]? with
  | some (some v) => v.plain
  | some none => true
  | none => false
theorem backV_len (old τ : Vs) : ∀ own, (backV old τ own).length = τ.length
  | [] => rfl
  | i :: is => by simp [backV, backV_len old τ is]
theorem backV_eq {σ τ : Vs} {own : List Nat} (ok : ownOk σ own = true) (h : OffV own τ σ) : backV σ τ own = σ := by
  have key : ∀ (is : List Nat), (∀ i ∈ is, i ∈ own) → ∀ j, (backV σ τ is)[j]? = if j ∈ is then σ[j]? else τ[j]? := by
    intro is
    induction is with
    | nil => intro _ j; simp [backV]
    | cons i is ih =>
      intro hs j
      simp only [backV, List.getElem?_set, backV_len]
      by_cases hij : i = j
      · subst hij
        have hi := List.all_eq_true.mp ok i (hs i (by simp))
        simp only [if_true, List.mem_cons, true_or]
        rcases e : σ[i]? with _ | _ | v
        · rw [e] at hi
          cases hi
        · have : i < τ.length := by rw [h.1]; exact (List.getElem?_eq_some_iff.mp e).1
          simp [this]
        · rw [e] at hi
          have : i < τ.length := by rw [h.1]; exact (List.getElem?_eq_some_iff.mp e).1
          simp only at hi
          simp [this, hi]
      · rw [if_neg hij, ih (fun i hi => hs i (by simp [hi])) j]
        have : (j ∈ i :: is) ↔ j ∈ is := by simp [Ne.symm hij]
        simp only [this]
  apply List.ext_getElem?
  intro j
  rw [key own (fun i hi => hi) j]
  split
  · rfl
  · exact h.2 j (by assumption)
theorem VE.compF {Ψ : Fnv} {io : Nat → Bool} {σ : Vs} {X : VX → Vs → Prop} {Q : V → Vs → Prop} {e : E} {β : Type} {own : List Nat} {p : P} {it : I} {cs : List E} (hp : p.slots.all (fun i => decide (i ∈ own)) = true) (enc : β → V) (t : β → Bool) (f : β → V)
    (w : VW (denIV Ψ io it) σ (fun xs s => ∃ l : List β, xs = l.map enc ∧ ownOk s own = true ∧ l.length < lineT ∧
      (∀ x ∈ l, ∃ s1, bindV p (enc x) (wipeV s own) = some s1 ∧ VW (denAnd1V Ψ io cs) s1 (fun c s2 => s2 = s1 ∧ c = .bl (t x)) noX ∧ (t x = true → VW (denV Ψ io e) s1 (fun y s2 => s2 = s1 ∧ y = f x) noX)) ∧
      Q (.lst true ((l.filter t).map f)) s) X) : VW (denV Ψ io (.comp e own p it cs)) σ Q X := by
  simp only [denV, hp, cond_true]
  refine VW.seq (w.mono (fun xs s w => ?_) fun _ _ h => h)
  obtain ⟨l, rfl, ok, hl, step, q⟩ := w
  have hps : ∀ i, i ∈ p.slots → i ∈ own := fun i hi => of_decide_eq_true (List.all_eq_true.mp hp i hi)
  have key : ∀ (l' : List β) (s' : Vs), (∀ x ∈ l', x ∈ l) → OffV own s' s → ∃ s2, compV own p (denAnd1V Ψ io cs) (denV Ψ io e) (l'.map enc) s' = some (.ok ((l'.filter t).map f), s2) ∧ OffV own s2 s := by
    intro l'
    induction l' with
    | nil => exact fun s' _ o => ⟨s', rfl, o⟩
    | cons x l' ih =>
      intro s' hx o
      obtain ⟨s1, e1, w1, w2⟩ := step x (hx x (by simp))
      obtain ⟨c, s2, e2, rfl, rfl⟩ := w1.elim
      have o1 : OffV own s2 s := by
        have a := bindV_off p e1
        have b := off_wipeV own s
        exact ⟨by rw [a.1, b.1], fun j hj => by rw [a.2 j fun h => hj (hps j h), b.2 j hj]⟩
      obtain ⟨s4, e4, o4⟩ := ih s2 (fun y hy => hx y (by simp [hy])) o1
      simp only [List.map_cons, compV, seqV, bindM, wipeV_off o, e1, e2]
      cases ht : t x with
      | true =>
        obtain ⟨y, s3, e3, rfl, rfl⟩ := (w2 ht).elim
        exact ⟨s4, by simp only [LS.onV, seqV, e3, e4, List.filter_cons, ht, if_true, List.map_cons]; rfl, o4⟩
      | false => exact ⟨s4, by simp [LS.onV, e4, List.filter_cons, ht], o4⟩
  obtain ⟨s2, e2, o2⟩ := key l s (fun _ h => h) ⟨rfl, fun _ _ => rfl⟩
  have hl2 : ((l.filter t).map f).length < lineT := by
    rw [List.length_map]
    exact Nat.lt_of_le_of_lt (List.length_filter_le _ _) hl
  exact VW.at (by simp only [calmV, e2, decide_eq_true hl2, cond_true, backV_eq ok o2] <;> rfl) q
/-! ### sorting -/
theorem optAll_map {β α γ : Type} {f : β → α} {g : α → Option γ} {d : β → γ} : ∀ {l : List β}, (∀ b ∈ l, g (f b) = some (d b)) → optAll g (l.map f) = some (l.map d)
  | [], _ => rfl
  | b :: l, h => by
    simp only [List.map_cons, optAll, h b (by simp), optAll_map (l := l) fun c hc => h c (by simp [hc])]
theorem zip_map2 {β α γ : Type} {f : β → α} {d : β → γ} : ∀ {l : List β}, (l.map f).zip (l.map d) = l.map fun b => (f b, d b)
  | [] => rfl
  | b :: l => by simp [zip_map2 (l := l)]
theorem sortV_map {β : Type} {f : β → V} {d : β → PyData} {l : List β} (h : ∀ b ∈ l, V.data deep (f b) = some (d b)) (al : (alikes (l.map d) && sortableD (l.map d)) = true) : sortV (l.map f) = some ((l.mergeSort (PySem.W.dataLe false d)).map f) := by
  unfold sortV
  rw [optAll_map h]
  simp only [al, if_true, Option.some.injEq]
  rw [zip_map2]
  have e : (l.map fun b => (f b, d b)).mergeSort (PySem.W.dataLe false fun p : V × PyData => p.2) = (l.mergeSort (PySem.W.dataLe false d)).map fun b => (f b, d b) :=
    (List.map_mergeSort (f := fun b => (f b, d b)) (r := PySem.W.dataLe false d) fun a _ b _ => rfl).symm
  rw [e, List.map_map]
  rfl
theorem rangeV1 {m : Int} (h0 : 0 ≤ m) (h : m < 1000000000) : rangeV [.int m] = some ((List.range m.toNat).map fun (i : Nat) => V.int (i : Int)) := by
  simp only [rangeV]
  rw [if_pos]
  exact ⟨by unfold bigR; omega, by unfold bigR; omega⟩
theorem rangeV2 {a b : Int} (h0 : 0 ≤ a) (h1 : a < 1000000000) (h2 : 0 ≤ b) (h3 : b < 1000000000) : rangeV [.int a, .int b] = some ((List.range (b - a).toNat).map fun (i : Nat) => V.int (a + (i : Int))) := by
  simp only [rangeV]
  rw [if_pos]
  exact ⟨by unfold bigR; omega, by unfold bigR; omega, by unfold bigR; omega, by unfold bigR; omega⟩
end LS
end

section
set_option Elab.async false
set_option linter.all false
set_option maxRecDepth 100000
/-! LS.VRp: values that can be shown; what repr tells of them. -/
namespace LS
open PySem (Str PyData)
open PySem.PyData
/-- every sign of a text is one -/
def okC (z : Str) : Prop := ∀ c ∈ z.cps.toList, c < 1114112
theorem okC_app {a b : Str} (x : okC a) (y : okC b) : okC (a ++ b) := fun c h => by
  have e : (a ++ b).cps.toList = a.cps.toList ++ b.cps.toList := by
    show (a.cps ++ b.cps).toList = _
    simp
  rw [e] at h
  rcases List.mem_append.mp h with h | h
  · exact x c h
  · exact y c h
theorem chr_lt (c : Char) : c.toNat < 1114112 := by
  have := c.valid
  rcases this with h | h
  · exact Nat.lt_trans h (by decide)
  · exact h.2
theorem okC_of (s : String) : okC (Str.ofString s) := fun c h => by
  rw [PyProof.Rows.signs_ofString] at h
  obtain ⟨ch, _, e⟩ := List.mem_map.mp h
  subst e
  exact chr_lt ch
theorem reprChar_ok (q c : Nat) (hc : c < 1114112) : ∀ d ∈ PySem.Builtin.Str.reprChar q c, d < 1114112 := by
  have hx : ∀ w : Nat, ∀ d ∈ (List.replicate (w - ((Nat.toDigits 16 c).map Char.toNat).length) 48 ++ (Nat.toDigits 16 c).map Char.toNat), d < 1114112 := by
    intro w d hd
    rcases List.mem_append.mp hd with hd | hd
    · rw [List.eq_of_mem_replicate hd]
      decide
    · obtain ⟨ch, _, e⟩ := List.mem_map.mp hd
      subst e
      exact chr_lt ch
  intro d hd
  unfold PySem.Builtin.Str.reprChar at hd
  simp only at hd
  split at hd
  · simp only [List.mem_cons, List.not_mem_nil, or_false] at hd
    omega
  split at hd
  · simp only [List.mem_cons, List.not_mem_nil, or_false] at hd
    omega
  split at hd
  · simp only [List.mem_cons, List.not_mem_nil, or_false] at hd
    omega
  split at hd
  · simp only [List.mem_cons, List.not_mem_nil, or_false] at hd
    omega
  split at hd
  · simp only [List.mem_cons, List.not_mem_nil, or_false] at hd
    omega
  split at hd
  · rcases List.mem_append.mp hd with hd | hd
    · simp only [List.mem_cons, List.not_mem_nil, or_false] at hd
      omega
    · exact hx 2 d hd
  split at hd
  · rcases List.mem_append.mp hd with hd | hd
    · simp only [List.mem_cons, List.not_mem_nil, or_false] at hd
      omega
    · exact hx 4 d hd
  · rcases List.mem_append.mp hd with hd | hd
    · simp only [List.mem_cons, List.not_mem_nil, or_false] at hd
      omega
    · exact hx 8 d hd
theorem foldl_ok (q : Nat) : ∀ (l : List Nat) (acc : Array Nat), (∀ c ∈ acc.toList, c < 1114112) → (∀ c ∈ l, c < 1114112) → ∀ d ∈ (l.foldl (fun out c => out ++ (PySem.Builtin.Str.reprChar q c).toArray) acc).toList, d < 1114112
  | [], acc, ha, _ => ha
  | c :: r, acc, ha, h => by
    refine foldl_ok q r _ (fun d hd => ?_) fun d hd => h d (List.mem_cons_of_mem _ hd)
    simp only [Array.toList_append] at hd
    rcases List.mem_append.mp hd with hd | hd
    · exact ha d hd
    · exact reprChar_ok q c (h c (List.mem_cons_self ..)) d hd
theorem okC_repr {x : Str} (h : okC x) : okC (PySem.reprText x) := by
  intro d hd
  unfold PySem.reprText at hd
  have hq : PySem.reprQuote x < 1114112 := by
    unfold PySem.reprQuote
    split <;> decide
  simp only [Array.toList_push] at hd
  rcases List.mem_append.mp hd with hd | hd
  · rw [← Array.foldl_toList] at hd
    exact foldl_ok _ _ _ (by simpa using hq) h d hd
  · simp only [List.mem_singleton] at hd
    omega
theorem okC_textFrom : ∀ (ts : List Str) (k : Nat) (acc : Str), okC acc → (∀ t ∈ ts, okC t) → okC (PySem.textFrom k acc ts)
  | [], _, _, h, _ => h
  | t :: ts, k, acc, h, ht => by
    refine okC_textFrom ts (k + 1) _ (okC_app (okC_app h (okC_of _)) (ht t (List.mem_cons_self ..))) fun u hu => ht u (List.mem_cons_of_mem _ hu)
theorem okC_list {ts : List Str} (h : ∀ t ∈ ts, okC t) : okC (PySem.listText ts) := okC_app (okC_textFrom ts 0 _ (okC_of _) h) (okC_of _)
theorem okC_join : ∀ {ts : List Str}, (∀ t ∈ ts, okC t) → okC (Str.join ", " ts)
  | [], _ => fun c h => absurd h (by simp [PyProof.Rows.join_nil, Str.empty])
  | [x], h => h x (by simp)
  | x :: y :: r, h => by
    rw [PyProof.Rows.join_cons_cons]
    exact okC_app (okC_app (h x (by simp)) (okC_of _)) (okC_join fun t ht => h t (List.mem_cons_of_mem _ ht))
theorem okC_tuple {ts : List Str} (h : ∀ t ∈ ts, okC t) : okC (PySem.tupleText ts) := okC_app (okC_app (okC_of _) (okC_join h)) (okC_of _)
theorem textFrom_le : ∀ (ts : List Str) (k : Nat) (acc : Str), (PySem.textFrom k acc ts).length ≤ acc.length + PySem.piled ts
  | [], k, acc => Nat.le_add_right _ _
  | t :: r, k, acc => by
    have h := textFrom_le r (k + 1) (acc ++ (if k > 0 then ", " else "" : String) ++ t)
    rw [PySem.strLen_append, PySem.strLen_append] at h
    have e : ((if k > 0 then ", " else "" : String) : Str).length ≤ 2 := by split <;> decide
    rw [PySem.piled_cons]
    show (PySem.textFrom (k + 1) _ r).length ≤ _
    omega
theorem list_le (ts : List Str) : (PySem.listText ts).length ≤ PySem.piled ts + 2 := by
  unfold PySem.listText
  rw [PySem.strLen_append]
  have h := textFrom_le ts 0 "["
  have e1 : ((("[" : String) : Str)).length = 1 := rfl
  have e2 : ((("]" : String) : Str)).length = 1 := rfl
  omega
theorem tuple_le (ts : List Str) : (PySem.tupleText ts).length ≤ PySem.piled ts + 3 := by
  unfold PySem.tupleText
  rw [PySem.strLen_append, PySem.strLen_append]
  have e1 : ((("(" : String) : Str)).length = 1 := rfl
  have e3 : (((if ts.length == 1 then ",)" else ")" : String) : Str)).length ≤ 2 := by split <;> decide
  by_cases h : ts = []
  · subst h
    have : (Str.join ", " []).length = 0 := rfl
    omega
  · have := PySem.join_length_add ts h
    omega
/-- a value that can be shown: its depth, its text's length at most -/
def ShV (n w : Nat) (v : V) : Prop := ∃ d, V.data n v = some d ∧ d.showable = true ∧ d.hasDict = false ∧ d.shown.length ≤ w ∧ okC d.shown
def ShVs (n w : Nat) (vs : List V) : Prop := ∃ ds, optAll (V.data n) vs = some ds ∧ showableAll ds = true ∧ hasDictAll ds = false ∧ PySem.piled (shownAll ds) ≤ w ∧ ∀ z ∈ shownAll ds, okC z
theorem ShV.mono {n w w' : Nat} {v : V} (s : ShV n w v) (h : w ≤ w') : ShV n w' v := by
  obtain ⟨d, a, b, c, e, f⟩ := s
  exact ⟨d, a, b, c, Nat.le_trans e h, f⟩
theorem ShVs.mono {n w w' : Nat} {v : List V} (s : ShVs n w v) (h : w ≤ w') : ShVs n w' v := by
  obtain ⟨d, a, b, c, e, f⟩ := s
  exact ⟨d, a, b, c, Nat.le_trans e h, f⟩
theorem ShV.non {n : Nat} : ShV n 4 .non := ⟨.none, by cases n <;> rfl, rfl, rfl, by decide, okC_of _⟩
theorem ShV.bl {n : Nat} (b : Bool) : ShV n 5 (.bl b) := ⟨.bool b, by cases n <;> rfl, rfl, rfl, by cases b <;> decide, by cases b <;> exact okC_of _⟩
theorem ShV.int {n : Nat} {i : Int} (h : i.natAbs.log2 < 1920) : ShV n 1921 (.int i) := ⟨.int i, by cases n <;> rfl, decide_eq_true h, rfl, by
  rw [PyData.shown_int]
  exact PyProof.Rows.int_text_len_1921 h, by
  rw [PyData.shown_int]
  exact okC_of _⟩
theorem ShV.str {n : Nat} {s : List Nat} (h : s.all (fun c => decide (c < 1114112)) = true) : ShV n (10 * s.length + 2) (.str s) := by
  have h' : ∀ c ∈ s, c < 1114112 := fun c hc => of_decide_eq_true (List.all_eq_true.mp h c hc)
  refine ⟨.str ⟨s.toArray⟩, by cases n <;> simp only [V.data, h, if_true], rfl, rfl, ?_, ?_⟩
  · have := PySem.StrLaws.reprText_len ⟨s.toArray⟩ fun c hc => Nat.lt_trans (h' c (by simpa using hc)) (by decide)
    simpa [PyData.shown, Str.length] using this
  · have : okC (PySem.reprText ⟨s.toArray⟩) := okC_repr fun c hc => h' c (by simpa using hc)
    simpa [PyData.shown] using this
theorem ShVs.nil {n w : Nat} : ShVs n w [] := ⟨[], rfl, rfl, rfl, Nat.zero_le _, fun _ h => absurd h (by simp [shownAll])⟩
theorem ShVs.cons {n w v : Nat} {t : V} {ts : List V} (a : ShV n w t) (b : ShVs n v ts) : ShVs n (w + 2 + v) (t :: ts) := by
  obtain ⟨d, a1, a2, a3, a4, a5⟩ := a
  obtain ⟨ds, b1, b2, b3, b4, b5⟩ := b
  have e : shownAll (d :: ds) = d.shown :: shownAll ds := by simp only [shownAll]
  refine ⟨d :: ds, by simp only [optAll, a1, b1], by simp [showableAll, a2, b2], by simp [hasDictAll, a3, b3], ?_, ?_⟩
  · rw [e, PySem.piled_cons]
    omega
  · intro z hz
    rw [e] at hz
    rcases List.mem_cons.mp hz with rfl | hz
    · exact a5
    · exact b5 z hz
theorem ShVs.app {n w v : Nat} {as bs : List V} (a : ShVs n w as) (b : ShVs n v bs) : ShVs n (w + v) (as ++ bs) := by
  induction as generalizing w with
  | nil => exact b.mono (by omega)
  | cons x as ih =>
    obtain ⟨ds, a1, a2, a3, a4, a5⟩ := a
    simp only [optAll] at a1
    split at a1
    · rename_i d h1
      split at a1
      · rename_i ds' h2
        cases a1
        have e : shownAll (d :: ds') = d.shown :: shownAll ds' := by simp only [shownAll]
        rw [e, PySem.piled_cons] at a4
        rw [e] at a5
        simp only [showableAll, Bool.and_eq_true] at a2
        simp only [hasDictAll, Bool.or_eq_false_iff] at a3
        have hx : ShV n d.shown.length x := ⟨d, h1, a2.1, a3.1, Nat.le_refl _, a5 _ (by simp)⟩
        have hr : ShVs n (PySem.piled (shownAll ds')) as := ⟨ds', h2, a2.2, a3.2, Nat.le_refl _, fun z hz => a5 z (by simp [hz])⟩
        exact (ShVs.cons hx (ih hr)).mono (by omega)
      · cases a1
    · cases a1
theorem ShV.tup {n w : Nat} {ts : List V} (a : ShVs n w ts) : ShV (n + 1) (w + 3) (.tup ts) := by
  obtain ⟨ds, b1, b2, b3, b4, b5⟩ := a
  have e : (PyData.tuple ds).shown = PySem.tupleText (shownAll ds) := by simp only [PyData.shown]
  refine ⟨.tuple ds, by simp only [V.data, b1, Option.map_some], by simp [PyData.showable, b2], by simp [PyData.hasDict, b3], ?_, ?_⟩
  · rw [e]
    have := tuple_le (shownAll ds)
    omega
  · rw [e]
    exact okC_tuple b5
theorem ShV.lst {n w : Nat} {o : Bool} {ts : List V} (a : ShVs n w ts) : ShV (n + 1) (w + 3) (.lst o ts) := by
  obtain ⟨ds, b1, b2, b3, b4, b5⟩ := a
  have e : (PyData.list ds).shown = PySem.listText (shownAll ds) := by simp only [PyData.shown]
  refine ⟨.list ds, by simp only [V.data, b1, Option.map_some], by simp [PyData.showable, b2], by simp [PyData.hasDict, b3], ?_, ?_⟩
  · rw [e]
    have := list_le (shownAll ds)
    omega
  · rw [e]
    exact okC_list b5
/-- a list of alike -/
theorem ShVs.map {β : Type} {n w : Nat} {f : β → V} (l : List β) (h : ∀ b ∈ l, ShV n w (f b)) : ShVs n (l.length * (w + 2)) (l.map f) := by
  induction l with
  | nil => exact ShVs.nil
  | cons b l ih => exact (ShVs.cons (h b (List.mem_cons_self ..)) (ih fun c hc => h c (List.mem_cons_of_mem _ hc))).mono (by
      simp only [List.length_cons, Nat.succ_mul]
      omega)
/-- what repr tells -/
def shw (v : V) : List Nat := ((V.data deep v).bind reprOf).getD []
theorem shw_some {w : Nat} {v : V} (a : ShV deep w v) (hw : w ≤ lineT) : ((V.data deep v).bind reprOf) = some (shw v) ∧ (shw v).all (fun c => decide (c < 1114112)) = true := by
  obtain ⟨d, b1, b2, b3, b4, b5⟩ := a
  have hl : d.shown.length ≤ lineT := Nat.le_trans b4 hw
  have e : ((V.data deep v).bind reprOf) = some (codes d.shown) := by
    rw [b1]
    simp only [Option.bind_some, reprOf, b2, b3, hl, decide_true, Bool.not_false, Bool.and_self, if_true]
  have e2 : shw v = codes d.shown := by unfold shw; rw [e]; rfl
  refine ⟨by rw [e, e2], ?_⟩
  rw [e2, List.all_eq_true]
  exact fun c hc => decide_eq_true (b5 c hc)
theorem VP.reprT {Q : V → Prop} {w : Nat} {xs : List V} (a : ShV deep w (.tup xs)) (hw : w ≤ lineT) (q : Q (.str (shw (.tup xs)))) : VP .repr [.tup xs] Q := ⟨.str (shw (.tup xs)), by simp only [primV, vRepr, (shw_some a hw).1, Option.map_some], rfl, q⟩
theorem VP.reprL {Q : V → Prop} {w : Nat} {o : Bool} {xs : List V} (a : ShV deep w (.lst o xs)) (hw : w ≤ lineT) (q : Q (.str (shw (.lst o xs)))) : VP .repr [.lst o xs] Q := ⟨.str (shw (.lst o xs)), by simp only [primV, vRepr, (shw_some a hw).1, Option.map_some], rfl, q⟩
theorem ShV.okd {n w : Nat} {v : V} (a : ShV n w v) : ∃ d, V.data n v = some d := ⟨a.choose, a.choose_spec.1⟩
end LS
end

section
set_option Elab.async false
set_option linter.all false
set_option maxRecDepth 100000
/-! LS.VDkA: the deck of the laws k01 to k12, over values alone. -/
namespace LS
local macro_rules | `(tactic| walk_at "cs") => `(tactic| simp only [wipeV, backV, List.getElem?_cons_succ, List.getElem?_cons_zero, List.set_cons_zero, List.set_cons_succ])
local macro_rules | `(tactic| walk_at "pl") => `(tactic| first | rfl | assumption | (simp [V.plain, V.plains, V.plains_app, V.plains_map]; done))
local macro_rules | `(tactic| walk_at "ok") => `(tactic| first | rfl | assumption | (simp [V.okd, V.okds, V.okds_app, V.okds_map]; done))
local macro_rules | `(tactic| walk_at "ga") => `(tactic| repeat (first | exact getA_nil | ((with_reducible apply getA_vp); (focus (walk_at "pl"))) | ((with_reducible apply getA_vl); (focus (walk_at "pl"))) | ((with_reducible apply getA_sp); (focus exact rfl); (focus (walk_at "pl"))) | ((with_reducible apply getA_sl); (focus exact rfl); (focus (walk_at "pl"))) | ((with_reducible apply getA_vf); (focus (walk_at "pl"))) | ((with_reducible apply getA_sf); (focus exact rfl); (focus (walk_at "pl")))))
local macro_rules | `(tactic| walk_at "vp") => `(tactic| first | with_reducible refine VP.addI ?_ | with_reducible refine VP.subI ?_ | with_reducible refine VP.ltI ?_ | with_reducible refine VP.leI ?_ | with_reducible refine VP.gtI ?_ | with_reducible refine VP.geI ?_ | with_reducible refine VP.negI ?_ | with_reducible refine VP.lenT ?_ | with_reducible refine VP.lenL ?_ | with_reducible refine VP.lenF ?_ | with_reducible refine VP.intOfI ?_ | with_reducible refine VP.intOfB ?_ | with_reducible refine VP.absI ?_ | with_reducible refine VP.isNone ?_ | with_reducible refine VP.notNone ?_ | ((with_reducible refine VP.eq ?_ ?_ ?_); (focus (walk_at "ok")); (focus (walk_at "ok"))) | ((with_reducible refine VP.ne ?_ ?_ ?_); (focus (walk_at "ok")); (focus (walk_at "ok"))) | ((with_reducible refine VP.tupleL ?_ ?_); (focus (walk_at "pl"))) | ((with_reducible refine VP.tupleT ?_ ?_); (focus (walk_at "pl"))) | ((with_reducible refine VP.listT ?_ ?_); (focus (walk_at "pl"))) | ((with_reducible refine VP.listL ?_ ?_); (focus (walk_at "pl"))) | ((with_reducible refine VP.isinT ?_ ?_ ?_); (focus (walk_at "ok")); (focus (walk_at "ok"))) | ((with_reducible refine VP.isinL ?_ ?_ ?_); (focus (walk_at "ok")); (focus (walk_at "ok"))) | ((with_reducible refine VP.notinT ?_ ?_ ?_); (focus (walk_at "ok")); (focus (walk_at "ok"))) | ((with_reducible refine VP.notinL ?_ ?_ ?_); (focus (walk_at "ok")); (focus (walk_at "ok"))))
local macro_rules | `(tactic| walk_at "ve") => `(tactic| first | with_reducible refine VE.int ?_ | with_reducible refine VE.str ?_ | with_reducible refine VE.bl ?_ | with_reducible refine VE.non ?_ | ((with_reducible apply VE.var); (focus exact rfl); (focus (walk_at "pl"))) | ((with_reducible apply VE.varL); (focus exact rfl); (focus (walk_at "pl"))) | with_reducible refine VE.tup ?_ | with_reducible refine VE.lst ?_ | with_reducible refine VEs.nil ?_ | with_reducible refine VEs.cons ?_ | with_reducible refine VE.dct ?_ | with_reducible refine VE.tupS ?_ | with_reducible refine VE.lstS ?_ | with_reducible refine VSt.nil ?_ | with_reducible refine VSt.f ?_ | ((with_reducible refine VSt.t ?_)) | ((with_reducible refine VE.app rfl ?_)) | with_reducible refine VAs.nil ?_ | ((with_reducible apply VAs.var); (focus exact rfl)) | with_reducible refine VAs.ex rfl ?_ | with_reducible refine VFk.mk ?_ | with_reducible refine VSk.mk ?_ | ((with_reducible apply VAs1.var); (focus exact rfl)) | with_reducible refine VAs1.ex rfl ?_ | with_reducible refine VA1.nil ?_ | with_reducible refine VA1.one ?_ | with_reducible refine VE.num ?_ | with_reducible refine VTl.cons ?_ | with_reducible refine VE.and ?_ | with_reducible refine VE.or ?_ | with_reducible refine VAnd.one ?_ | with_reducible refine VAnd.cons ?_ | with_reducible refine VOr.one ?_ | with_reducible refine VOr.cons ?_ | with_reducible refine VE.not ?_ | with_reducible refine VE.ite ?_ | with_reducible refine VE.chain ?_ | with_reducible refine VCh.one ?_ | with_reducible refine VCh.cons ?_ | with_reducible refine VE.tupI ?_ | with_reducible refine VE.lstI ?_ | with_reducible refine VI.val ?_ | with_reducible refine VI.range ?_ | with_reducible refine VI.enum ?_ | with_reducible refine VI.zip ?_ | ((with_reducible apply GA.mk); (focus (walk_at "ga"; done))) | walk_at "vp")
local macro_rules | `(tactic| walk_at "vt") => `(tactic| first | walk_at "ve" | with_reducible refine VS.nil ?_ | with_reducible refine VS.cons ?_ | with_reducible refine VS.exp ?_ | ((with_reducible refine VS.set ?_ ?_); (focus rfl)) | ((with_reducible refine VS.unp ?_ ?_); (focus rfl)) | with_reducible refine VS.sub0 ?_ | with_reducible refine VS.ret rfl ?_ | with_reducible refine VS.retN ?_ | with_reducible refine VS.pass ?_ | with_reducible refine VS.cont ?_ | with_reducible refine VS.brk ?_ | ((with_reducible refine And.intro (a := _ < _) ?_ ?_); (focus exact lt_rfl rfl)) | ((with_reducible show nextV _ _ _ _ _ _ _ _ FV.nx _); unfold nextV; simp only [List.set_cons_zero, List.set_cons_succ]) | ((with_reducible show nextV _ _ _ _ _ _ _ _ (FV.rt _) _); unfold nextV) | ((with_reducible show endV _ _ (FV.rt _) _); unfold endV) )
local macro_rules | `(tactic| walk_at "vs") => `(tactic| repeat (walk_at "vt"))
namespace VA
open PySem (Str PyData)
def d_law_draw : Def := ⟨2, 5, [.ife (.app .lt [.var 1, .con (.int 2)]) [.ret (.con (.int 0))] [], .ife (.app .ne [.app .get [.var 0, .con (.str [100, 101, 101, 112])], .lst []]) [.set 2 (.meth .list .pop (.app .get [.var 0, .con (.str [100, 101, 101, 112])]) []), .ife (.app .ge [.var 2, .var 1]) [.exp (.meth .list .append (.app .get [.var 0, .con (.str [100, 101, 101, 112])]) [.app .fdiv [.var 2, .var 1]])] [], .ret (.app .mod [.app .intOf [.var 2], .var 1])] [], .set 3 (.app .mod [.app .intOf [.app .add [.app .mul [.app .get [.var 0, .con (.str [115, 116, 97, 116, 101])], .con (.int 1181783497276652981)], .con (.int 88172645463325)]], .con (.int 2305843009213693951)]), .sub (.var 0) (.con (.str [115, 116, 97, 116, 101])) (.var 3), .set 4 (.app .mod [.app .intOf [.app .add [.app .add [.app .mul [.var 3, .var 3], .app .mul [.con (.int 374761393), .var 3]], .con (.int 11)]], .con (.int 2305843009213693921)]), .ret (.app .mod [.app .intOf [.app .fdiv [.var 4, .con (.int 1048576)]], .var 1])]⟩
def d_law_pick : Def := ⟨2, 2, [.ret (.app .get [.var 1, .call 118 [.var 0, .app .len [.var 1]]])]⟩
def d_law_deck' (c : Int) : Def := ⟨1, 5, [.set 1 (.dct false [.con (.str [100, 101, 101, 112]), .lst [], .con (.str [115, 116, 97, 116, 101]), .app .add [.con (.int c), .app .len [.app (.slc false true) [.var 0, .con (.int 63)]]]]), .for (.slot 2) (.val (.app (.slc false true) [.var 0, .con (.int 63)])) [.set 3 (.app .abs [.var 2]), .ife (.app .ge [.var 3, .app .pow [.con (.int 10), .con (.int 18)]]) [.sub (.var 1) (.con (.str [100, 101, 101, 112])) (.app .add [.lst [.var 3], .app .get [.var 1, .con (.str [100, 101, 101, 112])]])] [], .set 4 (.app .add [.app .mul [.app .add [.app .add [.app .add [.app .get [.var 1, .con (.str [115, 116, 97, 116, 101])], .app .mul [.con (.int 2), .var 3]], .app .intOf [.app .lt [.var 2, .con (.int 0)]]], .con (.int 1)], .con (.int 1181783497276652981)], .con (.int 521288629)]), .sub (.var 1) (.con (.str [115, 116, 97, 116, 101])) (.app .mod [.app .intOf [.var 4], .con (.int 2305843009213693951)])], .ret (.var 1)]⟩
structure Dk where
  s : Int
  ns : List Int
structure Ok (k : Dk) : Prop where
  s0 : 0 ≤ k.s
  s1 : k.s < 2305843009213693951
  len : k.ns.length ≤ 64
  ok : ∀ n ∈ k.ns, 0 ≤ n ∧ n.natAbs.log2 ≤ 2000000
abbrev kDeep : V := .str [100, 101, 101, 112]
abbrev kState : V := .str [115, 116, 97, 116, 101]
def dkV (k : Dk) : V := .dct true false [.tup [kDeep, .lst true (k.ns.map .int)], .tup [kState, .int k.s]]
theorem dk_frz (k : Dk) : (dkV k).frz = .dct false false [.tup [kDeep, .lst false (k.ns.map .int)], .tup [kState, .int k.s]] := by
  simp [dkV, V.frz, V.frzs, frzs_int]
theorem get_deep (k : Dk) : primV .get [(dkV k).frz, V.frz kDeep] = some (.lst false (k.ns.map .int)) := by
  rw [dk_frz]
  rfl
theorem get_state (k : Dk) : primV .get [(dkV k).frz, V.frz kState] = some (.int k.s) := by
  rw [dk_frz]
  rfl
theorem part_deep (k : Dk) : partV (dkV k) kDeep = some (.lst true (k.ns.map .int)) := rfl
theorem with_deep (k : Dk) (ns : List Int) : withV (dkV k) kDeep (.lst true (ns.map .int)) = some (dkV ⟨k.s, ns⟩) := rfl
theorem sub_state (k : Dk) (s : Int) : subV (dkV k) kState (.int s) = some (dkV ⟨s, k.ns⟩) := rfl
theorem sub_deep (k : Dk) (ns : List Int) : subV (dkV k) kDeep (.lst true (ns.map .int)) = some (dkV ⟨k.s, ns⟩) := rfl
theorem lg {n k : Nat} (hk : 0 < k) (h : n < 2 ^ k) : n.log2 < k := by
  rcases Nat.eq_zero_or_pos n with e | e
  · subst e
    simpa using hk
  · exact (Nat.log2_lt (by omega)).mpr h
theorem lg62 {i : Int} (h0 : 0 ≤ i) (h : i < 4611686018427387904) : i.natAbs.log2 < 62 := lg (by decide) (by
  show i.natAbs < 4611686018427387904
  omega)
theorem log2_mono {a b : Nat} (h : a ≤ b) : a.log2 ≤ b.log2 := by
  rcases Nat.eq_zero_or_pos a with e | e
  · subst e
    simp
  · exact (Nat.le_log2 (by omega)).mpr (Nat.le_trans (Nat.log2_self_le (by omega)) h)
section
variable {G : Nat → Option Def} {io : Nat → Bool} {sub : Nat → Nat → Bool} {N k : Nat}
theorem draw (g : Fn G io 118 true d_law_draw) {K : Dk} {m : Int} (ok : Ok K) (hm : m.natAbs.log2 < 8000) :
    FW (runV sub io G N (k + 1) 118 [dkV K, .int m]) (fun v w => ∃ (r : Int) (K' : Dk), v = .int r ∧ w = dkV K' ∧ Ok K' ∧ 0 ≤ r ∧ (r < m ∨ r = 0)) noF := by
  refine FW.run g rfl ?_
  show VW (stsV _ _ _ _ _ [_, _, _, _, _, _]) [some _, some _, none, none, none] _ _
  walk_at "vs"
  refine VS.ife ?_
  walk_at "vs"
  refine ⟨_, rfl, fun hz => ?_, fun hz => ?_⟩
  · walk_at "vs"
    exact ⟨_, rfl, 0, K, rfl, rfl, ok, Int.le_refl _, .inr rfl⟩
  have hm1 : 0 < m := by
    have := of_decide_eq_false hz
    omega
  obtain ⟨s, ns⟩ := K
  obtain ⟨s0, s1, hl, hn⟩ := ok
  simp only at s0 s1 hl hn
  walk_at "vs"
  refine VS.ife ?_
  walk_at "vs"
  refine VE.appP0 rfl rfl ?_
  walk_at "vs"
  refine ⟨dkV ⟨s, ns⟩, .lst false (ns.map .int), _, rfl, rfl, get_deep _, ?_⟩
  simp only [V.frz, frzs_int]
  walk_at "vs"
  refine ⟨_, rfl, fun hz => ?_, fun hz => ?_⟩
  · rcases List.eq_nil_or_concat ns with e | ⟨p, n, e⟩
    · subst e
      exact absurd hz (by decide)
    · rw [List.concat_eq_append] at e
      subst e
      have hn' := hn n (by simp)
      simp only [List.length_append, List.length_cons, List.length_nil] at hl
      walk_at "vs"
      refine VE.mut1 rfl rfl ?_
      walk_at "vs"
      refine ⟨dkV ⟨s, p ++ [n]⟩, .lst true ((p ++ [n]).map .int), rfl, part_deep _, rfl, ?_⟩
      walk_at "vs"
      refine ⟨(.int n, .lst true (p.map .int)), dkV ⟨s, p⟩, by simp [mutV], with_deep _ _, lt_rfl rfl, ?_⟩
      simp only [List.set_cons_zero, List.set_cons_succ]
      walk_at "vs"
      refine VS.ife ?_
      walk_at "vs"
      refine ⟨_, rfl, fun hz => ?_, fun hz => ?_⟩
      · walk_at "vs"
        refine VE.mut1 rfl rfl ?_
        walk_at "vs"
        refine ⟨dkV ⟨s, p⟩, .lst true (p.map .int), rfl, part_deep _, rfl, ?_⟩
        walk_at "vs"
        refine VP.fdivI hm1 (by omega) ?_
        walk_at "vs"
        refine ⟨(.non, .lst true ((p ++ [n / m]).map .int)), dkV ⟨s, p ++ [n / m]⟩, ?_, with_deep _ _, lt_rfl rfl, ?_⟩
        · have hp : p.length < lineT := by unfold lineT; omega
          simp [mutV, whenO, hp]
        simp only [List.set_cons_zero, List.set_cons_succ]
        walk_at "vs"
        refine VP.modI hm1 ?_
        refine ⟨_, rfl, _, ⟨s, p ++ [n / m]⟩, rfl, rfl, ⟨s0, s1, by simp; omega, fun z hz => ?_⟩, Int.emod_nonneg _ (by omega), .inl (Int.emod_lt_of_pos _ hm1)⟩
        rcases List.mem_append.mp hz with hz | hz
        · exact hn z (by simp [hz])
        · simp only [List.mem_singleton] at hz
          subst hz
          refine ⟨Int.ediv_nonneg hn'.1 (by omega), Nat.le_trans (log2_mono ?_) hn'.2⟩
          have := Int.ediv_le_self m hn'.1
          have := Int.ediv_nonneg (b := m) hn'.1 (by omega)
          omega
      · walk_at "vs"
        refine VP.modI hm1 ?_
        exact ⟨_, rfl, _, ⟨s, p⟩, rfl, rfl, ⟨s0, s1, by simp only; omega, fun z hz => hn z (by simp [hz])⟩, Int.emod_nonneg _ (by omega), .inl (Int.emod_lt_of_pos _ hm1)⟩
  · walk_at "vs"
    refine VE.appP0 rfl rfl ?_
    walk_at "vs"
    refine ⟨dkV ⟨s, ns⟩, .int s, _, rfl, rfl, get_state _, ?_⟩
    refine VP.mulI (by
      have := lg62 s0 (by omega)
      have : (1181783497276652981 : Int).natAbs.log2 < 62 := lg62 (by omega) (by omega)
      exact decide_eq_true (by omega)) ?_
    walk_at "vs"
    refine VP.modI (by decide) ?_
    have o0 := Int.emod_nonneg (s * 1181783497276652981 + 88172645463325) (b := 2305843009213693951) (by decide)
    have o1 := Int.emod_lt_of_pos (s * 1181783497276652981 + 88172645463325) (b := 2305843009213693951) (by decide)
    generalize (s * 1181783497276652981 + 88172645463325) % 2305843009213693951 = o at o0 o1 ⊢
    have l1 := lg62 o0 (by omega)
    walk_at "vs"
    refine ⟨⟨_, rfl⟩, ?_⟩
    walk_at "vs"
    refine ⟨dkV ⟨s, ns⟩, dkV ⟨o, ns⟩, rfl, sub_state _ _, ?_⟩
    walk_at "vs"
    refine VP.mulI (decide_eq_true (by omega)) ?_
    walk_at "vs"
    refine VP.mulI (by
      have : (374761393 : Int).natAbs.log2 < 62 := lg62 (by omega) (by omega)
      exact decide_eq_true (by omega)) ?_
    walk_at "vs"
    refine VP.modI (by decide) ?_
    walk_at "vs"
    refine VP.fdivI (by decide) (Nat.lt_trans (lg62 (i := 1048576) (by decide) (by decide)) (by decide)) ?_
    walk_at "vs"
    refine VP.modI hm1 ?_
    exact ⟨_, rfl, _, ⟨o, ns⟩, rfl, rfl, ⟨o0, o1, hl, hn⟩, Int.emod_nonneg _ (by omega), .inl (Int.emod_lt_of_pos _ hm1)⟩
/-- one of a list's items -/
theorem pick (g : Fn G io 118 true d_law_draw) (g2 : Fn G io 119 true d_law_pick) {K : Dk} {o : Bool} {xs : List V} (ok : Ok K) (px : V.plains xs = true) (hx : xs ≠ []) (hl : xs.length < 1000000000) :
    FW (runV sub io G N (k + 2) 119 [dkV K, .lst o xs]) (fun v w => ∃ (K' : Dk), w = dkV K' ∧ Ok K' ∧ v ∈ xs) noF := by
  refine FW.run g2 rfl ?_
  show VW (stsV _ _ _ _ _ [_]) [some _, some _] _ _
  walk_at "vs"
  refine VE.callIO g.o rfl rfl ?_
  walk_at "vs"
  refine ⟨dkV K, rfl, ?_⟩
  have hp : 0 < xs.length := List.length_pos_iff.mpr hx
  refine (draw g ok (Nat.lt_trans (lg (k := 62) (by decide) ?_) (by decide))).mono ?_ fun _ _ h => h.elim
  · show (xs.length : Int).natAbs < 4611686018427387904
    omega
  rintro v w ⟨r, K', rfl, rfl, ok', r0, r1⟩
  walk_at "vs"
  obtain ⟨t, e, ht⟩ := atV_of (xs := xs) r0 (by omega)
  refine VP.getL e (V.plains_iff.mp px t ht) ?_
  exact ⟨_, rfl, K', rfl, ok', ht⟩
theorem lt_pow {n k : Nat} (hk : 0 < k) (h : n.log2 < k) : n < 2 ^ k := by
  rcases Nat.eq_zero_or_pos n with e | e
  · subst e
    exact Nat.pow_pos (by decide)
  · exact (Nat.log2_lt (by omega)).mp h
theorem lgSum {k : Nat} (hk : 62 ≤ k) {s b : Int} {n : Nat} (s0 : 0 ≤ s) (s1 : s < 2305843009213693951) (hn : n.log2 < k) (b0 : 0 ≤ b) (b1 : b ≤ 1) : (s + 2 * (n : Int) + b + 1).natAbs.log2 < k + 4 := by
  have h1 := lt_pow (by omega) hn
  have h2 : 2 ^ 62 ≤ 2 ^ k := Nat.pow_le_pow_right (by decide) hk
  have h3 : 2 ^ (k + 4) = 2 ^ k * 16 := by rw [Nat.pow_add]
  refine lg (by omega) ?_
  rw [h3]
  have h4 : (2 : Nat) ^ 62 = 4611686018427387904 := rfl
  rw [h4] at h2
  omega
/-- the deck, of the script -/
theorem deck {d : Def} {c : Int} (g : Fn G io 153 false (d_law_deck' c)) {ns : List Int} (h0 : 0 ≤ c) (h1 : c < 100000) (hl : ns.length ≤ 63) (hn : ∀ z ∈ ns, z.natAbs.log2 < 1048576) :
    FW (runV sub io G N (k + 1) 153 [.fro (ns.map .int)]) (fun v _ => ∃ (K : Dk), v = dkV K ∧ Ok K) noF := by
  refine FW.run g rfl ?_
  show VW (stsV _ _ _ _ _ [_, _, _]) [some _, none, none, none, none] _ _
  have ec : cutL (ns.map V.int) 0 (cutIx (ns.map V.int).length 63) = ns.map V.int := by
    simp [cutL, cutIx, List.take_of_length_le, hl]
  walk_at "vs"
  refine VP.slcF (z := (0, cutIx (ns.map V.int).length 63)) rfl (by rw [ec]; exact plains_int) ?_
  rw [ec]
  walk_at "vs"
  simp only [List.length_map]
  refine ⟨dkV ⟨c + ns.length, []⟩, rfl, ?_⟩
  walk_at "vs"
  refine VS.for rfl V.int (fun zs s => ∃ (K : Dk) (u v w : Option V), s = [some (.fro (ns.map .int)), some (dkV K), u, v, w] ∧ Ok K ∧ K.ns.length + zs.length ≤ 63 ∧ ∀ z ∈ zs, z.natAbs.log2 < 1048576) ?init ?step ?last
  case init =>
    walk_at "vs"
    refine VP.slcF (z := (0, cutIx (ns.map V.int).length 63)) rfl (by rw [ec]; exact plains_int) ?_
    rw [ec]
    refine ⟨_, rfl, ns, frzs_int, _, _, _, _, rfl, ⟨by simp only; omega, by simp only; omega, by simp, by simp⟩, by simpa using hl, hn⟩
  case last =>
    rintro s ⟨K, u, v, w, rfl, ok, _⟩
    walk_at "vs"
    refine VS.retVar (v := dkV K) rfl fun s _ => ?_
    exact ⟨_, rfl, K, rfl, ok⟩
  case step =>
    rintro z zs s ⟨K, u, v, w, rfl, ok, hl, hz⟩
    refine ⟨_, rfl, ?_⟩
    simp only [List.set_cons_zero, List.set_cons_succ]
    walk_at "vs"
    have hz0 := hz z (by simp)
    simp only [List.length_cons] at hl
    have hza : (z.natAbs : Int).natAbs.log2 < 1048576 := by simpa using hz0
    refine VW.join (fun s => ∃ K, s = [some (.fro (ns.map .int)), some (dkV K), some (.int z), some (.int z.natAbs), w] ∧ Ok K ∧ K.ns.length + zs.length ≤ 63) ?_ ?_
    · refine VS.ife ?_
      walk_at "vs"
      refine VP.powI rfl ?_
      walk_at "vs"
      refine ⟨_, rfl, fun hz => ?_, fun hz => ?_⟩
      · walk_at "vs"
        refine VE.appP1 rfl ?_
        walk_at "vs"
        refine ⟨⟨_, rfl⟩, ?_⟩
        walk_at "vs"
        refine ⟨[.lst false [.int z.natAbs]], dkV K, .lst false (K.ns.map .int), by walk_at "ga", rfl, get_deep _, ?_⟩
        simp only [V.frz, frzs_int, List.cons_append, List.nil_append]
        refine VP.addL (by simp [lineT]; omega) (by simp [V.plains, V.plain, plains_int]) ?_
        refine ⟨⟨_, rfl⟩, ?_⟩
        walk_at "vs"
        refine ⟨dkV K, dkV ⟨K.s, z.natAbs :: K.ns⟩, rfl, sub_deep K (z.natAbs :: K.ns), ?_⟩
        walk_at "vs"
        refine ⟨rfl, _, rfl, ⟨ok.s0, ok.s1, by simp only [List.length_cons]; omega, fun n hn => ?_⟩, by simp only [List.length_cons]; omega⟩
        rcases List.mem_cons.mp hn with e | hn
        · subst e
          exact ⟨by omega, by omega⟩
        · exact ok.ok n hn
      · walk_at "vs"
        exact ⟨rfl, K, rfl, ok, by omega⟩
    · rintro s ⟨K, rfl, ok, hl⟩
      obtain ⟨s, ns'⟩ := K
      obtain ⟨s0, s1, hl2, hn2⟩ := ok
      simp only at s0 s1 hl hl2 hn2
      walk_at "vs"
      refine ⟨[(dkV ⟨s, ns'⟩).frz, kState], rfl, .int s, get_state _, rfl, ?_⟩
      walk_at "vs"
      refine VP.mulI (by
        have : (2 : Int).natAbs.log2 < 62 := lg62 (by omega) (by omega)
        exact decide_eq_true (by omega)) ?_
      walk_at "vs"
      refine VP.mulI (by
        have := lgSum (k := 1048576) (by decide) (b := if decide (z < 0) = true then 1 else 0) s0 s1 hz0 (by split <;> decide) (by split <;> decide)
        have : (1181783497276652981 : Int).natAbs.log2 < 62 := lg62 (by omega) (by omega)
        exact decide_eq_true (by omega)) ?_
      walk_at "vs"
      refine VP.modI (by decide) ?_
      refine ⟨⟨_, rfl⟩, ?_⟩
      walk_at "vs"
      refine ⟨_, _, rfl, sub_state _ _, ?_⟩
      walk_at "vs"
      exact ⟨⟨_, ns'⟩, _, _, _, rfl, ⟨Int.emod_nonneg _ (by decide), Int.emod_lt_of_pos _ (by decide), hl2, hn2⟩, hl, fun z hz' => hz z (by simp [hz'])⟩
end
end VA
end LS
end

section
set_option Elab.async false
set_option linter.all false
set_option maxRecDepth 100000
/-! LS.VEnc: agreements as values. -/
namespace LS
open PySem (Str PyData)
theorem ShV.small {n : Nat} {i : Nat} (h : i < 1000000000) : ShV n 10 (.int (i : Int)) := by
  have h2 : (i : Int).natAbs < 10 ^ 9 := by
    show i < 10 ^ 9
    omega
  refine ⟨.int i, by cases n <;> rfl, decide_eq_true ?_, rfl, ?_, ?_⟩
  · rcases Nat.eq_zero_or_pos i with e | e
    · subst e; decide
    · refine (Nat.log2_lt (by omega)).mpr (Nat.lt_of_lt_of_le (m := 2 ^ 30) (by
        show i < 2 ^ 30
        omega) (Nat.pow_le_pow_right (by decide) (by decide)))
  · rw [PyData.shown_int, PySem.ofString_length]
    exact PySem.int_text_length_le10 (k := 9) (by decide) h2
  · rw [PyData.shown_int]
    exact okC_of _
abbrev okc (s : List Nat) : Prop := s.all (fun c => decide (c < 1114112)) = true
abbrev Pr := Nat × List Nat
def prV (p : Pr) : V := .tup [.int p.1, .str p.2]
structure Row where
  st : Nat
  takes : List Pr
  onto : Nat
  sends : List Pr
  late : Bool
  deriving DecidableEq
def rowV (r : Row) : V := .tup [.int r.st, .tup (r.takes.map prV), .int r.onto, .tup (r.sends.map prV), .bl r.late]
structure Book where
  kinds : List (List Nat)
  rows : List Row
  deriving DecidableEq
def bookV (b : Book) : V := .tup [.tup (b.kinds.map .str), .tup (b.rows.map rowV)]
abbrev Agr := List Book
def agrV (a : Agr) : V := .tup (a.map bookV)
@[simp] theorem prV_plain (p : Pr) : (prV p).plain = true := rfl
@[simp] theorem rowV_plain (r : Row) : (rowV r).plain = true := by simp [rowV, V.plain, V.plains, V.plains_map]
@[simp] theorem bookV_plain (b : Book) : (bookV b).plain = true := by simp [bookV, V.plain, V.plains, V.plains_map]
@[simp] theorem agrV_plain (a : Agr) : (agrV a).plain = true := by simp [agrV, V.plain, V.plains, V.plains_map]
/-- sizes -/
structure PrSz (p : Pr) : Prop where
  i : p.1 < 1000000000
  s : okc p.2
  l : p.2.length ≤ 20
structure RowSz (r : Row) : Prop where
  st : r.st < 1000000000
  onto : r.onto < 1000000000
  takes : ∀ p ∈ r.takes, PrSz p
  tl : r.takes.length ≤ 20
  sends : ∀ p ∈ r.sends, PrSz p
  sl : r.sends.length ≤ 20
structure BookSz (b : Book) : Prop where
  kinds : ∀ k ∈ b.kinds, okc k ∧ k.length ≤ 20
  kl : b.kinds.length ≤ 20
  rows : ∀ r ∈ b.rows, RowSz r
  rl : b.rows.length ≤ 20
structure AgrSz (a : Agr) : Prop where
  books : ∀ b ∈ a, BookSz b
  l : a.length ≤ 8
theorem prV_sh {p : Pr} (h : PrSz p) (n : Nat) : ShV (n + 1) 230 (prV p) := by
  refine (ShV.tup (.cons (.small h.i) (.cons (.str h.s) .nil) (v := 10 * p.2.length + 2 + 2 + 0))).mono ?_
  have := h.l
  omega
theorem rowV_sh {r : Row} (h : RowSz r) (n : Nat) : ShV (n + 3) 9400 (rowV r) := by
  refine (ShV.tup (.cons (.small h.st) (.cons (.tup (ShVs.map (w := 230) _ fun p hp => prV_sh (h.takes p hp) n)) (.cons (.small h.onto) (.cons (.tup (ShVs.map (w := 230) _ fun p hp => prV_sh (h.sends p hp) n)) (.cons (.bl _) (.nil (w := 0)))))))).mono ?_
  have := h.tl
  have := h.sl
  omega
theorem bookV_sh {b : Book} (h : BookSz b) (n : Nat) : ShV (n + 5) 193000 (bookV b) := by
  refine (ShV.tup (.cons (.tup (ShVs.map (w := 202) _ fun k hk => (ShV.str (h.kinds k hk).1).mono (by have := (h.kinds k hk).2; omega))) (.cons (.tup (ShVs.map (w := 9400) _ fun r hr => rowV_sh (h.rows r hr) n)) (.nil (w := 0))))).mono ?_
  have := h.kl
  have := h.rl
  omega
theorem agrV_sh {a : Agr} (h : AgrSz a) (n : Nat) : ShV (n + 6) 1600000 (agrV a) := by
  refine (ShV.tup (ShVs.map (w := 193000) _ fun b hb => bookV_sh (h.books b hb) n)).mono ?_
  have := h.l
  omega
/-! ### sorted pairs -/
def prD (p : Pr) : PyData := .tuple [.int p.1, .str ⟨p.2.toArray⟩]
theorem prV_data {p : Pr} (h : okc p.2) : V.data deep (prV p) = some (prD p) := by
  simp [prV, V.data, optAll, h, prD, deep]
def sortPr (ps : List Pr) : List Pr := ps.mergeSort (PySem.W.dataLe false prD)
theorem sort_pr {ps : List Pr} (h : ∀ p ∈ ps, okc p.2) : sortV (ps.map prV) = some ((sortPr ps).map prV) := by
  refine sortV_map (fun p hp => prV_data (h p hp)) ?_
  simp only [Bool.and_eq_true]
  constructor
  · simp only [alikes, List.all_map, List.all_eq_true]
    intro a _
    simp only [Function.comp_apply, List.all_eq_true]
    intro b _
    simp [prD, PySem.W.alike, PySem.W.alikeAll]
  · simp only [sortableD, Bool.or_eq_true]
    left
    simp only [List.all_map, List.all_eq_true]
    intro a _
    rfl
theorem sortPr_mem {ps : List Pr} {p : Pr} : p ∈ sortPr ps ↔ p ∈ ps := List.mem_mergeSort
theorem sortPr_len {ps : List Pr} : (sortPr ps).length = ps.length := List.length_mergeSort _
end LS
end

section
set_option Elab.async false
set_option linter.all false
set_option maxRecDepth 100000
set_option maxHeartbeats 4000000
/-! LS.VK04: the law k04, over values alone. -/
namespace LS
local macro_rules | `(tactic| walk_at "cs") => `(tactic| simp only [wipeV, backV, List.getElem?_cons_succ, List.getElem?_cons_zero, List.set_cons_zero, List.set_cons_succ])
local macro_rules | `(tactic| walk_at "pl") => `(tactic| first | rfl | assumption | (simp [V.plain, V.plains, V.plains_app, V.plains_map]; done))
local macro_rules | `(tactic| walk_at "ok") => `(tactic| first | rfl | assumption | (simp [V.okd, V.okds, V.okds_app, V.okds_map]; done))
local macro_rules | `(tactic| walk_at "ga") => `(tactic| repeat (first | exact getA_nil | ((with_reducible apply getA_vp); (focus (walk_at "pl"))) | ((with_reducible apply getA_vl); (focus (walk_at "pl"))) | ((with_reducible apply getA_sp); (focus exact rfl); (focus (walk_at "pl"))) | ((with_reducible apply getA_sl); (focus exact rfl); (focus (walk_at "pl"))) | ((with_reducible apply getA_vf); (focus (walk_at "pl"))) | ((with_reducible apply getA_sf); (focus exact rfl); (focus (walk_at "pl")))))
local macro_rules | `(tactic| walk_at "vp") => `(tactic| first | with_reducible refine VP.addI ?_ | with_reducible refine VP.subI ?_ | with_reducible refine VP.ltI ?_ | with_reducible refine VP.leI ?_ | with_reducible refine VP.gtI ?_ | with_reducible refine VP.geI ?_ | with_reducible refine VP.negI ?_ | with_reducible refine VP.lenT ?_ | with_reducible refine VP.lenL ?_ | with_reducible refine VP.lenF ?_ | with_reducible refine VP.intOfI ?_ | with_reducible refine VP.intOfB ?_ | with_reducible refine VP.absI ?_ | with_reducible refine VP.isNone ?_ | with_reducible refine VP.notNone ?_ | ((with_reducible refine VP.eq ?_ ?_ ?_); (focus (walk_at "ok")); (focus (walk_at "ok"))) | ((with_reducible refine VP.ne ?_ ?_ ?_); (focus (walk_at "ok")); (focus (walk_at "ok"))) | ((with_reducible refine VP.tupleL ?_ ?_); (focus (walk_at "pl"))) | ((with_reducible refine VP.tupleT ?_ ?_); (focus (walk_at "pl"))) | ((with_reducible refine VP.listT ?_ ?_); (focus (walk_at "pl"))) | ((with_reducible refine VP.listL ?_ ?_); (focus (walk_at "pl"))) | ((with_reducible refine VP.isinT ?_ ?_ ?_); (focus (walk_at "ok")); (focus (walk_at "ok"))) | ((with_reducible refine VP.isinL ?_ ?_ ?_); (focus (walk_at "ok")); (focus (walk_at "ok"))) | ((with_reducible refine VP.notinT ?_ ?_ ?_); (focus (walk_at "ok")); (focus (walk_at "ok"))) | ((with_reducible refine VP.notinL ?_ ?_ ?_); (focus (walk_at "ok")); (focus (walk_at "ok"))))
local macro_rules | `(tactic| walk_at "ve") => `(tactic| first | with_reducible refine VE.int ?_ | with_reducible refine VE.str ?_ | with_reducible refine VE.bl ?_ | with_reducible refine VE.non ?_ | ((with_reducible apply VE.var); (focus exact rfl); (focus (walk_at "pl"))) | ((with_reducible apply VE.varL); (focus exact rfl); (focus (walk_at "pl"))) | with_reducible refine VE.tup ?_ | with_reducible refine VE.lst ?_ | with_reducible refine VEs.nil ?_ | with_reducible refine VEs.cons ?_ | with_reducible refine VE.dct ?_ | with_reducible refine VE.tupS ?_ | with_reducible refine VE.lstS ?_ | with_reducible refine VSt.nil ?_ | with_reducible refine VSt.f ?_ | ((with_reducible refine VSt.t ?_)) | ((with_reducible refine VE.app rfl ?_)) | with_reducible refine VAs.nil ?_ | ((with_reducible apply VAs.var); (focus exact rfl)) | with_reducible refine VAs.ex rfl ?_ | with_reducible refine VFk.mk ?_ | with_reducible refine VSk.mk ?_ | ((with_reducible apply VAs1.var); (focus exact rfl)) | with_reducible refine VAs1.ex rfl ?_ | with_reducible refine VA1.nil ?_ | with_reducible refine VA1.one ?_ | with_reducible refine VE.num ?_ | with_reducible refine VTl.cons ?_ | with_reducible refine VE.and ?_ | with_reducible refine VE.or ?_ | with_reducible refine VAnd.one ?_ | with_reducible refine VAnd.cons ?_ | with_reducible refine VOr.one ?_ | with_reducible refine VOr.cons ?_ | with_reducible refine VE.not ?_ | with_reducible refine VE.ite ?_ | with_reducible refine VE.chain ?_ | with_reducible refine VCh.one ?_ | with_reducible refine VCh.cons ?_ | with_reducible refine VE.tupI ?_ | with_reducible refine VE.lstI ?_ | with_reducible refine VI.val ?_ | with_reducible refine VI.range ?_ | with_reducible refine VI.enum ?_ | with_reducible refine VI.zip ?_ | ((with_reducible apply GA.mk); (focus (walk_at "ga"; done))) | walk_at "vp")
local macro_rules | `(tactic| walk_at "vt") => `(tactic| first | walk_at "ve" | with_reducible refine VS.nil ?_ | with_reducible refine VS.cons ?_ | with_reducible refine VS.exp ?_ | ((with_reducible refine VS.set ?_ ?_); (focus rfl)) | ((with_reducible refine VS.unp ?_ ?_); (focus rfl)) | with_reducible refine VS.sub0 ?_ | with_reducible refine VS.ret rfl ?_ | with_reducible refine VS.retN ?_ | with_reducible refine VS.pass ?_ | with_reducible refine VS.cont ?_ | with_reducible refine VS.brk ?_ | ((with_reducible refine And.intro (a := _ < _) ?_ ?_); (focus exact lt_rfl rfl)) | ((with_reducible show nextV _ _ _ _ _ _ _ _ FV.nx _); unfold nextV; simp only [List.set_cons_zero, List.set_cons_succ]) | ((with_reducible show nextV _ _ _ _ _ _ _ _ (FV.rt _) _); unfold nextV) | ((with_reducible show endV _ _ (FV.rt _) _); unfold endV) )
local macro_rules | `(tactic| walk_at "vs") => `(tactic| repeat (walk_at "vt"))
namespace VK04
open PySem (Str PyData)
open VA
def d_kind : Def := ⟨3, 3, [.ret (.app .get [.app .get [.app .get [.var 0, .var 1], .con (.int 0)], .var 2])]⟩
def d_with_late : Def := ⟨4, 7, [.unp (.tup [.slot 4, .slot 5]) (.app .get [.var 0, .var 1]), .set 6 (.tupS [true, false] [.app (.slc false true) [.app .get [.var 5, .var 2], .con (.int 4)], .var 3]), .ret (.tupS [true, false, true] [.app (.slc false true) [.var 0, .var 1], .tup [.var 4, .tupS [true, false, true] [.app (.slc false true) [.var 5, .var 2], .var 6, .app (.slc true false) [.var 5, .app .add [.var 2, .con (.int 1)]]]], .app (.slc true false) [.var 0, .app .add [.var 1, .con (.int 1)]]])]⟩
def d_law_leads : Def := ⟨2, 2, [.ife (.app .isin [.var 0, .tup [.con (.str [100, 111, 110, 101]), .con (.str [111, 102, 102])]]) [.ret (.con (.bl false))] [], .ret (.app .isin [.var 1, .ite (.app .eq [.var 0, .con (.str [111, 112, 101, 110])]) (.tup [.con (.str [111, 112, 101, 110]), .con (.str [121, 101, 115]), .con (.str [111, 102, 102])]) (.tup [.con (.str [121, 101, 115]), .con (.str [100, 111, 110, 101]), .con (.str [111, 102, 102])])])]⟩
def d_law_pairs : Def := ⟨4, 9, [.unp (.tup [.slot 4, .slot 5]) (.tup [.comp (.var 6) [6] (.slot 6) (.range [.var 1]) [.app .ne [.var 6, .var 2]], .lst []]), .for (.slot 7) (.range [.call 118 [.var 0, .app .add [.var 3, .con (.int 1)]]]) [.set 8 (.tup [.call 119 [.var 0, .var 4], .call 119 [.var 0, .lst [.con (.str [97]), .con (.str [98]), .con (.str [97]), .con (.str [98]), .con (.str [111, 107]), .con (.str [115, 105, 120, 115, 105, 120])]]]), .ife (.app .notin [.var 8, .var 5]) [.exp (.meth .list .append (.var 5) [.var 8])] []], .ret (.var 5)]⟩
def d_law_book : Def := ⟨4, 13, [.set 4 (.app .add [.con (.int 1), .call 118 [.var 0, .var 3]]), .set 5 (.lst [.call 119 [.var 0, .lst [.con (.str [111, 112, 101, 110]), .con (.str [111, 112, 101, 110]), .con (.str [121, 101, 115])]]]), .for (.slot 6) (.range [.app .sub [.var 4, .con (.int 1)]]) [.exp (.meth .list .append (.var 5) [.call 119 [.var 0, .lst [.con (.str [111, 112, 101, 110]), .con (.str [121, 101, 115]), .con (.str [121, 101, 115]), .con (.str [100, 111, 110, 101]), .con (.str [111, 102, 102])]]])], .set 7 (.lst []), .for (.slot 6) (.range [.call 118 [.var 0, .con (.int 6)]]) [.set 8 (.ite (.app .lt [.var 6, .con (.int 2)]) (.con (.int 0)) (.call 118 [.var 0, .var 4])), .set 9 (.comp (.var 10) [10] (.slot 10) (.range [.app .add [.var 8, .con (.int 1)], .var 4]) [.call 158 [.app .get [.var 5, .var 8], .app .get [.var 5, .var 10]]]), .ife (.app .ne [.var 9, .lst []]) [.set 11 (.app .tuple [.app .sorted [.call 161 [.var 0, .var 1, .var 2, .call 119 [.var 0, .lst [.con (.int 0), .con (.int 0), .con (.int 1), .con (.int 1), .con (.int 2), .con (.int 4)]]]]]), .set 12 (.app .tuple [.call 161 [.var 0, .var 1, .var 2, .call 119 [.var 0, .lst [.con (.int 0), .con (.int 1), .con (.int 2), .con (.int 3), .con (.int 6)]]]]), .exp (.meth .list .append (.var 7) [.tup [.var 8, .var 11, .call 119 [.var 0, .var 9], .var 12, .app .eq [.call 118 [.var 0, .con (.int 3)], .con (.int 0)]]])] []], .ret (.tup [.app .tuple [.var 5], .app .tuple [.var 7]])]⟩
def d_law_asking : Def := ⟨3, 11, [.unp (.tup [.slot 3, .slot 4]) (.tup [.tup [.con (.str [111, 112, 101, 110]), .con (.str [121, 101, 115]), .con (.str [100, 111, 110, 101]), .con (.str [111, 102, 102])], .lstI (.range [.con (.int 1), .var 1])]), .unp (.tup [.slot 5, .slot 6]) (.tup [.app .tuple [.comp (.tup [.var 7, .con (.str [111, 107])]) [7] (.slot 7) (.val (.var 4)) []], .app .tuple [.comp (.tup [.var 7, .var 2]) [7] (.slot 7) (.val (.var 4)) []]]), .set 8 (.lst [.tup [.con (.int 0), .tup [], .con (.int 1), .app .tuple [.comp (.tup [.var 7, .con (.str [97, 115, 107])]) [7] (.slot 7) (.val (.var 4)) []], .app .eq [.call 118 [.var 0, .con (.int 2)], .con (.int 0)]]]), .exp (.meth .list .append (.var 8) [.tup [.con (.int 1), .var 5, .con (.int 2), .var 6, .app .eq [.call 118 [.var 0, .con (.int 2)], .con (.int 0)]]]), .set 8 (.app .add [.var 8, .comp (.tup [.con (.int 1), .tup [.tup [.var 7, .con (.str [110, 111])]], .con (.int 3), .tup [], .con (.bl false)]) [7] (.slot 7) (.val (.var 4)) []]), .set 9 (.lst [.tup [.var 3, .app .tuple [.var 8]]]), .for (.slot 7) (.val (.var 4)) [.set 10 (.lst [.tup [.con (.int 0), .tup [.tup [.con (.int 0), .con (.str [97, 115, 107])]], .con (.int 1), .tup [.tup [.con (.int 0), .con (.str [111, 107])]], .app .eq [.call 118 [.var 0, .con (.int 2)], .con (.int 0)]]]), .exp (.meth .list .append (.var 10) [.tup [.con (.int 0), .tup [.tup [.con (.int 0), .con (.str [97, 115, 107])]], .con (.int 3), .tup [.tup [.con (.int 0), .con (.str [110, 111])]], .app .eq [.call 118 [.var 0, .con (.int 2)], .con (.int 0)]]]), .exp (.meth .list .append (.var 9) [.tup [.var 3, .app .tuple [.app .add [.var 10, .lst [.tup [.con (.int 1), .tup [.tup [.con (.int 0), .var 2]], .con (.int 2), .tup [], .app .eq [.call 118 [.var 0, .con (.int 2)], .con (.int 0)]]]]]]])], .ret (.app .tuple [.var 9])]⟩
def d_law_agreement : Def := ⟨1, 3, [.set 1 (.call 119 [.var 0, .lst [.con (.int 2), .con (.int 2), .con (.int 3), .con (.int 3), .con (.int 4)]]), .ife (.app .eq [.call 118 [.var 0, .con (.int 3)], .con (.int 0)]) [.ret (.call 163 [.var 0, .var 1, .call 119 [.var 0, .lst [.con (.str [100, 111]), .con (.str [97]), .con (.str [111, 107])]]])] [], .ret (.app .tuple [.comp (.call 162 [.var 0, .var 1, .var 2, .call 119 [.var 0, .lst [.con (.int 3), .con (.int 4), .con (.int 5), .con (.int 8)]]]) [2] (.slot 2) (.range [.var 1]) []])]⟩
def d_law_turned : Def := ⟨4, 15, [.set 4 (.lst []), .for (.tup [.slot 5, .tup [.slot 6, .slot 7]]) (.enum (.var 0)) [.set 8 (.lst []), .for (.tup [.slot 9, .tup [.slot 10, .slot 11, .slot 12, .slot 13, .slot 14]]) (.enum (.var 7)) [.exp (.meth .list .append (.var 8) [.tup [.var 10, .var 11, .var 12, .var 13, .ite (.app .eq [.tup [.var 5, .var 9], .tup [.var 1, .var 2]]) (.var 3) (.var 14)]])], .exp (.meth .list .append (.var 4) [.tup [.var 6, .app .tuple [.var 8]]])], .ret (.app .tuple [.var 4])]⟩
def d_law_are_kinds : Def := ⟨2, 8, [.for (.tup [.slot 2, .tup [.slot 3, .slot 4]]) (.enum (.var 0)) [.for (.tup [.slot 5, .slot 6]) (.enum (.var 3)) [.set 7 (.ite (.var 1) (.callK 10 [] [.var 5, .var 2, .var 0] [2, 1, 0]) (.call 10 [.var 0, .var 2, .var 5])), .ife (.app .ne [.app .repr [.lst [.var 7, .call 10 [.var 0, .var 2, .var 5]]], .app .repr [.lst [.var 6, .var 6]]]) [.ret (.con (.bl false))] []]], .ret (.con (.bl true))]⟩
def d_law_are_late : Def := ⟨3, 11, [.for (.tup [.slot 3, .tup [.slot 4, .slot 5]]) (.enum (.var 1)) [.for (.slot 6) (.range [.app .len [.var 5]]) [.set 7 (.app .eq [.call 118 [.var 0, .con (.int 2)], .con (.int 0)]), .set 8 (.call 138 [.var 1, .var 3, .var 6, .var 7]), .set 9 (.call 13 [.var 1, .var 3, .var 6, .var 7]), .set 10 (.ite (.var 2) (.callK 13 [] [.var 7, .var 6, .var 3, .var 1] [3, 2, 1, 0]) (.var 9)), .ife (.app .ne [.app .repr [.lst [.var 9, .var 10, .call 13 [.var 1, .var 3, .var 6, .not (.var 7)]]], .app .repr [.lst [.var 8, .var 8, .call 138 [.var 1, .var 3, .var 6, .not (.var 7)]]]]) [.ret (.con (.bl false))] [], .ife (.app .ne [.app .repr [.call 13 [.var 9, .var 3, .var 6, .app .get [.app .get [.var 5, .var 6], .con (.int 4)]]], .app .repr [.var 1]]) [.ret (.con (.bl false))] []]], .ret (.con (.bl true))]⟩
def d_law : Def := ⟨1, 5, [.set 1 (.call 153 [.var 0]), .for (.slot 2) (.range [.con (.int 7)]) [.set 3 (.call 139 [.var 1]), .set 4 (.app .repr [.var 3]), .ife (.or [.not (.call 181 [.var 3, .app .eq [.var 2, .con (.int 0)]]), .not (.call 182 [.var 1, .var 3, .app .lt [.var 2, .con (.int 2)]])]) [.ret (.con (.bl false))] [], .ife (.app .ne [.app .repr [.var 3], .var 4]) [.ret (.con (.bl false))] []], .ret (.con (.bl true))]⟩
section
variable {G : Nat → Option Def} {io : Nat → Bool} {sub : Nat → Nat → Bool} {N k : Nat}
theorem leads (g : Fn G io 158 false d_law_leads) {s t : List Nat} (hs : okc s) (ht : okc t) : FW (runV sub io G N (k + 1) 158 [.str s, .str t]) (fun v _ => ∃ b, v = .bl b) noF := by
  refine FW.run g rfl ?_
  show VW (stsV _ _ _ _ _ [_, _]) [some _, some _] _ _
  walk_at "vs"
  refine VS.ife ?_
  walk_at "vs"
  refine ⟨_, rfl, fun hz => ?_, fun hz => ?_⟩
  · walk_at "vs"
    exact ⟨_, rfl, _, rfl⟩
  · walk_at "vs"
    refine ⟨_, rfl, fun hz => ?_, fun hz => ?_⟩
    · walk_at "vs"
      exact ⟨_, rfl, _, rfl⟩
    · walk_at "vs"
      exact ⟨_, rfl, _, rfl⟩
theorem okds_pr {n : Nat} {ps : List Pr} (hp : ∀ p ∈ ps, PrSz p) : V.okds (n + 1) (ps.map prV) = true := by
  rw [V.okds_map, List.all_eq_true]
  intro p h
  simpa [prV, V.okd, V.okds] using (hp p h).s
theorem pairs (g0 : Fn G io 118 true d_law_draw) (g1 : Fn G io 119 true d_law_pick) (g : Fn G io 161 true d_law_pairs) {n : Nat} {house most : Int} {K : Dk} (hn : 2 ≤ n) (hn4 : n ≤ 4) (hm : 0 ≤ most) (hm6 : most ≤ 6) (ok : VA.Ok K) :
    FW (runV sub io G N (k + 3) 161 [dkV K, .int n, .int house, .int most]) (fun v w => ∃ (ps : List Pr) (K' : Dk), v = .lst true (ps.map prV) ∧ w = dkV K' ∧ VA.Ok K' ∧ (∀ p ∈ ps, PrSz p) ∧ ps.length ≤ 6) noF := by
  refine FW.run g rfl ?_
  show VW (stsV _ _ _ _ _ [_, _, _]) [some _, some _, some _, some _, none, none, none, none, none] _ _
  walk_at "vs"
  refine VE.compF rfl (fun (i : Nat) => V.int (i : Int)) (fun (i : Nat) => !((i : Int) == house)) (fun (i : Nat) => V.int (i : Int)) ?_
  walk_at "vs"
  refine ⟨_, rangeV1 (by omega) (by omega), _, rfl, rfl, by simp [lineT]; omega, fun x hx => ⟨_, rfl, ?_, fun _ => ?_⟩, ?_⟩
  · walk_at "cs"
    walk_at "vs"
    exact ⟨rfl, rfl⟩
  · walk_at "cs"
    walk_at "vs"
    exact ⟨rfl, rfl⟩
  simp only [Int.toNat_natCast]
  walk_at "vs"
  refine ⟨_, rfl, ?_⟩
  have hoth : ((List.range n).filter fun (i : Nat) => !((i : Int) == house)) ≠ [] := by
    intro e
    have h0 := List.filter_eq_nil_iff.mp e 0 (by simp; omega)
    have h1 := List.filter_eq_nil_iff.mp e 1 (by simp; omega)
    simp at h0 h1
    omega
  have hmem : ∀ i ∈ ((List.range n).filter fun (i : Nat) => !((i : Int) == house)), i < 4 := fun i hi => by
    have := List.mem_range.mp (List.mem_filter.mp hi).1
    omega
  have hlen : ((List.range n).filter fun (i : Nat) => !((i : Int) == house)).length ≤ 4 := Nat.le_trans (List.length_filter_le _ _) (by simp; omega)
  generalize ((List.range n).filter fun (i : Nat) => !((i : Int) == house)) = oth at hoth hmem hlen ⊢
  walk_at "vs"
  refine VS.for rfl (fun (i : Nat) => V.int (i : Int)) (fun l s => ∃ (o : Bool) (ps : List Pr) (K' : Dk) (u v : Option V), s = [some (dkV K'), some (.int n), some (.int house), some (.int most), some (.lst o (oth.map fun (i : Nat) => V.int (i : Int))), some (.lst true (ps.map prV)), none, u, v] ∧ VA.Ok K' ∧ (∀ p ∈ ps, PrSz p) ∧ ps.length + l.length ≤ 6) ?init ?step ?last
  case init =>
    walk_at "vs"
    refine VE.callIO g0.o rfl rfl ?_
    walk_at "vs"
    refine ⟨dkV K, rfl, (draw g0 ok ?_).mono ?_ fun _ _ h => h.elim⟩
    · exact Nat.lt_trans (lg62 (by omega) (by omega)) (by decide)
    rintro v w ⟨r, K', rfl, rfl, ok', r0, r1⟩
    walk_at "cs"
    walk_at "vs"
    exact ⟨_, rangeV1 r0 (by omega), _, rfl, _, [], _, _, _, rfl, ok', by simp, by simp; omega⟩
  case last =>
    rintro s ⟨o, ps, K', u, v, rfl, ok', hp, hl⟩
    walk_at "vs"
    refine VS.retVar (v := .lst true (ps.map prV)) rfl fun s hs => ?_
    refine ⟨dkV K', ?_, ps, K', rfl, rfl, ok', hp, by simpa using hl⟩
    rcases hs with rfl | rfl <;> rfl
  case step =>
    rintro x l s ⟨o, ps, K', u, v, rfl, ok', hp, hl⟩
    refine ⟨_, rfl, ?_⟩
    walk_at "cs"
    walk_at "vs"
    refine VE.callIO g1.o rfl rfl ?_
    walk_at "vs"
    refine ⟨dkV K', rfl, (pick g0 g1 ok' (by simp [V.plains_map, V.plain]) (by simpa using hoth) (by simp; omega)).mono ?_ fun _ _ h => h.elim⟩
    rintro v w ⟨K2, rfl, ok2, hv⟩
    obtain ⟨i, hi, rfl⟩ := List.mem_map.mp hv
    walk_at "cs"
    walk_at "vs"
    refine VE.callIO g1.o rfl rfl ?_
    walk_at "vs"
    refine ⟨dkV K2, rfl, (pick g0 g1 ok2 rfl (by simp) (by simp)).mono ?_ fun _ _ h => h.elim⟩
    rintro v w ⟨K3, rfl, ok3, hv⟩
    obtain ⟨z, rfl, hz, hzl⟩ : ∃ z, v = .str z ∧ okc z ∧ z.length ≤ 20 := by
      simp only [List.mem_cons, List.not_mem_nil, or_false] at hv
      rcases hv with rfl | rfl | rfl | rfl | rfl | rfl <;> exact ⟨_, rfl, by decide, by decide⟩
    walk_at "cs"
    walk_at "vs"
    have hk : V.okds 59 (ps.map prV) = true := okds_pr hp
    have hz2 : V.okd deep (.tup [.int (i : Int), .str z]) = true := by simp [V.okd, V.okds]; simpa using hz
    have hpz : PrSz (i, z) := ⟨by have := hmem i hi; simp only; omega, hz, hzl⟩
    simp only [List.length_cons] at hl
    refine VS.ife ?_
    walk_at "vs"
    refine ⟨_, rfl, fun hb => ?_, fun hb => ?_⟩
    · walk_at "vs"
      refine VE.mut0 rfl rfl rfl ?_
      walk_at "vs"
      refine ⟨_, (.non, .lst true ((ps ++ [(i, z)]).map prV)), rfl, ?_, ?_⟩
      · have : ps.length < lineT := by unfold lineT; omega
        simp [mutV, whenO, this, prV]
      · walk_at "cs"
        walk_at "vs"
        refine ⟨_, ps ++ [(i, z)], K3, _, _, rfl, ok3, fun p h => ?_, by simp; omega⟩
        rcases List.mem_append.mp h with h | h
        · exact hp p h
        · simp only [List.mem_singleton] at h
          subst h
          exact hpz
    · walk_at "vs"
      exact ⟨_, ps, K3, _, _, rfl, ok3, hp, by omega⟩
/-- words of states -/
def wOpen : List Nat := [111, 112, 101, 110]
def wYes : List Nat := [121, 101, 115]
def wDone : List Nat := [100, 111, 110, 101]
def wOff : List Nat := [111, 102, 102]
abbrev KindOk (k : List Nat) : Prop := okc k ∧ k.length ≤ 20
theorem str_of {l : List (List Nat)} {v : V} (hl : ∀ k ∈ l, KindOk k) (h : v ∈ l.map V.str) : ∃ z, v = .str z ∧ KindOk z := by
  obtain ⟨z, hz, rfl⟩ := List.mem_map.mp h
  exact ⟨z, rfl, hl z hz⟩
theorem int_of {l : List Int} {v : V} (h : v ∈ l.map V.int) : ∃ z, v = .int z ∧ z ∈ l := by
  obtain ⟨z, hz, rfl⟩ := List.mem_map.mp h
  exact ⟨z, rfl, hz⟩
theorem book (g0 : Fn G io 118 true d_law_draw) (g1 : Fn G io 119 true d_law_pick) (g2 : Fn G io 161 true d_law_pairs) (g3 : Fn G io 158 false d_law_leads) (g : Fn G io 162 true d_law_book) {n : Nat} {house most : Int} {K : Dk} (hn : 2 ≤ n) (hn4 : n ≤ 4) (hm : 1 ≤ most) (hm8 : most ≤ 8) (ok : VA.Ok K) :
    FW (runV sub io G N (k + 4) 162 [dkV K, .int n, .int house, .int most]) (fun v w => ∃ (b : Book) (K' : Dk), v = bookV b ∧ w = dkV K' ∧ VA.Ok K' ∧ BookSz b) noF := by
  refine FW.run g rfl ?_
  show VW (stsV _ _ _ _ _ [_, _, _, _, _, _]) [some _, some _, some _, some _, none, none, none, none, none, none, none, none, none] _ _
  walk_at "vs"
  refine VE.callIO g0.o rfl rfl ?_
  walk_at "vs"
  refine ⟨dkV K, rfl, (draw g0 ok (Nat.lt_trans (lg62 (by omega) (by omega)) (by decide))).mono ?_ fun _ _ h => h.elim⟩
  rintro v w ⟨m, K1, rfl, rfl, ok1, m0, m1⟩
  walk_at "cs"
  walk_at "vs"
  refine VE.callIO g1.o rfl rfl ?_
  walk_at "vs"
  refine ⟨dkV K1, rfl, (pick g0 g1 ok1 rfl (by simp) (by simp)).mono ?_ fun _ _ h => h.elim⟩
  rintro v w ⟨K2, rfl, ok2, hv⟩
  obtain ⟨z, rfl, hz⟩ := str_of (l := [wOpen, wOpen, wYes]) (by decide) hv
  walk_at "cs"
  walk_at "vs"
  refine VS.for rfl (fun (i : Nat) => V.int (i : Int)) (fun l s => ∃ (ks : List (List Nat)) (K' : Dk) (u : Option V), s = [some (dkV K'), some (.int n), some (.int house), some (.int most), some (.int (1 + m)), some (.lst true (ks.map .str)), u, none, none, none, none, none, none] ∧ VA.Ok K' ∧ (∀ k ∈ ks, KindOk k) ∧ (ks.length + l.length : Int) = 1 + m) ?init ?step ?last
  case init =>
    walk_at "vs"
    have e : (1 + m - 1).toNat = m.toNat := by congr 1; omega
    exact ⟨_, rangeV1 (by omega) (by omega), _, rfl, [z], _, _, rfl, ok2, by simpa using hz, by simp; omega⟩
  case step =>
    rintro x l s ⟨ks, K', u, rfl, ok', hk, hl⟩
    refine ⟨_, rfl, ?_⟩
    walk_at "cs"
    walk_at "vs"
    refine VE.mut0 rfl rfl rfl ?_
    walk_at "vs"
    refine VE.callIO g1.o rfl rfl ?_
    walk_at "vs"
    refine ⟨dkV K', rfl, (pick g0 g1 ok' rfl (by simp) (by simp)).mono ?_ fun _ _ h => h.elim⟩
    rintro v w ⟨K2, rfl, ok2, hv⟩
    obtain ⟨z, rfl, hz⟩ := str_of (l := [wOpen, wYes, wYes, wDone, wOff]) (by decide) hv
    walk_at "cs"
    walk_at "vs"
    simp only [List.length_cons] at hl
    refine ⟨_, (.non, .lst true ((ks ++ [z]).map .str)), rfl, ?_, ?_⟩
    · have : ks.length < lineT := by unfold lineT; omega
      simp [mutV, whenO, this]
    · walk_at "cs"
      walk_at "vs"
      refine ⟨ks ++ [z], K2, _, rfl, ok2, fun k h => ?_, by simp; omega⟩
      rcases List.mem_append.mp h with h | h
      · exact hk k h
      · simp only [List.mem_singleton] at h
        subst h
        exact hz
  case last =>
    rintro s ⟨ks, K', u, rfl, ok', hk, hl⟩
    simp only [List.length_nil] at hl
    walk_at "vs"
    have hkp : V.plains (ks.map V.str) = true := by simp [V.plains_map, V.plain]
    refine VS.for rfl (fun (i : Nat) => V.int (i : Int)) (fun l s => ∃ (rs : List Row) (K' : Dk) (o : Bool) (u a b c d : Option V), s = [some (dkV K'), some (.int n), some (.int house), some (.int most), some (.int (1 + m)), some (.lst true (ks.map .str)), u, some (.lst true (rs.map rowV)), a, b, none, c, d] ∧ VA.Ok K' ∧ (∀ r ∈ rs, RowSz r) ∧ rs.length + l.length ≤ 6) ?init ?step ?last
    case init =>
      walk_at "vs"
      refine VE.callIO g0.o rfl rfl ?_
      walk_at "vs"
      refine ⟨dkV K', rfl, (draw g0 ok' (by decide)).mono ?_ fun _ _ h => h.elim⟩
      rintro v w ⟨r, K3, rfl, rfl, ok3, r0, r1⟩
      walk_at "cs"
      walk_at "vs"
      exact ⟨_, rangeV1 r0 (by omega), _, rfl, [], _, true, _, _, _, _, _, rfl, ok3, by simp, by simp; omega⟩
    case last =>
      rintro s ⟨rs, K', o, u, a, b, c, d, rfl, ok', hr, hl2⟩
      walk_at "vs"
      refine ⟨dkV K', rfl, ⟨ks, rs⟩, K', rfl, rfl, ok', hk, by simp only; omega, hr, by simp only; omega⟩
    case step =>
      rintro x l s ⟨rs, K', o, u, a, b, c, d, rfl, ok', hr, hl2⟩
      refine ⟨_, rfl, ?_⟩
      walk_at "cs"
      refine VS.cons ?_
      refine VW.join (fun s => ∃ (K3 : Dk) (st : Nat), s = [some (dkV K3), some (.int n), some (.int house), some (.int most), some (.int (1 + m)), some (.lst true (ks.map .str)), some (.int x), some (.lst true (rs.map rowV)), some (.int (st : Int)), b, none, c, d] ∧ VA.Ok K3 ∧ (st : Int) < 1 + m) ?_ ?_
      · walk_at "vs"
        refine ⟨_, rfl, fun hz => ?_, fun hz => ?_⟩
        · walk_at "vs"
          exact ⟨rfl, K', 0, rfl, ok', by omega⟩
        · refine VE.callIO g0.o rfl rfl ?_
          walk_at "vs"
          refine ⟨dkV K', rfl, (draw g0 ok' (Nat.lt_trans (lg62 (by omega) (by omega)) (by decide))).mono ?_ fun _ _ h => h.elim⟩
          rintro v w ⟨r, K3, rfl, rfl, ok3, r0, r1⟩
          obtain ⟨r, rfl⟩ := Int.eq_ofNat_of_zero_le r0
          exact ⟨lt_rfl rfl, rfl, K3, r, rfl, ok3, by omega⟩
      rintro s ⟨K3, st, rfl, ok3, st1⟩
      walk_at "vs"
      refine VE.comp rfl (fun (i : Nat) => V.int ((st : Int) + 1 + (i : Int))) (fun l2 ys s => (∃ u, s = [some (dkV K3), some (.int n), some (.int house), some (.int most), some (.int (1 + m)), some (.lst true (ks.map .str)), some (.int x), some (.lst true (rs.map rowV)), some (.int (st : Int)), b, u, c, d]) ∧ ∃ gs : List Nat, ys = gs.map (fun (g : Nat) => V.int (g : Int)) ∧ (∀ g ∈ gs, g < 100) ∧ gs.length + l2.length ≤ 9 ∧ ∀ i ∈ l2, (st : Int) + 1 + (i : Int) < 1 + m) ?_
      walk_at "vs"
      refine ⟨_, rangeV2 (by omega) (by omega) (by omega) (by omega), _, rfl, ⟨⟨_, rfl⟩, [], rfl, by simp, by simp; omega, fun i hi => by have := List.mem_range.mp hi; omega⟩, ?_, ?_⟩
      · rintro y l2 ys s ⟨⟨u', rfl⟩, gs, rfl, hg, hgl, hi⟩
        refine ⟨_, rfl, ?_⟩
        walk_at "cs"
        walk_at "vs"
        refine VE.call g3.o ?_
        walk_at "vs"
        have hy := hi y (by simp)
        obtain ⟨w1, hw1⟩ : ∃ w, ks[st]? = some w := ⟨_, List.getElem?_eq_getElem (by omega)⟩
        obtain ⟨w2, hw2⟩ : ∃ w, ks[st + 1 + y]? = some w := ⟨_, List.getElem?_eq_getElem (by omega)⟩
        refine VP.getL (atV_map hw1) rfl ?_
        walk_at "vs"
        refine VP.getL (v := .str w2) (by have := atV_map (f := V.str) hw2; simpa using this) rfl ?_
        walk_at "vs"
        refine (leads g3 (hk _ (List.mem_of_getElem? hw1)).1 (hk _ (List.mem_of_getElem? hw2)).1).mono ?_ fun _ _ h => h.elim
        rintro v w ⟨bb, rfl⟩
        simp only [List.length_cons] at hgl
        refine ⟨bb, rfl, fun _ => ?_, fun _ => ?_⟩
        · walk_at "vs"
          refine ⟨⟨_, rfl⟩, gs ++ [st + 1 + y], by simp, fun g hgm => ?_, by simp; omega, fun i hi' => hi i (by simp [hi'])⟩
          rcases List.mem_append.mp hgm with h | h
          · exact hg g h
          · simp only [List.mem_singleton] at h
            omega
        · exact ⟨⟨_, rfl⟩, gs, rfl, hg, by omega, fun i hi' => hi i (by simp [hi'])⟩
      rintro ys s ⟨⟨u', rfl⟩, gs, rfl, hg, hgl, _⟩
      simp only [List.length_nil] at hgl
      refine ⟨by simp [lineT]; omega, ?_⟩
      walk_at "cs"
      have hgp : V.plains (gs.map fun (g : Nat) => V.int (g : Int)) = true := by simp [V.plains_map, V.plain]
      have hgo : V.okd deep (.lst false (gs.map fun (g : Nat) => V.int (g : Int))) = true := by simp [V.okd, V.okds_map]
      walk_at "vs"
      refine VS.ife ?_
      walk_at "vs"
      simp only [List.length_cons] at hl2
      refine ⟨_, rfl, fun hz => ?_, fun hz => ?_⟩
      · have hgn : gs ≠ [] := by
          intro e
          subst e
          simp [V.eqb, V.eqbs] at hz
        walk_at "vs"
        refine VE.callIO g2.o rfl rfl ?_
        walk_at "vs"
        refine VE.callIO g1.o rfl rfl ?_
        walk_at "vs"
        refine ⟨dkV K3, rfl, (pick g0 g1 ok3 rfl (by simp) (by simp)).mono ?_ fun _ _ h => h.elim⟩
        rintro v w ⟨K4, rfl, ok4, hv⟩
        obtain ⟨z, rfl, hz⟩ := int_of (l := [0, 0, 1, 1, 2, 4]) hv
        have hz6 : 0 ≤ z ∧ z ≤ 6 := by
          simp only [List.mem_cons, List.not_mem_nil, or_false] at hz
          omega
        walk_at "cs"
        walk_at "vs"
        refine ⟨dkV K4, rfl, (pairs g0 g1 g2 hn hn4 hz6.1 hz6.2 ok4).mono ?_ fun _ _ h => h.elim⟩
        rintro v w ⟨ps, K5, rfl, rfl, ok5, hps, hpl⟩
        walk_at "cs"
        walk_at "vs"
        refine VP.sortedL (sort_pr fun p hp => (hps p hp).s) (by simp [V.plains_map]) ?_
        walk_at "vs"
        refine VE.callIO g2.o rfl rfl ?_
        walk_at "vs"
        refine VE.callIO g1.o rfl rfl ?_
        walk_at "vs"
        refine ⟨dkV K5, rfl, (pick g0 g1 ok5 rfl (by simp) (by simp)).mono ?_ fun _ _ h => h.elim⟩
        rintro v w ⟨K6, rfl, ok6, hv⟩
        obtain ⟨y, rfl, hy⟩ := int_of (l := [0, 1, 2, 3, 6]) hv
        have hy6 : 0 ≤ y ∧ y ≤ 6 := by
          simp only [List.mem_cons, List.not_mem_nil, or_false] at hy
          omega
        walk_at "cs"
        walk_at "vs"
        refine ⟨dkV K6, rfl, (pairs g0 g1 g2 hn hn4 hy6.1 hy6.2 ok6).mono ?_ fun _ _ h => h.elim⟩
        rintro v w ⟨qs, K7, rfl, rfl, ok7, hqs, hql⟩
        walk_at "cs"
        walk_at "vs"
        refine VE.mut0 rfl rfl rfl ?_
        walk_at "vs"
        refine VE.callIO g1.o rfl rfl ?_
        walk_at "vs"
        refine ⟨dkV K7, rfl, (pick g0 g1 ok7 hgp (by simpa using hgn) (by simp; omega)).mono ?_ fun _ _ h => h.elim⟩
        rintro v w ⟨K8, rfl, ok8, hv⟩
        obtain ⟨on, hon, rfl⟩ := List.mem_map.mp hv
        have honl := hg on hon
        walk_at "cs"
        walk_at "vs"
        refine VE.callIO g0.o rfl rfl ?_
        walk_at "vs"
        refine ⟨dkV K8, rfl, (draw g0 ok8 (by decide)).mono ?_ fun _ _ h => h.elim⟩
        rintro v w ⟨r, K9, rfl, rfl, ok9, r0, r1⟩
        walk_at "cs"
        walk_at "vs"
        let row : Row := ⟨st, sortPr ps, on, qs, V.eqb (.int r) (.int 0)⟩
        have hrow : RowSz row := ⟨by simp only [row]; omega, by simp only [row]; omega, fun p hp => hps p (sortPr_mem.mp hp), by simp only [row, sortPr_len]; omega, hqs, by simp only [row]; omega⟩
        refine ⟨_, (.non, .lst true ((rs ++ [row]).map rowV)), rfl, ?_, ?_⟩
        · have : rs.length < lineT := by unfold lineT; omega
          simp [mutV, whenO, this, rowV, row]
        · walk_at "cs"
          walk_at "vs"
          refine ⟨rs ++ [row], K9, true, _, _, _, _, _, rfl, ok9, fun p h => ?_, by simp; omega⟩
          rcases List.mem_append.mp h with h | h
          · exact hr p h
          · simp only [List.mem_singleton] at h
            subst h
            exact hrow
      · walk_at "vs"
        exact ⟨rs, K3, true, _, _, _, _, _, rfl, ok3, hr, by omega⟩
theorem filter_tt {α : Type} {l : List α} : l.filter (fun _ => true) = l := List.filter_eq_self.mpr fun _ _ => rfl
theorem frzsN {l : List Nat} : V.frzs (l.map fun (i : Nat) => V.int (i : Int)) = l.map fun (i : Nat) => V.int (i : Int) := V.frzs_plain _ (by simp [V.plains_map, V.plain])
theorem plainsN {l : List Nat} : V.plains (l.map fun (i : Nat) => V.int (i : Int)) = true := by simp [V.plains_map, V.plain]
def wOk : List Nat := [111, 107]
def wAsk : List Nat := [97, 115, 107]
def wNo : List Nat := [110, 111]
theorem asking (g0 : Fn G io 118 true d_law_draw) (g : Fn G io 163 true d_law_asking) {n : Nat} {last : List Nat} {K : Dk} (hn : 2 ≤ n) (hn4 : n ≤ 4) (hlast : KindOk last) (ok : VA.Ok K) :
    FW (runV sub io G N (k + 2) 163 [dkV K, .int n, .str last]) (fun v w => ∃ (a : Agr) (K' : Dk), v = agrV a ∧ w = dkV K' ∧ VA.Ok K' ∧ AgrSz a) noF := by
  refine FW.run g rfl ?_
  show VW (stsV _ _ _ _ _ [_, _, _, _, _, _, _, _]) [some _, some _, some _, none, none, none, none, none, none, none, none] _ _
  have hoth : (List.range ((n : Int) - 1).toNat).map (fun (i : Nat) => V.int (1 + (i : Int))) = ((List.range (n - 1)).map (· + 1)).map (fun (i : Nat) => V.int (i : Int)) := by
    have e : ((n : Int) - 1).toNat = n - 1 := by omega
    rw [e, List.map_map]
    apply List.map_congr_left
    intro i _
    simp only [Function.comp_apply, V.int.injEq]
    omega
  have hmem : ∀ i ∈ (List.range (n - 1)).map (· + 1), i < 4 := fun i hi => by
    obtain ⟨j, hj, rfl⟩ := List.mem_map.mp hi
    have := List.mem_range.mp hj
    omega
  have hlen : ((List.range (n - 1)).map (· + 1)).length ≤ 3 := by simp; omega
  walk_at "vs"
  refine ⟨_, rangeV2 (by omega) (by omega) (by omega) (by omega), by simp [lineT]; omega, ?_⟩
  rw [hoth]
  generalize (List.range (n - 1)).map (· + 1) = oth at hmem hlen ⊢
  walk_at "vs"
  refine ⟨_, rfl, ?_⟩
  walk_at "cs"
  walk_at "vs"
  refine VE.compF rfl (fun (i : Nat) => V.int (i : Int)) (fun _ => true) (fun (i : Nat) => prV (i, wOk)) ?_
  walk_at "vs"
  refine ⟨_, rfl, oth, frzsN, rfl, by unfold lineT; omega, fun x hx => ⟨_, rfl, ?_, fun _ => ?_⟩, ?_⟩
  · walk_at "cs"
    walk_at "vs"
    exact ⟨rfl, rfl⟩
  · walk_at "cs"
    walk_at "vs"
    exact ⟨rfl, rfl⟩
  walk_at "cs"
  simp only [filter_tt]
  walk_at "vs"
  refine VE.compF rfl (fun (i : Nat) => V.int (i : Int)) (fun _ => true) (fun (i : Nat) => prV (i, last)) ?_
  walk_at "vs"
  refine ⟨_, rfl, oth, frzsN, rfl, by unfold lineT; omega, fun x hx => ⟨_, rfl, ?_, fun _ => ?_⟩, ?_⟩
  · walk_at "cs"
    walk_at "vs"
    exact ⟨rfl, rfl⟩
  · walk_at "cs"
    walk_at "vs"
    exact ⟨rfl, rfl⟩
  walk_at "cs"
  simp only [filter_tt]
  walk_at "vs"
  refine ⟨_, rfl, ?_⟩
  walk_at "cs"
  walk_at "vs"
  refine VE.compF rfl (fun (i : Nat) => V.int (i : Int)) (fun _ => true) (fun (i : Nat) => prV (i, wAsk)) ?_
  walk_at "vs"
  refine ⟨_, rfl, oth, frzsN, rfl, by unfold lineT; omega, fun x hx => ⟨_, rfl, ?_, fun _ => ?_⟩, ?_⟩
  · walk_at "cs"
    walk_at "vs"
    exact ⟨rfl, rfl⟩
  · walk_at "cs"
    walk_at "vs"
    exact ⟨rfl, rfl⟩
  walk_at "cs"
  simp only [filter_tt]
  walk_at "vs"
  refine VE.callIO g0.o rfl rfl ?_
  walk_at "vs"
  refine ⟨dkV K, rfl, (draw g0 ok (by decide)).mono ?_ fun _ _ h => h.elim⟩
  rintro v w ⟨r1, K1, rfl, rfl, ok1, -, -⟩
  walk_at "cs"
  walk_at "vs"
  refine VE.mut0 rfl rfl rfl ?_
  walk_at "vs"
  refine VE.callIO g0.o rfl rfl ?_
  walk_at "vs"
  refine ⟨dkV K1, rfl, (draw g0 ok1 (by decide)).mono ?_ fun _ _ h => h.elim⟩
  rintro v w ⟨r2, K2, rfl, rfl, ok2, -, -⟩
  walk_at "cs"
  walk_at "vs"
  let row1 : Row := ⟨0, [], 1, oth.map fun i => (i, wAsk), V.eqb (.int r1) (.int 0)⟩
  let row2 : Row := ⟨1, oth.map fun i => (i, wOk), 2, oth.map fun i => (i, last), V.eqb (.int r2) (.int 0)⟩
  refine ⟨_, (.non, .lst true ([row1, row2].map rowV)), rfl, ?_, ?_⟩
  · simp [mutV, whenO, lineT, rowV, row1, row2, List.map_map, Function.comp_def]
  walk_at "cs"
  walk_at "vs"
  refine VE.compF rfl (fun (i : Nat) => V.int (i : Int)) (fun _ => true) (fun (i : Nat) => rowV ⟨1, [(i, wNo)], 3, [], false⟩) ?_
  walk_at "vs"
  refine ⟨_, rfl, oth, frzsN, rfl, by unfold lineT; omega, fun x hx => ⟨_, rfl, ?_, fun _ => ?_⟩, ?_⟩
  · walk_at "cs"
    walk_at "vs"
    exact ⟨rfl, rfl⟩
  · walk_at "cs"
    walk_at "vs"
    exact ⟨rfl, rfl⟩
  walk_at "cs"
  simp only [filter_tt]
  let rows : List Row := [row1, row2] ++ oth.map fun i => ⟨1, [(i, wNo)], 3, [], false⟩
  have erows : [row1, row2].map rowV ++ oth.map (fun i => rowV ⟨1, [(i, wNo)], 3, [], false⟩) = rows.map rowV := by simp [rows, List.map_append, List.map_map, Function.comp_def]
  have kd : ∀ k ∈ [wOpen, wYes, wDone, wOff], KindOk k := by decide
  have kdl : [wOpen, wYes, wDone, wOff].length ≤ 20 := by decide
  have prz : ∀ (w : List Nat), KindOk w → ∀ p ∈ oth.map (fun i => (i, w)), PrSz p := fun w hw p hp => by
    obtain ⟨i, hi, rfl⟩ := List.mem_map.mp hp
    exact ⟨by have := hmem i hi; simp only; omega, hw.1, hw.2⟩
  have pr1 : ∀ (i : Nat) (w : List Nat), i < 4 → KindOk w → ∀ p ∈ [(i, w)], PrSz p := fun i w hi hw p hp => by
    simp only [List.mem_singleton] at hp
    subst hp
    exact ⟨by simp only; omega, hw.1, hw.2⟩
  have no1 : ∀ p ∈ ([] : List Pr), PrSz p := fun p hp => absurd hp (by simp)
  have hrows : ∀ r ∈ rows, RowSz r := fun r hr => by
    simp only [rows, List.cons_append, List.nil_append, List.mem_cons, List.mem_map] at hr
    rcases hr with rfl | rfl | ⟨i, hi, rfl⟩
    · exact ⟨by simp [row1], by simp [row1], no1, by simp [row1], prz wAsk (by decide), by simp only [row1, List.length_map]; omega⟩
    · exact ⟨by simp [row2], by simp [row2], prz wOk (by decide), by simp only [row2, List.length_map]; omega, prz last hlast, by simp only [row2, List.length_map]; omega⟩
    · exact ⟨by simp, by simp, pr1 i wNo (hmem i hi) (by decide), by simp, no1, by simp⟩
  have hrl : rows.length ≤ 5 := by simp [rows]; omega
  walk_at "vs"
  refine VP.addL ?_ ?_ ?_
  · simp [lineT]; omega
  · simp [V.plains_app, V.plains_map, V.plains]
  rw [erows]
  walk_at "vs"
  refine VS.for rfl (fun (i : Nat) => V.int (i : Int)) (fun l s => ∃ (bs : List Book) (K' : Dk) (o : Bool) (u v : Option V), s = [some (dkV K'), some (.int n), some (.str last), some (.tup ([wOpen, wYes, wDone, wOff].map .str)), some (.lst o (oth.map fun (i : Nat) => V.int (i : Int))), some (.tup (oth.map fun i => prV (i, wOk))), some (.tup (oth.map fun i => prV (i, last))), u, some (.lst true (rows.map rowV)), some (.lst true (bs.map bookV)), v] ∧ VA.Ok K' ∧ (∀ b ∈ bs, BookSz b) ∧ bs.length + l.length ≤ 4) ?init ?step ?last
  case init =>
    walk_at "vs"
    refine ⟨_, rfl, oth, frzsN, [⟨[wOpen, wYes, wDone, wOff], rows⟩], K2, _, _, _, rfl, ok2, fun b hb => ?_, by simp; omega⟩
    simp only [List.mem_singleton] at hb
    subst hb
    exact ⟨kd, kdl, hrows, by simp only; omega⟩
  case last =>
    rintro s ⟨bs, K', o, u, v, rfl, ok', hb, hl⟩
    walk_at "vs"
    exact ⟨_, rfl, bs, K', rfl, rfl, ok', hb, by simp only [List.length_nil] at hl; omega⟩
  case step =>
    rintro x l s ⟨bs, K', o, u, v, rfl, ok', hb, hl⟩
    simp only [List.length_cons] at hl
    refine ⟨_, rfl, ?_⟩
    walk_at "cs"
    walk_at "vs"
    refine VE.callIO g0.o rfl rfl ?_
    walk_at "vs"
    refine ⟨dkV K', rfl, (draw g0 ok' (by decide)).mono ?_ fun _ _ h => h.elim⟩
    rintro v w ⟨r3, K3, rfl, rfl, ok3, -, -⟩
    walk_at "cs"
    walk_at "vs"
    refine VE.mut0 rfl rfl rfl ?_
    walk_at "vs"
    refine VE.callIO g0.o rfl rfl ?_
    walk_at "vs"
    refine ⟨dkV K3, rfl, (draw g0 ok3 (by decide)).mono ?_ fun _ _ h => h.elim⟩
    rintro v w ⟨r4, K4, rfl, rfl, ok4, -, -⟩
    walk_at "cs"
    walk_at "vs"
    let q1 : Row := ⟨0, [(0, wAsk)], 1, [(0, wOk)], V.eqb (.int r3) (.int 0)⟩
    let q2 : Row := ⟨0, [(0, wAsk)], 3, [(0, wNo)], V.eqb (.int r4) (.int 0)⟩
    refine ⟨_, (.non, .lst true ([q1, q2].map rowV)), rfl, ?_, ?_⟩
    · simp [mutV, whenO, lineT, rowV, q1, q2, prV, wAsk, wOk, wNo]
    walk_at "cs"
    walk_at "vs"
    refine VE.mut0 rfl rfl rfl ?_
    walk_at "vs"
    refine VE.callIO g0.o rfl rfl ?_
    walk_at "vs"
    refine ⟨dkV K4, rfl, (draw g0 ok4 (by decide)).mono ?_ fun _ _ h => h.elim⟩
    rintro v w ⟨r5, K5, rfl, rfl, ok5, -, -⟩
    walk_at "cs"
    walk_at "vs"
    let q3 : Row := ⟨1, [(0, last)], 2, [], V.eqb (.int r5) (.int 0)⟩
    have e3 : [q1, q2].map rowV ++ [V.tup [V.int 1, V.tup [V.tup [V.int 0, V.str last]], V.int 2, V.tup [], V.bl ((V.int r5).eqb (V.int 0))]] = [q1, q2, q3].map rowV := by simp [rowV, q3, prV]
    refine VP.addL ?_ ?_ ?_
    · simp [lineT]
    · simp [V.plains_app, V.plains_map, V.plains, V.plain]
    rw [e3]
    let bk : Book := ⟨[wOpen, wYes, wDone, wOff], [q1, q2, q3]⟩
    have hq : ∀ r ∈ [q1, q2, q3], RowSz r := fun r hr => by
      simp only [List.mem_cons, List.not_mem_nil, or_false] at hr
      rcases hr with rfl | rfl | rfl
      · exact ⟨by simp [q1], by simp [q1], pr1 0 wAsk (by decide) (by decide), by simp [q1], pr1 0 wOk (by decide) (by decide), by simp [q1]⟩
      · exact ⟨by simp [q2], by simp [q2], pr1 0 wAsk (by decide) (by decide), by simp [q2], pr1 0 wNo (by decide) (by decide), by simp [q2]⟩
      · exact ⟨by simp [q3], by simp [q3], pr1 0 last (by decide) hlast, by simp [q3], no1, by simp [q3]⟩
    have hbk : BookSz bk := ⟨kd, kdl, hq, by simp [bk]⟩
    walk_at "vs"
    refine ⟨_, (.non, .lst true ((bs ++ [bk]).map bookV)), rfl, ?_, ?_⟩
    · have : bs.length < lineT := by unfold lineT; omega
      simp [mutV, whenO, this, bookV, bk]
    · walk_at "cs"
      walk_at "vs"
      refine ⟨bs ++ [bk], K5, o, _, _, rfl, ok5, fun p h => ?_, by simp; omega⟩
      rcases List.mem_append.mp h with h | h
      · exact hb p h
      · simp only [List.mem_singleton] at h
        subst h
        exact hbk
theorem agreement (g0 : Fn G io 118 true d_law_draw) (g1 : Fn G io 119 true d_law_pick) (g2 : Fn G io 161 true d_law_pairs) (g3 : Fn G io 158 false d_law_leads) (g4 : Fn G io 162 true d_law_book) (g5 : Fn G io 163 true d_law_asking) (g : Fn G io 139 true d_law_agreement) {K : Dk} (ok : VA.Ok K) :
    FW (runV sub io G N (k + 5) 139 [dkV K]) (fun v w => ∃ (a : Agr) (K' : Dk), v = agrV a ∧ w = dkV K' ∧ VA.Ok K' ∧ AgrSz a) noF := by
  refine FW.run g rfl ?_
  show VW (stsV _ _ _ _ _ [_, _, _]) [some _, none, none] _ _
  walk_at "vs"
  refine VE.callIO g1.o rfl rfl ?_
  walk_at "vs"
  refine ⟨dkV K, rfl, (pick g0 g1 ok rfl (by simp) (by simp)).mono ?_ fun _ _ h => h.elim⟩
  rintro v w ⟨K1, rfl, ok1, hv⟩
  obtain ⟨n, rfl, hn2, hn4⟩ : ∃ n : Nat, v = .int (n : Int) ∧ 2 ≤ n ∧ n ≤ 4 := by
    simp only [List.mem_cons, List.not_mem_nil, or_false] at hv
    rcases hv with rfl | rfl | rfl | rfl | rfl
    · exact ⟨2, rfl, by decide, by decide⟩
    · exact ⟨2, rfl, by decide, by decide⟩
    · exact ⟨3, rfl, by decide, by decide⟩
    · exact ⟨3, rfl, by decide, by decide⟩
    · exact ⟨4, rfl, by decide, by decide⟩
  walk_at "cs"
  walk_at "vs"
  refine VS.ife ?_
  walk_at "vs"
  refine VE.callIO g0.o rfl rfl ?_
  walk_at "vs"
  refine ⟨dkV K1, rfl, (draw g0 ok1 (by decide)).mono ?_ fun _ _ h => h.elim⟩
  rintro v w ⟨r, K2, rfl, rfl, ok2, -, -⟩
  walk_at "cs"
  walk_at "vs"
  refine ⟨_, rfl, fun hz => ?_, fun hz => ?_⟩
  · walk_at "vs"
    refine VE.callIO g5.o rfl rfl ?_
    walk_at "vs"
    refine VE.callIO g1.o rfl rfl ?_
    walk_at "vs"
    refine ⟨dkV K2, rfl, (pick g0 g1 ok2 rfl (by simp) (by simp)).mono ?_ fun _ _ h => h.elim⟩
    rintro v w ⟨K3, rfl, ok3, hv⟩
    obtain ⟨z, rfl, hz⟩ := str_of (l := [[100, 111], [97], [111, 107]]) (by decide) hv
    walk_at "cs"
    walk_at "vs"
    refine ⟨dkV K3, rfl, (asking g0 g5 hn2 hn4 hz ok3).mono ?_ fun _ _ h => h.elim⟩
    rintro v w ⟨a, K4, rfl, rfl, ok4, ha⟩
    walk_at "cs"
    walk_at "vs"
    exact ⟨_, rfl, a, K4, rfl, rfl, ok4, ha⟩
  · walk_at "vs"
    refine VE.comp rfl (fun (i : Nat) => V.int (i : Int)) (fun l ys s => ∃ (bs : List Book) (K' : Dk) (u : Option V), s = [some (dkV K'), some (.int (n : Int)), u] ∧ ys = bs.map bookV ∧ VA.Ok K' ∧ (∀ b ∈ bs, BookSz b) ∧ bs.length + l.length ≤ 4) ?_
    walk_at "vs"
    refine ⟨_, rangeV1 (by omega) (by omega), _, rfl, ⟨[], K2, _, rfl, rfl, ok2, by simp, by simp; omega⟩, ?_, ?_⟩
    · rintro x l ys s ⟨bs, K', u, rfl, rfl, ok', hb, hl⟩
      simp only [List.length_cons] at hl
      refine ⟨_, rfl, ?_⟩
      walk_at "cs"
      walk_at "vs"
      refine ⟨_, rfl, fun _ => ?_, fun h => by cases h⟩
      refine VE.callIO g4.o rfl rfl ?_
      walk_at "vs"
      refine VE.callIO g1.o rfl rfl ?_
      walk_at "vs"
      refine ⟨dkV K', rfl, (pick g0 g1 ok' rfl (by simp) (by simp)).mono ?_ fun _ _ h => h.elim⟩
      rintro v w ⟨K3, rfl, ok3, hv⟩
      obtain ⟨z, rfl, hz⟩ := int_of (l := [3, 4, 5, 8]) hv
      have hz8 : 1 ≤ z ∧ z ≤ 8 := by
        simp only [List.mem_cons, List.not_mem_nil, or_false] at hz
        omega
      walk_at "cs"
      walk_at "vs"
      refine ⟨dkV K3, rfl, (book g0 g1 g2 g3 g4 hn2 hn4 hz8.1 hz8.2 ok3).mono ?_ fun _ _ h => h.elim⟩
      rintro v w ⟨b, K4, rfl, rfl, ok4, hb4⟩
      walk_at "cs"
      refine ⟨bs ++ [b], K4, _, rfl, by simp, ok4, fun p h => ?_, by simp; omega⟩
      rcases List.mem_append.mp h with h | h
      · exact hb p h
      · simp only [List.mem_singleton] at h
        subst h
        exact hb4
    · rintro ys s ⟨bs, K', u, rfl, rfl, ok', hb, hl⟩
      simp only [List.length_nil] at hl
      refine ⟨by simp [lineT]; omega, ?_⟩
      walk_at "cs"
      walk_at "vs"
      exact ⟨_, rfl, bs, K', rfl, rfl, ok', hb, by omega⟩
end
end VK04
end LS
end

section
set_option Elab.async false
set_option linter.all false
set_option maxRecDepth 100000
set_option maxHeartbeats 4000000
/-! LS.VK04c: the law k04, over values alone: kinds and late rows. -/
namespace LS
local macro_rules | `(tactic| walk_at "cs") => `(tactic| simp only [wipeV, backV, List.getElem?_cons_succ, List.getElem?_cons_zero, List.set_cons_zero, List.set_cons_succ])
local macro_rules | `(tactic| walk_at "pl") => `(tactic| first | rfl | assumption | (simp [V.plain, V.plains, V.plains_app, V.plains_map]; done))
local macro_rules | `(tactic| walk_at "ok") => `(tactic| first | rfl | assumption | (simp [V.okd, V.okds, V.okds_app, V.okds_map]; done))
local macro_rules | `(tactic| walk_at "ga") => `(tactic| repeat (first | exact getA_nil | ((with_reducible apply getA_vp); (focus (walk_at "pl"))) | ((with_reducible apply getA_vl); (focus (walk_at "pl"))) | ((with_reducible apply getA_sp); (focus exact rfl); (focus (walk_at "pl"))) | ((with_reducible apply getA_sl); (focus exact rfl); (focus (walk_at "pl"))) | ((with_reducible apply getA_vf); (focus (walk_at "pl"))) | ((with_reducible apply getA_sf); (focus exact rfl); (focus (walk_at "pl")))))
local macro_rules | `(tactic| walk_at "vp") => `(tactic| first | with_reducible refine VP.addI ?_ | with_reducible refine VP.subI ?_ | with_reducible refine VP.ltI ?_ | with_reducible refine VP.leI ?_ | with_reducible refine VP.gtI ?_ | with_reducible refine VP.geI ?_ | with_reducible refine VP.negI ?_ | with_reducible refine VP.lenT ?_ | with_reducible refine VP.lenL ?_ | with_reducible refine VP.lenF ?_ | with_reducible refine VP.intOfI ?_ | with_reducible refine VP.intOfB ?_ | with_reducible refine VP.absI ?_ | with_reducible refine VP.isNone ?_ | with_reducible refine VP.notNone ?_ | ((with_reducible refine VP.eq ?_ ?_ ?_); (focus (walk_at "ok")); (focus (walk_at "ok"))) | ((with_reducible refine VP.ne ?_ ?_ ?_); (focus (walk_at "ok")); (focus (walk_at "ok"))) | ((with_reducible refine VP.tupleL ?_ ?_); (focus (walk_at "pl"))) | ((with_reducible refine VP.tupleT ?_ ?_); (focus (walk_at "pl"))) | ((with_reducible refine VP.listT ?_ ?_); (focus (walk_at "pl"))) | ((with_reducible refine VP.listL ?_ ?_); (focus (walk_at "pl"))) | ((with_reducible refine VP.isinT ?_ ?_ ?_); (focus (walk_at "ok")); (focus (walk_at "ok"))) | ((with_reducible refine VP.isinL ?_ ?_ ?_); (focus (walk_at "ok")); (focus (walk_at "ok"))) | ((with_reducible refine VP.notinT ?_ ?_ ?_); (focus (walk_at "ok")); (focus (walk_at "ok"))) | ((with_reducible refine VP.notinL ?_ ?_ ?_); (focus (walk_at "ok")); (focus (walk_at "ok"))))
local macro_rules | `(tactic| walk_at "ve") => `(tactic| first | with_reducible refine VE.int ?_ | with_reducible refine VE.str ?_ | with_reducible refine VE.bl ?_ | with_reducible refine VE.non ?_ | ((with_reducible apply VE.var); (focus exact rfl); (focus (walk_at "pl"))) | ((with_reducible apply VE.varL); (focus exact rfl); (focus (walk_at "pl"))) | with_reducible refine VE.tup ?_ | with_reducible refine VE.lst ?_ | with_reducible refine VEs.nil ?_ | with_reducible refine VEs.cons ?_ | with_reducible refine VE.dct ?_ | with_reducible refine VE.tupS ?_ | with_reducible refine VE.lstS ?_ | with_reducible refine VSt.nil ?_ | with_reducible refine VSt.f ?_ | ((with_reducible refine VSt.t ?_)) | ((with_reducible refine VE.app rfl ?_)) | with_reducible refine VAs.nil ?_ | ((with_reducible apply VAs.var); (focus exact rfl)) | with_reducible refine VAs.ex rfl ?_ | with_reducible refine VFk.mk ?_ | with_reducible refine VSk.mk ?_ | ((with_reducible apply VAs1.var); (focus exact rfl)) | with_reducible refine VAs1.ex rfl ?_ | with_reducible refine VA1.nil ?_ | with_reducible refine VA1.one ?_ | with_reducible refine VE.num ?_ | with_reducible refine VTl.cons ?_ | with_reducible refine VE.and ?_ | with_reducible refine VE.or ?_ | with_reducible refine VAnd.one ?_ | with_reducible refine VAnd.cons ?_ | with_reducible refine VOr.one ?_ | with_reducible refine VOr.cons ?_ | with_reducible refine VE.not ?_ | with_reducible refine VE.ite ?_ | with_reducible refine VE.chain ?_ | with_reducible refine VCh.one ?_ | with_reducible refine VCh.cons ?_ | with_reducible refine VE.tupI ?_ | with_reducible refine VE.lstI ?_ | with_reducible refine VI.val ?_ | with_reducible refine VI.range ?_ | with_reducible refine VI.enum ?_ | with_reducible refine VI.zip ?_ | ((with_reducible apply GA.mk); (focus (walk_at "ga"; done))) | walk_at "vp")
local macro_rules | `(tactic| walk_at "vt") => `(tactic| first | walk_at "ve" | with_reducible refine VS.nil ?_ | with_reducible refine VS.cons ?_ | with_reducible refine VS.exp ?_ | ((with_reducible refine VS.set ?_ ?_); (focus rfl)) | ((with_reducible refine VS.unp ?_ ?_); (focus rfl)) | with_reducible refine VS.sub0 ?_ | with_reducible refine VS.ret rfl ?_ | with_reducible refine VS.retN ?_ | with_reducible refine VS.pass ?_ | with_reducible refine VS.cont ?_ | with_reducible refine VS.brk ?_ | ((with_reducible refine And.intro (a := _ < _) ?_ ?_); (focus exact lt_rfl rfl)) | ((with_reducible show nextV _ _ _ _ _ _ _ _ FV.nx _); unfold nextV; simp only [List.set_cons_zero, List.set_cons_succ]) | ((with_reducible show nextV _ _ _ _ _ _ _ _ (FV.rt _) _); unfold nextV) | ((with_reducible show endV _ _ (FV.rt _) _); unfold endV) )
local macro_rules | `(tactic| walk_at "vs") => `(tactic| repeat (walk_at "vt"))
theorem VE.pathT {Ψ : Fnv} {io : Nat → Bool} {σ : Vs} {X : VX → Vs → Prop} {Q : V → Vs → Prop} {es : List E} {p : Prim} {i : Nat} {xs : List V} (hk : pathK es = some (i, false)) (h : σ[i]? = some (some (.tup xs))) (px : V.plains xs = true)
    (w : VW (denFk Ψ io es) σ (fun key s => ∃ n v ps, s[i]? = some (some (.tup xs)) ∧ key = .int n ∧ atV xs n = some v ∧ getA s (postOf es) = some ps ∧ VP p (v :: ps) fun r => Q r s) X) : VW (denV Ψ io (.app p es)) σ Q X := by
  refine VE.appP0 hk h (w.mono (fun key s w => ?_) fun _ _ h => h)
  obtain ⟨n, v, ps, e1, rfl, e2, e3, w⟩ := w
  have hv : v.plain = true := by
    obtain ⟨k, _, e4⟩ := Option.bind_eq_some_iff.mp e2
    exact V.plains_iff.mp px v (List.mem_of_getElem? e4)
  refine ⟨.tup xs, v, ps, e1, e3, ?_, ?_⟩
  · simp only [V.frz, V.frzs_plain _ px]
    exact e2
  · rw [V.frz_plain _ hv]
    exact w
theorem enumV_map {β : Type} {f : β → V} : ∀ {l : List β} {n : Nat}, enumV n (l.map f) = (l.zipIdx n).map fun p => V.tup [.int (p.2 : Int), f p.1]
  | [], n => rfl
  | b :: l, n => by
    simp only [List.map_cons, enumV, List.zipIdx_cons, enumV_map (l := l)]
theorem cut_take {α : Type} {xs : List α} {h n : Nat} (hn : n = xs.length) : cutL xs 0 (cutIx n (h : Int)) = xs.take h := by
  subst hn
  simp only [cutL, cutIx, List.drop_zero]
  rw [if_pos (by omega)]
  simp only [Int.toNat_natCast]
  by_cases h1 : h ≤ xs.length
  · rw [Nat.min_eq_left h1]
  · rw [Nat.min_eq_right (by omega), List.take_of_length_le (Nat.le_refl _), List.take_of_length_le (by omega)]
theorem cut_drop {α : Type} {xs : List α} {h n : Nat} (hn : n = xs.length) : cutL xs (cutIx n (h : Int)) n = xs.drop h := by
  subst hn
  simp only [cutL, cutIx]
  rw [if_pos (by omega), List.take_of_length_le (Nat.le_refl _)]
  simp only [Int.toNat_natCast]
  by_cases h1 : h ≤ xs.length
  · rw [Nat.min_eq_left h1]
  · rw [Nat.min_eq_right (by omega), List.drop_of_length_le (Nat.le_refl _), List.drop_of_length_le (by omega)]
theorem intbeq (i j : Nat) : ((i : Int) == (j : Int)) = decide (i = j) := by
  rw [Bool.eq_iff_iff]
  simp
  omega
theorem plains_cut {xs : List V} (h : V.plains xs = true) (a b : Nat) : V.plains (cutL xs a b) = true :=
  V.plains_iff.mpr fun v hv => V.plains_iff.mp h v (List.mem_of_mem_take (List.mem_of_mem_drop hv))
namespace VK04
open PySem (Str PyData)
open VA
section
variable {G : Nat → Option Def} {io : Nat → Bool} {sub : Nat → Nat → Bool} {N k : Nat}
theorem kind (g : Fn G io 10 false d_kind) {a : Agr} {h s : Nat} {b : Book} {w : List Nat} (hb : a[h]? = some b) (hw : b.kinds[s]? = some w) : FW (runV sub io G N (k + 1) 10 [agrV a, .int h, .int s]) (fun v _ => v = .str w) noF := by
  refine FW.run g rfl ?_
  show VW (stsV _ _ _ _ _ [_]) [some _, some _, some _] _ _
  walk_at "vs"
  refine VE.pathT (xs := a.map bookV) rfl rfl (by simp [V.plains_map]) ?_
  walk_at "vs"
  refine ⟨h, bookV b, _, rfl, rfl, atV_map hb, rfl, ?_⟩
  refine VP.getT (xs := [.tup (b.kinds.map .str), .tup (b.rows.map rowV)]) rfl (by simp [V.plain, V.plains_map]) ?_
  walk_at "vs"
  refine VP.getT (atV_map hw) rfl ?_
  exact ⟨_, rfl, rfl⟩
/-- a row's last item -/
def setLate (a : Agr) (h k : Nat) (b : Book) (r : Row) (l : Bool) : Agr := a.set h ⟨b.kinds, b.rows.set k ⟨r.st, r.takes, r.onto, r.sends, l⟩⟩
theorem set_eq3 {α β : Type} {f : α → β} {l : List α} {i : Nat} {x : α} (h : i < l.length) : (l.map f).take i ++ ([f x] ++ ((l.map f).drop (i + 1) ++ [])) = (l.set i x).map f := by
  rw [List.set_eq_take_append_cons_drop, if_pos h]
  simp
theorem with_late (g : Fn G io 13 false d_with_late) {a : Agr} {h kk : Nat} {l : Bool} {b : Book} {r : Row} (hb : a[h]? = some b) (hr : b.rows[kk]? = some r) (ha : AgrSz a) : FW (runV sub io G N (k + 1) 13 [agrV a, .int h, .int kk, .bl l]) (fun v _ => v = agrV (setLate a h kk b r l)) noF := by
  have hbl := (List.getElem?_eq_some_iff.mp hb).1
  have hrl := (List.getElem?_eq_some_iff.mp hr).1
  have hbz := ha.books b (List.mem_of_getElem? hb)
  refine FW.run g rfl ?_
  show VW (stsV _ _ _ _ _ [_, _, _]) [some _, some _, some _, some _, none, none, none] _ _
  have pa : V.plains (a.map bookV) = true := by simp [V.plains_map]
  have pr : V.plains (b.rows.map rowV) = true := by simp [V.plains_map]
  walk_at "vs"
  refine VP.getT (atV_map hb) (by simp) ?_
  refine ⟨_, rfl, ?_⟩
  walk_at "cs"
  walk_at "vs"
  refine VE.pathT (xs := b.rows.map rowV) rfl rfl pr ?_
  walk_at "vs"
  refine ⟨kk, rowV r, _, rfl, rfl, atV_map hr, rfl, ?_⟩
  refine VP.slcT (xs := [.int r.st, .tup (r.takes.map prV), .int r.onto, .tup (r.sends.map prV), .bl r.late]) (z := (0, 4)) rfl (by simp [cutL, V.plains, V.plain, V.plains_map]) ?_
  refine ⟨_, rfl, ?_⟩
  walk_at "vs"
  refine ⟨by simp [cutL, lineT], ?_⟩
  walk_at "vs"
  let r' : Row := ⟨r.st, r.takes, r.onto, r.sends, l⟩
  have er : V.tup (cutL [V.int r.st, V.tup (List.map prV r.takes), V.int r.onto, V.tup (List.map prV r.sends), V.bl r.late] 0 4 ++ [V.bl l]) = rowV r' := rfl
  rw [er]
  let b' : Book := ⟨b.kinds, b.rows.set kk r'⟩
  have ekk : ((kk : Int) + 1) = ((kk + 1 : Nat) : Int) := by omega
  have ehh : ((h : Int) + 1) = ((h + 1 : Nat) : Int) := by omega
  refine VP.slcT (xs := a.map bookV) (z := (0, cutIx (a.map bookV).length h)) rfl (plains_cut pa _ _) ?_
  rw [cut_take rfl]
  refine ⟨_, rfl, ?_⟩
  walk_at "vs"
  refine VP.slcT (z := (0, cutIx (b.rows.map rowV).length kk)) rfl (plains_cut pr _ _) ?_
  rw [cut_take rfl]
  refine ⟨_, rfl, ?_⟩
  walk_at "vs"
  refine VP.slcT (z := (cutIx (b.rows.map rowV).length (kk + 1), (b.rows.map rowV).length)) rfl (plains_cut pr _ _) ?_
  rw [ekk, cut_drop rfl]
  refine ⟨_, rfl, ?_⟩
  walk_at "vs"
  have e1 := set_eq3 (f := rowV) (x := r') hrl
  simp only [List.cons_append, List.nil_append] at e1 ⊢
  rw [e1]
  refine ⟨by simp [lineT]; have := hbz.rl; omega, ?_⟩
  walk_at "vs"
  refine VP.slcT (xs := a.map bookV) (z := (cutIx (a.map bookV).length (h + 1), (a.map bookV).length)) rfl (plains_cut pa _ _) ?_
  rw [ehh, cut_drop rfl]
  refine ⟨_, rfl, ?_⟩
  walk_at "vs"
  have e2 := set_eq3 (f := bookV) (x := b') hbl
  have e3 : V.tup [V.tup (List.map V.str b.kinds), V.tup (List.map rowV (b.rows.set kk r'))] = bookV b' := rfl
  simp only [List.cons_append, List.nil_append] at e2 ⊢
  rw [e3, e2]
  refine ⟨by simp [lineT]; have := ha.l; omega, ?_⟩
  walk_at "vs"
  exact ⟨_, rfl, rfl⟩
/-- one row of the law's own -/
def stepR (i h kk : Nat) (l : Bool) (p : Row × Nat) : Row := ⟨p.1.st, p.1.takes, p.1.onto, p.1.sends, if i = h ∧ p.2 = kk then l else p.1.late⟩
def stepB (h kk : Nat) (l : Bool) (p : Book × Nat) : Book := ⟨p.1.kinds, (p.1.rows.zipIdx 0).map (stepR p.2 h kk l)⟩
theorem turnedF (g : Fn G io 138 false d_law_turned) {a : Agr} {h kk : Nat} {l : Bool} (ha : AgrSz a) : FW (runV sub io G N (k + 1) 138 [agrV a, .int h, .int kk, .bl l]) (fun v _ => v = agrV ((a.zipIdx 0).map (stepB h kk l))) noF := by
  refine FW.run g rfl ?_
  show VW (stsV _ _ _ _ _ [_, _, _]) [some _, some _, some _, some _, none, none, none, none, none, none, none, none, none, none, none] _ _
  walk_at "vs"
  refine VS.for rfl (fun p : Book × Nat => V.tup [.int (p.2 : Int), bookV p.1]) (fun ls s => ∃ (acc : List Book) (u5 u6 u7 u8 u9 u10 u11 u12 u13 u14 : Option V), s = [some (agrV a), some (.int h), some (.int kk), some (.bl l), some (.lst true (acc.map bookV)), u5, u6, u7, u8, u9, u10, u11, u12, u13, u14] ∧ acc ++ ls.map (stepB h kk l) = (a.zipIdx 0).map (stepB h kk l) ∧ (∀ p ∈ ls, BookSz p.1) ∧ acc.length + ls.length ≤ 8) ?init ?step ?last
  case init =>
    walk_at "vs"
    refine ⟨_, rfl, a.zipIdx 0, ?_, [], _, _, _, _, _, _, _, _, _, _, rfl, rfl, fun p hp => ?_, by simp; exact ha.l⟩
    · have : V.frzs (a.map bookV) = a.map bookV := V.frzs_plain _ (by simp [V.plains_map])
      rw [this, enumV_map]
    · exact ha.books p.1 (List.fst_mem_of_mem_zipIdx hp)
  case last =>
    rintro s ⟨acc, u5, u6, u7, u8, u9, u10, u11, u12, u13, u14, rfl, e, _, _⟩
    walk_at "vs"
    simp only [List.map_nil, List.append_nil] at e
    subst e
    exact ⟨_, rfl, rfl⟩
  case step =>
    rintro ⟨b, i⟩ ls s ⟨acc, u5, u6, u7, u8, u9, u10, u11, u12, u13, u14, rfl, e, hz, hl⟩
    have hbz := hz (b, i) (by simp)
    refine ⟨_, rfl, ?_⟩
    walk_at "cs"
    walk_at "vs"
    refine VW.join (fun s => ∃ (u9 u10 u11 u12 u13 u14 : Option V), s = [some (agrV a), some (.int h), some (.int kk), some (.bl l), some (.lst true (acc.map bookV)), some (.int i), some (.tup (b.kinds.map .str)), some (.tup (b.rows.map rowV)), some (.lst true (((b.rows.zipIdx 0).map (stepR i h kk l)).map rowV)), u9, u10, u11, u12, u13, u14]) ?_ ?_
    · refine VS.for rfl (fun p : Row × Nat => V.tup [.int (p.2 : Int), rowV p.1]) (fun ls s => ∃ (rs : List Row) (u9 u10 u11 u12 u13 u14 : Option V), s = [some (agrV a), some (.int h), some (.int kk), some (.bl l), some (.lst true (acc.map bookV)), some (.int i), some (.tup (b.kinds.map .str)), some (.tup (b.rows.map rowV)), some (.lst true (rs.map rowV)), u9, u10, u11, u12, u13, u14] ∧ rs ++ ls.map (stepR i h kk l) = (b.rows.zipIdx 0).map (stepR i h kk l) ∧ rs.length + ls.length ≤ 20) ?init ?step ?last
      case init =>
        walk_at "vs"
        refine ⟨_, rfl, b.rows.zipIdx 0, ?_, [], _, _, _, _, _, _, rfl, rfl, by simp; exact hbz.rl⟩
        have : V.frzs (b.rows.map rowV) = b.rows.map rowV := V.frzs_plain _ (by simp [V.plains_map])
        rw [this, enumV_map]
      case last =>
        rintro s ⟨rs, u9, u10, u11, u12, u13, u14, rfl, e, _⟩
        simp only [List.map_nil, List.append_nil] at e
        subst e
        exact ⟨rfl, _, _, _, _, _, _, rfl⟩
      case step =>
        rintro ⟨r, j⟩ ls s ⟨rs, u9, u10, u11, u12, u13, u14, rfl, e, hl⟩
        refine ⟨_, rfl, ?_⟩
        walk_at "cs"
        walk_at "vs"
        simp only [List.length_cons, List.map_cons] at hl e
        refine VE.mut0 rfl rfl rfl ?_
        walk_at "vs"
        have hlt : rs.length < lineT := by unfold lineT; omega
        have eb : V.eqb (.tup [.int (i : Int), .int (j : Int)]) (.tup [.int (h : Int), .int (kk : Int)]) = decide (i = h ∧ j = kk) := by
          simp [V.eqb, V.eqbs, intbeq]
        rw [eb]
        refine ⟨_, rfl, fun hc => ?_, fun hc => ?_⟩
        · have hc := of_decide_eq_true hc
          walk_at "vs"
          refine ⟨_, (.non, .lst true ((rs ++ [stepR i h kk l (r, j)]).map rowV)), rfl, ?_, ?_⟩
          · simp [mutV, whenO, hlt, rowV, stepR, hc]
          · walk_at "cs"
            walk_at "vs"
            exact ⟨rs ++ [stepR i h kk l (r, j)], _, _, _, _, _, _, rfl, by simpa using e, by simp; omega⟩
        · have hc := of_decide_eq_false hc
          walk_at "vs"
          refine ⟨_, (.non, .lst true ((rs ++ [stepR i h kk l (r, j)]).map rowV)), rfl, ?_, ?_⟩
          · simp [mutV, whenO, hlt, rowV, stepR, hc]
          · walk_at "cs"
            walk_at "vs"
            exact ⟨rs ++ [stepR i h kk l (r, j)], _, _, _, _, _, _, rfl, by simpa using e, by simp; omega⟩
    · rintro s ⟨u9, u10, u11, u12, u13, u14, rfl⟩
      simp only [List.length_cons, List.map_cons] at hl e
      walk_at "vs"
      refine VE.mut0 rfl rfl rfl ?_
      walk_at "vs"
      have hlt : acc.length < lineT := by unfold lineT; omega
      refine ⟨_, (.non, .lst true ((acc ++ [stepB h kk l (b, i)]).map bookV)), rfl, ?_, ?_⟩
      · simp [mutV, whenO, hlt, bookV, stepB]
      · walk_at "cs"
        walk_at "vs"
        exact ⟨acc ++ [stepB h kk l (b, i)], _, _, _, _, _, _, _, _, _, _, rfl, by simpa using e, fun p hp => hz p (by simp [hp]), by simp; omega⟩
theorem stepB_eq {a : Agr} {h kk : Nat} {l : Bool} {b : Book} {r : Row} (hb : a[h]? = some b) (hr : b.rows[kk]? = some r) : (a.zipIdx 0).map (stepB h kk l) = setLate a h kk b r l := by
  have hbl := (List.getElem?_eq_some_iff.mp hb).1
  have hrl := (List.getElem?_eq_some_iff.mp hr).1
  apply List.ext_getElem?
  intro i
  simp only [setLate, List.getElem?_map, List.getElem?_zipIdx, List.getElem?_set]
  by_cases hi : h = i
  · subst hi
    rw [if_pos rfl, if_pos hbl, hb]
    simp only [Option.map_some, Nat.zero_add, Option.some.injEq, stepB, Book.mk.injEq, true_and]
    apply List.ext_getElem?
    intro j
    simp only [List.getElem?_map, List.getElem?_zipIdx, List.getElem?_set]
    by_cases hj : kk = j
    · subst hj
      rw [if_pos rfl, if_pos hrl, hr]
      simp [stepR]
    · rw [if_neg hj]
      cases b.rows[j]? with
      | none => rfl
      | some r2 => simp [stepR, Ne.symm hj]
  · rw [if_neg hi]
    cases a[i]? with
    | none => rfl
    | some b2 =>
      simp only [Option.map_some, Nat.zero_add, Option.some.injEq, stepB]
      have : (b2.rows.zipIdx 0).map (stepR i h kk l) = b2.rows := by
        apply List.ext_getElem?
        intro j
        simp only [List.getElem?_map, List.getElem?_zipIdx]
        cases b2.rows[j]? with
        | none => rfl
        | some r2 => simp [stepR, Ne.symm hi]
      rw [this]
theorem turned (g : Fn G io 138 false d_law_turned) {a : Agr} {h kk : Nat} {l : Bool} {b : Book} {r : Row} (hb : a[h]? = some b) (hr : b.rows[kk]? = some r) (ha : AgrSz a) : FW (runV sub io G N (k + 1) 138 [agrV a, .int h, .int kk, .bl l]) (fun v _ => v = agrV (setLate a h kk b r l)) noF :=
  (turnedF g ha).mono (fun v _ e => by rw [e, stepB_eq hb hr]) fun _ _ h => h
theorem setLate_sz {a : Agr} {h kk : Nat} {l : Bool} {b : Book} {r : Row} (hb : a[h]? = some b) (hr : b.rows[kk]? = some r) (ha : AgrSz a) : AgrSz (setLate a h kk b r l) := by
  have hbz := ha.books b (List.mem_of_getElem? hb)
  have hrz := hbz.rows r (List.mem_of_getElem? hr)
  refine ⟨fun b2 h2 => ?_, by simpa [setLate] using ha.l⟩
  rcases List.mem_or_eq_of_mem_set h2 with h2 | rfl
  · exact ha.books b2 h2
  · refine ⟨hbz.kinds, hbz.kl, fun r2 h3 => ?_, by simpa using hbz.rl⟩
    rcases List.mem_or_eq_of_mem_set h3 with h3 | rfl
    · exact hbz.rows r2 h3
    · exact ⟨hrz.st, hrz.onto, hrz.takes, hrz.tl, hrz.sends, hrz.sl⟩
theorem setLate_back {a : Agr} {h kk : Nat} {l : Bool} {b : Book} {r : Row} (hb : a[h]? = some b) (hr : b.rows[kk]? = some r) :
    (setLate a h kk b r l)[h]? = some ⟨b.kinds, b.rows.set kk ⟨r.st, r.takes, r.onto, r.sends, l⟩⟩ ∧ (b.rows.set kk ⟨r.st, r.takes, r.onto, r.sends, l⟩)[kk]? = some ⟨r.st, r.takes, r.onto, r.sends, l⟩ ∧
      setLate (setLate a h kk b r l) h kk ⟨b.kinds, b.rows.set kk ⟨r.st, r.takes, r.onto, r.sends, l⟩⟩ ⟨r.st, r.takes, r.onto, r.sends, l⟩ r.late = a := by
  have hbl := (List.getElem?_eq_some_iff.mp hb).1
  have hrl := (List.getElem?_eq_some_iff.mp hr).1
  refine ⟨by simp [setLate, hbl], by simp [hrl], ?_⟩
  have e1 : b.rows.set kk r = b.rows := by
    rw [← (List.getElem?_eq_some_iff.mp hr).2]
    exact List.set_getElem_self ..
  simp only [setLate, List.set_set, e1]
  have e2 : a.set h b = a := by
    rw [← (List.getElem?_eq_some_iff.mp hb).2]
    exact List.set_getElem_self ..
  exact e2
theorem repr2 {w : List Nat} (hw : KindOk w) {Q : V → Prop} {o : Bool} (q : Q (.str (shw (.lst o [.str w, .str w])))) : VP .repr [.lst o [.str w, .str w]] Q := by
  refine VP.reprL (w := 500) ?_ (by unfold lineT; omega) q
  exact (ShV.lst (.cons (.str hw.1) (.cons (.str hw.1) (.nil (w := 0))))).mono (by have := hw.2; omega)
theorem str_ne {s : List Nat} : (!V.eqb (.str s) (.str s)) = false := by simp [V.eqb]
theorem shw_okd {w : Nat} {v : V} (a : ShV deep w v) (hw : w ≤ lineT) : V.okd deep (.str (shw v)) = true := by
  simpa [V.okd] using (shw_some a hw).2
theorem are_kinds (g1 : Fn G io 10 false d_kind) (g : Fn G io 181 false d_law_are_kinds) {a : Agr} {nm : Bool} (ha : AgrSz a) : FW (runV sub io G N (k + 2) 181 [agrV a, .bl nm]) (fun v _ => v = .bl true) noF := by
  refine FW.run g rfl ?_
  show VW (stsV _ _ _ _ _ [_, _]) [some _, some _, none, none, none, none, none, none] _ _
  walk_at "vs"
  refine VS.for rfl (fun p : Book × Nat => V.tup [.int (p.2 : Int), bookV p.1]) (fun ls s => ∃ (u2 u3 u4 u5 u6 u7 : Option V), s = [some (agrV a), some (.bl nm), u2, u3, u4, u5, u6, u7] ∧ ∀ p ∈ ls, a[p.2]? = some p.1) ?init ?step ?last
  case init =>
    walk_at "vs"
    refine ⟨_, rfl, a.zipIdx 0, ?_, _, _, _, _, _, _, rfl, fun p hp => ?_⟩
    · have : V.frzs (a.map bookV) = a.map bookV := V.frzs_plain _ (by simp [V.plains_map])
      rw [this, enumV_map]
    · have := List.mem_zipIdx_iff_getElem?.mp hp
      simpa using this
  case last =>
    rintro s ⟨u2, u3, u4, u5, u6, u7, rfl, _⟩
    walk_at "vs"
    exact ⟨_, rfl, rfl⟩
  case step =>
    rintro ⟨b, i⟩ ls s ⟨u2, u3, u4, u5, u6, u7, rfl, hm⟩
    have hb : a[i]? = some b := hm (b, i) (by simp)
    have hbz := ha.books b (List.mem_of_getElem? hb)
    refine ⟨_, rfl, ?_⟩
    walk_at "cs"
    walk_at "vs"
    refine VS.for rfl (fun p : List Nat × Nat => V.tup [.int (p.2 : Int), .str p.1]) (fun ls s => ∃ (u5 u6 u7 : Option V), s = [some (agrV a), some (.bl nm), some (.int i), some (.tup (b.kinds.map .str)), some (.tup (b.rows.map rowV)), u5, u6, u7] ∧ ∀ p ∈ ls, b.kinds[p.2]? = some p.1) ?init ?step ?last
    case init =>
      walk_at "vs"
      refine ⟨_, rfl, b.kinds.zipIdx 0, ?_, _, _, _, rfl, fun p hp => ?_⟩
      · have : V.frzs (b.kinds.map V.str) = b.kinds.map V.str := V.frzs_plain _ (by simp [V.plains_map, V.plain])
        rw [this, enumV_map]
      · have := List.mem_zipIdx_iff_getElem?.mp hp
        simpa using this
    case last =>
      rintro s ⟨u5, u6, u7, rfl, _⟩
      walk_at "vs"
      exact ⟨_, _, _, _, _, _, rfl, fun p hp => hm p (by simp [hp])⟩
    case step =>
      rintro ⟨w, st⟩ ls2 s ⟨u5, u6, u7, rfl, hk⟩
      have hw : b.kinds[st]? = some w := hk (w, st) (by simp)
      have hwk := hbz.kinds w (List.mem_of_getElem? hw)
      refine ⟨_, rfl, ?_⟩
      walk_at "cs"
      have sh2 : ∀ o, ShV deep 500 (.lst o [.str w, .str w]) := fun o => (ShV.lst (.cons (.str hwk.1) (.cons (.str hwk.1) (.nil (w := 0))))).mono (by have := hwk.2; omega)
      have so : V.okd deep (.str (shw (.lst false [.str w, .str w]))) = true := shw_okd (sh2 _) (by unfold lineT; omega)
      refine VS.cons ?_
      refine VW.join (fun s => s = [some (agrV a), some (.bl nm), some (.int i), some (.tup (b.kinds.map .str)), some (.tup (b.rows.map rowV)), some (.int st), some (.str w), some (.str w)]) ?_ ?_
      · walk_at "vs"
        refine ⟨_, rfl, fun hz => ?_, fun hz => ?_⟩
        · refine VE.callK g1.o (by decide) ?_
          walk_at "vs"
          refine ⟨_, rfl, (kind g1 hb hw).mono ?_ fun _ _ h => h.elim⟩
          rintro v _ rfl
          exact ⟨lt_rfl rfl, rfl, rfl⟩
        · refine VE.call g1.o ?_
          walk_at "vs"
          refine (kind g1 hb hw).mono ?_ fun _ _ h => h.elim
          rintro v _ rfl
          exact ⟨lt_rfl rfl, rfl, rfl⟩
      rintro s rfl
      walk_at "vs"
      refine VS.ife ?_
      walk_at "vs"
      refine VE.call g1.o ?_
      walk_at "vs"
      refine (kind g1 hb hw).mono ?_ fun _ _ h => h.elim
      rintro v _ rfl
      walk_at "vs"
      refine VP.reprL (sh2 _) (by unfold lineT; omega) ?_
      walk_at "vs"
      refine VP.reprL (sh2 _) (by unfold lineT; omega) ?_
      walk_at "vs"
      rw [str_ne]
      refine ⟨_, rfl, fun hz => (by cases hz), fun _ => ?_⟩
      walk_at "vs"
      exact ⟨_, _, _, rfl, fun p hp => hk p (by simp [hp])⟩
theorem agr_shT {a : Agr} (ha : AgrSz a) : ShV deep 1600000 (.tup (a.map bookV)) := agrV_sh ha 54
theorem agr_shL {a b c : Agr} (ha : AgrSz a) (hb : AgrSz b) (hc : AgrSz c) (o : Bool) : ShV deep 4900000 (.lst o [agrV a, agrV b, agrV c]) :=
  (ShV.lst (.cons (agrV_sh ha 53) (.cons (agrV_sh hb 53) (.cons (agrV_sh hc 53) (.nil (w := 0)))))).mono (by omega)
theorem are_late (g0 : Fn G io 118 true d_law_draw) (g1 : Fn G io 13 false d_with_late) (g2 : Fn G io 138 false d_law_turned) (g : Fn G io 182 true d_law_are_late) {a : Agr} {nm : Bool} {K : Dk} (ok : VA.Ok K) (ha : AgrSz a) : FW (runV sub io G N (k + 2) 182 [dkV K, agrV a, .bl nm]) (fun v w => v = .bl true ∧ ∃ K', w = dkV K' ∧ VA.Ok K') noF := by
  refine FW.run g rfl ?_
  show VW (stsV _ _ _ _ _ [_, _]) [some _, some _, some _, none, none, none, none, none, none, none, none] _ _
  walk_at "vs"
  refine VS.for rfl (fun p : Book × Nat => V.tup [.int (p.2 : Int), bookV p.1]) (fun ls s => ∃ (K' : Dk) (u3 u4 u5 u6 u7 u8 u9 u10 : Option V), s = [some (dkV K'), some (agrV a), some (.bl nm), u3, u4, u5, u6, u7, u8, u9, u10] ∧ VA.Ok K' ∧ ∀ p ∈ ls, a[p.2]? = some p.1) ?init ?step ?last
  case init =>
    walk_at "vs"
    refine ⟨_, rfl, a.zipIdx 0, ?_, K, _, _, _, _, _, _, _, _, rfl, ok, fun p hp => ?_⟩
    · have : V.frzs (a.map bookV) = a.map bookV := V.frzs_plain _ (by simp [V.plains_map])
      rw [this, enumV_map]
    · have := List.mem_zipIdx_iff_getElem?.mp hp
      simpa using this
  case last =>
    rintro s ⟨K', u3, u4, u5, u6, u7, u8, u9, u10, rfl, ok', _⟩
    walk_at "vs"
    exact ⟨_, rfl, rfl, K', rfl, ok'⟩
  case step =>
    rintro ⟨b, i⟩ ls s ⟨K', u3, u4, u5, u6, u7, u8, u9, u10, rfl, ok', hm⟩
    have hb : a[i]? = some b := hm (b, i) (by simp)
    have hbz := ha.books b (List.mem_of_getElem? hb)
    have prw : V.plains (b.rows.map rowV) = true := by simp [V.plains_map]
    refine ⟨_, rfl, ?_⟩
    walk_at "cs"
    walk_at "vs"
    refine VS.for rfl (fun (j : Nat) => V.int (j : Int)) (fun ls s => ∃ (K' : Dk) (u6 u7 u8 u9 u10 : Option V), s = [some (dkV K'), some (agrV a), some (.bl nm), some (.int i), some (.tup (b.kinds.map .str)), some (.tup (b.rows.map rowV)), u6, u7, u8, u9, u10] ∧ VA.Ok K' ∧ ∀ j ∈ ls, j < b.rows.length) ?init ?step ?last
    case init =>
      walk_at "vs"
      have := hbz.rl
      refine ⟨_, rangeV1 (by omega) (by simp; omega), _, rfl, K', _, _, _, _, _, rfl, ok', fun j hj => by simpa using hj⟩
    case last =>
      rintro s ⟨K', u6, u7, u8, u9, u10, rfl, ok', _⟩
      walk_at "vs"
      exact ⟨K', _, _, _, _, _, _, _, _, rfl, ok', fun p hp => hm p (by simp [hp])⟩
    case step =>
      rintro j ls2 s ⟨K', u6, u7, u8, u9, u10, rfl, ok', hj⟩
      obtain ⟨r, hr⟩ : ∃ r, b.rows[j]? = some r := ⟨_, List.getElem?_eq_getElem (hj j (by simp))⟩
      refine ⟨_, rfl, ?_⟩
      walk_at "cs"
      walk_at "vs"
      refine VE.callIO g0.o rfl rfl ?_
      walk_at "vs"
      refine ⟨dkV K', rfl, (draw g0 ok' (by decide)).mono ?_ fun _ _ h => h.elim⟩
      rintro v w ⟨rn, K2, rfl, rfl, ok2, -, -⟩
      walk_at "cs"
      walk_at "vs"
      generalize V.eqb (.int rn) (.int 0) = l
      have hz1 := setLate_sz (l := l) hb hr ha
      have hz2 := setLate_sz (l := !l) hb hr ha
      obtain ⟨k1, k2, k3⟩ := setLate_back (l := l) hb hr
      refine VE.call g2.o ?_
      walk_at "vs"
      refine (turned g2 hb hr ha).mono ?_ fun _ _ h => h.elim
      rintro v _ rfl
      walk_at "vs"
      refine VE.call g1.o ?_
      walk_at "vs"
      refine (with_late g1 hb hr ha).mono ?_ fun _ _ h => h.elim
      rintro v _ rfl
      walk_at "vs"
      refine ⟨_, rfl, fun hz => ?_, fun hz => ?_⟩
      refine VE.callK g1.o (by decide) ?_
      walk_at "vs"
      refine ⟨_, rfl, (with_late g1 hb hr ha).mono ?_ fun _ _ h => h.elim⟩
      rintro v _ rfl
      all_goals (
        walk_at "vs"
        refine VS.ife ?_
        walk_at "vs"
        refine VE.call g1.o ?_
        walk_at "vs"
        refine ⟨_, rfl, ?_⟩
        walk_at "vs"
        refine (with_late g1 hb hr ha).mono ?_ fun _ _ h => h.elim
        rintro v _ rfl
        walk_at "vs"
        refine VP.reprL (agr_shL hz1 hz1 hz2 _) (by unfold lineT; omega) ?_
        walk_at "vs"
        refine VE.call g2.o ?_
        walk_at "vs"
        refine ⟨_, rfl, ?_⟩
        walk_at "vs"
        refine (turned g2 hb hr ha).mono ?_ fun _ _ h => h.elim
        rintro v _ rfl
        walk_at "vs"
        refine VP.reprL (agr_shL hz1 hz1 hz2 _) (by unfold lineT; omega) ?_
        have so : V.okd deep (.str (shw (.lst false [agrV (setLate a i j b r l), agrV (setLate a i j b r l), agrV (setLate a i j b r (!l))]))) = true := shw_okd (agr_shL hz1 hz1 hz2 _) (by unfold lineT; omega)
        walk_at "vs"
        rw [str_ne]
        refine ⟨_, rfl, fun hz => (by cases hz), fun _ => ?_⟩
        walk_at "vs"
        refine VS.ife ?_
        walk_at "vs"
        refine VE.call g1.o ?_
        walk_at "vs"
        refine VE.pathT (xs := b.rows.map rowV) rfl rfl prw ?_
        walk_at "vs"
        refine ⟨j, rowV r, _, rfl, rfl, atV_map hr, rfl, ?_⟩
        refine VP.getT (xs := [.int r.st, .tup (r.takes.map prV), .int r.onto, .tup (r.sends.map prV), .bl r.late]) (v := .bl r.late) rfl rfl ?_
        walk_at "vs"
        refine (with_late g1 k1 k2 hz1).mono ?_ fun _ _ h => h.elim
        rintro v _ rfl
        rw [k3]
        walk_at "vs"
        refine VP.reprT (agr_shT ha) (by unfold lineT; omega) ?_
        walk_at "vs"
        refine VP.reprT (agr_shT ha) (by unfold lineT; omega) ?_
        have so2 : V.okd deep (.str (shw (.tup (a.map bookV)))) = true := shw_okd (agr_shT ha) (by unfold lineT; omega)
        walk_at "vs"
        rw [str_ne]
        refine ⟨_, rfl, fun hz => (by cases hz), fun _ => ?_⟩
        walk_at "vs"
        exact ⟨K2, _, _, _, _, _, rfl, ok2, fun p hp => hj p (by simp [hp])⟩)
theorem law (g0 : Fn G io 118 true d_law_draw) (g1 : Fn G io 119 true d_law_pick) (g2 : Fn G io 161 true d_law_pairs) (g3 : Fn G io 158 false d_law_leads) (g4 : Fn G io 162 true d_law_book) (g5 : Fn G io 163 true d_law_asking) (g6 : Fn G io 139 true d_law_agreement) (g7 : Fn G io 10 false d_kind) (g8 : Fn G io 181 false d_law_are_kinds)
    (g9 : Fn G io 13 false d_with_late) (g10 : Fn G io 138 false d_law_turned) (g11 : Fn G io 182 true d_law_are_late) (gd : Fn G io 153 false (d_law_deck' 1504)) (g : Fn G io 152 false d_law) {ns : List Int} (hl : ns.length ≤ 63) (hn : ∀ z ∈ ns, z.natAbs.log2 < 1048576) :
    FW (runV sub io G N (k + 6) 152 [.fro (ns.map .int)]) (fun v _ => v = .bl true) noF := by
  refine FW.run g rfl ?_
  show VW (stsV _ _ _ _ _ [_, _, _]) [some _, none, none, none, none] _ _
  walk_at "vs"
  refine VE.call gd.o ?_
  walk_at "vs"
  refine VE.varF rfl plains_int ?_
  walk_at "vs"
  refine (deck (d := d_law) gd (by decide) (by decide) hl hn).mono ?_ fun _ _ h => h.elim
  rintro v _ ⟨K, rfl, ok⟩
  walk_at "cs"
  walk_at "vs"
  refine VS.for rfl (fun (i : Nat) => V.int (i : Int)) (fun l s => ∃ (K : Dk) (u2 u3 u4 : Option V), s = [some (.fro (ns.map .int)), some (dkV K), u2, u3, u4] ∧ VA.Ok K) ?init ?step ?last
  case init =>
    walk_at "vs"
    exact ⟨_, rangeV1 (by decide) (by decide), _, rfl, K, _, _, _, rfl, ok⟩
  case last =>
    rintro s ⟨K, u2, u3, u4, rfl, ok⟩
    walk_at "vs"
    exact ⟨_, rfl, rfl⟩
  case step =>
    rintro x l s ⟨K, u2, u3, u4, rfl, ok⟩
    refine ⟨_, rfl, ?_⟩
    walk_at "cs"
    walk_at "vs"
    refine VE.callIO g6.o rfl rfl ?_
    walk_at "vs"
    refine ⟨dkV K, rfl, (agreement g0 g1 g2 g3 g4 g5 g6 ok).mono ?_ fun _ _ h => h.elim⟩
    rintro v w ⟨a, K2, rfl, rfl, ok2, ha⟩
    walk_at "cs"
    walk_at "vs"
    have sh := agr_shT ha
    have so : V.okd deep (.str (shw (.tup (a.map bookV)))) = true := shw_okd sh (by unfold lineT; omega)
    refine VP.reprT sh (by unfold lineT; omega) ?_
    walk_at "vs"
    refine VS.ife ?_
    walk_at "vs"
    refine VE.call g8.o ?_
    walk_at "vs"
    refine (are_kinds g7 g8 ha).mono ?_ fun _ _ h => h.elim
    rintro v _ rfl
    refine ⟨_, rfl, ?_⟩
    refine ⟨_, rfl, fun hz => ?_, fun hz => (by cases hz)⟩
    walk_at "vs"
    refine VE.callIO g11.o rfl rfl ?_
    walk_at "vs"
    refine ⟨dkV K2, rfl, (are_late g0 g9 g10 g11 ok2 ha).mono ?_ fun _ _ h => h.elim⟩
    rintro v w ⟨rfl, K3, rfl, ok3⟩
    walk_at "cs"
    refine ⟨_, rfl, ?_⟩
    refine ⟨_, rfl, fun hz => (by cases hz), fun _ => ?_⟩
    walk_at "vs"
    refine VS.ife ?_
    walk_at "vs"
    refine VP.reprT sh (by unfold lineT; omega) ?_
    walk_at "vs"
    rw [str_ne]
    refine ⟨_, rfl, fun hz => (by cases hz), fun _ => ?_⟩
    walk_at "vs"
    exact ⟨K3, _, _, _, rfl, ok3⟩
end
end VK04
end LS
end

set_option maxRecDepth 100000
set_option maxHeartbeats 8000000
namespace LS
namespace END
open PySem PySem.Spec PyProof.Rows L2 LS
open VA VK04
def d_law_deck : Def := VA.d_law_deck' 1504
def ents : List Ent := [
  ⟨10, "kind", ["agreement", "house", "state"], ["agreement", "house", "state"], d_kind⟩,
  ⟨13, "with_late", ["agreement", "house", "k", "late"], ["agreement", "house", "k", "late", "kinds", "rows", "row"], d_with_late⟩,
  ⟨153, "_law_deck", ["script"], ["script", "deck", "cell", "whole", "state"], d_law_deck⟩,
  ⟨118, "_law_draw", ["deck", "many"], ["deck", "many", "whole", "one", "two"], d_law_draw⟩,
  ⟨119, "_law_pick", ["deck", "items"], ["deck", "items"], d_law_pick⟩,
  ⟨158, "_law_leads", ["one", "other"], ["one", "other"], d_law_leads⟩,
  ⟨161, "_law_pairs", ["deck", "n", "house", "most"], ["deck", "n", "house", "most", "others", "found", "own", "turn", "pair"], d_law_pairs⟩,
  ⟨162, "_law_book", ["deck", "n", "house", "most"], ["deck", "n", "house", "most", "many", "sorts", "turn", "rows", "state", "goals", "own", "takes", "sends"], d_law_book⟩,
  ⟨163, "_law_asking", ["deck", "n", "last"], ["deck", "n", "last", "four", "others", "takes", "sends", "own", "rows", "found", "told"], d_law_asking⟩,
  ⟨139, "_law_agreement", ["deck"], ["deck", "n", "house"], d_law_agreement⟩,
  ⟨138, "_law_turned", ["agreement", "house", "k", "is_late"], ["agreement", "house", "k", "is_late", "found", "own", "sorts", "rows", "fresh", "place", "state", "takes", "onto", "sends", "was_late"], d_law_turned⟩,
  ⟨181, "_law_are_kinds", ["agreement", "is_named"], ["agreement", "is_named", "house", "sorts", "rows", "state", "due", "told"], d_law_are_kinds⟩,
  ⟨182, "_law_are_late", ["deck", "agreement", "is_named"], ["deck", "agreement", "is_named", "house", "sorts", "rows", "k", "is_late", "due", "told", "named"], d_law_are_late⟩,
  ⟨152, "law", ["script"], ["script", "deck", "turn", "agreement", "known"], d_law⟩]
def ioF (f : Nat) : Bool := [118, 119, 161, 162, 163, 139, 182].contains f
theorem law_pure (ns : List Int) (hl : ns.length ≤ 63) (hb : ∀ z ∈ ns, PySem.Builtin.Int.intBits z ≤ 1048576) : ∃ S', LS.run LS.noSub (LS.gOf ents) 100000 100 152 [.ref 0] [.fro (ns.map .int)] = some (.ok (.bl true), S') := by
  have hn : ∀ z ∈ ns, z.natAbs.log2 < 1048576 := fun z hz => by
    have := hb z hz
    unfold PySem.Builtin.Int.intBits at this
    split at this
    · rename_i h
      have : z = 0 := by simpa using h
      subst this
      decide
    · omega
  obtain ⟨v, w, e, rfl⟩ := (LS.VK04.law (G := LS.gOf ents) (io := ioF) (sub := LS.noSub) (N := 100000) (k := 94) ⟨rfl, rfl⟩ ⟨rfl, rfl⟩ ⟨rfl, rfl⟩ ⟨rfl, rfl⟩ ⟨rfl, rfl⟩ ⟨rfl, rfl⟩ ⟨rfl, rfl⟩ ⟨rfl, rfl⟩ ⟨rfl, rfl⟩ ⟨rfl, rfl⟩ ⟨rfl, rfl⟩ ⟨rfl, rfl⟩ ⟨rfl, rfl⟩ ⟨rfl, rfl⟩ hl hn).elim
  exact LS.law_of rfl e

abbrev R : PySem.W.OpenRow := PySem.W.OpenLaw.row PySem.Challenge.rw_leftstanding_k04_kinds_and_late_rows
def body : List Stmt := PySem.Challenge.pw_leftstanding_k04_kinds_and_late_rows.main.body
abbrev hk : PySem.W.Hook := LS.hookL 4 (LS.faOf body) (LS.fnOf' body)
def ob (s : PySem.W.SharedT) := LS.obsL 4 (LS.faOf body) (LS.fnOf' body) (HandSHeadRun.getT s)
theorem ob_eq (s : PySem.W.SharedT) : ob s = hk.obs s.abs := LS.obsL_eq (HandSHeadRun.getT_eq s)
def names : List Str := (PySem.Challenge.pw_leftstanding_k04_kinds_and_late_rows.main.scope.names.map (·.1)).filter fun x => !(x == ("law" : Str))
theorem runs (w : World) : HandSHeadRun.RunEq R (PySem.W.view R.prog [15]) hk ob 100000 names w := by
  intro os
  kernel_rfl
theorem ents_ok : LS.entsB ents body = true := by kernel_rfl
end END
end LS
open PySem PySem.W PySem.Calls PyProof.Rows in
set_option maxRecDepth 100000 in
set_option maxHeartbeats 8000000 in
theorem PySem.Challenge.cw_leftstanding_k04_kinds_and_late_rows_holds : PySem.Challenge.rw_leftstanding_k04_kinds_and_late_rows.Holds := by
  w_on; o_law
  refine HandSHeadRun.head_any (r := OpenLaw.row PySem.Challenge.rw_leftstanding_k04_kinds_and_late_rows) (q := view (OpenLaw.row PySem.Challenge.rw_leftstanding_k04_kinds_and_late_rows).prog [15]) (H := LS.END.hk) (ob := LS.END.ob) (M := 100000) (loose := LS.END.names) (d := HandSHeadRun.topDef (OpenLaw.row PySem.Challenge.rw_leftstanding_k04_kinds_and_late_rows).prog 15) (kwd := []) LS.END.ob_eq
    (by kernel_rfl) (fun s => by kernel_rfl) LS.END.runs (by kernel_rfl) (by kernel_rfl) (by kernel_rfl) (by rfl) (by first | assumption | decide +kernel) (by decide +kernel) ⟨rfl, rfl, rfl, rfl, rfl, by decide +kernel⟩ ?hw ?hc
  case hw => w_witness2
  case hc =>
    exact LS.walk_law (l := PySem.Challenge.rw_leftstanding_k04_kinds_and_late_rows) (n := 63) (ents := LS.END.ents) (il := 152) 100000 rfl (by decide) (by kernel_rfl) (by kernel_rfl) LS.END.ents_ok (by kernel_rfl) LS.END.law_pure
