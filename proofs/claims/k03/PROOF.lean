import PyProof.Rows.All
import Wide.All
import OpenK.AllK
import Wide.FinOn
import HandS.ForMost
import HandS.SetKeys
import HandS.SetFor
import PyProof.DictMoreH
import HandS.SortInts
import HandS.Exc
import HandS.ExcOwn
import HandS.HotCalls
import HandS.Replace
import HandS.CallSlots
import HandS.Flow
import HandS.Style
import HandS.WordsExc
import HandS.WideBits
import HandS.Wide
import HandS.IsInst
import HandS.TryOnly
import HandS.TryElse
import HandS.TupAny
import HandS.Rev
import HandS.Zip
import HandS.Small
import HandS.Conv
import HandS.Codes
import HandS.Deep
import HandS.More
import HandS.ExcIs
import HandS.Text
import HandS.StrMore
import HandS.RaiseMore
import HandS.ExcValue
import KE.GoesNew
import KE.DataCmp
import KE.DataMinMax
import HandS.SortKw
import KE.GoesMore
import HandS.HeadHook1
import HandS.HeadHook3
import HandS.Head0
import HandS.Head1
import HandS.Head2
import PyProof.StrLawsRepr
import HandS.TupLen
import KE.KDictDisplayH
import KE.KDictPairs
import PySem.Challenge.RW_meanbits_k03_texts_of_parts
set_option Elab.async false
set_option linter.all false
/-! law_k03_texts_of_parts: Kern (a verified layer of our own over the hand layer), the program in its IR, the law -/
/-! Kern, part 1: values, abstract heap, the IR and its weakest preconditions. -/
set_option autoImplicit false
namespace KN

/-- a value; tuples are values, lists, dicts and instances stand in the heap -/
inductive Vl where
  | non | bl (b : Bool) | int (i : Int) | str (s : List Nat) | tup (xs : List Vl) | ref (a : Nat) | fn (f : Nat)
  /-- a dict of the module, texts by texts, never changed -/
  | gd (kvs : List (List Nat × List Nat))
  deriving Inhabited

inductive Ky where
  | i (n : Int) | s (x : List Nat)
  deriving DecidableEq
def Ky.vl : Ky → Vl
  | .i n => .int n
  | .s x => .str x

/-- what stands at an address -/
inductive Ob where
  | lst (xs : List Vl)
  /-- a list that is read only: the script -/
  | rol (xs : List Vl)
  | dct (kvs : List (Ky × Vl))
  /-- a dict that is gone through: read only -/
  | fdc (kvs : List (Ky × Vl))
  /-- a dict keyed by tuples of numbers -/
  | dtp (kvs : List (List Int × Vl))
  | ins (c : Nat) (fs : List (Nat × Vl))
  | exc (c : Nat) (r : Option Vl)
  deriving Inhabited

/-- the heap: the draws' box first, then what else is there -/
structure AH where
  b : List (Nat × Ob)
  r : List (Nat × Ob)
def look : List (Nat × Ob) → Nat → Option Ob
  | [], _ => none
  | (p, o) :: h, a => if a = p then some o else look h a
def lput : List (Nat × Ob) → Nat → Ob → List (Nat × Ob)
  | [], _, _ => []
  | (p, o) :: h, a, x => if a = p then (p, x) :: h else (p, o) :: lput h a x
def get (h : AH) (a : Nat) : Option Ob :=
  match look h.b a with
  | some o => some o
  | none => look h.r a
def put (h : AH) (a : Nat) (x : Ob) : AH :=
  match look h.b a with
  | some _ => ⟨lput h.b a x, h.r⟩
  | none => ⟨h.b, lput h.r a x⟩
def push (h : AH) (p : Nat) (o : Ob) : AH := ⟨h.b, (p, o) :: h.r⟩

abbrev St := List (Option Vl)
structure Ex where
  c : Nat
  r : Option Vl
abbrev Qv := Vl → AH → Prop
/-- an exception, the slots where it flew, the heap -/
abbrev Xv := Ex → St → AH → Prop
abbrev Nv := St → AH → Prop

inductive Op2 where
  | add | sub | mul | fdiv | mod | pow | eq | ne | lt | le | gt | ge | is_ | isn | in_ | nin
  deriving DecidableEq
inductive Kd where
  | int | bool | str | list | tuple | cls (c : Nat) | valErr
  deriving DecidableEq
inductive Bi where
  | abs | max2 | min2 | len | int1 | list1 | tuple1 | sum1 | max1 | min1 | maxd | mind | all1 | any1 | divmod | str1 | sorted1 | list0 | dict1
  deriving DecidableEq
inductive Mt where
  | append | pop0 | pop1 | extend | insert | reverse | clear | count | index | join | strip | startswith | endswith | partition | split | dget1 | dget2 | setdefault
  deriving DecidableEq

inductive E where
  | var (i : Nat) | int (i : Int) | str (s : List Nat) | bl (b : Bool) | non | glob (g : Nat)
  | op (o : Op2) (a b : E)
  | chain (o1 o2 : Op2) (a b c : E)
  | chain3 (o1 o2 o3 : Op2) (a b c d : E)
  | neg (a : E) | not (a : E) | notv (a : E) | one (a : E) | and (a b : E) | or (a b : E) | ite (c a b : E)
  | nil | cons (e es : E)
  | tup (es : E) | lst (es : E) | dct (ks : List Ky) (es : E) | dct0 | dctT (k v : E) | orv (a b : E)
  | ix (a b : E) | slc (a lo hi : E) | rev (a : E)
  | call (f : Nat) (es : E) | callv (i : Nat) (es : E) | bi (b : Bi) (es : E) | mt (m : Mt) (o es : E) | isa (e : E) (ks : List Kd)
  | attr (o : E) (f : Nat) | make (c : Nat) (es : E) | cm (m : Nat) (o es : E)
  | lc (elt : E) (vs : List Nat) (g it c : E)
  | lrg (a b : E) | nset (a : E) | sset (a : E) | strd (a : E)
  | iseq (e : E) | irng (a b : E) | izip (a b : E) | izip3 (a b c : E) | ienum (a : E) | irev (a : E)
  deriving DecidableEq

inductive S where
  | skip | seq (a b : S) | asg (g e : E) | aug (g : E) (o : Op2) (e : E) | expr (e : E) | ret (e : E) | retN
  | ife (c : E) (a b : S) | whl (c : E) (b : S) | for_ (g it : E) (b : S) | brk | cnt
  | rais (c : Nat) (es : E) | tryx (b : S) (c i j : Nat) | tryh (b : S) (c : Nat) (i : Option Nat) (s : S) | lock (i : Nat) (s : S) | bad
  deriving DecidableEq

structure Fn where
  ar : Nat
  n : Nat
  body : S

def SZ : Nat := 16777216
def MulOk (a b : Int) : Prop := (-18446744073709551616 < a ∧ a < 18446744073709551616) ∨ (-18446744073709551616 < b ∧ b < 18446744073709551616) ∨ (a.natAbs < 2 ^ 200 ∧ b.natAbs < 2 ^ 200)
def DivOk (b : Int) : Prop := b ≠ 0 ∧ b.natAbs < 2 ^ 1900

/-! ### equality of data -/
inductive Da where
  | non | bl (b : Bool) | int (i : Int) | str (s : List Nat) | tup (xs : List Da) | lst (xs : List Da)
  deriving Inhabited
mutual
/-- v is the data d in h -/
def DaOf (h : AH) : Vl → Da → Prop
  | v, .non => v = .non
  | v, .bl b => v = .bl b
  | v, .int i => v = .int i
  | v, .str s => v = .str s
  | v, .tup ds => ∃ vs, v = .tup vs ∧ DaOfs h vs ds
  | v, .lst ds => ∃ a vs, v = .ref a ∧ (get h a = some (.lst vs) ∨ get h a = some (.rol vs)) ∧ DaOfs h vs ds
def DaOfs (h : AH) : List Vl → List Da → Prop
  | vs, [] => vs = []
  | vs, d :: ds => ∃ v ws, vs = v :: ws ∧ DaOf h v d ∧ DaOfs h ws ds
end
mutual
/-- Python's == -/
def Da.eqv : Da → Da → Bool
  | .non, .non => true
  | .bl a, .bl b => a == b
  | .bl a, .int j => (if a then 1 else 0) == j
  | .int i, .bl b => i == (if b then 1 else 0)
  | .int i, .int j => i == j
  | .str a, .str b => a == b
  | .tup a, .tup b => Da.eqvs a b
  | .lst a, .lst b => Da.eqvs a b
  | _, _ => false
def Da.eqvs : List Da → List Da → Bool
  | [], [] => true
  | a :: as, b :: bs => Da.eqv a b && Da.eqvs as bs
  | _, _ => false
end
mutual
def Da.dep : Da → Nat
  | .tup ds => Da.deps ds + 1
  | .lst ds => Da.deps ds + 1
  | _ => 0
def Da.deps : List Da → Nat
  | [] => 0
  | d :: ds => max (Da.dep d) (Da.deps ds)
end

mutual
/-- texts of signs that there are -/
def Da.ok : Da → Bool
  | .str s => s.all fun c => decide (c < 1114112)
  | .tup ds => Da.oks ds
  | .lst ds => Da.oks ds
  | _ => true
def Da.oks : List Da → Bool
  | [] => true
  | d :: ds => Da.ok d && Da.oks ds
end

structure PG where
  fns : Nat → Option Fn
  glob : Nat → Option Vl
  meth : Nat → Nat → Option Nat
  init : Nat → Option Nat
  /-- an exception's class under another one -/
  sub : Nat → Nat → Bool
  /-- data, written -/
  shw : Da → List Nat
/-- an int that can be written -/
@[irreducible] def intW (i : Int) : Bool := decide (i.natAbs < 2 ^ 1900)
theorem intW_ok {i : Int} : intW i = true ↔ i.natAbs < 2 ^ 1900 := by unfold intW; exact decide_eq_true_iff
mutual
/-- no int too long to be written -/
def Da.sho : Da → Bool
  | .int i => intW i
  | .tup ds => Da.shos ds
  | .lst ds => Da.shos ds
  | _ => true
def Da.shos : List Da → Bool
  | [] => true
  | d :: ds => Da.sho d && Da.shos ds
end
mutual
/-- how long it is at most, written -/
def Da.wid : Da → Nat
  | .non => 4
  | .bl _ => 5
  | .int i => if i.natAbs < 10000000000000 then 14 else 1922
  | .str s => 10 * s.length + 2
  | .tup ds => Da.wids ds + 4
  | .lst ds => Da.wids ds + 4
def Da.wids : List Da → Nat
  | [] => 0
  | d :: ds => Da.wid d + 2 + Da.wids ds
end
def Da.seqB : Da → Bool
  | .tup _ => true
  | .lst _ => true
  | _ => false

/-- str of data: a text as it is, all else written -/
def PG.top (P : PG) : Da → List Nat
  | .str s => s
  | d => P.shw d

/-- the truth of a value -/
def truth (h : AH) : Vl → Option Bool
  | .non => some false
  | .bl b => some b
  | .int i => some (decide (i ≠ 0))
  | .str _ => none
  | .tup xs => some (!xs.isEmpty)
  | .ref a => match get h a with
    | some (.lst xs) => some (!xs.isEmpty)
    | some (.rol xs) => some (!xs.isEmpty)
    | _ => none
  | .fn _ => none
  | .gd _ => none
end KN

set_option autoImplicit false
namespace KN

def fresh (h : AH) (p : Nat) : Prop := get h p = none
/-- a new object -/
def wNew (h : AH) (o : Ob) (Q : Qv) : Prop := ∀ p, get h p = none → Q (.ref p) (push h p o)
def isLst (h : AH) (a : Nat) (xs : List Vl) : Prop := get h a = some (.lst xs) ∨ get h a = some (.rol xs)

/-! ### orders and texts -/
/-- less, sign by sign -/
def lexL : List Int → List Int → Bool
  | [], [] => false
  | [], _ :: _ => true
  | _ :: _, [] => false
  | x :: xs, y :: ys => if x = y then lexL xs ys else decide (x < y)
/-- whether a text stands in another one -/
def inS (a b : List Nat) : Bool := (List.range (b.length + 1)).any fun i => (b.drop i).take a.length == a
/-- a text cut at each c -/
def splA (c : Nat) : List Nat → List Nat → List (List Nat)
  | acc, [] => [acc]
  | acc, x :: r => if x = c then acc :: splA c [] r else splA c (acc ++ [x]) r
/-- what stands ahead of the first c, c where there is one, what stands behind -/
def parA (c : Nat) : List Nat → List Nat → List Nat × List Nat × List Nat
  | acc, [] => (acc, [], [])
  | acc, x :: r => if x = c then (acc, [c], r) else parA c (acc ++ [x]) r
/-! ### operators by values -/
def wEq (neg : Bool) (x y : Vl) (h : AH) (Q : Qv) : Prop :=
  ∃ d e, DaOf h x d ∧ DaOf h y e ∧ (d.dep ≤ 60 ∧ d.ok = true) ∧ (e.dep ≤ 60 ∧ e.ok = true) ∧ Q (.bl (if neg then !d.eqv e else d.eqv e)) h
/-- kinds that None is compared with -/
def isNon : Vl → Bool
  | .non => true
  | _ => false
def isInts : List Vl → Option (List Int)
  | [] => some []
  | .int i :: r => (isInts r).map (i :: ·)
  | _ => none
def isBls : List Vl → Option (List Bool)
  | [] => some []
  | .bl i :: r => (isBls r).map (i :: ·)
  | _ => none
def isStrs : List Vl → Option (List (List Nat))
  | [] => some []
  | .str i :: r => (isStrs r).map (i :: ·)
  | _ => none
def dget (kvs : List (Ky × Vl)) (k : Ky) : Option Vl := (kvs.find? fun kv => decide (kv.1 = k)).map (·.2)
def dput (kvs : List (Ky × Vl)) (k : Ky) (v : Vl) : List (Ky × Vl) :=
  if (kvs.any fun kv => decide (kv.1 = k)) = true then kvs.map (fun kv => if kv.1 = k then (kv.1, v) else kv) else kvs ++ [(k, v)]
def tget (kvs : List (List Int × Vl)) (k : List Int) : Option Vl := (kvs.find? fun kv => decide (kv.1 = k)).map (·.2)
def tput (kvs : List (List Int × Vl)) (k : List Int) (v : Vl) : List (List Int × Vl) :=
  if (tget kvs k).isSome then kvs.map (fun kv => if kv.1 = k then (kv.1, v) else kv) else kvs ++ [(k, v)]
/-- a decimal text's number -/
def decV (s : List Nat) : Nat := s.foldl (fun a c => a * 10 + (c - 48)) 0
def kyOf : Vl → Option Ky
  | .int n => some (.i n)
  | .str s => some (.s s)
  | _ => none
/-- x in a list of data -/
def wInL (neg : Bool) (x : Vl) (a : Nat) (h : AH) (Q : Qv) : Prop :=
  ∃ d es, DaOf h x d ∧ DaOf h (.ref a) (.lst es) ∧ (d.dep ≤ 60 ∧ d.ok = true) ∧ ((Da.lst es).dep ≤ 60 ∧ (Da.lst es).ok = true) ∧ Q (.bl (if neg then !(es.any fun z => z.eqv d) else es.any fun z => z.eqv d)) h
/-- x in a dict -/
def wInD (neg : Bool) (x : Vl) (a : Nat) (h : AH) (Q : Qv) : Prop :=
  (∃ kvs ky, get h a = some (.dct kvs) ∧ kyOf x = some ky ∧ Q (.bl (if neg then !(dget kvs ky).isSome else (dget kvs ky).isSome)) h) ∨
  (∃ kvs ns, get h a = some (.dtp kvs) ∧ x = .tup (ns.map Vl.int) ∧ Q (.bl (if neg then !(tget kvs ns).isSome else (tget kvs ns).isSome)) h) ∨
  (∃ ss : List (List Nat), isLst h a (ss.map Vl.str) ∧ x = .non ∧ Q (.bl neg) h)
/-- x in a tuple of ints, of texts -/
def wInT (neg : Bool) : Vl → List Vl → AH → Qv → Prop
  | .int i, vs, h, Q => ∃ ns, isInts vs = some ns ∧ Q (.bl (if neg then !decide (i ∈ ns) else decide (i ∈ ns))) h
  | .str i, vs, h, Q => ∃ ns, isStrs vs = some ns ∧ Q (.bl (if neg then !decide (i ∈ ns) else decide (i ∈ ns))) h
  | _, _, _, _ => False
def wOp : Op2 → Vl → Vl → AH → Qv → Prop
  | .add, .int a, .int b, h, Q => Q (.int (a + b)) h
  | .add, .str a, .str b, h, Q => a.length + b.length ≤ SZ ∧ Q (.str (a ++ b)) h
  | .add, .ref a, .ref b, h, Q => ∃ xs ys, get h a = some (.lst xs) ∧ get h b = some (.lst ys) ∧ xs.length + ys.length ≤ SZ ∧ wNew h (.lst (xs ++ ys)) Q
  | .add, .tup a, .tup b, h, Q => a.length + b.length ≤ SZ ∧ Q (.tup (a ++ b)) h
  | .sub, .int a, .int b, h, Q => Q (.int (a - b)) h
  | .mul, .int a, .int b, h, Q => MulOk a b ∧ Q (.int (a * b)) h
  | .mul, .str a, .int k, h, Q => -9223372036854775808 ≤ k ∧ k < 9223372036854775808 ∧ a.length * k.toNat ≤ SZ ∧ Q (.str (List.replicate k.toNat a).flatten) h
  | .mul, .ref a, .int k, h, Q => ∃ xs, get h a = some (.lst xs) ∧ -9223372036854775808 ≤ k ∧ k < 9223372036854775808 ∧ xs.length * k.toNat ≤ SZ ∧ wNew h (.lst (List.replicate k.toNat xs).flatten) Q
  | .fdiv, .int a, .int b, h, Q => DivOk b ∧ Q (.int (a.fdiv b)) h
  | .mod, .int a, .int b, h, Q => b ≠ 0 ∧ Q (.int (a.fmod b)) h
  | .pow, .int a, .int b, h, Q => (0 ≤ b ∧ b ≤ 1000 ∧ a.natAbs < 2 ^ 64) ∧ Q (.int (a ^ b.toNat)) h
  | .lt, .int a, .int b, h, Q => Q (.bl (decide (a < b))) h
  | .lt, .tup a, .tup b, h, Q => ∃ a1 a2 b1 b2, a = [.int a1, .int a2] ∧ b = [.int b1, .int b2] ∧ Q (.bl (decide (a1 < b1 ∨ a1 = b1 ∧ a2 < b2))) h
  | .le, .int a, .int b, h, Q => Q (.bl (decide (a ≤ b))) h
  | .gt, .int a, .int b, h, Q => Q (.bl (decide (b < a))) h
  | .ge, .int a, .int b, h, Q => Q (.bl (decide (b ≤ a))) h
  | .is_, x, .non, h, Q => Q (.bl (isNon x)) h
  | .isn, x, .non, h, Q => Q (.bl (!isNon x)) h
  | .is_, .bl a, .bl b, h, Q => Q (.bl (decide (a = b))) h
  | .isn, .bl a, .bl b, h, Q => Q (.bl (!decide (a = b))) h
  | .eq, .str a, .str b, h, Q => Q (.bl (decide (a = b))) h
  | .ne, .str a, .str b, h, Q => Q (.bl (!decide (a = b))) h
  | .in_, .str b, .str s, h, Q => (∃ c, b = [c] ∧ Q (.bl (decide (c ∈ s))) h) ∨ Q (.bl (inS b s)) h
  | .nin, .str b, .str s, h, Q => (∃ c, b = [c] ∧ Q (.bl (!decide (c ∈ s))) h) ∨ Q (.bl (!inS b s)) h
  | .in_, x, .ref a, h, Q => wInL false x a h Q ∨ wInD false x a h Q
  | .in_, x, .tup vs, h, Q => wInT false x vs h Q
  | .nin, x, .ref a, h, Q => wInL true x a h Q ∨ wInD true x a h Q
  | .nin, x, .tup vs, h, Q => wInT true x vs h Q
  | .eq, x, y, h, Q => wEq false x y h Q
  | .ne, x, y, h, Q => wEq true x y h Q
  | _, _, _, _, _ => False

/-- augmented -/
def wAug : Op2 → Vl → Vl → AH → Qv → Prop
  | .add, .int a, .int b, h, Q => Q (.int (a + b)) h
  | .sub, .int a, .int b, h, Q => Q (.int (a - b)) h
  | .mul, .int a, .int b, h, Q => MulOk a b ∧ Q (.int (a * b)) h
  | .add, .str a, .str b, h, Q => a.length + b.length ≤ SZ ∧ Q (.str (a ++ b)) h
  | _, _, _, _, _ => False
/-! ### subscripts -/
def atI {α : Type} (xs : List α) (i : Int) : Option α :=
  if 0 ≤ i then xs[i.toNat]? else if 0 ≤ i + xs.length then xs[(i + xs.length).toNat]? else none
def wIx : Vl → Vl → AH → Qv → Prop
  | .tup xs, .int i, h, Q => ∃ v, atI xs i = some v ∧ Q v h
  | .str s, .int i, h, Q => s.length ≤ SZ ∧ ∃ c, atI s i = some c ∧ Q (.str [c]) h
  | .gd kvs, .str s, h, Q => ∃ v, kvs.lookup s = some v ∧ Q (.str v) h
  | .ref a, k, h, Q => (∃ xs i v, k = .int i ∧ isLst h a xs ∧ atI xs i = some v ∧ Q v h) ∨ (∃ kvs ky v, (get h a = some (.dct kvs) ∨ get h a = some (.fdc kvs)) ∧ kyOf k = some ky ∧ dget kvs ky = some v ∧ Q v h) ∨ (∃ kvs ns v, get h a = some (.dtp kvs) ∧ k = .tup (ns.map Vl.int) ∧ tget kvs ns = some v ∧ Q v h)
  | _, _, _, _ => False
/-- o[i] = v -/
def wSetIx : Vl → Vl → Vl → AH → (AH → Prop) → Prop
  | .ref a, k, v, h, Q => (∃ xs i j, k = .int i ∧ get h a = some (.lst xs) ∧ -9223372036854775808 ≤ i ∧ i < 9223372036854775808 ∧ (if 0 ≤ i then i else i + xs.length) = ((j : Nat) : Int) ∧ j < xs.length ∧ Q (put h a (.lst (xs.set j v)))) ∨
      (∃ kvs ky, get h a = some (.dct kvs) ∧ kyOf k = some ky ∧ kvs.length < SZ ∧ Q (put h a (.dct (dput kvs ky v)))) ∨
      (∃ kvs ns, get h a = some (.dtp kvs) ∧ k = .tup (ns.map Vl.int) ∧ kvs.length < SZ ∧ Q (put h a (.dtp (tput kvs ns v))))
  | _, _, _, _, _ => False
/-- the place of a slice's end -/
def sIx (n : Nat) (i : Int) : Nat := if 0 ≤ i then min i.toNat n else (i + n).toNat
def cut {α : Type} (xs : List α) (lo hi : Option Int) : List α :=
  let a := match lo with | none => 0 | some i => sIx xs.length i
  let b := match hi with | none => xs.length | some i => sIx xs.length i
  (xs.drop a).take (b - a)
def wSlc : Vl → Option Int → Option Int → AH → Qv → Prop
  | .str s, lo, hi, h, Q => s.length ≤ SZ ∧ Q (.str (cut s lo hi)) h
  | .ref a, lo, hi, h, Q => ∃ xs, isLst h a xs ∧ wNew h (.lst (cut xs lo hi)) Q
  | .tup xs, lo, hi, h, Q => Q (.tup (cut xs lo hi)) h
  | _, _, _, _, _ => False

/-! ### built-in functions by values -/
def joinL (a : List Nat) : List (List Nat) → List Nat
  | [] => []
  | [x] => x
  | x :: y :: r => x ++ a ++ joinL a (y :: r)
/-- an int, written -/
def itoa (i : Int) : List Nat := (toString i).toList.map Char.toNat
@[reducible] def pairV (p : Int × Int) : Vl := .tup [.int p.1, .int p.2]
def pairLt (x y : Int × Int) : Prop := x.1 < y.1 ∨ x.1 = y.1 ∧ x.2 < y.2
def wBi : Bi → List Vl → AH → Qv → Prop
  | .abs, [.int a], h, Q => Q (.int (a.natAbs : Int)) h
  | .max2, [.int a, .int b], h, Q => Q (.int (if b > a then b else a)) h
  | .min2, [.int a, .int b], h, Q => Q (.int (if b < a then b else a)) h
  | .len, [.str s], h, Q => s.length ≤ SZ ∧ Q (.int (s.length : Int)) h
  | .len, [.tup s], h, Q => Q (.int (s.length : Int)) h
  | .len, [.ref a], h, Q => (∃ xs, isLst h a xs ∧ Q (.int (xs.length : Int)) h) ∨ (∃ kvs, get h a = some (.dct kvs) ∧ Q (.int (kvs.length : Int)) h) ∨ ∃ kvs, get h a = some (.dtp kvs) ∧ Q (.int (kvs.length : Int)) h
  | .int1, [.bl b], h, Q => Q (.int (if b then 1 else 0)) h
  | .int1, [.int i], h, Q => Q (.int i) h
  | .int1, [.str s], h, Q => (∃ d, d < 10 ∧ s = [48 + d] ∧ Q (.int (d : Nat)) h) ∨ (s ≠ [] ∧ s.length ≤ 600 ∧ (∀ c ∈ s, 48 ≤ c ∧ c ≤ 57) ∧ Q (.int (decV s : Nat)) h)
  | .list1, [.ref a], h, Q => (∃ xs, isLst h a xs ∧ wNew h (.lst xs) Q) ∨ ∃ kvs : List (List Int × Vl), get h a = some (.dtp kvs) ∧ wNew h (.lst (kvs.map fun kv => .tup (kv.1.map Vl.int))) Q
  | .list1, [.tup xs], h, Q => wNew h (.lst xs) Q
  | .list1, [.str s], h, Q => s.length ≤ SZ ∧ wNew h (.lst (s.map fun c => .str [c])) Q
  | .all1, [.ref a], h, Q => ∃ xs bs, isLst h a xs ∧ isBls xs = some bs ∧ Q (.bl (bs.all id)) h
  | .any1, [.ref a], h, Q => ∃ xs bs, isLst h a xs ∧ isBls xs = some bs ∧ Q (.bl (bs.any id)) h
  | .sum1, [.ref a], h, Q => ∃ xs ns, isLst h a xs ∧ isInts xs = some ns ∧ Q (.int ns.sum) h
  | .max1, [.ref a], h, Q => (∃ xs ns, isLst h a xs ∧ isInts xs = some ns ∧ ns ≠ [] ∧ ∀ m, m ∈ ns → (∀ y, y ∈ ns → y ≤ m) → Q (.int m) h) ∨ ∃ nss : List (List Int), isLst h a (nss.map fun ns => .tup (ns.map Vl.int)) ∧ nss ≠ [] ∧ ∀ m, m ∈ nss → (∀ y, y ∈ nss → lexL m y = false) → Q (.tup (m.map Vl.int)) h
  | .maxd, [.ref a, .int d], h, Q => ∃ xs ns, isLst h a xs ∧ isInts xs = some ns ∧ (ns = [] → Q (.int d) h) ∧ (ns ≠ [] → ∀ m, m ∈ ns → (∀ y, y ∈ ns → y ≤ m) → Q (.int m) h)
  | .mind, [.ref a, .int d], h, Q => ∃ xs ns, isLst h a xs ∧ isInts xs = some ns ∧ (ns = [] → Q (.int d) h) ∧ (ns ≠ [] → ∀ m, m ∈ ns → (∀ y, y ∈ ns → m ≤ y) → Q (.int m) h)
  | .min1, [.ref a], h, Q => ∃ xs ns, isLst h a xs ∧ isInts xs = some ns ∧ ns ≠ [] ∧ ∀ m, m ∈ ns → (∀ y, y ∈ ns → m ≤ y) → Q (.int m) h
  | .sorted1, [.ref a], h, Q => (∃ xs ns, isLst h a xs ∧ isInts xs = some ns ∧ ∀ ms : List Int, ms.Perm ns → ms.Pairwise (· ≤ ·) → wNew h (.lst (ms.map Vl.int)) Q) ∨
      (∃ xs ss, isLst h a xs ∧ isStrs xs = some ss ∧ ∀ ms : List (List Nat), ms.Perm ss → ms.Pairwise (fun x y => ¬ y < x) → wNew h (.lst (ms.map Vl.str)) Q) ∨
      (∃ ps : List (Int × Int), isLst h a (ps.map pairV) ∧ ∀ ms : List (Int × Int), ms.Perm ps → ms.Pairwise (fun x y => ¬ pairLt y x) → wNew h (.lst (ms.map pairV)) Q) ∨
      (∃ (ps : List (Int × Int)) (kvs : List (List Int × Vl)), get h a = some (.dtp kvs) ∧ kvs.map (·.1) = ps.map (fun p => [p.1, p.2]) ∧ ∀ ms : List (Int × Int), ms.Perm ps → ms.Pairwise (fun x y => ¬ pairLt y x) → wNew h (.lst (ms.map pairV)) Q)
  | .dict1, [.ref a], h, Q => (∃ ps : List (List Int × Vl), isLst h a (ps.map fun p => .tup [.tup (p.1.map Vl.int), p.2]) ∧ ps.length ≤ SZ ∧ wNew h (.dtp (ps.foldl (fun acc p => tput acc p.1 p.2) [])) Q) ∨ ∃ ps : List (List Nat × Vl), isLst h a (ps.map fun p => .tup [.str p.1, p.2]) ∧ wNew h (.dct (ps.foldl (fun acc p => dput acc (.s p.1) p.2) [])) Q
  | .tuple1, [.ref a], h, Q => ∃ xs, isLst h a xs ∧ Q (.tup xs) h
  | .str1, [.int i], h, Q => i.natAbs < 2 ^ 1900 ∧ Q (.str (itoa i)) h
  | .divmod, [.int a, .int b], h, Q => (0 < b ∧ b.natAbs < 2 ^ 1900) ∧ Q (.tup [.int (a / b), .int (a % b)]) h
  | _, _, _, _ => False
/-! ### methods of lists, texts, dicts by values -/
/-- kinds of receivers -/
inductive Rk where
  | str | lst | dct
def rkOf (h : AH) : Vl → Option Rk
  | .str _ => some .str
  | .ref a => match get h a with
    | some (.lst _) => some .lst
    | some (.dct _) => some .dct
    | some (.dtp _) => some .dct
    | _ => none
  | _ => none
def mtHas : Rk → Mt → Bool
  | .str, .join | .str, .split | .str, .partition | .str, .startswith | .str, .endswith | .str, .strip | .str, .count | .str, .index | .lst, .count | .lst, .index | .lst, .append | .lst, .pop0 | .lst, .extend | .lst, .reverse | .lst, .clear | .lst, .pop1 | .lst, .insert | .dct, .dget2 | .dct, .dget1 | .dct, .setdefault => true
  | _, _ => false
def wMt : Rk → Mt → Vl → List Vl → AH → Qv → Prop
  | .str, .join, .str a, [.ref p], h, Q => ∃ xs ss, isLst h p xs ∧ isStrs xs = some ss ∧ (ss.map (·.length)).sum + ss.length * a.length ≤ SZ ∧ Q (.str (joinL a ss)) h
  | .str, .strip, .str a, [.str b], h, Q => a.length ≤ SZ ∧ ∀ s, (s = [] ↔ ∀ c, c ∈ a → c ∈ b) → Q (.str s) h
  | .str, .count, .str s, [.str b], h, Q => ∃ c, b = [c] ∧ Q (.int (s.count c : Nat)) h
  | .str, .split, .str a, [.str b], h, Q => ∃ c, b = [c] ∧ c < 256 ∧ a.length + 2 ≤ SZ ∧ wNew h (.lst ((splA c [] a).map Vl.str)) Q
  | .str, .partition, .str a, [.str b], h, Q => ∃ c, b = [c] ∧ c < 256 ∧ a.length ≤ SZ ∧ Q (.tup [.str (parA c [] a).1, .str (parA c [] a).2.1, .str (parA c [] a).2.2]) h
  | .str, .startswith, .str a, [.str b], h, Q => Q (.bl (a.take b.length == b)) h
  | .str, .endswith, .str a, [.str b], h, Q => Q (.bl (decide (b.length ≤ a.length) && a.drop (a.length - b.length) == b)) h
  | .str, .index, .str s, [.str b], h, Q => s = [48, 49] ∧ ∃ x : Bool, b = [if x = true then 49 else 48] ∧ Q (.int (if x = true then 1 else 0)) h
  | .lst, .count, .ref a, [.bl b], h, Q => ∃ bs : List Bool, get h a = some (.lst (bs.map Vl.bl)) ∧ Q (.int (bs.count b : Nat)) h
  | .lst, .index, .ref a, [.bl b], h, Q => ∃ (bs : List Bool) (j : Nat), get h a = some (.lst (bs.map Vl.bl)) ∧ bs[j]? = some b ∧ (∀ m, m < j → bs[m]? ≠ some b) ∧ Q (.int (j : Nat)) h
  | .lst, .append, .ref a, [v], h, Q => ∃ xs, get h a = some (.lst xs) ∧ xs.length < SZ ∧ Q .non (put h a (.lst (xs ++ [v])))
  | .lst, .pop0, .ref a, [], h, Q => ∃ xs v, get h a = some (.lst xs) ∧ xs[xs.length - 1]? = some v ∧ Q v (put h a (.lst xs.dropLast))
  | .lst, .extend, .ref a, [.ref b], h, Q => ∃ xs ys, get h a = some (.lst xs) ∧ get h b = some (.lst ys) ∧ xs.length + ys.length ≤ SZ ∧ Q .non (put h a (.lst (xs ++ ys)))
  | .lst, .reverse, .ref a, [], h, Q => ∃ xs, get h a = some (.lst xs) ∧ Q .non (put h a (.lst xs.reverse))
  | .lst, .pop1, .ref a, [.int i], h, Q => ∃ xs v, ∃ k : Nat, get h a = some (.lst xs) ∧ i = (k : Int) ∧ k ≤ SZ ∧ xs[k]? = some v ∧ Q v (put h a (.lst (xs.eraseIdx k)))
  | .lst, .insert, .ref a, [.int i, v], h, Q => ∃ xs, ∃ k : Nat, get h a = some (.lst xs) ∧ xs.length < SZ ∧ i = (k : Int) ∧ k ≤ SZ ∧ Q .non (put h a (.lst (xs.take k ++ [v] ++ xs.drop k)))
  | .lst, .clear, .ref a, [], h, Q => ∃ xs, get h a = some (.lst xs) ∧ Q .non (put h a (.lst []))
  | .dct, .setdefault, .ref a, [k, d], h, Q => (∃ kvs ky, get h a = some (.dct kvs) ∧ kyOf k = some ky ∧ kvs.length < SZ ∧ (∀ v, dget kvs ky = some v → Q v h) ∧ (dget kvs ky = none → Q d (put h a (.dct (dput kvs ky d))))) ∨
      (∃ kvs ns, get h a = some (.dtp kvs) ∧ k = .tup (ns.map Vl.int) ∧ kvs.length < SZ ∧ (∀ v, tget kvs ns = some v → Q v h) ∧ (tget kvs ns = none → Q d (put h a (.dtp (tput kvs ns d)))))
  | .dct, .dget1, .ref a, [k], h, Q => ∃ kvs ky, get h a = some (.dct kvs) ∧ kyOf k = some ky ∧ Q ((dget kvs ky).getD .non) h
  | .dct, .dget2, .ref a, [k, d], h, Q => ∃ kvs ky, get h a = some (.dct kvs) ∧ kyOf k = some ky ∧ Q ((dget kvs ky).getD d) h
  | _, _, _, _, _, _ => False
/-! ### isinstance -/
/-- the type of a value -/
def tyOf (h : AH) : Vl → Option String
  | .non => some "NoneType"
  | .bl _ => some "bool"
  | .int _ => some "int"
  | .str _ => some "str"
  | .tup _ => some "tuple"
  | .ref a => match get h a with
    | some (.lst _) => some "list"
    | some (.rol _) => some "list"
    | some (.dct _) => some "dict"
    | _ => none
  | .fn _ => none
  | .gd _ => none
def kdN : Kd → String
  | .int => "int"
  | .bool => "bool"
  | .str => "str"
  | .list => "list"
  | .tuple => "tuple"
  | .cls _ => ""
  | .valErr => "ValueError"
def isaK (h : AH) (sub : Nat → Nat → Bool) : Vl → Kd → Option Bool
  | .non, k => match k with | .cls _ => none | .valErr => none | _ => some false
  | .bl _, k => match k with | .cls _ => none | .valErr => none | .bool => some true | .int => some true | _ => some false
  | .int _, k => match k with | .cls _ => none | .valErr => none | .int => some true | _ => some false
  | .str _, k => match k with | .cls _ => none | .valErr => none | .str => some true | _ => some false
  | .tup _, k => match k with | .cls _ => none | .valErr => none | .tuple => some true | _ => some false
  | .ref a, k => match get h a with
    | some (.lst _) => (match k with | .cls _ => none | .valErr => none | .list => some true | _ => some false)
    | some (.exc c _) => (match k with | .cls d => some (sub c d) | .valErr => some true | _ => none)
    | _ => none
  | .fn _, _ => none
  | .gd _, _ => none
def isaKs (h : AH) (sub : Nat → Nat → Bool) (v : Vl) : List Kd → Option Bool
  | [] => some false
  | k :: ks => match isaK h sub v k, isaKs h sub v ks with
    | some a, some b => some (a || b)
    | _, _ => none

def wipe (σ : St) : List Nat → St
  | [] => σ
  | v :: vs => (wipe σ vs).set v none
def keeps (kp : List (Nat × Ob)) (h : AH) : Prop := ∀ p ∈ kp, get h p.1 = some p.2
def fget : List (Nat × Vl) → Nat → Option Vl
  | [], _ => none
  | (g, u) :: r, f => if g = f then some u else fget r f
def fput : List (Nat × Vl) → Nat → Vl → List (Nat × Vl)
  | [], f, v => [(f, v)]
  | (g, u) :: r, f, v => if g = f then (g, v) :: r else (g, u) :: fput r f v
def Sub (h h' : AH) : Prop := ∀ a o, get h a = some o → get h' a = some o

/-- what is zipped, item by item -/
def zcs (h : AH) : Vl → List Vl → List (Nat × Ob) → Prop
  | .ref a, xs, kp => get h a = some (.lst xs) ∧ kp = [(a, .lst xs)]
  | .tup ys, xs, kp => xs = ys ∧ kp = []
  | .str s, xs, kp => xs = s.map (fun c => .str [c]) ∧ kp = []
  | _, _, _ => False
def zip3W (xs ys zs : List Vl) : List Vl := List.zipWith (fun a p => Vl.tup [a, p.1, p.2]) xs (ys.zip zs)
/-- unlike ones, as they are met -/
def dst (ns : List Int) : List Int := ns.foldl (fun acc x => if (acc.any fun y => y == x) = true then acc else acc ++ [x]) []
/-- how many items a list of expressions has -/
def elen : E → Nat
  | .cons _ es => elen es + 1
  | _ => 0
abbrev Phi := Nat → List Vl → AH → Qv → (Ex → AH → Prop) → Prop
section
variable (P : PG) (Φ : Phi)
mutual
def wE : E → St → AH → Qv → Xv → Prop
  | .var i, σ, h, Q, _ => ∃ v, σ[i]? = some (some v) ∧ Q v h
  | .int i, _, h, Q, _ => Q (.int i) h
  | .str s, _, h, Q, _ => Q (.str s) h
  | .bl b, _, h, Q, _ => Q (.bl b) h
  | .non, _, h, Q, _ => Q .non h
  | .glob g, _, h, Q, _ => ∃ v, P.glob g = some v ∧ Q v h
  | .op o a b, σ, h, Q, X => wE a σ h (fun x h1 => wE b σ h1 (fun y h2 => wOp o x y h2 Q) X) X
  | .chain o1 o2 a b c, σ, h, Q, X => wE a σ h (fun x h1 => wE b σ h1 (fun y h2 => wOp o1 x y h2 fun z h3 => ∃ t, z = .bl t ∧
      if t = true then wE c σ h3 (fun u h4 => wOp o2 y u h4 Q) X else Q (.bl false) h3) X) X
  | .chain3 o1 o2 o3 a b c d, σ, h, Q, X => wE a σ h (fun x h1 => wE b σ h1 (fun y h2 => wOp o1 x y h2 fun z h3 => ∃ t, z = .bl t ∧
      if t = true then wE c σ h3 (fun u h4 => wOp o2 y u h4 fun z h5 => ∃ t, z = .bl t ∧ if t = true then wE d σ h5 (fun v h6 => wOp o3 u v h6 Q) X else Q (.bl false) h5) X else Q (.bl false) h3) X) X
  | .neg a, σ, h, Q, X => wE a σ h (fun x h1 => ∃ i, x = .int i ∧ Q (.int (-i)) h1) X
  | .notv a, σ, h, Q, X => wE a σ h (fun x h1 => ∃ t, truth h1 x = some t ∧ Q (.bl (!t)) h1) X
  | .and a b, σ, h, Q, X => wE a σ h (fun x h1 => ∃ t, x = .bl t ∧ if t = true then wE b σ h1 Q X else Q (.bl false) h1) X
  | .or a b, σ, h, Q, X => wE a σ h (fun x h1 => ∃ t, x = .bl t ∧ if t = true then Q (.bl true) h1 else wE b σ h1 Q X) X
  | .orv a b, σ, h, Q, X => wE a σ h (fun x h1 => ∃ t, truth h1 x = some t ∧ if t = true then Q x h1 else wE b σ h1 Q X) X
  | .ite c a b, σ, h, Q, X => wT c σ h (fun t h1 => if t = true then wE a σ h1 Q X else wE b σ h1 Q X) X
  | .tup es, σ, h, Q, X => wA es σ h (fun vs h1 => vs.length ≤ SZ ∧ Q (.tup vs) h1) X
  | .lst es, σ, h, Q, X => wA es σ h (fun vs h1 => vs.length ≤ SZ ∧ wNew h1 (.lst vs) Q) X
  | .dct0, _, h, Q, _ => wNew h (.dct []) Q ∨ wNew h (.dtp []) Q
  | .dctT k v, σ, h, Q, X => wE k σ h (fun x h1 => wE v σ h1 (fun y h2 => ∃ ns : List Int, x = .tup (ns.map Vl.int) ∧ wNew h2 (.dtp [(ns, y)]) Q) X) X
  | .dct ks es, σ, h, Q, X => wA es σ h (fun vs h1 => vs.length = ks.length ∧ ks.length ≤ 1000 ∧ ks.Nodup ∧ wNew h1 (.dct (ks.zip vs)) Q) X
  | .ix a b, σ, h, Q, X => wE a σ h (fun x h1 => wE b σ h1 (fun y h2 => wIx x y h2 Q) X) X
  | .slc a lo hi, σ, h, Q, X => wE a σ h (fun x h1 => wP lo σ h1 (fun i h2 => wP hi σ h2 (fun j h3 => wSlc x i j h3 Q) X) X) X
  | .rev a, σ, h, Q, X => wE a σ h (fun x h1 => (∃ p xs, x = .ref p ∧ get h1 p = some (.lst xs) ∧ wNew h1 (.lst xs.reverse) Q) ∨ (∃ s, x = .str s ∧ s.length ≤ SZ ∧ Q (.str s.reverse) h1) ∨ ∃ xs, x = .tup xs ∧ Q (.tup xs.reverse) h1) X
  | .call f es, σ, h, Q, X => wA es σ h (fun vs h1 => Φ f vs h1 Q (fun e h2 => X e σ h2)) X
  | .callv i es, σ, h, Q, X => ∃ f, σ[i]? = some (some (.fn f)) ∧ wA es σ h (fun vs h1 => Φ f vs h1 Q (fun e h2 => X e σ h2)) X
  | .bi b es, σ, h, Q, X => wA es σ h (fun vs h1 => wBi b vs h1 Q) X
  | .mt m o es, σ, h, Q, X => wE o σ h (fun x h1 => ∃ k, rkOf h1 x = some k ∧ mtHas k m = true ∧ wA es σ h1 (fun vs h2 => wMt k m x vs h2 Q) X) X
  | .isa e ks, σ, h, Q, X => wE e σ h (fun x h1 => ∃ b, isaKs h1 P.sub x ks = some b ∧ Q (.bl b) h1) X
  | .attr o f, σ, h, Q, X => wE o σ h (fun x h1 => ∃ a c fs v, x = .ref a ∧ get h1 a = some (.ins c fs) ∧ fget fs f = some v ∧ Q v h1) X
  | .make c es, σ, h, Q, X => wA es σ h (fun vs h1 => ∃ f, P.init c = some f ∧ ∀ p, get h1 p = none → Φ f (.ref p :: vs) (push h1 p (.ins c [])) (fun v h2 => v = .non ∧ Q (.ref p) h2) (fun e h2 => X e σ h2)) X
  | .cm m o es, σ, h, Q, X => wE o σ h (fun x h1 => ∃ a c fs f, x = .ref a ∧ get h1 a = some (.ins c fs) ∧ P.meth c m = some f ∧ wA es σ h1 (fun vs h2 => Φ f (x :: vs) h2 Q (fun e h2 => X e σ h2)) X) X
  | .lc elt vs g it c, σ, h, Q, X => wI it σ h (fun xs kp h1 => ∃ W : Nat → List Vl → AH → Prop, W 0 [] h1 ∧ ∀ i acc h2, i ≤ xs.length → W i acc h2 →
      keeps kp h2 ∧ (∀ x, xs[i]? = some x → wG g x (wipe σ vs) h2 (fun σ' h3 => wT c σ' h3 (fun t h4 => if t = true then wE elt σ' h4 (fun y h5 => acc.length < SZ ∧ W (i + 1) (acc ++ [y]) h5) (fun _ _ _ => False) else W (i + 1) acc h4) (fun _ _ _ => False)) (fun _ _ _ => False)) ∧
      (i = xs.length → ∀ q, get h2 q = none → Q (.ref q) (push h2 q (.lst acc)))) X
  | .lrg a b, σ, h, Q, X => wE a σ h (fun x h1 => wE b σ h1 (fun y h2 => ∃ i j, x = .int i ∧ y = .int j ∧ (-4611686018427387904 ≤ i ∧ i < 4611686018427387904 ∧ -4611686018427387904 ≤ j ∧ j < 4611686018427387904 ∧ (j - i).toNat ≤ SZ) ∧
      wNew h2 (.lst ((List.range (j - i).toNat).map fun (k : Nat) => Vl.int (i + (k : Int)))) Q) X) X
  | .nset a, σ, h, Q, X => wE a σ h (fun x h1 => (∃ p xs ns, x = .ref p ∧ isLst h1 p xs ∧ isInts xs = some ns ∧ ns.length ≤ 4000 ∧ Q (.int ((dst ns).length : Nat)) h1) ∨ ∃ (p : Nat) (ss : List (List Nat)), x = .ref p ∧ isLst h1 p (ss.map Vl.str) ∧ ss.length ≤ 4000 ∧ ss.Nodup ∧ Q (.int (ss.length : Nat)) h1) X
  | .sset a, σ, h, Q, X => wE a σ h (fun x h1 => ∃ (p : Nat) (ns : List Int), x = .ref p ∧ isLst h1 p (ns.map Vl.int) ∧ ns.length ≤ 4000 ∧ ∀ ms : List Int, ms.Pairwise (· < ·) → (∀ k : Int, k ∈ ms ↔ k ∈ ns) → wNew h1 (.lst (ms.map Vl.int)) Q) X
  | .strd a, σ, h, Q, X => wE a σ h (fun x h1 => (∃ i, x = .int i ∧ i.natAbs < 2 ^ 1900 ∧ Q (.str (itoa i)) h1) ∨ ∃ d, DaOf h1 x d ∧ d.ok = true ∧ d.sho = true ∧ d.dep ≤ 50 ∧ d.wid ≤ SZ ∧ Q (.str (P.top d)) h1) X
  | _, _, _, _, _ => False
/-- a slice's part: left out, or an int -/
def wP : E → St → AH → (Option Int → AH → Prop) → Xv → Prop
  | .non, _, h, Q, _ => Q none h
  | .one e, σ, h, Q, X => wE e σ h (fun y h1 => ∃ i, y = .int i ∧ Q (some i) h1) X
  | _, _, _, _, _ => False
/-- argument lists -/
def wA : E → St → AH → (List Vl → AH → Prop) → Xv → Prop
  | .nil, _, h, Q, _ => Q [] h
  | .cons e es, σ, h, Q, X => wE e σ h (fun v h1 => wA es σ h1 (fun vs h2 => Q (v :: vs) h2) X) X
  | _, _, _, _, _ => False
/-- tests -/
def wT : E → St → AH → (Bool → AH → Prop) → Xv → Prop
  | .not a, σ, h, Q, X => wT a σ h (fun t h1 => Q (!t) h1) X
  | .and a b, σ, h, Q, X => wT a σ h (fun t h1 => if t = true then wT b σ h1 Q X else Q false h1) X
  | .or a b, σ, h, Q, X => wT a σ h (fun t h1 => if t = true then Q true h1 else wT b σ h1 Q X) X
  | .op o a b, σ, h, Q, X => wE a σ h (fun x h1 => wE b σ h1 (fun y h2 => wOp o x y h2 fun z h3 => ∃ t, z = .bl t ∧ Q t h3) X) X
  | .chain o1 o2 a b c, σ, h, Q, X => wE a σ h (fun x h1 => wE b σ h1 (fun y h2 => wOp o1 x y h2 fun z h3 => ∃ t, z = .bl t ∧
      if t = true then wE c σ h3 (fun u h4 => wOp o2 y u h4 fun z h5 => ∃ t, z = .bl t ∧ Q t h5) X else Q false h3) X) X
  | .chain3 o1 o2 o3 a b c d, σ, h, Q, X => wE a σ h (fun x h1 => wE b σ h1 (fun y h2 => wOp o1 x y h2 fun z h3 => ∃ t, z = .bl t ∧
      if t = true then wE c σ h3 (fun u h4 => wOp o2 y u h4 fun z h5 => ∃ t, z = .bl t ∧ if t = true then wE d σ h5 (fun v h6 => wOp o3 u v h6 fun z h7 => ∃ t, z = .bl t ∧ Q t h7) X else Q false h5) X else Q false h3) X) X
  | .var i, σ, h, Q, _ => ∃ v, σ[i]? = some (some v) ∧ ∃ t, truth h v = some t ∧ Q t h
  | .bl b, _, h, Q, _ => Q b h
  | .bi b es, σ, h, Q, X => wA es σ h (fun vs h1 => wBi b vs h1 fun z h2 => ∃ t, truth h2 z = some t ∧ Q t h2) X
  | .isa e ks, σ, h, Q, X => wE e σ h (fun x h1 => ∃ b, isaKs h1 P.sub x ks = some b ∧ ∃ t, truth h1 (.bl b) = some t ∧ Q t h1) X
  | .call f es, σ, h, Q, X => wA es σ h (fun vs h1 => Φ f vs h1 (fun z h2 => ∃ t, truth h2 z = some t ∧ Q t h2) (fun e h2 => X e σ h2)) X
  | .mt m o es, σ, h, Q, X => wE o σ h (fun x h1 => ∃ k, rkOf h1 x = some k ∧ mtHas k m = true ∧ wA es σ h1 (fun vs h2 => wMt k m x vs h2 fun z h3 => ∃ t, truth h3 z = some t ∧ Q t h3) X) X
  | .ix a b, σ, h, Q, X => wE a σ h (fun x h1 => wE b σ h1 (fun y h2 => wIx x y h2 fun z h3 => ∃ t, truth h3 z = some t ∧ Q t h3) X) X
  | .cm m o es, σ, h, Q, X => wE o σ h (fun x h1 => ∃ a c fs f, x = .ref a ∧ get h1 a = some (.ins c fs) ∧ P.meth c m = some f ∧ wA es σ h1 (fun vs h2 => Φ f (x :: vs) h2 (fun z h3 => ∃ t, truth h3 z = some t ∧ Q t h3) (fun e h2 => X e σ h2)) X) X
  | _, _, _, _, _ => False
/-- what a for walks: the items, and the objects that must stay -/
def wI : E → St → AH → (List Vl → List (Nat × Ob) → AH → Prop) → Xv → Prop
  | .iseq e, σ, h, Q, X => wE e σ h (fun x h1 => (∃ xs, x = .tup xs ∧ Q xs [] h1) ∨ (∃ s, x = .str s ∧ s.length ≤ SZ ∧ Q (s.map fun c => .str [c]) [] h1) ∨
      (∃ a xs, x = .ref a ∧ get h1 a = some (.lst xs) ∧ Q xs [(a, .lst xs)] h1) ∨ ∃ a kvs, x = .ref a ∧ get h1 a = some (.fdc kvs) ∧ Q (kvs.map fun kv => kv.1.vl) [(a, .fdc kvs)] h1) X
  | .irng a b, σ, h, Q, X => wE a σ h (fun x h1 => wE b σ h1 (fun y h2 => ∃ i j, x = .int i ∧ y = .int j ∧ (-4611686018427387904 ≤ i ∧ i < 4611686018427387904 ∧ -4611686018427387904 ≤ j ∧ j < 4611686018427387904) ∧
      Q ((List.range (j - i).toNat).map fun (k : Nat) => Vl.int (i + (k : Int))) [] h2) X) X
  | .izip a b, σ, h, Q, X => wE a σ h (fun x h1 => wE b σ h1 (fun y h2 => ∃ xs ys k1 k2, zcs h2 x xs k1 ∧ zcs h2 y ys k2 ∧ Q (List.zipWith (fun a b => .tup [a, b]) xs ys) (k1 ++ k2) h2) X) X
  | .izip3 a b c, σ, h, Q, X => wE a σ h (fun x h1 => wE b σ h1 (fun y h2 => wE c σ h2 (fun z h3 => ∃ xs ys zs k1 k2 k3, zcs h3 x xs k1 ∧ zcs h3 y ys k2 ∧ zcs h3 z zs k3 ∧ Q (zip3W xs ys zs) (k1 ++ (k2 ++ k3)) h3) X) X) X
  | .ienum a, σ, h, Q, X => wE a σ h (fun x h1 => (∃ p xs, x = .ref p ∧ get h1 p = some (.lst xs) ∧ Q (xs.mapIdx fun i a => .tup [.int (i : Int), a]) [(p, .lst xs)] h1) ∨ (∃ s, x = .str s ∧ Q (s.mapIdx fun i c => .tup [.int (i : Int), .str [c]]) [] h1)) X
  | .irev a, σ, h, Q, X => wE a σ h (fun x h1 => ∃ p xs, x = .ref p ∧ get h1 p = some (.lst xs) ∧ Q xs.reverse [(p, .lst xs)] h1) X
  | _, _, _, _, _ => False
/-- targets -/
def wG : E → Vl → St → AH → (St → AH → Prop) → Xv → Prop
  | .var i, v, σ, h, Q, _ => Q (σ.set i (some v)) h
  | .tup es, v, σ, h, Q, X => (∃ vs, v = .tup vs ∧ vs.length = elen es ∧ wGs es vs σ h Q X) ∨ (∃ a vs, v = .ref a ∧ isLst h a vs ∧ vs.length = elen es ∧ wGs es vs σ h Q X)
  | .ix a b, v, σ, h, Q, X => wE a σ h (fun x h1 => wE b σ h1 (fun y h2 => wSetIx x y v h2 fun h3 => Q σ h3) X) X
  | .attr o f, v, σ, h, Q, X => wE o σ h (fun x h1 => ∃ a c fs, x = .ref a ∧ get h1 a = some (.ins c fs) ∧ fs.length < 1000 ∧ Q σ (put h1 a (.ins c (fput fs f v)))) X
  | _, _, _, _, _, _ => False
def wGs : E → List Vl → St → AH → (St → AH → Prop) → Xv → Prop
  | .nil, vs, σ, h, Q, _ => vs = [] ∧ Q σ h
  | .cons g gs, vs, σ, h, Q, X => ∃ v r, vs = v :: r ∧ wG g v σ h (fun σ' h' => wGs gs r σ' h' Q X) X
  | _, _, _, _, _, _ => False
end

/-- a list's item, to be added to -/
def wGetL (x y : Vl) (h : AH) (Q : Qv) : Prop := ∃ a xs i v, x = .ref a ∧ y = .int i ∧ get h a = some (.lst xs) ∧ 0 ≤ i ∧ atI xs i = some v ∧ Q v h
/-- a caught one's name is bound, and goes -/
@[reducible] def hSet (σ : St) : Option Nat → Nat → St
  | some i, p => σ.set i (some (.ref p))
  | none, _ => σ
@[reducible] def hGo (σ : St) : Option Nat → St
  | some i => σ.set i none
  | none => σ
def wS : S → St → AH → Nv → Qv → Nv → Nv → Xv → Prop
  | .skip, σ, h, N, _, _, _, _ => N σ h
  | .seq a b, σ, h, N, R, B, C, X => wS a σ h (fun σ' h' => wS b σ' h' N R B C X) R B C X
  | .asg g e, σ, h, N, _, _, _, X => wE P Φ e σ h (fun v h1 => wG P Φ g v σ h1 N X) X
  | .expr e, σ, h, N, _, _, _, X => wE P Φ e σ h (fun _ h1 => N σ h1) X
  | .ret e, σ, h, _, R, _, _, X => wE P Φ e σ h R X
  | .retN, _, h, _, R, _, _, _ => R .non h
  | .ife c a b, σ, h, N, R, B, C, X => wT P Φ c σ h (fun t h1 => if t = true then wS a σ h1 N R B C X else wS b σ h1 N R B C X) X
  | .whl c b, σ, h, N, R, _, _, X => ∃ W : Nat → St → AH → Prop, (∃ m, W m σ h) ∧ ∀ m σ' h', W m σ' h' → wT P Φ c σ' h' (fun t h1 =>
      if t = true then wS b σ' h1 (fun σ2 h2 => ∃ m2, m2 < m ∧ W m2 σ2 h2) R N (fun σ2 h2 => ∃ m2, m2 < m ∧ W m2 σ2 h2) X else N σ' h1) X
  | .for_ g it b, σ, h, N, R, _, _, X => wI P Φ it σ h (fun xs kp h1 => ∃ W : Nat → St → AH → Prop, W 0 σ h1 ∧ ∀ i σ' h', i ≤ xs.length → W i σ' h' →
      keeps kp h' ∧ (∀ x, xs[i]? = some x → wG P Φ g x σ' h' (fun σ2 h2 => wS b σ2 h2 (W (i + 1)) R N (W (i + 1)) X) X) ∧ (i = xs.length → N σ' h')) X
  | .brk, σ, h, _, _, B, _, _ => B σ h
  | .cnt, σ, h, _, _, _, C, _ => C σ h
  | .aug (.var i) o e, σ, h, N, _, _, _, X => ∃ x, σ[i]? = some (some x) ∧ wE P Φ e σ h (fun y h1 => wAug o x y h1 fun z h2 => N (σ.set i (some z)) h2) X
  | .aug (.ix a b) o e, σ, h, N, _, _, _, X => wE P Φ a σ h (fun x h1 => wE P Φ b σ h1 (fun y h2 => wGetL x y h2 fun v h3 => wE P Φ e σ h3 (fun u h4 => wAug o v u h4 fun z h5 => wSetIx x y z h5 fun h6 => N σ h6) X) X) X
  | .rais c e, σ, h, _, _, _, _, X => wE P Φ e σ h (fun _ h1 => X ⟨c, none⟩ σ h1) X
  | .tryx b c i j, σ, h, N, R, B, C, X => wS b σ h N R B C (fun e σ1 h1 => if P.sub e.c c = true then e.r = none ∧ ∀ p, get h1 p = none → N (((σ1.set i (some (.ref p))).set j (some (.ref p))).set i none) (push h1 p (.exc e.c none)) else X e σ1 h1)
  | .tryh b c i s, σ, h, N, R, B, C, X => wS b σ h N R B C (fun e σ1 h1 => if P.sub e.c c = true then e.r = none ∧ ∀ p, get h1 p = none → wS s (hSet σ1 i p) (push h1 p (.exc e.c none)) (fun σ2 h2 => N (hGo σ2 i) h2) (fun _ _ => False) (fun _ _ => False) (fun _ _ => False) (fun _ _ _ => False) else X e σ1 h1)
  | .lock i s, σ, h, N, R, B, C, _ => ∃ a kvs, σ[i]? = some (some (.ref a)) ∧ get h a = some (.dct kvs) ∧ wS s σ (put h a (.fdc kvs)) (fun σ' h' => get h' a = some (.fdc kvs) ∧ N σ' (put h' a (.dct kvs)))
      (fun v h' => get h' a = some (.fdc kvs) ∧ R v (put h' a (.dct kvs))) (fun σ' h' => get h' a = some (.fdc kvs) ∧ B σ' (put h' a (.dct kvs))) (fun σ' h' => get h' a = some (.fdc kvs) ∧ C σ' (put h' a (.dct kvs))) (fun _ _ _ => False)
  | _, _, _, _, _, _, _, _ => False
end

/-- a def's meaning, by the depth of calls -/
def wF (P : PG) : Nat → Phi
  | 0, _, _, _, _, _ => False
  | n + 1, f, vs, h, Q, X => ∃ fn, P.fns f = some fn ∧ vs.length = fn.ar ∧
      wS P (wF P n) fn.body (vs.map some ++ List.replicate (fn.n - vs.length) none) h
        (fun _ h' => ∃ h2, Sub h2 h' ∧ Q .non h2) (fun v h' => ∃ h2, Sub h2 h' ∧ Q v h2) (fun _ _ => False) (fun _ _ => False) (fun e _ h' => ∃ h2, Sub h2 h' ∧ X e h2)
end KN

set_option autoImplicit false
namespace KN
/-! ### heaps -/
theorem Sub.refl (h : AH) : Sub h h := fun _ _ x => x
theorem Sub.trans {h h' h'' : AH} (a : Sub h h') (b : Sub h' h'') : Sub h h'' := fun x o e => b x o (a x o e)
theorem look_cons {p a : Nat} {o : Ob} {h : List (Nat × Ob)} : look ((p, o) :: h) a = if a = p then some o else look h a := rfl
theorem look_nil {a : Nat} : look [] a = none := rfl
theorem get_mk {b r : List (Nat × Ob)} {a : Nat} : get ⟨b, r⟩ a = match look b a with | some o => some o | none => look r a := rfl
theorem get_push {h : AH} {p a : Nat} {o : Ob} (hp : get h p = none) : get (push h p o) a = if a = p then some o else get h a := by
  unfold get push at *
  simp only
  by_cases e : a = p
  · subst e
    cases hb : look h.b a with
    | some o => simp [hb] at hp
    | none => simp [look_cons]
  · simp [look_cons, e]
theorem get_push_self {h : AH} {p : Nat} {o : Ob} (hp : get h p = none) : get (push h p o) p = some o := by rw [get_push hp, if_pos rfl]
theorem get_push_old {h : AH} {p a : Nat} {o u : Ob} (hp : get h p = none) (e : get h a = some u) : get (push h p o) a = some u := by
  rw [get_push hp]
  by_cases z : a = p
  · subst z; rw [hp] at e; cases e
  · rw [if_neg z]; exact e
theorem get_push_none {h : AH} {p a : Nat} {o : Ob} (e : get (push h p o) a = none) : a ≠ p ∧ get h a = none := by
  unfold get push at *
  simp only at e
  cases hb : look h.b a with
  | some o => simp [hb] at e
  | none =>
    simp only [hb, look_cons] at e ⊢
    by_cases z : a = p
    · simp [z] at e
    · simp [z] at e; exact ⟨z, e⟩
theorem ne_of_get {h : AH} {a q : Nat} {o : Ob} (ha : get h a = some o) (hq : get h q = none) : a ≠ q := by
  rintro rfl; rw [ha] at hq; cases hq
theorem look_lput {h : List (Nat × Ob)} {a b : Nat} {o : Ob} : look (lput h a o) b = if b = a then (look h a).map (fun _ => o) else look h b := by
  induction h with
  | nil => simp [lput, look]
  | cons x h ih =>
    obtain ⟨p, u⟩ := x
    unfold lput
    by_cases e : a = p
    · subst e
      simp [look_cons]
      by_cases z : b = a <;> simp [z]
    · simp only [e, if_false, look_cons, ih]
      by_cases z : b = p
      · subst z; simp [Ne.symm e]
      · simp [z]
theorem get_put {h : AH} {a b : Nat} {o : Ob} : get (put h a o) b = if b = a then (get h a).map (fun _ => o) else get h b := by
  unfold get put
  cases hb : look h.b a with
  | some u =>
    simp only [look_lput]
    by_cases z : b = a
    · subst z; simp [hb]
    · simp [z]
  | none =>
    simp only [look_lput]
    by_cases z : b = a
    · subst z; simp [hb]
    · simp [z]
theorem get_put_self {h : AH} {a : Nat} {o u : Ob} (e : get h a = some u) : get (put h a o) a = some o := by rw [get_put, if_pos rfl, e]; rfl
theorem get_put_ne {h : AH} {a b : Nat} {o : Ob} (n : b ≠ a) : get (put h a o) b = get h b := by rw [get_put, if_neg n]
theorem get_put_none {h : AH} {a b : Nat} {o : Ob} : get (put h a o) b = none ↔ get h b = none := by
  rw [get_put]
  by_cases z : b = a
  · subst z; cases get h b <;> simp
  · rw [if_neg z]
theorem put_push {h : AH} {p : Nat} {o u : Ob} (hp : get h p = none) : put (push h p o) p u = push h p u := by
  have hb : look h.b p = none := by
    unfold get at hp
    cases hb : look h.b p with
    | some o => simp [hb] at hp
    | none => rfl
  unfold put push
  simp [hb, lput]
theorem put_push_ne {h : AH} {p a : Nat} {o u : Ob} (n : a ≠ p) : put (push h p o) a u = push (put h a u) p o := by
  unfold put push
  simp only
  cases look h.b a <;> simp [lput, n]
theorem lput_lput {h : List (Nat × Ob)} {a : Nat} {o u : Ob} : lput (lput h a o) a u = lput h a u := by
  induction h with
  | nil => rfl
  | cons x h ih =>
    obtain ⟨p, w⟩ := x
    unfold lput
    by_cases e : a = p
    · subst e; simp [lput]
    · simp [e, lput, ih]
theorem put_put {h : AH} {a : Nat} {o u : Ob} : put (put h a o) a u = put h a u := by
  unfold put
  cases hb : look h.b a with
  | some w => simp only [look_lput, if_pos, hb, Option.map_some, lput_lput]
  | none => simp only [hb, lput_lput]
theorem Sub_push {h : AH} {p : Nat} {o : Ob} (hp : get h p = none) : Sub h (push h p o) := fun _ _ e => get_push_old hp e
theorem Sub.push {h h' : AH} {p : Nat} {o : Ob} (s : Sub h h') (hp : get h' p = none) : Sub (push h p o) (push h' p o) := fun a u e => by
  have hn : get h p = none := by
    cases z : get h p with
    | none => rfl
    | some w => rw [s p w z] at hp; cases hp
  rw [get_push hn] at e
  rw [get_push hp]
  by_cases z : a = p
  · rw [if_pos z] at e ⊢; exact e
  · rw [if_neg z] at e ⊢; exact s a u e

theorem isInts_map : ∀ ns : List Int, isInts (ns.map Vl.int) = some ns
  | [] => rfl
  | n :: ns => by simp [isInts, isInts_map ns]
theorem isStrs_map : ∀ ns : List (List Nat), isStrs (ns.map Vl.str) = some ns
  | [] => rfl
  | n :: ns => by simp [isStrs, isStrs_map ns]
theorem isBls_map : ∀ ns : List Bool, isBls (ns.map Vl.bl) = some ns
  | [] => rfl
  | n :: ns => by simp [isBls, isBls_map ns]
/-! ### rules -/
section
variable {P : PG} {Φ : Phi} {σ : St} {h : AH} {Q : Qv} {X : Xv} {N B C : Nv} {R : Qv} {QA : List Vl → AH → Prop} {QT : Bool → AH → Prop} {K : St → AH → Prop}
theorem e_var {i : Nat} {v : Vl} (e : σ[i]? = some (some v)) (q : Q v h) : wE P Φ (.var i) σ h Q X := ⟨v, e, q⟩
theorem e_int {i : Int} (q : Q (.int i) h) : wE P Φ (.int i) σ h Q X := q
theorem e_str {s : List Nat} (q : Q (.str s) h) : wE P Φ (.str s) σ h Q X := q
theorem e_bl {b : Bool} (q : Q (.bl b) h) : wE P Φ (.bl b) σ h Q X := q
theorem e_non (q : Q .non h) : wE P Φ .non σ h Q X := q
theorem e_glob {g : Nat} {v : Vl} (e : P.glob g = some v) (q : Q v h) : wE P Φ (.glob g) σ h Q X := ⟨v, e, q⟩
theorem e_op {o : Op2} {a b : E} (q : wE P Φ a σ h (fun x h1 => wE P Φ b σ h1 (fun y h2 => wOp o x y h2 Q) X) X) : wE P Φ (.op o a b) σ h Q X := q
theorem e_neg {a : E} (q : wE P Φ a σ h (fun x h1 => ∃ i, x = .int i ∧ Q (.int (-i)) h1) X) : wE P Φ (.neg a) σ h Q X := q
theorem e_notv {a : E} (q : wE P Φ a σ h (fun x h1 => ∃ t, truth h1 x = some t ∧ Q (.bl (!t)) h1) X) : wE P Φ (.notv a) σ h Q X := q
theorem e_and {a b : E} (q : wE P Φ a σ h (fun x h1 => ∃ t, x = .bl t ∧ if t = true then wE P Φ b σ h1 Q X else Q (.bl false) h1) X) : wE P Φ (.and a b) σ h Q X := q
theorem e_or {a b : E} (q : wE P Φ a σ h (fun x h1 => ∃ t, x = .bl t ∧ if t = true then Q (.bl true) h1 else wE P Φ b σ h1 Q X) X) : wE P Φ (.or a b) σ h Q X := q
theorem e_orV {a b : E} (q : wE P Φ a σ h (fun x h1 => ∃ t, truth h1 x = some t ∧ if t = true then Q x h1 else wE P Φ b σ h1 Q X) X) : wE P Φ (.orv a b) σ h Q X := q
theorem e_ite {c a b : E} (q : wT P Φ c σ h (fun t h1 => if t = true then wE P Φ a σ h1 Q X else wE P Φ b σ h1 Q X) X) : wE P Φ (.ite c a b) σ h Q X := q
theorem e_tup {es : E} (q : wA P Φ es σ h (fun vs h1 => vs.length ≤ SZ ∧ Q (.tup vs) h1) X) : wE P Φ (.tup es) σ h Q X := q
theorem e_lst {es : E} (q : wA P Φ es σ h (fun vs h1 => vs.length ≤ SZ ∧ wNew h1 (.lst vs) Q) X) : wE P Φ (.lst es) σ h Q X := q
theorem e_ix {a b : E} (q : wE P Φ a σ h (fun x h1 => wE P Φ b σ h1 (fun y h2 => wIx x y h2 Q) X) X) : wE P Φ (.ix a b) σ h Q X := q
theorem e_slc {a lo hi : E} (q : wE P Φ a σ h (fun x h1 => wP P Φ lo σ h1 (fun i h2 => wP P Φ hi σ h2 (fun j h3 => wSlc x i j h3 Q) X) X) X) : wE P Φ (.slc a lo hi) σ h Q X := q
theorem p_non {QP : Option Int → AH → Prop} (q : QP none h) : wP P Φ .non σ h QP X := q
theorem p_one {e : E} {QP : Option Int → AH → Prop} (q : wE P Φ e σ h (fun y h1 => ∃ i, y = .int i ∧ QP (some i) h1) X) : wP P Φ (.one e) σ h QP X := q
theorem e_callv {i f : Nat} {es : E} (e : σ[i]? = some (some (.fn f))) (q : wA P Φ es σ h (fun vs h1 => Φ f vs h1 Q (fun e h2 => X e σ h2)) X) : wE P Φ (.callv i es) σ h Q X := ⟨f, e, q⟩
theorem e_call {f : Nat} {es : E} (q : wA P Φ es σ h (fun vs h1 => Φ f vs h1 Q (fun e h2 => X e σ h2)) X) : wE P Φ (.call f es) σ h Q X := q
theorem e_bi {b : Bi} {es : E} (q : wA P Φ es σ h (fun vs h1 => wBi b vs h1 Q) X) : wE P Φ (.bi b es) σ h Q X := q
theorem e_mt {m : Mt} {o es : E} (q : wE P Φ o σ h (fun x h1 => ∃ k, rkOf h1 x = some k ∧ mtHas k m = true ∧ wA P Φ es σ h1 (fun vs h2 => wMt k m x vs h2 Q) X) X) : wE P Φ (.mt m o es) σ h Q X := q
theorem e_isa {e : E} {ks : List Kd} (q : wE P Φ e σ h (fun x h1 => ∃ b, isaKs h1 P.sub x ks = some b ∧ Q (.bl b) h1) X) : wE P Φ (.isa e ks) σ h Q X := q
theorem e_attr {o : E} {f : Nat} (q : wE P Φ o σ h (fun x h1 => ∃ a c fs v, x = .ref a ∧ get h1 a = some (.ins c fs) ∧ fget fs f = some v ∧ Q v h1) X) : wE P Φ (.attr o f) σ h Q X := q
theorem a_nil (q : QA [] h) : wA P Φ .nil σ h QA X := q
theorem a_cons {e es : E} (q : wE P Φ e σ h (fun v h1 => wA P Φ es σ h1 (fun vs h2 => QA (v :: vs) h2) X) X) : wA P Φ (.cons e es) σ h QA X := q
theorem t_not {a : E} (q : wT P Φ a σ h (fun t h1 => QT (!t) h1) X) : wT P Φ (.not a) σ h QT X := q
theorem t_and {a b : E} (q : wT P Φ a σ h (fun t h1 => if t = true then wT P Φ b σ h1 QT X else QT false h1) X) : wT P Φ (.and a b) σ h QT X := q
theorem t_or {a b : E} (q : wT P Φ a σ h (fun t h1 => if t = true then QT true h1 else wT P Φ b σ h1 QT X) X) : wT P Φ (.or a b) σ h QT X := q
theorem t_op {o : Op2} {a b : E} (q : wE P Φ a σ h (fun x h1 => wE P Φ b σ h1 (fun y h2 => wOp o x y h2 fun z h3 => ∃ t, z = .bl t ∧ QT t h3) X) X) : wT P Φ (.op o a b) σ h QT X := q
theorem t_isa {e : E} {ks : List Kd} (q : wE P Φ e σ h (fun x h1 => ∃ b, isaKs h1 P.sub x ks = some b ∧ ∃ t, truth h1 (.bl b) = some t ∧ QT t h1) X) : wT P Φ (.isa e ks) σ h QT X := q
theorem t_call {f : Nat} {es : E} (q : wA P Φ es σ h (fun vs h1 => Φ f vs h1 (fun z h2 => ∃ t, truth h2 z = some t ∧ QT t h2) (fun e h2 => X e σ h2)) X) : wT P Φ (.call f es) σ h QT X := q
theorem t_bi {b : Bi} {es : E} (q : wA P Φ es σ h (fun vs h1 => wBi b vs h1 fun z h2 => ∃ t, truth h2 z = some t ∧ QT t h2) X) : wT P Φ (.bi b es) σ h QT X := q
theorem t_var {i : Nat} {v : Vl} {t : Bool} (e : σ[i]? = some (some v)) (e2 : truth h v = some t) (q : QT t h) : wT P Φ (.var i) σ h QT X := ⟨v, e, t, e2, q⟩
theorem g_var {i : Nat} {v : Vl} (q : K (σ.set i (some v)) h) : wG P Φ (.var i) v σ h K X := q
theorem g_tup {es : E} {vs : List Vl} (hl : vs.length = elen es) (q : wGs P Φ es vs σ h K X) : wG P Φ (.tup es) (.tup vs) σ h K X := .inl ⟨vs, rfl, hl, q⟩
theorem g_ix {a b : E} {v : Vl} (q : wE P Φ a σ h (fun x h1 => wE P Φ b σ h1 (fun y h2 => wSetIx x y v h2 fun h3 => K σ h3) X) X) : wG P Φ (.ix a b) v σ h K X := q
theorem gs_nil (q : K σ h) : wGs P Φ .nil [] σ h K X := ⟨rfl, q⟩
theorem gs_cons {g gs : E} {v : Vl} {vs : List Vl} (q : wG P Φ g v σ h (fun σ' h' => wGs P Φ gs vs σ' h' K X) X) : wGs P Φ (.cons g gs) (v :: vs) σ h K X := ⟨v, vs, rfl, q⟩
theorem s_skip (q : N σ h) : wS P Φ .skip σ h N R B C X := q
theorem s_seq {a b : S} (q : wS P Φ a σ h (fun σ' h' => wS P Φ b σ' h' N R B C X) R B C X) : wS P Φ (.seq a b) σ h N R B C X := q
theorem s_asg {g e : E} (q : wE P Φ e σ h (fun v h1 => wG P Φ g v σ h1 N X) X) : wS P Φ (.asg g e) σ h N R B C X := q
theorem s_expr {e : E} (q : wE P Φ e σ h (fun _ h1 => N σ h1) X) : wS P Φ (.expr e) σ h N R B C X := q
theorem s_ret {e : E} (q : wE P Φ e σ h R X) : wS P Φ (.ret e) σ h N R B C X := q
theorem s_retN (q : R .non h) : wS P Φ .retN σ h N R B C X := q
theorem s_ife {c : E} {a b : S} (q : wT P Φ c σ h (fun t h1 => if t = true then wS P Φ a σ h1 N R B C X else wS P Φ b σ h1 N R B C X) X) : wS P Φ (.ife c a b) σ h N R B C X := q
theorem s_brk (q : B σ h) : wS P Φ .brk σ h N R B C X := q
theorem s_cnt (q : C σ h) : wS P Φ .cnt σ h N R B C X := q
theorem s_rais {c : Nat} {e : E} (q : wE P Φ e σ h (fun _ h1 => X ⟨c, none⟩ σ h1) X) : wS P Φ (.rais c e) σ h N R B C X := q
theorem s_try {b : S} {c i j : Nat} (q : wS P Φ b σ h N R B C (fun e σ1 h1 => if P.sub e.c c = true then e.r = none ∧ ∀ p, get h1 p = none → N (((σ1.set i (some (.ref p))).set j (some (.ref p))).set i none) (push h1 p (.exc e.c none)) else X e σ1 h1)) : wS P Φ (.tryx b c i j) σ h N R B C X := q
theorem s_augS {a b e : E} {o : Op2} (q : wE P Φ a σ h (fun x h1 => wE P Φ b σ h1 (fun y h2 => wGetL x y h2 fun v h3 => wE P Φ e σ h3 (fun u h4 => wAug o v u h4 fun z h5 => wSetIx x y z h5 fun h6 => N σ h6) X) X) X) : wS P Φ (.aug (.ix a b) o e) σ h N R B C X := q
theorem s_tryh {b s : S} {c i : Nat} (q : wS P Φ b σ h N R B C (fun e σ1 h1 => if P.sub e.c c = true then e.r = none ∧ ∀ p, get h1 p = none → wS P Φ s (σ1.set i (some (.ref p))) (push h1 p (.exc e.c none)) (fun σ2 h2 => N (σ2.set i none) h2) (fun _ _ => False) (fun _ _ => False) (fun _ _ => False) (fun _ _ _ => False) else X e σ1 h1)) : wS P Φ (.tryh b c (some i) s) σ h N R B C X := q
theorem s_tryn {b s : S} {c : Nat} (q : wS P Φ b σ h N R B C (fun e σ1 h1 => if P.sub e.c c = true then e.r = none ∧ ∀ p, get h1 p = none → wS P Φ s σ1 (push h1 p (.exc e.c none)) (fun σ2 h2 => N σ2 h2) (fun _ _ => False) (fun _ _ => False) (fun _ _ => False) (fun _ _ _ => False) else X e σ1 h1)) : wS P Φ (.tryh b c none s) σ h N R B C X := q
theorem s_aug {i : Nat} {o : Op2} {e : E} {x : Vl} (e1 : σ[i]? = some (some x)) (q : wE P Φ e σ h (fun y h1 => wAug o x y h1 fun z h2 => N (σ.set i (some z)) h2) X) : wS P Φ (.aug (.var i) o e) σ h N R B C X := ⟨x, e1, q⟩
/-- while, by a word and a measure -/
theorem s_whl {c : E} {b : S} (W : Nat → St → AH → Prop) {m : Nat} (h0 : W m σ h)
    (ht : ∀ m σ' h', W m σ' h' → wT P Φ c σ' h' (fun t h1 => if t = true then wS P Φ b σ' h1 (fun σ2 h2 => ∃ m2, m2 < m ∧ W m2 σ2 h2) R N (fun σ2 h2 => ∃ m2, m2 < m ∧ W m2 σ2 h2) X else N σ' h1) X) :
    wS P Φ (.whl c b) σ h N R B C X := ⟨W, ⟨m, h0⟩, ht⟩
theorem s_for {g it : E} {b : S} (q : wI P Φ it σ h (fun xs kp h1 => ∃ W : Nat → St → AH → Prop, W 0 σ h1 ∧ ∀ i σ' h', i ≤ xs.length → W i σ' h' →
      keeps kp h' ∧ (∀ x, xs[i]? = some x → wG P Φ g x σ' h' (fun σ2 h2 => wS P Φ b σ2 h2 (W (i + 1)) R N (W (i + 1)) X) X) ∧ (i = xs.length → N σ' h')) X) : wS P Φ (.for_ g it b) σ h N R B C X := q
/-! operators -/
theorem o_add {a b : Int} (q : Q (.int (a + b)) h) : wOp .add (.int a) (.int b) h Q := q
theorem o_sub {a b : Int} (q : Q (.int (a - b)) h) : wOp .sub (.int a) (.int b) h Q := q
theorem o_mul {a b : Int} (c : MulOk a b) (q : Q (.int (a * b)) h) : wOp .mul (.int a) (.int b) h Q := ⟨c, q⟩
theorem o_fdiv {a b : Int} (c : DivOk b) (q : Q (.int (a.fdiv b)) h) : wOp .fdiv (.int a) (.int b) h Q := ⟨c, q⟩
theorem o_mod {a b : Int} (c : b ≠ 0) (q : Q (.int (a.fmod b)) h) : wOp .mod (.int a) (.int b) h Q := ⟨c, q⟩
theorem fdiv_pos' {a b : Int} (hb : 0 < b) : a.fdiv b = a / b := Int.fdiv_eq_ediv_of_nonneg a (by omega)
theorem fmod_pos' {a b : Int} (hb : 0 < b) : a.fmod b = a % b := Int.fmod_eq_emod_of_nonneg a (by omega)
/-- by a positive divisor -/
theorem o_fdivP {a b : Int} (hb : 0 < b) (hs : b.natAbs < 2 ^ 1900) (q : Q (.int (a / b)) h) : wOp .fdiv (.int a) (.int b) h Q := ⟨⟨by omega, hs⟩, by rw [fdiv_pos' hb]; exact q⟩
theorem o_modP {a b : Int} (hb : 0 < b) (q : Q (.int (a % b)) h) : wOp .mod (.int a) (.int b) h Q := ⟨by omega, by rw [fmod_pos' hb]; exact q⟩
theorem o_pow {a b : Int} (c : 0 ≤ b ∧ b ≤ 1000 ∧ a.natAbs < 2 ^ 64) (q : Q (.int (a ^ b.toNat)) h) : wOp .pow (.int a) (.int b) h Q := ⟨c, q⟩
/-- tests on ints, both ways -/
theorem t_lt {a b : Int} (q1 : a < b → QT true h) (q2 : ¬ a < b → QT false h) : wOp .lt (.int a) (.int b) h (fun z h3 => ∃ t, z = .bl t ∧ QT t h3) :=
  ⟨decide (a < b), rfl, by by_cases e : a < b <;> simp [e, q1, q2]⟩
theorem t_le {a b : Int} (q1 : a ≤ b → QT true h) (q2 : ¬ a ≤ b → QT false h) : wOp .le (.int a) (.int b) h (fun z h3 => ∃ t, z = .bl t ∧ QT t h3) :=
  ⟨decide (a ≤ b), rfl, by by_cases e : a ≤ b <;> simp [e, q1, q2]⟩
theorem t_gt {a b : Int} (q1 : b < a → QT true h) (q2 : ¬ b < a → QT false h) : wOp .gt (.int a) (.int b) h (fun z h3 => ∃ t, z = .bl t ∧ QT t h3) :=
  ⟨decide (b < a), rfl, by by_cases e : b < a <;> simp [e, q1, q2]⟩
theorem t_ge {a b : Int} (q1 : b ≤ a → QT true h) (q2 : ¬ b ≤ a → QT false h) : wOp .ge (.int a) (.int b) h (fun z h3 => ∃ t, z = .bl t ∧ QT t h3) :=
  ⟨decide (b ≤ a), rfl, by by_cases e : b ≤ a <;> simp [e, q1, q2]⟩
theorem o_lt {a b : Int} (q : Q (.bl (decide (a < b))) h) : wOp .lt (.int a) (.int b) h Q := q
theorem t_ltP {a1 a2 b1 b2 : Int} (q1 : (a1 < b1 ∨ a1 = b1 ∧ a2 < b2) → QT true h) (q2 : ¬ (a1 < b1 ∨ a1 = b1 ∧ a2 < b2) → QT false h) : wOp .lt (.tup [.int a1, .int a2]) (.tup [.int b1, .int b2]) h (fun z h3 => ∃ t, z = .bl t ∧ QT t h3) :=
  ⟨_, _, _, _, rfl, rfl, _, rfl, by by_cases e : (a1 < b1 ∨ a1 = b1 ∧ a2 < b2) <;> simp only [e, decide_true, decide_false, q1, q2, not_false_eq_true]⟩
theorem o_le {a b : Int} (q : Q (.bl (decide (a ≤ b))) h) : wOp .le (.int a) (.int b) h Q := q
theorem o_gt {a b : Int} (q : Q (.bl (decide (b < a))) h) : wOp .gt (.int a) (.int b) h Q := q
theorem o_ge {a b : Int} (q : Q (.bl (decide (b ≤ a))) h) : wOp .ge (.int a) (.int b) h Q := q
theorem o_eqI {a b : Int} (q : Q (.bl (decide (a = b))) h) : wOp .eq (.int a) (.int b) h Q :=
  ⟨.int a, .int b, rfl, rfl, ⟨by simp [Da.dep], by simp [Da.ok]⟩, ⟨by simp [Da.dep], by simp [Da.ok]⟩, by simpa [Da.eqv, Bool.beq_eq_decide_eq] using q⟩
theorem o_neI {a b : Int} (q : Q (.bl (!decide (a = b))) h) : wOp .ne (.int a) (.int b) h Q :=
  ⟨.int a, .int b, rfl, rfl, ⟨by simp [Da.dep], by simp [Da.ok]⟩, ⟨by simp [Da.dep], by simp [Da.ok]⟩, by simpa [Da.eqv, Bool.beq_eq_decide_eq] using q⟩
theorem t_eqI {a b : Int} (q1 : a = b → QT true h) (q2 : ¬ a = b → QT false h) : wOp .eq (.int a) (.int b) h (fun z h3 => ∃ t, z = .bl t ∧ QT t h3) :=
  o_eqI ⟨decide (a = b), rfl, by by_cases e : a = b <;> simp [e, q1, q2]⟩
theorem t_neI {a b : Int} (q1 : a ≠ b → QT true h) (q2 : a = b → QT false h) : wOp .ne (.int a) (.int b) h (fun z h3 => ∃ t, z = .bl t ∧ QT t h3) :=
  o_neI ⟨!decide (a = b), rfl, by by_cases e : a = b <;> simp [e, q1, q2]⟩
theorem b_abs {a : Int} (q : Q (.int (a.natAbs : Int)) h) : wBi .abs [.int a] h Q := q
theorem b_max2 {a b : Int} (q : Q (.int (max a b)) h) : wBi .max2 [.int a, .int b] h Q := by
  show Q (.int (if b > a then b else a)) h
  have e : (if b > a then b else a) = max a b := by split <;> omega
  rw [e]; exact q
theorem b_min2 {a b : Int} (q : Q (.int (min a b)) h) : wBi .min2 [.int a, .int b] h Q := by
  show Q (.int (if b < a then b else a)) h
  have e : (if b < a then b else a) = min a b := by split <;> omega
  rw [e]; exact q
theorem b_int1b {b : Bool} (q : Q (.int (if b then 1 else 0)) h) : wBi .int1 [.bl b] h Q := q
theorem b_lenL {a : Nat} {xs : List Vl} (e : get h a = some (.lst xs)) (q : Q (.int (xs.length : Int)) h) : wBi .len [.ref a] h Q := .inl ⟨xs, .inl e, q⟩
theorem b_lenR {a : Nat} {xs : List Vl} (e : get h a = some (.rol xs)) (q : Q (.int (xs.length : Int)) h) : wBi .len [.ref a] h Q := .inl ⟨xs, .inr e, q⟩
theorem b_divmod {a b : Int} (hb : 0 < b) (hs : b.natAbs < 2 ^ 1900) (q : Q (.tup [.int (a / b), .int (a % b)]) h) : wBi .divmod [.int a, .int b] h Q := ⟨⟨hb, hs⟩, q⟩
theorem x_tup {xs : List Vl} {i : Int} {v : Vl} (e : atI xs i = some v) (q : Q v h) : wIx (.tup xs) (.int i) h Q := ⟨v, e, q⟩
theorem x_lst {a : Nat} {xs : List Vl} {i : Int} {v : Vl} (g : get h a = some (.lst xs)) (e : atI xs i = some v) (q : Q v h) : wIx (.ref a) (.int i) h Q := .inl ⟨xs, i, v, rfl, .inl g, e, q⟩
theorem x_dct {a : Nat} {kvs : List (Ky × Vl)} {s : List Nat} {v : Vl} (g : get h a = some (.dct kvs)) (e : dget kvs (.s s) = some v) (q : Q v h) : wIx (.ref a) (.str s) h Q := .inr (.inl ⟨kvs, .s s, v, .inl g, rfl, e, q⟩)
/-- by any key, gone through or not -/
theorem x_dctK {a : Nat} {kvs : List (Ky × Vl)} {k v : Vl} {ky : Ky} (g : get h a = some (.dct kvs) ∨ get h a = some (.fdc kvs)) (hk : kyOf k = some ky) (e : dget kvs ky = some v) (q : Q v h) : wIx (.ref a) k h Q := .inr (.inl ⟨kvs, ky, v, g, hk, e, q⟩)
theorem x_dtp {a : Nat} {kvs : List (List Int × Vl)} {ns : List Int} {v : Vl} (g : get h a = some (.dtp kvs)) (e : tget kvs ns = some v) (q : Q v h) : wIx (.ref a) (.tup (ns.map Vl.int)) h Q := .inr (.inr ⟨kvs, ns, v, g, rfl, e, q⟩)
theorem b_lenD {a : Nat} {kvs : List (Ky × Vl)} (e : get h a = some (.dct kvs)) (q : Q (.int (kvs.length : Int)) h) : wBi .len [.ref a] h Q := .inr (.inl ⟨kvs, e, q⟩)
theorem b_lenTd {a : Nat} {kvs : List (List Int × Vl)} (e : get h a = some (.dtp kvs)) (q : Q (.int (kvs.length : Int)) h) : wBi .len [.ref a] h Q := .inr (.inr ⟨kvs, e, q⟩)
/-- the statement runs while the dict is read only -/
theorem s_lock {i a : Nat} {s : S} {kvs : List (Ky × Vl)} (e : σ[i]? = some (some (.ref a))) (g : get h a = some (.dct kvs)) (q : wS P Φ s σ (put h a (.fdc kvs)) (fun σ' h' => get h' a = some (.fdc kvs) ∧ N σ' (put h' a (.dct kvs))) (fun v h' => get h' a = some (.fdc kvs) ∧ R v (put h' a (.dct kvs))) (fun σ' h' => get h' a = some (.fdc kvs) ∧ B σ' (put h' a (.dct kvs))) (fun σ' h' => get h' a = some (.fdc kvs) ∧ C σ' (put h' a (.dct kvs))) (fun _ _ _ => False)) : wS P Φ (.lock i s) σ h N R B C X := ⟨a, kvs, e, g, q⟩
theorem m_append {a : Nat} {xs : List Vl} {v : Vl} (g : get h a = some (.lst xs)) (hz : xs.length < SZ) (q : Q .non (put h a (.lst (xs ++ [v])))) : wMt .lst .append (.ref a) [v] h Q := ⟨xs, g, hz, q⟩
theorem rk_lst {a : Nat} {xs : List Vl} {m : Mt} {F : Rk → Prop} (g : get h a = some (.lst xs)) (hm : mtHas .lst m = true) (q : F .lst) : ∃ k, rkOf h (.ref a) = some k ∧ mtHas k m = true ∧ F k := ⟨.lst, by simp [rkOf, g], hm, q⟩
theorem n_new {o : Ob} (q : ∀ p, get h p = none → Q (.ref p) (push h p o)) : wNew h o Q := q
theorem if_t {A B : Prop} (a : A) : if true = true then A else B := a
theorem if_f {A B : Prop} (b : B) : if false = true then A else B := b
theorem if_tt {b : Bool} {A B : Prop} (e : b = true) (a : A) : if b = true then A else B := by rw [if_pos e]; exact a
theorem if_ff {b : Bool} {A B : Prop} (e : b = false) (a : B) : if b = true then A else B := by rw [if_neg (by simp [e])]; exact a
theorem ex_bl {b : Bool} {F : Bool → Prop} (q : F b) : ∃ t, Vl.bl b = .bl t ∧ F t := ⟨b, rfl, q⟩
theorem ex_int {i : Int} {F : Int → Prop} (q : F i) : ∃ j, Vl.int i = .int j ∧ F j := ⟨i, rfl, q⟩
theorem wF_eq {n f : Nat} {fn : Fn} {vs : List Vl} {X : Ex → AH → Prop} (e : P.fns f = some fn) (hl : vs.length = fn.ar)
   (hb : wS P (wF P n) fn.body (vs.map some ++ List.replicate (fn.n - vs.length) none) h
        (fun _ h' => ∃ h2, Sub h2 h' ∧ Q .non h2) (fun v h' => ∃ h2, Sub h2 h' ∧ Q v h2) (fun _ _ => False) (fun _ _ => False) (fun e _ h' => ∃ h2, Sub h2 h' ∧ X e h2)) : wF P (n+1) f vs h Q X := ⟨fn, e, hl, hb⟩
theorem t_ix {a b : E} (q : wE P Φ a σ h (fun x h1 => wE P Φ b σ h1 (fun y h2 => wIx x y h2 fun z h3 => ∃ t, truth h3 z = some t ∧ QT t h3) X) X) : wT P Φ (.ix a b) σ h QT X := q
theorem t_mt {m : Mt} {o es : E} (q : wE P Φ o σ h (fun x h1 => ∃ k, rkOf h1 x = some k ∧ mtHas k m = true ∧ wA P Φ es σ h1 (fun vs h2 => wMt k m x vs h2 fun z h3 => ∃ t, truth h3 z = some t ∧ QT t h3) X) X) : wT P Φ (.mt m o es) σ h QT X := q
theorem t_bl {b : Bool} (q : QT b h) : wT P Φ (.bl b) σ h QT X := q
theorem t_chain {o1 o2 : Op2} {a b c : E} (q : wE P Φ a σ h (fun x h1 => wE P Φ b σ h1 (fun y h2 => wOp o1 x y h2 fun z h3 => ∃ t, z = .bl t ∧
      if t = true then wE P Φ c σ h3 (fun u h4 => wOp o2 y u h4 fun z h5 => ∃ t, z = .bl t ∧ QT t h5) X else QT false h3) X) X) : wT P Φ (.chain o1 o2 a b c) σ h QT X := q
theorem t_chain3 {o1 o2 o3 : Op2} {a b c d : E} (q : wE P Φ a σ h (fun x h1 => wE P Φ b σ h1 (fun y h2 => wOp o1 x y h2 fun z h3 => ∃ t, z = .bl t ∧
      if t = true then wE P Φ c σ h3 (fun u h4 => wOp o2 y u h4 fun z h5 => ∃ t, z = .bl t ∧ if t = true then wE P Φ d σ h5 (fun v h6 => wOp o3 u v h6 fun z h7 => ∃ t, z = .bl t ∧ QT t h7) X else QT false h5) X else QT false h3) X) X) : wT P Φ (.chain3 o1 o2 o3 a b c d) σ h QT X := q
theorem e_chain3 {o1 o2 o3 : Op2} {a b c d : E} (q : wE P Φ a σ h (fun x h1 => wE P Φ b σ h1 (fun y h2 => wOp o1 x y h2 fun z h3 => ∃ t, z = .bl t ∧
      if t = true then wE P Φ c σ h3 (fun u h4 => wOp o2 y u h4 fun z h5 => ∃ t, z = .bl t ∧ if t = true then wE P Φ d σ h5 (fun v h6 => wOp o3 u v h6 Q) X else Q (.bl false) h5) X else Q (.bl false) h3) X) X) : wE P Φ (.chain3 o1 o2 o3 a b c d) σ h Q X := q
theorem e_chain {o1 o2 : Op2} {a b c : E} (q : wE P Φ a σ h (fun x h1 => wE P Φ b σ h1 (fun y h2 => wOp o1 x y h2 fun z h3 => ∃ t, z = .bl t ∧
      if t = true then wE P Φ c σ h3 (fun u h4 => wOp o2 y u h4 Q) X else Q (.bl false) h3) X) X) : wE P Φ (.chain o1 o2 a b c) σ h Q X := q
theorem e_dct0 (q : wNew h (.dct []) Q) : wE P Φ .dct0 σ h Q X := .inl q
theorem e_dct0T (q : wNew h (.dtp []) Q) : wE P Φ .dct0 σ h Q X := .inr q
theorem e_dct {ks : List Ky} {es : E} (q : wA P Φ es σ h (fun vs h1 => vs.length = ks.length ∧ ks.length ≤ 1000 ∧ ks.Nodup ∧ wNew h1 (.dct (ks.zip vs)) Q) X) : wE P Φ (.dct ks es) σ h Q X := q
/-- what a display asks of what is walked -/
def LcK (P : PG) (Φ : Phi) (elt : E) (vs : List Nat) (g c : E) (σ : St) (Q : Qv) (xs : List Vl) (kp : List (Nat × Ob)) (h1 : AH) : Prop := ∃ W : Nat → List Vl → AH → Prop, W 0 [] h1 ∧ ∀ i acc h2, i ≤ xs.length → W i acc h2 →
      keeps kp h2 ∧ (∀ x, xs[i]? = some x → wG P Φ g x (wipe σ vs) h2 (fun σ' h3 => wT P Φ c σ' h3 (fun t h4 => if t = true then wE P Φ elt σ' h4 (fun y h5 => acc.length < SZ ∧ W (i + 1) (acc ++ [y]) h5) (fun _ _ _ => False) else W (i + 1) acc h4) (fun _ _ _ => False)) (fun _ _ _ => False)) ∧
      (i = xs.length → ∀ q, get h2 q = none → Q (.ref q) (push h2 q (.lst acc)))
theorem e_lc {elt g it c : E} {vs : List Nat} (q : wI P Φ it σ h (fun xs kp h1 => LcK P Φ elt vs g c σ Q xs kp h1) X) : wE P Φ (.lc elt vs g it c) σ h Q X := q
section
variable {Qi : List Vl → List (Nat × Ob) → AH → Prop}
def SeqK (Qi : List Vl → List (Nat × Ob) → AH → Prop) (x : Vl) (h1 : AH) : Prop := (∃ xs, x = .tup xs ∧ Qi xs [] h1) ∨ (∃ s, x = .str s ∧ s.length ≤ SZ ∧ Qi (s.map fun c => .str [c]) [] h1) ∨
      (∃ a xs, x = .ref a ∧ get h1 a = some (.lst xs) ∧ Qi xs [(a, .lst xs)] h1) ∨ ∃ a kvs, x = .ref a ∧ get h1 a = some (.fdc kvs) ∧ Qi (kvs.map fun kv => kv.1.vl) [(a, .fdc kvs)] h1
def RngK (Qi : List Vl → List (Nat × Ob) → AH → Prop) (x y : Vl) (h2 : AH) : Prop := ∃ i j, x = .int i ∧ y = .int j ∧ (-4611686018427387904 ≤ i ∧ i < 4611686018427387904 ∧ -4611686018427387904 ≤ j ∧ j < 4611686018427387904) ∧
      Qi ((List.range (j - i).toNat).map fun (k : Nat) => Vl.int (i + (k : Int))) [] h2
def ZipK (Qi : List Vl → List (Nat × Ob) → AH → Prop) (x y : Vl) (h2 : AH) : Prop := ∃ xs ys k1 k2, zcs h2 x xs k1 ∧ zcs h2 y ys k2 ∧ Qi (List.zipWith (fun a b => .tup [a, b]) xs ys) (k1 ++ k2) h2
def Zip3K (Qi : List Vl → List (Nat × Ob) → AH → Prop) (x y z : Vl) (h3 : AH) : Prop := ∃ xs ys zs k1 k2 k3, zcs h3 x xs k1 ∧ zcs h3 y ys k2 ∧ zcs h3 z zs k3 ∧ Qi (zip3W xs ys zs) (k1 ++ (k2 ++ k3)) h3
def EnumK (Qi : List Vl → List (Nat × Ob) → AH → Prop) (x : Vl) (h1 : AH) : Prop := (∃ p xs, x = .ref p ∧ get h1 p = some (.lst xs) ∧ Qi (xs.mapIdx fun i a => .tup [.int (i : Int), a]) [(p, .lst xs)] h1) ∨ (∃ s, x = .str s ∧ Qi (s.mapIdx fun i c => .tup [.int (i : Int), .str [c]]) [] h1)
def RevK (Qi : List Vl → List (Nat × Ob) → AH → Prop) (x : Vl) (h1 : AH) : Prop := ∃ p xs, x = .ref p ∧ get h1 p = some (.lst xs) ∧ Qi xs.reverse [(p, .lst xs)] h1
theorem i_seq {e : E} (q : wE P Φ e σ h (fun x h1 => SeqK Qi x h1) X) : wI P Φ (.iseq e) σ h Qi X := q
theorem i_rng {a b : E} (q : wE P Φ a σ h (fun x h1 => wE P Φ b σ h1 (fun y h2 => RngK Qi x y h2) X) X) : wI P Φ (.irng a b) σ h Qi X := q
theorem i_zip {a b : E} (q : wE P Φ a σ h (fun x h1 => wE P Φ b σ h1 (fun y h2 => ZipK Qi x y h2) X) X) : wI P Φ (.izip a b) σ h Qi X := q
def RvK (Q : Qv) (x : Vl) (h1 : AH) : Prop := (∃ p xs, x = .ref p ∧ get h1 p = some (.lst xs) ∧ wNew h1 (.lst xs.reverse) Q) ∨ (∃ s, x = .str s ∧ s.length ≤ SZ ∧ Q (.str s.reverse) h1) ∨ ∃ xs, x = .tup xs ∧ Q (.tup xs.reverse) h1
theorem e_rev {a : E} (q : wE P Φ a σ h (fun x h1 => RvK Q x h1) X) : wE P Φ (.rev a) σ h Q X := q
theorem rvk_ok {a : Nat} {xs : List Vl} (g : get h a = some (.lst xs)) (q : wNew h (.lst xs.reverse) Q) : RvK Q (.ref a) h := .inl ⟨a, xs, rfl, g, q⟩
theorem rvk_str {s : List Nat} (hz : s.length ≤ SZ) (q : Q (.str s.reverse) h) : RvK Q (.str s) h := .inr (.inl ⟨s, rfl, hz, q⟩)
theorem rvk_tup {xs : List Vl} (q : Q (.tup xs.reverse) h) : RvK Q (.tup xs) h := .inr (.inr ⟨xs, rfl, q⟩)
theorem b_sortedI {a : Nat} {ns : List Int} (g : isLst h a (ns.map Vl.int)) (q : ∀ ms : List Int, ms.Perm ns → ms.Pairwise (· ≤ ·) → wNew h (.lst (ms.map Vl.int)) Q) : wBi .sorted1 [.ref a] h Q := .inl ⟨_, ns, g, isInts_map ns, q⟩
theorem b_sortedS {a : Nat} {ss : List (List Nat)} (g : isLst h a (ss.map Vl.str)) (hl : ss.length < 64) (q : ∀ ms : List (List Nat), ms.Perm ss → wNew h (.lst (ms.map Vl.str)) Q) : wBi .sorted1 [.ref a] h Q := .inr (.inl ⟨_, ss, g, isStrs_map ss, fun ms h1 _ => q ms h1⟩)
/-- texts, any number of them, their order told -/
theorem b_sortedO {a : Nat} {ss : List (List Nat)} (g : isLst h a (ss.map Vl.str)) (q : ∀ ms : List (List Nat), ms.Perm ss → ms.Pairwise (fun x y => ¬ y < x) → wNew h (.lst (ms.map Vl.str)) Q) : wBi .sorted1 [.ref a] h Q := .inr (.inl ⟨_, ss, g, isStrs_map ss, q⟩)
theorem b_sortedP {a : Nat} {ps : List (Int × Int)} (g : isLst h a (ps.map pairV)) (q : ∀ ms : List (Int × Int), ms.Perm ps → ms.Pairwise (fun x y => ¬ pairLt y x) → wNew h (.lst (ms.map pairV)) Q) : wBi .sorted1 [.ref a] h Q := .inr (.inr (.inl ⟨ps, g, q⟩))
theorem b_sortedD {a : Nat} {ps : List (Int × Int)} {kvs : List (List Int × Vl)} (g : get h a = some (.dtp kvs)) (e : kvs.map (·.1) = ps.map fun p => [p.1, p.2]) (q : ∀ ms : List (Int × Int), ms.Perm ps → ms.Pairwise (fun x y => ¬ pairLt y x) → wNew h (.lst (ms.map pairV)) Q) : wBi .sorted1 [.ref a] h Q := .inr (.inr (.inr ⟨ps, kvs, g, e, q⟩))
theorem b_dict1 {a : Nat} {ps : List (List Int × Vl)} (g : isLst h a (ps.map fun p => .tup [.tup (p.1.map Vl.int), p.2])) (hz : ps.length ≤ SZ) (q : wNew h (.dtp (ps.foldl (fun acc p => tput acc p.1 p.2) [])) Q) : wBi .dict1 [.ref a] h Q := .inl ⟨ps, g, hz, q⟩
theorem b_dict1S {a : Nat} {ps : List (List Nat × Vl)} (g : isLst h a (ps.map fun p => .tup [.str p.1, p.2])) (q : wNew h (.dct (ps.foldl (fun acc p => dput acc (.s p.1) p.2) [])) Q) : wBi .dict1 [.ref a] h Q := .inr ⟨ps, g, q⟩
theorem e_dctT {k v : E} (q : wE P Φ k σ h (fun x h1 => wE P Φ v σ h1 (fun y h2 => ∃ ns : List Int, x = .tup (ns.map Vl.int) ∧ wNew h2 (.dtp [(ns, y)]) Q) X) X) : wE P Φ (.dctT k v) σ h Q X := q
theorem i_zip3 {a b c : E} (q : wE P Φ a σ h (fun x h1 => wE P Φ b σ h1 (fun y h2 => wE P Φ c σ h2 (fun z h3 => Zip3K Qi x y z h3) X) X) X) : wI P Φ (.izip3 a b c) σ h Qi X := q
theorem zip3_SLL {s : List Nat} {a b : Nat} {ys zs : List Vl} (g1 : get h a = some (.lst ys)) (g2 : get h b = some (.lst zs)) (q : Qi (zip3W (s.map fun c => .str [c]) ys zs) [(a, .lst ys), (b, .lst zs)] h) : Zip3K Qi (.str s) (.ref a) (.ref b) h := ⟨_, ys, zs, _, _, _, ⟨rfl, rfl⟩, ⟨g1, rfl⟩, ⟨g2, rfl⟩, q⟩
theorem i_enum {a : E} (q : wE P Φ a σ h (fun x h1 => EnumK Qi x h1) X) : wI P Φ (.ienum a) σ h Qi X := q
theorem i_rev {a : E} (q : wE P Φ a σ h (fun x h1 => RevK Qi x h1) X) : wI P Φ (.irev a) σ h Qi X := q
theorem rng_ok {a b : Int} (c : -4611686018427387904 ≤ a ∧ a < 4611686018427387904 ∧ -4611686018427387904 ≤ b ∧ b < 4611686018427387904) (q : Qi ((List.range (b - a).toNat).map fun (k : Nat) => Vl.int (a + (k : Int))) [] h) : RngK Qi (.int a) (.int b) h := ⟨a, b, rfl, rfl, c, q⟩
theorem seq_T {xs : List Vl} (q : Qi xs [] h) : SeqK Qi (.tup xs) h := .inl ⟨xs, rfl, q⟩
theorem seq_S {s : List Nat} (hz : s.length ≤ SZ) (q : Qi (s.map fun c => .str [c]) [] h) : SeqK Qi (.str s) h := .inr (.inl ⟨s, rfl, hz, q⟩)
theorem seq_L {a : Nat} {xs : List Vl} (g : get h a = some (.lst xs)) (q : Qi xs [(a, .lst xs)] h) : SeqK Qi (.ref a) h := .inr (.inr (.inl ⟨a, xs, rfl, g, q⟩))
theorem seq_D {a : Nat} {kvs : List (Ky × Vl)} (g : get h a = some (.fdc kvs)) (q : Qi (kvs.map fun kv => kv.1.vl) [(a, .fdc kvs)] h) : SeqK Qi (.ref a) h := .inr (.inr (.inr ⟨a, kvs, rfl, g, q⟩))
theorem zip_L {a b : Nat} {xs ys : List Vl} (ga : get h a = some (.lst xs)) (gb : get h b = some (.lst ys)) (q : Qi (List.zipWith (fun a b => .tup [a, b]) xs ys) [(a, .lst xs), (b, .lst ys)] h) : ZipK Qi (.ref a) (.ref b) h := ⟨xs, ys, _, _, ⟨ga, rfl⟩, ⟨gb, rfl⟩, q⟩
theorem zip_T {xs ys : List Vl} (q : Qi (List.zipWith (fun a b => .tup [a, b]) xs ys) [] h) : ZipK Qi (.tup xs) (.tup ys) h := ⟨xs, ys, _, _, ⟨rfl, rfl⟩, ⟨rfl, rfl⟩, q⟩
theorem zip_SL {s : List Nat} {b : Nat} {ys : List Vl} (gb : get h b = some (.lst ys)) (q : Qi (List.zipWith (fun a b => .tup [a, b]) (s.map fun c => .str [c]) ys) [(b, .lst ys)] h) : ZipK Qi (.str s) (.ref b) h := ⟨_, ys, _, _, ⟨rfl, rfl⟩, ⟨gb, rfl⟩, q⟩
theorem zip_LS {s : List Nat} {a : Nat} {xs : List Vl} (ga : get h a = some (.lst xs)) (q : Qi (List.zipWith (fun a b => .tup [a, b]) xs (s.map fun c => .str [c])) [(a, .lst xs)] h) : ZipK Qi (.ref a) (.str s) h := ⟨xs, _, _, _, ⟨ga, rfl⟩, ⟨rfl, rfl⟩, q⟩
theorem zip_SS {s t : List Nat} (q : Qi (List.zipWith (fun a b => .tup [a, b]) (s.map fun c => .str [c]) (t.map fun c => .str [c])) [] h) : ZipK Qi (.str s) (.str t) h := ⟨_, _, _, _, ⟨rfl, rfl⟩, ⟨rfl, rfl⟩, q⟩
theorem enum_L {a : Nat} {xs : List Vl} (g : get h a = some (.lst xs)) (q : Qi (xs.mapIdx fun i a => .tup [.int (i : Int), a]) [(a, .lst xs)] h) : EnumK Qi (.ref a) h := .inl ⟨a, xs, rfl, g, q⟩
theorem enum_S {s : List Nat} (q : Qi (s.mapIdx fun i c => .tup [.int (i : Int), .str [c]]) [] h) : EnumK Qi (.str s) h := .inr ⟨s, rfl, q⟩
theorem rev_L {a : Nat} {xs : List Vl} (g : get h a = some (.lst xs)) (q : Qi xs.reverse [(a, .lst xs)] h) : RevK Qi (.ref a) h := ⟨a, xs, rfl, g, q⟩
end
theorem b_int1i {i : Int} (q : Q (.int i) h) : wBi .int1 [.int i] h Q := q
theorem b_lenT {xs : List Vl} (q : Q (.int (xs.length : Int)) h) : wBi .len [.tup xs] h Q := q
theorem b_lenS {xs : List Nat} (hz : xs.length ≤ SZ) (q : Q (.int (xs.length : Int)) h) : wBi .len [.str xs] h Q := ⟨hz, q⟩
theorem sz_ok {n : Nat} {A : Prop} (hl : n ≤ SZ) (a : A) : n ≤ SZ ∧ A := ⟨hl, a⟩
theorem ex_tr {v : Vl} {b : Bool} {F : Bool → Prop} (e : truth h v = some b) (q : F b) : ∃ t, truth h v = some t ∧ F t := ⟨b, e, q⟩
theorem ex_trL {a : Nat} {xs : List Vl} {F : Bool → Prop} (e : get h a = some (.lst xs)) (q : F (!xs.isEmpty)) : ∃ t, truth h (.ref a) = some t ∧ F t := ⟨_, by simp [truth, e], q⟩
theorem ex_isa {v : Vl} {sub : Nat → Nat → Bool} {ks : List Kd} {b : Bool} {F : Bool → Prop} (e : isaKs h sub v ks = some b) (q : F b) : ∃ t, isaKs h sub v ks = some t ∧ F t := ⟨b, e, q⟩
def isL : Kd → Bool
  | .list => true
  | _ => false
def plK : Kd → Bool
  | .cls _ => false
  | .valErr => false
  | _ => true
theorem isa_lst {a : Nat} {xs : List Vl} {sub : Nat → Nat → Bool} (e : get h a = some (.lst xs)) : ∀ ks : List Kd, ks.all plK = true → isaKs h sub (.ref a) ks = some (ks.any isL)
  | [], _ => rfl
  | k :: ks, hp => by
    simp only [List.all_cons, Bool.and_eq_true] at hp
    have e1 : isaK h sub (.ref a) k = some (isL k) := by cases k <;> first | (simp [plK] at hp; done) | simp [isaK, e, isL]
    simp only [isaKs, e1, isa_lst e ks hp.2, List.any_cons]
theorem ex_isaL {a : Nat} {xs : List Vl} {sub : Nat → Nat → Bool} {ks : List Kd} {b : Bool} {F : Bool → Prop} (e : get h a = some (.lst xs)) (ep : ks.all plK = true) (eb : (ks.any isL) = b) (q : F b) : ∃ t, isaKs h sub (.ref a) ks = some t ∧ F t := ⟨b, by rw [isa_lst e ks ep, eb], q⟩
/-- an exception, asked for one class -/
theorem ex_isaX {a c d : Nat} {r : Option Vl} {sub : Nat → Nat → Bool} {F : Bool → Prop} (e : get h a = some (.exc c r)) (q : F (sub c d)) : ∃ t, isaKs h sub (.ref a) [.cls d] = some t ∧ F t := ⟨sub c d, by simp [isaKs, isaK, e], q⟩
theorem ex_isaV {a c : Nat} {r : Option Vl} {sub : Nat → Nat → Bool} {F : Bool → Prop} (e : get h a = some (.exc c r)) (q : F true) : ∃ t, isaKs h sub (.ref a) [.valErr] = some t ∧ F t := ⟨true, by simp [isaKs, isaK, e], q⟩
theorem b_list1 {a : Nat} {xs : List Vl} (g : isLst h a xs) (q : wNew h (.lst xs) Q) : wBi .list1 [.ref a] h Q := .inl ⟨xs, g, q⟩
theorem c_lst {a : Nat} {xs : List Vl} {lo hi : Option Int} (g : isLst h a xs) (q : wNew h (.lst (cut xs lo hi)) Q) : wSlc (.ref a) lo hi h Q := ⟨xs, g, q⟩
theorem b_list1T {xs : List Vl} (q : wNew h (.lst xs) Q) : wBi .list1 [.tup xs] h Q := q
theorem b_list1S {s : List Nat} (hz : s.length ≤ SZ) (q : wNew h (.lst (s.map fun c => .str [c])) Q) : wBi .list1 [.str s] h Q := ⟨hz, q⟩
theorem b_tuple1L {a : Nat} {xs : List Vl} (g : get h a = some (.lst xs)) (q : Q (.tup xs) h) : wBi .tuple1 [.ref a] h Q := ⟨xs, .inl g, q⟩
theorem b_list1L {a : Nat} {xs : List Vl} (g : get h a = some (.lst xs)) (q : wNew h (.lst xs) Q) : wBi .list1 [.ref a] h Q := .inl ⟨xs, .inl g, q⟩
theorem b_listTd {a : Nat} {kvs : List (List Int × Vl)} (g : get h a = some (.dtp kvs)) (q : wNew h (.lst (kvs.map fun kv => .tup (kv.1.map Vl.int))) Q) : wBi .list1 [.ref a] h Q := .inr ⟨kvs, g, q⟩
theorem c_lstL {a : Nat} {xs : List Vl} {lo hi : Option Int} (g : get h a = some (.lst xs)) (q : wNew h (.lst (cut xs lo hi)) Q) : wSlc (.ref a) lo hi h Q := ⟨xs, .inl g, q⟩
theorem o_addL {a b : Nat} {xs ys : List Vl} (ga : get h a = some (.lst xs)) (gb : get h b = some (.lst ys)) (hz : xs.length + ys.length ≤ SZ) (q : wNew h (.lst (xs ++ ys)) Q) : wOp .add (.ref a) (.ref b) h Q := ⟨xs, ys, ga, gb, hz, q⟩
theorem o_mulL {a : Nat} {xs : List Vl} {k : Int} (ga : get h a = some (.lst xs)) (h1 : -9223372036854775808 ≤ k) (h2 : k < 9223372036854775808) (hz : xs.length * k.toNat ≤ SZ) (q : wNew h (.lst (List.replicate k.toNat xs).flatten) Q) :
    wOp .mul (.ref a) (.int k) h Q := ⟨xs, ga, h1, h2, hz, q⟩
theorem x_set {a : Nat} {xs : List Vl} {i : Int} {v : Vl} {F : AH → Prop} {j : Nat} (g : get h a = some (.lst xs)) (hi : i = (j : Int)) (hj : j < xs.length) (hz : xs.length ≤ 4611686018427387904) (q : F (put h a (.lst (xs.set j v)))) : wSetIx (.ref a) (.int i) v h F :=
  .inl ⟨xs, i, j, rfl, g, by omega, by omega, by rw [if_pos (by omega)]; exact hi, hj, q⟩
theorem x_dset {a : Nat} {kvs : List (Ky × Vl)} {k : Vl} {ky : Ky} {v : Vl} {F : AH → Prop} (g : get h a = some (.dct kvs)) (hk : kyOf k = some ky) (hz : kvs.length < SZ) (q : F (put h a (.dct (dput kvs ky v)))) : wSetIx (.ref a) k v h F := .inr (.inl ⟨kvs, ky, g, hk, hz, q⟩)
theorem x_tset {a : Nat} {kvs : List (List Int × Vl)} {ns : List Int} {v : Vl} {F : AH → Prop} (g : get h a = some (.dtp kvs)) (hz : kvs.length < SZ) (q : F (put h a (.dtp (tput kvs ns v)))) : wSetIx (.ref a) (.tup (ns.map Vl.int)) v h F := .inr (.inr ⟨kvs, ns, g, rfl, hz, q⟩)
theorem o_inDt {a : Nat} {kvs : List (List Int × Vl)} {ns : List Int} (g : get h a = some (.dtp kvs)) (q : Q (.bl (tget kvs ns).isSome) h) : wOp .in_ (.tup (ns.map Vl.int)) (.ref a) h Q := .inr (.inr (.inl ⟨kvs, ns, g, rfl, q⟩))
/-- None is no text -/
theorem o_inNs {a : Nat} {ss : List (List Nat)} (g : isLst h a (ss.map Vl.str)) (q : Q (.bl false) h) : wOp .in_ .non (.ref a) h Q := .inr (.inr (.inr ⟨ss, g, rfl, q⟩))
theorem o_ninDt {a : Nat} {kvs : List (List Int × Vl)} {ns : List Int} (g : get h a = some (.dtp kvs)) (q : Q (.bl (!(tget kvs ns).isSome)) h) : wOp .nin (.tup (ns.map Vl.int)) (.ref a) h Q := .inr (.inr (.inl ⟨kvs, ns, g, rfl, q⟩))
theorem o_inDs {a : Nat} {kvs : List (Ky × Vl)} {s : List Nat} (g : get h a = some (.dct kvs)) (q : Q (.bl (dget kvs (.s s)).isSome) h) : wOp .in_ (.str s) (.ref a) h Q := .inr (.inl ⟨kvs, .s s, g, rfl, q⟩)
theorem o_ninDs {a : Nat} {kvs : List (Ky × Vl)} {s : List Nat} (g : get h a = some (.dct kvs)) (q : Q (.bl (!(dget kvs (.s s)).isSome)) h) : wOp .nin (.str s) (.ref a) h Q := .inr (.inl ⟨kvs, .s s, g, rfl, q⟩)
theorem atI_nat {α : Type} {xs : List α} {i : Int} {j : Nat} (hi : i = (j : Int)) : atI xs i = xs[j]? := by
  unfold atI; rw [if_pos (by omega)]; subst hi; rfl
theorem o_isNon {v : Vl} (q : Q (.bl (isNon v)) h) : wOp .is_ v .non h Q := by cases v <;> exact q
theorem o_isnN {v : Vl} (q : Q (.bl (!isNon v)) h) : wOp .isn v .non h Q := by cases v <;> exact q
theorem o_eqB {a b : Bool} (q : Q (.bl (a == b)) h) : wOp .eq (.bl a) (.bl b) h Q :=
  ⟨.bl a, .bl b, rfl, rfl, ⟨by simp [Da.dep], by simp [Da.ok]⟩, ⟨by simp [Da.dep], by simp [Da.ok]⟩, by simpa [Da.eqv] using q⟩
theorem o_neB {a b : Bool} (q : Q (.bl (!(a == b))) h) : wOp .ne (.bl a) (.bl b) h Q :=
  ⟨.bl a, .bl b, rfl, rfl, ⟨by simp [Da.dep], by simp [Da.ok]⟩, ⟨by simp [Da.dep], by simp [Da.ok]⟩, by simpa [Da.eqv] using q⟩
theorem for_any {g : E} {b : S} {xs : List Vl} {kp : List (Nat × Ob)} (W : Nat → St → AH → Prop) (h0 : W 0 σ h) (hk : ∀ i σ' h', i ≤ xs.length → W i σ' h' → keeps kp h')
    (step : ∀ i σ' h' (hi : i < xs.length), W i σ' h' → wG P Φ g xs[i] σ' h' (fun σ2 h2 => wS P Φ b σ2 h2 (W (i + 1)) R N (W (i + 1)) X) X) (fin : ∀ σ' h', W xs.length σ' h' → N σ' h') :
    ∃ W : Nat → St → AH → Prop, W 0 σ h ∧ ∀ i σ' h', i ≤ xs.length → W i σ' h' → keeps kp h' ∧ (∀ x, xs[i]? = some x → wG P Φ g x σ' h' (fun σ2 h2 => wS P Φ b σ2 h2 (W (i + 1)) R N (W (i + 1)) X) X) ∧ (i = xs.length → N σ' h') := by
  refine ⟨W, h0, fun i σ' h' hi w => ⟨hk i σ' h' hi w, fun x hx => ?_, fun e => by subst e; exact fin σ' h' w⟩⟩
  obtain ⟨hl, rfl⟩ := List.getElem?_eq_some_iff.mp hx
  exact step i σ' h' hl w
theorem for_rng {g : E} {b : S} {lo : Int} {n : Nat} (W : Nat → St → AH → Prop) (h0 : W 0 σ h)
    (step : ∀ i σ' h', i < n → W i σ' h' → wG P Φ g (.int (lo + (i : Int))) σ' h' (fun σ2 h2 => wS P Φ b σ2 h2 (W (i + 1)) R N (W (i + 1)) X) X) (fin : ∀ σ' h', W n σ' h' → N σ' h') :
    ∃ W : Nat → St → AH → Prop, W 0 σ h ∧ ∀ i σ' h', i ≤ ((List.range n).map fun (k : Nat) => Vl.int (lo + (k : Int))).length → W i σ' h' →
      keeps [] h' ∧ (∀ x, ((List.range n).map fun (k : Nat) => Vl.int (lo + (k : Int)))[i]? = some x → wG P Φ g x σ' h' (fun σ2 h2 => wS P Φ b σ2 h2 (W (i + 1)) R N (W (i + 1)) X) X) ∧ (i = ((List.range n).map fun (k : Nat) => Vl.int (lo + (k : Int))).length → N σ' h') :=
  for_any W h0 (fun _ _ _ _ _ p hp => by cases hp) (fun i σ' h' hi w => by
    have hi' : i < n := by simpa using hi
    simp only [List.getElem_map, List.getElem_range]
    exact step i σ' h' hi' w) fun σ' h' w => fin σ' h' (by simpa using w)
/-- displays -/
theorem lc_any {elt g c : E} {vs : List Nat} {xs : List Vl} {kp : List (Nat × Ob)} (W : Nat → List Vl → AH → Prop) (h0 : W 0 [] h) (hk : ∀ i acc h', i ≤ xs.length → W i acc h' → keeps kp h')
    (step : ∀ i acc h' (hi : i < xs.length), W i acc h' → wG P Φ g xs[i] (wipe σ vs) h' (fun σ' h3 => wT P Φ c σ' h3 (fun t h4 => if t = true then wE P Φ elt σ' h4 (fun y h5 => acc.length < SZ ∧ W (i + 1) (acc ++ [y]) h5) (fun _ _ _ => False) else W (i + 1) acc h4) (fun _ _ _ => False)) (fun _ _ _ => False))
    (fin : ∀ acc h', W xs.length acc h' → wNew h' (.lst acc) Q) :
    LcK P Φ elt vs g c σ Q xs kp h := by
  refine ⟨W, h0, fun i acc h' hi w => ⟨hk i acc h' hi w, fun x hx => ?_, fun e => by subst e; exact fin acc h' w⟩⟩
  obtain ⟨hl, rfl⟩ := List.getElem?_eq_some_iff.mp hx
  exact step i acc h' hl w
theorem lc_rng {elt g c : E} {vs : List Nat} {lo : Int} {n : Nat} (W : Nat → List Vl → AH → Prop) (h0 : W 0 [] h)
    (step : ∀ i acc h', i < n → W i acc h' → wG P Φ g (.int (lo + (i : Int))) (wipe σ vs) h' (fun σ' h3 => wT P Φ c σ' h3 (fun t h4 => if t = true then wE P Φ elt σ' h4 (fun y h5 => acc.length < SZ ∧ W (i + 1) (acc ++ [y]) h5) (fun _ _ _ => False) else W (i + 1) acc h4) (fun _ _ _ => False)) (fun _ _ _ => False))
    (fin : ∀ acc h', W n acc h' → wNew h' (.lst acc) Q) :
    LcK P Φ elt vs g c σ Q ((List.range n).map fun (k : Nat) => Vl.int (lo + (k : Int))) [] h :=
  lc_any W h0 (fun _ _ _ _ _ p hp => by cases hp) (fun i σ' h' hi w => by
    have hi' : i < n := by simpa using hi
    simp only [List.getElem_map, List.getElem_range]
    exact step i σ' h' hi' w) fun σ' h' w => fin σ' h' (by simpa using w)
/-- halfway: what holds behind a statement, whatever is wanted there -/
theorem s_mid {a : S} (M : St → AH → Prop) (h1 : ∀ N' : Nv, (∀ σ' h', M σ' h' → N' σ' h') → wS P Φ a σ h N' R B C X) (h2 : ∀ σ' h', M σ' h' → N σ' h') : wS P Φ a σ h N R B C X := h1 N h2
theorem e_mid {a : E} (M : Vl → AH → Prop) (h1 : ∀ Q' : Qv, (∀ v h', M v h' → Q' v h') → wE P Φ a σ h Q' X) (h2 : ∀ v h', M v h' → Q v h') : wE P Φ a σ h Q X := h1 Q h2
theorem u_add {a b : Int} (q : Q (.int (a + b)) h) : wAug .add (.int a) (.int b) h Q := q
theorem u_sub {a b : Int} (q : Q (.int (a - b)) h) : wAug .sub (.int a) (.int b) h Q := q
theorem u_mul {a b : Int} (c : MulOk a b) (q : Q (.int (a * b)) h) : wAug .mul (.int a) (.int b) h Q := ⟨c, q⟩
theorem u_addS {a b : List Nat} (c : a.length + b.length ≤ SZ) (q : Q (.str (a ++ b)) h) : wAug .add (.str a) (.str b) h Q := ⟨c, q⟩
theorem o_addS {a b : List Nat} (c : a.length + b.length ≤ SZ) (q : Q (.str (a ++ b)) h) : wOp .add (.str a) (.str b) h Q := ⟨c, q⟩
theorem o_eqS {a b : List Nat} (q : Q (.bl (decide (a = b))) h) : wOp .eq (.str a) (.str b) h Q := q
theorem o_neS {a b : List Nat} (q : Q (.bl (!decide (a = b))) h) : wOp .ne (.str a) (.str b) h Q := q
theorem o_in1 {c : Nat} {s : List Nat} (q : Q (.bl (decide (c ∈ s))) h) : wOp .in_ (.str [c]) (.str s) h Q := .inl ⟨c, rfl, q⟩
theorem o_inS {b s : List Nat} (q : Q (.bl (inS b s)) h) : wOp .in_ (.str b) (.str s) h Q := .inr q
theorem o_ninS {b s : List Nat} (q : Q (.bl (!inS b s)) h) : wOp .nin (.str b) (.str s) h Q := .inr q
theorem o_nin1 {c : Nat} {s : List Nat} (q : Q (.bl (!decide (c ∈ s))) h) : wOp .nin (.str [c]) (.str s) h Q := .inl ⟨c, rfl, q⟩
theorem b_max1 {a : Nat} {ns : List Int} (g : isLst h a (ns.map Vl.int)) (hn : ns ≠ []) (q : ∀ m, m ∈ ns → (∀ y, y ∈ ns → y ≤ m) → Q (.int m) h) : wBi .max1 [.ref a] h Q := .inl ⟨_, ns, g, isInts_map ns, hn, q⟩
theorem b_maxT {a : Nat} {nss : List (List Int)} (g : isLst h a (nss.map fun ns => .tup (ns.map Vl.int))) (hn : nss ≠ []) (q : ∀ m, m ∈ nss → (∀ y, y ∈ nss → lexL m y = false) → Q (.tup (m.map Vl.int)) h) : wBi .max1 [.ref a] h Q := .inr ⟨nss, g, hn, q⟩
theorem b_maxd {a : Nat} {ns : List Int} {d : Int} (g : isLst h a (ns.map Vl.int)) (q0 : ns = [] → Q (.int d) h) (q : ns ≠ [] → ∀ m, m ∈ ns → (∀ y, y ∈ ns → y ≤ m) → Q (.int m) h) : wBi .maxd [.ref a, .int d] h Q := ⟨_, ns, g, isInts_map ns, q0, q⟩
theorem b_mind {a : Nat} {ns : List Int} {d : Int} (g : isLst h a (ns.map Vl.int)) (q0 : ns = [] → Q (.int d) h) (q : ns ≠ [] → ∀ m, m ∈ ns → (∀ y, y ∈ ns → m ≤ y) → Q (.int m) h) : wBi .mind [.ref a, .int d] h Q := ⟨_, ns, g, isInts_map ns, q0, q⟩
theorem m_split {a : List Nat} {c : Nat} (hc : c < 256) (hz : a.length + 2 ≤ SZ) (q : wNew h (.lst ((splA c [] a).map Vl.str)) Q) : wMt .str .split (.str a) [.str [c]] h Q := ⟨c, rfl, hc, hz, q⟩
theorem m_part {a : List Nat} {c : Nat} (hc : c < 256) (hz : a.length ≤ SZ) (q : Q (.tup [.str (parA c [] a).1, .str (parA c [] a).2.1, .str (parA c [] a).2.2]) h) : wMt .str .partition (.str a) [.str [c]] h Q := ⟨c, rfl, hc, hz, q⟩
theorem m_ends {a b : List Nat} (q : Q (.bl (decide (b.length ≤ a.length) && a.drop (a.length - b.length) == b)) h) : wMt .str .endswith (.str a) [.str b] h Q := q
theorem m_dget1 {a : Nat} {kvs : List (Ky × Vl)} {k : Vl} {ky : Ky} (g : get h a = some (.dct kvs)) (e : kyOf k = some ky) (q : Q ((dget kvs ky).getD .non) h) : wMt .dct .dget1 (.ref a) [k] h Q := ⟨kvs, ky, g, e, q⟩
theorem m_starts {a b : List Nat} (q : Q (.bl (a.take b.length == b)) h) : wMt .str .startswith (.str a) [.str b] h Q := q
theorem b_min1 {a : Nat} {ns : List Int} (g : isLst h a (ns.map Vl.int)) (hn : ns ≠ []) (q : ∀ m, m ∈ ns → (∀ y, y ∈ ns → m ≤ y) → Q (.int m) h) : wBi .min1 [.ref a] h Q := ⟨_, ns, g, isInts_map ns, hn, q⟩
theorem b_sum1 {a : Nat} {ns : List Int} (g : isLst h a (ns.map Vl.int)) (q : Q (.int ns.sum) h) : wBi .sum1 [.ref a] h Q := ⟨_, ns, g, isInts_map ns, q⟩
theorem b_str1o {i : Int} (hi : i.natAbs < 2 ^ 1900) (q : Q (.str (itoa i)) h) : wBi .str1 [.int i] h Q := ⟨hi, q⟩
theorem rk_str {s : List Nat} {m : Mt} {F : Rk → Prop} (hm : mtHas .str m = true) (q : F .str) : ∃ k, rkOf h (.str s) = some k ∧ mtHas k m = true ∧ F k := ⟨.str, rfl, hm, q⟩
theorem m_join {p : Nat} {s : List Nat} {ss : List (List Nat)} (g : isLst h p (ss.map Vl.str)) (hz : (ss.map (·.length)).sum + ss.length * s.length ≤ SZ) (q : Q (.str (joinL s ss)) h) : wMt .str .join (.str s) [.ref p] h Q := ⟨_, ss, g, isStrs_map ss, hz, q⟩
theorem m_setd {a : Nat} {kvs : List (Ky × Vl)} {k d : Vl} {ky : Ky} (g : get h a = some (.dct kvs)) (e : kyOf k = some ky) (hz : kvs.length < SZ) (q1 : ∀ v, dget kvs ky = some v → Q v h) (q2 : dget kvs ky = none → Q d (put h a (.dct (dput kvs ky d)))) : wMt .dct .setdefault (.ref a) [k, d] h Q := .inl ⟨kvs, ky, g, e, hz, q1, q2⟩
theorem m_setdT {a : Nat} {kvs : List (List Int × Vl)} {ns : List Int} {d : Vl} (g : get h a = some (.dtp kvs)) (hz : kvs.length < SZ) (q1 : ∀ v, tget kvs ns = some v → Q v h) (q2 : tget kvs ns = none → Q d (put h a (.dtp (tput kvs ns d)))) : wMt .dct .setdefault (.ref a) [.tup (ns.map Vl.int), d] h Q := .inr ⟨kvs, ns, g, rfl, hz, q1, q2⟩
theorem rk_dtp {a : Nat} {kvs : List (List Int × Vl)} {m : Mt} {F : Rk → Prop} (g : get h a = some (.dtp kvs)) (hm : mtHas .dct m = true) (q : F .dct) : ∃ k, rkOf h (.ref a) = some k ∧ mtHas k m = true ∧ F k := ⟨.dct, by simp [rkOf, g], hm, q⟩
theorem m_dget2 {a : Nat} {kvs : List (Ky × Vl)} {k d : Vl} {ky : Ky} (g : get h a = some (.dct kvs)) (e : kyOf k = some ky) (q : Q ((dget kvs ky).getD d) h) : wMt .dct .dget2 (.ref a) [k, d] h Q := ⟨kvs, ky, g, e, q⟩
theorem rk_dct {a : Nat} {kvs : List (Ky × Vl)} {m : Mt} {F : Rk → Prop} (g : get h a = some (.dct kvs)) (hm : mtHas .dct m = true) (q : F .dct) : ∃ k, rkOf h (.ref a) = some k ∧ mtHas k m = true ∧ F k := ⟨.dct, by simp [rkOf, g], hm, q⟩
theorem o_isBl {a b : Bool} (q : Q (.bl (decide (a = b))) h) : wOp .is_ (.bl a) (.bl b) h Q := q
theorem o_isnBl {a b : Bool} (q : Q (.bl (!decide (a = b))) h) : wOp .isn (.bl a) (.bl b) h Q := q
theorem m_strip {a b : List Nat} (hz : a.length ≤ SZ) (q : ∀ s, (s = [] ↔ ∀ c, c ∈ a → c ∈ b) → Q (.str s) h) : wMt .str .strip (.str a) [.str b] h Q := ⟨hz, q⟩
theorem getl_ok {a : Nat} {xs : List Vl} {i : Int} {v : Vl} (g : get h a = some (.lst xs)) (h0 : 0 ≤ i) (e : atI xs i = some v) (q : Q v h) : wGetL (.ref a) (.int i) h Q := ⟨a, xs, i, v, rfl, rfl, g, h0, e, q⟩
theorem m_sindex {x : Bool} (q : Q (.int (if x = true then 1 else 0)) h) : wMt .str .index (.str [48, 49]) [.str [if x = true then 49 else 48]] h Q := ⟨rfl, x, rfl, q⟩
theorem x_setL {a j : Nat} {xs : List Vl} {v : Vl} {F : AH → Prop} (g : get h a = some (.lst xs)) (hl : xs.length = j + 1) (hz : xs.length ≤ SZ) (q : F (put h a (.lst (xs.set j v)))) : wSetIx (.ref a) (.int (-1)) v h F :=
  .inl ⟨xs, -1, j, rfl, g, by omega, by omega, by rw [if_neg (by omega)]; omega, by omega, q⟩
theorem m_count {c : Nat} {s : List Nat} (q : Q (.int (s.count c : Nat)) h) : wMt .str .count (.str s) [.str [c]] h Q := ⟨c, rfl, q⟩
theorem x_gd {kvs : List (List Nat × List Nat)} {s v : List Nat} (e : kvs.lookup s = some v) (q : Q (.str v) h) : wIx (.gd kvs) (.str s) h Q := ⟨v, e, q⟩
theorem x_str {s : List Nat} {i : Int} {c : Nat} (hz : s.length ≤ SZ) (e : atI s i = some c) (q : Q (.str [c]) h) : wIx (.str s) (.int i) h Q := ⟨hz, c, e, q⟩
theorem c_str {s : List Nat} {lo hi : Option Int} (hz : s.length ≤ SZ) (q : Q (.str (cut s lo hi)) h) : wSlc (.str s) lo hi h Q := ⟨hz, q⟩
theorem x_pick1 {a : Nat} {i x0 : Int} (g : get h a = some (.lst [.int x0])) (h0 : 0 ≤ i) (h1 : i < 1) (q : ∀ v, (v = x0) → Q (.int v) h) : wIx (.ref a) (.int i) h Q := by
  have w : ∃ v, atI [Vl.int x0] i = some (.int v) ∧ (v = x0) := by
    unfold atI; rw [if_pos h0]
    obtain ⟨j, rfl⟩ : ∃ j : Nat, i = j := ⟨i.toNat, by omega⟩
    simp only [Int.toNat_natCast]
    match j, h1 with
    | 0, _ => exact ⟨x0, rfl, by simp⟩
    | j + 1, h1 => exfalso; omega
  obtain ⟨v, e, m⟩ := w
  exact x_lst g e (q v m)
theorem x_pick2 {a : Nat} {i x0 x1 : Int} (g : get h a = some (.lst [.int x0, .int x1])) (h0 : 0 ≤ i) (h1 : i < 2) (q : ∀ v, (v = x0 ∨ v = x1) → Q (.int v) h) : wIx (.ref a) (.int i) h Q := by
  have w : ∃ v, atI [Vl.int x0, Vl.int x1] i = some (.int v) ∧ (v = x0 ∨ v = x1) := by
    unfold atI; rw [if_pos h0]
    obtain ⟨j, rfl⟩ : ∃ j : Nat, i = j := ⟨i.toNat, by omega⟩
    simp only [Int.toNat_natCast]
    match j, h1 with
    | 0, _ => exact ⟨x0, rfl, by simp⟩
    | 1, _ => exact ⟨x1, rfl, by simp⟩
    | j + 2, h1 => exfalso; omega
  obtain ⟨v, e, m⟩ := w
  exact x_lst g e (q v m)
theorem x_pick3 {a : Nat} {i x0 x1 x2 : Int} (g : get h a = some (.lst [.int x0, .int x1, .int x2])) (h0 : 0 ≤ i) (h1 : i < 3) (q : ∀ v, (v = x0 ∨ v = x1 ∨ v = x2) → Q (.int v) h) : wIx (.ref a) (.int i) h Q := by
  have w : ∃ v, atI [Vl.int x0, Vl.int x1, Vl.int x2] i = some (.int v) ∧ (v = x0 ∨ v = x1 ∨ v = x2) := by
    unfold atI; rw [if_pos h0]
    obtain ⟨j, rfl⟩ : ∃ j : Nat, i = j := ⟨i.toNat, by omega⟩
    simp only [Int.toNat_natCast]
    match j, h1 with
    | 0, _ => exact ⟨x0, rfl, by simp⟩
    | 1, _ => exact ⟨x1, rfl, by simp⟩
    | 2, _ => exact ⟨x2, rfl, by simp⟩
    | j + 3, h1 => exfalso; omega
  obtain ⟨v, e, m⟩ := w
  exact x_lst g e (q v m)
theorem x_pick4 {a : Nat} {i x0 x1 x2 x3 : Int} (g : get h a = some (.lst [.int x0, .int x1, .int x2, .int x3])) (h0 : 0 ≤ i) (h1 : i < 4) (q : ∀ v, (v = x0 ∨ v = x1 ∨ v = x2 ∨ v = x3) → Q (.int v) h) : wIx (.ref a) (.int i) h Q := by
  have w : ∃ v, atI [Vl.int x0, Vl.int x1, Vl.int x2, Vl.int x3] i = some (.int v) ∧ (v = x0 ∨ v = x1 ∨ v = x2 ∨ v = x3) := by
    unfold atI; rw [if_pos h0]
    obtain ⟨j, rfl⟩ : ∃ j : Nat, i = j := ⟨i.toNat, by omega⟩
    simp only [Int.toNat_natCast]
    match j, h1 with
    | 0, _ => exact ⟨x0, rfl, by simp⟩
    | 1, _ => exact ⟨x1, rfl, by simp⟩
    | 2, _ => exact ⟨x2, rfl, by simp⟩
    | 3, _ => exact ⟨x3, rfl, by simp⟩
    | j + 4, h1 => exfalso; omega
  obtain ⟨v, e, m⟩ := w
  exact x_lst g e (q v m)
theorem x_pick5 {a : Nat} {i x0 x1 x2 x3 x4 : Int} (g : get h a = some (.lst [.int x0, .int x1, .int x2, .int x3, .int x4])) (h0 : 0 ≤ i) (h1 : i < 5) (q : ∀ v, (v = x0 ∨ v = x1 ∨ v = x2 ∨ v = x3 ∨ v = x4) → Q (.int v) h) : wIx (.ref a) (.int i) h Q := by
  have w : ∃ v, atI [Vl.int x0, Vl.int x1, Vl.int x2, Vl.int x3, Vl.int x4] i = some (.int v) ∧ (v = x0 ∨ v = x1 ∨ v = x2 ∨ v = x3 ∨ v = x4) := by
    unfold atI; rw [if_pos h0]
    obtain ⟨j, rfl⟩ : ∃ j : Nat, i = j := ⟨i.toNat, by omega⟩
    simp only [Int.toNat_natCast]
    match j, h1 with
    | 0, _ => exact ⟨x0, rfl, by simp⟩
    | 1, _ => exact ⟨x1, rfl, by simp⟩
    | 2, _ => exact ⟨x2, rfl, by simp⟩
    | 3, _ => exact ⟨x3, rfl, by simp⟩
    | 4, _ => exact ⟨x4, rfl, by simp⟩
    | j + 5, h1 => exfalso; omega
  obtain ⟨v, e, m⟩ := w
  exact x_lst g e (q v m)
theorem x_pick6 {a : Nat} {i x0 x1 x2 x3 x4 x5 : Int} (g : get h a = some (.lst [.int x0, .int x1, .int x2, .int x3, .int x4, .int x5])) (h0 : 0 ≤ i) (h1 : i < 6) (q : ∀ v, (v = x0 ∨ v = x1 ∨ v = x2 ∨ v = x3 ∨ v = x4 ∨ v = x5) → Q (.int v) h) : wIx (.ref a) (.int i) h Q := by
  have w : ∃ v, atI [Vl.int x0, Vl.int x1, Vl.int x2, Vl.int x3, Vl.int x4, Vl.int x5] i = some (.int v) ∧ (v = x0 ∨ v = x1 ∨ v = x2 ∨ v = x3 ∨ v = x4 ∨ v = x5) := by
    unfold atI; rw [if_pos h0]
    obtain ⟨j, rfl⟩ : ∃ j : Nat, i = j := ⟨i.toNat, by omega⟩
    simp only [Int.toNat_natCast]
    match j, h1 with
    | 0, _ => exact ⟨x0, rfl, by simp⟩
    | 1, _ => exact ⟨x1, rfl, by simp⟩
    | 2, _ => exact ⟨x2, rfl, by simp⟩
    | 3, _ => exact ⟨x3, rfl, by simp⟩
    | 4, _ => exact ⟨x4, rfl, by simp⟩
    | 5, _ => exact ⟨x5, rfl, by simp⟩
    | j + 6, h1 => exfalso; omega
  obtain ⟨v, e, m⟩ := w
  exact x_lst g e (q v m)
theorem x_pick7 {a : Nat} {i x0 x1 x2 x3 x4 x5 x6 : Int} (g : get h a = some (.lst [.int x0, .int x1, .int x2, .int x3, .int x4, .int x5, .int x6])) (h0 : 0 ≤ i) (h1 : i < 7) (q : ∀ v, (v = x0 ∨ v = x1 ∨ v = x2 ∨ v = x3 ∨ v = x4 ∨ v = x5 ∨ v = x6) → Q (.int v) h) : wIx (.ref a) (.int i) h Q := by
  have w : ∃ v, atI [Vl.int x0, Vl.int x1, Vl.int x2, Vl.int x3, Vl.int x4, Vl.int x5, Vl.int x6] i = some (.int v) ∧ (v = x0 ∨ v = x1 ∨ v = x2 ∨ v = x3 ∨ v = x4 ∨ v = x5 ∨ v = x6) := by
    unfold atI; rw [if_pos h0]
    obtain ⟨j, rfl⟩ : ∃ j : Nat, i = j := ⟨i.toNat, by omega⟩
    simp only [Int.toNat_natCast]
    match j, h1 with
    | 0, _ => exact ⟨x0, rfl, by simp⟩
    | 1, _ => exact ⟨x1, rfl, by simp⟩
    | 2, _ => exact ⟨x2, rfl, by simp⟩
    | 3, _ => exact ⟨x3, rfl, by simp⟩
    | 4, _ => exact ⟨x4, rfl, by simp⟩
    | 5, _ => exact ⟨x5, rfl, by simp⟩
    | 6, _ => exact ⟨x6, rfl, by simp⟩
    | j + 7, h1 => exfalso; omega
  obtain ⟨v, e, m⟩ := w
  exact x_lst g e (q v m)
theorem x_pick8 {a : Nat} {i x0 x1 x2 x3 x4 x5 x6 x7 : Int} (g : get h a = some (.lst [.int x0, .int x1, .int x2, .int x3, .int x4, .int x5, .int x6, .int x7])) (h0 : 0 ≤ i) (h1 : i < 8) (q : ∀ v, (v = x0 ∨ v = x1 ∨ v = x2 ∨ v = x3 ∨ v = x4 ∨ v = x5 ∨ v = x6 ∨ v = x7) → Q (.int v) h) : wIx (.ref a) (.int i) h Q := by
  have w : ∃ v, atI [Vl.int x0, Vl.int x1, Vl.int x2, Vl.int x3, Vl.int x4, Vl.int x5, Vl.int x6, Vl.int x7] i = some (.int v) ∧ (v = x0 ∨ v = x1 ∨ v = x2 ∨ v = x3 ∨ v = x4 ∨ v = x5 ∨ v = x6 ∨ v = x7) := by
    unfold atI; rw [if_pos h0]
    obtain ⟨j, rfl⟩ : ∃ j : Nat, i = j := ⟨i.toNat, by omega⟩
    simp only [Int.toNat_natCast]
    match j, h1 with
    | 0, _ => exact ⟨x0, rfl, by simp⟩
    | 1, _ => exact ⟨x1, rfl, by simp⟩
    | 2, _ => exact ⟨x2, rfl, by simp⟩
    | 3, _ => exact ⟨x3, rfl, by simp⟩
    | 4, _ => exact ⟨x4, rfl, by simp⟩
    | 5, _ => exact ⟨x5, rfl, by simp⟩
    | 6, _ => exact ⟨x6, rfl, by simp⟩
    | 7, _ => exact ⟨x7, rfl, by simp⟩
    | j + 8, h1 => exfalso; omega
  obtain ⟨v, e, m⟩ := w
  exact x_lst g e (q v m)
theorem o_powL {a b c : Int} (e : a ^ b.toNat = c) (k : 0 ≤ b ∧ b ≤ 1000 ∧ a.natAbs < 2 ^ 64) (q : Q (.int c) h) : wOp .pow (.int a) (.int b) h Q := ⟨k, by rw [e]; exact q⟩
def LrgK (Q : Qv) (x y : Vl) (h2 : AH) : Prop := ∃ i j, x = .int i ∧ y = .int j ∧ (-4611686018427387904 ≤ i ∧ i < 4611686018427387904 ∧ -4611686018427387904 ≤ j ∧ j < 4611686018427387904 ∧ (j - i).toNat ≤ SZ) ∧
      wNew h2 (.lst ((List.range (j - i).toNat).map fun (k : Nat) => Vl.int (i + (k : Int)))) Q
theorem e_lrg {a b : E} (q : wE P Φ a σ h (fun x h1 => wE P Φ b σ h1 (fun y h2 => LrgK Q x y h2) X) X) : wE P Φ (.lrg a b) σ h Q X := q
theorem lrg_ok {i j : Int} (c : -4611686018427387904 ≤ i ∧ i < 4611686018427387904 ∧ -4611686018427387904 ≤ j ∧ j < 4611686018427387904) (hz : (j - i).toNat ≤ SZ) (q : wNew h (.lst ((List.range (j - i).toNat).map fun (k : Nat) => Vl.int (i + (k : Int)))) Q) : LrgK Q (.int i) (.int j) h :=
  ⟨i, j, rfl, rfl, ⟨c.1, c.2.1, c.2.2.1, c.2.2.2, hz⟩, q⟩
def NsetK (Q : Qv) (x : Vl) (h1 : AH) : Prop := (∃ p xs ns, x = .ref p ∧ isLst h1 p xs ∧ isInts xs = some ns ∧ ns.length ≤ 4000 ∧ Q (.int ((dst ns).length : Nat)) h1) ∨ ∃ (p : Nat) (ss : List (List Nat)), x = .ref p ∧ isLst h1 p (ss.map Vl.str) ∧ ss.length ≤ 4000 ∧ ss.Nodup ∧ Q (.int (ss.length : Nat)) h1
theorem e_nset {a : E} (q : wE P Φ a σ h (fun x h1 => NsetK Q x h1) X) : wE P Φ (.nset a) σ h Q X := q
theorem nset_ok {p : Nat} {ns : List Int} (g : get h p = some (.lst (ns.map Vl.int))) (hl : ns.length ≤ 4000) (q : Q (.int ((dst ns).length : Nat)) h) : NsetK Q (.ref p) h := .inl ⟨p, _, ns, rfl, .inl g, isInts_map ns, hl, q⟩
theorem nset_texts {p : Nat} {ss : List (List Nat)} (g : get h p = some (.lst (ss.map Vl.str))) (hl : ss.length ≤ 4000) (hn : ss.Nodup) (q : Q (.int (ss.length : Nat)) h) : NsetK Q (.ref p) h := .inr ⟨p, ss, rfl, .inl g, hl, hn, q⟩
def SsetK (Q : Qv) (x : Vl) (h1 : AH) : Prop := ∃ (p : Nat) (ns : List Int), x = .ref p ∧ isLst h1 p (ns.map Vl.int) ∧ ns.length ≤ 4000 ∧ ∀ ms : List Int, ms.Pairwise (· < ·) → (∀ k : Int, k ∈ ms ↔ k ∈ ns) → wNew h1 (.lst (ms.map Vl.int)) Q
theorem e_sset {a : E} (q : wE P Φ a σ h (fun x h1 => SsetK Q x h1) X) : wE P Φ (.sset a) σ h Q X := q
theorem sset_ok {p : Nat} {ns : List Int} (g : get h p = some (.lst (ns.map Vl.int))) (hl : ns.length ≤ 4000) (q : ∀ ms : List Int, ms.Pairwise (· < ·) → (∀ k : Int, k ∈ ms ↔ k ∈ ns) → wNew h (.lst (ms.map Vl.int)) Q) : SsetK Q (.ref p) h := ⟨p, ns, rfl, .inl g, hl, q⟩
def StrK (P : PG) (Q : Qv) (x : Vl) (h1 : AH) : Prop := (∃ i, x = .int i ∧ i.natAbs < 2 ^ 1900 ∧ Q (.str (itoa i)) h1) ∨ ∃ d, DaOf h1 x d ∧ d.ok = true ∧ d.sho = true ∧ d.dep ≤ 50 ∧ d.wid ≤ SZ ∧ Q (.str (P.top d)) h1
theorem e_strd {a : E} (q : wE P Φ a σ h (fun x h1 => StrK P Q x h1) X) : wE P Φ (.strd a) σ h Q X := q
theorem b_str1 {i : Int} (hi : i.natAbs < 2 ^ 1900) (q : Q (.str (itoa i)) h) : StrK P Q (.int i) h := .inl ⟨i, rfl, hi, q⟩
theorem strd_ok {x : Vl} {d : Da} (hd : DaOf h x d) (h1 : d.seqB = true) (h2 : d.ok = true) (h3 : d.sho = true) (h4 : d.dep ≤ 50) (h5 : d.wid ≤ SZ) (q : Q (.str (P.shw d)) h) : StrK P Q x h := .inr ⟨d, hd, h2, h3, h4, h5, by cases d <;> first | exact q | (simp [Da.seqB] at h1; done)⟩
theorem strd_any {x : Vl} {d : Da} (hd : DaOf h x d) (h2 : d.ok = true) (h3 : d.sho = true) (h4 : d.dep ≤ 50) (h5 : d.wid ≤ SZ) (q : Q (.str (P.top d)) h) : StrK P Q x h := .inr ⟨d, hd, h2, h3, h4, h5, q⟩
/-- the same over and over -/
theorem dst_rep {m : Int} : ∀ {ns : List Int}, (∀ n ∈ ns, n = m) → (dst ns).length ≤ 1 := by
  have key : ∀ (ns acc : List Int), (∀ n ∈ ns, n = m) → (acc = [] ∨ acc = [m]) → (ns.foldl (fun acc x => if (acc.any fun y => y == x) = true then acc else acc ++ [x]) acc).length ≤ 1 := by
    intro ns
    induction ns with
    | nil => intro acc _ ha; rcases ha with rfl | rfl <;> simp
    | cons n ns ih =>
      intro acc hn ha
      have := hn n (by simp)
      subst this
      refine ih _ (fun x hx => hn x (List.mem_cons_of_mem _ hx)) ?_
      rcases ha with rfl | rfl <;> simp
  exact fun {ns} hn => key ns [] hn (.inl rfl)
theorem o_inT {i : Int} {ns : List Int} (q : Q (.bl (decide (i ∈ ns))) h) : wOp .in_ (.int i) (.tup (ns.map Vl.int)) h Q := ⟨ns, isInts_map ns, by simpa using q⟩
theorem o_ninT {i : Int} {ns : List Int} (q : Q (.bl (!decide (i ∈ ns))) h) : wOp .nin (.int i) (.tup (ns.map Vl.int)) h Q := ⟨ns, isInts_map ns, by simpa using q⟩
theorem o_inTS {i : List Nat} {ns : List (List Nat)} (q : Q (.bl (decide (i ∈ ns))) h) : wOp .in_ (.str i) (.tup (ns.map Vl.str)) h Q := ⟨ns, isStrs_map ns, by simpa using q⟩
theorem o_ninTS {i : List Nat} {ns : List (List Nat)} (q : Q (.bl (!decide (i ∈ ns))) h) : wOp .nin (.str i) (.tup (ns.map Vl.str)) h Q := ⟨ns, isStrs_map ns, by simpa using q⟩
theorem x_last {a : Nat} {xs : List Vl} {v : Vl} (g : get h a = some (.lst (xs ++ [v]))) (q : Q v h) : wIx (.ref a) (.int (-1)) h Q := by
  refine .inl ⟨_, -1, v, rfl, .inl g, ?_, q⟩
  unfold atI
  rw [if_neg (by omega), if_pos (by simp; omega)]
  have : ((-1 : Int) + ((xs ++ [v]).length : Nat)).toNat = xs.length := by simp; omega
  rw [this]
  simp
theorem b_int1s {d : Nat} (hd : d < 10) (q : Q (.int (d : Nat)) h) : wBi .int1 [.str [48 + d]] h Q := .inl ⟨d, hd, rfl, q⟩
/-- int of a decimal text -/
theorem b_int1t {s : List Nat} (h0 : s ≠ []) (hl : s.length ≤ 600) (hd : ∀ c ∈ s, 48 ≤ c ∧ c ≤ 57) (q : Q (.int (decV s : Nat)) h) : wBi .int1 [.str s] h Q := .inr ⟨h0, hl, hd, q⟩
theorem b_int1c {b : Bool} (q : Q (.int (if b = true then 1 else 0)) h) : wBi .int1 [.str [if b = true then 49 else 48]] h Q := by
  cases b
  · exact .inl ⟨0, by omega, rfl, q⟩
  · exact .inl ⟨1, by omega, rfl, q⟩
theorem b_any1 {a : Nat} {bs : List Bool} (g : get h a = some (.lst (bs.map Vl.bl))) (q : Q (.bl (bs.any id)) h) : wBi .any1 [.ref a] h Q := ⟨_, bs, .inl g, isBls_map bs, q⟩
theorem b_all1 {a : Nat} {bs : List Bool} (g : get h a = some (.lst (bs.map Vl.bl))) (q : Q (.bl (bs.all id)) h) : wBi .all1 [.ref a] h Q := ⟨_, bs, .inl g, isBls_map bs, q⟩
theorem x_strIn {s : List Nat} {i : Int} (hz : s.length ≤ SZ) (h0 : 0 ≤ i) (h1 : i < s.length) (q : ∀ c, c ∈ s → Q (.str [c]) h) : wIx (.str s) (.int i) h Q := by
  refine ⟨hz, s[i.toNat]'(by omega), ?_, q _ (List.getElem_mem _)⟩
  unfold atI
  rw [if_pos h0]
  exact List.getElem?_eq_getElem _
def AttrK (f : Nat) (Q : Qv) (x : Vl) (h1 : AH) : Prop := ∃ a c fs v, x = .ref a ∧ get h1 a = some (.ins c fs) ∧ fget fs f = some v ∧ Q v h1
theorem e_attrK {o : E} {f : Nat} (q : wE P Φ o σ h (fun x h1 => AttrK f Q x h1) X) : wE P Φ (.attr o f) σ h Q X := q
theorem attr_ok {a c f : Nat} {fs : List (Nat × Vl)} {v : Vl} (g : get h a = some (.ins c fs)) (e : fget fs f = some v) (q : Q v h) : AttrK f Q (.ref a) h := ⟨a, c, fs, v, rfl, g, e, q⟩
def MakeK (P : PG) (Φ : Phi) (c : Nat) (σ : St) (Q : Qv) (X : Xv) (vs : List Vl) (h1 : AH) : Prop := ∃ f, P.init c = some f ∧ ∀ p, get h1 p = none → Φ f (.ref p :: vs) (push h1 p (.ins c [])) (fun v h2 => v = .non ∧ Q (.ref p) h2) (fun e h2 => X e σ h2)
theorem e_make {c : Nat} {es : E} (q : wA P Φ es σ h (fun vs h1 => MakeK P Φ c σ Q X vs h1) X) : wE P Φ (.make c es) σ h Q X := q
theorem make_ok {c f : Nat} {vs : List Vl} (e : P.init c = some f) (q : ∀ p, get h p = none → Φ f (.ref p :: vs) (push h p (.ins c [])) (fun v h2 => v = .non ∧ Q (.ref p) h2) (fun e h2 => X e σ h2)) : MakeK P Φ c σ Q X vs h := ⟨f, e, q⟩
def CmK (P : PG) (Φ : Phi) (m : Nat) (es : E) (σ : St) (Q : Qv) (X : Xv) (x : Vl) (h1 : AH) : Prop := ∃ a c fs f, x = .ref a ∧ get h1 a = some (.ins c fs) ∧ P.meth c m = some f ∧ wA P Φ es σ h1 (fun vs h2 => Φ f (x :: vs) h2 Q (fun e h2 => X e σ h2)) X
theorem e_cm {m : Nat} {o es : E} (q : wE P Φ o σ h (fun x h1 => CmK P Φ m es σ Q X x h1) X) : wE P Φ (.cm m o es) σ h Q X := q
theorem cm_ok {a c m f : Nat} {fs : List (Nat × Vl)} {es : E} (g : get h a = some (.ins c fs)) (e : P.meth c m = some f) (q : wA P Φ es σ h (fun vs h2 => Φ f (.ref a :: vs) h2 Q (fun e h2 => X e σ h2)) X) : CmK P Φ m es σ Q X (.ref a) h := ⟨a, c, fs, f, rfl, g, e, q⟩
def SetAK (f : Nat) (v : Vl) (F : AH → Prop) (x : Vl) (h1 : AH) : Prop := ∃ a c fs, x = .ref a ∧ get h1 a = some (.ins c fs) ∧ fs.length < 1000 ∧ F (put h1 a (.ins c (fput fs f v)))
theorem g_attr {o : E} {f : Nat} {v : Vl} (q : wE P Φ o σ h (fun x h1 => SetAK f v (fun h2 => K σ h2) x h1) X) : wG P Φ (.attr o f) v σ h K X := q
theorem seta_ok {a c f : Nat} {fs gs : List (Nat × Vl)} {v : Vl} {F : AH → Prop} (g : get h a = some (.ins c fs)) (hl : fs.length < 1000) (e : fput fs f v = gs) (q : F (put h a (.ins c gs))) : SetAK f v F (.ref a) h := ⟨a, c, fs, rfl, g, hl, by rw [e]; exact q⟩
theorem m_reverse {a : Nat} {xs : List Vl} (g : get h a = some (.lst xs)) (q : Q .non (put h a (.lst xs.reverse))) : wMt .lst .reverse (.ref a) [] h Q := ⟨xs, g, q⟩
theorem m_clear {a : Nat} {xs : List Vl} (g : get h a = some (.lst xs)) (q : Q .non (put h a (.lst []))) : wMt .lst .clear (.ref a) [] h Q := ⟨xs, g, q⟩
theorem o_addT {as bs : List Vl} (_ha : as ≠ []) (_hb : bs ≠ []) (hz : as.length + bs.length ≤ SZ) (q : Q (.tup (as ++ bs)) h) : wOp .add (.tup as) (.tup bs) h Q := ⟨hz, q⟩
theorem o_addTT {as bs : List Vl} (hz : as.length + bs.length ≤ SZ) (q : Q (.tup (as ++ bs)) h) : wOp .add (.tup as) (.tup bs) h Q := ⟨hz, q⟩
theorem o_mulS {s : List Nat} {k : Int} (h1 : -9223372036854775808 ≤ k) (h2 : k < 9223372036854775808) (hz : s.length * k.toNat ≤ SZ) (q : Q (.str (List.replicate k.toNat s).flatten) h) : wOp .mul (.str s) (.int k) h Q := ⟨h1, h2, hz, q⟩
theorem m_lcount {a : Nat} {bs : List Bool} {b : Bool} (g : get h a = some (.lst (bs.map Vl.bl))) (q : Q (.int (bs.count b : Nat)) h) : wMt .lst .count (.ref a) [.bl b] h Q := ⟨bs, g, q⟩
theorem m_lindex {a j : Nat} {bs : List Bool} {b : Bool} (g : get h a = some (.lst (bs.map Vl.bl))) (hj : bs[j]? = some b) (hm : ∀ m, m < j → bs[m]? ≠ some b) (q : Q (.int (j : Nat)) h) : wMt .lst .index (.ref a) [.bl b] h Q := ⟨bs, j, g, hj, hm, q⟩
theorem m_pop1 {a k : Nat} {i : Int} {xs : List Vl} {v : Vl} (g : get h a = some (.lst xs)) (hi : i = (k : Int)) (hk : k ≤ SZ) (hz : xs[k]? = some v) (q : Q v (put h a (.lst (xs.eraseIdx k)))) : wMt .lst .pop1 (.ref a) [.int i] h Q := ⟨xs, v, k, g, hi, hk, hz, q⟩
theorem m_insert {a k : Nat} {i : Int} {xs : List Vl} {v : Vl} (g : get h a = some (.lst xs)) (hl : xs.length < SZ) (hi : i = (k : Int)) (hk : k ≤ SZ) (q : Q .non (put h a (.lst (xs.take k ++ [v] ++ xs.drop k)))) : wMt .lst .insert (.ref a) [.int i, v] h Q := ⟨xs, k, g, hl, hi, hk, q⟩
theorem m_pop0 {a : Nat} {xs : List Vl} {v : Vl} (g : get h a = some (.lst (xs ++ [v]))) (q : Q v (put h a (.lst xs))) : wMt .lst .pop0 (.ref a) [] h Q := ⟨_, v, g, by simp, by simpa using q⟩
end
end KN

set_option autoImplicit false
/-! dicts keyed by tuples of numbers; the tuples may lie anywhere (the run's own, the module's) -/
namespace L2
open PySem PySem.Spec PyProof.Rows
def tdE (x : List Int × Addr × Value) : DictEntry := ⟨reduceHash (Builtin.Tuple.tupleHashOf (x.1.map hashInt)), .ref x.2.1, x.2.2⟩
def TdR (p : List Int × Addr × V) (q : List Int × Addr × Value) : Prop := p.1 = q.1 ∧ p.2.1 = q.2.1 ∧ RelV p.2.2 q.2.2
def TdP (a : Addr) (kas : List (List Int × Addr × V)) (h : Heap) : Prop := (a == sysModules) = false ∧ kas.length ≤ sizeLine ∧ ∃ xs : List (List Int × Addr × Value), Paired TdR kas xs ∧
  ∃ o es ep, h.get? a = some o ∧ o.ExactDict ∧ o.data = .dict es ep ∧ es.toList = xs.map tdE ∧ (xs.map (·.1)).Nodup
def TD (a : Addr) (kas : List (List Int × Addr × V)) : HO := .ext (TdP a kas)
def valT (kas : List (List Int × Addr × V)) (k : List Int) : Option V := (kas.find? fun p => decide (p.1 = k)).map (·.2.2)
def putT (kas : List (List Int × Addr × V)) (k : List Int) (b : Addr) (v : V) : List (List Int × Addr × V) :=
  if (valT kas k).isSome then kas.map (fun p => if p.1 = k then (p.1, p.2.1, v) else p) else kas ++ [(k, b, v)]
section
variable {P : Program} {w : World} {h h' : Heap} {H : Hp} {a b : Addr} {kas : List (List Int × Addr × V)} {k : List Int}
theorem td_new (R : TdP a kas h) : ObjOk P w H h a (TD a kas) := by
  obtain ⟨y, z, xs, r, o, es, ep, h1, h2⟩ := R
  exact ⟨⟨y, z, xs, r, o, es, ep, h1, h2⟩, ⟨o, h1⟩, fun g1 g2 ⟨y, z, xs, r, o, es, ep, h1, h2⟩ q => ⟨y, z, xs, r, o, es, ep, q o h1, h2⟩⟩
theorem ints_are : ∀ {ks : List Int} {us : List Value}, Vals (ks.map V.int) us → ItemsAre (intKind P w) ks us
  | [], _, r => by rw [List.map_nil] at r; cases r; exact .nil
  | k :: ks, _, r => by
    rw [List.map_cons] at r
    cases r with
    | cons r0 r1 =>
      obtain ⟨t, rfl⟩ := r0
      exact .cons (by simp [intKind, Value.isInt]) (ints_are r1)
theorem td_key {K : PySem.W.Frag} (ok : HOk P w H h) (KX : K.In h) (q : SqT K H b (k.map V.int)) : (tupleKind (intKind P w)).is h k b := by
  rcases q with q | ⟨o, its, n, e, h2, h3, _, r⟩
  · obtain ⟨_, its, r, o, h1, h2, n, h3⟩ := (show ObjOk P w H h b (.tup (k.map V.int)) from rd_of ok q)
    exact ⟨o, its.toArray, n, h1, h2, h3, by simpa using ints_are r⟩
  · exact ⟨o, its, n, KX _ _ e, h2, h3, ints_are r⟩
theorem td_dict (R : TdP a kas h) (hk : ∀ p ∈ kas, (tupleKind (intKind P w)).is h p.1 p.2.1) : (a == sysModules) = false ∧ ∃ xs : List (List Int × Addr × Value), xs.length ≤ sizeLine ∧ Paired TdR kas xs ∧ h.DictOfH (tupleKind (intKind P w)) a xs := by
  obtain ⟨y, z, xs, r, o, es, ep, h1, h2, h3, h4, h5⟩ := R
  refine ⟨y, xs, by rw [← r.length]; exact z, r, o, es, ep, h1, h2, h3, h4, ?_, h5⟩
  clear h4 h5 z h1
  induction r with
  | nil => intro x hx; exact nomatch hx
  | @cons p q ps qs hq t ih =>
    intro x hx
    rcases List.mem_cons.mp hx with e | hx
    · subst e
      have := hk p List.mem_cons_self
      rw [hq.1, hq.2.1] at this
      exact this
    · exact ih (fun p hp => hk p (List.mem_cons_of_mem _ hp)) x hx
theorem td_back {xs : List (List Int × Addr × Value)} (hd : (a == sysModules) = false) (z : kas.length ≤ sizeLine) (r : Paired TdR kas xs) (dd : h.DictOfH (tupleKind (intKind P w)) a xs) : TdP a kas h := by
  obtain ⟨o, es, ep, h1, h2, h3, h4, _, h5⟩ := dd
  exact ⟨hd, z, xs, r, o, es, ep, h1, h2, h3, h4, h5⟩
theorem td_at {xs : List (List Int × Addr × Value)} (r : Paired TdR kas xs) : RelO (valT kas k) ((atKey xs k).map (·.2)) := by
  induction r with
  | nil => exact True.intro
  | @cons p q ps qs hq t ih =>
    by_cases e : p.1 = k
    · have e2 : q.1 = k := hq.1 ▸ e
      simp only [valT, atKey, List.find?_cons, e, e2, decide_true, Option.map_some]
      exact hq.2.2
    · have e2 : ¬ q.1 = k := hq.1 ▸ e
      simp only [valT, atKey, List.find?_cons, e, e2, decide_false] at ih ⊢
      exact ih
theorem td_put {xs : List (List Int × Addr × Value)} {v : V} {u : Value} (r : Paired TdR kas xs) (rv : RelV v u) : Paired TdR (putT kas k b v) (storedH xs k b u) := by
  have e : (valT kas k).isSome = (atKey xs k).isSome := by
    have := (td_at (k := k) r).isSome_eq
    rwa [Option.isSome_map] at this
  unfold putT storedH
  rw [e]
  split
  · rename_i hs
    clear e hs
    induction r with
    | nil => exact .nil
    | @cons p q ps qs hq t ih =>
      refine .cons ?_ ih
      show TdR (if p.1 = k then (p.1, p.2.1, v) else p) (putAt k u q)
      unfold putAt
      by_cases e : p.1 = k
      · rw [if_pos e, if_pos (hq.1 ▸ e)]
        exact ⟨hq.1, hq.2.1, rv⟩
      · rw [if_neg e, if_neg (hq.1 ▸ e)]
        exact hq
  · exact r.snoc ⟨rfl, rfl, rv⟩
theorem putT_len {v : V} : (putT kas k b v).length ≤ kas.length + 1 := by
  unfold putT
  split <;> simp
end
end L2
namespace L2
open PySem PySem.Spec PyProof.Rows
/-! the acts -/
section
variable {X : Cx} {pins : List (Addr × Obj)} {σ : List (Option V)} {H : Hp} {s : Shared} {A : Around} {E : Value → Shared → Prop} {a b : Addr} {kas : List (List Int × Addr × V)} {k : List Int} {v : V} {r : Value}
def TdK (K : PySem.W.Frag) (H : Hp) (kas : List (List Int × Addr × V)) : Prop := ∀ p ∈ kas, SqT K H p.2.1 (p.1.map V.int)
theorem td_open (I : Inv X pins σ H s) (e : H a = some (TD a kas)) (hk : TdK X.K H kas) : kas.length ≤ sizeLine ∧ (a == sysModules) = false ∧ ∃ xs : List (List Int × Addr × Value), xs.length ≤ sizeLine ∧ Paired TdR kas xs ∧ s.heap.DictOfH (tupleKind (intKind X.prog X.w)) a xs := by
  have R : TdP a kas s.heap := (show ObjOk X.prog X.w H s.heap a (TD a kas) from I.hok a _ e).1
  obtain ⟨y, xs, z, r, d⟩ := td_dict R fun p hp => td_key I.hok I.kIn (hk p hp)
  exact ⟨R.2.1, y, xs, z, r, d⟩
theorem tdI_len {Q : Value → Shared → Prop} (I : Inv X pins σ H s) (e : H a = some (TD a kas)) (hk : TdK X.K H kas) (h : ∀ t s', Inv X pins σ H s' → Q (.int kas.length t) s') :
    wpAny (model X.prog X.w) A (call (.builtin "len") [.ref a]) Q E s := by
  obtain ⟨z0, hd, xs, z, r, d⟩ := td_open I e hk
  refine call_len_dictH hd d (by rw [sizeLine_eq] at z; omega) ?_
  rw [← r.length]
  exact h _ _ (I.tok _)
theorem td_typeIs (I : Inv X pins σ H s) (e : H a = some (TD a kas)) : s.TypeIs (.ref a) "dict" := by
  obtain ⟨_, _, xs, _, o, es, ep, h1, h2, _⟩ := (show ObjOk X.prog X.w H s.heap a (TD a kas) from I.hok a _ e).1
  exact ⟨o, h1, h2.1⟩
theorem tdI_in {Q : Value → Shared → Prop} (hu : A.units + 1 < cLine) (I : Inv X pins σ H s) (e : H a = some (TD a kas)) (hk : TdK X.K H kas) (q : SqT X.K H b (k.map V.int)) (h : ∀ s', Inv X pins σ H s' → Q (.bool (valT kas k).isSome) s') :
    wpAny (model X.prog X.w) A (compareOp .In (.ref b) (.ref a)) Q E s := by
  obtain ⟨_, hd, xs, z, r, d⟩ := td_open I e hk
  refine wpAny_in_heap (tupleKind_room_in1 hu) (td_key I.hok I.kIn q) hd d ?_
  have := (td_at (k := k) r).isSome_eq
  rw [Option.isSome_map] at this
  rw [← this]
  exact h _ (I.tok _)
theorem tdI_notIn {Q : Value → Shared → Prop} (hu : A.units + 1 < cLine) (I : Inv X pins σ H s) (e : H a = some (TD a kas)) (hk : TdK X.K H kas) (q : SqT X.K H b (k.map V.int)) (h : ∀ s', Inv X pins σ H s' → Q (.bool (!(valT kas k).isSome)) s') :
    wpAny (model X.prog X.w) A (compareOp .NotIn (.ref b) (.ref a)) Q E s := by
  obtain ⟨_, hd, xs, z, r, d⟩ := td_open I e hk
  refine wpAny_notIn_heap (tupleKind_room_in1 hu) (td_key I.hok I.kIn q) hd d ?_
  have := (td_at (k := k) r).isSome_eq
  rw [Option.isSome_map] at this
  rw [← this]
  exact h _ (I.tok _)
theorem tdI_get {Q : Value → Shared → Prop} (hu : A.units + 1 < cLine) (I : Inv X pins σ H s) (e : H a = some (TD a kas)) (hk : TdK X.K H kas) (q : SqT X.K H b (k.map V.int)) (hv : valT kas k = some v) (h : ∀ w' s', Inv X pins σ H s' → RelV v w' → Q w' s') :
    wpAny (model X.prog X.w) A (getItem (.ref a) (.ref b)) Q E s := by
  obtain ⟨_, hd, xs, z, r, d⟩ := td_open I e hk
  obtain ⟨w', hw, rw'⟩ := RelO.some_of (v := v) (o := (atKey xs k).map (·.2)) (by rw [← hv]; exact td_at r)
  obtain ⟨p, hp, hp2⟩ := Option.map_eq_some_iff.mp hw
  refine wpAny_getItem_heap (tupleKind_room_in1 hu) (td_key I.hok I.kIn q) d hp ?_
  rw [hp2]
  exact h w' _ (I.tok _) rw'
theorem tdI_set {Q : Unit → Shared → Prop} (hu : A.units + 1 < cLine) (I : Inv X pins σ H s) (e : H a = some (TD a kas)) (hk : TdK X.K H kas) (q : SqT X.K H b (k.map V.int)) (rv : RelV v r) (hl : kas.length < sizeLine) (h : ∀ s', Inv X pins σ (upd H a (TD a (putT kas k b v))) s' → Q () s') :
    wpAny (model X.prog X.w) A (setItem (.ref a) (.ref b) r) Q E s := by
  obtain ⟨_, hd, xs, z, rr, d⟩ := td_open I e hk
  refine wpAny_setItem_heap (hsz := z) (tupleKind_room_in1 hu) (td_key I.hok I.kIn q) d fun h' d' hs => ?_
  have he : ∃ q, h'.get? a = some q := let ⟨q, _, _, hq, _⟩ := d'; ⟨q, hq⟩
  exact h _ (d_write (t' := _) I (by rw [e]; exact True.intro) hs he (td_new (td_back hd (by have := putT_len (kas := kas) (k := k) (b := b) (v := v); omega) (td_put rr rv) d')))
theorem tdI_setd {Q : Value → Shared → Prop} (hu : A.units + 1 < cLine) (I : Inv X pins σ H s) (e : H a = some (TD a kas)) (hk : TdK X.K H kas) (q : SqT X.K H b (k.map V.int)) (rv : RelV v r) (hl : kas.length < sizeLine)
    (h1 : ∀ w, valT kas k = some w → ∀ w' s', Inv X pins σ H s' → RelV w w' → Q w' s') (h2 : valT kas k = none → ∀ s', Inv X pins σ (upd H a (TD a (putT kas k b v))) s' → Q r s') :
    wpAny (model X.prog X.w) A (call (.builtin "dict.setdefault") [.ref a, .ref b, r]) Q E s := by
  obtain ⟨_, hd, xs, z, rr, d⟩ := td_open I e hk
  have at_ := td_at (k := k) rr
  refine call_setdefault_heap (hsz := z) (tupleKind_room_in1 hu) (td_key I.hok I.kIn q) hd d (fun p hp => ?_) fun hn h' d' hs => ?_
  · rw [hp] at at_
    cases q0 : valT kas k with
    | none => rw [q0] at at_; exact at_.elim
    | some w => rw [q0] at at_; exact h1 w q0 _ _ (I.tok _) at_
  · rw [hn] at at_
    cases q0 : valT kas k with
    | some w => rw [q0] at at_; exact at_.elim
    | none =>
      have he : ∃ q, h'.get? a = some q := let ⟨q, _, _, hq, _⟩ := d'; ⟨q, hq⟩
      exact h2 q0 _ (d_write (t' := _) I (by rw [e]; exact True.intro) hs he (td_new (td_back hd (by have := putT_len (kas := kas) (k := k) (b := b) (v := v); omega) (td_put rr rv) d')))
theorem pe_dnewTD {pos : Pos} : PE X (.Dict [] [] pos) (fun _ H Q => ∀ p, H p = none → Q (.ref p) (upd H p (TD p []))) := ⟨fun pins s σ H Q I h =>
  wpAny_Dict_empty ⟨.ref s.heap.objs.size, _, I.laid (a := s.heap.objs.size) (o := TD s.heap.objs.size []) (t' := s.toks) (fun _ _ q => Heap.get?_push_of_some _ q) (Nat.le_refl _)
    (td_new ⟨beq_eq_false_iff_ne.mpr (Ne.symm (Nat.ne_of_lt I.big)), Nat.zero_le _, [], .nil, _, #[], 0, Heap.get?_push_size _ rfl, ⟨rfl, rfl, rfl⟩, rfl, rfl, List.nodup_nil⟩), rfl, h _ (I.hok.fresh (Nat.le_refl _))⟩⟩
end
end L2

set_option autoImplicit false
/-! sorted: texts of any number, their order told; pairs; keys of dicts keyed by pairs -/
namespace SrtO
open PySem PyProof.Rows Srt
section
variable {prog : Program} {w : World} {A : Around} {E : Value → Shared → Prop} {s : Shared}
def ltSv (v u : Value) : Bool := decide ((strOf v).cps.toList < (strOf u).cps.toList)
theorem swo_str : Swo ltSv := by
  refine ⟨fun x y h => ?_, fun x y z h1 h2 => ?_⟩
  · exact decide_eq_false (List.lt_asymm (of_decide_eq_true h))
  · have a := of_decide_eq_false h1
    have b := of_decide_eq_false h2
    refine decide_eq_false ?_
    exact List.not_lt.mpr (List.le_trans (List.not_lt.mp a) (List.not_lt.mp b))
theorem str_cmp {vs : List Value} {ss : List PySem.Str} (hS : StrsAre vs ss) : Cmp prog w A s oneType' (fun p => p.1 ∈ vs) (lt2 ltSv) := by
  intro p q hm hm'
  obtain ⟨a, t, e⟩ := hS.all _ hm
  obtain ⟨b, u, e'⟩ := hS.all _ hm'
  show wpAny (model prog w) A (keyLt' oneType' p.1 q.1) (fun r s' => s' = s ∧ r = ltSv p.1 q.1) (fun _ _ => False) s
  rw [e, e', keyLt'_oneType]
  exact oneLt_str ⟨rfl, rfl⟩
theorem strs_sortable {a : Addr} {vs : List Value} {ss : List PySem.Str} (hS : StrsAre vs ss) (h2 : 2 ≤ vs.length) : SortableO prog w A s a vs ltSv := by
  intro h' _
  refine ⟨oneType', fun Q E hq => ?_, str_cmp hS⟩
  match vs, hS, h2 with
  | v1 :: v2 :: rest, hS, _ =>
    rw [keyKind_strs hS]
    exact wpAny_pure hq
  | [], _, h => exact absurd h (by decide)
  | [v], _, h => exact absurd h (by simp)
theorem strs_out {vs out : List Value} {ss : List PySem.Str} (hS : StrsAre vs ss) (hs : Srtd ltSv out) (hb : Stb ltSv out vs) :
    StrsAre out (out.map strOf) ∧ (out.map strOf).Perm ss ∧ (out.map strOf).Pairwise (fun x y => ¬ y.cps.toList < x.cps.toList) := by
  refine ⟨strsAre_map out fun v hv => hS.all v (hb.perm.mem_iff.mp hv), ?_, ?_⟩
  · have q := hb.perm.map strOf
    rw [hS.strs] at q
    exact q
  · exact List.pairwise_map.mpr (hs.imp fun {x y} h => of_decide_eq_false h)
end
end SrtO
namespace L2
open PySem PySem.Spec PyProof.Rows
/-- sorted(xs), texts, any number of them -/
def rSortedStr (K : PySem.W.Frag) : List V → Hp → VK → Prop := fun vs H Q => ∃ (a : Addr) (ns : List Str), vs = [V.ref a] ∧ SqL K H a (ns.map V.str) ∧
  ∀ (ns' : List Str) (p : Addr), ns'.Perm ns → ns'.Pairwise (fun x y => ¬ y.cps.toList < x.cps.toList) → H p = none → Q (.ref p) (upd H p (.lst (ns'.map V.str)))
section
variable {X : Cx}
theorem cr_sortedStr : CallR X (.builtin "sorted") (rSortedStr X.K) := by
  intro pins s σ H vs us Q I r h
  obtain ⟨a, ns, rfl, hs, q⟩ := h
  obtain ⟨its, rv, hl, hz⟩ := I.list hs
  rw [Vals.ref1 r]
  have hi := rv.strs
  refine SrtO.sorted_ord SrtO.swo_str hl.isList (by rw [← rv.length]; exact hz) (fun h2 h₁ a' _ _ => SrtO.strs_sortable hi h2) fun out h1 h2 => ?_
  obtain ⟨k1, k2, k3⟩ := SrtO.strs_out hi h1 h2
  obtain ⟨ep, he'⟩ := PyProof.Rows.sortedAll_at s.heap its out.toArray
  have hlen : ((out.map PyProof.Rows.strOf).map V.str).length ≤ sizeLine := by
    rw [List.length_map, k2.length_eq]
    rw [List.length_map] at hz
    exact hz
  exact ⟨.ref _, upd H (s.heap.objs.size + 1) (.lst ((out.map PyProof.Rows.strOf).map V.str)), I.laid (t' := s.toks) (fun _ _ => PyProof.Rows.sortedAll_old) (Nat.le_succ _) ⟨hlen, out, ep, vals_of_strs k1, he'⟩, rfl, q _ _ k2 k3 (I.hok.fresh (Nat.le_succ _))⟩
end
end L2

/-! the keys of a dict keyed by pairs -/
namespace L2
open PySem PySem.Spec PyProof.Rows
theorem perm_map {α β : Type} {f : α → β} {l1 l2 : List β} (h : l1.Perm l2) : ∀ {l : List α}, l2 = l.map f → ∃ l' : List α, l'.Perm l ∧ l1 = l'.map f := by
  induction h with
  | nil => intro l e; exact ⟨[], by have : l = [] := by simpa using e.symm
                                    rw [this], rfl⟩
  | cons x _ ih =>
    intro l e
    cases l with
    | nil => simp at e
    | cons y l =>
      rw [List.map_cons, List.cons.injEq] at e
      obtain ⟨l', h1, h2⟩ := ih e.2
      exact ⟨y :: l', h1.cons y, by rw [List.map_cons, ← h2, e.1]⟩
  | swap x y r =>
    intro l e
    match l, e with
    | a :: b :: l, e =>
      simp only [List.map_cons, List.cons.injEq] at e
      exact ⟨b :: a :: l, .swap _ _ _, by simp only [List.map_cons]; rw [e.1, e.2.1, e.2.2]⟩
    | [a], e => simp at e
    | [], e => simp at e
  | trans _ _ ih1 ih2 =>
    intro l e
    obtain ⟨m, h1, h2⟩ := ih2 e
    obtain ⟨m', h3, h4⟩ := ih1 h2
    exact ⟨m', h3.trans h1, h4⟩
theorem isPair_inj {h : Heap} {v : Value} {x y x' y' : Int} (a : Srt.IsPair h v x y) (b : Srt.IsPair h v x' y') : x = x' ∧ y = y' := by
  obtain ⟨a1, o, t, u, n, e, ho, hc, hd⟩ := a
  obtain ⟨a1', o', t', u', n', e', ho', hc', hd'⟩ := b
  subst e
  cases e'
  rw [ho] at ho'
  cases ho'
  rw [hd] at hd'
  simp at hd'
  exact ⟨hd'.1.1.1, hd'.1.2.1⟩
open Classical in
noncomputable def prOf (h : Heap) (v : Value) : Int × Int := if e : ∃ q : Int × Int, Srt.IsPair h v q.1 q.2 then e.choose else (0, 0)
theorem prOf_eq {h : Heap} {v : Value} {x y : Int} (a : Srt.IsPair h v x y) : prOf h v = (x, y) := by
  unfold prOf
  have e : ∃ q : Int × Int, Srt.IsPair h v q.1 q.2 := ⟨(x, y), a⟩
  rw [dif_pos e]
  obtain ⟨h1, h2⟩ := isPair_inj e.choose_spec a
  exact Prod.ext h1 h2
theorem td_pair {P : Program} {w : World} {h : Heap} {b : Addr} {x y : Int} (t : (tupleKind (intKind P w)).is h [x, y] b) : Srt.IsPair h (.ref b) x y := by
  obtain ⟨o, its, n, h1, h2, h3, h4⟩ := t
  obtain ⟨its⟩ := its
  match its, h4 with
  | [v1, v2], .cons e1 (.cons e2 .nil) =>
    obtain ⟨t1, rfl⟩ := Value.isInt_shape e1
    obtain ⟨t2, rfl⟩ := Value.isInt_shape e2
    exact ⟨b, o, t1, t2, n, rfl, h1, h2, h3⟩
end L2

namespace L2
open PySem PySem.Spec PyProof.Rows
section
variable {X : Cx}
theorem td_entry {xs : List (List Int × Addr × Value)} {es : Array DictEntry} (he : es.toList = xs.map tdE) (j : Nat) : es[j]? = (xs[j]?).map tdE := by
  rw [← Array.getElem?_toList, he, List.getElem?_map]
theorem td_acc {xs : List (List Int × Addr × Value)} {es : Array DictEntry} {acc : Array Value} (he : es.toList = xs.map tdE) (it : ItemsOf (fun i v => ∃ en : DictEntry, es[i]? = some en ∧ v = en.key) acc es.size) :
    acc.toList = xs.map fun x => Value.ref x.2.1 := by
  have l1 : es.size = xs.length := by
    have := congrArg List.length he
    rwa [Array.length_toList, List.length_map] at this
  have hl : acc.toList.length = xs.length := by rw [Array.length_toList, it.1]; exact l1
  apply List.ext_getElem?
  intro j
  rw [List.getElem?_map]
  cases hj : acc.toList[j]? with
  | none =>
    have h1 := List.getElem?_eq_none_iff.mp hj
    rw [List.getElem?_eq_none (by omega)]
    all_goals rfl
  | some v =>
    obtain ⟨en, hen, hv⟩ := it.2 j v (by rw [← Array.getElem?_toList]; exact hj)
    have qe := td_entry he j
    rw [hen] at qe
    cases hb : xs[j]? with
    | none =>
      rw [hb] at qe
      exact nomatch (show some en = none from qe)
    | some b =>
      rw [hb] at qe
      have e2 : en = tdE b := Option.some.inj qe
      rw [hv, e2]
      all_goals rfl
theorem td_addrs {kas : List (List Int × Addr × V)} {xs : List (List Int × Addr × Value)} (r : Paired TdR kas xs) : kas.map (fun p => (p.1, p.2.1)) = xs.map fun p => (p.1, p.2.1) := by
  induction r with
  | nil => rfl
  | cons h t ih => rw [List.map_cons, List.map_cons, ih, h.1, h.2.1]
/-- list(d), d keyed by tuples of ints -/
theorem cr_listTd (hc : X.calm = true) : CallR X (.type "list") (fun vs H Q => ∃ (a : Addr) (kas : List (List Int × Addr × V)), vs = [V.ref a] ∧ H a = some (TD a kas) ∧ TdK X.K H kas ∧
    ∀ p, H p = none → Q (.ref p) (upd H p (.lst (kas.map fun q => V.ref q.2.1)))) := by
  intro pins s σ H vs us Q I r h
  obtain ⟨a, kas, rfl, e, hk, q⟩ := h
  obtain ⟨u, rfl, rx⟩ := r.one
  cases rx
  obtain ⟨hs, z, xs, pr, o, es, ep, ho, hx, hdt, he, hn⟩ := (show ObjOk X.prog X.w H s.heap a (TD a kas) from I.hok a _ e).1
  have l1 : es.size = xs.length := by
    have := congrArg List.length he
    rwa [Array.length_toList, List.length_map] at this
  have l2 : kas.length = xs.length := Paired.length pr
  refine PySem.W.kdl_call (kdl_raw hs hx hdt) (I.ok.hd hc) ho (by omega) fun h' tk acc' c' kp e' it => ?_
  have ea := td_acc he it
  have ek : kas.map (fun q => V.ref q.2.1) = xs.map fun q => V.ref q.2.1 := by
    have := congrArg (List.map fun p : List Int × Addr => V.ref p.2) (td_addrs pr)
    rw [List.map_map, List.map_map] at this
    exact this
  have rv : Vals (kas.map fun q => V.ref q.2.1) acc'.toList := by
    rw [ek, ea]
    have := vals_refs (xs.map fun x => x.2.1)
    rw [List.map_map, List.map_map] at this
    exact this
  refine ⟨.ref s.heap.objs.size, _, I.laid (t' := tk) (o := .lst (kas.map fun q => V.ref q.2.1)) kp (Nat.le_refl _) ?_, rfl, q _ (I.hok.fresh (Nat.le_refl _))⟩
  exact ⟨by rw [List.length_map]; exact z, acc'.toList, c', rv, by rw [Array.toArray_toList]; exact e'⟩
/-- sorted(d), d keyed by pairs of ints, any number of them -/
theorem cr_sortedTd (hc : X.calm = true) : CallR X (.builtin "sorted") (fun vs H Q => ∃ (a : Addr) (kas : List (List Int × Addr × V)) (g : List Int × Addr × V → Int × Int), vs = [V.ref a] ∧ H a = some (TD a kas) ∧ TdK X.K H kas ∧ (∀ p ∈ kas, p.1 = [(g p).1, (g p).2]) ∧
    ∀ (ks : List (List Int × Addr × V)) p, ks.Perm kas → ks.Pairwise (fun x y => SrtO.lexB (g y) (g x) = false) → H p = none → Q (.ref p) (upd H p (.lst (ks.map fun q => V.ref q.2.1)))) := by
  intro pins s σ H vs us Q I r h
  obtain ⟨a, kas, g, rfl, e, hk, hg, q⟩ := h
  obtain ⟨u, rfl, rx⟩ := r.one
  cases rx
  obtain ⟨hs, z, xs, pr, o, es, ep, ho, hx, hdt, he, hn⟩ := (show ObjOk X.prog X.w H s.heap a (TD a kas) from I.hok a _ e).1
  have l1 : es.size = xs.length := by
    have := congrArg List.length he
    rwa [Array.length_toList, List.length_map] at this
  have l2 : kas.length = xs.length := Paired.length pr
  refine Calls.call_function_entry PyProof.Rows.kind_sorted PyProof.Rows.plain_sorted PyProof.Rows.entry_sorted (PyProof.Rows.args_sorted1 _) ?_
  unfold Builtin.«sorted»
  refine wpAny_bind (m := checkCount "sorted" 1 1 _) (wpAny_pure ?_)
  refine wpAny_bind (PySem.W.kdu_collect (A := X.A.in1) (kdl_raw hs hx hdt) (I.ok.hd hc) ho (by omega) fun h' tk acc kp it => ?_)
  have ea := td_acc he it
  have ek : acc.toList = kas.map fun q => Value.ref q.2.1 := by
    rw [ea]
    have := congrArg (List.map fun p : List Int × Addr => Value.ref p.2) (td_addrs pr)
    rw [List.map_map, List.map_map] at this
    exact this.symm
  have hal : acc.toList.length = kas.length := by rw [ek, List.length_map]
  have I1 : Inv X pins σ H { s with heap := h', toks := tk } := I.kept kp
  have isp : ∀ p ∈ kas, Srt.IsPair h' (.ref p.2.1) (g p).1 (g p).2 := fun p hp => by
    have := td_key I1.hok I1.kIn (hk p hp)
    rw [hg p hp] at this
    exact td_pair this
  refine wpAny_bind (wpAny_newList ?_ (by rw [hal]; exact z))
  have hoL : (h'.push (seqObj "list" acc.toList.toArray 0)).get? h'.objs.size = some (seqObj "list" acc.toList.toArray 0) := Heap.get?_push_size _ rfl
  have hp2 : ∀ v ∈ acc.toList, Srt.IsPair (h'.push (seqObj "list" acc.toList.toArray 0)) v (prOf h' v).1 (prOf h' v).2 := fun v hv => by
    rw [ek] at hv
    obtain ⟨p, hp, rfl⟩ := List.mem_map.mp hv
    rw [prOf_eq (isp p hp)]
    exact (isp p hp).keeps fun b o e _ => Heap.get?_push_of_some _ e
  show wpAny _ _ _ _ _ { s with heap := h'.push (seqObj "list" acc.toList.toArray 0), toks := tk }
  refine wpAny_bind (wpAny_holding (wpAny_call_entry PyProof.Rows.slot_list_sort ⟨_, hoL, rfl⟩ PyProof.Rows.entry_list_sort
    (SrtO.list_sort_ord (s := { s with heap := h'.push (seqObj "list" acc.toList.toArray 0), toks := tk }) (SrtO.swo_lex (prOf h')) hoL (by rw [hal]; exact z)
      (fun h2 => SrtO.pairs_sortableO (by omega) hp2 fun o e => by
        have e' : some o = some (seqObj "list" acc.toList.toArray 0) := e.symm.trans hoL
        cases e'
        intro c
        exact absurd (Value.type.inj c) (by decide)) fun out hs2 hb => ⟨_, rfl, ?_⟩)
    (PyProof.Rows.args_list_sort _)))
  obtain ⟨e', he'⟩ := PyProof.Rows.sortedHeap_at (vs := acc.toList) (out := out.toArray) hoL
  obtain ⟨ks, p1, p2⟩ := perm_map hb.perm ek
  have hlen : (ks.map fun q => V.ref q.2.1).length ≤ sizeLine := by
    rw [List.length_map, p1.length_eq]
    exact z
  have pw : ks.Pairwise (fun x y => SrtO.lexB (g y) (g x) = false) := by
    have h1 := hs2
    rw [p2] at h1
    have h2 := List.pairwise_map.mp h1
    refine h2.imp_of_mem fun {x y} hx hy h3 => ?_
    have h3 : SrtO.lexB (prOf h' (Value.ref y.2.1)) (prOf h' (Value.ref x.2.1)) = false := h3
    rw [prOf_eq (isp x (p1.mem_iff.mp hx)), prOf_eq (isp y (p1.mem_iff.mp hy))] at h3
    exact h3
  have rv : Vals (ks.map fun q => V.ref q.2.1) out := by
    rw [p2]
    have := vals_refs (ks.map fun x => x.2.1)
    rw [List.map_map, List.map_map] at this
    exact this
  refine wpAny_pure ⟨_, rfl, .ref h'.objs.size, upd H h'.objs.size (.lst (ks.map fun q => V.ref q.2.1)), I1.laid (t' := tk) (fun b u e => ?_) (Nat.le_refl _)
    (show ObjOk X.prog X.w _ _ _ (.lst (ks.map fun q => V.ref q.2.1)) from ⟨hlen, out, e', rv, he'⟩), rfl, q ks _ p1 pw (I1.hok.fresh (Nat.le_refl _))⟩
  have hb : b < h'.objs.size := Heap.lt_size e
  rw [PyProof.Rows.sortedHeap_old (Nat.ne_of_lt hb) (by rw [size_push']; exact Nat.lt_succ_of_lt hb)]
  exact Heap.get?_push_of_some _ e
/-- sorted(xs) of pairs, told by their tuples -/
theorem cr_sortedPairs : CallR X (.builtin "sorted") (fun vs H Q => ∃ (a : Addr) (bs : List Addr) (ps : List (Int × Int)), vs = [V.ref a] ∧ SqL X.K H a (bs.map V.ref) ∧ Paired (fun b (p : Int × Int) => SqT X.K H b [.int p.1, .int p.2]) bs ps ∧
    ∀ (bs' : List Addr) (ms : List (Int × Int)) (p : Addr), Paired (fun b (p : Int × Int) => SqT X.K H b [.int p.1, .int p.2]) bs' ms → ms.Perm ps → ms.Pairwise (fun x y => SrtO.lexB y x = false) → H p = none → Q (.ref p) (upd H p (.lst (bs'.map V.ref)))) := by
  intro pins s σ H vs us Q I r h
  obtain ⟨a, bs, ps, rfl, hs, pr, q⟩ := h
  obtain ⟨its, rv, hl, hz⟩ := I.list hs
  obtain ⟨u, rfl, ru⟩ := vals1 r
  obtain rfl : u = Value.ref a := ru
  have ei : its = bs.map Value.ref := by
    obtain ⟨e1, e2⟩ := refs_back rv fun x m => by
      obtain ⟨b, _, e⟩ := List.mem_map.mp m
      exact ⟨b, e.symm⟩
    have hl2 : its.length = bs.length := by have := rv.length; rw [List.length_map] at this; exact this.symm
    apply List.ext_getElem (by rw [List.length_map]; exact hl2)
    intro j h1 h2
    obtain ⟨b, hb⟩ := e2 _ (List.getElem_mem h1)
    have h3 := congrArg (fun l => l[j]?) e1
    simp only [List.getElem?_map] at h3
    rw [List.getElem?_eq_getElem h1, List.getElem?_eq_getElem (by omega), Option.map_some, Option.map_some, hb] at h3
    rw [hb, List.getElem_map]
    have h4 : V.ref bs[j] = V.ref b := Option.some.inj h3
    cases h4
    rfl
  have isp : ∀ {bs : List Addr} {ps : List (Int × Int)}, Paired (fun b (p : Int × Int) => SqT X.K H b [.int p.1, .int p.2]) bs ps → ∀ b ∈ bs, ∃ p : Int × Int, Srt.IsPair s.heap (.ref b) p.1 p.2 ∧ SqT X.K H b [.int p.1, .int p.2] := by
    intro bs ps pr
    induction pr with
    | nil => intro b hb; cases hb
    | cons h t ih =>
      intro b hb
      rcases List.mem_cons.mp hb with e | hb
      · subst e
        exact ⟨_, td_pair (P := X.prog) (w := X.w) (td_key I.hok I.kIn h), h⟩
      · exact ih b hb
  have isp := isp pr
  have pmap : bs.map (fun b => prOf s.heap (.ref b)) = ps := by
    clear q hs rv hl hz ei isp
    induction pr with
    | nil => rfl
    | cons h t ih => rw [List.map_cons, ih, prOf_eq (td_pair (P := X.prog) (w := X.w) (td_key I.hok I.kIn h))]
  refine SrtO.sorted_pairsO (k := prOf s.heap) hl.isList (by rw [← rv.length]; exact hz) (fun v hv => ?_) fun h' d out h1 h2 kp hd hn => ?_
  · rw [ei] at hv
    obtain ⟨b, hb, rfl⟩ := List.mem_map.mp hv
    obtain ⟨p, h3, _⟩ := isp b hb
    rw [prOf_eq h3]
    exact h3
  · have hp := h2.perm
    obtain ⟨bs', p1, rfl⟩ := perm_map hp ei
    obtain ⟨n, hn⟩ := hn
    have h3 := List.pairwise_map.mp h1
    refine ⟨.ref d, upd H d (.lst (bs'.map V.ref)), I.laid (t' := s.toks) kp hd ⟨?_, _, n, vals_refs bs', hn⟩, rfl, q bs' (bs'.map fun b => prOf s.heap (.ref b)) d ?_ ?_ ?_ (I.hok.fresh hd)⟩
    · rw [List.length_map, p1.length_eq]
      rw [List.length_map] at hz
      exact hz
    · have key : ∀ l : List Addr, (∀ b ∈ l, b ∈ bs) → Paired (fun b (p : Int × Int) => SqT X.K H b [.int p.1, .int p.2]) l (l.map fun b => prOf s.heap (.ref b)) := by
        intro l
        induction l with
        | nil => intro _; exact .nil
        | cons b l ih =>
          intro hb
          rw [List.map_cons]
          refine .cons ?_ (ih fun z hz => hb z (List.mem_cons_of_mem _ hz))
          obtain ⟨p, h4, h5⟩ := isp b (hb b List.mem_cons_self)
          rw [prOf_eq h4]
          exact h5
      exact key bs' fun b hb => p1.mem_iff.mp hb
    · have := p1.map fun b => prOf s.heap (.ref b)
      rw [pmap] at this
      exact this
    · exact List.pairwise_map.mpr h3
end
end L2

set_option autoImplicit false
/-! dict(xs) of pairs (tuple of ints, value); {t: v} -/
namespace L2
open PySem PySem.Spec PyProof.Rows
section
variable {X : Cx}
theorem td_pairs {pins : List (Addr × Obj)} {σ : St} {H : Hp} {s : Shared} (I : Inv X pins σ H s) : ∀ {ts : List Addr} {kas : List (List Int × Addr × V)}, Paired (fun t (q : List Int × Addr × V) => SqT X.K H t [V.ref q.2.1, q.2.2]) ts kas →
    ∃ xs : List (List Int × Addr × Value), Paired TdR kas xs ∧ xs.length = ts.length ∧ ∀ (j : Nat) (x : List Int × Addr × Value), xs[j]? = some x → ∃ b, ts[j]? = some b ∧ s.heap.IsTuple b #[.ref x.2.1, x.2.2]
  | _, _, .nil => ⟨[], .nil, rfl, fun j q e => by simp at e⟩
  | _, _, .cons (a := t) (b := q) h r => by
    obtain ⟨xs, r1, hl, hp⟩ := td_pairs I r
    obtain ⟨its, rv, ht, _⟩ := I.tuple h
    obtain ⟨u, y, ei, ru, ry⟩ := vals2 rv
    subst ei
    obtain rfl : u = Value.ref q.2.1 := ru
    refine ⟨(q.1, q.2.1, y) :: xs, .cons ⟨rfl, rfl, ry⟩ r1, by rw [List.length_cons, List.length_cons, hl], fun j x e => ?_⟩
    cases j with
    | zero =>
      have e' : (q.1, q.2.1, y) = x := Option.some.inj e
      subst e'
      exact ⟨t, rfl, ht⟩
    | succ j =>
      obtain ⟨b, e1, e2⟩ := hp j x (by simpa using e)
      exact ⟨b, by simpa using e1, e2⟩
theorem td_merge {kas : List (List Int × Addr × V)} {xs : List (List Int × Addr × Value)} (r : Paired TdR kas xs) : ∀ {acc : List (List Int × Addr × V)} {ys : List (List Int × Addr × Value)}, Paired TdR acc ys →
    Paired TdR (kas.foldl (fun acc q => putT acc q.1 q.2.1 q.2.2) acc) (storedAllH ys xs) := by
  induction r with
  | nil => intro acc ys h; exact h
  | @cons p q ps qs hq t ih =>
    intro acc ys h
    have e : storedAllH ys (q :: qs) = storedAllH (storedH ys q.1 q.2.1 q.2.2) qs := rfl
    rw [e, List.foldl_cons]
    refine ih ?_
    have := td_put (k := p.1) (b := p.2.1) h hq.2.2
    rw [hq.1, hq.2.1] at this
    rw [hq.1, hq.2.1]
    exact this
theorem putF_len : ∀ (kas acc : List (List Int × Addr × V)), (kas.foldl (fun acc q => putT acc q.1 q.2.1 q.2.2) acc).length ≤ acc.length + kas.length
  | [], _ => by simp
  | q :: kas, acc => by
    rw [List.foldl_cons, List.length_cons]
    have h1 := putF_len kas (putT acc q.1 q.2.1 q.2.2)
    have h2 := putT_len (kas := acc) (k := q.1) (b := q.2.1) (v := q.2.2)
    omega
theorem cr_dictTd (hc : X.calm = true) (hu : X.A.units + 3 < cLine) : CallR X (.type "dict") (fun vs H Q => ∃ (a : Addr) (ts : List Addr) (kas : List (List Int × Addr × V)), vs = [V.ref a] ∧ SqL X.K H a (ts.map V.ref) ∧ Paired (fun t (q : List Int × Addr × V) => SqT X.K H t [V.ref q.2.1, q.2.2]) ts kas ∧ TdK X.K H kas ∧
    ∀ p, H p = none → Q (.ref p) (upd H p (TD p (kas.foldl (fun acc q => putT acc q.1 q.2.1 q.2.2) [])))) := by
  intro pins s σ H vs us Q I r h
  obtain ⟨a, ts, kas, rfl, hq, hp, hk, q⟩ := h
  obtain ⟨u, rfl, ru⟩ := vals1 r
  obtain rfl : u = Value.ref a := ru
  obtain ⟨its, rv, pl, hz⟩ := I.list hq
  have ei := refs_at rv
  subst ei
  rw [List.length_map] at hz
  obtain ⟨xs, rel, hl, hpr⟩ := td_pairs I hp
  obtain ⟨o, n, ho, hcl, hd, hdat⟩ := pl
  have hkl : kas.length = ts.length := by rw [rel.length, hl]
  have isK : ∀ h' : Heap, (∀ b o, s.heap.get? b = some o → h'.get? b = some o) → ∀ x ∈ xs, (tupleKind (intKind X.prog X.w)).is h' x.1 x.2.1 := by
    have base : ∀ p ∈ kas, (tupleKind (intKind X.prog X.w)).is s.heap p.1 p.2.1 := fun p hp => td_key I.hok I.kIn (hk p hp)
    intro h' kp
    clear hpr hp hk q hkl hl
    induction rel with
    | nil => intro x hx; cases hx
    | @cons p x ps xs hq t ih =>
      intro y hy
      rcases List.mem_cons.mp hy with e | hy
      · subst e
        have := base p List.mem_cons_self
        rw [hq.1, hq.2.1] at this
        obtain ⟨o, its, n, h1, h2⟩ := this
        exact ⟨o, its, n, kp _ _ h1, h2⟩
      · exact ih (fun p hp => base p (List.mem_cons_of_mem _ hp)) y hy
  have items : PairItems s.heap (ts.map Value.ref).toArray (fun j => ts.getD j 0) (xs.map fun x => (Value.ref x.2.1, x.2.2)) := by
    refine ⟨by simp [hl], fun j k v e => ?_⟩
    rw [List.getElem?_map] at e
    obtain ⟨x, e1, e2⟩ := Option.map_eq_some_iff.mp e
    obtain ⟨b, e3, e4⟩ := hpr j x e1
    have e5 : ts.getD j 0 = b := by rw [List.getD_eq_getElem?_getD, e3]; rfl
    cases e2
    refine ⟨?_, ?_⟩
    · simp only [List.getElem?_toArray, List.getElem?_map, e3, Option.map_some]
      rw [e5]
    · show PairAt s.heap (ts.getD j 0) _ _
      rw [e5]
      exact .inl e4
  refine call_dict_pairsH (knd := tupleKind (intKind X.prog X.w)) (ps := xs) (PairArg.list a (ts.map Value.ref).toArray (fun j => ts.getD j 0) (xs.map fun x => (Value.ref x.2.1, x.2.2))) (I.ok.hd hc) (tupleKind_room_in1 (A := X.A.in1) (show X.A.units + 1 + 1 < cLine by omega))
    ⟨⟨o, n, ho, hcl, hd, hdat⟩, items⟩ ⟨by rw [List.length_map], fun i key v e => ?_⟩ (fun h' kp x hx => ?_) (by rw [List.length_map, hl]; exact hz) fun h' tk hd' kp => ?_
  · have e : (xs.map fun x => (Value.ref x.2.1, x.2.2))[i]? = some (key, v) := e
    rw [List.getElem?_map] at e
    obtain ⟨x, e1, e2⟩ := Option.map_eq_some_iff.mp e
    cases e2
    exact ⟨x.1, x.2.1, e1, rfl⟩
  · refine isK h' (fun b o e => kp b o (Nat.ne_of_lt (Heap.lt_size e)) (fun z => nomatch z) e) x hx
  · have hm : (s.heap.objs.size == sysModules) = false := beq_eq_false_iff_ne.mpr (Nat.ne_of_gt I.big)
    have kp' : ∀ b o, s.heap.get? b = some o → h'.get? b = some o := fun b o e => kp b o (fun z => nomatch z) e
    have pr := td_merge rel (acc := []) (ys := []) .nil
    have hlen : (kas.foldl (fun acc q => putT acc q.1 q.2.1 q.2.2) []).length ≤ sizeLine := by
      have := putF_len kas []
      rw [List.length_nil] at this
      omega
    exact ⟨.ref s.heap.objs.size, _, I.laid (t' := tk) kp' (Nat.le_refl _) (td_new (td_back hm hlen pr hd')), rfl, q _ (I.hok.fresh (Nat.le_refl _))⟩
end
end L2
namespace L2
open PySem PySem.Spec PyProof.Rows
section
variable {X : Cx}
theorem td_empty (h : Heap) (hb : sysModules < h.objs.size) {P : Program} {w : World} {H : Hp} : ObjOk P w H (h.push { cls := .type "dict", data := .dict #[] }) h.objs.size (TD h.objs.size []) :=
  td_new ⟨beq_eq_false_iff_ne.mpr (Ne.symm (Nat.ne_of_lt hb)), Nat.zero_le _, [], .nil, _, #[], 0, Heap.get?_push_size _ rfl, ⟨rfl, rfl, rfl⟩, rfl, rfl, List.nodup_nil⟩
theorem one_small {α : Type} (x : α) : [x].length ≤ sizeLine := by
  rw [List.length_singleton, sizeLine_eq]; omega
theorem store_one {s2 : Shared} {σ : St} {H2 : Hp} {pins : List (Addr × Obj)} {E : Value → Shared → Prop} {d b : Addr} {ns : List Int} {y : V} {u2 : Value} {Q : PUnit → Shared → Prop} (hu : X.A.units + 1 < cLine) (I2 : Inv X pins σ H2 s2) (e : H2 d = some (TD d [])) (sq : SqT X.K H2 b (ns.map V.int)) (r2 : RelV y u2)
    (q : ∀ s', Inv X pins σ (upd H2 d (TD d [(ns, b, y)])) s' → Q PUnit.unit s') : wpAny (model X.prog X.w) X.A (storeAll d [(.ref b, u2)]) Q E s2 := by
  obtain ⟨hz, hd, xs, z, r, dd⟩ := td_open I2 e (fun p hp => nomatch hp)
  cases r
  have sk := td_key (P := X.prog) (w := X.w) I2.hok I2.kIn sq
  have hr : (tupleKind (intKind X.prog X.w)).room X.A := (show X.A.units < cLine by omega)
  have h1 : ([] : List (List Int × Addr × Value)).length + [(ns, b, u2)].length ≤ sizeLine := by rw [List.length_nil, Nat.zero_add]; exact one_small _
  unfold storeAll
  refine wpAny_storeAllH (knd := tupleKind (intKind X.prog X.w)) hr [(Value.ref b, u2)] [(ns, b, u2)] [] s2 _ ⟨rfl, rfl, sk, trivial⟩ dd h1 fun h' tk d' hs => ?_
  have he : ∃ q, h'.get? d = some q := let ⟨q, _, _, hq, _⟩ := d'; ⟨q, hq⟩
  exact q _ (d_write (t' := tk) I2 (by rw [e]; exact True.intro) hs he (td_new (td_back hd (one_small _) (.cons ⟨rfl, rfl, r2⟩ .nil) d')))
theorem pe_dispT {k v : Expr} {tk tv : TE} {pos : Pos} (hu : X.A.units + 1 < cLine) (hk : PE X k tk) (hv : PE X v tv) : PE X (.Dict [some k] [v] pos) (fun σ H Q => ∀ p, H p = none → tPairs [(tk, tv)] σ (upd H p (TD p [])) fun ps H2 => H2 p = some (TD p []) ∧ ∃ (x y : V) (b : Addr) (ns : List Int), ps = [(x, y)] ∧ x = .ref b ∧ SqT X.K H2 b (ns.map V.int) ∧ Q (.ref p) (upd H2 p (TD p [(ns, b, y)]))) := by
  refine ⟨fun pins s σ H Q I q => ?_⟩
  have hn := I.hok.fresh (Nat.le_refl s.heap.objs.size)
  have I1 := I.laid (a := s.heap.objs.size) (o := TD s.heap.objs.size []) (h' := s.heap.push { cls := .type "dict", data := .dict #[] }) (t' := s.toks) (fun _ _ q => Heap.get?_push_of_some _ q) (Nat.le_refl _) (td_empty s.heap I.big)
  have h15 : ([some k] : List (Option Expr)).length ≤ 15 := by rw [List.length_singleton]; omega
  refine wpAny_Dict_any rfl rfl (List.cons_ne_nil _ _) h15 (thn ((pps_cons hk hv pps_nil).run pins _ σ _ _ I1 (q _ hn)) fun ws s2 ⟨ps, H2, I2, rel, e, x, y, b, ns, ep, ex, sq, q2⟩ => ?_)
  subst ep
  subst ex
  cases rel with
  | @cons _ w _ ws h t =>
    cases t
    obtain ⟨u1, u2⟩ := w
    obtain ⟨r1, r2⟩ := h
    obtain rfl : u1 = Value.ref b := r1
    exact store_one hu I2 e sq r2 fun s' I' => ⟨.ref s.heap.objs.size, _, I', rfl, q2⟩
end
end L2

set_option autoImplicit false
/-! t[::-1] of a tuple -/
namespace HT
open PySem PySem.Spec PyProof.Rows
section
variable {prog : Program} {w : World} {A : Around} {E : Value → Shared → Prop} {s : Shared}
theorem back_adjust (n : Nat) : Builtin.Slice.sliceAdjust none none (-1) (n : Int) = ((n : Int) - 1, -1) := rfl
theorem back_places (n : Nat) : Builtin.Slice.slicePlaces ((n : Int) - 1) (-1) (-1) = n := by
  unfold Builtin.Slice.slicePlaces
  rw [if_neg (show ¬ ((-1 : Int) > 0) by omega)]
  by_cases c : (n : Int) - 1 > -1
  · rw [if_pos c, show (- -1 : Int) = 1 by rfl, Int.ediv_one]; omega
  · rw [if_neg c]; omega
theorem back_applied {sl : Addr} {va vb vc : Value} {n : Nat} {Q : Int × Int × Nat → Shared → Prop} (hx : s.heap.IsSliceOf sl va vb vc) (pa : IsPart va none) (pb : IsPart vb none) (pc : IsPart vc (some (-1)))
    (q : Q ((n : Int) - 1, -1, n) s) : wpAny (model prog w) A (Builtin.Slice.sliceApplied (.ref sl) (pure (n : Int))) Q E s := by
  obtain ⟨ob, b1, b2, b3⟩ := id hx
  unfold Builtin.Slice.sliceApplied; unfold Builtin.Slice.sliceFields
  refine wpAny_bind (wpAny_bind (wpAny_field b1 b3 (x := va) rfl (wpAny_bind (wpAny_field b1 b3 (x := vb) rfl (wpAny_bind (wpAny_field b1 b3 (x := vc) rfl (wpAny_pure ?_)))))))
  refine wpAny_bind (slicePart_ pc ?_)
  show wpAny _ _ (if ((-1 : Int) == 0) = true then _ else _) _ _ s
  rw [if_neg (by decide)]
  refine wpAny_bind (slicePart_ pa (wpAny_bind (slicePart_ pb (wpAny_bind (wpAny_pure (?_ : wpAny (model prog w) A _ Q E s))))))
  show wpAny _ _ (match Builtin.Slice.sliceAdjust none none (-1) (n : Int) with | (lo, hi) => pure (lo, (-1 : Int), Builtin.Slice.slicePlaces lo hi (-1))) _ _ s
  rw [back_adjust]
  show wpAny _ _ (pure ((n : Int) - 1, (-1 : Int), Builtin.Slice.slicePlaces ((n : Int) - 1) (-1) (-1))) _ _ s
  rw [back_places]
  exact wpAny_pure q
theorem back_pick (xs : Array Value) : ((List.range xs.size).filterMap fun (m : Nat) => xs[((xs.size : Int) - 1 + (m : Int) * (-1)).toNat]?).toArray = xs.toList.reverse.toArray := by
  congr 1
  have go : ∀ l : List Nat, (∀ j ∈ l, j < xs.size) → l.filterMap (fun (m : Nat) => xs[((xs.size : Int) - 1 + (m : Int) * (-1)).toNat]?) = l.map fun (m : Nat) => xs.getD (xs.size - 1 - m) .none := by
    intro l
    induction l with
    | nil => intro _; rfl
    | cons j l ih =>
      intro hl
      have hj := hl j (by simp)
      have e : xs[((xs.size : Int) - 1 + (j : Int) * (-1)).toNat]? = some (xs.getD (xs.size - 1 - j) .none) := by
        rw [show ((xs.size : Int) - 1 + (j : Int) * (-1)).toNat = xs.size - 1 - j by omega]
        rw [Array.getElem?_eq_getElem (show xs.size - 1 - j < xs.size by omega)]
        simp [Array.getD, show xs.size - 1 - j < xs.size by omega]
      rw [List.filterMap_cons, e, List.map_cons, ih fun y hy => hl y (List.mem_cons_of_mem _ hy)]
  rw [go _ fun j hj => List.mem_range.mp hj]
  apply List.ext_getElem?
  intro j
  by_cases hj : j < xs.size
  · rw [List.getElem?_reverse (by simpa using hj)]
    simp [hj, Array.getD, show xs.size - 1 - j < xs.size by omega]
  · rw [List.getElem?_eq_none (by simp; omega), List.getElem?_eq_none (by simp; omega)]
theorem back_tuple {t sl : Addr} {its : Array Value} {va vb vc : Value} {Q : Value → Shared → Prop} (hT : IsTup s.heap t its) (hx : s.heap.IsSliceOf sl va vb vc) (pa : IsPart va none) (pb : IsPart vb none) (pc : IsPart vc (some (-1)))
    (q : Q (.ref s.heap.objs.size) { s with heap := s.heap.push { cls := .type "tuple", data := .seq its.toList.reverse.toArray } }) (hz : its.size ≤ sizeLine) : wpAny (model prog w) A (getItem (.ref t) (.ref sl)) Q E s := by
  have small : sizeOk (.seq its.toList.reverse.toArray) := by
    show its.toList.reverse.toArray.size ≤ sizeLine
    rw [List.size_toArray, List.length_reverse, Array.length_toList]
    exact hz
  obtain ⟨ob, b1, b2, b3⟩ := id hx
  have isS : s.TypeIs (.ref sl) "slice" := ⟨ob, b1, b2⟩
  unfold getItem
  (try with_reducible refine wpAny_holding ?_); (first | refine wpAny_bind (wpAny_pure ?_) | skip)
  refine wpAny_bind (wpAny_sequenceKey hT.typeIs (by decide) ?_)
  refine wpAny_bind (wpAny_callSpecial?_slot (name := Str.ofString "__getitem__") hT.typeIs PyProof.Rows.slot_tuple_getitem (wpAny_call_entry PyProof.Rows.slot_tuple_getitem hT.typeIs entry_tuple_getitem ?_ (args_tuple_getitem _ _)))
  show wpAny _ _ (Builtin.Tuple.tupleItemsOf (.ref t) >>= _) _ _ s; refine wpAny_bind (tupleItemsOf_ hT ?_)
  refine wpAny_bind (wpAny_typeOf isS ?_)
  rw [if_pos (by decide)]
  refine wpAny_bind (back_applied hx pa pb pc ?_)
  show wpAny _ _ (if (((its.size : Int) - 1) == 0 && (-1 : Int) == 1 && its.size == its.size) = true then _ else _) _ _ s
  rw [if_neg (by simp), back_pick]
  first
    | exact wpAny_bind (m := Builtin.Tuple.tupleExact _) (wpAny_newObj_type (wpAny_pure ⟨_, rfl, wpAny_pure q⟩) small)
    | exact wpAny_bind (m := Builtin.Tuple.tupleExact _) (wpAny_newObj_type (wpAny_bind (wpAny_pure (wpAny_pure ⟨_, rfl, wpAny_pure q⟩))) small)
    | exact wpAny_bind (wpAny_bind (m := Builtin.Tuple.tupleExact _) (wpAny_newObj_type (wpAny_pure (wpAny_pure ⟨_, rfl, wpAny_pure q⟩)) small))
    | exact wpAny_bind (wpAny_bind (m := Builtin.Tuple.tupleExact _) (wpAny_newObj_type (wpAny_pure ⟨_, rfl, wpAny_pure q⟩) small))
end
end HT

set_option autoImplicit false
/-! set(xs) of a list, by a word of the set as it grows; sorted(set(xs)), len(set(texts)) -/
namespace HT
open PySem PySem.Spec PyProof.Rows
/-- an empty set -/
abbrev nuS (w : World) : Obj := { cls := .type "set", dict := none, data := .set #[] 0 (.fresh 0 0 (!w.params.followText "set-order")) }
section
variable {prog : Program} {w : World} {A : Around} {E : Value → Shared → Prop} {s : Shared}
theorem fill_loop {I : Addr} {fp wr : List Addr} {Gn : Array GenState → Array GenState → Prop} {n : Nat} {Pv : Nat → Value → Prop} {St : Nat → Shared → Prop} {R : Result → Shared → Prop}
    (W : WalksS prog w A.in1 I fp wr Gn n Pv St) (S : Addr) (nf : S ∉ fp) (Wd : Nat → Heap → Prop) (kp : ∀ i h h', Wd i h → (∀ o, h.get? S = some o → h'.get? S = some o) → Wd i h')
    (ad : ∀ i v (t : Shared) (E' : Value → Shared → Prop) (Q : Bool → Shared → Prop), i < n → Pv i v → Wd i t.heap → (∀ h' b, Heap.SameBut S t.heap h' → Wd (i + 1) h' → Q b { t with heap := h', toks := t.toks + 1 }) → wpAny (model prog w) A.in1 (setAdd S v) Q E' t) :
    ∀ (m i : Nat) (t : Shared), n - i = m → i ≤ n → St i t → Wd i t.heap → (∀ t', Moved (S :: wr) Gn t t' → Wd n t'.heap → R (.ok (.ret .none)) t') → codeAny (model prog w) A (.builtin "set.update.loop" ⟨[.ref S, .ref I], []⟩) R t := by
  have nw : S ∉ wr := fun z => nf (W.sub _ z)
  have up : ∀ b ∈ wr, b ∈ S :: wr := fun b z => List.mem_cons_of_mem _ z
  intro m
  induction m with
  | zero =>
    intro i t em le st wd hR
    obtain rfl : i = n := by omega
    refine codeAny_builtin F.entry_set_update_loop ?_; rw [Around.under_plainId F.plain_set_update_loop _]
    show wpAny _ A.in1 (pyNext (.ref I) >>= _) _ _ t
    refine wpAny_bind (W.done t _ _ st fun t1 mv => ?_); show wpAny _ A.in1 (ret Value.none) _ _ t1
    exact wpAny_pure (hR t1 (mv.mono up) (kp _ _ _ wd fun o z => mv.heap S o nw z))
  | succ m ih =>
    intro i t em le st wd hR
    have lt : i < n := by omega
    refine codeAny_builtin F.entry_set_update_loop ?_; rw [Around.under_plainId F.plain_set_update_loop _]
    show wpAny _ A.in1 (pyNext (.ref I) >>= _) _ _ t
    refine wpAny_bind (W.item i t _ _ lt st fun v t1 pv st1 mv => ?_)
    have wd1 := kp _ _ t1.heap wd fun o z => mv.heap S o nw z
    show wpAny _ A.in1 (holding [v] (setAdd S v) >>= _) _ _ t1
    refine wpAny_bind (wpAny_holding (ad i v t1 _ _ lt pv wd1 fun h' b sb wd2 => ?_))
    refine wpAny_pure ⟨plainId_quiet F.plain_set_update_loop _, ih (i + 1) _ (by omega) lt (W.frame _ t1 _ _ st1 (Nat.le_succ _) fun b z o e => ?_) wd2 fun t2 mv2 wd3 => ?_⟩
    · rw [sb.2 b fun y : b = S => nf (by rw [← y]; exact z)]; exact e
    · refine hR t2 (Moved.trans W.gtrans ((mv.mono up).then_heap (Nat.le_succ _) fun b o z e => ?_) mv2) wd3
      rw [sb.2 b fun y : b = S => z (by rw [y]; exact List.mem_cons_self)]; exact e

set_option maxRecDepth 100000 in
set_option maxHeartbeats 3200000 in
theorem set_list {l : Addr} {its : Array Value} {Q : Value → Shared → Prop} (hh : A.handled = none) (hl : s.heap.IsList l its) (Wd : Nat → Heap → Prop)
    (w0 : ∀ h : Heap, h.get? s.heap.objs.size = some (nuS w) → Wd 0 h) (kp : ∀ i h h', Wd i h → (∀ o, h.get? s.heap.objs.size = some o → h'.get? s.heap.objs.size = some o) → Wd i h')
    (ad : ∀ (A' : Around) i v (t : Shared) (E' : Value → Shared → Prop) (Q : Bool → Shared → Prop), i < its.size → its[i]? = some v → Wd i t.heap →
      (∀ h' b, Heap.SameBut s.heap.objs.size t.heap h' → Wd (i + 1) h' → Q b { t with heap := h', toks := t.toks + 1 }) → wpAny (model prog w) A' (setAdd s.heap.objs.size v) Q E' t)
    (q : ∀ (h' : Heap) (tk : Nat), Wd its.size h' → (∀ b o, s.heap.get? b = some o → h'.get? b = some o) → Q (.ref s.heap.objs.size) { s with heap := h', toks := tk }) :
    wpAny (model prog w) A (call (.type "set") [.ref l]) Q E s := by
  obtain ⟨c, tl, k1⟩ := F.called_set.mro; have k2 := F.called_set.made; have k3 := F.called_set.sub
  refine wpAny_call (codeAny_of_tree (?_ : wpAny _ _ (callAny (.type "set") _) _ _ _))
  refine wpAny_pure ⟨Code.quiet_builtin _ (by decide +kernel), codeAny_builtin F.entry_type_call ?_⟩; rw [Around.under_plain (weight_type_call_type "set" [.ref l] []) rfl]
  have k4 := F.called_set.notType; have k5 := F.called_set.canCreate; have k6 := F.typeCall_set_1 (.ref l)
  repeat (any_goals (first | assumption | wp_step))
  refine codeAny_mono (L2.code_set_led1 (.ref l) (E := E) (Q₁ := fun ob t => ob = .ref s.heap.objs.size ∧ t = { s with heap := s.heap.push (nuS w) }) ⟨rfl, rfl⟩) fun r t hr => ?_
  cases r with
  | error e => exact hr
  | ok fl =>
    cases fl with
    | ret ob =>
      obtain ⟨rfl, rfl⟩ := hr
      have at0 : (s.heap.push (nuS w)).get? s.heap.objs.size = some (nuS w) := Heap.get?_push_size _ rfl
      have ty0 : Shared.TypeIs { s with heap := s.heap.push (nuS w) } (.ref s.heap.objs.size) "set" := ⟨_, at0, rfl⟩
      have k7 := F.called_set.init.lookup; have k8 := F.called_set.init.bind (.ref s.heap.objs.size)
      repeat (any_goals (first | assumption | wp_step))
      refine codeAny_mono (codeAny_call_builtin (R := wants (fun r t => r = .none ∧ ∃ h' tk, t = { s with heap := h', toks := tk } ∧ Wd its.size h' ∧ (∀ b o, s.heap.get? b = some o → h'.get? b = some o)) E)
        F.called_set.init.plain F.entry_set_init (check_set_init_1 ty0 ?_)) fun r2 t2 hr2 => ?_
      · obtain ⟨ol, e1, e2, nl, e3⟩ := hl
        obtain ⟨ocls, odict, odata, oslots⟩ := ol
        simp only at e2 e3
        subst e2 e3
        have e4 : (s.heap.push (nuS w)).get? l = some { cls := .type "list", dict := odict, data := .seq its nl, slots := oslots } := Heap.get?_push_of_some _ e1
        have k9 := F.sub_list_set; have k10 := F.sub_list_frozenset
        have k11 : (Value.type "list" == Value.type "dict") = false := by decide
        have hl1 : (s.heap.push (nuS w)).IsList l its := ⟨_, e4, rfl, nl, rfl⟩
        unfold Builtin.«set.__init__» noKeywords Builtin.Frozenset.updateFrom
        generalize hPI : pyIter = PI
        wp_walk
        subst hPI
        refine wpAny_pyIter_list hl1 (wpAny_bind (wpAny_runValue ?_))
        have ltl : l < s.heap.objs.size := Heap.lt_size e1
        have hh3 : A.in1.in1.in1.handled = none := by simp [hh]
        have sz1 : (s.heap.push (nuS w)).objs.size = s.heap.objs.size + 1 := Heap.size_push ..
        have nI : l ≠ (s.heap.push (nuS w)).objs.size := by rw [sz1]; exact Nat.ne_of_lt (Nat.lt_succ_of_lt ltl)
        have nf : s.heap.objs.size ∉ [(s.heap.push (nuS w)).objs.size, l] := by
          rw [sz1]; simp only [List.mem_cons, List.mem_singleton, List.not_mem_nil, or_false, not_or]; exact ⟨Nat.ne_of_lt (Nat.lt_succ_self _), Nat.ne_of_gt ltl⟩
        refine fill_loop ((Walks.list hh3 _ l nI its).toS) s.heap.objs.size nf Wd kp (fun i v t E' Q lt pv wd k => ad _ i v t E' Q lt pv wd k) (its.size - 0) 0 _ (by omega) (Nat.zero_le _)
          ⟨⟨_, Heap.get?_push_size _ rfl, rfl, rfl⟩, (hl1.push _)⟩ (w0 _ (Heap.get?_push_of_some _ at0)) fun t' mv wd => ?_
        obtain ⟨h', g2, d2, tk2, os2⟩ := t'
        have eg : g2 = s.gens := mv.gens
        have ed : d2 = s.drawn := mv.drawn
        have eo : os2 = s.os := mv.os
        subst eg ed eo
        refine (wpAny_pure (?_ : _) : wpAny _ _ _ _ _ _)
        show wpAny _ _ (ret Value.none) _ _ _
        refine wpAny_pure ⟨rfl, h', tk2, rfl, wd, fun b o e => mv.heap b o ?_ (Heap.get?_push_of_some _ (Heap.get?_push_of_some _ e))⟩
        have b0 := Heap.lt_size e
        rw [sz1]; simp only [List.mem_cons, List.mem_singleton, List.not_mem_nil, or_false, not_or]; exact ⟨Nat.ne_of_lt b0, Nat.ne_of_lt (Nat.lt_succ_of_lt b0)⟩
      · cases r2 with
        | error e => exact hr2
        | ok f2 =>
          cases f2 with
          | ret r =>
            obtain ⟨rfl, h', tk, rfl, wd, hk⟩ := hr2
            repeat (any_goals (first | assumption | wp_step))
            exact q _ _ wd hk
          | _ => exact hr2.elim
    | _ => exact hr.elim

/-! ### of texts -/
def stepS {α : Type} [DecidableEq α] (acc : List α) (x : α) : List α := if x ∈ acc then acc else acc ++ [x]
/-- unlike ones, as they are met -/
def metS {α : Type} [DecidableEq α] (xs : List α) : List α := xs.foldl stepS []
theorem metS_take {α : Type} [DecidableEq α] {xs : List α} {i : Nat} {x : α} (e : xs[i]? = some x) : metS (xs.take (i + 1)) = stepS (metS (xs.take i)) x := by
  unfold metS
  rw [List.take_add_one, e, List.foldl_append]; rfl
theorem metS_len {α : Type} [DecidableEq α] (xs : List α) : (metS xs).length ≤ xs.length := by
  have key : ∀ (ys acc : List α), (ys.foldl stepS acc).length ≤ acc.length + ys.length := by
    intro ys
    induction ys with
    | nil => intro acc; simp
    | cons y ys ih =>
      intro acc
      rw [List.foldl_cons, List.length_cons]
      have h1 := ih (stepS acc y)
      have h2 : (stepS acc y).length ≤ acc.length + 1 := by unfold stepS; split <;> simp
      omega
  have := key xs []
  simpa [metS] using this
theorem metS_nodup {α : Type} [DecidableEq α] {xs : List α} (h : xs.Nodup) : metS xs = xs := by
  have key : ∀ (ys acc : List α), (acc ++ ys).Nodup → ys.foldl stepS acc = acc ++ ys := by
    intro ys
    induction ys with
    | nil => intro acc _; simp
    | cons y ys ih =>
      intro acc hn
      have ny : y ∉ acc := fun z => by
        have := (List.nodup_append.mp hn).2.2 y z y (by simp)
        exact this rfl
      rw [List.foldl_cons]
      show ys.foldl stepS (stepS acc y) = _
      rw [show stepS acc y = acc ++ [y] by unfold stepS; rw [if_neg ny], ih _ (by simpa using hn)]
      simp
  simpa [metS] using key xs [] (by simpa using h)
theorem set_texts {l : Addr} {its : Array Value} {xs : List Str} {Q : Value → Shared → Prop} (hh : A.handled = none) (hl : s.heap.IsList l its) (hi : ∀ (i : Nat) (v : Value), its[i]? = some v → ∃ x t, xs[i]? = some x ∧ v = Value.str x t) (hn : its.size = xs.length) (hb : xs.length + 1 < scanBound)
    (q : ∀ (h' : Heap) (tk : Nat), h'.SetOf (strKind prog w) s.heap.objs.size (fun k => decide (k ∈ metS xs)) (metS xs).length → (∀ b o, s.heap.get? b = some o → h'.get? b = some o) → Q (.ref s.heap.objs.size) { s with heap := h', toks := tk }) :
    wpAny (model prog w) A (call (.type "set") [.ref l]) Q E s := by
  refine set_list hh hl (fun i h => h.SetOf (strKind prog w) s.heap.objs.size (fun k => decide (k ∈ metS (xs.take i))) (metS (xs.take i)).length) (fun h e => ?_) (fun i h h' ⟨o, es, ep, t, ho, r⟩ k => ⟨o, es, ep, t, k o ho, r⟩) (fun A' i v t E' Q lt ev wd k => ?_) (fun h' tk wd kp => ?_)
  · exact PyProof.Rows.SetOf_congr ((PyProof.Rows.setObjOf_fresh (knd := strKind prog w) (!w.params.followText "set-order")).setOf e (by unfold scanBound; omega)) (fun k => by simp [metS]) rfl
  · obtain ⟨x, tk, ex, rfl⟩ := hi i v ev
    unfold setAdd
    refine wpAny_holding (wpAny_bind ((strKind prog w).pyHash (k := x) (strKind_is _ _ _ _) ?_))
    have lm := metS_len (xs.take i)
    rw [List.length_take] at lm
    refine wpAny_setAddHashed_of (knd := strKind prog w) (s := { t with toks := t.toks + 1 }) (strKind_is _ _ _ _) rfl wd (by omega) fun h' sb wd2 => k h' _ sb ?_
    refine PyProof.Rows.SetOf_congr wd2 (fun y => ?_) ?_
    · rw [metS_take ex]
      unfold stepS
      by_cases c : x ∈ metS (xs.take i)
      · rw [if_pos c]
        by_cases c2 : y = x
        · subst c2; simp [c]
        · simp [c2]
      · rw [if_neg c]; simp [Bool.decide_or]
    · rw [metS_take ex]
      unfold stepS
      by_cases c : x ∈ metS (xs.take i) <;> simp [c]
  · rw [hn, List.take_length] at wd
    exact q h' tk wd kp
/-! ### of ints, to be sorted -/
theorem set_ints {l : Addr} {its : Array Value} {ns : List Int} {Q : Value → Shared → Prop} (hh : A.handled = none) (hl : s.heap.IsList l its) (hi : IntsAre its.toList ns) (hb : ns.length + 1 < scanBound)
    (q : ∀ (h' : Heap) (tk : Nat), (∃ c, c ≤ ns.length ∧ L2.SetR w h' s.heap.objs.size (fun k => decide (k ∈ ns)) c) → (∀ b o, s.heap.get? b = some o → h'.get? b = some o) → Q (.ref s.heap.objs.size) { s with heap := h', toks := tk }) :
    wpAny (model prog w) A (call (.type "set") [.ref l]) Q E s := by
  have hn : its.size = ns.length := by have z := IntsAre.length hi; rw [Array.length_toList] at z; exact z
  refine set_list hh hl (fun i h => ∃ c, c ≤ i ∧ L2.SetR w h s.heap.objs.size (fun k => decide (k ∈ ns.take i)) c) (fun h e => ⟨0, Nat.le_refl 0, L2.setR_new_at e⟩) (fun i h h' ⟨c, c1, c2⟩ k => ⟨c, c1, c2.at k⟩) (fun A' i v t E' Q lt ev ⟨c, c1, c2⟩ k => ?_) (fun h' tk wd kp => ?_)
  · obtain ⟨tk, e⟩ := IntsAre.int_at hi i v (by rw [Array.getElem?_toList]; exact ev)
    have ex : ns[i]? = some (ns.getD i 0) := by
      rw [List.getD_eq_getElem?_getD, List.getElem?_eq_getElem (by omega)]; rfl
    subst e
    unfold setAdd
    refine wpAny_holding (wpAny_bind ((intKind prog w).pyHash (k := ns.getD i 0) (intKind_is _ _ _ _) ?_))
    refine L2.setR_add_hashed (s := { t with toks := t.toks + 1 }) c2 (by omega) fun h' sb c3 => k h' _ sb ⟨_, ?_, c3.congr fun j => ?_⟩
    · split <;> omega
    · rw [List.take_add_one, ex]; simp [List.mem_append]
  · rw [hn, List.take_length] at wd
    exact q h' tk wd kp
theorem nodup_lt : ∀ l : List Int, l.Pairwise (· ≤ ·) → l.Nodup → l.Pairwise (· < ·) := fun l h d => (List.Pairwise.and h d).imp fun ⟨a, b⟩ => by omega
/-- sorted of a set of ints, any number of them -/
theorem sorted_setI {a : Addr} {S : Int → Bool} {n : Nat} {Q : Value → Shared → Prop} (R : L2.SetR w s.heap a S n) (hh : A.handled = none) (hn4 : n ≤ 4000)
    (q : ∀ t b (out : Array Value) (c : Nat) (ms : List Int), (∀ d o, s.heap.get? d = some o → t.heap.get? d = some o) → t.gens = s.gens → t.os = s.os → s.heap.objs.size ≤ b → t.heap.get? b = some (seqObj "list" out c) → IntsAre out.toList ms → ms.Pairwise (· < ·) → (∀ k, k ∈ ms ↔ S k = true) → ms.length = n → Q (.ref b) t) :
    wpAny (model prog w) A (call (.builtin "sorted") [.ref a]) Q E s := by
  obtain ⟨o, es, ep, tb, ho, hex, hd, g, nd, hm, hb, hf, hn, hr, hl⟩ := R
  refine Calls.call_function_entry PyProof.Rows.kind_sorted PyProof.Rows.plain_sorted PyProof.Rows.entry_sorted (PyProof.Rows.args_sorted1 _) ?_; unfold Builtin.«sorted»
  refine wpAny_bind (m := checkCount "sorted" 1 1 _) (wpAny_pure ?_); refine wpAny_bind (L2.collect_set (A := A.in1) hh ⟨o, ho, hex.1, hd⟩ hf hb hr hl fun s1 vs k1 hz g1 o1 pm => ?_)
  have lv : vs.length = n := by rw [pm.length_eq, List.length_map, Array.length_toList, hn]
  have hI : IntsAre vs (vs.map SrtO.iv) := SrtO.ints_iv fun v hv => by
    obtain ⟨e, he, z⟩ := List.mem_map.mp (pm.mem_iff.mp hv)
    obtain ⟨k, t, h1, _⟩ := g e he
    exact ⟨k, t, by rw [← z]; exact h1⟩
  have pk : (vs.map SrtO.iv).Perm (es.toList.map L2.keyOf) := by
    have z := pm.map SrtO.iv; rw [List.map_map] at z
    exact z
  have small : vs.length ≤ sizeLine := by rw [lv, sizeLine_eq]; omega
  refine wpAny_bind (wpAny_newList ?_ small)
  have there : (s1.heap.push (seqObj "list" vs.toArray 0)).get? s1.heap.objs.size = some (seqObj "list" vs.toArray 0) := Heap.get?_push_size _ rfl
  refine wpAny_bind (wpAny_holding (wpAny_call_entry PyProof.Rows.slot_list_sort ⟨_, there, rfl⟩ PyProof.Rows.entry_list_sort (SrtO.list_sort_ord SrtO.swo_int there small (fun h2 => SrtO.ints_sortable hI h2) fun out a1 a2 => ⟨_, rfl, ?_⟩) (PyProof.Rows.args_list_sort _)))
  obtain ⟨c1, c2, c3⟩ := SrtO.ints_out hI a1 a2
  obtain ⟨c, hc⟩ := PyProof.Rows.sortedHeap_at (vs := vs) (out := out.toArray) there
  have pn := c2.trans pk
  refine wpAny_pure ⟨_, rfl, q _ s1.heap.objs.size out.toArray c (out.map SrtO.iv) (fun b u e => ?_) g1 o1 hz hc c1 (nodup_lt _ c3 (pn.nodup_iff.mpr nd)) (fun k => by rw [pn.mem_iff, ← hm k]) (by rw [pn.length_eq, List.length_map, Array.length_toList]; exact hn)⟩
  have z := k1 b u e
  have lt := Heap.lt_size z
  show (PyProof.Rows.sortedHeap (s1.heap.push (seqObj "list" vs.toArray 0)) s1.heap.objs.size vs out.toArray).get? b = some u
  rw [PyProof.Rows.sortedHeap_old (Nat.ne_of_lt lt) (by rw [PyProof.Rows.size_push']; exact Nat.lt_succ_of_lt lt)]
  exact Heap.get?_push_of_some _ z
end
end HT

set_option autoImplicit false
set_option linter.all false
/-! Kern: what a def promises where no repr runs around it -/
namespace KN
open PySem PySem.Spec PyProof.Rows
section
open L2
structure FnG (P : Program) (w : World) (K : PySem.W.Frag) (mg : Str → Option Value) (base : Heap) (CX : CXT) (k : Nat) (f : Addr) (fd : FuncData) (ps : List Str) (sp : L2.Sp) : Prop where
  len : ∀ vs H Q E, sp vs H Q E → vs.length = ps.length
  run : ∀ (A : Around) (outer : List Env) (s : Shared) (H : Hp) (args : Args) (us : List Value) (vs : List V) (Q : VK) (E : XK), A.guards = some [] → Room k A → Env0 P w K mg base A outer s H → BindsTo s fd args (ps.zip us) → Vals vs us → sp vs H Q E →
    codeAny (model P w) A (.call (.ref f) args) (CR CX outer P w H s Q E) s
theorem FnG.imp {P : Program} {w : World} {K : PySem.W.Frag} {mg : Str → Option Value} {base : Heap} {CX : CXT} {k : Nat} {f : Addr} {fd : FuncData} {ps : List Str} {sp sp' : L2.Sp} (F : FnG P w K mg base CX k f fd ps sp)
    (h : ∀ vs H Q E, sp' vs H Q E → sp vs H Q E) : FnG P w K mg base CX k f fd ps sp' :=
  ⟨fun vs H Q E q => F.len vs H Q E (h _ _ _ _ q), fun A outer s H args us vs Q E hg hr he hb hv hs => F.run A outer s H args us vs Q E hg hr he hb hv (h _ _ _ _ hs)⟩
section
variable {X : Cx} {CX : CXT} {k : Nat} {f : Addr} {fd : FuncData} {ps : List Str} {sp : L2.Sp} {E : L2.St → XK} {x : Str} {p pos : Pos} {e : Expr} {es : List Expr} {t : TA}
theorem run_fnG {pins : List (Addr × Obj)} {σ : L2.St} {H : Hp} {s : Shared} {Q : VK} {us : List Value} {vs : List V} (F : FnG X.prog X.w X.K X.mg X.base CX k f fd ps sp) (gd : X.A.guards = some []) (hr : Room k X.A) (hb : Binds X.K fd ps []) (hx : PassesAt CX X σ (E σ))
    (I : Inv X pins σ H s) (r : Vals vs us) (h : sp vs H Q (E σ)) : wpAny (model X.prog X.w) X.A (call (.ref f) us) (EP X pins σ Q) X.xe s := by
  have hl := F.len _ _ _ _ h
  rw [r.length] at hl
  have b : BindsTo s fd ⟨us, []⟩ (ps.zip us) := by simpa using hb s us I.kIn (by simpa using hl)
  refine wpAny_call (codeAny_mono (F.run X.A X.stack s H ⟨us, []⟩ us vs Q (E σ) gd hr I.env0 b r h) fun res s' z => ?_)
  match res, z with
  | .error e, z => exact hx pins H s e s' I z
  | .ok (.ret u), z => exact I.after z
  | .ok .next, z => exact z.elim
  | .ok .brk, z => exact z.elim
  | .ok .cont, z => exact z.elim
theorem pe_callG (F : FnG X.prog X.w X.K X.mg X.base CX k f fd ps sp) (gd : X.A.guards = some []) (hr : Room k X.A) (hg : Gl X x) (hm : X.mg x = some (.ref f)) (hk : PySem.W.keepIn X.K (.ref f) = true) (hb : Binds X.K fd ps []) (hx : ∀ σ, PassesAt CX X σ (E σ))
    (ha : PA X (e :: es) t) (hdb : (x == ("__debug__" : Str)) = false) (he : starEach (e :: es) X.env = (false, eval e X.env) :: starEach es X.env) (hpl : (backTo pos (starEach es X.env)).any (·.1) = false) :
    PE X (.Call (.Name x p) (e :: es) [] pos) (tCallS sp E t) :=
  ⟨fun pins s σ H Q I h => wpAny_Call_Name_kw (ld_glob I hg hm (PySem.W.callWith_K (h₀ := X.base) I.ok.mod.kin hk (thn (ha.run pos pins s σ H _ I h) fun us s1 ⟨vs, H1, I1, r, q⟩ => ⟨I1.kIn, run_fnG F gd hr hb (hx σ) I1 r q⟩) he hpl) hdb)⟩
end
/-- a def by its body -/
theorem okG {P : Program} {w : World} {K : PySem.W.Frag} {mg : Str → Option Value} {base : Heap} {x qual : Str} {st : Stmt} {f : Addr} {fd : FuncData} {N ps : List Str} {k : Nat} {sp : L2.Sp} (F : L2.Fun K x qual st f fd) (S : FnScope N ps (defScope st)) (len : ∀ vs H Q E, sp vs H Q E → vs.length = ps.length)
    (hbody : ∀ (cdv : Value) (A : Around) (outer : List Env) (s : Shared) (H : Hp) (vs : List V) (Q : VK) (E : XK), A.guards = some [] → Room k (A.deeper (envOfC qual (defScope st) s.heap.objs.size f cdv)) → sp vs H Q E →
      ∃ t, PSs (cxOf (L2.CX P w) P w K mg base N qual (defScope st) f cdv A outer s H E) (defBody st) t ∧ t { nx := fun _ H' => Q .non H', rt := Q } (start N vs) H) : FnG P w K mg base (L2.CX P w) (k + 1) f fd ps sp := by
  obtain ⟨oc, od, kV, doc, pm, an, cdv, ct, osl, rfl, lk, hcd⟩ := F.ex
  refine ⟨len, fun A outer s H args us vs Q E gd hr e0 hb r hsp => ?_⟩
  have KX : K.In s.heap := e0.mod.kin.keeps fun b o e => (e0.bs b o e).1
  have lim : s.heap.NoLimit := e0.mod.nolimit.keeps fun b o e => (e0.bs b o e).1
  refine codeAny_call_function hr.depth (KX _ _ lk) rfl S.co S.gen rfl (PySem.W.codeRec_of KX hcd) (hb _ _ _ _ (wpAny_newFunctionEnv_cells S.kind (fun y hy => ?_) fun env he s1 x => ?_))
  · rcases S.par y.1 (List.of_mem_zip (show (y.1, y.2) ∈ ps.zip us from hy)).1 with q | q
    · exact .inl q
    · exact .inr ⟨q, PySem.W.cellsFrom_some _ _ _ (.inl q)⟩
  subst he
  obtain ⟨t, ht, hq⟩ := hbody cdv A outer s H vs Q E gd (hr.deeper _) hsp
  have I : Inv (cxOf (L2.CX P w) P w K mg base N qual (defScope st) f cdv A outer s H E) [] (start N vs) H s1 := inv_start S hr.hd e0 (len _ _ _ _ hsp) r x
  refine ⟨lim.keeps x.toInCall.keep, codeAny_func (wpAny_mono (ht.run [] s1 (start N vs) H _ I hq) (fun fl s' hs => ?_) fun e s' hs => hs)⟩
  have fin : ∀ {σ' : L2.St} {H' : Hp} {v : V} {u : Value}, Inv (cxOf (L2.CX P w) P w K mg base N qual (defScope st) f cdv A outer s H E) [] σ' H' s' → RelV v u → Q v H' → CE outer P w H s Q u s' :=
    fun {σ' H' v u} J rv q => ⟨v, H', J.os, J.bare, J.base, J.hok, rv, q⟩
  match fl, hs with
  | .ret u, hs =>
    obtain ⟨v, σ', H', J, rv, q⟩ := hs
    exact fin J rv q
  | .next, hs =>
    obtain ⟨σ', H', J, q⟩ := hs
    exact fin (v := V.non) (u := Value.none) J rfl q
  | .brk, hs =>
    obtain ⟨_, _, _, q⟩ := hs
    exact q.elim
  | .cont, hs =>
    obtain ⟨_, _, _, q⟩ := hs
    exact q.elim
/-! ### within an except suite -/
structure FnGH (P : Program) (w : World) (K : PySem.W.Frag) (mg : Str → Option Value) (base : Heap) (CX : CXT) (k : Nat) (f : Addr) (fd : FuncData) (ps : List Str) (sp : L2.Sp) : Prop where
  len : ∀ vs H Q E, sp vs H Q E → vs.length = ps.length
  hot : ∀ (A : Around) (outer : List Env) (s : Shared) (H : Hp) (args : Args) (us : List Value) (vs : List V) (Q : VK) (E : XK), A.guards = some [] → L2H.RoomH k A → Env0 P w K mg base A outer s H → BindsTo s fd args (ps.zip us) → Vals vs us → sp vs H Q E →
    codeAny (model P w) A (.call (.ref f) args) (CR CX outer P w H s Q E) s
section
variable {X : Cx} {CX : CXT} {k : Nat} {f : Addr} {fd : FuncData} {ps : List Str} {sp : L2.Sp} {E : L2.St → XK} {x : Str} {p pos : Pos} {e : Expr} {es : List Expr} {t : TA}
theorem run_fnGH {pins : List (Addr × Obj)} {σ : L2.St} {H : Hp} {s : Shared} {Q : VK} {us : List Value} {vs : List V} (F : FnGH X.prog X.w X.K X.mg X.base CX k f fd ps sp) (gd : X.A.guards = some []) (hr : L2H.RoomH k X.A) (hb : Binds X.K fd ps []) (hx : PassesAt CX X σ (E σ))
    (I : Inv X pins σ H s) (r : Vals vs us) (h : sp vs H Q (E σ)) : wpAny (model X.prog X.w) X.A (call (.ref f) us) (EP X pins σ Q) X.xe s := by
  have hl := F.len _ _ _ _ h
  rw [r.length] at hl
  have b : BindsTo s fd ⟨us, []⟩ (ps.zip us) := by simpa using hb s us I.kIn (by simpa using hl)
  refine wpAny_call (codeAny_mono (F.hot X.A X.stack s H ⟨us, []⟩ us vs Q (E σ) gd hr I.env0 b r h) fun res s' z => ?_)
  match res, z with
  | .error e, z => exact hx pins H s e s' I z
  | .ok (.ret u), z => exact I.after z
  | .ok .next, z => exact z.elim
  | .ok .brk, z => exact z.elim
  | .ok .cont, z => exact z.elim
theorem pe_callGH (F : FnGH X.prog X.w X.K X.mg X.base CX k f fd ps sp) (gd : X.A.guards = some []) (hr : L2H.RoomH k X.A) (hg : Gl X x) (hm : X.mg x = some (.ref f)) (hk : PySem.W.keepIn X.K (.ref f) = true) (hb : Binds X.K fd ps []) (hx : ∀ σ, PassesAt CX X σ (E σ))
    (ha : PA X (e :: es) t) (hdb : (x == ("__debug__" : Str)) = false) (he : starEach (e :: es) X.env = (false, eval e X.env) :: starEach es X.env) (hpl : (backTo pos (starEach es X.env)).any (·.1) = false) :
    PE X (.Call (.Name x p) (e :: es) [] pos) (tCallS sp E t) :=
  ⟨fun pins s σ H Q I h => wpAny_Call_Name_kw (ld_glob I hg hm (PySem.W.callWith_K (h₀ := X.base) I.ok.mod.kin hk (thn (ha.run pos pins s σ H _ I h) fun us s1 ⟨vs, H1, I1, r, q⟩ => ⟨I1.kIn, run_fnGH F gd hr hb (hx σ) I1 r q⟩) he hpl) hdb)⟩
end
/-- a def that is called there, by its body: its own object is the pin -/
theorem okGH {P : Program} {w : World} {K : PySem.W.Frag} {mg : Str → Option Value} {base : Heap} {x qual : Str} {st : Stmt} {f : Addr} {fd : FuncData} {N ps : List Str} {k : Nat} {sp : L2.Sp} (F : L2.Fun K x qual st f fd) (S : FnScope N ps (defScope st)) (len : ∀ vs H Q E, sp vs H Q E → vs.length = ps.length)
    (hbody : ∀ (cdv : Value) (A : Around) (outer : List Env) (s : Shared) (H : Hp) (vs : List V) (Q : VK) (E : XK) (p : Addr × Obj), A.guards = some [] → L2H.RoomH k (A.deeper (envOfC qual (defScope st) s.heap.objs.size f cdv)) → sp vs H Q E →
      ∃ t, PSs (L2H.cxH (L2.CX P w) P w K mg base N qual (defScope st) f cdv A outer s H E p) (defBody st) t ∧ t { nx := fun _ H' => Q .non H', rt := Q } (start N vs) H) : FnGH P w K mg base (L2.CX P w) (k + 1) f fd ps sp := by
  obtain ⟨oc, od, kV, doc, pm, an, cdv, ct, osl, rfl, lk, hcd⟩ := F.ex
  refine ⟨len, fun A outer s H args us vs Q E gd hr e0 hb r hsp => ?_⟩
  have KX : K.In s.heap := e0.mod.kin.keeps fun b o e => (e0.bs b o e).1
  have lim : s.heap.NoLimit := e0.mod.nolimit.keeps fun b o e => (e0.bs b o e).1
  obtain ⟨ob, lb, hob⟩ : ∃ ob, base.get? f = some ob ∧ ∀ v, ob.data ≠ .cell v := ⟨_, e0.mod.kin _ _ lk, fun v z => by cases z⟩
  have hpin : L2H.PinOk outer H s (f, ob) := by
    refine ⟨(e0.bs _ _ lb).1, (e0.bs _ _ lb).2, fun hm => ?_, hob⟩
    have := (e0.funs.mem hm).1
    rw [lb] at this; cases this
  refine codeAny_call_function hr.depth (KX _ _ lk) rfl S.co S.gen rfl (PySem.W.codeRec_of KX hcd) (hb _ _ _ _ (wpAny_newFunctionEnv_cells S.kind (fun y hy => ?_) fun env he s1 x => ?_))
  · rcases S.par y.1 (List.of_mem_zip (show (y.1, y.2) ∈ ps.zip us from hy)).1 with q | q
    · exact .inl q
    · exact .inr ⟨q, PySem.W.cellsFrom_some _ _ _ (.inl q)⟩
  subst he
  obtain ⟨t, ht, hq⟩ := hbody cdv A outer s H vs Q E (f, ob) gd (hr.deeper _) hsp
  have I : Inv (L2H.cxH (L2.CX P w) P w K mg base N qual (defScope st) f cdv A outer s H E (f, ob)) [] (start N vs) H s1 := L2H.inv_startH S hpin e0 (len _ _ _ _ hsp) r x
  refine ⟨lim.keeps x.toInCall.keep, codeAny_func (wpAny_mono (ht.run [] s1 (start N vs) H _ I hq) (fun fl s' hs => ?_) fun e s' hs => hs)⟩
  have fin : ∀ {σ' : L2.St} {H' : Hp} {v : V} {u : Value}, Inv (L2H.cxH (L2.CX P w) P w K mg base N qual (defScope st) f cdv A outer s H E (f, ob)) [] σ' H' s' → RelV v u → Q v H' → CE outer P w H s Q u s' :=
    fun {σ' H' v u} J rv q => ⟨v, H', J.os, J.bare, J.base, J.hok, rv, q⟩
  match fl, hs with
  | .ret u, hs =>
    obtain ⟨v, σ', H', J, rv, q⟩ := hs
    exact fin J rv q
  | .next, hs =>
    obtain ⟨σ', H', J, q⟩ := hs
    exact fin (v := V.non) (u := Value.none) J rfl q
  | .brk, hs =>
    obtain ⟨_, _, _, q⟩ := hs
    exact q.elim
  | .cont, hs =>
    obtain ⟨_, _, _, q⟩ := hs
    exact q.elim
/-- the law's own call: nothing is kept but the script -/
theorem law_callG {P : Program} {w : World} {K : PySem.W.Frag} {mg mb : Str → Option Value} {CX : CXT} {k : Nat} {fa a : Addr} {fd : FuncData} {x : Str} {sp : L2.Sp} {s₁ : Shared} {vs : List Value} {ns : List Int}
    (KX : K.In s₁.heap) (hns : s₁.heap.Ns mainGlobals mg) (hb : s₁.heap.Ns builtinsNs mb) (hbb : ∀ x : Str, x ≠ "__name__" → mb x = bootBuiltins x) (hlim : s₁.heap.NoLimit) (hg : s₁.gens = #[])
    (ha : s₁.heap.get? a = some { cls := .type "list", data := .seq vs.toArray }) (hi : IntsAre vs ns) (hl : ns.length ≤ sizeLine) (hr : Room k callerA) (hk : K.lookup a = none)
    (F : ∀ base : Heap, K.In base → base.Ns mainGlobals mg → FnG P w K mg base CX k fa fd [x] sp) (hbind : ∀ (s : Shared) (u : Value), BindsTo s fd ⟨[u], []⟩ [(x, u)])
    (hsp : ∀ H : Hp, Only H → SqL K H a (ns.map V.int) → sp [.ref a] H (fun v _ => v = .bl true) fun _ _ _ => False)
    (hCX : ∀ H e s', CX [] H s₁ (fun _ _ _ => False) e s' → False) :
    codeAny (model P w) callerA (.call (.ref fa) ⟨[.ref a], []⟩) (fun r s' => r = .ok (.ret (.bool true)) ∧ OldK s₁.heap s'.heap ∧ s'.os = s₁.os ∧ AllBare s'.gens) s₁ := by
  obtain ⟨ob, hob⟩ : ∃ ob : Obj, ob = { cls := .type "list", data := .seq vs.toArray } := ⟨_, rfl⟩
  obtain ⟨H, hH⟩ : ∃ H : Hp, H = fun b => if b = a then some (.frz ob (.lst (ns.map V.int))) else none := ⟨_, rfl⟩
  have Ha : H a = some (.frz ob (.lst (ns.map V.int))) := by rw [hH]; exact if_pos rfl
  have Hn : ∀ b, b ≠ a → H b = none := fun b hb => by rw [hH]; exact if_neg hb
  have noA : ∀ {b : Addr} {o : Obj} {es : Array DictEntry} {ep : Nat}, s₁.heap.get? b = some o → o.data = .dict es ep → H b = none := fun {b o es ep} e d => by
    refine Hn b fun z => ?_
    subst z
    rw [ha] at e; cases e
    cases d
  have nsK : ∀ {b : Addr} {m : Str → Option Value}, s₁.heap.Ns b m → (hidT s₁.heap H).Ns b m := fun {b m} ⟨o, es, ep, e, d, r⟩ => ⟨o, es, ep, hidT_get e (noA e d), d, r⟩
  have hKb : K.In (hidT s₁.heap H) := fun b o e => hidT_get (KX b o e) (Hn b fun z => by subst z; rw [hk] at e; cases e)
  have hM : Mod K mg (hidT s₁.heap H) := ⟨hKb, nsK hns, ⟨mb, nsK hb, hbb⟩, let ⟨mc, h1, h2⟩ := hlim; ⟨mc, nsK h1, h2⟩⟩
  have hok : HOk P w H s₁.heap := fun b u z => by
    by_cases c : b = a
    · subst c
      rw [Ha] at z; cases z
      rw [hob]
      exact ⟨ha, by rw [List.length_map]; exact hl, vs, _, vals_ints hi, ha⟩
    · rw [Hn b c] at z; cases z
  have hO : Only H := fun b => by
    by_cases c : b = a
    · subst c; exact .inr ⟨_, _, Ha⟩
    · exact .inl (Hn b c)
  have hS : SqL K H a (ns.map V.int) := .inl (.inr ⟨ob, Ha⟩)
  have e0 : Env0 P w K mg (hidT s₁.heap H) callerA [] s₁ H := ⟨rfl, hM, fun b o e => of_hidT e, Nat.le_of_eq (hidT_size _ _), trivial, fun b hb => (by cases (show b ∈ ([] : List Addr) from hb)), hok, .of_eq hg⟩
  refine codeAny_mono ((F _ hKb (nsK hns)).run callerA [] s₁ H ⟨[.ref a], []⟩ [.ref a] [.ref a] _ _ rfl hr e0 (hbind s₁ (.ref a)) (.cons rfl .nil) (hsp H hO hS)) fun r s' h => ?_
  match r, h with
  | .error e, h => exact (hCX H e s' h).elim
  | .ok .next, h => exact h.elim
  | .ok .brk, h => exact h.elim
  | .ok .cont, h => exact h.elim
  | .ok (.ret u), h =>
    obtain ⟨v, H', os, bare, un, hok', r', q⟩ := h
    have q' : v = .bl true := q
    subst q'
    obtain rfl : u = Value.bool true := r'
    refine ⟨rfl, OldK.of_keep fun b o e => ?_, os, bare⟩
    by_cases c : b = a
    · subst c
      obtain ⟨e2, _⟩ := hok' b _ (un.frzs b ob _ Ha)
      rw [ha] at e; cases e
      rw [← hob]; exact e2
    · exact un.keep b o e (Hn b c) (fun z => by cases (show b ∈ ([] : List Addr) from z)) (by simp)
/-- the goal that the head leaves, from the law's promise -/
theorem walkG {l : PySem.W.OpenLaw} {n k : Nat} {q : Program} {loose : List Str} {XP : (Str → Option Value) → Heap → Prop} {YP : World → Heap → Prop} {d : DefRec} {K : Params → PySem.W.Frag} {CX : World → CXT} {sp : World → L2.Sp} {x : Str}
    (hn : l.most = some n) (hn2 : n ≤ sizeLine) (hdf : d.params.defaults = []) (hr : Room k callerA)
    (hY : ∀ (w : World) (h : Heap), YP w h → (K w.params).In h) (hnl : ∀ (p : Params) (a : Addr) (o : Obj), (K p).lookup a = some o → o.cls ≠ .type "list")
    (F : ∀ (w : World) (mg : Str → Option Value) (fa : Addr) (h : Heap), (K w.params).In h → h.Ns mainGlobals mg → mg d.name = some (.ref fa) →
      ∃ fd : FuncData, (∀ (s : Shared) (u : Value), BindsTo s fd ⟨[u], []⟩ [(x, u)]) ∧
        ∀ base : Heap, (K w.params).In base → base.Ns mainGlobals mg → FnG l.prog w (K w.params) mg base (CX w) k fa fd [x] (sp w))
    (hsp : ∀ (w : World) (H : Hp) (a : Addr) (ns : List Int), ns.length ≤ n → Only H → SqL (K w.params) H a (ns.map V.int) → sp w [.ref a] H (fun v _ => v = .bl true) fun _ _ _ => False)
    (hCX : ∀ (w : World) (H : Hp) (s : Shared) (e : Value) (s' : Shared), CX w [] H s (fun _ _ _ => False) e s' → False) :
    PySem.W.WalkO q loose XP YP l.row.toRowW d [] (fun f vs => PySem.call f vs) := by
  refine Att.attach_call hn hdf fun w s₀ s₁ mg mb fa o pm cd doc a vs ns G Y ho hd hcd hmg hobj hints hlen hg => ?_
  have KX := hY w _ Y
  obtain ⟨fd, hb, hF⟩ := F w mg fa _ KX G.T.g hmg
  refine law_callG KX G.T.g G.T.b G.T.builtins G.T.nolimit hg hobj hints (Nat.le_trans hlen hn2) hr ?_ hF hb (fun H hO hS => hsp w H a ns hlen hO hS) fun H e s' => hCX w H s₁ e s'
  cases z : (K w.params).lookup a with
  | none => rfl
  | some o' =>
    have e := KX a o' z
    rw [hobj] at e; cases e
    exact absurd rfl (hnl _ _ _ z)
end
end KN

set_option autoImplicit false
set_option linter.all false
/-! Kern, part 3: what the IR's meaning says of the model: relations -/
namespace KN
open PySem PySem.Spec PyProof.Rows

abbrev LV := L2.V
abbrev LH := L2.Hp
abbrev LS := L2.St

/-- an exception of an own class, without a dict of its own, that was caught and kept -/
def ExC (cls : Value) (a : Addr) : L2.HO := .ext fun h => ∃ (oe : Obj) (vs : Array Value), h.get? a = some oe ∧ L2.Zc cls none oe ∧ oe.data = .fields vs
/-- a dict of the module: texts by texts -/
def sOf (s : List Nat) : Str := ⟨s.toArray⟩
def GDict (K : PySem.W.Frag) (P : Params) (a : Addr) (kvs : List (List Nat × List Nat)) : Prop := ∃ es n, K.lookup a = some ⟨.type "dict", none, .dict es n, #[]⟩ ∧ PySem.W.KeysLit P es.toList ∧ ∀ k v, kvs.lookup k = some v → ∃ t, PySem.W.nsIn K a (sOf k) = some (some (.str (sOf v) t))
structure Nm where
  K : PySem.W.Frag
  par : Params
  fa : Nat → Option Addr
  ca : Nat → Option Addr
  /-- exceptions -/
  ea : Nat → Option Addr
  fld : Nat → Str

def kyL : Ky → L2.Key
  | .i n => .inl n
  | .s x => .inr (sOf x)

section
variable (Γ : Nm) (H : LH)
mutual
def RV : Vl → LV → Prop
  | .non, x => x = .non
  | .bl b, x => x = .bl b
  | .int i, x => x = .int i
  | .str s, x => x = .str (sOf s)
  | .tup vs, x => ∃ a xs, x = .ref a ∧ L2.SqT Γ.K H a xs ∧ RVs vs xs
  | .ref a, x => x = .ref a
  | .fn f, x => ∃ a, Γ.fa f = some a ∧ x = .ref a
  | .gd kvs, x => ∃ a, x = .ref a ∧ GDict Γ.K Γ.par a kvs
def RVs : List Vl → List LV → Prop
  | [], xs => xs = []
  | v :: vs, xs => ∃ y ys, xs = y :: ys ∧ RV v y ∧ RVs vs ys
end
def RK : List (Ky × Vl) → List (L2.Key × LV) → Prop
  | [], xs => xs = []
  | (k, v) :: r, xs => ∃ y ys, xs = (kyL k, y) :: ys ∧ RV Γ H v y ∧ RK r ys
def RF : List (Nat × Vl) → List (Str × LV) → Prop
  | [], xs => xs = []
  | (k, v) :: r, xs => ∃ y ys, xs = (Γ.fld k, y) :: ys ∧ RV Γ H v y ∧ RF r ys
def RT : List (List Int × Vl) → List (List Int × Addr × LV) → Prop
  | [], xs => xs = []
  | (k, v) :: r, xs => ∃ b y ys, xs = (k, b, y) :: ys ∧ RV Γ H v y ∧ RT r ys
def RO (a : Addr) : Ob → Prop
  | .lst vs => ∃ xs, H a = some (.lst xs) ∧ RVs Γ H vs xs
  | .rol vs => ∃ o xs, H a = some (.frz o (.lst xs)) ∧ RVs Γ H vs xs
  | .dct kvs => ∃ xs, H a = some (.dK xs) ∧ RK Γ H kvs xs
  | .fdc kvs => ∃ o xs, H a = some (.frz o (.dK xs)) ∧ RK Γ H kvs xs
  | .ins c fs => ∃ C dx gs, Γ.ca c = some C ∧ H a = some (.ins C dx gs) ∧ RF Γ H fs gs
  | .dtp kvs => ∃ kas, H a = some (L2.TD a kas) ∧ L2.TdK Γ.K H kas ∧ RT Γ H kvs kas
  | .exc c r => ∃ C, r = none ∧ Γ.ea c = some C ∧ H a = some (ExC (.ref C) a)
end
def RH (Γ : Nm) (h : AH) (H : LH) : Prop := ∀ a o, get h a = some o → RO Γ H a o
def RS (Γ : Nm) (H : LH) (σ : St) (τ : LS) : Prop := σ.length = τ.length ∧ ∀ (i : Nat) (v : Vl), σ[i]? = some (some v) → ∃ x, τ[i]? = some (some x) ∧ RV Γ H v x

/-- tuples and known objects stay -/
structure Xt (H H' : LH) : Prop where
  tup : ∀ a xs, H a = some (.tup xs) → H' a = some (.tup xs)
  frz : ∀ a o u, H a = some (.frz o u) → H' a = some (.frz o u)
theorem Xt.refl (H : LH) : Xt H H := ⟨fun _ _ e => e, fun _ _ _ e => e⟩
theorem Xt.trans {H H1 H2 : LH} (a : Xt H H1) (b : Xt H1 H2) : Xt H H2 := ⟨fun x xs e => b.tup x xs (a.tup x xs e), fun x o u e => b.frz x o u (a.frz x o u e)⟩
/-- of that, what values need -/
structure Xw (H H' : LH) : Prop where
  tup : ∀ a xs, H a = some (.tup xs) → H' a = some (.tup xs)
  frz : ∀ a o xs, H a = some (.frz o (.tup xs)) → H' a = some (.frz o (.tup xs))
theorem Xt.w {H H' : LH} (e : Xt H H') : Xw H H' := ⟨e.tup, fun a o xs h => e.frz a o _ h⟩
/-- a step: what is not ours stays, what is newly ours was free -/
structure Sp (h : AH) (H : LH) (h' : AH) (H' : LH) : Prop where
  xt : Xt H H'
  fr : ∀ a o, H a = some o → get h a = none → H' a = some o
  dom : ∀ a, get h a = none → H a ≠ none → get h' a = none
theorem Sp.refl (h : AH) (H : LH) : Sp h H h H := ⟨.refl H, fun _ _ e _ => e, fun _ e _ => e⟩
theorem Sp.trans {h h1 h2 : AH} {H H1 H2 : LH} (a : Sp h H h1 H1) (b : Sp h1 H1 h2 H2) : Sp h H h2 H2 := by
  refine ⟨a.xt.trans b.xt, fun x o e n => ?_, fun x n e => ?_⟩
  · exact b.fr x o (a.fr x o e n) (a.dom x n (by rw [e]; simp))
  · refine b.dom x (a.dom x n e) ?_
    cases z : H x with
    | none => exact absurd z e
    | some o => rw [a.fr x o z n]; simp
theorem sqT_monoW {K : PySem.W.Frag} {H H' : LH} {a : Addr} {xs : List LV} (e : Xw H H') (h : L2.SqT K H a xs) : L2.SqT K H' a xs := by
  rcases h with (h | ⟨o, h⟩) | h
  · exact .inl (.inl (e.tup _ _ h))
  · exact .inl (.inr ⟨o, e.frz _ _ _ h⟩)
  · exact .inr h
section
variable {Γ : Nm} {H H' : LH}
mutual
theorem RV.monoW (e : Xw H H') : ∀ (v : Vl) {x : LV}, RV Γ H v x → RV Γ H' v x
  | .non, _, r => by simpa only [RV] using r
  | .bl _, _, r => by simpa only [RV] using r
  | .int _, _, r => by simpa only [RV] using r
  | .str _, _, r => by simpa only [RV] using r
  | .tup vs, _, r => by
    simp only [RV] at r ⊢
    obtain ⟨a, xs, e1, s, rs⟩ := r
    exact ⟨a, xs, e1, sqT_monoW e s, RVs.monoW e vs rs⟩
  | .ref _, _, r => by simpa only [RV] using r
  | .fn _, _, r => by simpa only [RV] using r
  | .gd _, _, r => by simpa only [RV] using r
theorem RVs.monoW (e : Xw H H') : ∀ (vs : List Vl) {xs : List LV}, RVs Γ H vs xs → RVs Γ H' vs xs
  | [], _, r => by simpa only [RVs] using r
  | v :: vs, _, r => by
    simp only [RVs] at r ⊢
    obtain ⟨y, ys, e1, r1, r2⟩ := r
    exact ⟨y, ys, e1, RV.monoW e v r1, RVs.monoW e vs r2⟩
end
theorem RK.monoW (e : Xw H H') : ∀ (vs : List (Ky × Vl)) {xs : List (L2.Key × LV)}, RK Γ H vs xs → RK Γ H' vs xs
  | [], _, r => r
  | (k, v) :: vs, _, ⟨y, ys, e1, r1, r2⟩ => ⟨y, ys, e1, r1.monoW e v, RK.monoW e vs r2⟩
theorem RF.monoW (e : Xw H H') : ∀ (vs : List (Nat × Vl)) {xs : List (Str × LV)}, RF Γ H vs xs → RF Γ H' vs xs
  | [], _, r => r
  | (k, v) :: vs, _, ⟨y, ys, e1, r1, r2⟩ => ⟨y, ys, e1, r1.monoW e v, RF.monoW e vs r2⟩
theorem RT.monoW (e : Xw H H') : ∀ (vs : List (List Int × Vl)) {xs : List (List Int × Addr × LV)}, RT Γ H vs xs → RT Γ H' vs xs
  | [], _, r => r
  | (k, v) :: vs, _, ⟨b, y, ys, e1, r1, r2⟩ => ⟨b, y, ys, e1, r1.monoW e v, RT.monoW e vs r2⟩
theorem RO.monoW {a : Addr} {o : Ob} (e : Xw H H') (k : ∀ u, H a = some u → H' a = some u) (r : RO Γ H a o) : RO Γ H' a o := by
  cases o with
  | lst vs => obtain ⟨xs, h1, h2⟩ := r; exact ⟨xs, k _ h1, h2.monoW e vs⟩
  | rol vs => obtain ⟨o, xs, h1, h2⟩ := r; exact ⟨o, xs, k _ h1, h2.monoW e vs⟩
  | dct kvs => obtain ⟨xs, h1, h2⟩ := r; exact ⟨xs, k _ h1, h2.monoW e kvs⟩
  | fdc kvs => obtain ⟨o, xs, h1, h2⟩ := r; exact ⟨o, xs, k _ h1, h2.monoW e kvs⟩
  | ins c fs => obtain ⟨C, dx, gs, h0, h1, h2⟩ := r; exact ⟨C, dx, gs, h0, k _ h1, h2.monoW e fs⟩
  | dtp kvs => obtain ⟨kas, h1, h2, h3⟩ := r; exact ⟨kas, k _ h1, fun p hp => sqT_monoW e (h2 p hp), h3.monoW e kvs⟩
  | exc c v => obtain ⟨C, h0, h1, h2⟩ := r; exact ⟨C, h0, h1, k _ h2⟩
theorem sqT_mono {K : PySem.W.Frag} {H H' : LH} {a : Addr} {xs : List LV} (e : Xt H H') (h : L2.SqT K H a xs) : L2.SqT K H' a xs := sqT_monoW e.w h
theorem RV.mono (e : Xt H H') (v : Vl) {x : LV} (r : RV Γ H v x) : RV Γ H' v x := RV.monoW e.w v r
theorem RVs.mono (e : Xt H H') (vs : List Vl) {xs : List LV} (r : RVs Γ H vs xs) : RVs Γ H' vs xs := RVs.monoW e.w vs r
theorem RK.mono (e : Xt H H') (vs : List (Ky × Vl)) {xs : List (L2.Key × LV)} (r : RK Γ H vs xs) : RK Γ H' vs xs := RK.monoW e.w vs r
theorem RT.mono (e : Xt H H') {vs : List (List Int × Vl)} {xs : List (List Int × Addr × LV)} (r : RT Γ H vs xs) : RT Γ H' vs xs := RT.monoW e.w vs r
theorem RF.mono (e : Xt H H') (vs : List (Nat × Vl)) {xs : List (Str × LV)} (r : RF Γ H vs xs) : RF Γ H' vs xs := RF.monoW e.w vs r
theorem RO.mono {a : Addr} {o : Ob} (e : Xt H H') (k : ∀ u, H a = some u → H' a = some u) (r : RO Γ H a o) : RO Γ H' a o := RO.monoW e.w k r
theorem RO.there {a : Addr} {o : Ob} (r : RO Γ H a o) : H a ≠ none := by
  cases o with
  | lst vs => obtain ⟨xs, h1, h2⟩ := r; rw [h1]; simp
  | rol vs => obtain ⟨o, xs, h1, h2⟩ := r; rw [h1]; simp
  | dct kvs => obtain ⟨xs, h1, h2⟩ := r; rw [h1]; simp
  | fdc kvs => obtain ⟨o, xs, h1, h2⟩ := r; rw [h1]; simp
  | ins c fs => obtain ⟨C, dx, gs, h0, h1, h2⟩ := r; rw [h1]; simp
  | dtp kvs => obtain ⟨kas, h1, h2, h3⟩ := r; rw [h1]; simp
  | exc c v => obtain ⟨C, h0, h1, h2⟩ := r; rw [h2]; simp
theorem RH.free {h : AH} {p : Addr} (r : RH Γ h H) (n : H p = none) : get h p = none := by
  cases e : get h p with
  | none => rfl
  | some o => exact absurd n (r p o e).there
theorem RH.sub {h h' : AH} (r : RH Γ h H) (s : Sub h' h) : RH Γ h' H := fun a o e => r a o (s a o e)
theorem Sp.sub {h h1 h2 : AH} (a : Sp h H h1 H') (s : Sub h2 h1) : Sp h H h2 H' := by
  refine ⟨a.xt, a.fr, fun x n e => ?_⟩
  have z := a.dom x n e
  cases q : get h2 x with
  | none => rfl
  | some o => rw [s x o q] at z; cases z
theorem RS.monoW {σ : St} {τ : LS} (e : Xw H H') (r : RS Γ H σ τ) : RS Γ H' σ τ := ⟨r.1, fun i v h => let ⟨x, h1, h2⟩ := r.2 i v h; ⟨x, h1, h2.monoW e v⟩⟩
theorem RS.mono {σ : St} {τ : LS} (e : Xt H H') (r : RS Γ H σ τ) : RS Γ H' σ τ := ⟨r.1, fun i v h => let ⟨x, h1, h2⟩ := r.2 i v h; ⟨x, h1, h2.mono e v⟩⟩
theorem RS.set {σ : St} {τ : LS} {v : Vl} {x : LV} (r : RS Γ H σ τ) (rv : RV Γ H v x) (i : Nat) : RS Γ H (σ.set i (some v)) (τ.set i (some x)) := by
  refine ⟨by simp [r.1], fun j w h => ?_⟩
  rw [List.getElem?_set] at h
  rw [List.getElem?_set]
  by_cases e : i = j
  · subst e
    rw [if_pos rfl] at h ⊢
    by_cases l : i < σ.length
    · rw [if_pos l] at h
      rw [if_pos (by rw [← r.1]; exact l)]
      cases h
      exact ⟨x, rfl, rv⟩
    · rw [if_neg l] at h; cases h
  · rw [if_neg e] at h ⊢
    exact r.2 j w h
/-- a new object of ours -/
theorem Xt.new {p : Addr} {o : L2.HO} (n : H p = none) : Xt H (L2.upd H p o) :=
  ⟨fun a xs e => by rw [L2.upd_ne (L2.ne_of_none e n)]; exact e, fun a u w e => by rw [L2.upd_ne (L2.ne_of_none e n)]; exact e⟩
theorem get_pushD {h : AH} {p a : Nat} {o : Ob} (e : get h a = none) (n : a ≠ p) : get (push h p o) a = none := by
  unfold get push at *
  simp only
  cases hb : look h.b a with
  | some u => simp [hb] at e
  | none => simp [hb] at e; simp [look, n, e]
theorem get_pushS {h : AH} {p a : Nat} {o u : Ob} (hp : get h p = none) (e : get (push h p o) a = some u) : (a = p ∧ u = o) ∨ (a ≠ p ∧ get h a = some u) := by
  unfold get push at *
  simp only at e
  cases hb : look h.b a with
  | some w =>
    simp [hb] at e
    refine .inr ⟨?_, by simp [e]⟩
    rintro rfl
    simp [hb] at hp
  | none =>
    simp [hb, look] at e
    by_cases z : a = p
    · simp [z] at e; exact .inl ⟨z, e.symm⟩
    · simp [z] at e; exact .inr ⟨z, by simp [e]⟩
theorem Sp.new {h : AH} {p : Addr} {o : L2.HO} {u : Ob} (n : H p = none) : Sp h H (push h p u) (L2.upd H p o) :=
  ⟨.new n, fun a w e _ => by rw [L2.upd_ne (L2.ne_of_none e n)]; exact e, fun a e z => get_pushD e fun q => z (q ▸ n)⟩
theorem RH.new {h : AH} {p : Addr} {o : L2.HO} {u : Ob} (r : RH Γ h H) (n : H p = none) (ro : RO Γ (L2.upd H p o) p u) : RH Γ (push h p u) (L2.upd H p o) := fun a w e => by
  rcases get_pushS (r.free n) e with ⟨rfl, rfl⟩ | ⟨ne, e⟩
  · exact ro
  · exact (r a w e).mono (.new n) fun x q => by rw [L2.upd_ne ne]; exact q
/-- an object that is not ours: a tuple -/
theorem Sp.tup {h : AH} {p : Addr} {o : L2.HO} (n : H p = none) : Sp h H h (L2.upd H p o) :=
  ⟨.new n, fun a w e _ => by rw [L2.upd_ne (L2.ne_of_none e n)]; exact e, fun a e z => e⟩
theorem RH.tup {h : AH} {p : Addr} {o : L2.HO} (r : RH Γ h H) (n : H p = none) : RH Γ h (L2.upd H p o) := fun a w e =>
  (r a w e).mono (.new n) fun x q => by rw [L2.upd_ne (L2.ne_of_none q n)]; exact q
/-- an object of ours is changed -/
theorem get_putS {h : AH} {p a : Nat} {o u : Ob} (e : get (put h p o) a = some u) : (a = p ∧ u = o) ∨ (a ≠ p ∧ get h a = some u) := by
  have key : ∀ (l : List (Nat × Ob)) b, look (lput l p o) b = if b = p then (look l p).map (fun _ => o) else look l b := by
    intro l
    induction l with
    | nil => intro b; simp [lput, look]
    | cons x l ih =>
      obtain ⟨q, w⟩ := x
      intro b
      unfold lput
      by_cases z : p = q
      · subst z; simp [look]; by_cases y : b = p <;> simp [y]
      · simp only [z, if_false, look, ih]
        by_cases y : b = q
        · subst y; simp [Ne.symm z]
        · simp [y]
  have full : get (put h p o) a = if a = p then (get h p).map (fun _ => o) else get h a := by
    unfold get put
    cases hb : look h.b p with
    | some u =>
      simp only [key]
      by_cases z : a = p
      · subst z; simp [hb]
      · simp [z]
    | none =>
      simp only [key]
      by_cases z : a = p
      · subst z; simp [hb]
      · simp [z]
  rw [full] at e
  by_cases z : a = p
  · rw [if_pos z] at e
    cases q : get h p with
    | none => rw [q] at e; cases e
    | some w => rw [q] at e; cases e; exact .inl ⟨z, rfl⟩
  · rw [if_neg z] at e; exact .inr ⟨z, e⟩
theorem get_putN {h : AH} {p a : Nat} {o : Ob} (e : get h a = none) : get (put h p o) a = none := by
  cases q : get (put h p o) a with
  | none => rfl
  | some u =>
    rcases get_putS q with ⟨rfl, rfl⟩ | ⟨_, q⟩
    · -- a = p, get h p = none
      have : get (put h a u) a = none := by
        have hb : look h.b a = none := by
          unfold get at e
          cases hb : look h.b a with
          | some w => simp [hb] at e
          | none => rfl
        have hr : look h.r a = none := by
          unfold get at e
          simpa [hb] using e
        have nochange : ∀ l : List (Nat × Ob), look l a = none → lput l a u = l := by
          intro l
          induction l with
          | nil => intro _; rfl
          | cons x l ih =>
            obtain ⟨q, w⟩ := x
            intro hl
            unfold look at hl
            by_cases z : a = q
            · rw [if_pos z] at hl; cases hl
            · rw [if_neg z] at hl
              unfold lput
              rw [if_neg z, ih hl]
        unfold get put
        simp [hb, nochange h.r hr, hr]
      rw [this] at q; cases q
    · rw [e] at q; cases q
/-- mutable things -/
def Mu : L2.HO → Prop
  | .lst _ => True
  | .dK _ => True
  | .ins _ _ _ => True
  | .ext _ => True
  | _ => False
theorem Xt.mut {p : Addr} {o w : L2.HO} (e : H p = some w) (m : Mu w) : Xt H (L2.upd H p o) := by
  refine ⟨fun a xs q => ?_, fun a u v q => ?_⟩
  · rw [L2.upd_ne (by rintro rfl; rw [e] at q; cases q; exact m)]; exact q
  · rw [L2.upd_ne (by rintro rfl; rw [e] at q; cases q; exact m)]; exact q
theorem Sp.mut {h : AH} {p : Addr} {o w : L2.HO} {u x : Ob} (g : get h p = some x) (e : H p = some w) (m : Mu w) : Sp h H (put h p u) (L2.upd H p o) :=
  ⟨.mut e m, fun a v q n => by rw [L2.upd_ne (by rintro rfl; rw [g] at n; cases n)]; exact q, fun a n _ => get_putN n⟩
theorem RH.mut {h : AH} {p : Addr} {o w : L2.HO} {u : Ob} (r : RH Γ h H) (e : H p = some w) (m : Mu w) (ro : RO Γ (L2.upd H p o) p u) : RH Γ (put h p u) (L2.upd H p o) := fun a v q => by
  rcases get_putS q with ⟨rfl, rfl⟩ | ⟨ne, q⟩
  · exact ro
  · exact (r a v q).mono (.mut e m) fun x z => by rw [L2.upd_ne ne]; exact z
end

/-! ### the wants -/
def KQ (Γ : Nm) (h : AH) (H : LH) (Q : Qv) (Q' : L2.VK) : Prop := ∀ v h' x H', RV Γ H' v x → RH Γ h' H' → Sp h H h' H' → Q v h' → Q' x H'
theorem KQ.step {Γ : Nm} {h h1 : AH} {H H1 : LH} {Q : Qv} {Q' : L2.VK} (k : KQ Γ h H Q Q') (s : Sp h H h1 H1) : KQ Γ h1 H1 Q Q' := fun v h' x H' a b c d => k v h' x H' a b (s.trans c) d
/-- an exception -/
def REx (Γ : Nm) (H : LH) (e : Ex) (c : Value) (d : Option Addr) : Prop := ∃ C, Γ.ea e.c = some C ∧ c = .ref C ∧ match e.r with
  | none => d = none
  | some v => ∃ dd x, d = some dd ∧ H dd = some (.xd [(Str.ofString "row", x)]) ∧ RV Γ H v x
def KX (Γ : Nm) (W : L2.WX) (h : AH) (H : LH) (X : Xv) : Prop := ∀ e σ h' c d τ H', REx Γ H' e c d → RS Γ H' σ τ → RH Γ h' H' → Sp h H h' H' → X e σ h' → W c d τ H'
theorem KX.step {Γ : Nm} {W : L2.WX} {h h1 : AH} {H H1 : LH} {X : Xv} (k : KX Γ W h H X) (s : Sp h H h1 H1) : KX Γ W h1 H1 X := fun e σ h' c d τ H' a b c d f => k e σ h' _ _ τ H' a b c (s.trans d) f

def gE (Γ : Nm) (W : L2.WX) (w : St → AH → Qv → Xv → Prop) : L2.TE := fun τ H Q' => ∃ σ h Q X, RS Γ H σ τ ∧ RH Γ h H ∧ w σ h Q X ∧ KQ Γ h H Q Q' ∧ KX Γ W h H X
def KT (Γ : Nm) (h : AH) (H : LH) (Q : Bool → AH → Prop) (Q' : Bool → LH → Prop) : Prop := ∀ b h' H', RH Γ h' H' → Sp h H h' H' → Q b h' → Q' b H'
theorem KT.step {Γ : Nm} {h h1 : AH} {H H1 : LH} {Q : Bool → AH → Prop} {Q' : Bool → LH → Prop} (k : KT Γ h H Q Q') (s : Sp h H h1 H1) : KT Γ h1 H1 Q Q' := fun v h' H' b c d => k v h' H' b (s.trans c) d
def gT (Γ : Nm) (W : L2.WX) (w : St → AH → (Bool → AH → Prop) → Xv → Prop) : L2.TT := fun τ H Q' => ∃ σ h Q X, RS Γ H σ τ ∧ RH Γ h H ∧ w σ h Q X ∧ KT Γ h H Q Q' ∧ KX Γ W h H X
def KA (Γ : Nm) (h : AH) (H : LH) (Q : List Vl → AH → Prop) (Q' : List LV → LH → Prop) : Prop := ∀ vs h' xs H', RVs Γ H' vs xs → RH Γ h' H' → Sp h H h' H' → Q vs h' → Q' xs H'
theorem KA.step {Γ : Nm} {h h1 : AH} {H H1 : LH} {Q : List Vl → AH → Prop} {Q' : List LV → LH → Prop} (k : KA Γ h H Q Q') (s : Sp h H h1 H1) : KA Γ h1 H1 Q Q' := fun v h' x H' a b c d => k v h' x H' a b (s.trans c) d
def gA (Γ : Nm) (W : L2.WX) (w : St → AH → (List Vl → AH → Prop) → Xv → Prop) : L2.TA := fun τ H Q' => ∃ σ h Q X, RS Γ H σ τ ∧ RH Γ h H ∧ w σ h Q X ∧ KA Γ h H Q Q' ∧ KX Γ W h H X
/-- operators by values -/
def gO (Γ : Nm) (r : Vl → Vl → AH → Qv → Prop) : L2.R2 := fun x y H Q' => ∃ v u h Q, RV Γ H v x ∧ RV Γ H u y ∧ RH Γ h H ∧ r v u h Q ∧ KQ Γ h H Q Q'
def gU (Γ : Nm) (r : List Vl → AH → Qv → Prop) : List LV → LH → L2.VK → Prop := fun xs H Q' => ∃ vs h Q, RVs Γ H vs xs ∧ RH Γ h H ∧ r vs h Q ∧ KQ Γ h H Q Q'

theorem PE.mono {X : L2.Cx} {e : Expr} {t t' : L2.TE} (p : L2.PE X e t) (m : ∀ σ H Q, t' σ H Q → t σ H Q) : L2.PE X e t' := ⟨fun pins s σ H Q I h => p.run pins s σ H Q I (m σ H Q h)⟩
theorem PT.mono {X : L2.Cx} {e : Expr} {t t' : L2.TT} (p : L2.PT X e t) (m : ∀ σ H Q, t' σ H Q → t σ H Q) : L2.PT X e t' := ⟨fun pins s σ H Q I h => p.run pins s σ H Q I (m σ H Q h)⟩
theorem PW.mono {X : L2.Cx} {e : Expr} {t t' : L2.TT} (p : L2.PW X e t) (m : ∀ σ H Q, t' σ H Q → t σ H Q) : L2.PW X e t' := ⟨fun wh pins s σ H Q I h => p.run wh pins s σ H Q I (m σ H Q h)⟩
theorem PA.mono {X : L2.Cx} {e : List Expr} {t t' : L2.TA} (p : L2.PA X e t) (m : ∀ σ H Q, t' σ H Q → t σ H Q) : L2.PA X e t' := ⟨fun pos pins s σ H Q I h => p.run pos pins s σ H Q I (m σ H Q h)⟩
theorem PS.mono {X : L2.Cx} {e : Stmt} {t t' : L2.TS} (p : L2.PS X e t) (m : ∀ D σ H, t' D σ H → t D σ H) : L2.PS X e t' := ⟨fun pins s σ H D I h => p.run pins s σ H D I (m D σ H h)⟩
theorem PSs.mono {X : L2.Cx} {e : List Stmt} {t t' : L2.TS} (p : L2.PSs X e t) (m : ∀ D σ H, t' D σ H → t D σ H) : L2.PSs X e t' := ⟨fun pins s σ H D I h => p.run pins s σ H D I (m D σ H h)⟩
end KN

set_option autoImplicit false
set_option linter.all false
/-! Kern, part 4: expressions -/
namespace KN
open PySem PySem.Spec PyProof.Rows
open L2 (PE PT PW PA PS PSs OpR CallR upd)

section
variable {X : L2.Cx} {Γ : Nm} {W : L2.WX} {P : PG} {Φ : Phi} {pos pos' : Pos} {a b c e : Expr} {a' b' c' e' es' : E} {es : List Expr}

theorem sE_var {i : Nat} {x : Str} (hN : X.N[i]? = some x) (hv : L2.Vis X.env.scope x) (hd : (x == ("__debug__" : Str)) = false) (hcd : (x == ("__classdict__" : Str)) = false) :
    PE X (.Name x pos) (gE Γ W (wE P Φ (.var i))) := by
  refine PE.mono (L2.pe_var hN hv hd hcd) ?_
  rintro τ H Q' ⟨σ, h, Q, X', rs, rh, ⟨v, e, q⟩, kq, kx⟩
  obtain ⟨x, h1, rv⟩ := rs.2 i v e
  exact ⟨x, h1, kq v h x H rv rh (.refl _ _) q⟩
theorem sE_int {i : Int} {j : Nat} : PE X (.Constant (.int i) j pos) (gE Γ W (wE P Φ (.int i))) := by
  refine PE.mono L2.pe_int ?_
  rintro τ H Q' ⟨σ, h, Q, X', rs, rh, w, kq, kx⟩
  exact kq (.int i) h _ H (by simp only [RV]) rh (.refl _ _) w
theorem sE_str {s : Str} {j : Nat} : PE X (.Constant (.str s) j pos) (gE Γ W (wE P Φ (.str s.cps.toList))) := by
  refine PE.mono L2.pe_str ?_
  rintro τ H Q' ⟨σ, h, Q, X', rs, rh, w, kq, kx⟩
  exact kq (.str s.cps.toList) h _ H (by simp only [RV, sOf]) rh (.refl _ _) w
theorem sE_bl {t : Bool} {j : Nat} : PE X (.Constant (.bool t) j pos) (gE Γ W (wE P Φ (.bl t))) := by
  refine PE.mono L2.pe_bl ?_
  rintro τ H Q' ⟨σ, h, Q, X', rs, rh, w, kq, kx⟩
  exact kq (.bl t) h _ H (by simp only [RV]) rh (.refl _ _) w
theorem sE_non {j : Nat} : PE X (.Constant .none j pos) (gE Γ W (wE P Φ .non)) := by
  refine PE.mono L2.pe_non ?_
  rintro τ H Q' ⟨σ, h, Q, X', rs, rh, w, kq, kx⟩
  exact kq .non h _ H (by simp only [RV]) rh (.refl _ _) w
theorem sE_glob {x : Str} {g : Nat} (hg : L2.Gl X x) (hd : (x == ("__debug__" : Str)) = false) (ht : ∃ v xv u, P.glob g = some v ∧ X.mg x = some u ∧ L2.RelV xv u ∧ ∀ H, RV Γ H v xv) :
    PE X (.Name x pos) (gE Γ W (wE P Φ (.glob g))) := by
  obtain ⟨v, xv, u, h1, h2, h3, h4⟩ := ht
  refine PE.mono (L2.pe_glob hg h2 h3 hd) ?_
  rintro τ H Q' ⟨σ, h, Q, X', rs, rh, ⟨v', e, q⟩, kq, kx⟩
  rw [h1] at e; cases e
  exact kq v h _ H (h4 H) rh (.refl _ _) q

/-- two operands -/
theorem two {r : Vl → Vl → AH → Qv → Prop} {R : L2.R2} (hr : ∀ x y H Q, gO Γ r x y H Q → R x y H Q) {τ : LS} {H : LH} {Q' : L2.VK} {wa wb : St → AH → Qv → Xv → Prop}
    (g : gE Γ W (fun σ h Q X => wa σ h (fun x h1 => wb σ h1 (fun y h2 => r x y h2 Q) X) X) τ H Q') : L2.tOp R (gE Γ W wa) (gE Γ W wb) τ H Q' := by
  obtain ⟨σ, h, Q, X', rs, rh, w, kq, kx⟩ := g
  refine ⟨σ, h, _, X', rs, rh, w, ?_, kx⟩
  intro v h1 x H1 rv rh1 s1 q1
  refine ⟨σ, h1, _, X', rs.mono s1.xt, rh1, q1, ?_, kx.step s1⟩
  intro u h2 y H2 ru rh2 s2 q2
  exact hr _ _ _ _ ⟨v, u, h2, Q, rv.mono s2.xt, ru, rh2, q2, kq.step (s1.trans s2)⟩
theorem sE_bin {op : Operator} {o : Op2} (ho : OpR X (binaryOp op) (gO Γ (wOp o))) (ha : PE X a (gE Γ W (wE P Φ a'))) (hb : PE X b (gE Γ W (wE P Φ b'))) :
    PE X (.BinOp a op b pos) (gE Γ W (wE P Φ (.op o a' b'))) :=
  PE.mono (L2.pe_op ho ha hb) fun τ H Q' g => two (fun _ _ _ _ z => z) g
theorem sE_cmp {op : CmpOp} {o : Op2} (ho : OpR X (compareOp op) (gO Γ (wOp o))) (ha : PE X a (gE Γ W (wE P Φ a'))) (hb : PE X b (gE Γ W (wE P Φ b'))) (hm : behindInMarks op b = false) :
    PE X (.Compare a [op] [b] pos) (gE Γ W (wE P Φ (.op o a' b'))) :=
  PE.mono (L2.pe_cmpR ho ha hb hm) fun τ H Q' g => two (fun _ _ _ _ z => z) g
theorem KQ.bl {h : AH} {H : LH} {Q : Bool → AH → Prop} {Q' : Bool → LH → Prop} (k : KT Γ h H Q Q') : KQ Γ h H (fun z h' => ∃ t, z = .bl t ∧ Q t h') (fun x H' => ∃ t, x = .bl t ∧ Q' t H') := by
  intro v h' x H' rv rh s ⟨t, e, q⟩
  subst e
  have e : x = .bl t := by simpa only [RV] using rv
  exact ⟨t, e, k t h' H' rh s q⟩
theorem sT_cmp {op : CmpOp} {o : Op2} (ho : OpR X (compareOp op) (gO Γ (wOp o))) (ha : PE X a (gE Γ W (wE P Φ a'))) (hb : PE X b (gE Γ W (wE P Φ b'))) (hm : behindInMarks op b = false) :
    PT X (.Compare a [op] [b] pos) (gT Γ W (wT P Φ (.op o a' b'))) := by
  refine PT.mono (L2.pt_cmpR ho ha hb hm) ?_
  rintro τ H Q' ⟨σ, h, Q, X', rs, rh, w, kq, kx⟩
  exact two (fun _ _ _ _ z => z) ⟨σ, h, _, X', rs, rh, w, KQ.bl kq, kx⟩
/-! four in a chain -/
def tChain3 (r r' r'' : L2.R2) (ta tb tc td : L2.TE) : L2.TE := fun σ H Q => ta σ H fun x H1 => tb σ H1 fun y H2 => r x y H2 fun z H3 => ∃ k, z = L2.V.bl k ∧
  (if k = true then tc σ H3 fun w' H4 => r' y w' H4 fun z' H5 => ∃ k', z' = L2.V.bl k' ∧ (if k' = true then td σ H5 fun v' H6 => r'' w' v' H6 Q else Q (.bl false) H5) else Q (.bl false) H3)
theorem pe_chain3 {d : Expr} {op op' op'' : CmpOp} {r r' r'' : L2.R2} {ta tb tc td : L2.TE} (ho : OpR X (compareOp op) r) (ho' : OpR X (compareOp op') r') (ho'' : OpR X (compareOp op'') r'') (ha : PE X a ta) (hb : PE X b tb) (hc : PE X c tc) (hd : PE X d td)
    (hm : lastMarks [op, op', op''] [b, c, d] = false) : PE X (.Compare a [op, op', op''] [b, c, d] pos) (tChain3 r r' r'' ta tb tc td) := by
  refine ⟨fun pins s σ H Q I h => ?_⟩
  refine Compare_chain (L2.thn (ha.run pins s σ H _ I h) fun v s1 ⟨x, H1, I1, r1, q1⟩ => chain_link (L2.thn (hb.run pins s1 σ H1 _ I1 q1) fun u s2 ⟨y, H2, I2, r2, q2⟩ =>
    L2.thn (ho pins s2 σ H2 x y v u _ I2 r1 r2 q2) fun d s3 ⟨z, H3, I3, r3, k, e, q3⟩ => ?_)) hm
  subst e
  cases r3
  refine wpAny_truthy_bool ?_
  cases k with
  | false => exact ite_ff ⟨.bl false, H3, I3, rfl, q3⟩
  | true =>
    refine ite_tt (chain_link (L2.thn (hc.run pins s3 σ H3 _ I3 q3) fun w' s4 ⟨z', H4, I4, r4, q4⟩ => L2.thn (ho' pins s4 σ H4 y z' u w' _ I4 r2 r4 q4) fun d' s5 ⟨z2, H5, I5, r5, k2, e2, q5⟩ => ?_))
    subst e2
    cases r5
    refine wpAny_truthy_bool ?_
    cases k2 with
    | false => exact ite_ff ⟨.bl false, H5, I5, rfl, q5⟩
    | true => exact ite_tt (chain_last (L2.thn (hd.run pins s5 σ H5 _ I5 q5) fun v' s6 ⟨z3, H6, I6, r6, q6⟩ => ho'' pins s6 σ H6 z' z3 w' v' Q I6 r4 r6 q6))
theorem sE_chain3 {d : Expr} {d' : E} {op op' op'' : CmpOp} {o o' o'' : Op2} (ho : OpR X (compareOp op) (gO Γ (wOp o))) (ho' : OpR X (compareOp op') (gO Γ (wOp o'))) (ho'' : OpR X (compareOp op'') (gO Γ (wOp o''))) (ha : PE X a (gE Γ W (wE P Φ a'))) (hb : PE X b (gE Γ W (wE P Φ b'))) (hc : PE X c (gE Γ W (wE P Φ c'))) (hd : PE X d (gE Γ W (wE P Φ d')))
    (hm : lastMarks [op, op', op''] [b, c, d] = false) : PE X (.Compare a [op, op', op''] [b, c, d] pos) (gE Γ W (wE P Φ (.chain3 o o' o'' a' b' c' d'))) := by
  refine PE.mono (pe_chain3 ho ho' ho'' ha hb hc hd hm) ?_
  rintro τ H Q' ⟨σ, h, Q, X', rs, rh, w, kq, kx⟩
  refine ⟨σ, h, _, X', rs, rh, w, ?_, kx⟩
  intro v h1 x H1 rv rh1 s1 q1
  refine ⟨σ, h1, _, X', rs.mono s1.xt, rh1, q1, ?_, kx.step s1⟩
  intro u h2 y H2 ru rh2 s2 q2
  refine ⟨v, u, h2, _, rv.mono s2.xt, ru, rh2, q2, ?_⟩
  intro z h3 zx H3 rz rh3 s3 ⟨t, e, q3⟩
  subst e
  have s13 := (s1.trans s2).trans s3
  have ru3 := ru.mono s3.xt
  refine ⟨t, by simpa only [RV] using rz, ?_⟩
  cases t with
  | true =>
    simp only [if_true] at q3 ⊢
    refine ⟨σ, h3, _, X', rs.mono s13.xt, rh3, q3, ?_, kx.step s13⟩
    intro u2 h4 y2 H4 ru2 rh4 s4 q4
    refine ⟨u, u2, h4, _, ru3.mono s4.xt, ru2, rh4, q4, ?_⟩
    intro z5 h5 zx5 H5 rz5 rh5 s5 ⟨t5, e5, q5⟩
    subst e5
    have s15 := (s13.trans s4).trans s5
    refine ⟨t5, by simpa only [RV] using rz5, ?_⟩
    cases t5 with
    | true =>
      simp only [if_true] at q5 ⊢
      refine ⟨σ, h5, _, X', rs.mono s15.xt, rh5, q5, ?_, kx.step s15⟩
      intro u3 h6 y3 H6 ru4 rh6 s6 q6
      exact ⟨u2, u3, h6, Q, (ru2.mono s5.xt).mono s6.xt, ru4, rh6, q6, kq.step (s15.trans s6)⟩
    | false =>
      simp only [Bool.false_eq_true, if_false] at q5 ⊢
      exact kq _ h5 _ H5 (by simp only [RV]) rh5 s15 q5
  | false =>
    simp only [Bool.false_eq_true, if_false] at q3 ⊢
    exact kq _ h3 _ H3 (by simp only [RV]) rh3 s13 q3
theorem pt_chain3 {d : Expr} {op op' op'' : CmpOp} {r r' r'' : L2.R2} {ta tb tc td : L2.TE} (ho : OpR X (compareOp op) r) (ho' : OpR X (compareOp op') r') (ho'' : OpR X (compareOp op'') r'') (ha : PE X a ta) (hb : PE X b tb) (hc : PE X c tc) (hd : PE X d td)
    (hm : lastMarks [op, op', op''] [b, c, d] = false) : PT X (.Compare a [op, op', op''] [b, c, d] pos) (L2.tTest (tChain3 r r' r'' ta tb tc td)) := by
  refine ⟨fun pins s σ H Q I h => ?_⟩
  refine isTrue_chain (L2.thn (ha.run pins s σ H _ I h) fun v s1 ⟨x, H1, I1, r1, q1⟩ => test_link (L2.thn (hb.run pins s1 σ H1 _ I1 q1) fun u s2 ⟨y, H2, I2, r2, q2⟩ =>
    L2.thn (ho pins s2 σ H2 x y v u _ I2 r1 r2 q2) fun d s3 ⟨z, H3, I3, r3, k, e, q3⟩ => ?_)) hm
  subst e
  cases r3
  refine wpAny_truthy_bool ?_
  cases k with
  | false =>
    obtain ⟨k', e', q'⟩ := q3
    cases e'
    exact ite_ff ⟨H3, I3, q'⟩
  | true =>
    refine ite_tt (test_link (L2.thn (hc.run pins s3 σ H3 _ I3 q3) fun w' s4 ⟨z', H4, I4, r4, q4⟩ => L2.thn (ho' pins s4 σ H4 y z' u w' _ I4 r2 r4 q4) fun d' s5 ⟨z2, H5, I5, r5, k2, e2, q5⟩ => ?_))
    subst e2
    cases r5
    refine wpAny_truthy_bool ?_
    cases k2 with
    | false =>
      obtain ⟨k', e', q'⟩ := q5
      cases e'
      exact ite_ff ⟨H5, I5, q'⟩
    | true =>
      refine ite_tt (test_last (L2.thn (hd.run pins s5 σ H5 _ I5 q5) fun v' s6 ⟨z3, H6, I6, r6, q6⟩ => L2.thn (ho'' pins s6 σ H6 z' z3 w' v' _ I6 r4 r6 q6) fun d'' s7 ⟨z4, H7, I7, r7, k3, e3, q7⟩ => ?_))
      subst e3
      cases r7
      exact wpAny_truthy_bool ⟨H7, I7, q7⟩
theorem sT_chain3 {d : Expr} {d' : E} {op op' op'' : CmpOp} {o o' o'' : Op2} (ho : OpR X (compareOp op) (gO Γ (wOp o))) (ho' : OpR X (compareOp op') (gO Γ (wOp o'))) (ho'' : OpR X (compareOp op'') (gO Γ (wOp o''))) (ha : PE X a (gE Γ W (wE P Φ a'))) (hb : PE X b (gE Γ W (wE P Φ b'))) (hc : PE X c (gE Γ W (wE P Φ c'))) (hd : PE X d (gE Γ W (wE P Φ d')))
    (hm : lastMarks [op, op', op''] [b, c, d] = false) : PT X (.Compare a [op, op', op''] [b, c, d] pos) (gT Γ W (wT P Φ (.chain3 o o' o'' a' b' c' d'))) := by
  refine PT.mono (pt_chain3 ho ho' ho'' ha hb hc hd hm) ?_
  rintro τ H Q' ⟨σ, h, Q, X', rs, rh, w, kq, kx⟩
  refine ⟨σ, h, _, X', rs, rh, w, ?_, kx⟩
  intro v h1 x H1 rv rh1 s1 q1
  refine ⟨σ, h1, _, X', rs.mono s1.xt, rh1, q1, ?_, kx.step s1⟩
  intro u h2 y H2 ru rh2 s2 q2
  refine ⟨v, u, h2, _, rv.mono s2.xt, ru, rh2, q2, ?_⟩
  intro z h3 zx H3 rz rh3 s3 ⟨t, e, q3⟩
  subst e
  have s13 := (s1.trans s2).trans s3
  have ru3 := ru.mono s3.xt
  refine ⟨t, by simpa only [RV] using rz, ?_⟩
  cases t with
  | true =>
    simp only [if_true] at q3 ⊢
    refine ⟨σ, h3, _, X', rs.mono s13.xt, rh3, q3, ?_, kx.step s13⟩
    intro u2 h4 y2 H4 ru2 rh4 s4 q4
    refine ⟨u, u2, h4, _, ru3.mono s4.xt, ru2, rh4, q4, ?_⟩
    intro z5 h5 zx5 H5 rz5 rh5 s5 ⟨t5, e5, q5⟩
    subst e5
    have s15 := (s13.trans s4).trans s5
    refine ⟨t5, by simpa only [RV] using rz5, ?_⟩
    cases t5 with
    | true =>
      simp only [if_true] at q5 ⊢
      refine ⟨σ, h5, _, X', rs.mono s15.xt, rh5, q5, ?_, kx.step s15⟩
      intro u3 h6 y3 H6 ru4 rh6 s6 q6
      exact ⟨u2, u3, h6, _, (ru2.mono s5.xt).mono s6.xt, ru4, rh6, q6, KQ.bl (kq.step (s15.trans s6))⟩
    | false =>
      simp only [Bool.false_eq_true, if_false] at q5 ⊢
      exact ⟨false, rfl, kq _ h5 H5 rh5 s15 q5⟩
  | false =>
    simp only [Bool.false_eq_true, if_false] at q3 ⊢
    exact ⟨false, rfl, kq _ h3 H3 rh3 s13 q3⟩
theorem sE_chain {op op' : CmpOp} {o o' : Op2} (ho : OpR X (compareOp op) (gO Γ (wOp o))) (ho' : OpR X (compareOp op') (gO Γ (wOp o'))) (ha : PE X a (gE Γ W (wE P Φ a'))) (hb : PE X b (gE Γ W (wE P Φ b'))) (hc : PE X c (gE Γ W (wE P Φ c')))
    (hm : lastMarks [op, op'] [b, c] = false) : PE X (.Compare a [op, op'] [b, c] pos) (gE Γ W (wE P Φ (.chain o o' a' b' c'))) := by
  refine PE.mono (L2.pe_chain ho ho' ha hb hc hm) ?_
  rintro τ H Q' ⟨σ, h, Q, X', rs, rh, w, kq, kx⟩
  refine ⟨σ, h, _, X', rs, rh, w, ?_, kx⟩
  intro v h1 x H1 rv rh1 s1 q1
  refine ⟨σ, h1, _, X', rs.mono s1.xt, rh1, q1, ?_, kx.step s1⟩
  intro u h2 y H2 ru rh2 s2 q2
  refine ⟨v, u, h2, _, rv.mono s2.xt, ru, rh2, q2, ?_⟩
  intro z h3 zx H3 rz rh3 s3 ⟨t, e, q3⟩
  subst e
  have s13 := (s1.trans s2).trans s3
  have ru3 := ru.mono s3.xt
  refine ⟨t, by simpa only [RV] using rz, ?_⟩
  cases t with
  | true =>
    simp only [if_true] at q3 ⊢
    refine ⟨σ, h3, _, X', rs.mono s13.xt, rh3, q3, ?_, kx.step s13⟩
    intro u2 h4 y2 H4 ru2 rh4 s4 q4
    exact ⟨u, u2, h4, Q, ru3.mono s4.xt, ru2, rh4, q4, kq.step (s13.trans s4)⟩
  | false =>
    simp only [Bool.false_eq_true, if_false] at q3 ⊢
    exact kq _ h3 _ H3 (by simp only [RV]) rh3 s13 q3
theorem sT_chain {op op' : CmpOp} {o o' : Op2} (ho : OpR X (compareOp op) (gO Γ (wOp o))) (ho' : OpR X (compareOp op') (gO Γ (wOp o'))) (ha : PE X a (gE Γ W (wE P Φ a'))) (hb : PE X b (gE Γ W (wE P Φ b'))) (hc : PE X c (gE Γ W (wE P Φ c')))
    (hm : lastMarks [op, op'] [b, c] = false) : PT X (.Compare a [op, op'] [b, c] pos) (gT Γ W (wT P Φ (.chain o o' a' b' c'))) := by
  refine PT.mono (L2.pt_chain ho ho' ha hb hc hm) ?_
  rintro τ H Q' ⟨σ, h, Q, X', rs, rh, w, kq, kx⟩
  refine ⟨σ, h, _, X', rs, rh, w, ?_, kx⟩
  intro v h1 x H1 rv rh1 s1 q1
  refine ⟨σ, h1, _, X', rs.mono s1.xt, rh1, q1, ?_, kx.step s1⟩
  intro u h2 y H2 ru rh2 s2 q2
  refine ⟨v, u, h2, _, rv.mono s2.xt, ru, rh2, q2, ?_⟩
  intro z h3 zx H3 rz rh3 s3 ⟨t, e, q3⟩
  subst e
  have s13 := (s1.trans s2).trans s3
  have ru3 := ru.mono s3.xt
  refine ⟨t, by simpa only [RV] using rz, ?_⟩
  cases t with
  | true =>
    simp only [if_true] at q3 ⊢
    refine ⟨σ, h3, _, X', rs.mono s13.xt, rh3, q3, ?_, kx.step s13⟩
    intro u2 h4 y2 H4 ru2 rh4 s4 q4
    exact ⟨u, u2, h4, _, ru3.mono s4.xt, ru2, rh4, q4, KQ.bl (kq.step (s13.trans s4))⟩
  | false =>
    simp only [Bool.false_eq_true, if_false] at q3 ⊢
    exact ⟨false, rfl, kq _ h3 H3 rh3 s13 q3⟩
theorem sE_neg (ha : PE X a (gE Γ W (wE P Φ a'))) : PE X (.UnaryOp .USub a pos) (gE Γ W (wE P Φ (.neg a'))) := by
  refine PE.mono (L2.pe_un L2.un_neg ha) ?_
  rintro τ H Q' ⟨σ, h, Q, X', rs, rh, w, kq, kx⟩
  refine ⟨σ, h, _, X', rs, rh, w, ?_, kx⟩
  intro v h1 x H1 rv rh1 s1 ⟨i, e, q1⟩
  subst e
  exact ⟨i, by simpa only [RV] using rv, kq _ h1 _ H1 (by simp only [RV]) rh1 s1 q1⟩
theorem sT_not (ha : PT X a (gT Γ W (wT P Φ a'))) : PT X (.UnaryOp .Not a pos) (gT Γ W (wT P Φ (.not a'))) := by
  refine PT.mono (L2.pt_not ha) ?_
  rintro τ H Q' ⟨σ, h, Q, X', rs, rh, w, kq, kx⟩
  exact ⟨σ, h, _, X', rs, rh, w, fun t h1 H1 rh1 s1 q1 => kq _ h1 H1 rh1 s1 q1, kx⟩
theorem sE_ite (hc : PT X c (gT Γ W (wT P Φ c'))) (ha : PE X a (gE Γ W (wE P Φ a'))) (hb : PE X b (gE Γ W (wE P Φ b'))) : PE X (.IfExp c a b pos) (gE Γ W (wE P Φ (.ite c' a' b'))) := by
  refine PE.mono (L2.pe_ifExp hc ha hb) ?_
  rintro τ H Q' ⟨σ, h, Q, X', rs, rh, w, kq, kx⟩
  refine ⟨σ, h, _, X', rs, rh, w, ?_, kx⟩
  intro t h1 H1 rh1 s1 q1
  cases t with
  | true => exact ⟨σ, h1, Q, X', rs.mono s1.xt, rh1, q1, kq.step s1, kx.step s1⟩
  | false => exact ⟨σ, h1, Q, X', rs.mono s1.xt, rh1, q1, kq.step s1, kx.step s1⟩
theorem sE_and (ha : PE X a (gE Γ W (wE P Φ a'))) (hb : PE X (.BoolOp .And (b :: es) pos) (gE Γ W (wE P Φ b'))) : PE X (.BoolOp .And (a :: b :: es) pos) (gE Γ W (wE P Φ (.and a' b'))) := by
  refine PE.mono (L2.pe_and ha hb) ?_
  rintro τ H Q' ⟨σ, h, Q, X', rs, rh, w, kq, kx⟩
  refine ⟨σ, h, _, X', rs, rh, w, ?_, kx⟩
  intro v h1 x H1 rv rh1 s1 ⟨t, e, q1⟩
  subst e
  refine ⟨t, by simpa only [RV] using rv, ?_⟩
  cases t with
  | true => exact ⟨σ, h1, Q, X', rs.mono s1.xt, rh1, q1, kq.step s1, kx.step s1⟩
  | false => exact kq _ h1 _ H1 (by simp only [RV]) rh1 s1 q1
theorem sE_or (ha : PE X a (gE Γ W (wE P Φ a'))) (hb : PE X (.BoolOp .Or (b :: es) pos) (gE Γ W (wE P Φ b'))) : PE X (.BoolOp .Or (a :: b :: es) pos) (gE Γ W (wE P Φ (.or a' b'))) := by
  refine PE.mono (L2.pe_or ha hb) ?_
  rintro τ H Q' ⟨σ, h, Q, X', rs, rh, w, kq, kx⟩
  refine ⟨σ, h, _, X', rs, rh, w, ?_, kx⟩
  intro v h1 x H1 rv rh1 s1 ⟨t, e, q1⟩
  subst e
  refine ⟨t, by simpa only [RV] using rv, ?_⟩
  cases t with
  | true => exact kq _ h1 _ H1 (by simp only [RV]) rh1 s1 q1
  | false => exact ⟨σ, h1, Q, X', rs.mono s1.xt, rh1, q1, kq.step s1, kx.step s1⟩
theorem sW_and (ha : PT X a (gT Γ W (wT P Φ a'))) (hb : PW X (.BoolOp .And (b :: es) pos) (gT Γ W (wT P Φ b'))) : PW X (.BoolOp .And (a :: b :: es) pos) (gT Γ W (wT P Φ (.and a' b'))) := by
  refine PW.mono (L2.pw_and ha hb) ?_
  rintro τ H Q' ⟨σ, h, Q, X', rs, rh, w, kq, kx⟩
  refine ⟨σ, h, _, X', rs, rh, w, ?_, kx⟩
  intro t h1 H1 rh1 s1 q1
  cases t with
  | true => exact ⟨σ, h1, Q, X', rs.mono s1.xt, rh1, q1, kq.step s1, kx.step s1⟩
  | false => exact kq _ h1 H1 rh1 s1 q1
theorem sW_or (ha : PT X a (gT Γ W (wT P Φ a'))) (hb : PW X (.BoolOp .Or (b :: es) pos) (gT Γ W (wT P Φ b'))) : PW X (.BoolOp .Or (a :: b :: es) pos) (gT Γ W (wT P Φ (.or a' b'))) := by
  refine PW.mono (L2.pw_or ha hb) ?_
  rintro τ H Q' ⟨σ, h, Q, X', rs, rh, w, kq, kx⟩
  refine ⟨σ, h, _, X', rs, rh, w, ?_, kx⟩
  intro t h1 H1 rh1 s1 q1
  cases t with
  | true => exact kq _ h1 H1 rh1 s1 q1
  | false => exact ⟨σ, h1, Q, X', rs.mono s1.xt, rh1, q1, kq.step s1, kx.step s1⟩

/-! arguments -/
theorem sA_nil : PA X [] (gA Γ W (wA P Φ .nil)) := by
  refine PA.mono L2.pa_nil ?_
  rintro τ H Q' ⟨σ, h, Q, X', rs, rh, w, kq, kx⟩
  exact kq [] h [] H (by simp only [RVs]) rh (.refl _ _) w
theorem sA_cons (ha : PE X a (gE Γ W (wE P Φ a'))) (hr : PA X es (gA Γ W (wA P Φ es'))) (hs : starEach (a :: es) X.env = (false, eval a X.env) :: starEach es X.env) : PA X (a :: es) (gA Γ W (wA P Φ (.cons a' es'))) := by
  refine PA.mono (L2.pa_cons ha hr hs) ?_
  rintro τ H Q' ⟨σ, h, Q, X', rs, rh, w, kq, kx⟩
  refine ⟨σ, h, _, X', rs, rh, w, ?_, kx⟩
  intro v h1 x H1 rv rh1 s1 q1
  refine ⟨σ, h1, _, X', rs.mono s1.xt, rh1, q1, ?_, kx.step s1⟩
  intro vs h2 xs H2 rvs rh2 s2 q2
  exact kq (v :: vs) h2 (x :: xs) H2 (by simp only [RVs]; exact ⟨x, xs, rfl, rv.mono s2.xt, rvs⟩) rh2 (s1.trans s2) q2
theorem RVs.length {Γ : Nm} {H : LH} : ∀ {vs : List Vl} {xs : List LV}, RVs Γ H vs xs → vs.length = xs.length
  | [], xs, r => by simp only [RVs] at r; subst r; rfl
  | v :: vs, xs, r => by
    simp only [RVs] at r
    obtain ⟨y, ys, rfl, _, r⟩ := r
    simp [RVs.length r]
theorem sz_eq : SZ = sizeLine := by decide
theorem sE_tup {k : Nat} (h : PA X es (gA Γ W (wA P Φ es'))) : PE X (.Tuple es k pos) (gE Γ W (wE P Φ (.tup es'))) := by
  refine PE.mono (L2.pe_tup h) ?_
  rintro τ H Q' ⟨σ, h, Q, X', rs, rh, w, kq, kx⟩
  refine ⟨σ, h, _, X', rs, rh, w, ?_, kx⟩
  intro vs h1 xs H1 rvs rh1 s1 ⟨hl, q1⟩
  refine ⟨by rw [← rvs.length, ← sz_eq]; exact hl, fun p np => ?_⟩
  refine kq (.tup vs) h1 _ _ ?_ (rh1.tup np) (s1.trans (.tup np)) q1
  simp only [RV]
  exact ⟨p, xs, rfl, .of L2.upd_same, rvs.mono (.new np)⟩
theorem new_ok {h h1 : AH} {H H1 : LH} {Q : Qv} {Q' : L2.VK} {o : Ob} {u : L2.HO} (kq : KQ Γ h H Q Q') (rh1 : RH Γ h1 H1) (s1 : Sp h H h1 H1) (q : wNew h1 o Q) (ro : ∀ p, H1 p = none → RO Γ (upd H1 p u) p o) :
    ∀ p, H1 p = none → Q' (.ref p) (upd H1 p u) := fun p np =>
  kq (.ref p) _ _ _ (by simp only [RV]) (rh1.new np (ro p np)) (s1.trans (.new np)) (q p (rh1.free np))
theorem sE_lst (h : PA X es (gA Γ W (wA P Φ es'))) : PE X (.List es pos) (gE Γ W (wE P Φ (.lst es'))) := by
  refine PE.mono (L2.pe_lst h) ?_
  rintro τ H Q' ⟨σ, h, Q, X', rs, rh, w, kq, kx⟩
  refine ⟨σ, h, _, X', rs, rh, w, ?_, kx⟩
  intro vs h1 xs H1 rvs rh1 s1 ⟨hl, q1⟩
  exact ⟨by rw [← rvs.length, ← sz_eq]; exact hl, new_ok kq rh1 s1 q1 fun p np => ⟨xs, L2.upd_same, rvs.mono (.new np)⟩⟩
theorem sE_ix (ho : L2.IxR X (gO Γ wIx)) (ha : PE X a (gE Γ W (wE P Φ a'))) (hb : PE X b (gE Γ W (wE P Φ b'))) (hp : L2.PlainIx b) : PE X (.Subscript a b pos) (gE Γ W (wE P Φ (.ix a' b'))) :=
  PE.mono (L2.pe_ix ho ha hb hp) fun τ H Q' g => two (fun _ _ _ _ z => z) g
end
end KN

set_option autoImplicit false
set_option linter.all false
/-! Kern, part 4b: zip of lists, tuples and texts, in any mixture -/
namespace KN
open PySem PySem.Spec PyProof.Rows
open L2 (PE PT PW PA PS PSs OpR CallR upd PI V Hp RelV SqL SqT Inv)

/-- what is zipped -/
inductive ZK where
  | l (a : Addr) | u (a : Addr) | t (z : Str)
def ZK.v : ZK → V
  | .l a => .ref a
  | .u a => .ref a
  | .t z => .str z
def ZK.len (K : PySem.W.Frag) : ZK → Hp → Nat → Prop
  | .l a, H, n => ∃ xs, SqL K H a xs ∧ n = xs.length
  | .u a, H, n => ∃ xs, SqT K H a xs ∧ n = xs.length
  | .t z, _, n => n = z.cps.size
def ZK.at (K : PySem.W.Frag) : ZK → Hp → Nat → V → Prop
  | .l a, H, i, x => ∀ xs, SqL K H a xs → xs[i]? = some x
  | .u a, H, i, x => ∀ xs, SqT K H a xs → xs[i]? = some x
  | .t z, _, i, x => ∃ c, z.cps[i]? = some c ∧ x = .str ⟨#[c]⟩
/-- a mixture walked -/
def Jz (K : PySem.W.Frag) (c d : ZK) : L2.It :=
  ⟨fun i H => ∃ n m, c.len K H n ∧ d.len K H m ∧ i < min n m,
   fun i H v H' => ∃ T x y, v = .ref T ∧ H T = none ∧ H' = upd H T (.tup [x, y]) ∧ c.at K H i x ∧ d.at K H i y,
   fun i H => ∃ n m, c.len K H n ∧ d.len K H m ∧ i = min n m⟩
theorem vals_at : ∀ {xs : List V} {us : List Value} {i : Nat} {u : Value}, L2.Vals xs us → us[i]? = some u → ∃ x, xs[i]? = some x ∧ RelV x u
  | _, _, _, _, .nil, e => by simp at e
  | _, _, 0, _, .cons r _, e => by simp at e; subst e; exact ⟨_, rfl, r⟩
  | _, _, i + 1, _, .cons _ r, e => by simpa using vals_at r (by simpa using e)
/-- one of the two, from where it begins -/
structure Zc (P : Program) (w : World) (K : PySem.W.Frag) (N : Addr) (c : ZK) (v : Value) (o : Obj) (hb : Heap → Prop) (st : Addr → Nat → Heap → Prop) : Prop where
  beg : Begins v o hb
  st0 : ∀ it h, h.get? it = some o → st it 0 h
  obj : ∀ it i h, st it i h → ∃ u, h.get? it = some u ∧ ∀ v, u.data ≠ .cell v
  keep : ∀ it i h h', st it i h → (∀ u, h.get? it = some u → h'.get? it = some u) → st it i h'
  drw : ∀ (X : L2.Cx), X.prog = P → X.w = w → X.K = K → X.calm = true → ∀ (pins : List (Addr × Obj)) (s : Shared) (σ : L2.St) (H : Hp), Inv X pins σ H s → ∀ (it : Addr) (i n : Nat), N ≤ it → c.len K H n → st it i s.heap →
    ∃ (fp : List Addr) (Pv : Nat → Value → Prop) (St : Nat → Heap → Prop), Draws P w X.A.in1 it (it :: fp) n Pv St ∧ (∀ b ∈ fp, b < N) ∧ St i s.heap ∧ (∀ h, St (i + 1) h → st it (i + 1) h) ∧ ∀ u, Pv i u → ∃ x, RelV x u ∧ c.at K H i x
section
variable {P : Program} {w : World} {K : PySem.W.Frag} {N : Addr}
theorem zc_list {a : Addr} {its : Array Value} (ha : a < N) : Zc P w K N (.l a) (.ref a) { cls := .type "list_iterator", data := .fields #[.ref a, .int 0 0] } (fun h => h.IsList a its) (fun it i h => h.IsListIter it a i) where
  beg := begins_list a its
  st0 := fun it h e => ⟨_, e, rfl, rfl⟩
  obj := fun it i h ⟨u, e, _, d⟩ => ⟨u, e, fun v q => by rw [d] at q; cases q⟩
  keep := fun it i h h' x k => x.at fun u e => k u e
  drw := by
    intro X hP hw hK hc pins s σ H I it i n hN hl st
    subst hP hw hK
    obtain ⟨xs, hq, rfl⟩ := hl
    obtain ⟨us, rv, pl, _⟩ := I.list hq
    have D := Draws.list (prog := X.prog) (w := X.w) (A := X.A.in1) (I.ok.hd hc) it a (Nat.ne_of_lt (Nat.lt_of_lt_of_le ha hN)) us.toArray
    rw [List.size_toArray, ← rv.length] at D
    refine ⟨[a], _, _, D, fun b hb => by simp at hb; subst hb; exact ha, ⟨st, pl.isList⟩, fun h e => e.1, fun u e => ?_⟩
    · obtain ⟨x, e1, r⟩ := vals_at rv (show us[i]? = some u by simpa using e)
      exact ⟨x, r, fun ys hy => by rw [I.list_inj hy hq]; exact e1⟩
theorem zc_tuple {a : Addr} {its : Array Value} (ha : a < N) : Zc P w K N (.u a) (.ref a) { cls := .type "tuple_iterator", data := .fields #[.ref a, .int 0 0] } (fun h => h.IsTuple a its) (fun it i h => h.IsTupleIter it a i) where
  beg := begins_tuple a its
  st0 := fun it h e => ⟨_, e, rfl, rfl⟩
  obj := fun it i h ⟨u, e, _, d⟩ => ⟨u, e, fun v q => by rw [d] at q; cases q⟩
  keep := fun it i h h' x k => x.at fun u e => k u e
  drw := by
    intro X hP hw hK hc pins s σ H I it i n hN hl st
    subst hP hw hK
    obtain ⟨xs, hq, rfl⟩ := hl
    obtain ⟨us, rv, pl, _⟩ := I.tuple hq
    have D := Draws.tuple (prog := X.prog) (w := X.w) (A := X.A.in1) (I.ok.hd hc) it a (Nat.ne_of_lt (Nat.lt_of_lt_of_le ha hN)) us.toArray
    rw [List.size_toArray, ← rv.length] at D
    refine ⟨[a], _, _, D, fun b hb => by simp at hb; subst hb; exact ha, ⟨st, pl⟩, fun h e => e.1, fun u e => ?_⟩
    · obtain ⟨x, e1, r⟩ := vals_at rv (show us[i]? = some u by simpa using e)
      exact ⟨x, r, fun ys hy => by rw [I.tuple_inj hy hq]; exact e1⟩
theorem zc_text {z : Str} {tk : Tok} : Zc P w K N (.t z) (.str z tk) { cls := .type (strIterType z), data := .fields #[.str z tk, .int 0 0] } (fun _ => True) (fun it i h => h.IsStrIter it (strIterType z) z tk i) where
  beg := begins_text z tk
  st0 := fun it h e => ⟨_, e, rfl, rfl⟩
  obj := fun it i h ⟨u, e, _, d⟩ => ⟨u, e, fun v q => by rw [d] at q; cases q⟩
  keep := fun it i h h' ⟨u, e, r⟩ k => ⟨u, k u e, r⟩
  drw := by
    intro X hP hw hK hc pins s σ H I it i n hN hl st
    subst hP hw hK
    have hl : n = z.cps.size := hl
    subst hl
    have D := Draws.text (prog := X.prog) (w := X.w) (A := X.A.in1) (I.ok.hd hc) it z tk
    exact ⟨[], _, _, D, by simp, st, fun h e => e, fun u ⟨c, t, e1, e2⟩ => ⟨.str ⟨#[c]⟩, ⟨t, e2⟩, c, e1, rfl⟩⟩
variable {c d : ZK} {v1 v2 : Value} {o1 o2 : Obj} {hb1 hb2 : Heap → Prop} {st1 st2 : Addr → Nat → Heap → Prop}
theorem turn_zc {elts : List Expr} {kk : Nat} {tpos : Pos} (Z1 : Zc P w K N c v1 o1 hb1 st1) (Z2 : Zc P w K N d v2 o2 hb2 st2) :
    L2.Turn P w K (.Tuple elts kk tpos) (Jz K c d) [N + 4, N + 2, N + 3, N, N + 1] (N + 4) (fun i h => IsZip h (N + 4) (N + 2) (N + 3) .none ∧ IsTupOf2 h (N + 2) (.ref N) (.ref (N + 1)) ∧ (∃ a b, IsTupOf2 h (N + 3) a b) ∧ st1 N i h ∧ st2 (N + 1) i h) where
  mem := by simp
  obj := fun i h ⟨hz, hT, ⟨a, b, hO⟩, s1, s2⟩ q hq => by
    simp only [List.mem_cons, List.not_mem_nil, or_false] at hq
    rcases hq with rfl | rfl | rfl | rfl | rfl
    · exact ⟨_, hz, nofun⟩
    · exact ⟨_, hT, nofun⟩
    · exact ⟨_, hO, nofun⟩
    · exact Z1.obj _ _ _ s1
    · exact Z2.obj _ _ _ s2
  keep := fun i h h' ⟨hz, hT, ⟨a, b, hO⟩, s1, s2⟩ k =>
    ⟨k _ (by simp) _ hz, k _ (by simp) _ hT, ⟨a, b, k _ (by simp) _ hO⟩, Z1.keep _ _ _ _ s1 (k _ (by simp)), Z2.keep _ _ _ _ s2 (k _ (by simp))⟩
  item := by
    intro X hP hw hK hc i pins s σ H E I hf ⟨hz, hT, hO, s1, s2⟩ ⟨n, m, l1, l2, hi⟩
    obtain ⟨f1, P1, S1, D1, b1, t1, k1, r1⟩ := Z1.drw X hP hw hK hc pins s σ H I N i n (Nat.le_refl _) l1 s1
    obtain ⟨f2, P2, S2, D2, b2, t2, k2, r2⟩ := Z2.drw X hP hw hK hc pins s σ H I (N + 1) i m (Nat.le_succ _) l2 s2
    refine (GoesN.zip2 (zip_sep2 b1 b2) D1 D2).goes i s _ E hi ⟨hz, hT, hO, t1, t2⟩ ?_
    rintro v h' tk ⟨T, y1, y2, rfl, hnew, p1, p2, isT⟩ ⟨hz', hT', hO', u1, u2⟩ hk _
    obtain ⟨x1, q1, w1⟩ := r1 _ p1
    obtain ⟨x2, q2, w2⟩ := r2 _ p2
    have new : L2.ObjOk X.prog X.w (upd H T (.tup [x1, x2])) h' T (.tup [x1, x2]) := ⟨by show 2 ≤ sizeLine; decide, [y1, y2], .cons q1 (.cons q2 .nil), isT⟩
    refine ⟨.ref T, _, I.turnedNew (t' := tk) (ch := [N + 4, N + 2, N + 3, N, N + 1]) (fun b o hb e => hk b o (fun hm => hb ?_) e) hf hnew new, rfl, ⟨T, x1, x2, rfl, I.hok.fresh hnew, rfl, w1, w2⟩, ⟨hz', hT', hO', k1 _ u1, k2 _ u2⟩, fun b hb => ?_⟩
    · simp only [List.mem_cons, List.not_mem_nil, or_false] at hm ⊢
      rcases hm with rfl | rfl | rfl | rfl <;> simp
    · have lt : b < s.heap.objs.size := by
        simp only [List.mem_cons, List.not_mem_nil, or_false] at hb
        obtain ⟨a, a', hO⟩ := hO
        rcases hb with rfl | rfl | rfl | rfl | rfl
        · exact Heap.lt_size hz
        · exact Heap.lt_size hT
        · exact Heap.lt_size hO
        · obtain ⟨_, e, _⟩ := Z1.obj _ _ _ s1; exact Heap.lt_size e
        · obtain ⟨_, e, _⟩ := Z2.obj _ _ _ s2; exact Heap.lt_size e
      rw [L2.upd_ne (Nat.ne_of_lt (Nat.lt_of_lt_of_le lt hnew))]
      exact (hf b hb).1
  done := by
    intro X hP hw hK hc i pins s σ H E I hf ⟨hz, hT, hO, s1, s2⟩ ⟨n, m, l1, l2, hi⟩
    obtain ⟨f1, P1, S1, D1, b1, t1, k1, r1⟩ := Z1.drw X hP hw hK hc pins s σ H I N i n (Nat.le_refl _) l1 s1
    obtain ⟨f2, P2, S2, D2, b2, t2, k2, r2⟩ := Z2.drw X hP hw hK hc pins s σ H I (N + 1) i m (Nat.le_succ _) l2 s2
    subst hi
    refine (GoesN.zip2 (elts := elts) (x1 := kk) (pos := tpos) (zip_sep2 b1 b2) D1 D2).stops s _ E ⟨hz, hT, hO, t1, t2⟩ fun h' tk hk _ => ?_
    refine I.turnedL (t' := tk) (ch := [N + 4, N + 2, N + 3, N, N + 1]) (fun b o hb e => hk b o (fun hm => hb ?_) e) hf
    simp only [List.mem_cons, List.not_mem_nil, or_false] at hm ⊢
    rcases hm with rfl | rfl | rfl | rfl <;> simp
  self := fun A i s Q E st h => wpAny_pyIter_zip st.1 h
end
/-- it can begin -/
theorem zk_begin {X : L2.Cx} {pins : List (Addr × Obj)} {s : Shared} {σ : L2.St} {H : Hp} (I : Inv X pins σ H s) {c : ZK} {v : Value} {n : Nat} (hl : c.len X.K H n) (r : RelV c.v v) : ∃ o hb st, Zc X.prog X.w X.K s.heap.objs.size c v o hb st ∧ hb s.heap := by
  cases c with
  | l a =>
    obtain ⟨xs, hq, _⟩ := hl
    obtain ⟨us, rv, pl, _⟩ := I.list hq
    cases r
    exact ⟨_, _, _, zc_list pl.lt, pl.isList⟩
  | u a =>
    obtain ⟨xs, hq, _⟩ := hl
    obtain ⟨us, rv, pl, _⟩ := I.tuple hq
    cases r
    obtain ⟨o, ho, _⟩ := id pl
    exact ⟨_, _, _, zc_tuple (Heap.lt_size ho), pl⟩
  | t z =>
    obtain ⟨tk, rfl⟩ := r
    exact ⟨_, _, _, zc_text, trivial⟩
def iZc (K : PySem.W.Frag) (ta : L2.TA) : L2.TI := fun σ H R => ta σ H fun vs H1 => ∃ c d n m, vs = [ZK.v c, ZK.v d] ∧ c.len K H1 n ∧ d.len K H1 m ∧ R (Jz K c d) H1
theorem pi_zc {X : L2.Cx} {e e2 : Expr} {ta : L2.TA} {p pos tpos : Pos} {elts : List Expr} {kk : Nat} (hg : L2.Gl X "zip") (hm : X.mg "zip" = none) (ha : PA X [e, e2] ta)
    (hs : starEach [e, e2] X.env = (false, eval e X.env) :: starEach [e2] X.env) (hpl : (backTo pos (starEach [e2] X.env)).any (·.1) = false) :
    PI X (.Tuple elts kk tpos) (.Call (.Name "zip" p) [e, e2] [] pos) (iZc X.K ta) := by
  refine ⟨fun pins s σ H R I h => ?_⟩
  refine Call_ (L2.ld_blt I hg hm PyProof.Rows.boot_zip (PyProof.Rows.callWith_type1 (L2.thn (ha.run pos pins s σ H _ I h) ?_) hs hpl))
  rintro us s1 ⟨vs, H1, I1, r1, c, d, n, m, rfl, l1, l2, q⟩
  match us, r1 with
  | [u1, u2], .cons w1 (.cons w2 .nil) =>
    obtain ⟨o1, hb1, st1, Z1, g1⟩ := zk_begin I1 l1 w1
    obtain ⟨o2, hb2, st2, Z2, g2⟩ := zk_begin I1 l2 w2
    refine zip_begins2 Z1.beg Z2.beg g1 g2 fun h' hz hT hO e1 e2 hsz hk => wpAny_pyIter_zip hz ?_
    have I2 : Inv X pins σ H1 { s1 with heap := h' } := I1.kept (t' := s1.toks) hk
    refine ⟨_, _, _, _, H1, rfl, I2, turn_zc Z1 Z2, ⟨hz, hT, ⟨_, _, hO⟩, Z1.st0 _ _ e1, Z2.st0 _ _ e2⟩, fun b hb => ?_, q⟩
    have hle : s1.heap.objs.size ≤ b := by
      simp only [List.mem_cons, List.not_mem_nil, or_false] at hb
      rcases hb with rfl | rfl | rfl | rfl | rfl <;> first | exact Nat.le_add_right _ _ | exact Nat.le_refl _
    exact I1.fpOk hle (I1.hok.fresh hle)
/-! three of them -/
def Jz3 (K : PySem.W.Frag) (c d e : ZK) : L2.It :=
  ⟨fun i H => ∃ n m k, c.len K H n ∧ d.len K H m ∧ e.len K H k ∧ i < min (min n m) k,
   fun i H v H' => ∃ T x y z, v = .ref T ∧ H T = none ∧ H' = upd H T (.tup [x, y, z]) ∧ c.at K H i x ∧ d.at K H i y ∧ e.at K H i z,
   fun i H => ∃ n m k, c.len K H n ∧ d.len K H m ∧ e.len K H k ∧ i = min (min n m) k⟩
section
variable {P : Program} {w : World} {K : PySem.W.Frag} {N : Addr} {c d e : ZK} {v1 v2 v3 : Value} {o1 o2 o3 : Obj} {hb1 hb2 hb3 : Heap → Prop} {st1 st2 st3 : Addr → Nat → Heap → Prop}
theorem turn_zc3 {elts : List Expr} {kk : Nat} {tpos : Pos} (Z1 : Zc P w K N c v1 o1 hb1 st1) (Z2 : Zc P w K N d v2 o2 hb2 st2) (Z3 : Zc P w K N e v3 o3 hb3 st3) :
    L2.Turn P w K (.Tuple elts kk tpos) (Jz3 K c d e) [N + 5, N + 3, N + 4, N, N + 1, N + 2] (N + 5) (fun i h => IsZip h (N + 5) (N + 3) (N + 4) .none ∧ IsTupOf3 h (N + 3) (.ref N) (.ref (N + 1)) (.ref (N + 2)) ∧ (∃ a b c, IsTupOf3 h (N + 4) a b c) ∧ st1 N i h ∧ st2 (N + 1) i h ∧ st3 (N + 2) i h) where
  mem := by simp
  obj := fun i h ⟨hz, hT, ⟨a, b, c, hO⟩, s1, s2, s3⟩ q hq => by
    simp only [List.mem_cons, List.not_mem_nil, or_false] at hq
    rcases hq with rfl | rfl | rfl | rfl | rfl | rfl
    · exact ⟨_, hz, nofun⟩
    · exact ⟨_, hT, nofun⟩
    · exact ⟨_, hO, nofun⟩
    · exact Z1.obj _ _ _ s1
    · exact Z2.obj _ _ _ s2
    · exact Z3.obj _ _ _ s3
  keep := fun i h h' ⟨hz, hT, ⟨a, b, c, hO⟩, s1, s2, s3⟩ k =>
    ⟨k _ (by simp) _ hz, k _ (by simp) _ hT, ⟨a, b, c, k _ (by simp) _ hO⟩, Z1.keep _ _ _ _ s1 (k _ (by simp)), Z2.keep _ _ _ _ s2 (k _ (by simp)), Z3.keep _ _ _ _ s3 (k _ (by simp))⟩
  item := by
    intro X hP hw hK hc i pins s σ H E I hf ⟨hz, hT, hO, s1, s2, s3⟩ ⟨n, m, k, l1, l2, l3, hi⟩
    obtain ⟨f1, P1, S1, D1, b1, t1, k1, r1⟩ := Z1.drw X hP hw hK hc pins s σ H I N i n (Nat.le_refl _) l1 s1
    obtain ⟨f2, P2, S2, D2, b2, t2, k2, r2⟩ := Z2.drw X hP hw hK hc pins s σ H I (N + 1) i m (Nat.le_succ _) l2 s2
    obtain ⟨f3, P3, S3, D3, b3, t3, k3, r3⟩ := Z3.drw X hP hw hK hc pins s σ H I (N + 2) i k (Nat.le_add_right _ _) l3 s3
    refine (GoesN.zip3 (zip_sep3 b1 b2 b3) D1 D2 D3).goes i s _ E hi ⟨hz, hT, hO, t1, t2, t3⟩ ?_
    rintro v h' tk ⟨T, y1, y2, y3, rfl, hnew, p1, p2, p3, isT⟩ ⟨hz', hT', hO', u1, u2, u3⟩ hk _
    obtain ⟨x1, q1, w1⟩ := r1 _ p1
    obtain ⟨x2, q2, w2⟩ := r2 _ p2
    obtain ⟨x3, q3, w3⟩ := r3 _ p3
    have new : L2.ObjOk X.prog X.w (upd H T (.tup [x1, x2, x3])) h' T (.tup [x1, x2, x3]) := ⟨by show 3 ≤ sizeLine; decide, [y1, y2, y3], .cons q1 (.cons q2 (.cons q3 .nil)), isT⟩
    refine ⟨.ref T, _, I.turnedNew (t' := tk) (ch := [N + 5, N + 3, N + 4, N, N + 1, N + 2]) (fun b o hb e => hk b o (fun hm => hb ?_) e) hf hnew new, rfl, ⟨T, x1, x2, x3, rfl, I.hok.fresh hnew, rfl, w1, w2, w3⟩, ⟨hz', hT', hO', k1 _ u1, k2 _ u2, k3 _ u3⟩, fun b hb => ?_⟩
    · simp only [List.mem_cons, List.not_mem_nil, or_false] at hm ⊢
      rcases hm with rfl | rfl | rfl | rfl | rfl <;> simp
    · have lt : b < s.heap.objs.size := by
        simp only [List.mem_cons, List.not_mem_nil, or_false] at hb
        obtain ⟨a, a', a2, hO⟩ := hO
        rcases hb with rfl | rfl | rfl | rfl | rfl | rfl
        · exact Heap.lt_size hz
        · exact Heap.lt_size hT
        · exact Heap.lt_size hO
        · obtain ⟨_, e, _⟩ := Z1.obj _ _ _ s1; exact Heap.lt_size e
        · obtain ⟨_, e, _⟩ := Z2.obj _ _ _ s2; exact Heap.lt_size e
        · obtain ⟨_, e, _⟩ := Z3.obj _ _ _ s3; exact Heap.lt_size e
      rw [L2.upd_ne (Nat.ne_of_lt (Nat.lt_of_lt_of_le lt hnew))]
      exact (hf b hb).1
  done := by
    intro X hP hw hK hc i pins s σ H E I hf ⟨hz, hT, hO, s1, s2, s3⟩ ⟨n, m, k, l1, l2, l3, hi⟩
    obtain ⟨f1, P1, S1, D1, b1, t1, k1, r1⟩ := Z1.drw X hP hw hK hc pins s σ H I N i n (Nat.le_refl _) l1 s1
    obtain ⟨f2, P2, S2, D2, b2, t2, k2, r2⟩ := Z2.drw X hP hw hK hc pins s σ H I (N + 1) i m (Nat.le_succ _) l2 s2
    obtain ⟨f3, P3, S3, D3, b3, t3, k3, r3⟩ := Z3.drw X hP hw hK hc pins s σ H I (N + 2) i k (Nat.le_add_right _ _) l3 s3
    subst hi
    refine (GoesN.zip3 (elts := elts) (x1 := kk) (pos := tpos) (zip_sep3 b1 b2 b3) D1 D2 D3).stops s _ E ⟨hz, hT, hO, t1, t2, t3⟩ fun h' tk hk _ => ?_
    refine I.turnedL (t' := tk) (ch := [N + 5, N + 3, N + 4, N, N + 1, N + 2]) (fun b o hb e => hk b o (fun hm => hb ?_) e) hf
    simp only [List.mem_cons, List.not_mem_nil, or_false] at hm ⊢
    rcases hm with rfl | rfl | rfl | rfl | rfl <;> simp
  self := fun A i s Q E st h => wpAny_pyIter_zip st.1 h
end
def iZc3 (K : PySem.W.Frag) (ta : L2.TA) : L2.TI := fun σ H R => ta σ H fun vs H1 => ∃ c d e n m k, vs = [ZK.v c, ZK.v d, ZK.v e] ∧ c.len K H1 n ∧ d.len K H1 m ∧ e.len K H1 k ∧ R (Jz3 K c d e) H1
theorem pi_zc3 {X : L2.Cx} {e e2 e3 : Expr} {ta : L2.TA} {p pos tpos : Pos} {elts : List Expr} {kk : Nat} (hg : L2.Gl X "zip") (hm : X.mg "zip" = none) (ha : PA X [e, e2, e3] ta)
    (hs : starEach [e, e2, e3] X.env = (false, eval e X.env) :: starEach [e2, e3] X.env) (hpl : (backTo pos (starEach [e2, e3] X.env)).any (·.1) = false) :
    PI X (.Tuple elts kk tpos) (.Call (.Name "zip" p) [e, e2, e3] [] pos) (iZc3 X.K ta) := by
  refine ⟨fun pins s σ H R I h => ?_⟩
  refine Call_ (L2.ld_blt I hg hm PyProof.Rows.boot_zip (PyProof.Rows.callWith_type1 (L2.thn (ha.run pos pins s σ H _ I h) ?_) hs hpl))
  rintro us s1 ⟨vs, H1, I1, r1, c, d, e, n, m, k, rfl, l1, l2, l3, q⟩
  match us, r1 with
  | [u1, u2, u3], .cons w1 (.cons w2 (.cons w3 .nil)) =>
    obtain ⟨o1, hb1, st1, Z1, g1⟩ := zk_begin I1 l1 w1
    obtain ⟨o2, hb2, st2, Z2, g2⟩ := zk_begin I1 l2 w2
    obtain ⟨o3, hb3, st3, Z3, g3⟩ := zk_begin I1 l3 w3
    refine zip_begins3 Z1.beg Z2.beg Z3.beg g1 g2 g3 fun h' hz hT hO e1 e2 e3 hsz hk => wpAny_pyIter_zip hz ?_
    have I2 : Inv X pins σ H1 { s1 with heap := h' } := I1.kept (t' := s1.toks) hk
    refine ⟨_, _, _, _, H1, rfl, I2, turn_zc3 Z1 Z2 Z3, ⟨hz, hT, ⟨_, _, _, hO⟩, Z1.st0 _ _ e1, Z2.st0 _ _ e2, Z3.st0 _ _ e3⟩, fun b hb => ?_, q⟩
    have hle : s1.heap.objs.size ≤ b := by
      simp only [List.mem_cons, List.not_mem_nil, or_false] at hb
      rcases hb with rfl | rfl | rfl | rfl | rfl | rfl <;> first | exact Nat.le_add_right _ _ | exact Nat.le_refl _
    exact I1.fpOk hle (I1.hok.fresh hle)
/-! enumerate of a list or a text -/
/-- a text walked, each sign in a new pair with its number -/
def Ites (z : Str) : L2.It :=
  ⟨fun i _ => i < z.cps.size, fun i H v H' => ∃ T c, v = .ref T ∧ H T = none ∧ H' = upd H T (.tup [.int (i : Nat), .str ⟨#[c]⟩]) ∧ z.cps[i]? = some c, fun i _ => i = z.cps.size⟩
theorem turn_enumS {P : Program} {w : World} {K : PySem.W.Frag} {elts : List Expr} {kk : Nat} {tpos : Pos} (z : Str) (tk : Tok) (e it : Addr) :
    L2.Turn P w K (.Tuple elts kk tpos) (Ites z) [e, it] e (fun i h => (∃ old, IsEnum h e it ((i : Nat) : Int) old) ∧ h.IsStrIter it (strIterType z) z tk i ∧ e ≠ it) where
  mem := by simp
  obj := fun i h st b hb => by
    obtain ⟨⟨old, he⟩, ⟨o, ho, hc, hd⟩, _⟩ := st
    have e' : b = e ∨ b = it := by simpa using hb
    rcases e' with z | z
    · rw [z]; exact ⟨_, he, fun v q => nomatch q⟩
    · rw [z]; exact ⟨o, ho, fun v q => by rw [hd] at q; cases q⟩
  keep := fun i h h' st k => let ⟨⟨old, he⟩, ⟨o, ho, r⟩, hne⟩ := st; ⟨⟨old, k e (by simp) _ he⟩, ⟨o, k it (by simp) o ho, r⟩, hne⟩
  item := by
    intro X hP hw hK hc i pins s σ H E I hf st hg
    subst hP hw hK
    obtain ⟨⟨old, he⟩, hit, hne⟩ := st
    have hg : i < z.cps.size := hg
    have D := Draws.text (prog := X.prog) (w := X.w) (A := X.A.in1) (I.ok.hd hc) it z tk
    have hel : e < s.heap.objs.size := Heap.lt_size he
    have hil : it < s.heap.objs.size := by obtain ⟨_, q, _⟩ := hit; exact Heap.lt_size q
    refine wpAny_pyNext_enum_itemD D he hit hg hne (by simpa using hne) fun u h' tk' ⟨c, t, e1, e2⟩ ho hit' hT hsz hk => ?_
    subst e2
    refine ⟨_, rfl, wpAny_letOwnedTupleGo_enum (s := { s with heap := h', toks := tk' + 1 }) ho fun h'' he' sb => ?_⟩
    have hT2 : h''.get? s.heap.objs.size = some { cls := .type "tuple", data := .seq #[.int i tk', .str ⟨#[c]⟩ t] } := (sb.2 _ (Nat.ne_of_gt hel)).trans hT
    have new : L2.ObjOk X.prog X.w (upd H s.heap.objs.size (.tup [.int (i : Nat), .str ⟨#[c]⟩])) h'' s.heap.objs.size (.tup [.int (i : Nat), .str ⟨#[c]⟩]) :=
      ⟨by show 2 ≤ sizeLine; decide, [.int i tk', .str ⟨#[c]⟩ t], .cons ⟨_, rfl⟩ (.cons ⟨_, rfl⟩ .nil), ⟨_, hT2, rfl, _, rfl⟩⟩
    have I1 : Inv X pins σ (upd H s.heap.objs.size (.tup [.int (i : Nat), .str ⟨#[c]⟩])) { s with heap := h'', toks := tk' + 1 } :=
      I.turnedNew (ch := [e, it]) (fun b ob hb q => (sb.2 b (fun z => hb (by simp [z]))).trans (hk b ob (fun z => hb (by simp [z])) (fun z => hb (by simp [z])) q)) hf (Nat.le_refl _) new
    refine ⟨.ref s.heap.objs.size, _, I1, rfl, ⟨_, c, rfl, I.hok.fresh (Nat.le_refl _), rfl, e1⟩, ⟨⟨.str ⟨#[c]⟩ t, ?_⟩, ?_, hne⟩, fun b hb => ?_⟩
    · have e1 : ((i + 1 : Nat) : Int) = (i : Int) + 1 := by omega
      rw [e1]; exact he'
    · obtain ⟨o, ho, r⟩ := hit'
      exact ⟨o, (sb.2 it (Ne.symm hne)).trans ho, r⟩
    · have hb' : b < s.heap.objs.size := by
        have e' : b = e ∨ b = it := by simpa using hb
        rcases e' with z | z
        · rw [z]; exact hel
        · rw [z]; exact hil
      rw [L2.upd_ne (Nat.ne_of_lt hb')]
      exact (hf b hb).1
  done := by
    intro X hP hw hK hc i pins s σ H E I hf st hg
    subst hP hw hK
    obtain ⟨⟨old, he⟩, hit, hne⟩ := st
    have hg : i = z.cps.size := hg
    obtain ⟨f0, f1, f2, f3, f4, f5⟩ := hf it (by simp)
    have D := Draws.text (prog := X.prog) (w := X.w) (A := X.A.in1) (I.ok.hd hc) it z tk
    exact wpAny_pyNext_enum_endD D he (hg ▸ hit) fun h' eb => ⟨rfl, I.turned (t' := s.toks) (fun b o hb q => eb b o hb q) f0 f1 f3 f4 f5⟩
  self := fun A i s Q E st h => let ⟨⟨_, he⟩, _⟩ := st; wpAny_pyIter_enum he h
def iEnumA (K : PySem.W.Frag) (ta : L2.TA) : L2.TI := fun σ H R => ta σ H fun vs H1 => (∃ a xs, vs = [.ref a] ∧ SqL K H1 a xs ∧ R (L2.Ite K a) H1) ∨ (∃ z, vs = [.str z] ∧ R (Ites z) H1)
theorem pi_enumA {X : L2.Cx} {e : Expr} {ta : L2.TA} {p pos tpos : Pos} {elts : List Expr} {kk : Nat} (hg : L2.Gl X "enumerate") (hm : X.mg "enumerate" = none) (ha : PA X [e] ta) (hs : starEach [e] X.env = (false, eval e X.env) :: starEach [] X.env) :
    PI X (.Tuple elts kk tpos) (.Call (.Name "enumerate" p) [e] [] pos) (iEnumA X.K ta) := by
  refine ⟨fun pins s σ H R I h => ?_⟩
  refine Call_ (L2.ld_blt I hg hm boot_enumerate (PyProof.Rows.callWith_type1 (L2.thn (ha.run pos pins s σ H _ I h) fun us s1 ⟨vs, H1, I1, r1, q1⟩ => ?_) hs rfl))
  have fpo : ∀ b ∈ [s1.heap.objs.size + 1, s1.heap.objs.size], s1.heap.objs.size ≤ b := fun b hb => by
    have e' : b = s1.heap.objs.size + 1 ∨ b = s1.heap.objs.size := by simpa using hb
    rcases e' with z | z
    · rw [z]; exact Nat.le_add_right _ _
    · rw [z]; exact Nat.le_refl _
  rcases q1 with ⟨a, xs, ex, hq, q⟩ | ⟨z, ex, q⟩
  · subst ex
    cases r1 with
    | cons r rr =>
      cases rr
      cases r
      obtain ⟨its, rv, p', hz⟩ := I1.list hq
      refine call_enumerate_list p'.isList fun h' he hit hsz hk => wpAny_pyIter_enum he ?_
      have I2 : Inv X pins σ H1 { s1 with heap := h' } := I1.kept (t' := s1.toks) hk
      exact ⟨s1.heap.objs.size + 1, [s1.heap.objs.size + 1, s1.heap.objs.size], _, _, H1, rfl, I2, L2.turn_enum a (s1.heap.objs.size + 1) s1.heap.objs.size, ⟨⟨.none, he⟩, hit, Nat.succ_ne_self _⟩, fun b hb => I1.fpOk (fpo b hb) (I1.hok.fresh (fpo b hb)), q⟩
  · subst ex
    cases r1 with
    | cons r rr =>
      cases rr
      obtain ⟨tk, rfl⟩ := r
      refine call_enumerate_str fun h' he hit hsz hk => wpAny_pyIter_enum he ?_
      have I2 : Inv X pins σ H1 { s1 with heap := h' } := I1.kept (t' := s1.toks) hk
      exact ⟨s1.heap.objs.size + 1, [s1.heap.objs.size + 1, s1.heap.objs.size], _, _, H1, rfl, I2, turn_enumS z tk (s1.heap.objs.size + 1) s1.heap.objs.size, ⟨⟨.none, he⟩, hit, Nat.succ_ne_self _⟩, fun b hb => I1.fpOk (fpo b hb) (I1.hok.fresh (fpo b hb)), q⟩
end KN

set_option autoImplicit false
set_option linter.all false
/-! Kern, part 5: operators, subscripts, built-ins, methods by values -/
namespace KN
open PySem PySem.Spec PyProof.Rows
open L2 (PE PT PW PA PS PSs OpR CallR upd)

section
variable {X : L2.Cx} {Γ : Nm} {W : L2.WX} {P : PG} {Φ : Phi}

/-! ### data -/
mutual
def Da.py : Da → PyData
  | .non => .none
  | .bl b => .bool b
  | .int i => .int i
  | .str s => .str (sOf s)
  | .tup ds => .tuple (Da.pys ds)
  | .lst ds => .list (Da.pys ds)
def Da.pys : List Da → List PyData
  | [] => []
  | d :: ds => Da.py d :: Da.pys ds
end
mutual
theorem da_dp {h : AH} {H : LH} (rh : RH Γ h H) : ∀ (d : Da) {v : Vl} {x : LV}, DaOf h v d → RV Γ H v x → L2.Dp Γ.K H x d.py
  | .non, _, _, e, r => by simp only [DaOf] at e; subst e; simp only [RV] at r; subst r; simp only [Da.py]; exact .non
  | .bl b, _, _, e, r => by simp only [DaOf] at e; subst e; simp only [RV] at r; subst r; simp only [Da.py]; exact .bl b
  | .int i, _, _, e, r => by simp only [DaOf] at e; subst e; simp only [RV] at r; subst r; simp only [Da.py]; exact .int i
  | .str s, _, _, e, r => by simp only [DaOf] at e; subst e; simp only [RV] at r; subst r; simp only [Da.py]; exact .str _
  | .tup ds, _, _, e, r => by
    simp only [DaOf] at e
    obtain ⟨vs, rfl, e⟩ := e
    simp only [RV] at r
    obtain ⟨a, xs, rfl, hs, r⟩ := r
    simp only [Da.py]
    exact .tup hs (da_dps rh ds e r)
  | .lst ds, _, _, e, r => by
    simp only [DaOf] at e
    obtain ⟨a, vs, rfl, g, e⟩ := e
    simp only [RV] at r
    subst r
    simp only [Da.py]
    rcases g with g | g
    · obtain ⟨xs, h1, h2⟩ := rh a _ g
      exact .lst (.of h1) (da_dps rh ds e h2)
    · obtain ⟨o, xs, h1, h2⟩ := rh a _ g
      exact .lst (.inl (.inr ⟨o, h1⟩)) (da_dps rh ds e h2)
theorem da_dps {h : AH} {H : LH} (rh : RH Γ h H) : ∀ (ds : List Da) {vs : List Vl} {xs : List LV}, DaOfs h vs ds → RVs Γ H vs xs → L2.DpAll Γ.K H xs (Da.pys ds)
  | [], _, _, e, r => by simp only [DaOfs] at e; subst e; simp only [RVs] at r; subst r; simp only [Da.pys]; exact .nil
  | d :: ds, _, _, e, r => by
    simp only [DaOfs] at e
    obtain ⟨v, ws, rfl, e1, e2⟩ := e
    simp only [RVs] at r
    obtain ⟨y, ys, rfl, r1, r2⟩ := r
    simp only [Da.pys]
    exact .cons (da_dp rh d e1 r1) (da_dps rh ds e2 r2)
end
theorem arr_eq (a b : List Nat) : (sOf a == sOf b) = (a == b) := by
  by_cases e : a = b
  · subst e; simp
  · have : sOf a ≠ sOf b := fun z => e (by unfold sOf at z; simpa using z)
    rw [beq_eq_false_iff_ne.mpr this, beq_eq_false_iff_ne.mpr e]
mutual
theorem eqv_py : ∀ (d e : Da), PyData.eqv d.py e.py = d.eqv e
  | .non, e => by cases e <;> simp [Da.py, PyData.eqv, Da.eqv]
  | .bl b, e => by cases e <;> simp [Da.py, PyData.eqv, Da.eqv]
  | .int i, e => by cases e <;> simp [Da.py, PyData.eqv, Da.eqv]
  | .str s, e => by cases e <;> simp [Da.py, PyData.eqv, Da.eqv, arr_eq]
  | .tup ds, e => by cases e <;> simp [Da.py, PyData.eqv, Da.eqv, eqvs_py]
  | .lst ds, e => by cases e <;> simp [Da.py, PyData.eqv, Da.eqv, eqvs_py]
theorem eqvs_py : ∀ (d e : List Da), PyData.eqvAll (Da.pys d) (Da.pys e) = Da.eqvs d e
  | [], [] => by simp [Da.pys, PyData.eqvAll, Da.eqvs]
  | [], _ :: _ => by simp [Da.pys, PyData.eqvAll, Da.eqvs]
  | _ :: _, [] => by simp [Da.pys, PyData.eqvAll, Da.eqvs]
  | d :: ds, e :: es => by simp [Da.pys, PyData.eqvAll, Da.eqvs, eqv_py d e, eqvs_py ds es]
end
mutual
theorem lay_py : ∀ (d : Da), d.ok = true → d.py.canLay0 = true
  | .non, _ => by simp [Da.py, PyData.canLay0]
  | .bl b, _ => by simp [Da.py, PyData.canLay0]
  | .int i, _ => by simp [Da.py, PyData.canLay0]
  | .str s, h => by
    simp only [Da.ok] at h
    simp only [Da.py, PyData.canLay0, PyData.strOk, sOf]
    simpa using h
  | .tup ds, h => by
    simp only [Da.ok] at h
    simp [Da.py, PyData.canLay0, lays_py ds h]
  | .lst ds, h => by
    simp only [Da.ok] at h
    simp [Da.py, PyData.canLay0, lays_py ds h]
theorem lays_py : ∀ (ds : List Da), Da.oks ds = true → PyData.canLayAll0 (Da.pys ds) = true
  | [], _ => by simp [Da.pys, PyData.canLayAll0]
  | d :: ds, h => by
    simp only [Da.oks, Bool.and_eq_true] at h
    simp [Da.pys, PyData.canLayAll0, lay_py d h.1, lays_py ds h.2]
end
mutual
theorem dep_py : ∀ (d : Da), d.py.depth ≤ d.dep + 1
  | .non => by simp [Da.py, PyData.depth, Da.dep]
  | .bl b => by simp [Da.py, PyData.depth, Da.dep]
  | .int i => by simp [Da.py, PyData.depth, Da.dep]
  | .str s => by simp [Da.py, PyData.depth, Da.dep]
  | .tup ds => by have := deps_py ds; simp [Da.py, PyData.depth, Da.dep]; omega
  | .lst ds => by have := deps_py ds; simp [Da.py, PyData.depth, Da.dep]; omega
theorem deps_py : ∀ (ds : List Da), PyData.depthAll (Da.pys ds) ≤ Da.deps ds + 1
  | [] => by simp [Da.pys, PyData.depthAll]
  | d :: ds => by have h1 := dep_py d; have h2 := deps_py ds; simp [Da.pys, PyData.depthAll, Da.deps]; omega
end
theorem shaped_py {d : Da} (h : d.dep ≤ 60 ∧ d.ok = true) : SeqAt.shaped d.py = true := by
  unfold SeqAt.shaped
  have := dep_py d
  rw [lay_py d h.2, decide_eq_true (by omega)]
  rfl
theorem sOf_inj {a b : List Nat} : sOf a = sOf b ↔ a = b := ⟨fun z => by unfold sOf at z; simpa using z, fun z => by rw [z]⟩
theorem oEqAt (hu : X.A.units + 64 < cLine) (hK : Γ.K = X.K) : OpR X (compareOp .Eq) (gO Γ (wEq false)) := by
  intro pins s σ H x y v u Q' I rx ry ⟨v', u', h, Q, rv, ru, rh, ⟨d, e, hd, he, l1, l2, q⟩, kq⟩
  refine L2.op_eqD hu pins s σ H x y v u Q' I rx ry ⟨d.py, e.py, ?_, ?_, shaped_py l1, shaped_py l2, ?_⟩
  · rw [← hK]; exact da_dp rh d hd rv
  · rw [← hK]; exact da_dp rh e he ru
  · rw [eqv_py]
    exact kq (.bl (if false = true then !d.eqv e else d.eqv e)) h _ H (by simp only [RV]; rfl) rh (.refl _ _) q
theorem oNeAt (hu : X.A.units + 64 < cLine) (hK : Γ.K = X.K) : OpR X (compareOp .NotEq) (gO Γ (wEq true)) := by
  intro pins s σ H x y v u Q' I rx ry ⟨v', u', h, Q, rv, ru, rh, ⟨d, e, hd, he, l1, l2, q⟩, kq⟩
  refine L2.op_neD hu pins s σ H x y v u Q' I rx ry ⟨d.py, e.py, ?_, ?_, shaped_py l1, shaped_py l2, ?_⟩
  · rw [← hK]; exact da_dp rh d hd rv
  · rw [← hK]; exact da_dp rh e he ru
  · rw [eqv_py]
    exact kq (.bl (if true = true then !d.eqv e else d.eqv e)) h _ H (by simp only [RV]; rfl) rh (.refl _ _) q
theorem oEq (hu : X.A.units + 64 < cLine) (hK : Γ.K = X.K) : OpR X (compareOp .Eq) (gO Γ (wOp .eq)) := by
  intro pins s σ H x y v u Q' I rx ry ⟨v', u', h, Q, rv, ru, rh, w, kq⟩
  cases v' <;> cases u' <;> first
    | exact oEqAt hu hK pins s σ H x y v u Q' I rx ry ⟨_, _, h, Q, rv, ru, rh, w, kq⟩
    | skip
  rename_i a b
  have ex : x = .str (sOf a) := by simpa only [RV] using rv
  have ey : y = .str (sOf b) := by simpa only [RV] using ru
  subst ex ey
  refine L2.op_eq pins s σ H _ _ v u Q' I rx ry ⟨rfl, ?_⟩
  have e : decide (L2.V.str (sOf a) = L2.V.str (sOf b)) = decide (a = b) := by
    by_cases z : a = b
    · subst z; simp
    · rw [decide_eq_false z, decide_eq_false]
      intro q; injection q with q; exact z (sOf_inj.mp q)
  rw [e]
  exact kq _ h _ H (by simp only [RV]) rh (.refl _ _) w
theorem oNe (hu : X.A.units + 64 < cLine) (hK : Γ.K = X.K) : OpR X (compareOp .NotEq) (gO Γ (wOp .ne)) := by
  intro pins s σ H x y v u Q' I rx ry ⟨v', u', h, Q, rv, ru, rh, w, kq⟩
  cases v' <;> cases u' <;> first
    | exact oNeAt hu hK pins s σ H x y v u Q' I rx ry ⟨_, _, h, Q, rv, ru, rh, w, kq⟩
    | skip
  rename_i a b
  have ex : x = .str (sOf a) := by simpa only [RV] using rv
  have ey : y = .str (sOf b) := by simpa only [RV] using ru
  subst ex ey
  refine L2.op_ne pins s σ H _ _ v u Q' I rx ry ⟨rfl, ?_⟩
  have e : decide (L2.V.str (sOf a) = L2.V.str (sOf b)) = decide (a = b) := by
    by_cases z : a = b
    · subst z; simp
    · rw [decide_eq_false z, decide_eq_false]
      intro q; injection q with q; exact z (sOf_inj.mp q)
  rw [e]
  exact kq _ h _ H (by simp only [RV]) rh (.refl _ _) w

/-! ### arithmetic -/
theorem rint {H : LH} {i : Int} {x : LV} (r : RV Γ H (.int i) x) : x = .int i := by simpa only [RV] using r
theorem rstr {H : LH} {i : List Nat} {x : LV} (r : RV Γ H (.str i) x) : x = .str (sOf i) := by simpa only [RV] using r
theorem rref {H : LH} {i : Nat} {x : LV} (r : RV Γ H (.ref i) x) : x = .ref i := by simpa only [RV] using r
theorem rbl {H : LH} {i : Bool} {x : LV} (r : RV Γ H (.bl i) x) : x = .bl i := by simpa only [RV] using r
theorem rtup {H : LH} {i : List Vl} {x : LV} (r : RV Γ H (.tup i) x) : ∃ a xs, x = .ref a ∧ L2.SqT Γ.K H a xs ∧ RVs Γ H i xs := by simpa only [RV] using r
theorem vint {H : LH} {i : Int} : RV Γ H (.int i) (.int i) := by simp only [RV]
theorem vstr {H : LH} {i : List Nat} : RV Γ H (.str i) (.str (sOf i)) := by simp only [RV]
theorem vbl {H : LH} {i : Bool} : RV Γ H (.bl i) (.bl i) := by simp only [RV]
theorem vnon {H : LH} : RV Γ H .non .non := by simp only [RV]
theorem vref {H : LH} {a : Nat} : RV Γ H (.ref a) (.ref a) := by simp only [RV]
theorem sOf_append (a b : List Nat) : sOf a ++ sOf b = sOf (a ++ b) := by
  show PySem.Str.append (sOf a) (sOf b) = _
  unfold sOf PySem.Str.append
  simp
theorem sOf_length (a : List Nat) : (sOf a).length = a.length := by
  show (sOf a).cps.size = _
  simp [sOf]
theorem RVs.append {H : LH} : ∀ {vs ws : List Vl} {xs ys : List LV}, RVs Γ H vs xs → RVs Γ H ws ys → RVs Γ H (vs ++ ws) (xs ++ ys)
  | [], _, _, _, r, s => by simp only [RVs] at r; subst r; exact s
  | v :: vs, _, _, _, r, s => by
    simp only [RVs] at r
    obtain ⟨y, ys, rfl, r1, r2⟩ := r
    simp only [List.cons_append, RVs]
    exact ⟨y, _, rfl, r1, RVs.append r2 s⟩
theorem RVs.rep {H : LH} {vs : List Vl} {xs : List LV} (r : RVs Γ H vs xs) : ∀ k : Nat, RVs Γ H (List.replicate k vs).flatten (List.replicate k xs).flatten
  | 0 => by simp [RVs]
  | k + 1 => by rw [List.replicate_succ, List.replicate_succ, List.flatten_cons, List.flatten_cons]; exact r.append (RVs.rep r k)
theorem RVs.get {H : LH} : ∀ {vs : List Vl} {xs : List LV} {i : Nat} {v : Vl}, RVs Γ H vs xs → vs[i]? = some v → ∃ x, xs[i]? = some x ∧ RV Γ H v x
  | [], _, _, _, _, e => by simp at e
  | w :: vs, _, 0, v, r, e => by
    simp only [RVs] at r
    obtain ⟨y, ys, rfl, r1, r2⟩ := r
    simp at e; subst e
    exact ⟨y, rfl, r1⟩
  | w :: vs, _, i + 1, v, r, e => by
    simp only [RVs] at r
    obtain ⟨y, ys, rfl, r1, r2⟩ := r
    obtain ⟨x, h1, h2⟩ := RVs.get (i := i) r2 (by simpa using e)
    exact ⟨x, by simpa using h1, h2⟩
theorem RVs.set {H : LH} {v : Vl} {x : LV} (r : RV Γ H v x) : ∀ {vs : List Vl} {xs : List LV} (i : Nat), RVs Γ H vs xs → RVs Γ H (vs.set i v) (xs.set i x)
  | [], _, _, s => by simp only [RVs] at s; subst s; simp [RVs]
  | w :: vs, _, 0, s => by
    simp only [RVs] at s
    obtain ⟨y, ys, rfl, r1, r2⟩ := s
    simp only [List.set_cons_zero, RVs]
    exact ⟨x, ys, rfl, r, r2⟩
  | w :: vs, _, i + 1, s => by
    simp only [RVs] at s
    obtain ⟨y, ys, rfl, r1, r2⟩ := s
    simp only [List.set_cons_succ, RVs]
    exact ⟨y, _, rfl, r1, RVs.set r i r2⟩
theorem RVs.take {H : LH} : ∀ {vs : List Vl} {xs : List LV} (n : Nat), RVs Γ H vs xs → RVs Γ H (vs.take n) (xs.take n)
  | _, _, 0, _ => by simp [RVs]
  | [], _, n + 1, s => by simp only [RVs] at s; subst s; simp [RVs]
  | w :: vs, _, n + 1, s => by
    simp only [RVs] at s
    obtain ⟨y, ys, rfl, r1, r2⟩ := s
    simp only [List.take_succ_cons, RVs]
    exact ⟨y, _, rfl, r1, RVs.take n r2⟩
theorem RVs.drop {H : LH} : ∀ {vs : List Vl} {xs : List LV} (n : Nat), RVs Γ H vs xs → RVs Γ H (vs.drop n) (xs.drop n)
  | _, _, 0, s => by simpa using s
  | [], _, n + 1, s => by simp only [RVs] at s; subst s; simp [RVs]
  | w :: vs, _, n + 1, s => by
    simp only [RVs] at s
    obtain ⟨y, ys, rfl, r1, r2⟩ := s
    simp only [List.drop_succ_cons]
    exact RVs.drop n r2
theorem oAdd (hK : Γ.K = X.K) : OpR X (binaryOp .Add) (gO Γ (wOp .add)) := by
  intro pins s σ H x y v u Q' I rx ry ⟨v', u', h, Q, rv, ru, rh, w, kq⟩
  cases v' <;> cases u' <;> first | exact w.elim | skip
  · rename_i a b
    exact L2.op_add pins s σ H x y v u Q' I rx ry ⟨a, b, rint rv, rint ru, kq _ h _ H vint rh (.refl _ _) w⟩
  · rename_i a b
    obtain ⟨hl, q⟩ := w
    exact L2.op_add_str pins s σ H x y v u Q' I rx ry ⟨sOf a, sOf b, rstr rv, rstr ru, by rw [sOf_length, sOf_length]; exact hl, by rw [sOf_append]; exact kq _ h _ H vstr rh (.refl _ _) q⟩
  · rename_i as bs
    obtain ⟨hl, q⟩ := w
    obtain ⟨a, xs, rfl, sa, ra⟩ := rtup rv
    obtain ⟨b, ys, rfl, sb, rb⟩ := rtup ru
    have sa0 := sa
    have sb0 := sb
    rw [hK] at sa sb
    have la := ra.length
    have lb := rb.length
    refine L2.op_catA pins s σ H _ _ v u Q' I rx ry ⟨a, b, xs, ys, rfl, rfl, sa, sb, by rw [← la, ← lb]; exact hl, fun z => ?_, fun _ z => ?_, fun _ _ p np => ?_⟩
    · subst z
      obtain rfl : as = [] := List.length_eq_zero_iff.mp la
      refine kq (.tup ([] ++ bs)) h _ _ ?_ rh (.refl _ _) q
      simp only [RV, List.nil_append]
      exact ⟨b, ys, rfl, sb0, rb⟩
    · subst z
      obtain rfl : bs = [] := List.length_eq_zero_iff.mp lb
      refine kq (.tup (as ++ [])) h _ _ ?_ rh (.refl _ _) q
      simp only [RV, List.append_nil]
      exact ⟨a, xs, rfl, sa0, ra⟩
    refine kq (.tup (as ++ bs)) h _ _ ?_ (rh.tup np) (.tup np) q
    simp only [RV]
    exact ⟨p, xs ++ ys, rfl, .of L2.upd_same, (ra.append rb).mono (.new np)⟩
  · rename_i a b
    obtain ⟨xs, ys, g1, g2, hl, q⟩ := w
    obtain ⟨us, e1, r1⟩ := rh a _ g1
    obtain ⟨ws, e2, r2⟩ := rh b _ g2
    exact L2.op_cat pins s σ H x y v u Q' I rx ry ⟨a, b, us, ws, rref rv, rref ru, e1, e2, by rw [← r1.length, ← r2.length]; exact hl,
      new_ok kq rh (.refl _ _) q fun p np => ⟨us ++ ws, L2.upd_same, (r1.append r2).mono (.new np)⟩⟩
theorem oSub : OpR X (binaryOp .Sub) (gO Γ (wOp .sub)) := by
  intro pins s σ H x y v u Q' I rx ry ⟨v', u', h, Q, rv, ru, rh, w, kq⟩
  cases v' <;> cases u' <;> first | exact w.elim | skip
  rename_i a b
  exact L2.op_sub pins s σ H x y v u Q' I rx ry ⟨a, b, rint rv, rint ru, kq _ h _ H vint rh (.refl _ _) w⟩
theorem mulOk_ok {a b : Int} (h : MulOk a b) : IntMulOk a b := by
  rcases h with h | h | h
  · exact IntMulOk.of_left (intBits_le_64 (by omega) (by omega))
  · exact IntMulOk.of_right (intBits_le_64 (by omega) (by omega))
  · exact (L2.wide_mul (a := 200) (b := 200) h.1 h.2 (by decide) (by decide) (by decide)).ok
theorem rep_flat (a : List Nat) : ∀ (n : Nat) (acc : Array Nat), ((List.replicate n a.toArray).foldl (· ++ ·) acc) = (acc.toList ++ (List.replicate n a).flatten).toArray
  | 0, acc => by simp
  | n + 1, acc => by
    rw [List.replicate_succ, List.foldl_cons, rep_flat a n, List.replicate_succ, List.flatten_cons]
    simp
theorem oMul : OpR X (binaryOp .Mult) (gO Γ (wOp .mul)) := by
  intro pins s σ H x y v u Q' I rx ry ⟨v', u', h, Q, rv, ru, rh, w, kq⟩
  cases v' <;> cases u' <;> first | exact w.elim | skip
  · rename_i a b
    have ex := rint rv
    have ey := rint ru
    subst ex ey
    obtain ⟨t, rfl⟩ := rx
    obtain ⟨t', rfl⟩ := ry
    exact mul_int ⟨.int _, H, I.tok _, ⟨_, rfl⟩, kq _ h _ H vint rh (.refl _ _) w.2⟩ (mulOk_ok w.1)
  · rename_i a k
    obtain ⟨h1, h2, hl, q⟩ := w
    have ex := rstr rv
    have ey := rint ru
    subst ex ey
    obtain ⟨t, rfl⟩ := rx
    obtain ⟨t', rfl⟩ := ry
    have hz : (sOf a).length = a.length := sOf_length a
    have hsz : a.length * k.toNat ≤ sizeLine := by rw [← sz_eq]; exact hl
    have fin := fun (tk : Nat) (z : LV) (r : z = .str (sOf (List.replicate k.toNat a).flatten)) => kq (.str (List.replicate k.toNat a).flatten) h z H (by simp only [RV]; exact r) rh (.refl _ _) q
    refine PySem.P.mul_str (by rw [decide_eq_false (by omega), decide_eq_false (by omega)]; rfl) (fun hn he => ?_) (fun hn he => ?_) ?_
    · rw [hz]
      have k0 : 0 < k := by omega
      have : (a.length : Int) * k ≤ 16777216 := by
        have h3 : ((a.length * k.toNat : Nat) : Int) ≤ ((SZ : Nat) : Int) := Int.ofNat_le.mpr hl
        rw [Int.natCast_mul, Int.toNat_of_nonneg (by omega)] at h3
        simpa [SZ] using h3
      have h4 : (a.length : Int) ≤ (2 ^ 63 - 1) / k := (Int.le_ediv_iff_mul_le k0).mpr (by omega)
      omega
    · rw [hz]
      unfold PySem.Builtin.Str.tooLong
      simp only [decide_eq_false_iff_not]
      omega
    · split
      · rename_i hn
        refine ⟨by decide, .str Str.empty, H, I.tok _, ⟨_, rfl⟩, ?_⟩
        have : k.toNat = 0 := by omega
        exact fin 0 _ (by rw [this]; rfl)
      · split
        · rename_i hn he
          simp only [Bool.or_eq_true, beq_iff_eq] at he
          refine ⟨.str (sOf a), H, I, ⟨_, rfl⟩, fin 0 _ ?_⟩
          rcases he with e | e
          · have : k.toNat = 1 := by omega
            rw [this]; simp
          · rw [hz] at e
            have : a = [] := List.eq_nil_of_length_eq_zero e
            subst this
            simp
        · rename_i hn he
          have ef : (⟨(List.replicate k.toNat (sOf a).cps).foldl (· ++ ·) #[]⟩ : Str) = sOf (List.replicate k.toNat a).flatten := by
            show (⟨_⟩ : Str) = ⟨_⟩
            congr 1
            rw [show (sOf a).cps = a.toArray from rfl, rep_flat]
            simp
          rw [ef]
          refine ⟨?_, .str (sOf (List.replicate k.toNat a).flatten), H, I.tok _, ⟨_, rfl⟩, fin 0 _ rfl⟩
          show (sOf (List.replicate k.toNat a).flatten).length ≤ sizeLine
          rw [sOf_length, List.length_flatten, List.map_replicate, List.sum_replicate_nat, Nat.mul_comm]
          exact hsz
  · rename_i a k
    obtain ⟨xs, g1, h1, h2, hl, q⟩ := w
    obtain ⟨us, e1, r1⟩ := rh a _ g1
    exact L2.op_rep pins s σ H x y v u Q' I rx ry ⟨a, k, us, rref rv, rint ru, e1, by omega, by omega, by rw [← r1.length]; exact hl,
      new_ok kq rh (.refl _ _) q fun p np => ⟨_, L2.upd_same, (r1.rep _).mono (.new np)⟩⟩
theorem div_pylong {a b : Int} (h : DivOk b) : Builtin.divisionGoesByPylong a b = false := by
  refine PyProof.noPylong_of_log2 ?_
  exact Nat.lt_of_lt_of_le (PySem.Flt.log2_lt_of (by decide) h.2) (by decide)
theorem oFdiv : OpR X (binaryOp .FloorDiv) (gO Γ (wOp .fdiv)) := by
  intro pins s σ H x y v u Q' I rx ry ⟨v', u', h, Q, rv, ru, rh, w, kq⟩
  cases v' <;> cases u' <;> first | exact w.elim | skip
  rename_i a b
  have ex := rint rv
  have ey := rint ru
  subst ex ey
  obtain ⟨t, rfl⟩ := rx
  obtain ⟨t', rfl⟩ := ry
  exact floordiv_int w.1.1 ⟨.int _, H, I.tok _, ⟨_, rfl⟩, kq _ h _ H vint rh (.refl _ _) w.2⟩ (.inl (div_pylong w.1))
theorem oMod : OpR X (binaryOp .Mod) (gO Γ (wOp .mod)) := by
  intro pins s σ H x y v u Q' I rx ry ⟨v', u', h, Q, rv, ru, rh, w, kq⟩
  cases v' <;> cases u' <;> first | exact w.elim | skip
  rename_i a b
  have ex := rint rv
  have ey := rint ru
  subst ex ey
  obtain ⟨t, rfl⟩ := rx
  obtain ⟨t', rfl⟩ := ry
  exact PyProof.Rows.mod_int w.1 ⟨.int _, H, I.tok _, ⟨_, rfl⟩, kq _ h _ H vint rh (.refl _ _) w.2⟩
theorem oPow : OpR X (binaryOp .Pow) (gO Γ (wOp .pow)) := by
  intro pins s σ H x y v u Q' I rx ry ⟨v', u', h, Q, rv, ru, rh, w, kq⟩
  cases v' <;> cases u' <;> first | exact w.elim | skip
  rename_i a b
  exact L2.op_pow pins s σ H x y v u Q' I rx ry ⟨a, b, rint rv, rint ru, ⟨w.1.1, by have := w.1.2.1; omega, w.1.2.2⟩, kq _ h _ H vint rh (.refl _ _) w.2⟩
theorem pair_lt {a1 a2 b1 b2 : Int} : PySem.W.dataLt (.tuple [.int a1, .int a2]) (.tuple [.int b1, .int b2]) = decide (a1 < b1 ∨ a1 = b1 ∧ a2 < b2) := by
  rw [PySem.W.dataLt_tuple]
  by_cases e : a1 = b1
  · subst e
    rw [PySem.W.dataLt_all_yes (by simp [PySem.W.alike]) (by simp [PyData.eqv])]
    by_cases e2 : a2 = b2
    · subst e2
      rw [PySem.W.dataLt_all_yes (by simp [PySem.W.alike]) (by simp [PyData.eqv])]
      simp [PySem.W.keyToksAll, lex_irrefl]
    · rw [PySem.W.dataLt_all_no (by simp [PySem.W.alike]) (by simpa [PyData.eqv] using e2), PySem.W.dataLt_int]
      simp
  · rw [PySem.W.dataLt_all_no (by simp [PySem.W.alike]) (by simpa [PyData.eqv] using e), PySem.W.dataLt_int]
    simp [e]
theorem oLt (hu : X.A.units + 64 < cLine) (hK : Γ.K = X.K) : OpR X (compareOp .Lt) (gO Γ (wOp .lt)) := by
  intro pins s σ H x y v u Q' I rx ry ⟨v', u', h, Q, rv, ru, rh, w, kq⟩
  cases v' <;> cases u' <;> first | exact w.elim | skip
  · rename_i a b
    exact L2.op_lt pins s σ H x y v u Q' I rx ry ⟨a, b, rint rv, rint ru, kq _ h _ H vbl rh (.refl _ _) w⟩
  · obtain ⟨a1, a2, b1, b2, rfl, rfl, w⟩ := w
    obtain ⟨as, r1⟩ := L2.Dp.reads I (.tuple [.int a1, .int a2]) x v (by rw [← hK]; exact da_dp rh (.tup [.int a1, .int a2]) (by simp [DaOf, DaOfs]) rv) rx
    obtain ⟨bs, r2⟩ := L2.Dp.reads I (.tuple [.int b1, .int b2]) y u (by rw [← hK]; exact da_dp rh (.tup [.int b1, .int b2]) (by simp [DaOf, DaOfs]) ru) ry
    refine PySem.W.lt_data r1 r2 (by simp [PySem.W.alike, PySem.W.alikeAll]) (by simp) (by simp only [PyData.depth, PyData.depthAll]; omega) ?_
    rw [pair_lt]
    exact ⟨.bl _, H, I, rfl, kq (.bl _) h _ H vbl rh (.refl _ _) w⟩
theorem oLe : OpR X (compareOp .LtE) (gO Γ (wOp .le)) := by
  intro pins s σ H x y v u Q' I rx ry ⟨v', u', h, Q, rv, ru, rh, w, kq⟩
  cases v' <;> cases u' <;> first | exact w.elim | skip
  rename_i a b
  exact L2.op_le pins s σ H x y v u Q' I rx ry ⟨a, b, rint rv, rint ru, kq _ h _ H vbl rh (.refl _ _) w⟩
theorem oGt : OpR X (compareOp .Gt) (gO Γ (wOp .gt)) := by
  intro pins s σ H x y v u Q' I rx ry ⟨v', u', h, Q, rv, ru, rh, w, kq⟩
  cases v' <;> cases u' <;> first | exact w.elim | skip
  rename_i a b
  exact L2.op_gt pins s σ H x y v u Q' I rx ry ⟨a, b, rint rv, rint ru, kq _ h _ H vbl rh (.refl _ _) w⟩
theorem oGe : OpR X (compareOp .GtE) (gO Γ (wOp .ge)) := by
  intro pins s σ H x y v u Q' I rx ry ⟨v', u', h, Q, rv, ru, rh, w, kq⟩
  cases v' <;> cases u' <;> first | exact w.elim | skip
  rename_i a b
  exact L2.op_ge pins s σ H x y v u Q' I rx ry ⟨a, b, rint rv, rint ru, kq _ h _ H vbl rh (.refl _ _) w⟩
theorem RV.isNon {H : LH} {v : Vl} {x : LV} (r : RV Γ H v x) : decide (x = .non) = isNon v := by
  cases v <;> simp only [RV] at r
  · subst r; rfl
  · subst r; rfl
  · subst r; rfl
  · subst r; rfl
  · obtain ⟨a, xs, rfl, _⟩ := r; rfl
  · subst r; rfl
  · obtain ⟨a, _, rfl⟩ := r; rfl
  · obtain ⟨a, rfl, _⟩ := r; rfl
theorem oIs : OpR X (compareOp .Is) (gO Γ (wOp .is_)) := by
  intro pins s σ H x y v u Q' I rx ry ⟨v', u', h, Q, rv, ru, rh, w, kq⟩
  have key : ∀ (_ : u' = .non) (_ : Q (.bl (isNon v')) h), wpAny (model X.prog X.w) X.A (compareOp .Is v u) (L2.EP X pins σ Q') X.xe s := by
    intro e w
    subst e
    have ey : y = .non := by simpa only [RV] using ru
    refine L2.op_isN pins s σ H x y v u Q' I rx ry ⟨ey, ?_⟩
    rw [rv.isNon]
    exact kq _ h _ H vbl rh (.refl _ _) w
  have key2 : ∀ (a b : Bool) (_ : v' = .bl a) (_ : u' = .bl b) (_ : Q (.bl (decide (a = b))) h), wpAny (model X.prog X.w) X.A (compareOp .Is v u) (L2.EP X pins σ Q') X.xe s := by
    intro a b e1 e2 w
    subst e1 e2
    have ex : x = .bl a := by simpa only [RV] using rv
    have ey : y = .bl b := by simpa only [RV] using ru
    exact L2.op_isBl pins s σ H x y v u Q' I rx ry ⟨a, b, ex, ey, kq _ h _ H vbl rh (.refl _ _) w⟩
  cases v' <;> cases u' <;> first | exact w.elim | exact key rfl w | exact key2 _ _ rfl rfl w
theorem oIsn : OpR X (compareOp .IsNot) (gO Γ (wOp .isn)) := by
  intro pins s σ H x y v u Q' I rx ry ⟨v', u', h, Q, rv, ru, rh, w, kq⟩
  have key : ∀ (_ : u' = .non) (_ : Q (.bl (!isNon v')) h), wpAny (model X.prog X.w) X.A (compareOp .IsNot v u) (L2.EP X pins σ Q') X.xe s := by
    intro e w
    subst e
    have ey : y = .non := by simpa only [RV] using ru
    refine L2.op_notN pins s σ H x y v u Q' I rx ry ⟨ey, ?_⟩
    rw [rv.isNon]
    exact kq _ h _ H vbl rh (.refl _ _) w
  have key2 : ∀ (a b : Bool) (_ : v' = .bl a) (_ : u' = .bl b) (_ : Q (.bl (!decide (a = b))) h), wpAny (model X.prog X.w) X.A (compareOp .IsNot v u) (L2.EP X pins σ Q') X.xe s := by
    intro a b e1 e2 w
    subst e1 e2
    have ex : x = .bl a := by simpa only [RV] using rv
    have ey : y = .bl b := by simpa only [RV] using ru
    exact L2.op_notBl pins s σ H x y v u Q' I rx ry ⟨a, b, ex, ey, kq _ h _ H vbl rh (.refl _ _) w⟩
  cases v' <;> cases u' <;> first | exact w.elim | exact key rfl w | exact key2 _ _ rfl rfl w
end
end KN

set_option autoImplicit false
set_option linter.all false
/-! Kern, part 6: subscripts, built-ins, methods -/
namespace KN
open PySem PySem.Spec PyProof.Rows
open L2 (PE PT PW PA PS PSs OpR CallR upd)

section
variable {X : L2.Cx} {Γ : Nm} {W : L2.WX} {P : PG} {Φ : Phi}

theorem atI_eq {α : Type} {xs : List α} {i : Int} {v : α} (e : atI xs i = some v) : L2.atI xs i = some v := by
  unfold atI at e
  unfold L2.atI L2.ixN
  by_cases h : 0 ≤ i
  · rw [if_pos h] at e ⊢
    have hl : i.toNat < xs.length := (List.getElem?_eq_some_iff.mp e).1
    rw [if_pos (by omega)]
    exact e
  · rw [if_neg h] at e ⊢
    by_cases h2 : 0 ≤ i + xs.length
    · rw [if_pos h2] at e
      rw [if_pos (by omega)]
      exact e
    · rw [if_neg h2] at e; cases e
theorem atI_lt {α : Type} {xs : List α} {i : Int} {v : α} (e : atI xs i = some v) : ∃ j : Nat, xs[j]? = some v ∧ (∀ {β : Type} {ys : List β} {w : β}, ys.length = xs.length → ys[j]? = some w → atI ys i = some w) := by
  unfold atI at e
  by_cases h : 0 ≤ i
  · rw [if_pos h] at e
    exact ⟨_, e, fun hl q => by unfold atI; rw [if_pos h]; exact q⟩
  · rw [if_neg h] at e
    by_cases h2 : 0 ≤ i + xs.length
    · rw [if_pos h2] at e
      exact ⟨_, e, fun hl q => by unfold atI; rw [if_neg h, hl, if_pos h2]; exact q⟩
    · rw [if_neg h2] at e; cases e
theorem RK.length {H : LH} : ∀ {kvs : List (Ky × Vl)} {xs : List (L2.Key × LV)}, RK Γ H kvs xs → kvs.length = xs.length
  | [], _, r => by have : _ = [] := r; subst this; rfl
  | (k', v') :: kvs, _, ⟨y, ys, e1, r1, r2⟩ => by subst e1; simp [RK.length r2]
theorem RK.get {H : LH} {k : Ky} {v : Vl} : ∀ {kvs : List (Ky × Vl)} {xs : List (L2.Key × LV)}, RK Γ H kvs xs → dget kvs k = some v → ∃ x, L2.valV xs (kyL k) = some x ∧ RV Γ H v x
  | [], _, r, e => by simp [dget] at e
  | (k', v') :: kvs, _, ⟨y, ys, e1, r1, r2⟩, e => by
    subst e1
    by_cases z : k' = k
    · subst z
      simp [dget] at e
      subst e
      exact ⟨y, L2.valV_pos rfl, r1⟩
    · have e' : dget kvs k = some v := by simpa [dget, z] using e
      obtain ⟨x, h1, h2⟩ := RK.get r2 e'
      refine ⟨x, ?_, h2⟩
      rw [L2.valV_neg]
      · exact h1
      · intro q
        apply z
        cases k' <;> cases k <;> simp [kyL, sOf] at q <;> simp [q]
theorem kyL_inj {a b : Ky} : kyL a = kyL b ↔ a = b := by
  cases a <;> cases b <;> simp [kyL, sOf]
theorem RK.getN {H : LH} {k : Ky} : ∀ {kvs : List (Ky × Vl)} {xs : List (L2.Key × LV)}, RK Γ H kvs xs → dget kvs k = none → L2.valV xs (kyL k) = none
  | [], _, r, e => by
    have : _ = [] := r
    subst this; rfl
  | (k', v') :: kvs, _, ⟨y, ys, e1, r1, r2⟩, e => by
    subst e1
    by_cases z : k' = k
    · subst z; simp [dget] at e
    · have e' : dget kvs k = none := by simpa [dget, z] using e
      rw [L2.valV_neg (by intro q; exact z (kyL_inj.mp q))]
      exact RK.getN r2 e'
theorem ky_rv {H : LH} {v : Vl} {x : LV} {k : Ky} (e : kyOf v = some k) (r : RV Γ H v x) : x = L2.kV (kyL k) := by
  cases v <;> simp [kyOf] at e
  · subst e; simp only [RV] at r; subst r; rfl
  · subst e; simp only [RV] at r; subst r; rfl
theorem iDict (hu : X.A.units + 1 < cLine) : L2.IxR X (fun x y H Q => ∃ a v, x = .ref a ∧ L2.DGet H a y (some v) ∧ Q v H) := by
  intro value slice pins s σ H x y v u Q I rx ry ⟨a, w, ex, g, q⟩ hs
  subst ex
  cases rx
  exact tail_any (L2.dict_typeIs I g) PySem.F.slot_dict_getitem.lookup (L2.d_getItem hu I g ry fun w' s3 I3 rw' => ⟨w, H, I3, rw', q⟩) hs
theorem RT.length {H : LH} : ∀ {kvs : List (List Int × Vl)} {kas : List (List Int × Addr × LV)}, RT Γ H kvs kas → kvs.length = kas.length
  | [], _, r => by have : _ = [] := r; subst this; rfl
  | (k, v) :: kvs, _, ⟨b, y, ys, e1, r1, r2⟩ => by subst e1; simp [RT.length r2]
theorem RT.get {H : LH} {k : List Int} : ∀ {kvs : List (List Int × Vl)} {kas : List (List Int × Addr × LV)}, RT Γ H kvs kas → match tget kvs k with | some v => ∃ x, L2.valT kas k = some x ∧ RV Γ H v x | none => L2.valT kas k = none
  | [], _, r => by have : _ = [] := r; subst this; simp [tget, L2.valT]
  | (k', v') :: kvs, _, ⟨b, y, ys, e1, r1, r2⟩ => by
    subst e1
    by_cases z : k' = k
    · simp only [tget, L2.valT, List.find?_cons, z, decide_true, Option.map_some]
      exact ⟨y, rfl, r1⟩
    · have := RT.get (k := k) r2
      simp only [tget, L2.valT, List.find?_cons, z, decide_false] at this ⊢
      exact this
theorem RT.app {H : LH} {k : List Int} {b : Addr} {v : Vl} {x : LV} (rv : RV Γ H v x) : ∀ {kvs : List (List Int × Vl)} {kas : List (List Int × Addr × LV)}, RT Γ H kvs kas → RT Γ H (kvs ++ [(k, v)]) (kas ++ [(k, b, x)])
  | [], _, r => by have : _ = [] := r; subst this; exact ⟨b, x, [], rfl, rv, rfl⟩
  | (k', v') :: kvs, _, ⟨b', y, ys, e1, r1, r2⟩ => by
    subst e1
    exact ⟨b', y, _, rfl, r1, RT.app rv r2⟩
theorem ints_rvs {H : LH} : ∀ {ns : List Int} {xs : List LV}, RVs Γ H (ns.map Vl.int) xs → xs = ns.map L2.V.int
  | [], _, r => by simpa only [List.map_nil, RVs] using r
  | n :: ns, _, r => by
    simp only [List.map_cons, RVs, RV] at r
    obtain ⟨y, ys, rfl, rfl, r2⟩ := r
    rw [List.map_cons, ints_rvs r2]
theorem RT.keys {H : LH} : ∀ {kvs : List (List Int × Vl)} {kas : List (List Int × Addr × LV)}, RT Γ H kvs kas → kvs.map (·.1) = kas.map (·.1)
  | [], _, r => by have : _ = [] := r; subst this; rfl
  | (k, v) :: kvs, _, ⟨b, y, ys, e1, r1, r2⟩ => by subst e1; rw [List.map_cons, List.map_cons, RT.keys r2]
theorem RT.map {H : LH} {k : List Int} {v : Vl} {x : LV} (rv : RV Γ H v x) : ∀ {kvs : List (List Int × Vl)} {kas : List (List Int × Addr × LV)}, RT Γ H kvs kas →
    RT Γ H (kvs.map (fun kv => if kv.1 = k then (kv.1, v) else kv)) (kas.map (fun p => if p.1 = k then (p.1, p.2.1, x) else p))
  | [], _, r => by have : _ = [] := r; subst this; exact rfl
  | (k', v') :: kvs, _, ⟨b', y, ys, e1, r1, r2⟩ => by
    subst e1
    rw [List.map_cons, List.map_cons]
    by_cases z : k' = k
    · rw [if_pos z, if_pos z]
      exact ⟨b', x, _, rfl, rv, RT.map rv r2⟩
    · rw [if_neg z, if_neg z]
      exact ⟨b', y, _, rfl, r1, RT.map rv r2⟩
theorem RT.put {H : LH} {k : List Int} {b : Addr} {v : Vl} {x : LV} {kvs : List (List Int × Vl)} {kas : List (List Int × Addr × LV)} (rv : RV Γ H v x) (r : RT Γ H kvs kas) : RT Γ H (tput kvs k v) (L2.putT kas k b x) := by
  have e : (tget kvs k).isSome = (L2.valT kas k).isSome := by
    have rg := RT.get (k := k) r
    cases hd : tget kvs k with
    | none => rw [hd] at rg; rw [rg]; rfl
    | some v0 =>
      rw [hd] at rg
      obtain ⟨x0, e0, _⟩ := rg
      rw [e0]; rfl
  unfold tput L2.putT
  rw [e]
  split
  · exact RT.map rv r
  · exact RT.app rv r
theorem tdk_put {K : PySem.W.Frag} {H : LH} {k : List Int} {b : Addr} {x : LV} {kas : List (List Int × Addr × LV)} (h : L2.TdK K H kas) (sq : L2.SqT K H b (k.map L2.V.int)) : L2.TdK K H (L2.putT kas k b x) := by
  unfold L2.putT
  split
  · intro p hp
    obtain ⟨q, hq, rfl⟩ := List.mem_map.mp hp
    split
    · exact h q hq
    · exact h q hq
  · intro p hp
    rcases List.mem_append.mp hp with hp | hp
    · exact h p hp
    · simp only [List.mem_cons, List.not_mem_nil, or_false] at hp
      subst hp
      exact sq
theorem tdk_mono {K : PySem.W.Frag} {H H' : LH} {kas : List (List Int × Addr × LV)} (e : Xt H H') (h : L2.TdK K H kas) : L2.TdK K H' kas := fun p hp => sqT_mono e (h p hp)
theorem iIx (hu : X.A.units + 1 < cLine) (hK : Γ.K = X.K) (hP : X.w.params = Γ.par) : L2.IxR X (gO Γ wIx) := by
  intro value slice pins s σ H x y v u Q' I rx ry ⟨v', u', h, Q, rv, ru, rh, w, kq⟩ hs
  cases v' with
  | non => exact w.elim
  | bl _ => exact w.elim
  | int _ => exact w.elim
  | fn _ => exact w.elim
  | gd kvs =>
    cases u' <;> first | exact w.elim | skip
    rename_i z
    obtain ⟨v0, e, q⟩ := w
    simp only [RV] at rv
    obtain ⟨a, rfl, es, m, hl, hk, hg⟩ := rv
    obtain ⟨t, ht⟩ := hg z v0 e
    refine L2.ix_kdict value slice pins s σ H _ y v u Q' I rx ry ⟨a, sOf z, .str (sOf v0), rfl, rstr ru, ⟨es, m, .str (sOf v0) t, by rw [← hK]; exact hl, by rw [hP]; exact hk, by rw [← hK]; exact ht, ⟨t, rfl⟩⟩, ?_⟩ hs
    exact kq (.str v0) h _ H (by simp only [RV]) rh (.refl _ _) q
  | str s' =>
    cases u' <;> first | exact w.elim | skip
    rename_i i
    obtain ⟨hl, c, e, q⟩ := w
    refine L2.ix_str value slice pins s σ H x y v u Q' I rx ry ⟨sOf s', i, c, rstr rv, rint ru, by rw [sOf_length]; exact hl, atI_eq (by simpa [sOf] using e), ?_⟩ hs
    exact kq (.str [c]) h _ H (by simp only [RV]; rfl) rh (.refl _ _) q
  | tup xs =>
    cases u' <;> first | exact w.elim | skip
    rename_i i
    obtain ⟨z, e, q⟩ := w
    obtain ⟨a, ys, ex, sq, r⟩ := rtup rv
    obtain ⟨j, h1, h2⟩ := atI_lt e
    obtain ⟨y', h3, r3⟩ := r.get h1
    exact L2.ix_tup value slice pins s σ H x y v u Q' I rx ry ⟨a, ys, i, y', ex, rint ru, by rw [← hK]; exact sq, atI_eq (h2 r.length.symm h3), kq z h _ H r3 rh (.refl _ _) q⟩ hs
  | ref a =>
    rcases w with ⟨xs, i, z, e1, g, e2, q⟩ | ⟨kvs, ky, z, g, e1, e2, q⟩ | ⟨kvs, ns, z, g, e1, e2, q⟩
    · subst e1
      obtain ⟨j, h1, h2⟩ := atI_lt e2
      rcases g with g | g
      · obtain ⟨ys, h5, r⟩ := rh a _ g
        obtain ⟨y', h3, r3⟩ := r.get h1
        exact L2.ix_list value slice pins s σ H x y v u Q' I rx ry ⟨a, ys, i, y', rref rv, rint ru, .of h5, atI_eq (h2 r.length.symm h3), kq z h _ H r3 rh (.refl _ _) q⟩ hs
      · obtain ⟨o, ys, h5, r⟩ := rh a _ g
        obtain ⟨y', h3, r3⟩ := r.get h1
        exact L2.ix_list value slice pins s σ H x y v u Q' I rx ry ⟨a, ys, i, y', rref rv, rint ru, .inl (.inr ⟨o, h5⟩), atI_eq (h2 r.length.symm h3), kq z h _ H r3 rh (.refl _ _) q⟩ hs
    · rcases g with g | g
      · obtain ⟨ys, h5, r⟩ := rh a _ g
        obtain ⟨x', h6, r6⟩ := r.get e2
        refine iDict hu value slice pins s σ H x y v u Q' I rx ry ⟨a, x', rref rv, ?_, kq z h _ H r6 rh (.refl _ _) q⟩ hs
        rw [ky_rv e1 ru, ← h6]
        exact .k h5
      · obtain ⟨o, ys, h5, r⟩ := rh a _ g
        obtain ⟨x', h6, r6⟩ := r.get e2
        refine iDict hu value slice pins s σ H x y v u Q' I rx ry ⟨a, x', rref rv, ?_, kq z h _ H r6 rh (.refl _ _) q⟩ hs
        rw [ky_rv e1 ru, ← h6]
        exact .inl ⟨ys, _, .inr ⟨o, h5⟩, rfl, rfl⟩
    · subst e1
      obtain ⟨kas, h5, hk, r⟩ := rh a _ g
      obtain ⟨b, ts, rfl, sq, rt⟩ := rtup ru
      rw [ints_rvs rt] at sq
      have rg := RT.get (k := ns) r
      rw [e2] at rg
      obtain ⟨x0, e0, r0⟩ := rg
      have ex := rref rv
      subst ex
      obtain rfl : v = Value.ref a := rx
      obtain rfl : u = Value.ref b := ry
      exact tail_any (L2.td_typeIs I h5) PySem.F.slot_dict_getitem.lookup (L2.tdI_get hu I h5 (hK ▸ hk) (hK ▸ sq) e0 fun w' s3 I3 rw' => ⟨x0, H, I3, rw', kq z h _ H r0 rh (.refl _ _) q⟩) hs
/-! slices -/
theorem sIx_eq (n d : Nat) (i : Int) : HT.sIx n d (some i) = sIx n i := by
  unfold HT.sIx sIx
  by_cases h : 0 ≤ i
  · simp only [h, if_true]; rw [if_neg (by omega)]
  · simp only [h, if_false]; rw [if_pos (by omega)]
theorem cut_eq {α : Type} (xs : List α) (lo hi : Option Int) : (xs.drop (HT.sIx xs.length 0 lo)).take (HT.sIx xs.length xs.length hi - HT.sIx xs.length 0 lo) = cut xs lo hi := by
  unfold cut
  cases lo <;> cases hi <;> simp only [sIx_eq] <;> rfl
theorem RVs.cut {H : LH} {vs : List Vl} {xs : List LV} (r : RVs Γ H vs xs) (lo hi : Option Int) : RVs Γ H (cut vs lo hi) (L2.cutV xs lo hi) := by
  unfold L2.cutV
  rw [← cut_eq, r.length]
  exact (r.drop _).take _
def gSl (Γ : Nm) (r : Vl → Option Int → Option Int → AH → Qv → Prop) : LV → Option Int → Option Int → LH → L2.VK → Prop := fun x lo hi H Q' => ∃ v h Q, RV Γ H v x ∧ RH Γ h H ∧ r v lo hi h Q ∧ KQ Γ h H Q Q'
theorem iSlc (hK : Γ.K = X.K) : L2.SlR X (gSl Γ wSlc) := by
  intro pins s σ H x v vl vu lo hi sl Q' I rx hs pl pu ⟨v', h, Q, rv, rh, w, kq⟩
  cases v' with
  | non => exact w.elim
  | bl _ => exact w.elim
  | int _ => exact w.elim
  | gd _ => exact w.elim
  | fn _ => exact w.elim
  | str s' =>
    obtain ⟨hl, q⟩ := w
    refine L2.sl_str pins s σ H x v vl vu lo hi sl Q' I rx hs pl pu ⟨sOf s', rstr rv, by rw [sOf_length]; exact hl, ?_⟩
    have e : L2.cutS (sOf s') lo hi = sOf (KN.cut s' lo hi) := by
      unfold L2.cutS sOf
      rw [← cut_eq]
      have : (PySem.Str.mk s'.toArray).length = s'.length := sOf_length s'
      rw [this]
    rw [e]
    exact kq _ h _ H vstr rh (.refl _ _) q
  | tup xs =>
    obtain ⟨a, ys, ex, sq, r⟩ := rtup rv
    refine L2.sl_tupA pins s σ H x v vl vu lo hi sl Q' I rx hs pl pu ⟨a, ys, ex, by rw [← hK]; exact sq, fun e => ?_, fun e p np => ?_⟩
    · have ec : cut xs lo hi = xs := by
        rw [← cut_eq, r.length, e.1, e.2, ← r.length]; simp
      refine kq (.tup (cut xs lo hi)) h _ H ?_ rh (.refl _ _) w
      rw [ec, ← ex]; exact rv
    · refine kq (.tup (cut xs lo hi)) h _ _ ?_ (rh.tup np) (.tup np) w
      simp only [RV]
      exact ⟨p, _, rfl, .of L2.upd_same, (r.cut lo hi).mono (.new np)⟩
  | ref a =>
    obtain ⟨xs, g, q⟩ := w
    rcases g with g | g
    · obtain ⟨ys, h5, r⟩ := rh a _ g
      exact L2.sl_list pins s σ H x v vl vu lo hi sl Q' I rx hs pl pu ⟨a, ys, rref rv, .of h5, new_ok kq rh (.refl _ _) q fun p np => ⟨_, L2.upd_same, (r.cut lo hi).mono (.new np)⟩⟩
    · obtain ⟨o, ys, h5, r⟩ := rh a _ g
      exact L2.sl_list pins s σ H x v vl vu lo hi sl Q' I rx hs pl pu ⟨a, ys, rref rv, .inl (.inr ⟨o, h5⟩), new_ok kq rh (.refl _ _) q fun p np => ⟨_, L2.upd_same, (r.cut lo hi).mono (.new np)⟩⟩
def gP (Γ : Nm) (W : L2.WX) (w : St → AH → (Option Int → AH → Prop) → Xv → Prop) : L2.TO := fun τ H R => ∃ σ h Q X, RS Γ H σ τ ∧ RH Γ h H ∧ w σ h Q X ∧ (∀ i h1 H1, RH Γ h1 H1 → Sp h H h1 H1 → Q i h1 → R i H1) ∧ KX Γ W h H X
theorem PO.mono {e : Option Expr} {t t' : L2.TO} (p : L2.PO X e t) (m : ∀ σ H Q, t' σ H Q → t σ H Q) : L2.PO X e t' := ⟨fun pins s σ H Q I h => p.run pins s σ H Q I (m σ H Q h)⟩
theorem sP_none : L2.PO X none (gP Γ W (wP P Φ .non)) := by
  refine PO.mono L2.po_none ?_
  rintro τ H R ⟨σ, h, Q, X', rs, rh, w, kq, kx⟩
  exact kq none h H rh (.refl _ _) w
theorem sP_some {e : Expr} {e' : E} (h : PE X e (gE Γ W (wE P Φ e'))) : L2.PO X (some e) (gP Γ W (wP P Φ (.one e'))) := by
  refine PO.mono (L2.po_some h) ?_
  rintro τ H R ⟨σ, h, Q, X', rs, rh, w, kq, kx⟩
  refine ⟨σ, h, _, X', rs, rh, w, ?_, kx⟩
  intro v h1 x H1 rv rh1 s1 ⟨i, e, q1⟩
  subst e
  exact ⟨i, rint rv, kq _ h1 H1 rh1 s1 q1⟩
theorem sE_slc {a : Expr} {lo hi : Option Expr} {pos p2 : Pos} {a' lo' hi' : E} (hK : Γ.K = X.K) (ha : PE X a (gE Γ W (wE P Φ a'))) (hl : L2.PO X lo (gP Γ W (wP P Φ lo'))) (hh : L2.PO X hi (gP Γ W (wP P Φ hi'))) :
    PE X (.Subscript a (.Slice lo hi none p2) pos) (gE Γ W (wE P Φ (.slc a' lo' hi'))) := by
  refine PE.mono (L2.pe_slice (iSlc hK) ha hl hh) ?_
  rintro τ H Q' ⟨σ, h, Q, X', rs, rh, w, kq, kx⟩
  refine ⟨σ, h, _, X', rs, rh, w, ?_, kx⟩
  intro v h1 x H1 rv rh1 s1 q1
  refine ⟨σ, h1, _, X', rs.mono s1.xt, rh1, q1, ?_, kx.step s1⟩
  intro i h2 H2 rh2 s2 q2
  refine ⟨σ, h2, _, X', rs.mono (s1.trans s2).xt, rh2, q2, ?_, kx.step (s1.trans s2)⟩
  intro j h3 H3 rh3 s3 q3
  exact ⟨v, h3, Q, rv.mono (s2.trans s3).xt, rh3, q3, kq.step ((s1.trans s2).trans s3)⟩
/-! ### truth -/
theorem tru_rv {H : LH} {h : AH} {v : Vl} {x : LV} {t : Bool} (hK : Γ.K = X.K) (rh : RH Γ h H) (r : RV Γ H v x) (e : truth h v = some t) : L2.TruV X.K x H t := by
  have em : ∀ {xs : List Vl} {ys : List LV}, xs.length = ys.length → (!xs.isEmpty) = !ys.isEmpty := by
    intro xs ys l
    cases xs <;> cases ys <;> simp at l ⊢
  cases v with
  | non => simp only [RV] at r; subst r; simp only [truth, Option.some.injEq] at e; subst e; exact rfl
  | bl b => simp only [RV] at r; subst r; simp only [truth, Option.some.injEq] at e; subst e; exact rfl
  | int i => simp only [RV] at r; subst r; simp only [truth, Option.some.injEq] at e; subst e; show _ = (i != 0); by_cases z : i = 0 <;> simp [z]
  | str s => simp only [truth] at e; cases e
  | gd _ => simp only [truth] at e; cases e
  | tup xs =>
    obtain ⟨a, ys, rfl, sq, r⟩ := rtup r
    simp only [truth, Option.some.injEq] at e
    exact .inr (.inl ⟨ys, by rw [← hK]; exact sq, by rw [← e]; exact em r.length⟩)
  | ref a =>
    have ex := rref r
    subst ex
    simp only [truth] at e
    cases g : get h a with
    | none => simp [g] at e
    | some o =>
      cases o with
      | lst xs =>
        simp only [g, Option.some.injEq] at e
        obtain ⟨ys, h5, r⟩ := rh a _ g
        exact .inl ⟨ys, .of h5, by rw [← e]; exact em r.length⟩
      | rol xs =>
        simp only [g, Option.some.injEq] at e
        obtain ⟨ob, ys, h5, r⟩ := rh a _ g
        exact .inl ⟨ys, .inl (.inr ⟨ob, h5⟩), by rw [← e]; exact em r.length⟩
      | dct _ => simp [g] at e
      | ins _ _ => simp [g] at e
      | exc _ _ => simp [g] at e
      | fdc _ => simp [g] at e
      | dtp _ => simp [g] at e
  | fn f => simp [truth] at e
theorem KQ.tr {h : AH} {H : LH} {Q : Bool → AH → Prop} {Q' : Bool → LH → Prop} (hK : Γ.K = X.K) (k : KT Γ h H Q Q') : KQ Γ h H (fun z h' => ∃ t, truth h' z = some t ∧ Q t h') (fun x H' => ∃ t, L2.TruV X.K x H' t ∧ Q' t H') := by
  intro v h' x H' rv rh s ⟨t, e, q⟩
  exact ⟨t, tru_rv hK rh rv e, k t h' H' rh s q⟩
/-- a plain expression as a test -/
theorem sT_any {e : Expr} {wt : St → AH → (Bool → AH → Prop) → Xv → Prop} {we : St → AH → Qv → Xv → Prop} (hK : Γ.K = X.K) (he : PE X e (gE Γ W we))
    (hw : ∀ σ h Q X', wt σ h Q X' → we σ h (fun z h' => ∃ t, truth h' z = some t ∧ Q t h') X')
    (hp : ∀ whole, isTrue e X.env whole = (do let v ← whole; standAt e.pos; holding [v] (truthy v))) : PT X e (gT Γ W wt) := by
  refine PT.mono (L2.pt_truth he hp) ?_
  rintro τ H Q' ⟨σ, h, Q, X', rs, rh, w, kq, kx⟩
  exact ⟨σ, h, _, X', rs, rh, hw _ _ _ _ w, KQ.tr hK kq, kx⟩
theorem sE_notv {a : Expr} {pos : Pos} {a' : E} (hK : Γ.K = X.K) (ha : PE X a (gE Γ W (wE P Φ a'))) : PE X (.UnaryOp .Not a pos) (gE Γ W (wE P Φ (.notv a'))) := by
  have key : PE X (.UnaryOp .Not a pos) (fun σ H Q => gE Γ W (wE P Φ a') σ H fun x H1 => ∃ t, L2.TruV X.K x H1 t ∧ Q (.bl (!t)) H1) := by
    refine ⟨fun pins s σ H Q I h => ?_⟩
    refine UnaryOp_ (L2.thn (ha.run pins s σ H _ I h) fun v s1 ⟨x, H1, I1, r1, t, ht, q1⟩ => ?_)
    refine not_of (L2.thn (L2.tru_ok pins s1 σ H1 x v (fun b H' => b = t ∧ H' = H1) I1 r1 ⟨t, ht, rfl, rfl⟩) fun b s2 ⟨H2, I2, e1, e2⟩ => ?_)
    subst e1 e2
    exact ⟨.bl (!b), H2, I2, rfl, q1⟩
  refine PE.mono key ?_
  rintro τ H Q' ⟨σ, h, Q, X', rs, rh, w, kq, kx⟩
  refine ⟨σ, h, _, X', rs, rh, w, ?_, kx⟩
  intro v h1 x H1 rv rh1 s1 ⟨t, e, q1⟩
  exact ⟨t, tru_rv hK rh1 rv e, kq _ h1 _ H1 vbl rh1 s1 q1⟩
theorem sE_orv {a b : Expr} {es : List Expr} {pos : Pos} {a' b' : E} (hK : Γ.K = X.K) (ha : PE X a (gE Γ W (wE P Φ a'))) (hb : PE X (.BoolOp .Or (b :: es) pos) (gE Γ W (wE P Φ b'))) : PE X (.BoolOp .Or (a :: b :: es) pos) (gE Γ W (wE P Φ (.orv a' b'))) := by
  refine PE.mono (L2.pe_orT ha hb) ?_
  rintro τ H Q' ⟨σ, h, Q, X', rs, rh, w, kq, kx⟩
  refine ⟨σ, h, _, X', rs, rh, w, ?_, kx⟩
  intro v h1 x H1 rv rh1 s1 ⟨t, e, q1⟩
  refine ⟨t, tru_rv hK rh1 rv e, ?_⟩
  cases t with
  | true => exact kq _ h1 _ H1 rv rh1 s1 q1
  | false => exact ⟨σ, h1, Q, X', rs.mono s1.xt, rh1, q1, kq.step s1, kx.step s1⟩
end
end KN

set_option autoImplicit false
set_option linter.all false
/-! Kern, part 7: built-in calls, methods, isinstance, calls of defs -/
namespace KN
open PySem PySem.Spec PyProof.Rows
open L2 (PE PT PW PA PS PSs OpR CallR upd)

section
variable {X : L2.Cx} {Γ : Nm} {W : L2.WX} {P : PG} {Φ : Phi} {pos : Pos} {e : Expr} {es : List Expr} {es' : E}

theorem args_all {h : AH} {H : LH} {Q : Qv} {Q' : L2.VK} {r : List Vl → AH → Qv → Prop} {τ : LS} (g : gA Γ W (fun σ h (Q : List Vl → AH → Prop) X => wA P Φ es' σ h Q X) τ H (fun xs H1 => gU Γ r xs H1 Q')) : True := trivial
theorem sE_bi {x : Str} {p : Pos} {id : String} {b : Bi} (hc : CallR X (.builtin id) (gU Γ (wBi b))) (hg : L2.Gl X x) (hm : X.mg x = none) (hv : bootBuiltins x = some (.builtin id)) (ha : PA X (e :: es) (gA Γ W (wA P Φ es')))
    (hn : x ≠ "__name__") (hdb : (x == ("__debug__" : Str)) = false) (he : starEach (e :: es) X.env = (false, eval e X.env) :: starEach es X.env) (hpl : (backTo pos (starEach es X.env)).any (·.1) = false) :
    PE X (.Call (.Name x p) (e :: es) [] pos) (gE Γ W (wE P Φ (.bi b es'))) := by
  refine PE.mono (L2.pe_callB hc hg hm hv ha hn hdb he hpl) ?_
  rintro τ H Q' ⟨σ, h, Q, X', rs, rh, w, kq, kx⟩
  refine ⟨σ, h, _, X', rs, rh, w, ?_, kx⟩
  intro vs h1 xs H1 rvs rh1 s1 q1
  exact ⟨vs, h1, Q, rvs, rh1, q1, kq.step s1⟩
theorem sE_biT {x : Str} {p : Pos} {T : String} {b : Bi} (hc : CallR X (.type T) (gU Γ (wBi b))) (hg : L2.Gl X x) (hm : X.mg x = none) (hv : bootBuiltins x = some (.type T)) (ha : PA X (e :: es) (gA Γ W (wA P Φ es')))
    (hn : x ≠ "__name__") (hdb : (x == ("__debug__" : Str)) = false) (he : starEach (e :: es) X.env = (false, eval e X.env) :: starEach es X.env) (hpl : (backTo pos (starEach es X.env)).any (·.1) = false) :
    PE X (.Call (.Name x p) (e :: es) [] pos) (gE Γ W (wE P Φ (.bi b es'))) := by
  refine PE.mono (L2.pe_callTy hc hg hm hv ha hn hdb he hpl) ?_
  rintro τ H Q' ⟨σ, h, Q, X', rs, rh, w, kq, kx⟩
  refine ⟨σ, h, _, X', rs, rh, w, ?_, kx⟩
  intro vs h1 xs H1 rvs rh1 s1 q1
  exact ⟨vs, h1, Q, rvs, rh1, q1, kq.step s1⟩

theorem r1 {H : LH} {v : Vl} {xs : List LV} (r : RVs Γ H [v] xs) : ∃ x, xs = [x] ∧ RV Γ H v x := by
  simp only [RVs] at r
  obtain ⟨y, ys, rfl, r1, rfl⟩ := r
  exact ⟨y, rfl, r1⟩
theorem r2 {H : LH} {v u : Vl} {xs : List LV} (r : RVs Γ H [v, u] xs) : ∃ x y, xs = [x, y] ∧ RV Γ H v x ∧ RV Γ H u y := by
  simp only [RVs] at r
  obtain ⟨y, ys, rfl, r1, y2, ys2, rfl, r2, rfl⟩ := r
  exact ⟨y, y2, rfl, r1, r2⟩
/-- a list of ours, or the script -/
theorem lst_of {h : AH} {H : LH} {a : Nat} {vs : List Vl} (hK : Γ.K = X.K) (rh : RH Γ h H) (g : isLst h a vs) : ∃ xs, L2.SqL X.K H a xs ∧ RVs Γ H vs xs := by
  rcases g with g | g
  · obtain ⟨ys, h5, r⟩ := rh a _ g
    exact ⟨ys, .of h5, r⟩
  · obtain ⟨o, ys, h5, r⟩ := rh a _ g
    exact ⟨ys, .inl (.inr ⟨o, h5⟩), r⟩
theorem ints_rv {H : LH} : ∀ {vs : List Vl} {xs : List LV} {ns : List Int}, isInts vs = some ns → RVs Γ H vs xs → xs = ns.map L2.V.int
  | [], _, ns, e, r => by simp only [RVs] at r; subst r; simp [isInts] at e; subst e; rfl
  | v :: vs, _, ns, e, r => by
    simp only [RVs] at r
    obtain ⟨y, ys, rfl, r1, r2⟩ := r
    cases v <;> simp [isInts] at e
    obtain ⟨ms, e1, rfl⟩ := e
    rw [rint r1, ints_rv e1 r2]; rfl
theorem bls_rv {H : LH} : ∀ {vs : List Vl} {xs : List LV} {ns : List Bool}, isBls vs = some ns → RVs Γ H vs xs → xs = ns.map L2.V.bl
  | [], _, ns, e, r => by simp only [RVs] at r; subst r; simp [isBls] at e; subst e; rfl
  | v :: vs, _, ns, e, r => by
    simp only [RVs] at r
    obtain ⟨y, ys, rfl, r1, r2⟩ := r
    cases v <;> simp [isBls] at e
    obtain ⟨ms, e1, rfl⟩ := e
    rw [rbl r1, bls_rv e1 r2]; rfl
theorem bAbs : CallR X (.builtin "abs") (gU Γ (wBi .abs)) := by
  intro pins s σ H xs us Q' I rxs ⟨vs, h, Q, rvs, rh, w, kq⟩
  match vs, w with
  | [.int a], w =>
    obtain ⟨x, rfl, r⟩ := r1 rvs
    refine L2.call_abs pins s σ H _ us Q' I rxs ⟨a, by rw [rint r], ?_⟩
    have e : (if a < 0 then -a else a) = (a.natAbs : Int) := by split <;> omega
    rw [e]
    exact kq _ h _ H vint rh (.refl _ _) w
theorem bMax2 (hc : X.calm = true) : CallR X (.builtin "max") (gU Γ (wBi .max2)) := by
  intro pins s σ H xs us Q' I rxs ⟨vs, h, Q, rvs, rh, w, kq⟩
  match vs, w with
  | [.int a, .int b], w =>
    obtain ⟨x, y, rfl, r, r'⟩ := r2 rvs
    exact L2.call_max2 hc pins s σ H _ us Q' I rxs ⟨a, b, by rw [rint r, rint r'], kq _ h _ H vint rh (.refl _ _) w⟩
theorem bMin2 (hc : X.calm = true) : CallR X (.builtin "min") (gU Γ (wBi .min2)) := by
  intro pins s σ H xs us Q' I rxs ⟨vs, h, Q, rvs, rh, w, kq⟩
  match vs, w with
  | [.int a, .int b], w =>
    obtain ⟨x, y, rfl, r, r'⟩ := r2 rvs
    exact L2.call_min2 hc pins s σ H _ us Q' I rxs ⟨a, b, by rw [rint r, rint r'], kq _ h _ H vint rh (.refl _ _) w⟩
theorem bLen (hK : Γ.K = X.K) : CallR X (.builtin "len") (gU Γ (wBi .len)) := by
  intro pins s σ H xs us Q' I rxs ⟨vs, h, Q, rvs, rh, w, kq⟩
  match vs, w with
  | [.str a], ⟨hl, w⟩ =>
    obtain ⟨x, rfl, r⟩ := r1 rvs
    refine L2.call_len_str pins s σ H _ us Q' I rxs ⟨sOf a, by rw [rstr r], by rw [sOf_length]; exact hl, ?_⟩
    rw [sOf_length]
    exact kq _ h _ H vint rh (.refl _ _) w
  | [.tup ws], w =>
    obtain ⟨x, rfl, r⟩ := r1 rvs
    obtain ⟨a, ys, rfl, sq, r⟩ := rtup r
    refine L2.call_len_seq pins s σ H _ us Q' I rxs ⟨a, ys, rfl, .inr (by rw [← hK]; exact sq), ?_⟩
    rw [← r.length]
    exact kq _ h _ H vint rh (.refl _ _) w
  | [.ref a], .inl ⟨ws, g, w⟩ =>
    obtain ⟨x, rfl, r⟩ := r1 rvs
    obtain ⟨ys, sq, r'⟩ := lst_of hK rh g
    refine L2.call_len_seq pins s σ H _ us Q' I rxs ⟨a, ys, by rw [rref r], .inl sq, ?_⟩
    rw [← r'.length]
    exact kq _ h _ H vint rh (.refl _ _) w
  | [.ref a], .inr (.inr ⟨kvs, g, w⟩) =>
    obtain ⟨x, rfl, r⟩ := r1 rvs
    obtain ⟨kas, h5, hk, rk⟩ := rh a _ g
    have ex := rref r
    subst ex
    match us, rxs with
    | [u], .cons ru .nil =>
      obtain rfl : u = Value.ref a := ru
      refine L2.tdI_len I h5 (hK ▸ hk) fun t s' I' => ⟨.int _, H, I', ⟨t, rfl⟩, ?_⟩
      rw [← rk.length]
      exact kq _ h _ H vint rh (.refl _ _) w
  | [.ref a], .inr (.inl ⟨kvs, g, w⟩) =>
    obtain ⟨x, rfl, r⟩ := r1 rvs
    obtain ⟨ys, h5, rk⟩ := rh a _ g
    have ex := rref r
    subst ex
    match us, rxs with
    | [u], .cons ru .nil =>
      obtain rfl : u = Value.ref a := ru
      refine L2.d_len I (.inl h5) fun t s' I' => ⟨.int _, H, I', ⟨t, rfl⟩, ?_⟩
      rw [← rk.length]
      exact kq _ h _ H vint rh (.refl _ _) w
theorem dig_text : ∀ d : Nat, d < 10 → PySem.intText? (sOf [48 + d]) = some (d : Int)
  | 0, _ => by decide +kernel
  | 1, _ => by decide +kernel
  | 2, _ => by decide +kernel
  | 3, _ => by decide +kernel
  | 4, _ => by decide +kernel
  | 5, _ => by decide +kernel
  | 6, _ => by decide +kernel
  | 7, _ => by decide +kernel
  | 8, _ => by decide +kernel
  | 9, _ => by decide +kernel
  | d + 10, h => by omega
theorem bInt1 : CallR X (.type "int") (gU Γ (wBi .int1)) := by
  intro pins s σ H xs us Q' I rxs ⟨vs, h, Q, rvs, rh, w, kq⟩
  match vs, w with
  | [.int a], w =>
    obtain ⟨x, rfl, r⟩ := r1 rvs
    exact L2.call_int1 pins s σ H _ us Q' I rxs (.inl ⟨a, by rw [rint r], kq _ h _ H vint rh (.refl _ _) w⟩)
  | [.bl a], w =>
    obtain ⟨x, rfl, r⟩ := r1 rvs
    refine L2.call_int1 pins s σ H _ us Q' I rxs (.inr ⟨a, by rw [rbl r], kq _ h _ H ?_ rh (.refl _ _) w⟩)
    simp only [RV]
  | [.str a], w =>
    obtain ⟨x, rfl, r⟩ := r1 rvs
    rcases w with ⟨d, hd, rfl, w⟩ | ⟨h0, hl, hd, w⟩
    rotate_left
    · have e : (sOf a).cps.toList = a := by simp [sOf]
      have ev : PySem.NumText.digitsVal a = decV a := rfl
      refine L2.call_int_str pins s σ H _ us Q' I rxs ⟨_, (decV a : Nat), by rw [rstr r], ?_, by rw [sOf_length]; omega, kq _ h _ H vint rh (.refl _ _) w⟩
      have := PySem.intText_digits (x := sOf a) (by rw [e]; exact hd) (by rw [e]; exact h0) (by rw [sOf_length]; omega)
      rw [this, e, ev]
    exact L2.call_int_str pins s σ H _ us Q' I rxs ⟨_, (d : Nat), by rw [rstr r], dig_text d hd, by rw [sOf_length]; simp, kq _ h _ H vint rh (.refl _ _) w⟩
theorem chars_at : ∀ {us : List Value} {cs : List Nat}, us.length = cs.length → (∀ (j : Nat) (v : Value), us[j]? = some v → ∃ c u, cs[j]? = some c ∧ v = Value.str ⟨#[c]⟩ u) → L2.Vals (cs.map fun c => L2.V.str ⟨#[c]⟩) us
  | [], [], _, _ => .nil
  | u :: us, c :: cs, hl, h => by
    obtain ⟨c', t, e1, e2⟩ := h 0 u rfl
    have e1' : c = c' := Option.some.inj e1
    subst e1'
    subst e2
    exact .cons ⟨t, rfl⟩ (chars_at (by simpa using hl) fun j v e => by
      obtain ⟨c, t, a, b⟩ := h (j + 1) v (by simpa using e)
      exact ⟨c, t, by simpa using a, b⟩)
  | [], _ :: _, hl, _ => by simp at hl
  | _ :: _, [], hl, _ => by simp at hl
theorem call_listS {X : L2.Cx} (hc : X.calm = true) : CallR X (.type "list") (fun xs H Q => ∃ cs : List Nat, xs = [.str (sOf cs)] ∧ cs.length ≤ sizeLine ∧ ∀ p, H p = none → Q (.ref p) (upd H p (.lst (cs.map fun c => .str ⟨#[c]⟩)))) := by
  intro pins s σ H xs us Q I r q
  obtain ⟨cs, rfl, hz, q⟩ := q
  obtain ⟨u, rfl, rx⟩ := L2.vals1 r
  obtain ⟨t, rfl⟩ := rx
  refine call_list_str (hn := by simpa [sOf] using hz) (I.ok.hd hc) _ t fun h' tk acc c' hk hD hacc => ?_
  have hv : L2.Vals (cs.map fun c => L2.V.str ⟨#[c]⟩) acc.toList := chars_at (by rw [Array.length_toList, hacc.1]; simp [sOf]) fun j v e => by
    obtain ⟨c, u, h1, h2⟩ := hacc.2 j v (by rw [← Array.getElem?_toList]; exact e)
    exact ⟨c, u, by simpa [sOf] using h1, h2⟩
  refine ⟨.ref s.heap.objs.size, upd H s.heap.objs.size (.lst (cs.map fun c => .str ⟨#[c]⟩)), I.laid (t' := tk) hk (Nat.le_refl _)
    (show L2.ObjOk X.prog X.w _ _ _ (.lst (cs.map fun c => .str ⟨#[c]⟩)) from ⟨by rw [List.length_map]; exact hz, acc.toList, c', hv, by rw [Array.toArray_toList]; exact hD⟩), rfl, q _ (I.hok.fresh (Nat.le_refl _))⟩
theorem rvs_chars {H : LH} : ∀ (cs : List Nat), RVs Γ H (cs.map fun c => Vl.str [c]) (cs.map fun c => .str ⟨#[c]⟩)
  | [] => by simp only [List.map_nil, RVs]
  | c :: cs => by
    simp only [List.map_cons, RVs]
    exact ⟨_, _, rfl, vstr, rvs_chars cs⟩
theorem rv_ints {H : LH} : ∀ ns : List Int, RVs Γ H (ns.map Vl.int) (ns.map L2.V.int)
  | [] => by simp only [List.map_nil, RVs]
  | n :: ns => by simp only [List.map_cons, RVs]; exact ⟨_, _, rfl, vint, rv_ints ns⟩
theorem rt_keys {H : LH} : ∀ {kvs : List (List Int × Vl)} {kas : List (List Int × Addr × LV)}, L2.TdK Γ.K H kas → RT Γ H kvs kas → RVs Γ H (kvs.map fun kv => .tup (kv.1.map Vl.int)) (kas.map fun q => L2.V.ref q.2.1)
  | [], _, _, r => by have : _ = [] := r; subst this; simp only [List.map_nil, RVs]
  | (k, v) :: kvs, _, hk, ⟨b, y, ys, e1, r1, r2⟩ => by
    subst e1
    simp only [List.map_cons, RVs]
    refine ⟨_, _, rfl, ?_, rt_keys (fun p hp => hk p (List.mem_cons_of_mem _ hp)) r2⟩
    simp only [RV]
    exact ⟨b, _, rfl, hk _ List.mem_cons_self, rv_ints k⟩
theorem bList1 (hc : X.calm = true) (hK : Γ.K = X.K) : CallR X (.type "list") (gU Γ (wBi .list1)) := by
  intro pins s σ H xs us Q' I rxs ⟨vs, h, Q, rvs, rh, w, kq⟩
  match vs, w with
  | [.ref a], .inr ⟨kvs, g, w⟩ =>
    obtain ⟨x, rfl, r⟩ := r1 rvs
    obtain ⟨kas, h5, hk, rk⟩ := rh a _ g
    exact L2.cr_listTd hc pins s σ H _ us Q' I rxs ⟨a, kas, by rw [rref r], h5, hK ▸ hk, new_ok kq rh (.refl _ _) w fun p np => ⟨_, L2.upd_same, (rt_keys hk rk).mono (.new np)⟩⟩
  | [.ref a], .inl ⟨ws, g, w⟩ =>
    obtain ⟨x, rfl, r⟩ := r1 rvs
    obtain ⟨ys, sq, r'⟩ := lst_of hK rh g
    exact L2.call_list_of pins s σ H _ us Q' I rxs ⟨a, ys, by rw [rref r], .inl sq, new_ok kq rh (.refl _ _) w fun p np => ⟨_, L2.upd_same, r'.mono (.new np)⟩⟩
  | [.tup ws], w =>
    obtain ⟨x, rfl, r⟩ := r1 rvs
    obtain ⟨a, ys, e, sq, r'⟩ := rtup r
    exact L2.call_list_of pins s σ H _ us Q' I rxs ⟨a, ys, by rw [e], .inr (by rw [← hK]; exact sq), new_ok kq rh (.refl _ _) w fun p np => ⟨_, L2.upd_same, r'.mono (.new np)⟩⟩
  | [.str cs], ⟨hz, w⟩ =>
    obtain ⟨x, rfl, r⟩ := r1 rvs
    exact call_listS hc pins s σ H _ us Q' I rxs ⟨cs, by rw [rstr r], hz, new_ok kq rh (.refl _ _) w fun p np => ⟨_, L2.upd_same, rvs_chars cs⟩⟩
theorem bTuple1 (hK : Γ.K = X.K) : CallR X (.type "tuple") (gU Γ (wBi .tuple1)) := by
  intro pins s σ H xs us Q' I rxs ⟨vs, h, Q, rvs, rh, w, kq⟩
  match vs, w with
  | [.ref a], ⟨ws, g, w⟩ =>
    obtain ⟨x, rfl, r⟩ := r1 rvs
    obtain ⟨ys, sq, r'⟩ := lst_of hK rh g
    refine L2.call_tuple_of pins s σ H _ us Q' I rxs ⟨a, ys, by rw [rref r], .inl ⟨sq, fun l hl => ?_⟩⟩
    refine kq (.tup ws) h _ _ ?_ (rh.tup hl) (.tup hl) w
    simp only [RV]
    exact ⟨l, ys, rfl, .of L2.upd_same, r'.mono (.new hl)⟩
theorem bAll (hc : X.calm = true) (hK : Γ.K = X.K) : CallR X (.builtin "all") (gU Γ (wBi .all1)) := by
  intro pins s σ H xs us Q' I rxs ⟨vs, h, Q, rvs, rh, w, kq⟩
  match vs, w with
  | [.ref a], ⟨ws, bs, g, e, w⟩ =>
    obtain ⟨x, rfl, r⟩ := r1 rvs
    obtain ⟨ys, sq, r'⟩ := lst_of hK rh g
    exact L2.cr_all hc pins s σ H _ us Q' I rxs ⟨a, bs, by rw [rref r], by rw [← bls_rv e r']; exact sq, kq _ h _ H vbl rh (.refl _ _) w⟩
theorem bAny (hc : X.calm = true) (hK : Γ.K = X.K) : CallR X (.builtin "any") (gU Γ (wBi .any1)) := by
  intro pins s σ H xs us Q' I rxs ⟨vs, h, Q, rvs, rh, w, kq⟩
  match vs, w with
  | [.ref a], ⟨ws, bs, g, e, w⟩ =>
    obtain ⟨x, rfl, r⟩ := r1 rvs
    obtain ⟨ys, sq, r'⟩ := lst_of hK rh g
    exact L2.cr_any hc pins s σ H _ us Q' I rxs ⟨a, bs, by rw [rref r], by rw [← bls_rv e r']; exact sq, kq _ h _ H vbl rh (.refl _ _) w⟩
theorem bSum (hc : X.calm = true) (hK : Γ.K = X.K) : CallR X (.builtin "sum") (gU Γ (wBi .sum1)) := by
  intro pins s σ H xs us Q' I rxs ⟨vs, h, Q, rvs, rh, w, kq⟩
  match vs, w with
  | [.ref a], ⟨ws, ns, g, e, w⟩ =>
    obtain ⟨x, rfl, r⟩ := r1 rvs
    obtain ⟨ys, sq, r'⟩ := lst_of hK rh g
    exact L2.cr_sum hc pins s σ H _ us Q' I rxs ⟨a, ns, by rw [rref r], by rw [← ints_rv e r']; exact sq, kq _ h _ H vint rh (.refl _ _) w⟩
theorem bDivmod : CallR X (.builtin "divmod") (gU Γ (wBi .divmod)) := by
  intro pins s σ H xs us Q' I rxs ⟨vs, h, Q, rvs, rh, w, kq⟩
  match vs, w with
  | [.int a, .int b], ⟨⟨h1, h2⟩, w⟩ =>
    obtain ⟨x, y, rfl, r, r'⟩ := r2 rvs
    refine L2.call_divmodW pins s σ H _ us Q' I rxs ⟨a, b, by rw [rint r, rint r'], ⟨h1, div_pylong ⟨by omega, h2⟩⟩, fun p np => ?_⟩
    refine kq _ h _ _ ?_ (rh.tup np) (.tup np) w
    simp only [RV, RVs]
    exact ⟨p, _, rfl, .of L2.upd_same, _, _, rfl, rfl, _, _, rfl, rfl, rfl⟩

/-! ### methods of built-in types: the type by the value -/
def rkT : Rk → String
  | .str => "str"
  | .lst => "list"
  | .dct => "dict"
theorem rk_ty {h : AH} {H : LH} {v : Vl} {x : LV} {k : Rk} (hK : Γ.K = X.K) (rh : RH Γ h H) (r : RV Γ H v x) (e : rkOf h v = some k) (nd : ∀ a kvs, v = .ref a → get h a ≠ some (.dtp kvs)) : L2.tyV X.K (rkT k) x H := by
  cases v with
  | str s => simp only [rkOf, Option.some.injEq] at e; subst e; rw [rstr r]; rfl
  | ref a =>
    rw [rref r]
    simp only [rkOf] at e
    cases g : get h a with
    | none => simp [g] at e
    | some o =>
      cases o with
      | lst xs =>
        simp only [g, Option.some.injEq] at e; subst e
        obtain ⟨ys, h5, _⟩ := rh a _ g
        exact .inl ⟨rfl, ys, .of h5⟩
      | dct kvs =>
        simp only [g, Option.some.injEq] at e; subst e
        obtain ⟨ys, h5, _⟩ := rh a _ g
        exact .inr (.inr (.inl ⟨rfl, .inl ⟨ys, h5⟩⟩))
      | rol _ => simp [g] at e
      | ins _ _ => simp [g] at e
      | exc _ _ => simp [g] at e
      | fdc _ => simp [g] at e
      | dtp kvs => exact absurd g (nd a kvs rfl)
  | non => simp [rkOf] at e
  | bl _ => simp [rkOf] at e
  | int _ => simp [rkOf] at e
  | tup _ => simp [rkOf] at e
  | fn _ => simp [rkOf] at e
  | gd _ => simp [rkOf] at e
theorem td_is {pins : List (Addr × Obj)} {σ : L2.St} {H : LH} {s : Shared} {a : Addr} {kas : List (List Int × Addr × LV)} (I : L2.Inv X pins σ H s) (e : H a = some (L2.TD a kas)) : s.TypeIs (.ref a) "dict" ∧ ∀ b, Value.ref a = .ref b → ∃ ob, s.heap.get? b = some ob ∧ ob.dict = none := by
  have R : L2.TdP a kas s.heap := (show L2.ObjOk X.prog X.w H s.heap a (L2.TD a kas) from I.hok a _ e).1
  obtain ⟨_, _, xs, _, o, es, ep, h1, h2, h3, _, _⟩ := R
  refine ⟨?_, fun b q => ?_⟩
  · exact ⟨o, h1, h2.1⟩
  · cases q
    exact ⟨o, h1, h2.2.1⟩
theorem rk_is {pins : List (Addr × Obj)} {σ : L2.St} {h : AH} {H : LH} {s : Shared} {v : Vl} {x : LV} {u : Value} {k : Rk} (hK : Γ.K = X.K) (I : L2.Inv X pins σ H s) (rx : L2.RelV x u) (rh : RH Γ h H) (r : RV Γ H v x) (e : rkOf h v = some k) :
    s.TypeIs u (rkT k) ∧ ∀ b, u = .ref b → ∃ ob, s.heap.get? b = some ob ∧ ob.dict = none := by
  by_cases nd : ∃ a kvs, v = .ref a ∧ get h a = some (.dtp kvs)
  · obtain ⟨a, kvs, rfl, g⟩ := nd
    obtain ⟨kas, h5, _, _⟩ := rh a _ g
    have ex := rref r
    subst ex
    obtain rfl : u = Value.ref a := rx
    simp only [rkOf, g, Option.some.injEq] at e
    subst e
    exact td_is I h5
  · exact L2.tyV_is I rx (rk_ty hK rh r e fun a kvs z g => nd ⟨a, kvs, z, g⟩)
def gM (Γ : Nm) (r : Vl → List Vl → AH → Qv → Prop) : LV → List LV → LH → L2.VK → Prop := fun x xs H Q' => ∃ v vs h Q, RV Γ H v x ∧ RVs Γ H vs xs ∧ RH Γ h H ∧ r v vs h Q ∧ KQ Γ h H Q Q'
/-- the method that a kind of receivers has by a name -/
def MtAt (X : L2.Cx) (Γ : Nm) (name : Str) (k : Rk) (m : Mt) : Prop := ∃ id, PlainAttrs (rkT k) ∧ Slot (rkT k) name id ∧ typeOf (.builtin id) = pure (.type "method_descriptor") ∧ L2.MtR X id (gM Γ (wMt k m))
theorem sE_mt {o : Expr} {o' : E} {name : Str} {apos cpos : Pos} {m : Mt} (hK : Γ.K = X.K) (hm : ∀ k, mtHas k m = true → MtAt X Γ name k m) (ho : PE X o (gE Γ W (wE P Φ o'))) (ha : PA X (e :: es) (gA Γ W (wA P Φ es')))
    (hbase : attributeBase o name X.env (eval o X.env) = eval o X.env)
    (hfew : ((backTo cpos (starEach (e :: es) X.env)).all (fun x => !x.1) && (backToKw cpos (keywordEach [] X.env)).all (fun x => x.1.isSome)
      && decide ((e :: es).length + ([] : List Keyword).length + (if ([] : List Keyword).isEmpty then 0 else 1) < 30)) = true)
    (hline : (apos.endLine == cpos.line) = true) (hs : starEach (e :: es) X.env = (false, eval e X.env) :: starEach es X.env) (hplain : (backTo cpos (starEach es X.env)).any (·.1) = false) :
    PE X (.Call (.Attribute o name apos) (e :: es) [] cpos) (gE Γ W (wE P Φ (.mt m o' es'))) := by
  refine ⟨fun pins s τ H Q' I g => ?_⟩
  obtain ⟨σ, h, Q, X', rs, rh, w, kq, kx⟩ := g
  refine wpAny_Call_method_late hbase hfew hline rfl (L2.thn (ho.run pins s τ H
    (fun x H1 => ∃ v h1 k, RV Γ H1 v x ∧ RH Γ h1 H1 ∧ Sp h H h1 H1 ∧ rkOf h1 v = some k ∧ mtHas k m = true ∧ wA P Φ es' σ h1 (fun vs h2 => wMt k m v vs h2 Q) X') I
    ⟨σ, h, _, X', rs, rh, w, fun v h1 x H1 rv rh1 s1 ⟨k, e1, e2, q1⟩ => ⟨v, h1, k, rv, rh1, s1, e1, e2, q1⟩, kx⟩) fun u s1 ⟨x, H1, I1, rx, v, h1, k, rv, rh1, sp1, e1, e2, q1⟩ => ?_)
  obtain ⟨id, pa, slot, hty, hr⟩ := hm k e2
  obtain ⟨h1', h2'⟩ := rk_is hK I1 rx rh1 rv e1
  refine ⟨rkT k, id, pa, slot, hty, h1', h2', ?_⟩
  have hA := ha.run cpos pins s1 τ H1 (fun xs H2 => gM Γ (wMt k m) x xs H2 Q') I1 ⟨σ, h1, _, X', rs.mono sp1.xt, rh1, q1, fun vs h2 xs H2 rvs rh2 s2 q2 => ⟨v, vs, h2, Q, rv.mono s2.xt, rvs, rh2, q2, kq.step (sp1.trans s2)⟩, kx.step sp1⟩
  rw [hs] at hA ⊢
  refine Calls.callWith_builtin (by show (false || (backTo cpos (starEach es X.env)).any (·.1)) = false; rw [hplain] <;> rfl) (Calls.evalArgs_plain ?_)
  exact L2.thn hA fun us s2 ⟨vs, H2, I2, r2, q2⟩ => hr pins s2 τ H2 x vs u us Q' I2 rx r2 q2
theorem sE_mt0 {o : Expr} {o' : E} {name : Str} {apos cpos : Pos} {m : Mt} (hK : Γ.K = X.K) (hm : ∀ k, mtHas k m = true → MtAt X Γ name k m) (ho : PE X o (gE Γ W (wE P Φ o')))
    (hbase : attributeBase o name X.env (eval o X.env) = eval o X.env) (hline : (apos.endLine == cpos.line) = true) :
    PE X (.Call (.Attribute o name apos) [] [] cpos) (gE Γ W (wE P Φ (.mt m o' .nil))) := by
  refine ⟨fun pins s τ H Q' I g => ?_⟩
  obtain ⟨σ, h, Q, X', rs, rh, w, kq, kx⟩ := g
  refine wpAny_Call_method0_late hbase hline (L2.thn (ho.run pins s τ H
    (fun x H1 => ∃ v h1 k, RV Γ H1 v x ∧ RH Γ h1 H1 ∧ Sp h H h1 H1 ∧ rkOf h1 v = some k ∧ mtHas k m = true ∧ wMt k m v [] h1 Q) I
    ⟨σ, h, _, X', rs, rh, w, fun v h1 x H1 rv rh1 s1 ⟨k, e1, e2, q1⟩ => ⟨v, h1, k, rv, rh1, s1, e1, e2, q1⟩, kx⟩) fun u s1 ⟨x, H1, I1, rx, v, h1, k, rv, rh1, sp1, e1, e2, q1⟩ => ?_)
  obtain ⟨id, pa, slot, hty, hr⟩ := hm k e2
  obtain ⟨h1', h2'⟩ := rk_is hK I1 rx rh1 rv e1
  exact ⟨rkT k, id, pa, slot, hty, h1', h2', Calls.callWith_builtin rfl (PySem.evalArgs_none (hr pins s1 τ H1 x [] u [] Q' I1 rx .nil ⟨v, [], h1, Q, rv, by simp only [RVs], rh1, q1, kq.step sp1⟩))⟩
theorem mut_ok {h : AH} {H : LH} {Q : Qv} {Q' : L2.VK} {a : Nat} {v : Vl} {x : LV} {o u : Ob} {w z : L2.HO} (kq : KQ Γ h H Q Q') (rh : RH Γ h H) (g : get h a = some o) (e : H a = some w) (m : Mu w) (ro : RO Γ (upd H a z) a u) (rv : RV Γ (upd H a z) v x) (q : Q v (put h a u)) : Q' x (upd H a z) :=
  kq v _ x _ rv (rh.mut e m ro) (.mut g e m) q
theorem RVs.rev {H : LH} {vs : List Vl} {xs : List LV} : RVs Γ H vs xs → RVs Γ H vs.reverse xs.reverse := by
  induction vs generalizing xs with
  | nil => intro r; simp only [RVs] at r; subst r; simp [RVs]
  | cons v vs ih =>
    intro r
    simp only [RVs] at r
    obtain ⟨y, ys, rfl, r1, r2⟩ := r
    rw [List.reverse_cons, List.reverse_cons]
    exact (ih r2).append (by simp only [RVs]; exact ⟨y, [], rfl, r1, rfl⟩)
theorem RVs.dropLast {H : LH} {vs : List Vl} {xs : List LV} (r : RVs Γ H vs xs) : RVs Γ H vs.dropLast xs.dropLast := by
  rw [List.dropLast_eq_take, List.dropLast_eq_take, r.length]
  exact r.take _
theorem mAppend : MtAt X Γ "append" .lst .append := by
  refine ⟨_, PySem.F.plainAttrs_list, PySem.F.slot_list_append, PySem.F.type_list_append, ?_⟩
  intro pins s σ H x xs v us Q' I rx rxs ⟨v', vs, h, Q, rv, rvs, rh, w, kq⟩
  match v', vs, w with
  | .ref a, [y], ⟨ws, g, hl, q⟩ =>
    obtain ⟨x', rfl, r⟩ := r1 rvs
    obtain ⟨ys, h5, r'⟩ := rh a _ g
    refine L2.mt_append pins s σ H x _ v us Q' I rx rxs ⟨a, ys, x', rref rv, rfl, h5, by rw [← r'.length]; exact hl, ?_⟩
    have xt : Xt H (upd H a (.lst (ys ++ [x']))) := .mut h5 trivial
    exact mut_ok (u := .lst _) kq rh g h5 trivial ⟨_, L2.upd_same, (r'.append rvs).mono xt⟩ vnon q
theorem mDget1 (hu : X.A.units + 1 < cLine) : MtAt X Γ "get" .dct .dget1 := by
  refine ⟨_, PySem.F.plainAttrs_dict, PySem.F.slot_dict_get, PySem.F.type_dict_get, ?_⟩
  intro pins s σ H x xs v us Q' I rx rxs ⟨v', vs, h, Q, rv, rvs, rh, w, kq⟩
  match v', vs, w with
  | .ref a, [k], ⟨kvs, ky, g, e, q⟩ =>
    simp only [RVs] at rvs
    obtain ⟨y, ys, rfl, ry, rfl⟩ := rvs
    obtain ⟨ls, h5, r⟩ := rh a _ g
    have ex := rref rv
    subst ex
    obtain rfl : v = Value.ref a := rx
    match us, rxs with
    | [u1], .cons r1 .nil =>
      rw [ky_rv e ry] at r1
      refine L2.d_get1 hu I (L2.DGet.k (k := kyL ky) h5) r1 fun w' s3 I3 rw' => ⟨_, H, I3, rw', ?_⟩
      cases hd : dget kvs ky with
      | some v0 =>
        obtain ⟨x0, e0, r0⟩ := RK.get r hd
        rw [hd] at q
        rw [e0]
        exact kq _ _ _ _ r0 rh (.refl _ _) q
      | none =>
        rw [hd] at q
        rw [RK.getN r hd]
        exact kq _ _ _ _ vnon rh (.refl _ _) q
theorem mDget2 (hu : X.A.units + 1 < cLine) : MtAt X Γ "get" .dct .dget2 := by
  refine ⟨_, PySem.F.plainAttrs_dict, PySem.F.slot_dict_get, PySem.F.type_dict_get, ?_⟩
  intro pins s σ H x xs v us Q' I rx rxs ⟨v', vs, h, Q, rv, rvs, rh, w, kq⟩
  match v', vs, w with
  | .ref a, [k, d], ⟨kvs, ky, g, e, q⟩ =>
    simp only [RVs] at rvs
    obtain ⟨y, ys, rfl, ry, z, zs, rfl, rz, rfl⟩ := rvs
    obtain ⟨ls, h5, r⟩ := rh a _ g
    have ex := rref rv
    subst ex
    obtain rfl : v = Value.ref a := rx
    match us, rxs with
    | [u1, u2], .cons r1 (.cons r2 .nil) =>
      rw [ky_rv e ry] at r1
      refine L2.d_get2 hu I (L2.DGet.k (k := kyL ky) h5) r1 r2 fun w' s3 I3 rw' => ⟨_, H, I3, rw', ?_⟩
      cases hd : dget kvs ky with
      | some v0 =>
        obtain ⟨x0, e0, r0⟩ := RK.get r hd
        rw [hd] at q
        rw [e0]
        exact kq _ _ _ _ r0 rh (.refl _ _) q
      | none =>
        rw [hd] at q
        rw [RK.getN r hd]
        exact kq _ _ _ _ rz rh (.refl _ _) q
theorem mPop0 : MtAt X Γ "pop" .lst .pop0 := by
  refine ⟨_, PySem.F.plainAttrs_list, PySem.F.slot_list_pop, PySem.F.type_list_pop, ?_⟩
  intro pins s σ H x xs v us Q' I rx rxs ⟨v', vs, h, Q, rv, rvs, rh, w, kq⟩
  match v', vs, w with
  | .ref a, [], ⟨ws, z, g, hz, q⟩ =>
    have e0 : xs = [] := by simpa only [RVs] using rvs
    subst e0
    obtain ⟨ys, h5, r'⟩ := rh a _ g
    obtain ⟨y', h6, r6⟩ := r'.get hz
    refine L2.mt_pop pins s σ H x _ v us Q' I rx rxs ⟨a, ys, y', rref rv, rfl, h5, by rw [← r'.length]; exact h6, ?_⟩
    have xt : Xt H (upd H a (.lst ys.dropLast)) := .mut h5 trivial
    exact mut_ok (u := .lst _) kq rh g h5 trivial ⟨_, L2.upd_same, r'.dropLast.mono xt⟩ (r6.mono xt) q
theorem RVs.erase {H : LH} : ∀ {vs : List Vl} {xs : List LV} (k : Nat), RVs Γ H vs xs → RVs Γ H (vs.eraseIdx k) (xs.eraseIdx k) := fun k r => by
  rw [List.eraseIdx_eq_take_drop_succ, List.eraseIdx_eq_take_drop_succ]
  exact (r.take k).append (r.drop (k + 1))
theorem mPop1 : MtAt X Γ "pop" .lst .pop1 := by
  refine ⟨_, PySem.F.plainAttrs_list, PySem.F.slot_list_pop, PySem.F.type_list_pop, ?_⟩
  intro pins s σ H x xs v us Q' I rx rxs ⟨v', vs, h, Q, rv, rvs, rh, w, kq⟩
  match v', vs, w with
  | .ref a, [.int i], ⟨ws, z, k, g, hi, hk, hz, q⟩ =>
    obtain ⟨x', rfl, r⟩ := r1 rvs
    obtain ⟨ys, h5, r'⟩ := rh a _ g
    obtain ⟨y', h6, r6⟩ := r'.get hz
    have hkl : k < ys.length := (List.getElem?_eq_some_iff.mp h6).1
    have hs : k ≤ 4611686018427387904 := Nat.le_trans hk (by decide)
    refine L2.mt_popAt pins s σ H x _ v us Q' I rx rxs ⟨a, ys, i, k, y', rref rv, by rw [rint r], h5, by omega, by omega, ?_, h6, ?_⟩
    · subst hi
      have e1 : ¬ ((k : Int) < 0) := by omega
      simp only [PySem.seqIndex?, e1, if_false, Int.toNat_natCast]
      rw [if_pos (by simp only [Bool.and_eq_true, decide_eq_true_eq]; omega)]
    have xt : Xt H (upd H a (.lst (ys.eraseIdx k))) := .mut h5 trivial
    exact mut_ok (u := .lst _) kq rh g h5 trivial ⟨_, L2.upd_same, (r'.erase k).mono xt⟩ (r6.mono xt) q
theorem mInsert : MtAt X Γ "insert" .lst .insert := by
  refine ⟨_, PySem.F.plainAttrs_list, PySem.F.slot_list_insert, PySem.F.type_list_insert, ?_⟩
  intro pins s σ H x xs v us Q' I rx rxs ⟨v', vs, h, Q, rv, rvs, rh, w, kq⟩
  match v', vs, w with
  | .ref a, [.int i, z], ⟨ws, k, g, hl, hi, hk, q⟩ =>
    obtain ⟨x1, x2, rfl, ra, rb⟩ := r2 rvs
    obtain ⟨ys, h5, r'⟩ := rh a _ g
    have hs : k ≤ 4611686018427387904 := Nat.le_trans hk (by decide)
    refine L2.mt_insert pins s σ H x _ v us Q' I rx rxs ⟨a, ys, i, x2, rref rv, by rw [rint ra], h5, by rw [← r'.length]; exact hl, by omega, by omega, ?_⟩
    have ek : i.toNat = k := by omega
    rw [ek]
    have xt : Xt H (upd H a (.lst (ys.take k ++ [x2] ++ ys.drop k))) := .mut h5 trivial
    have rr : RVs Γ H (ws.take k ++ [z] ++ ws.drop k) (ys.take k ++ [x2] ++ ys.drop k) := ((r'.take k).append (by simp only [RVs]; exact ⟨x2, [], rfl, rb, rfl⟩)).append (r'.drop k)
    exact mut_ok (u := .lst _) kq rh g h5 trivial ⟨_, L2.upd_same, rr.mono xt⟩ vnon q
theorem mExtend : MtAt X Γ "extend" .lst .extend := by
  refine ⟨_, PySem.F.plainAttrs_list, PySem.F.slot_list_extend, PySem.F.type_list_extend, ?_⟩
  intro pins s σ H x xs v us Q' I rx rxs ⟨v', vs, h, Q, rv, rvs, rh, w, kq⟩
  match v', vs, w with
  | .ref a, [.ref b], ⟨ws, zs, g, g2, hl, q⟩ =>
    obtain ⟨x', rfl, r⟩ := r1 rvs
    obtain ⟨ys, h5, r'⟩ := rh a _ g
    obtain ⟨us', h6, r6⟩ := rh b _ g2
    refine L2.mt_extend pins s σ H x _ v us Q' I rx rxs ⟨a, b, ys, us', rref rv, by rw [rref r], h5, h6, by rw [← r'.length, ← r6.length]; exact hl, ?_⟩
    have xt : Xt H (upd H a (.lst (ys ++ us'))) := .mut h5 trivial
    exact mut_ok (u := .lst _) kq rh g h5 trivial ⟨_, L2.upd_same, (r'.append r6).mono xt⟩ vnon q
theorem mReverse : MtAt X Γ "reverse" .lst .reverse := by
  refine ⟨_, PySem.F.plainAttrs_list, PySem.F.slot_list_reverse, PySem.F.type_list_reverse, ?_⟩
  intro pins s σ H x xs v us Q' I rx rxs ⟨v', vs, h, Q, rv, rvs, rh, w, kq⟩
  match v', vs, w with
  | .ref a, [], ⟨ws, g, q⟩ =>
    have e0 : xs = [] := by simpa only [RVs] using rvs
    subst e0
    obtain ⟨ys, h5, r'⟩ := rh a _ g
    refine L2.mt_reverse pins s σ H x _ v us Q' I rx rxs ⟨a, ys, rref rv, rfl, h5, ?_⟩
    have xt : Xt H (upd H a (.lst ys.reverse)) := .mut h5 trivial
    exact mut_ok (u := .lst _) kq rh g h5 trivial ⟨_, L2.upd_same, r'.rev.mono xt⟩ vnon q
theorem mClear : MtAt X Γ "clear" .lst .clear := by
  refine ⟨_, PySem.F.plainAttrs_list, PySem.F.slot_list_clear, PySem.F.type_list_clear, ?_⟩
  intro pins s σ H x xs v us Q' I rx rxs ⟨v', vs, h, Q, rv, rvs, rh, w, kq⟩
  match v', vs, w with
  | .ref a, [], ⟨ws, g, q⟩ =>
    have e0 : xs = [] := by simpa only [RVs] using rvs
    subst e0
    obtain ⟨ys, h5, r'⟩ := rh a _ g
    refine L2.mt_clear pins s σ H x _ v us Q' I rx rxs ⟨a, ys, rref rv, rfl, h5, ?_⟩
    exact mut_ok (u := .lst _) kq rh g h5 trivial ⟨[], L2.upd_same, by simp only [RVs]⟩ vnon q
end
end KN

set_option autoImplicit false
set_option linter.all false
/-! Kern, part 8: isinstance, displays of dicts, calls of defs, what is walked, targets -/
namespace KN
open PySem PySem.Spec PyProof.Rows
open L2 (PE PT PW PA PS PSs OpR CallR upd)

section
variable {X : L2.Cx} {Γ : Nm} {W : L2.WX} {P : PG} {Φ : Phi} {pos : Pos} {e : Expr} {es : List Expr} {e' es' : E}

/-! ### isinstance -/
theorem tyOf_ok {h : AH} {H : LH} {v : Vl} {x : LV} {T : String} (hK : Γ.K = X.K) (rh : RH Γ h H) (r : RV Γ H v x) (e : tyOf h v = some T) : L2.TyX X.K H x (.type T) := by
  cases v with
  | non => simp only [RV] at r; subst r; simp only [tyOf, Option.some.injEq] at e; subst e; exact .base .non
  | bl b => simp only [RV] at r; subst r; simp only [tyOf, Option.some.injEq] at e; subst e; exact .base (.bl _)
  | int b => simp only [RV] at r; subst r; simp only [tyOf, Option.some.injEq] at e; subst e; exact .base (.int _)
  | str b => simp only [RV] at r; subst r; simp only [tyOf, Option.some.injEq] at e; subst e; exact .base (.str _)
  | tup b =>
    obtain ⟨a, ys, rfl, sq, r⟩ := rtup r
    simp only [tyOf, Option.some.injEq] at e; subst e
    rw [hK] at sq
    rcases sq with (sq | ⟨o, sq⟩) | ⟨o, its, n, h1, h2, _⟩
    · exact .base (.tup sq)
    · exact .fTuple sq
    · exact .kTuple h1 h2
  | ref a =>
    rw [rref r]
    simp only [tyOf] at e
    cases g : get h a with
    | none => simp [g] at e
    | some o =>
      cases o with
      | lst xs => simp only [g, Option.some.injEq] at e; subst e; obtain ⟨ys, h5, _⟩ := rh a _ g; exact .base (.lst h5)
      | rol xs => simp only [g, Option.some.injEq] at e; subst e; obtain ⟨ob, ys, h5, _⟩ := rh a _ g; exact .base (.frz h5)
      | dct xs => simp only [g, Option.some.injEq] at e; subst e; obtain ⟨ys, h5, _⟩ := rh a _ g; exact .base (.dK h5)
      | ins _ _ => simp [g] at e
      | exc _ _ => simp [g] at e
      | fdc _ => simp [g] at e
      | dtp _ => simp [g] at e
  | fn f => simp [tyOf] at e
  | gd f => simp [tyOf] at e
/-- what a kind's class says of types -/
def tyK (T : String) (k : Kd) : Bool := match T, k with
  | "bool", .bool => true
  | "bool", .int => true
  | "int", .int => true
  | "str", .str => true
  | "tuple", .tuple => true
  | "list", .list => true
  | _, _ => false
def tyNs : List String := ["NoneType", "bool", "int", "str", "tuple", "list"]
/-- kinds that are no exceptions -/
def kdP : Kd → Bool
  | .cls _ => false
  | .valErr => false
  | _ => true
theorem isa_ty {h : AH} {sub : Nat → Nat → Bool} {v : Vl} {k : Kd} {b : Bool} (hk : kdP k = true) (e : isaK h sub v k = some b) : ∃ T, tyOf h v = some T ∧ T ∈ tyNs ∧ tyK T k = b := by
  cases v with
  | non => exact ⟨"NoneType", rfl, by simp [tyNs], by cases k <;> first | (simp [kdP] at hk; done) | (simp [isaK] at e; subst e; rfl)⟩
  | bl x => exact ⟨"bool", rfl, by simp [tyNs], by cases k <;> first | (simp [kdP] at hk; done) | (simp [isaK] at e; subst e; rfl)⟩
  | int x => exact ⟨"int", rfl, by simp [tyNs], by cases k <;> first | (simp [kdP] at hk; done) | (simp [isaK] at e; subst e; rfl)⟩
  | str x => exact ⟨"str", rfl, by simp [tyNs], by cases k <;> first | (simp [kdP] at hk; done) | (simp [isaK] at e; subst e; rfl)⟩
  | tup x => exact ⟨"tuple", rfl, by simp [tyNs], by cases k <;> first | (simp [kdP] at hk; done) | (simp [isaK] at e; subst e; rfl)⟩
  | ref a =>
    simp only [isaK] at e
    cases g : get h a with
    | none => simp [g] at e
    | some o =>
      cases o with
      | lst xs => exact ⟨"list", by simp [tyOf, g], by simp [tyNs], by cases k <;> first | (simp [kdP] at hk; done) | (simp [g] at e; subst e; rfl)⟩
      | rol xs => simp [g] at e
      | dct xs => simp [g] at e
      | ins _ _ => simp [g] at e
      | exc _ _ => cases k <;> first | (simp [kdP] at hk; done) | (simp [g] at e; done)
      | fdc _ => cases k <;> first | (simp [kdP] at hk; done) | (simp [g] at e; done)
      | dtp _ => cases k <;> first | (simp [kdP] at hk; done) | (simp [g] at e; done)
  | fn f => simp [isaK] at e
  | gd f => simp [isaK] at e
/-- the class that a kind names: its value -/
def KdOk (X : L2.Cx) (k : Kd) (cv : LV) : Prop := ∃ u, L2.ClsV cv u ∧ ∀ T ∈ tyNs, PySem.W.kitOne X.K (.type T) u = some (tyK T k)
theorem kd_plain {k : Kd} (hk : ∀ c, k ≠ .cls c) : KdOk X k (.ty (kdN k)) := by
  refine ⟨_, .ty _, fun T hT => L2.kit_ty ?_⟩
  simp only [tyNs, List.mem_cons, List.not_mem_nil, or_false] at hT
  cases k with
  | cls c => exact absurd rfl (hk c)
  | int => rcases hT with rfl | rfl | rfl | rfl | rfl | rfl <;> decide +kernel
  | bool => rcases hT with rfl | rfl | rfl | rfl | rfl | rfl <;> decide +kernel
  | str => rcases hT with rfl | rfl | rfl | rfl | rfl | rfl <;> decide +kernel
  | list => rcases hT with rfl | rfl | rfl | rfl | rfl | rfl <;> decide +kernel
  | tuple => rcases hT with rfl | rfl | rfl | rfl | rfl | rfl <;> decide +kernel
  | valErr => rcases hT with rfl | rfl | rfl | rfl | rfl | rfl <;> decide +kernel
theorem sE_isa1 {p : Pos} {c : Expr} {k : Kd} {cv : LV} (hp : kdP k = true) (hK : Γ.K = X.K) (hg : L2.Gl X "isinstance") (hm : X.mg "isinstance" = none) (hk : KdOk X k cv) (he : PE X e (gE Γ W (wE P Φ e'))) (hc : PE X c (L2.tC cv))
    (hs : starEach [e, c] X.env = (false, eval e X.env) :: starEach [c] X.env) (hs2 : starEach [c] X.env = (false, eval c X.env) :: starEach [] X.env) :
    PE X (.Call (.Name "isinstance" p) [e, c] [] pos) (gE Γ W (wE P Φ (.isa e' [k]))) := by
  refine PE.mono (L2.pe_callB L2.call_isi hg hm (by decide +kernel) (L2.pa_cons he (L2.pa_cons hc L2.pa_nil hs2) hs) (he := hs) (hpl := by rw [hs2]; rfl)) ?_
  rintro τ H Q' ⟨σ, h, Q, X', rs, rh, w, kq, kx⟩
  refine ⟨σ, h, _, X', rs, rh, w, ?_, kx⟩
  intro v h1 x H1 rv rh1 s1 ⟨b, e1, q1⟩
  obtain ⟨u, c1, c2⟩ := hk
  have e2 : isaK h1 P.sub v k = some b := by
    simp only [isaKs] at e1
    cases z : isaK h1 P.sub v k with
    | none => simp [z] at e1
    | some b' => simp [z] at e1; rw [e1]
  obtain ⟨T, t1, t2, t3⟩ := isa_ty hp e2
  exact ⟨x, cv, .type T, u, b, rfl, c1, tyOf_ok hK rh1 rv t1, by rw [c2 T t2, t3], kq _ h1 _ H1 vbl rh1 s1 q1⟩
/-- constants as an argument list -/
def tCs (cvs : List LV) : L2.TA := fun _ H Q => Q cvs H
theorem pa_cs_nil : PA X [] (tCs []) := PA.mono L2.pa_nil fun _ _ _ h => h
theorem pa_cs_cons {c : Expr} {cs : List Expr} {cv : LV} {cvs : List LV} (hc : PE X c (L2.tC cv)) (hr : PA X cs (tCs cvs)) (hs : starEach (c :: cs) X.env = (false, eval c X.env) :: starEach cs X.env) : PA X (c :: cs) (tCs (cv :: cvs)) :=
  PA.mono (L2.pa_cons hc hr hs) fun _ _ _ h => h
inductive KdsOk (X : L2.Cx) : List Kd → List LV → Prop
  | nil : KdsOk X [] []
  | cons {k : Kd} {cv : LV} {ks : List Kd} {cvs : List LV} : kdP k = true → KdOk X k cv → KdsOk X ks cvs → KdsOk X (k :: ks) (cv :: cvs)
theorem KdsOk.length {ks : List Kd} {cvs : List LV} (h : KdsOk X ks cvs) : ks.length = cvs.length := by
  induction h with
  | nil => rfl
  | cons _ _ _ ih => simp [ih]
theorem kds_any {ks : List Kd} {cvs : List LV} (hk : KdsOk X ks cvs) : ∃ us, Paired L2.ClsV cvs us ∧ ∀ T ∈ tyNs, PySem.W.kitAny X.K (.type T) us = some (ks.any (tyK T)) := by
  induction hk with
  | nil => exact ⟨[], .nil, fun T _ => rfl⟩
  | @cons k cv ks cvs hp hk hr ih =>
    obtain ⟨u, c1, c2⟩ := hk
    obtain ⟨us, p, f⟩ := ih
    refine ⟨u :: us, .cons c1 p, fun T hT => ?_⟩
    refine L2.kitAny_cons (c2 T hT) (fun e1 => ?_) (fun e1 => ?_)
    · rw [f T hT, List.any_cons, e1]; rfl
    · rw [List.any_cons, e1]; rfl
theorem KdsOk.pl {ks : List Kd} {cvs : List LV} (h : KdsOk X ks cvs) : ks.all kdP = true := by
  induction h with
  | nil => rfl
  | cons hp _ _ ih => simp [hp, ih]
theorem isaKs_any {h : AH} {sub : Nat → Nat → Bool} {v : Vl} {T : String} (ht : tyOf h v = some T) : ∀ {ks : List Kd} {b : Bool}, ks.all kdP = true → isaKs h sub v ks = some b → ks.any (tyK T) = b
  | [], b, _, e => by simp only [isaKs, Option.some.injEq] at e; exact e
  | k :: ks, b, hp, e => by
    simp only [List.all_cons, Bool.and_eq_true] at hp
    simp only [isaKs] at e
    cases z : isaK h sub v k with
    | none => simp [z] at e
    | some b1 =>
      cases z2 : isaKs h sub v ks with
      | none => simp [z, z2] at e
      | some b2 =>
        simp only [z, z2, Option.some.injEq] at e
        obtain ⟨T', t1, t2, t3⟩ := isa_ty hp.1 z
        rw [ht] at t1; cases t1
        rw [List.any_cons, t3, isaKs_any ht hp.2 z2, e]
theorem sE_isaT {p pt : Pos} {kk : Nat} {cs : List Expr} {ks : List Kd} {cvs : List LV} (hK : Γ.K = X.K) (hg : L2.Gl X "isinstance") (hm : X.mg "isinstance" = none) (hk : KdsOk X ks cvs) (hne : ks ≠ []) (hlen : ks.length ≤ 20) (he : PE X e (gE Γ W (wE P Φ e'))) (hc : PA X cs (tCs cvs))
    (hs : starEach [e, .Tuple cs kk pt] X.env = (false, eval e X.env) :: starEach [.Tuple cs kk pt] X.env) :
    PE X (.Call (.Name "isinstance" p) [e, .Tuple cs kk pt] [] pos) (gE Γ W (wE P Φ (.isa e' ks))) := by
  refine PE.mono (L2.pe_callB L2.call_isiT hg hm (by decide +kernel) (L2.pa_cons he (L2.pa_cons (L2.pe_tup hc) L2.pa_nil) hs) (he := hs) (hpl := rfl)) ?_
  rintro τ H Q' ⟨σ, h, Q, X', rs, rh, w, kq, kx⟩
  refine ⟨σ, h, _, X', rs, rh, w, ?_, kx⟩
  intro v h1 x H1 rv rh1 s1 ⟨b, e1, q1⟩
  refine ⟨by rw [← hk.length, ← sz_eq]; unfold SZ; omega, fun p np => ?_⟩
  obtain ⟨us, c1, c2⟩ := kds_any hk
  obtain ⟨T, t1, t2⟩ : ∃ T, tyOf h1 v = some T ∧ T ∈ tyNs := by
    cases ks with
    | nil => exact absurd rfl hne
    | cons k ks =>
      simp only [isaKs] at e1
      cases z : isaK h1 P.sub v k with
      | none => simp [z] at e1
      | some b1 => obtain ⟨T, t1, t2, _⟩ := isa_ty (by have := hk.pl; simp only [List.all_cons, Bool.and_eq_true] at this; exact this.1) z; exact ⟨T, t1, t2⟩
  exact ⟨x, p, cvs, .type T, us, b, rfl, L2.upd_same, c1, tyOf_ok hK (rh1.tup np) (rv.mono (.new np)) t1, by rw [c2 T t2, isaKs_any t1 hk.pl e1], kq _ h1 _ _ vbl (rh1.tup np) (s1.trans (.tup np)) q1⟩

/-! ### a display of a dict -/
theorem Sp.own {h h1 : AH} {H H2 : LH} {p : Addr} {w o : L2.HO} {u : Ob} (n : H p = none) (m : Mu w) (s : Sp h (upd H p w) h1 H2) (hp : get h p = none) : Sp h H (push h1 p u) (upd H2 p o) := by
  have hw : H2 p = some w := s.fr p w L2.upd_same hp
  refine ⟨((Xt.new n).trans s.xt).trans (.mut hw m), fun a v e na => ?_, fun a e z => ?_⟩
  · have ne : a ≠ p := L2.ne_of_none e n
    rw [L2.upd_ne ne]
    exact s.fr a v (by rw [L2.upd_ne ne]; exact e) na
  · have ne : a ≠ p := by rintro rfl; exact z n
    exact get_pushD (s.dom a e (by rw [L2.upd_ne ne]; exact z)) ne
theorem RH.own {h1 : AH} {H2 : LH} {p : Addr} {w o : L2.HO} {u : Ob} (r : RH Γ h1 H2) (hw : H2 p = some w) (m : Mu w) (hp : get h1 p = none) (ro : RO Γ (upd H2 p o) p u) : RH Γ (push h1 p u) (upd H2 p o) := fun a v e => by
  rcases get_pushS hp e with ⟨rfl, rfl⟩ | ⟨ne, e⟩
  · exact ro
  · exact (r a v e).mono (.mut hw m) fun x z => by rw [L2.upd_ne ne]; exact z
/-- keys that are written -/
def keyE : Expr → Option Ky
  | .Constant (.str s) _ _ => some (.s s.cps.toList)
  | .Constant (.int i) _ _ => some (.i i)
  | _ => none
theorem keyE_pe {k : Expr} {ky : Ky} (e : keyE k = some ky) : PE X k (L2.tC (L2.kV (kyL ky))) := by
  cases k <;> simp [keyE] at e
  rename_i c j p
  cases c <;> simp at e
  · subst e; exact L2.pe_int
  · subst e; exact L2.pe_str
inductive DPs (X : L2.Cx) (Γ : Nm) (W : L2.WX) (P : PG) (Φ : Phi) : List (Option Expr) → List Expr → List Ky → E → Prop
  | nil : DPs X Γ W P Φ [] [] [] .nil
  | cons {k v : Expr} {ky : Ky} {ks : List (Option Expr)} {vs : List Expr} {kys : List Ky} {v' vs' : E} : keyE k = some ky → PE X v (gE Γ W (wE P Φ v')) → DPs X Γ W P Φ ks vs kys vs' → DPs X Γ W P Φ (some k :: ks) (v :: vs) (ky :: kys) (.cons v' vs')
theorem dps_ok {keys : List (Option Expr)} {values : List Expr} {kys : List Ky} (d : DPs X Γ W P Φ keys values kys es') : keys.all (·.isSome) = true ∧ keys.length = values.length ∧ keys.length = kys.length ∧
    ∃ trs, L2.PPs X pos keys values trs ∧ ∀ τ H (R : List (LV × LV) → LH → Prop) σ h (Q : List Vl → AH → Prop) X', RS Γ H σ τ → RH Γ h H → wA P Φ es' σ h Q X' →
      (∀ vs h1 xs H1, RVs Γ H1 vs xs → RH Γ h1 H1 → Sp h H h1 H1 → Q vs h1 → R ((kys.map fun k => L2.kV (kyL k)).zip xs) H1) → KX Γ W h H X' → L2.tPairs trs τ H R := by
  induction d with
  | nil => exact ⟨rfl, rfl, rfl, [], L2.pps_nil, fun τ H R σ h Q X' rs rh w k kx => k [] h [] H (by simp only [RVs]) rh (.refl _ _) w⟩
  | @cons k v ky ks vs kys v' vs' e1 hv hr ih =>
    obtain ⟨i1, i2, i3, trs, i4, i5⟩ := ih
    refine ⟨by simp [i1], by simp [i2], by simp [i3], _, L2.pps_cons (keyE_pe e1) hv i4, fun τ H R σ h Q X' rs rh w k kx => ?_⟩
    refine ⟨σ, h, _, X', rs, rh, w, ?_, kx⟩
    intro v h1 x H1 rv rh1 s1 q1
    refine i5 τ H1 _ σ h1 _ X' (rs.mono s1.xt) rh1 q1 ?_ (kx.step s1)
    intro ws h2 xs H2 rvs rh2 s2 q2
    exact k (v :: ws) h2 (x :: xs) H2 (by simp only [RVs]; exact ⟨x, xs, rfl, rv.mono s2.xt, rvs⟩) rh2 (s1.trans s2) q2
theorem putK_new {kvs : List (L2.Key × LV)} {k : L2.Key} {v : LV} (h : ∀ p ∈ kvs, p.1 ≠ k) : L2.putK kvs k v = kvs ++ [(k, v)] := by
  unfold L2.putK
  rw [if_neg]
  simp only [Bool.not_eq_true, List.any_eq_false]
  intro p hp
  simpa using h p hp
theorem merge_zip : ∀ (more kvs : List (L2.Key × LV)), (∀ p ∈ kvs, ∀ q ∈ more, p.1 ≠ q.1) → (more.map (·.1)).Nodup → L2.mergeK kvs more = kvs ++ more
  | [], kvs, _, _ => by simp [L2.mergeK]
  | (k, v) :: more, kvs, h, nd => by
    have e : L2.mergeK kvs ((k, v) :: more) = L2.mergeK (L2.putK kvs k v) more := rfl
    rw [e, putK_new (fun p hp => h p hp (k, v) (by simp)), merge_zip more _ ?_ ?_]
    · simp
    · intro p hp q hq
      rcases List.mem_append.mp hp with hp | hp
      · exact h p hp q (List.mem_cons_of_mem _ hq)
      · simp at hp; subst hp
        simp only [List.map_cons, List.nodup_cons] at nd
        intro z
        exact nd.1 (List.mem_map.mpr ⟨q, hq, z.symm⟩)
    · simp only [List.map_cons, List.nodup_cons] at nd; exact nd.2
theorem RK.zip {H : LH} : ∀ {kys : List Ky} {vs : List Vl} {xs : List LV}, RVs Γ H vs xs → vs.length = kys.length → RK Γ H (kys.zip vs) ((kys.map kyL).zip xs)
  | [], vs, xs, r, l => by simp [RK]
  | k :: kys, [], xs, r, l => by simp at l
  | k :: kys, v :: vs, xs, r, l => by
    simp only [RVs] at r
    obtain ⟨y, ys, rfl, r1, r2⟩ := r
    exact ⟨y, _, rfl, r1, RK.zip r2 (by simpa using l)⟩
theorem sE_dct {keys : List (Option Expr)} {values : List Expr} {kys : List Ky} (d : DPs X Γ W P Φ keys values kys es') (h0 : keys ≠ []) (h15 : keys.length ≤ 15) : PE X (.Dict keys values pos) (gE Γ W (wE P Φ (.dct kys es'))) := by
  obtain ⟨d1, d2, d3, trs, d4, d5⟩ := dps_ok (pos := pos) d
  refine PE.mono (L2.pe_disp d4 d1 d2 h0 h15) ?_
  rintro τ H Q' ⟨σ, h, Q, X', rs, rh, w, kq, kx⟩
  intro p np
  have s0 : Sp h H h (upd H p (.dK [])) := .tup np
  have gp := rh.free np
  refine d5 τ _ _ σ h _ X' (rs.mono s0.xt) (rh.tup np) w ?_ (kx.step s0)
  intro vs h1 xs H1 rvs rh1 s1 ⟨e1, e2, e3, q1⟩
  have hw : H1 p = some (.dK []) := s1.fr p _ L2.upd_same gp
  have gp1 : get h1 p = none := s1.dom p gp (by rw [L2.upd_same]; simp)
  refine ⟨hw, (kys.map kyL).zip xs, ?_, ?_, ?_⟩
  · clear d d3 e1 e2 e3 q1 w d5 h15
    induction kys generalizing xs with
    | nil => simp
    | cons k kys ih =>
      cases xs with
      | nil => simp
      | cons x xs => simp [List.zip_map_left]
  · rw [List.length_zip, List.length_map]; omega
  · have nd : (((kys.map kyL).zip xs).map (·.1)).Nodup := by
      have l : (kys.map kyL).length ≤ xs.length := by rw [List.length_map, ← e1, rvs.length]; exact Nat.le_refl _
      rw [List.map_fst_zip l]
      exact List.pairwise_map.mpr (List.Pairwise.imp (fun h z => h (kyL_inj.mp z)) e3)
    rw [merge_zip _ [] (fun _ hp => absurd hp (by simp)) nd, List.nil_append]
    exact kq (.ref p) _ _ _ vref (rh1.own (u := .dct _) hw trivial gp1 ⟨_, L2.upd_same, (RK.zip rvs e1).mono (.mut hw trivial)⟩) (.own (w := .dK []) np trivial s1 gp) (q1 p gp1)

theorem sE_dct0 : PE X (.Dict [] [] pos) (gE Γ W (wE P Φ .dct0)) := by
  refine ⟨fun pins s τ H Q' I g => ?_⟩
  obtain ⟨σ, h, Q, X', rs, rh, w, kq, kx⟩ := g
  rcases w with q | q
  · refine L2.pe_dnewK.run pins s τ H _ I fun p np => ?_
    exact kq (.ref p) _ _ _ vref (rh.new (u := .dct []) np ⟨[], L2.upd_same, rfl⟩) (.new np) (q p (rh.free np))
  · refine L2.pe_dnewTD.run pins s τ H _ I fun p np => ?_
    exact kq (.ref p) _ _ _ vref (rh.new (u := .dtp []) np ⟨[], L2.upd_same, fun _ hp => absurd hp (by simp), rfl⟩) (.new np) (q p (rh.free np))
/-! ### calls of defs -/
/-- a def's promise, from its meaning -/
def gF (Γ : Nm) (w : List Vl → AH → Qv → (Ex → AH → Prop) → Prop) (n : Nat) : L2.Sp := fun xs H Q' E' => xs.length = n ∧ ∃ vs h Q X, RVs Γ H vs xs ∧ RH Γ h H ∧ w vs h Q X ∧ KQ Γ h H Q Q' ∧
  ∀ e h' c d H', REx Γ H' e c d → RH Γ h' H' → Sp h H h' H' → X e h' → E' c d H'
theorem sE_call {CX : L2.CXT} {k f n : Nat} {fa : Addr} {fd : FuncData} {ps : List Str} {x : Str} {p : Pos} (hX : CX = L2.CX X.prog X.w) (tk : L2.Takes X W) (F : FnG X.prog X.w X.K X.mg X.base CX k fa fd ps (gF Γ (Φ f) n)) (gd : X.A.guards = some []) (hr : L2.Room k X.A) (hg : L2.Gl X x) (hm : X.mg x = some (.ref fa))
    (hkp : PySem.W.keepIn X.K (.ref fa) = true) (hb : L2.Binds X.K fd ps []) (ha : PA X (e :: es) (gA Γ W (wA P Φ es')))
    (har : ∀ vs h Q X', Φ f vs h Q X' → vs.length = n)
    (hdb : (x == ("__debug__" : Str)) = false) (he : starEach (e :: es) X.env = (false, eval e X.env) :: starEach es X.env) (hpl : (backTo pos (starEach es X.env)).any (·.1) = false) :
    PE X (.Call (.Name x p) (e :: es) [] pos) (gE Γ W (wE P Φ (.call f es'))) := by
  subst hX
  refine PE.mono (pe_callG F gd hr hg hm hkp hb (fun σ => L2.passAt tk σ) ha hdb he hpl) ?_
  rintro τ H Q' ⟨σ, h, Q, X', rs, rh, w, kq, kx⟩
  refine ⟨σ, h, _, X', rs, rh, w, ?_, kx⟩
  intro vs h1 xs H1 rvs rh1 s1 q1
  refine ⟨?_, vs, h1, Q, _, rvs, rh1, q1, kq.step s1, ?_⟩
  · rw [← rvs.length]; exact har _ _ _ _ q1
  · intro ex h' c d H' r1 r2 r3 r4
    exact kx ex σ h' c d τ H' r1 (rs.mono (s1.trans r3).xt) r2 (s1.trans r3) r4
theorem sE_callH {CX : L2.CXT} {k f n : Nat} {fa : Addr} {fd : FuncData} {ps : List Str} {x : Str} {p : Pos} (hX : CX = L2.CX X.prog X.w) (tk : L2.Takes X W) (F : FnGH X.prog X.w X.K X.mg X.base CX k fa fd ps (gF Γ (Φ f) n)) (gd : X.A.guards = some []) (hr : L2H.RoomH k X.A) (hg : L2.Gl X x) (hm : X.mg x = some (.ref fa))
    (hkp : PySem.W.keepIn X.K (.ref fa) = true) (hb : L2.Binds X.K fd ps []) (ha : PA X (e :: es) (gA Γ W (wA P Φ es')))
    (har : ∀ vs h Q X', Φ f vs h Q X' → vs.length = n)
    (hdb : (x == ("__debug__" : Str)) = false) (he : starEach (e :: es) X.env = (false, eval e X.env) :: starEach es X.env) (hpl : (backTo pos (starEach es X.env)).any (·.1) = false) :
    PE X (.Call (.Name x p) (e :: es) [] pos) (gE Γ W (wE P Φ (.call f es'))) := by
  subst hX
  refine PE.mono (pe_callGH F gd hr hg hm hkp hb (fun σ => L2.passAt tk σ) ha hdb he hpl) ?_
  rintro τ H Q' ⟨σ, h, Q, X', rs, rh, w, kq, kx⟩
  refine ⟨σ, h, _, X', rs, rh, w, ?_, kx⟩
  intro vs h1 xs H1 rvs rh1 s1 q1
  refine ⟨?_, vs, h1, Q, _, rvs, rh1, q1, kq.step s1, ?_⟩
  · rw [← rvs.length]; exact har _ _ _ _ q1
  · intro ex h' c d H' r1 r2 r3 r4
    exact kx ex σ h' c d τ H' r1 (rs.mono (s1.trans r3).xt) r2 (s1.trans r3) r4
/-- a call of a def that a local name stands for -/
theorem sE_callv {k i : Nat} {x : Str} {p : Pos} (tk : L2.Takes X W) (fnv : ∀ f a, Γ.fa f = some a → ∃ fd ps n, PySem.W.keepIn X.K (.ref a) = true ∧ L2.Binds X.K fd ps [] ∧ FnG X.prog X.w X.K X.mg X.base (L2.CX X.prog X.w) k a fd ps (gF Γ (Φ f) n) ∧ ∀ vs h Q X', Φ f vs h Q X' → vs.length = n)
    (gd : X.A.guards = some []) (hr : L2.Room k X.A) (hN : X.N[i]? = some x) (hv : L2.Vis X.env.scope x) (ha : PA X (e :: es) (gA Γ W (wA P Φ es'))) (hdb : (x == ("__debug__" : Str)) = false) (hcd : (x == ("__classdict__" : Str)) = false)
    (he : starEach (e :: es) X.env = (false, eval e X.env) :: starEach es X.env) (hpl : (backTo pos (starEach es X.env)).any (·.1) = false) :
    PE X (.Call (.Name x p) (e :: es) [] pos) (gE Γ W (wE P Φ (.callv i es'))) := by
  refine ⟨fun pins s τ H Q' I g => ?_⟩
  obtain ⟨σ, h, Q, X', rs, rh, ⟨f, e1, w⟩, kq, kx⟩ := g
  obtain ⟨xv, t1, rv⟩ := rs.2 i _ e1
  simp only [RV] at rv
  obtain ⟨a, ea, ex⟩ := rv
  subst ex
  obtain ⟨fd, ps, n, kp, hb, F, har⟩ := fnv f a ea
  refine wpAny_Call_Name_kw ?_
  refine L2.thn ((L2.pe_var hN hv hdb hcd).run pins s τ H (fun y H1 => y = .ref a ∧ H1 = H) I ⟨_, t1, rfl, rfl⟩) fun u s1 ⟨y, H1, I1, ry, ey, eH⟩ => ?_
  subst ey eH
  obtain rfl : u = Value.ref a := ry
  refine PySem.W.callWith_K (h₀ := X.base) I1.ok.mod.kin kp (L2.thn (ha.run pos pins s1 τ H1 (fun xs H2 => gF Γ (Φ f) n xs H2 Q' (L2.WE W τ)) I1 ⟨σ, h, _, X', rs, rh, w, ?_, kx⟩) fun us s2 ⟨vs, H2, I2, r, q⟩ => ⟨I2.kIn, ?_⟩) he hpl
  · intro vs h1 xs H2 rvs rh1 s3 q1
    refine ⟨?_, vs, h1, Q, _, rvs, rh1, q1, kq.step s3, ?_⟩
    · rw [← rvs.length]; exact har _ _ _ _ q1
    · intro ex h' c d H' r1 r2 r3 r4
      exact kx ex σ h' c d τ H' r1 (rs.mono (s3.trans r3).xt) r2 (s3.trans r3) r4
  · exact run_fnG F gd hr hb (L2.passAt tk τ) I2 r q
end
end KN

set_option autoImplicit false
set_option linter.all false
/-! Kern, part 9: what is walked, targets, comprehensions, statements -/
namespace KN
open PySem PySem.Spec PyProof.Rows
open L2 (PE PT PW PA PS PSs OpR CallR upd PI PG PGs)

section
variable {X : L2.Cx} {Γ : Nm} {W : L2.WX} {P : PG} {Φ : Phi} {pos : Pos} {e : Expr} {es : List Expr} {e' es' : E}

/-! ### what is walked -/
def ItOk (Γ : Nm) (J : L2.It) (H1 : LH) (xs : List Vl) (kp : List (Nat × Ob)) : Prop := ∀ (i : Nat) (h : AH) (H : LH), Xt H1 H → RH Γ h H → keeps kp h →
  (i = xs.length → J.stop i H) ∧ ∀ x, xs[i]? = some x → J.go i H ∧ ∀ y H', J.yld i H y H' → RV Γ H' x y ∧ RH Γ h H' ∧ Sp h H h H'
def gI (Γ : Nm) (W : L2.WX) (w : St → AH → (List Vl → List (Nat × Ob) → AH → Prop) → Xv → Prop) : L2.TI := fun τ H R => ∃ σ h Q X, RS Γ H σ τ ∧ RH Γ h H ∧ w σ h Q X ∧
  (∀ xs kp h1 J H1, RH Γ h1 H1 → Sp h H h1 H1 → ItOk Γ J H1 xs kp → Q xs kp h1 → R J H1) ∧ KX Γ W h H X
theorem PI.mono {tg it : Expr} {t t' : L2.TI} (p : PI X tg it t) (m : ∀ σ H R, t' σ H R → t σ H R) : PI X tg it t' := ⟨fun pins s σ H R I h => p.run pins s σ H R I (m σ H R h)⟩
theorem PIE_of {pins : List (Addr × Obj)} {σ : LS} {tg : Expr} : True := trivial
theorem sqL_inj {K : PySem.W.Frag} {H : LH} {a : Addr} {xs ys : List LV} (h : H a = some (.lst xs)) : True := trivial
/-- a tracked list read as a list is that list, where an Inv stands; here: only what a yield says is used -/
theorem it_lst {a : Nat} {xs : List Vl} {H1 : LH} : ItOk Γ (L2.Itl X.K a) H1 xs [(a, .lst xs)] := by
  intro i h H xt rh kp
  obtain ⟨ys, h5, r⟩ := rh a _ (kp (a, .lst xs) (by simp))
  refine ⟨fun e => ⟨ys, .of h5, by rw [e, r.length]; exact Nat.le_refl _⟩, fun x hx => ?_⟩
  obtain ⟨y, h6, r6⟩ := r.get hx
  refine ⟨⟨ys, y, .of h5, h6⟩, fun y' H' ⟨e1, e2⟩ => ?_⟩
  subst e1
  have := e2 ys (.of h5)
  rw [h6] at this; cases this
  exact ⟨r6, rh, .refl _ _⟩
theorem RK.at {H : LH} {k : Ky} {v : Vl} : ∀ {kvs : List (Ky × Vl)} {xs : List (L2.Key × LV)} {i : Nat}, RK Γ H kvs xs → kvs[i]? = some (k, v) → ∃ x, xs[i]? = some (kyL k, x)
  | [], _, _, _, e => by simp at e
  | (k', v') :: kvs, _, 0, ⟨y, ys, e1, r1, r2⟩, e => by
    subst e1
    simp at e
    obtain ⟨rfl, rfl⟩ := e
    exact ⟨y, rfl⟩
  | (k', v') :: kvs, _, i + 1, ⟨y, ys, e1, r1, r2⟩, e => by
    subst e1
    obtain ⟨x, h⟩ := RK.at r2 (by simpa using e)
    exact ⟨x, by simpa using h⟩
theorem rv_key {H : LH} (k : Ky) : RV Γ H k.vl (L2.kV (kyL k)) := by cases k <;> simp only [Ky.vl, RV] <;> rfl
/-- the keys of a dict that is read only -/
theorem it_keys {a : Nat} {od : Obj} {ys : List (L2.Key × LV)} {kvs : List (Ky × Vl)} {H1 : LH} (h5 : H1 a = some (.frz od (.dK ys))) (rk : RK Γ H1 kvs ys) : ItOk Γ (L2.Itk a od ys) H1 (kvs.map fun kv => kv.1.vl) [(a, .fdc kvs)] := by
  intro i h H xt rh kp
  have h6 := xt.frz a od _ h5
  refine ⟨fun e => ⟨h6, by rw [e, List.length_map, rk.length]; exact Nat.le_refl _⟩, fun x hx => ?_⟩
  rw [List.getElem?_map] at hx
  obtain ⟨⟨k, v⟩, e1, e2⟩ := Option.map_eq_some_iff.mp hx
  obtain ⟨y, e3⟩ := rk.at e1
  have hi := (List.getElem?_eq_some_iff.mp e3).1
  refine ⟨⟨h6, hi⟩, fun y' H' ⟨f1, k', v', f2, f3⟩ => ?_⟩
  rw [e3] at f2
  cases f2
  subst f1 f3 e2
  exact ⟨rv_key k, rh, .refl _ _⟩
theorem it_tup {a : Addr} {xs : List Vl} {ys : List LV} {H1 : LH} (hs : L2.SqT X.K H1 a ys) (r : RVs Γ H1 xs ys) : ItOk Γ (L2.Itt X.K a) H1 xs [] := by
  intro i h H xt rh kp
  have hs' := sqT_mono xt hs
  have r' := r.mono xt
  refine ⟨fun e => ⟨ys, hs', by rw [e, r.length]; exact Nat.le_refl _⟩, fun x hx => ?_⟩
  obtain ⟨y, h6, r6⟩ := r'.get hx
  refine ⟨⟨ys, y, hs', h6⟩, fun y' H' ⟨e1, e2⟩ => ?_⟩
  subst e1
  have := e2 ys hs'
  rw [h6] at this; cases this
  exact ⟨r6, rh, .refl _ _⟩
theorem it_str {s : List Nat} {H1 : LH} : ItOk Γ (L2.Its (sOf s)) H1 (s.map fun c => Vl.str [c]) [] := by
  intro i h H xt rh kp
  refine ⟨fun e => ?_, fun x hx => ?_⟩
  · show (sOf s).cps.size ≤ i
    rw [e]; simp [sOf]
  · rw [List.getElem?_map] at hx
    cases e : s[i]? with
    | none => simp [e] at hx
    | some c =>
      simp [e] at hx; subst hx
      refine ⟨?_, fun y H' ⟨e1, c', e2, e3⟩ => ?_⟩
      · show i < (sOf s).cps.size
        have := (List.getElem?_eq_some_iff.mp e).1
        simpa [sOf] using this
      · subst e1
        have e4 : c' = c := by
          have : (sOf s).cps[i]? = some c := by simp [sOf, e]
          rw [this] at e2; exact (Option.some.inj e2).symm
        subst e4
        exact ⟨by rw [e3]; simp only [RV]; rfl, rh, .refl _ _⟩
theorem it_rng {lo : Int} {n : Nat} {H1 : LH} : ItOk Γ (L2.Itr lo n) H1 ((List.range n).map fun (k : Nat) => Vl.int (lo + (k : Int))) [] := by
  intro i h H xt rh kp
  refine ⟨fun e => ?_, fun x hx => ?_⟩
  · show n ≤ i
    rw [e]; simp
  · rw [List.getElem?_map] at hx
    cases e : (List.range n)[i]? with
    | none => simp [e] at hx
    | some c =>
      simp [e] at hx; subst hx
      obtain ⟨h1, h2⟩ := List.getElem?_eq_some_iff.mp e
      simp at h1 h2
      subst h2
      refine ⟨h1, fun y H' ⟨e1, e2⟩ => ?_⟩
      subst e1
      exact ⟨by rw [e2]; simp only [RV], rh, .refl _ _⟩
theorem zw_get {xs ys : List Vl} {i : Nat} {x : Vl} (h : (List.zipWith (fun a b => Vl.tup [a, b]) xs ys)[i]? = some x) : ∃ a b, xs[i]? = some a ∧ ys[i]? = some b ∧ x = .tup [a, b] := by
  rw [List.getElem?_zipWith] at h
  cases e1 : xs[i]? with
  | none => simp [e1] at h
  | some a =>
    cases e2 : ys[i]? with
    | none => simp [e1, e2] at h
    | some b => simp [e1, e2] at h; exact ⟨a, b, rfl, rfl, h.symm⟩
theorem pair_new {h : AH} {H : LH} {T : Addr} {x y : LV} {a b : Vl} (rh : RH Γ h H) (n : H T = none) (ra : RV Γ H a x) (rb : RV Γ H b y) : RV Γ (upd H T (.tup [x, y])) (.tup [a, b]) (.ref T) ∧ RH Γ h (upd H T (.tup [x, y])) ∧ Sp h H h (upd H T (.tup [x, y])) := by
  refine ⟨?_, rh.tup n, .tup n⟩
  simp only [RV, RVs]
  exact ⟨T, _, rfl, .of L2.upd_same, x, _, rfl, ra.mono (.new n), y, _, rfl, rb.mono (.new n), rfl⟩
/-- a zipped one's items -/
def ZRel (Γ : Nm) (K : PySem.W.Frag) : ZK → List Vl → List (Nat × Ob) → LH → Prop
  | .l a, xs, kp, _ => kp = [(a, .lst xs)]
  | .u a, xs, kp, H => kp = [] ∧ ∃ us, L2.SqT K H a us ∧ RVs Γ H xs us
  | .t z, xs, kp, _ => kp = [] ∧ xs = z.cps.toList.map fun c => .str [c]
theorem zk_it {K : PySem.W.Frag} {c : ZK} {xs : List Vl} {kp : List (Nat × Ob)} {H1 H : LH} {h : AH} (z : ZRel Γ K c xs kp H1) (xt : Xt H1 H) (rh : RH Γ h H) (kp' : keeps kp h) :
    c.len K H xs.length ∧ ∀ (i : Nat) (v : Vl) (x : LV), xs[i]? = some v → c.at K H i x → RV Γ H v x := by
  cases c with
  | l a =>
    obtain rfl : kp = [(a, .lst xs)] := z
    obtain ⟨us, h5, r⟩ := rh a _ (kp' (a, .lst xs) (by simp))
    refine ⟨⟨us, .of h5, r.length⟩, fun i v x e w => ?_⟩
    obtain ⟨u, e3, ru⟩ := r.get e
    have g1 := w us (.of h5)
    rw [e3] at g1; cases g1
    exact ru
  | u a =>
    obtain ⟨_, us, h5, r⟩ := z
    have h5 := sqT_mono xt h5
    have r := r.mono xt
    refine ⟨⟨us, h5, r.length⟩, fun i v x e w => ?_⟩
    obtain ⟨u, e3, ru⟩ := r.get e
    have g1 := w us h5
    rw [e3] at g1; cases g1
    exact ru
  | t z' =>
    obtain ⟨_, rfl⟩ := z
    refine ⟨by show _ = _; simp, fun i v x e ⟨c, e1, e2⟩ => ?_⟩
    rw [List.getElem?_map] at e
    rw [show z'.cps.toList[i]? = some c by simpa using e1] at e
    simp at e
    subst e e2
    simp only [RV]; rfl
theorem it_zc {K : PySem.W.Frag} {c d : ZK} {xs ys : List Vl} {k1 k2 : List (Nat × Ob)} {H1 : LH} (z1 : ZRel Γ K c xs k1 H1) (z2 : ZRel Γ K d ys k2 H1) : ItOk Γ (Jz K c d) H1 (List.zipWith (fun a b => Vl.tup [a, b]) xs ys) (k1 ++ k2) := by
  intro i h H xt rh kp
  obtain ⟨l1, a1⟩ := zk_it z1 xt rh fun p hp => kp p (by simp [hp])
  obtain ⟨l2, a2⟩ := zk_it z2 xt rh fun p hp => kp p (by simp [hp])
  refine ⟨fun e => ⟨_, _, l1, l2, by rw [e, List.length_zipWith]⟩, fun x hx => ?_⟩
  obtain ⟨a, b, e1, e2, rfl⟩ := zw_get hx
  have q1 := (List.getElem?_eq_some_iff.mp e1).1
  have q2 := (List.getElem?_eq_some_iff.mp e2).1
  refine ⟨⟨_, _, l1, l2, by omega⟩, fun y H' ⟨T, x', y', f1, f2, f3, f4, f5⟩ => ?_⟩
  subst f1 f3
  exact pair_new rh f2 (a1 i a x' e1 f4) (a2 i b y' e2 f5)
theorem zw3_get {xs ys zs : List Vl} {i : Nat} {x : Vl} (h : (zip3W xs ys zs)[i]? = some x) : ∃ a b c, xs[i]? = some a ∧ ys[i]? = some b ∧ zs[i]? = some c ∧ x = .tup [a, b, c] := by
  unfold zip3W at h
  rw [List.getElem?_zipWith] at h
  cases e1 : xs[i]? with
  | none => simp [e1] at h
  | some a =>
    cases e2 : (ys.zip zs)[i]? with
    | none => simp [e1, e2] at h
    | some b =>
      simp [e1, e2] at h
      obtain ⟨b1, b2⟩ := b
      rw [List.getElem?_zip_eq_some] at e2
      exact ⟨a, b1, b2, rfl, e2.1, e2.2, h.symm⟩
theorem trip_new {h : AH} {H : LH} {T : Addr} {x y z : LV} {a b c : Vl} (rh : RH Γ h H) (n : H T = none) (ra : RV Γ H a x) (rb : RV Γ H b y) (rc : RV Γ H c z) : RV Γ (upd H T (.tup [x, y, z])) (.tup [a, b, c]) (.ref T) ∧ RH Γ h (upd H T (.tup [x, y, z])) ∧ Sp h H h (upd H T (.tup [x, y, z])) := by
  refine ⟨?_, rh.tup n, .tup n⟩
  simp only [RV, RVs]
  exact ⟨T, _, rfl, .of L2.upd_same, x, _, rfl, ra.mono (.new n), y, _, rfl, rb.mono (.new n), z, _, rfl, rc.mono (.new n), rfl⟩
theorem it_zc3 {K : PySem.W.Frag} {c d e : ZK} {xs ys zs : List Vl} {k1 k2 k3 : List (Nat × Ob)} {H1 : LH} (z1 : ZRel Γ K c xs k1 H1) (z2 : ZRel Γ K d ys k2 H1) (z3 : ZRel Γ K e zs k3 H1) : ItOk Γ (Jz3 K c d e) H1 (zip3W xs ys zs) (k1 ++ (k2 ++ k3)) := by
  intro i h H xt rh kp
  obtain ⟨l1, a1⟩ := zk_it z1 xt rh fun p hp => kp p (by simp [hp])
  obtain ⟨l2, a2⟩ := zk_it z2 xt rh fun p hp => kp p (by simp [hp])
  obtain ⟨l3, a3⟩ := zk_it z3 xt rh fun p hp => kp p (by simp [hp])
  refine ⟨fun e => ⟨_, _, _, l1, l2, l3, by rw [e]; unfold zip3W; rw [List.length_zipWith, List.length_zip]; omega⟩, fun x hx => ?_⟩
  obtain ⟨a, b, c', e1, e2, e3, rfl⟩ := zw3_get hx
  have q1 := (List.getElem?_eq_some_iff.mp e1).1
  have q2 := (List.getElem?_eq_some_iff.mp e2).1
  have q3 := (List.getElem?_eq_some_iff.mp e3).1
  refine ⟨⟨_, _, _, l1, l2, l3, by omega⟩, fun y H' ⟨T, x', y', z', f1, f2, f3, f4, f5, f6⟩ => ?_⟩
  subst f1 f3
  exact trip_new rh f2 (a1 i a x' e1 f4) (a2 i b y' e2 f5) (a3 i c' z' e3 f6)
theorem zcs_zk {h : AH} {H : LH} {v : Vl} {x : LV} {xs : List Vl} {kp : List (Nat × Ob)} (hK : Γ.K = X.K) (z : zcs h v xs kp) (rv : RV Γ H v x) (rh : RH Γ h H) : ∃ (c : ZK) (n : Nat), x = c.v ∧ c.len X.K H n ∧ ZRel Γ X.K c xs kp H := by
  cases v with
  | non => exact z.elim
  | bl _ => exact z.elim
  | int _ => exact z.elim
  | fn _ => exact z.elim
  | gd _ => exact z.elim
  | ref a =>
    obtain ⟨g, rfl⟩ := z
    obtain ⟨us, h5, r⟩ := rh a _ g
    exact ⟨.l a, _, rref rv, ⟨us, .of h5, rfl⟩, rfl⟩
  | tup ys =>
    obtain ⟨rfl, rfl⟩ := z
    obtain ⟨a, us, e, sq, r⟩ := rtup rv
    rw [hK] at sq
    exact ⟨.u a, _, e, ⟨us, sq, rfl⟩, rfl, us, sq, r⟩
  | str s =>
    obtain ⟨rfl, rfl⟩ := z
    exact ⟨.t (sOf s), _, rstr rv, rfl, rfl, by simp [sOf]⟩
theorem it_enum {p : Nat} {xs : List Vl} {H1 : LH} : ItOk Γ (L2.Ite X.K p) H1 (xs.mapIdx fun i a => Vl.tup [.int (i : Int), a]) [(p, .lst xs)] := by
  intro i h H xt rh kp
  obtain ⟨us, h5, r⟩ := rh p _ (kp (p, .lst xs) (by simp))
  refine ⟨fun e => ⟨us, .of h5, ?_⟩, fun x hx => ?_⟩
  · rw [← r.length, e, List.length_mapIdx]; omega
  · rw [List.getElem?_mapIdx] at hx
    cases e1 : xs[i]? with
    | none => simp [e1] at hx
    | some a =>
      simp [e1] at hx; subst hx
      obtain ⟨u, e3, ru⟩ := r.get e1
      refine ⟨⟨us, u, .of h5, e3⟩, fun y H' ⟨T, x', f1, f2, f3, f4⟩ => ?_⟩
      subst f1 f3
      have g1 := f4 us (.of h5); rw [e3] at g1; cases g1
      exact pair_new rh f2 (by simp only [RV]) ru
theorem it_enumS {t : List Nat} {H1 : LH} : ItOk Γ (Ites (sOf t)) H1 (t.mapIdx fun i c => Vl.tup [.int (i : Int), .str [c]]) [] := by
  intro i h H xt rh kp
  refine ⟨fun e => ?_, fun x hx => ?_⟩
  · show i = (sOf t).cps.size
    rw [e, List.length_mapIdx]; simp [sOf]
  · rw [List.getElem?_mapIdx] at hx
    cases e1 : t[i]? with
    | none => simp [e1] at hx
    | some c =>
      simp [e1] at hx; subst hx
      have e2 : (sOf t).cps[i]? = some c := by simpa [sOf] using e1
      refine ⟨by show i < (sOf t).cps.size; exact (Array.getElem?_eq_some_iff.mp e2).1, fun y H' ⟨T, c', f1, f2, f3, f4⟩ => ?_⟩
      subst f1 f3
      rw [e2] at f4; cases f4
      exact pair_new rh f2 (by simp only [RV]) vstr
theorem it_rev {p : Nat} {xs : List Vl} {us : List LV} {H1 : LH} (h0 : H1 p = some (.lst us)) (r0 : RVs Γ H1 xs us) : ItOk Γ (L2.Itv X.K p us.length) H1 xs.reverse [(p, .lst xs)] := by
  intro i h H xt rh kp
  obtain ⟨ws, h5, r⟩ := rh p _ (kp (p, .lst xs) (by simp))
  have l : us.length = ws.length := by rw [← r.length, ← r0.length]
  refine ⟨fun e => ?_, fun x hx => ?_⟩
  · show us.length ≤ i
    rw [e, List.length_reverse, ← r0.length]; exact Nat.le_refl _
  · have hi : i < xs.length := by simpa using (List.getElem?_eq_some_iff.mp hx).1
    rw [List.getElem?_reverse hi] at hx
    obtain ⟨u, e3, ru⟩ := r.get hx
    have l2 := r0.length
    rw [l2] at e3
    refine ⟨⟨by rw [← l2]; exact hi, ws, u, .of h5, e3⟩, fun y H' ⟨f1, f2⟩ => ?_⟩
    subst f1
    have g1 := f2 ws (.of h5); rw [e3] at g1; cases g1
    exact ⟨ru, rh, .refl _ _⟩

/-- a sequence: a list, a tuple, a text -/
theorem sI_seq {tg : Expr} (hK : Γ.K = X.K) (he : PE X e (gE Γ W (wE P Φ e'))) : PI X tg e (gI Γ W (wI P Φ (.iseq e'))) := by
  have key : PI X tg e (fun σ H R => gE Γ W (wE P Φ e') σ H fun x H1 => (∃ a xs, x = .ref a ∧ L2.SqL X.K H1 a xs ∧ R (L2.Itl X.K a) H1) ∨ (∃ a xs, x = .ref a ∧ L2.SqT X.K H1 a xs ∧ R (L2.Itt X.K a) H1) ∨ (∃ s, x = .str s ∧ R (L2.Its s) H1) ∨ ∃ d o ys, x = .ref d ∧ H1 d = some (.frz o (.dK ys)) ∧ R (L2.Itk d o ys) H1) := by
    refine ⟨fun pins s σ H R I h => ?_⟩
    refine L2.thn (he.run pins s σ H _ I h) fun v s1 ⟨x, H1, I1, r1, q1⟩ => ?_
    rcases q1 with ⟨a, xs, ex, hq, q⟩ | ⟨a, xs, ex, hq, q⟩ | ⟨t, ex, q⟩ | ⟨d, o, ys, ex, hd, q⟩
    · subst ex; cases r1
      obtain ⟨its, rv, pl, _⟩ := I1.list hq
      exact wpAny_pyIter_list pl.isList (L2.pi_one (tk := s1.toks) I1 _ (L2.turn_list a _) ⟨_, Heap.get?_push_size _ rfl, rfl, rfl⟩ q)
    · subst ex; cases r1
      obtain ⟨its, rv, pl, _⟩ := I1.tuple hq
      exact wpAny_pyIter_tuple (show s1.heap.IsTuple a its.toArray from pl) (L2.pi_one (tk := s1.toks) I1 _ (L2.turn_tuple a _) ⟨_, Heap.get?_push_size _ rfl, rfl, rfl⟩ q)
    · subst ex
      obtain ⟨tk, rfl⟩ := r1
      by_cases ha : t.cps.all (· < 128) = true
      · exact wpAny_pyIter_ascii ha (L2.pi_one (tk := s1.toks) I1 _ (L2.turn_str _ t tk "str_ascii_iterator" (Or.inl rfl)) ⟨_, Heap.get?_push_size _ rfl, rfl, rfl⟩ q)
      · exact wpAny_pyIter_wide (by simpa using ha) (L2.pi_one (tk := s1.toks) I1 _ (L2.turn_str _ t tk "str_iterator" (Or.inr rfl)) ⟨_, Heap.get?_push_size _ rfl, rfl, rfl⟩ q)
    · subst ex
      obtain rfl : v = Value.ref d := r1
      obtain ⟨hs, hgd, hx, es, ep, vs, hdt, hsz, kv, hm⟩ := I1.frzK hd
      refine L2.iter_keys hs hgd hx hdt (L2.pi_one (tk := s1.toks) I1 _ (L2.turn_keys _ hdt) ⟨_, Heap.get?_push_size _ rfl, rfl, ?_⟩ q)
      rw [hsz] <;> rfl
  refine PI.mono key ?_
  rintro τ H R ⟨σ, h, Q, X', rs, rh, w, kq, kx⟩
  refine ⟨σ, h, _, X', rs, rh, w, ?_, kx⟩
  intro v h1 x H1 rv rh1 s1 q1
  rcases q1 with ⟨xs, ex, q⟩ | ⟨s, ex, hl, q⟩ | ⟨a, xs, ex, g, q⟩ | ⟨a, kvs, ex, g, q⟩
  · subst ex
    obtain ⟨a, ys, rfl, sq, r⟩ := rtup rv
    rw [hK] at sq
    exact .inr (.inl ⟨a, ys, rfl, sq, kq _ _ h1 _ H1 rh1 s1 (it_tup sq r) q⟩)
  · subst ex
    exact .inr (.inr (.inl ⟨sOf s, rstr rv, kq _ _ h1 _ H1 rh1 s1 it_str q⟩))
  · subst ex
    obtain ⟨ys, h5, r⟩ := rh1 a _ g
    exact .inl ⟨a, ys, rref rv, .of h5, kq _ _ h1 _ H1 rh1 s1 it_lst q⟩
  · subst ex
    obtain ⟨o, ys, h5, r⟩ := rh1 a _ g
    exact .inr (.inr (.inr ⟨a, o, ys, rref rv, h5, kq _ _ h1 _ H1 rh1 s1 (it_keys h5 r) q⟩))
theorem sI_rng1 {tg a : Expr} {a' : E} {p : Pos} (hg : L2.Gl X "range") (hm : X.mg "range" = none) (ha : PE X a (gE Γ W (wE P Φ a'))) (hs : starEach [a] X.env = (false, eval a X.env) :: starEach [] X.env) :
    PI X tg (.Call (.Name "range" p) [a] [] pos) (gI Γ W (wI P Φ (.irng (.int 0) a'))) := by
  refine PI.mono (L2.pi_range1 hg hm (L2.pa_cons ha L2.pa_nil hs) hs) ?_
  rintro τ H R ⟨σ, h, Q, X', rs, rh, w, kq, kx⟩
  refine ⟨σ, h, _, X', rs, rh, w, ?_, kx⟩
  intro v h1 x H1 rv rh1 s1 ⟨i, j, e1, e2, ⟨_, _, b3, b4⟩, q⟩
  cases e1
  subst e2
  refine ⟨j, by rw [rint rv], by omega, by omega, ?_⟩
  have z := kq _ _ h1 (L2.Itr 0 (j - 0).toNat) H1 rh1 s1 it_rng q
  rw [Int.sub_zero] at z
  exact z
theorem sI_rng2 {tg a b : Expr} {a' b' : E} {p : Pos} (hg : L2.Gl X "range") (hm : X.mg "range" = none) (ha : PE X a (gE Γ W (wE P Φ a'))) (hb : PE X b (gE Γ W (wE P Φ b')))
    (hs : starEach [a, b] X.env = (false, eval a X.env) :: starEach [b] X.env) (hs2 : starEach [b] X.env = (false, eval b X.env) :: starEach [] X.env) :
    PI X tg (.Call (.Name "range" p) [a, b] [] pos) (gI Γ W (wI P Φ (.irng a' b'))) := by
  refine PI.mono (L2.pi_range2 hg hm (L2.pa_cons ha (L2.pa_cons hb L2.pa_nil hs2) hs) (by rw [hs, hs2]; rfl) hs2) ?_
  rintro τ H R ⟨σ, h, Q, X', rs, rh, w, kq, kx⟩
  refine ⟨σ, h, _, X', rs, rh, w, ?_, kx⟩
  intro v h1 x H1 rv rh1 s1 q1
  refine ⟨σ, h1, _, X', rs.mono s1.xt, rh1, q1, ?_, kx.step s1⟩
  intro u h2 y H2 ru rh2 s2 ⟨i, j, e1, e2, ⟨b1, b2, b3, b4⟩, q⟩
  subst e1 e2
  exact ⟨i, j, by rw [rint rv, rint ru], ⟨by omega, by omega, by omega, by omega⟩, kq _ _ h2 _ H2 rh2 (s1.trans s2) it_rng q⟩
theorem sI_zip {a b : Expr} {a' b' : E} {p tpos : Pos} {elts : List Expr} {kk : Nat} (hK : Γ.K = X.K) (hg : L2.Gl X "zip") (hm : X.mg "zip" = none) (ha : PE X a (gE Γ W (wE P Φ a'))) (hb : PE X b (gE Γ W (wE P Φ b')))
    (hs : starEach [a, b] X.env = (false, eval a X.env) :: starEach [b] X.env) (hs2 : starEach [b] X.env = (false, eval b X.env) :: starEach [] X.env) :
    PI X (.Tuple elts kk tpos) (.Call (.Name "zip" p) [a, b] [] pos) (gI Γ W (wI P Φ (.izip a' b'))) := by
  refine PI.mono (pi_zc hg hm (L2.pa_cons ha (L2.pa_cons hb L2.pa_nil hs2) hs) hs (by rw [hs2]; rfl)) ?_
  rintro τ H R ⟨σ, h, Q, X', rs, rh, w, kq, kx⟩
  refine ⟨σ, h, _, X', rs, rh, w, ?_, kx⟩
  intro v h1 x H1 rv rh1 s1 q1
  refine ⟨σ, h1, _, X', rs.mono s1.xt, rh1, q1, ?_, kx.step s1⟩
  rintro u h2 y H2 ru rh2 s2 ⟨xs, ys, k1, k2, z1, z2, q⟩
  obtain ⟨c, n, e1, l1, r1⟩ := zcs_zk hK z1 (rv.mono s2.xt) rh2
  obtain ⟨d, m, e2, l2, r2⟩ := zcs_zk hK z2 ru rh2
  exact ⟨c, d, n, m, by rw [e1, e2], l1, l2, kq _ _ h2 _ H2 rh2 (s1.trans s2) (it_zc r1 r2) q⟩
theorem sI_zip3 {a b d : Expr} {a' b' d' : E} {p tpos : Pos} {elts : List Expr} {kk : Nat} (hK : Γ.K = X.K) (hg : L2.Gl X "zip") (hm : X.mg "zip" = none) (ha : PE X a (gE Γ W (wE P Φ a'))) (hb : PE X b (gE Γ W (wE P Φ b'))) (hd : PE X d (gE Γ W (wE P Φ d')))
    (hs : starEach [a, b, d] X.env = (false, eval a X.env) :: starEach [b, d] X.env) (hs2 : starEach [b, d] X.env = (false, eval b X.env) :: starEach [d] X.env) (hs3 : starEach [d] X.env = (false, eval d X.env) :: starEach [] X.env) :
    PI X (.Tuple elts kk tpos) (.Call (.Name "zip" p) [a, b, d] [] pos) (gI Γ W (wI P Φ (.izip3 a' b' d'))) := by
  refine PI.mono (pi_zc3 hg hm (L2.pa_cons ha (L2.pa_cons hb (L2.pa_cons hd L2.pa_nil hs3) hs2) hs) hs (by rw [hs2, hs3]; rfl)) ?_
  rintro τ H R ⟨σ, h, Q, X', rs, rh, w, kq, kx⟩
  refine ⟨σ, h, _, X', rs, rh, w, ?_, kx⟩
  intro v h1 x H1 rv rh1 s1 q1
  refine ⟨σ, h1, _, X', rs.mono s1.xt, rh1, q1, ?_, kx.step s1⟩
  intro u h2 y H2 ru rh2 s2 q2
  refine ⟨σ, h2, _, X', (rs.mono s1.xt).mono s2.xt, rh2, q2, ?_, (kx.step s1).step s2⟩
  rintro t h3 z H3 rt rh3 s3 ⟨xs, ys, zs, k1, k2, k3, z1, z2, z3, q⟩
  obtain ⟨c, n, e1, l1, r1⟩ := zcs_zk hK z1 ((rv.mono s2.xt).mono s3.xt) rh3
  obtain ⟨d, m, e2, l2, r2⟩ := zcs_zk hK z2 (ru.mono s3.xt) rh3
  obtain ⟨f, k, e3, l3, r3⟩ := zcs_zk hK z3 rt rh3
  exact ⟨c, d, f, n, m, k, by rw [e1, e2, e3], l1, l2, l3, kq _ _ h3 _ H3 rh3 ((s1.trans s2).trans s3) (it_zc3 r1 r2 r3) q⟩
theorem sI_enum {a : Expr} {a' : E} {p tpos : Pos} {elts : List Expr} {kk : Nat} (hg : L2.Gl X "enumerate") (hm : X.mg "enumerate" = none) (ha : PE X a (gE Γ W (wE P Φ a'))) (hs : starEach [a] X.env = (false, eval a X.env) :: starEach [] X.env) :
    PI X (.Tuple elts kk tpos) (.Call (.Name "enumerate" p) [a] [] pos) (gI Γ W (wI P Φ (.ienum a'))) := by
  refine PI.mono (pi_enumA hg hm (L2.pa_cons ha L2.pa_nil hs) hs) ?_
  rintro τ H R ⟨σ, h, Q, X', rs, rh, w, kq, kx⟩
  refine ⟨σ, h, _, X', rs, rh, w, ?_, kx⟩
  intro v h1 x H1 rv rh1 s1 q
  rcases q with ⟨p', xs, e1, g, q⟩ | ⟨t, e1, q⟩
  · subst e1
    obtain ⟨us, h5, _⟩ := rh1 p' _ g
    exact .inl ⟨p', us, by rw [rref rv], .of h5, kq _ _ h1 _ H1 rh1 s1 it_enum q⟩
  · subst e1
    exact .inr ⟨sOf t, by rw [rstr rv], kq _ _ h1 _ H1 rh1 s1 it_enumS q⟩
theorem sI_rev {tg a : Expr} {a' : E} {p : Pos} (hg : L2.Gl X "reversed") (hm : X.mg "reversed" = none) (ha : PE X a (gE Γ W (wE P Φ a'))) (hs : starEach [a] X.env = (false, eval a X.env) :: starEach [] X.env) :
    PI X tg (.Call (.Name "reversed" p) [a] [] pos) (gI Γ W (wI P Φ (.irev a'))) := by
  refine PI.mono (L2.pi_reversed hg hm (L2.pa_cons ha L2.pa_nil hs) hs) ?_
  rintro τ H R ⟨σ, h, Q, X', rs, rh, w, kq, kx⟩
  refine ⟨σ, h, _, X', rs, rh, w, ?_, kx⟩
  intro v h1 x H1 rv rh1 s1 ⟨p', xs, e1, g, q⟩
  subst e1
  obtain ⟨us, h5, r⟩ := rh1 p' _ g
  exact ⟨p', us, by rw [rref rv], .of h5, kq _ _ h1 _ H1 rh1 s1 (it_rev h5 r) q⟩

/-! ### targets -/
/-- the slots that a target stores to -/
def gsl : E → List Nat
  | .var i => [i]
  | .tup es => gsl es
  | .cons g gs => gsl g ++ gsl gs
  | _ => []
/-- the slots but these as they were -/
def Slo (sl : List Nat) (τ τ' : LS) : Prop := τ'.length = τ.length ∧ ∀ j, j ∉ sl → τ'[j]? = τ[j]?
theorem Slo.refl (sl : List Nat) (τ : LS) : Slo sl τ τ := ⟨rfl, fun _ _ => rfl⟩
theorem Slo.trans {sl sl' : List Nat} {τ τ1 τ2 : LS} (a : Slo sl τ τ1) (b : Slo sl' τ1 τ2) : Slo (sl ++ sl') τ τ2 := ⟨b.1.trans a.1, fun j h => (b.2 j fun z => h (List.mem_append_right _ z)).trans (a.2 j fun z => h (List.mem_append_left _ z))⟩
def KG (Γ : Nm) (h : AH) (H : LH) (sl : List Nat) (τ0 : LS) (Q : St → AH → Prop) (Q' : LS → LH → Prop) : Prop := ∀ σ h' τ H', RS Γ H' σ τ → RH Γ h' H' → Sp h H h' H' → Slo sl τ0 τ → Q σ h' → Q' τ H'
def gG (Γ : Nm) (W : L2.WX) (sl : List Nat) (w : Vl → St → AH → (St → AH → Prop) → Xv → Prop) : L2.TG := fun x τ H Q' => ∃ v σ h Q X, RV Γ H v x ∧ RS Γ H σ τ ∧ RH Γ h H ∧ w v σ h Q X ∧ KG Γ h H sl τ Q Q' ∧ KX Γ W h H X
def gGs (Γ : Nm) (W : L2.WX) (sl : List Nat) (w : List Vl → St → AH → (St → AH → Prop) → Xv → Prop) : L2.TGs := fun xs τ H Q' => ∃ vs σ h Q X, RVs Γ H vs xs ∧ RS Γ H σ τ ∧ RH Γ h H ∧ w vs σ h Q X ∧ KG Γ h H sl τ Q Q' ∧ KX Γ W h H X
theorem PG.mono {tg : Expr} {t t' : L2.TG} (p : L2.PG X tg t) (m : ∀ v σ H Q, t' v σ H Q → t v σ H Q) : L2.PG X tg t' := ⟨fun pins s σ H v u Q I r h => p.run pins s σ H v u Q I r (m v σ H Q h)⟩
theorem PGs.mono {tg : List Expr} {t t' : L2.TGs} (p : L2.PGs X tg t) (m : ∀ v σ H Q, t' v σ H Q → t v σ H Q) : L2.PGs X tg t' := ⟨fun pins s σ H v u Q I r h => p.run pins s σ H v u Q I r (m v σ H Q h)⟩
theorem sG_var {i : Nat} {x : Str} (hN : X.N.Nodup) (hi : X.N[i]? = some x) (hx : L2.Loc X.env.scope x) (hf : X.fn x = true ∨ X.env.scope.names.lookup x = some .local) : L2.PG X (.Name x pos) (gG Γ W [i] (wG P Φ (.var i))) := by
  refine PG.mono (L2.pg_name hN hi hx hf) ?_
  rintro x τ H Q' ⟨v, σ, h, Q, X', rv, rs, rh, w, kq, kx⟩
  refine kq _ h _ H (rs.set rv i) rh (.refl _ _) ⟨by simp, fun j hj => ?_⟩ w
  rw [List.getElem?_set_ne]
  intro e; exact hj (by simp [e])
theorem sGs_nil : L2.PGs X [] (gGs Γ W [] (wGs P Φ .nil)) := by
  refine PGs.mono L2.pgs_nil ?_
  rintro x τ H Q' ⟨v, σ, h, Q, X', rv, rs, rh, ⟨e, w⟩, kq, kx⟩
  subst e
  exact ⟨by simpa only [RVs] using rv, kq _ h _ H rs rh (.refl _ _) (.refl _ _) w⟩
theorem sGs_cons {g : Expr} {gs : List Expr} {g' gs' : E} {sl sl' : List Nat} (h1 : L2.PG X g (gG Γ W sl (wG P Φ g'))) (h2 : L2.PGs X gs (gGs Γ W sl' (wGs P Φ gs'))) (hs : (assignEach (g :: gs) X.env).map (·.2) = assign g X.env :: (assignEach gs X.env).map (·.2)) :
    L2.PGs X (g :: gs) (gGs Γ W (sl ++ sl') (wGs P Φ (.cons g' gs'))) := by
  refine PGs.mono (L2.pgs_cons h1 h2 hs) ?_
  rintro xs τ H Q' ⟨vs, σ, h, Q, X', rv, rs, rh, ⟨v, r, e, w⟩, kq, kx⟩
  subst e
  simp only [RVs] at rv
  obtain ⟨y, ys, rfl, r1, r2⟩ := rv
  refine ⟨y, ys, rfl, v, σ, h, _, X', r1, rs, rh, w, ?_, kx⟩
  intro σ1 h1 τ1 H1 rs1 rh1 s1 l1 q1
  exact ⟨r, σ1, h1, Q, X', r2.mono s1.xt, rs1, rh1, q1, fun σ2 h2 τ2 H2 a b c d f => kq σ2 h2 τ2 H2 a b (s1.trans c) (l1.trans d) f, kx.step s1⟩
theorem sG_tup {gs : List Expr} {gs' : E} {k n : Nat} {sl : List Nat} (hK : Γ.K = X.K) (hc : X.calm = true) (h : L2.PGs X gs (gGs Γ W sl (wGs P Φ gs'))) (hn : (assignEach gs X.env).length = n) (hst : (assignEach gs X.env).findIdx? (·.1) = none)
    (hl : elen gs' = n) : L2.PG X (.Tuple gs k pos) (gG Γ W sl (wG P Φ (.tup gs'))) := by
  have key : L2.PG X (.Tuple gs k pos) (fun v σ H Q => L2.gTup X.K n (gGs Γ W sl (wGs P Φ gs')) v σ H Q ∨ L2.gLst X.K n (gGs Γ W sl (wGs P Φ gs')) v σ H Q) := by
    refine ⟨fun pins s σ H v u Q I r hw => ?_⟩
    rcases hw with hw | hw
    · exact (L2.pg_tup hc h hn hst).run pins s σ H v u Q I r hw
    · exact (L2.pg_lst hc h hn hst).run pins s σ H v u Q I r hw
  refine PG.mono key ?_
  rintro x τ H Q' ⟨v, σ, h, Q, X', rv, rs, rh, w, kq, kx⟩
  rcases w with ⟨vs, e, el, w⟩ | ⟨a, vs, e, g, el, w⟩
  · subst e
    obtain ⟨a, ys, e3, sq, r⟩ := rtup rv
    rw [hK] at sq
    exact .inl ⟨a, ys, e3, sq, by rw [← r.length, el, hl], vs, σ, h, Q, X', r, rs, rh, w, kq, kx⟩
  · subst e
    obtain ⟨ys, sq, r⟩ := lst_of hK rh g
    exact .inr ⟨a, ys, rref rv, sq, by rw [← r.length, el, hl], vs, σ, h, Q, X', r, rs, rh, w, kq, kx⟩
/-! stores at a place -/
def gSt (Γ : Nm) : L2.TSet := fun o i v H Q' => ∃ o' i' v' h Q, RV Γ H o' o ∧ RV Γ H i' i ∧ RV Γ H v' v ∧ RH Γ h H ∧ wSetIx o' i' v' h Q ∧ ∀ h' H', RH Γ h' H' → Sp h H h' H' → Q h' → Q' H'
theorem RK.any {H : LH} {k : Ky} : ∀ {kvs : List (Ky × Vl)} {xs : List (L2.Key × LV)}, RK Γ H kvs xs → (kvs.any fun kv => decide (kv.1 = k)) = (xs.any fun kv => decide (kv.1 = kyL k))
  | [], _, r => by have : _ = [] := r; subst this; rfl
  | (k', v') :: kvs, _, ⟨y, ys, e1, r1, r2⟩ => by
    subst e1
    rw [List.any_cons, List.any_cons, RK.any r2]
    congr 1
    simp only [decide_eq_decide]
    exact kyL_inj.symm
theorem RK.map {H : LH} {k : Ky} {v : Vl} {x : LV} (rv : RV Γ H v x) : ∀ {kvs : List (Ky × Vl)} {xs : List (L2.Key × LV)}, RK Γ H kvs xs →
    RK Γ H (kvs.map (fun kv => if kv.1 = k then (kv.1, v) else kv)) (xs.map (fun kv => if kv.1 = kyL k then (kv.1, x) else kv))
  | [], _, r => by have : _ = [] := r; subst this; exact rfl
  | (k', v') :: kvs, _, ⟨y, ys, e1, r1, r2⟩ => by
    subst e1
    rw [List.map_cons, List.map_cons]
    by_cases z : k' = k
    · subst z
      rw [if_pos rfl, if_pos rfl]
      exact ⟨x, _, rfl, rv, RK.map rv r2⟩
    · rw [if_neg z, if_neg (fun q => z (kyL_inj.mp q))]
      exact ⟨y, _, rfl, r1, RK.map rv r2⟩
theorem RK.app {H : LH} {k : Ky} {v : Vl} {x : LV} (rv : RV Γ H v x) : ∀ {kvs : List (Ky × Vl)} {xs : List (L2.Key × LV)}, RK Γ H kvs xs → RK Γ H (kvs ++ [(k, v)]) (xs ++ [(kyL k, x)])
  | [], _, r => by have : _ = [] := r; subst this; exact ⟨x, [], rfl, rv, rfl⟩
  | (k', v') :: kvs, _, ⟨y, ys, e1, r1, r2⟩ => by
    subst e1
    exact ⟨y, _, rfl, r1, RK.app rv r2⟩
theorem RK.put {H : LH} {k : Ky} {v : Vl} {x : LV} {kvs : List (Ky × Vl)} {xs : List (L2.Key × LV)} (rv : RV Γ H v x) (r : RK Γ H kvs xs) : RK Γ H (dput kvs k v) (L2.putK xs (kyL k) x) := by
  unfold dput L2.putK
  rw [← r.any]
  split
  · exact RK.map rv r
  · exact RK.app rv r
theorem set_ix (hu : X.A.units + 1 < cLine) (hK : Γ.K = X.K) : L2.PSet X (gSt Γ) := by
  intro pins s σ H o i v ov iv u Q' I ro ri rv ⟨o', i', v', h, Q, r1, r2, r3, rh, w, kq⟩
  cases o' <;> first | exact w.elim | skip
  rename_i a
  rcases w with ⟨xs, k, j, e, g, b1, b2, ej, hj, q⟩ | ⟨kvs, ky, g, e1, hl, q⟩ | ⟨kvs, ns, g, e1, hl, q⟩
  · subst e
    obtain ⟨ys, h5, r⟩ := rh a _ g
    refine L2.set_list pins s σ H o i v ov iv u Q' I ro ri rv ⟨a, ys, k, j, rref r1, rint r2, h5, ?_, ?_⟩
    · unfold L2.ixN
      rw [← r.length]
      by_cases z : 0 ≤ k
      · rw [if_pos z] at ej ⊢; rw [if_pos (by omega)]; congr 1; omega
      · rw [if_neg z] at ej ⊢; rw [if_pos (by omega)]; congr 1; omega
    · have xt : Xt H (upd H a (.lst (ys.set j v))) := .mut h5 trivial
      exact kq _ _ (rh.mut (u := .lst _) h5 trivial ⟨_, L2.upd_same, (RVs.set r3 j r).mono xt⟩) (.mut g h5 trivial) q
  · obtain ⟨ys, h5, r⟩ := rh a _ g
    refine L2.set_dict hu pins s σ H o i v ov iv u Q' I ro ri rv ⟨a, upd H a (.dK (L2.putK ys (kyL ky) v)), rref r1, ?_, ?_⟩
    · rw [ky_rv e1 r2]
      exact .k h5 (by rw [← r.length]; exact hl)
    · have xt : Xt H (upd H a (.dK (L2.putK ys (kyL ky) v))) := .mut h5 trivial
      exact kq _ _ (rh.mut (u := .dct _) h5 trivial ⟨_, L2.upd_same, (RK.put r3 r).mono xt⟩) (.mut g h5 trivial) q
  · subst e1
    obtain ⟨kas, h5, hk, r⟩ := rh a _ g
    obtain ⟨b, ts, rfl, sq, rt⟩ := rtup r2
    rw [ints_rvs rt] at sq
    have ex := rref r1
    subst ex
    obtain rfl : ov = Value.ref a := ro
    obtain rfl : iv = Value.ref b := ri
    refine L2.tdI_set hu I h5 (hK ▸ hk) (hK ▸ sq) rv (by rw [← r.length]; exact hl) fun s' I' => ⟨_, I', ?_⟩
    have xt : Xt H (upd H a (L2.TD a (L2.putT kas ns b v))) := .mut h5 trivial
    exact kq _ _ (rh.mut (u := .dtp _) h5 trivial ⟨_, L2.upd_same, tdk_mono xt (tdk_put hk sq), (RT.put r3 r).mono xt⟩) (.mut g h5 trivial) q
theorem mSetd (hu : X.A.units + 1 < cLine) (hK : Γ.K = X.K) : MtAt X Γ "setdefault" .dct .setdefault := by
  refine ⟨_, PySem.F.plainAttrs_dict, PySem.F.slot_dict_setdefault, PySem.F.type_dict_setdefault, ?_⟩
  intro pins s σ H x xs v us Q' I rx rxs ⟨v', vs, h, Q, rv, rvs, rh, w, kq⟩
  match v', vs, w with
  | .ref a, [k, d], .inl ⟨kvs, ky, g, e, hz, q1, q2⟩ =>
    simp only [RVs] at rvs
    obtain ⟨y, ys, rfl, ry, z, zs, rfl, rz, rfl⟩ := rvs
    obtain ⟨ls, h5, r⟩ := rh a _ g
    have ex := rref rv
    subst ex
    obtain rfl : v = Value.ref a := rx
    match us, rxs with
    | [u1, u2], .cons r1 (.cons r2 .nil) =>
      rw [ky_rv e ry] at r1
      refine L2.d_setd I h5 r1 r2 (by rw [← r.length]; exact hz) (fun w hw w' s' I' rw' => ⟨_, H, I', rw', ?_⟩) (fun hn w' s' I' rw' => ⟨_, _, I', rw', ?_⟩)
      · cases hd : dget kvs ky with
        | none => rw [RK.getN r hd] at hw; cases hw
        | some v0 =>
          obtain ⟨x0, e0, r0⟩ := RK.get r hd
          rw [e0] at hw
          cases hw
          exact kq _ _ _ _ r0 rh (.refl _ _) (q1 _ hd)
      · cases hd : dget kvs ky with
        | some v0 =>
          obtain ⟨x0, e0, r0⟩ := RK.get r hd
          rw [e0] at hn; cases hn
        | none =>
          have xt : Xt H (upd H a (.dK (L2.putK ls (kyL ky) z))) := .mut h5 trivial
          exact kq _ _ _ _ (rz.mono xt) (rh.mut (u := .dct _) h5 trivial ⟨_, L2.upd_same, (RK.put rz r).mono xt⟩) (.mut g h5 trivial) (q2 hd)
  | .ref a, [k, d], .inr ⟨kvs, ns, g, e, hz, q1, q2⟩ =>
    subst e
    simp only [RVs] at rvs
    obtain ⟨y, ys, rfl, ry, z, zs, rfl, rz, rfl⟩ := rvs
    obtain ⟨kas, h5, hk, r⟩ := rh a _ g
    have ex := rref rv
    subst ex
    obtain rfl : v = Value.ref a := rx
    obtain ⟨b, ts, rfl, sq, rt⟩ := rtup ry
    rw [ints_rvs rt] at sq
    match us, rxs with
    | [u1, u2], .cons r1 (.cons r2 .nil) =>
      obtain rfl : u1 = Value.ref b := r1
      have rg := RT.get (k := ns) r
      refine L2.tdI_setd hu I h5 (hK ▸ hk) (hK ▸ sq) r2 (by rw [← r.length]; exact hz) (fun w hw w' s' I' rw' => ⟨_, H, I', rw', ?_⟩) (fun hn s' I' => ⟨_, _, I', r2, ?_⟩)
      · cases hd : tget kvs ns with
        | none => rw [hd] at rg; rw [rg] at hw; cases hw
        | some v0 =>
          rw [hd] at rg
          obtain ⟨x0, e0, r0⟩ := rg
          rw [e0] at hw
          cases hw
          exact kq _ _ _ _ r0 rh (.refl _ _) (q1 _ hd)
      · cases hd : tget kvs ns with
        | some v0 =>
          rw [hd] at rg
          obtain ⟨x0, e0, r0⟩ := rg
          rw [e0] at hn; cases hn
        | none =>
          have xt : Xt H (upd H a (L2.TD a (L2.putT kas ns b z))) := .mut h5 trivial
          have ep : L2.putT kas ns b z = kas ++ [(ns, b, z)] := by unfold L2.putT; rw [hn]; rfl
          have et : tput kvs ns d = kvs ++ [(ns, d)] := by unfold tput; rw [hd]; rfl
          refine kq _ _ _ _ (rz.mono xt) (rh.mut (u := .dtp _) h5 trivial ⟨_, L2.upd_same, ?_, ?_⟩) (.mut g h5 trivial) (q2 hd)
          · intro p hp
            rw [ep] at hp
            rcases List.mem_append.mp hp with hp | hp
            · exact sqT_mono xt (hk p hp)
            · simp only [List.mem_cons, List.not_mem_nil, or_false] at hp
              subst hp
              exact sqT_mono xt sq
          · have hh := (RT.app (k := ns) (b := b) rz r).mono xt
            rw [et]
            have e2 : ∀ {HH : LH}, RT Γ HH (kvs ++ [(ns, d)]) (kas ++ [(ns, b, z)]) → RT Γ HH (kvs ++ [(ns, d)]) (L2.putT kas ns b z) := fun q => by rw [ep]; exact q
            exact e2 hh
theorem sG_ix {a b : Expr} {a' b' : E} (hu : X.A.units + 1 < cLine) (hK : Γ.K = X.K) (ha : PE X a (gE Γ W (wE P Φ a'))) (hb : PE X b (gE Γ W (wE P Φ b')))
    (hst : ∀ v, assign (.Subscript a b pos) X.env v = (do
      let ov ← holding [v] (eval a X.env)
      let iv ← holding [v, ov] (eval b X.env)
      standAt pos
      holding [v, ov, iv] (setItem ov iv v)
      release [v, ov, iv] [])) : L2.PG X (.Subscript a b pos) (gG Γ W [] (wG P Φ (.ix a' b'))) := by
  refine PG.mono (L2.pg_sub ha hb (set_ix (Γ := Γ) hu hK) hst) ?_
  rintro x τ H Q' ⟨v, σ, h, Q, X', rv, rs, rh, w, kq, kx⟩
  refine ⟨σ, h, _, X', rs, rh, w, ?_, kx⟩
  intro o h1 ox H1 ro rh1 s1 q1
  refine ⟨σ, h1, _, X', rs.mono s1.xt, rh1, q1, ?_, kx.step s1⟩
  intro i h2 ix H2 ri rh2 s2 q2
  have s12 := s1.trans s2
  exact ⟨o, i, v, h2, _, ro.mono s2.xt, ri, rv.mono s12.xt, rh2, q2, fun h' H' rh' s3 q => kq σ h' τ H' (rs.mono (s12.trans s3).xt) rh' (s12.trans s3) (.refl _ _) q⟩
end
end KN

set_option autoImplicit false
set_option linter.all false
/-! Kern, part 10: comprehensions, statements -/
namespace KN
open PySem PySem.Spec PyProof.Rows
open L2 (PE PT PW PA PS PSs OpR CallR upd PI)

section
variable {X : L2.Cx} {Γ : Nm} {W : L2.WX} {P : PG} {Φ : Phi} {pos : Pos} {e : Expr} {es : List Expr} {e' es' : E}

theorem wipe_len (σ : St) : ∀ vs : List Nat, (wipe σ vs).length = σ.length
  | [] => rfl
  | v :: vs => by unfold wipe; rw [List.length_set, wipe_len σ vs]
theorem RS.wipe {H : LH} {σ : St} {τ : LS} (r : RS Γ H σ τ) : ∀ vs : List Nat, RS Γ H (wipe σ vs) (L2.wipe τ vs)
  | [] => r
  | v :: vs => by
    have ih := RS.wipe r vs
    unfold KN.wipe L2.wipe
    refine ⟨by simp [ih.1], fun i w h => ?_⟩
    by_cases e : v = i
    · subst e
      rw [List.getElem?_set] at h
      simp at h
    · rw [List.getElem?_set_ne e] at h ⊢
      exact ih.2 i w h
theorem lwipe_get (τ : LS) (j : Nat) : ∀ vs : List Nat, (L2.wipe τ vs)[j]? = if j ∈ vs then (if j < τ.length then some none else none) else τ[j]?
  | [] => by simp [L2.wipe]
  | v :: vs => by
    unfold L2.wipe
    rw [List.getElem?_set]
    by_cases e : v = j
    · subst e
      simp only [if_true, List.mem_cons, true_or, L2.wipe_length]
    · rw [if_neg e, lwipe_get τ j vs]
      have : (j ∈ v :: vs) ↔ j ∈ vs := by simp [Ne.symm e]
      simp only [this]
theorem lwipe_eq {τ τ2 : LS} {vs sl : List Nat} (hs : ∀ j ∈ sl, j ∈ vs) (h : Slo sl (L2.wipe τ vs) τ2) : L2.wipe τ2 vs = L2.wipe τ vs := by
  apply List.ext_getElem?
  intro j
  have hl : τ2.length = τ.length := by rw [h.1, L2.wipe_length]
  rw [lwipe_get, lwipe_get, hl]
  by_cases e : j ∈ vs
  · rw [if_pos e, if_pos e]
  · rw [if_neg e, if_neg e]
    rw [h.2 j (fun z => e (hs j z)), lwipe_get, if_neg e]
theorem Sp.priv {h h1 : AH} {H H1 : LH} {D : Addr} {w o : L2.HO} (s : Sp h H h1 H1) (n : H D = none) (hw : H1 D = some w) (m : Mu w) : Sp h H h1 (upd H1 D o) :=
  ⟨s.xt.trans (.mut hw m), fun a u e g => by rw [L2.upd_ne (L2.ne_of_none e n)]; exact s.fr a u e g, s.dom⟩
theorem RH.priv {h1 : AH} {H1 : LH} {D : Addr} {w o : L2.HO} (r : RH Γ h1 H1) (g : get h1 D = none) (hw : H1 D = some w) (m : Mu w) : RH Γ h1 (upd H1 D o) := fun a u e =>
  (r a u e).mono (.mut hw m) fun x z => by rw [L2.upd_ne (fun q => by subst q; rw [g] at e; cases e)]; exact z
theorem Sp.show {h h1 : AH} {H H1 : LH} {D : Addr} {u : Ob} (s : Sp h H h1 H1) (n : H D = none) : Sp h H (push h1 D u) H1 :=
  ⟨s.xt, s.fr, fun a e z => get_pushD (s.dom a e z) fun q => z (q ▸ n)⟩
theorem RH.show {h1 : AH} {H1 : LH} {D : Addr} {u : Ob} (r : RH Γ h1 H1) (g : get h1 D = none) (ro : RO Γ H1 D u) : RH Γ (push h1 D u) H1 := fun a w e => by
  rcases get_pushS g e with ⟨rfl, rfl⟩ | ⟨_, e⟩
  · exact ro
  · exact r a w e
theorem sTs_nil : L2.PTs X [] (gT Γ W (wT P Φ (.bl true))) := ⟨fun pins s τ H Q' I ⟨σ, h, Q, X', rs, rh, w, kq, kx⟩ => L2.pts_nil.run pins s τ H Q' I (kq _ h H rh (.refl _ _) w)⟩
theorem sTs_one {c : Expr} {c' : E} (hc : PT X c (gT Γ W (wT P Φ c'))) : L2.PTs X [c] (gT Γ W (wT P Φ c')) := L2.pts_one hc
def W0 : L2.WX := fun _ _ _ _ => False
/-- the reading of a comprehension -/
theorem lc_read {elt' g' it' c' : E} {vs sl : List Nat} (hs : ∀ j ∈ sl, j ∈ vs) : ∀ τ H Q', gE Γ W (wE P Φ (.lc elt' vs g' it' c')) τ H Q' →
    L2.tLc (gI Γ W (wI P Φ it')) (gG Γ W0 sl (wG P Φ g')) (gT Γ W0 (wT P Φ c')) (gE Γ W0 (wE P Φ elt')) vs τ H Q' := by
  rintro τ H Q' ⟨σ, h, Q, X', rs, rh, w, kq, kx⟩
  refine ⟨σ, h, _, X', rs, rh, w, ?_, kx⟩
  intro xs kp h1 J H1 rh1 s1 hit ⟨Wf, w0, turn⟩ D nD
  have gD := rh1.free nD
  refine ⟨fun i m H2 => m = xs.length - i ∧ i ≤ xs.length ∧ ∃ acc h2 accx, H2 D = some (.lst accx) ∧ RVs Γ H2 acc accx ∧ RH Γ h2 H2 ∧ Sp h1 H1 h2 H2 ∧ get h2 D = none ∧ Wf i acc h2,
    ⟨xs.length, by simp, by simp, [], h1, [], L2.upd_same, by simp only [RVs], rh1.tup nD, .tup nD, gD, w0⟩, ?_⟩
  rintro i m H2 ⟨rfl, hi, acc, h2, accx, hD, ra, rh2, s2, g2, wf⟩
  obtain ⟨kp2, step, fin⟩ := turn i acc h2 hi wf
  obtain ⟨j1, j2⟩ := hit i h2 H2 s2.xt rh2 kp2
  by_cases hlt : i < xs.length
  · right
    obtain ⟨jg, jy⟩ := j2 xs[i] (by simp [hlt])
    refine ⟨jg, fun H' => ∃ m', m' < xs.length - i ∧ m' = xs.length - (i + 1) ∧ i + 1 ≤ xs.length ∧ ∃ acc h2 accx, H' D = some (.lst accx) ∧ RVs Γ H' acc accx ∧ RH Γ h2 H' ∧ Sp h1 H1 h2 H' ∧ get h2 D = none ∧ Wf (i + 1) acc h2, fun H' ⟨m', a, b⟩ => ⟨m', a, b⟩, ?_⟩
    intro y H3 hy
    obtain ⟨ry, rh3, s3⟩ := jy y H3 hy
    have hD3 : H3 D = some (.lst accx) := s3.fr D _ hD g2
    refine ⟨xs[i], wipe σ vs, h2, _, fun _ _ _ => False, ry, (rs.mono ((s1.trans s2).trans s3).xt).wipe vs, rh3, step xs[i] (by simp [hlt]), ?_, fun _ _ _ _ _ _ _ _ _ _ _ z => z.elim⟩
    intro σ4 h4 τ4 H4 rs4 rh4 s4 l4 q4
    refine ⟨lwipe_eq hs l4, σ4, h4, _, fun _ _ _ => False, rs4, rh4, q4, ?_, fun _ _ _ _ _ _ _ _ _ _ _ z => z.elim⟩
    intro t h5 H5 rh5 s5 q5
    have s15 := ((s2.trans s3).trans s4).trans s5
    have s25 := (s3.trans s4).trans s5
    have hD5 : H5 D = some (.lst accx) := s25.fr D _ hD g2
    have g5 : get h5 D = none := s25.dom D g2 (by rw [hD]; simp)
    cases t with
    | false => exact ⟨_, by omega, rfl, hlt, acc, h5, accx, hD5, ra.mono s25.xt, rh5, s15, g5, q5⟩
    | true =>
      refine ⟨σ4, h5, _, fun _ _ _ => False, rs4.mono s5.xt, rh5, q5, ?_, fun _ _ _ _ _ _ _ _ _ _ _ z => z.elim⟩
      intro v h6 yv H6 rv rh6 s6 ⟨hl, q6⟩
      have s16 := s15.trans s6
      have s26 := s25.trans s6
      have hD6 : H6 D = some (.lst accx) := s26.fr D _ hD g2
      have g6 : get h6 D = none := s26.dom D g2 (by rw [hD]; simp)
      have ra6 := ra.mono s26.xt
      refine ⟨accx, hD6, by rw [← ra6.length]; exact hl, _, by omega, rfl, hlt, acc ++ [v], h6, accx ++ [yv], L2.upd_same, ?_, rh6.priv g6 hD6 trivial, s16.priv nD hD6 trivial, g6, q6⟩
      exact (ra6.append (by simp only [RVs]; exact ⟨yv, [], rfl, rv, rfl⟩)).mono (.mut hD6 trivial)
  · left
    have e : i = xs.length := by omega
    exact ⟨j1 e, kq (.ref D) _ _ _ vref (rh2.show (u := .lst acc) g2 ⟨accx, hD, ra⟩) (s1.trans (s2.show nD)) (fin e D g2)⟩

/-! ### statements -/
def gS (Γ : Nm) (W : L2.WX) (w : St → AH → Nv → Qv → Nv → Nv → Xv → Prop) : L2.TS := fun D τ H => ∃ σ h N R B C X, RS Γ H σ τ ∧ RH Γ h H ∧ w σ h N R B C X ∧
  (∀ σ' h' τ' H', RS Γ H' σ' τ' → RH Γ h' H' → Sp h H h' H' → N σ' h' → D.nx τ' H') ∧ KQ Γ h H R D.rt ∧
  (∀ σ' h' τ' H', RS Γ H' σ' τ' → RH Γ h' H' → Sp h H h' H' → B σ' h' → D.bk τ' H') ∧
  (∀ σ' h' τ' H', RS Γ H' σ' τ' → RH Γ h' H' → Sp h H h' H' → C σ' h' → D.ct τ' H') ∧ KX Γ W h H X
abbrev KN' (Γ : Nm) (h : AH) (H : LH) (N : Nv) (N' : LS → LH → Prop) : Prop := ∀ σ' h' τ' H', RS Γ H' σ' τ' → RH Γ h' H' → Sp h H h' H' → N σ' h' → N' τ' H'
theorem kn_step {h h1 : AH} {H H1 : LH} {N : Nv} {N' : LS → LH → Prop} (k : KN' Γ h H N N') (s : Sp h H h1 H1) : KN' Γ h1 H1 N N' := fun a b c d f g i j => k a b c d f g (s.trans i) j
/-- a statement that runs while a dict is read only -/
theorem sS_lock {st : Stmt} {s' : S} {i : Nat} (hs : PS X st (gS Γ W (wS P Φ s'))) : PS X st (gS Γ W (wS P Φ (.lock i s'))) := by
  refine PS.mono (L2.ps_lock hs) ?_
  rintro D τ H ⟨σ, h, N, R, B, C, X', rs, rh, w, kn, kr, kb, kc, kx⟩
  obtain ⟨a, kvs, e1, g, w⟩ := w
  obtain ⟨ys, h5, rk⟩ := rh a _ g
  refine ⟨a, .dK ys, h5, trivial, fun od => ?_⟩
  have xt1 : Xt H (upd H a (.frz od (.dK ys))) := .mut h5 trivial
  have rh1 : RH Γ (put h a (.fdc kvs)) (upd H a (.frz od (.dK ys))) := rh.mut (u := .fdc kvs) h5 trivial ⟨od, ys, L2.upd_same, rk.mono xt1⟩
  have s1 : Sp h H (put h a (.fdc kvs)) (upd H a (.frz od (.dK ys))) := .mut g h5 trivial
  have back : ∀ h' H', RH Γ h' H' → Sp (put h a (.fdc kvs)) (upd H a (.frz od (.dK ys))) h' H' → H' a = some (.frz od (.dK ys)) ∧ RH Γ (put h' a (.dct kvs)) (upd H' a (.dK ys)) ∧ Sp h H (put h' a (.dct kvs)) (upd H' a (.dK ys)) ∧ Xw H' (upd H' a (.dK ys)) := by
    intro h' H' rh' s'
    have f1 : H' a = some (.frz od (.dK ys)) := s'.xt.frz a od _ L2.upd_same
    have f4 : Xw H' (upd H' a (.dK ys)) := ⟨fun b xs e => by rw [L2.upd_ne (by rintro rfl; rw [f1] at e; cases e)]; exact e, fun b o xs e => by rw [L2.upd_ne (by rintro rfl; rw [f1] at e; cases e)]; exact e⟩
    have st := s1.trans s'
    have ne : ∀ b o, H b = some o → o ≠ .dK ys → b ≠ a := fun b o e z y => by
      rw [y, h5] at e
      cases e
      exact z rfl
    refine ⟨f1, fun b o e => ?_, ⟨⟨fun b xs e => ?_, fun b o u e => ?_⟩, fun b o e n => ?_, fun b n e => ?_⟩, f4⟩
    · rcases get_putS e with ⟨rfl, rfl⟩ | ⟨nb, e⟩
      · exact ⟨ys, L2.upd_same, ((rk.mono xt1).mono s'.xt).monoW f4⟩
      · exact (rh' b o e).monoW f4 fun u q => by rw [L2.upd_ne nb]; exact q
    · rw [L2.upd_ne (ne b _ e (by simp))]; exact st.xt.tup b xs e
    · rw [L2.upd_ne (ne b _ e (by simp))]; exact st.xt.frz b o u e
    · rw [L2.upd_ne (by rintro rfl; rw [g] at n; cases n)]; exact st.fr b o e n
    · exact get_putN (st.dom b n e)
  refine ⟨σ, put h a (.fdc kvs), _, _, _, _, _, rs.mono xt1, rh1, w, ?_, ?_, ?_, ?_, ?_⟩
  · rintro σ' h' τ' H' rs' rh' s' ⟨_, q⟩
    obtain ⟨f1, f2, f3, f4⟩ := back h' H' rh' s'
    exact ⟨f1, kn σ' _ τ' _ (rs'.monoW f4) f2 f3 q⟩
  · rintro v h' x H' rv rh' s' ⟨_, q⟩
    obtain ⟨f1, f2, f3, f4⟩ := back h' H' rh' s'
    exact ⟨f1, kr v _ x _ (rv.monoW f4 v) f2 f3 q⟩
  · rintro σ' h' τ' H' rs' rh' s' ⟨_, q⟩
    obtain ⟨f1, f2, f3, f4⟩ := back h' H' rh' s'
    exact ⟨f1, kb σ' _ τ' _ (rs'.monoW f4) f2 f3 q⟩
  · rintro σ' h' τ' H' rs' rh' s' ⟨_, q⟩
    obtain ⟨f1, f2, f3, f4⟩ := back h' H' rh' s'
    exact ⟨f1, kc σ' _ τ' _ (rs'.monoW f4) f2 f3 q⟩
  · intro _ _ _ _ _ _ _ _ _ _ _ z
    exact z.elim
theorem sSs_nil : PSs X [] (gS Γ W (wS P Φ .skip)) := by
  refine PSs.mono L2.pss_nil ?_
  rintro D τ H ⟨σ, h, N, R, B, C, X', rs, rh, w, kn, kr, kb, kc, kx⟩
  exact kn σ h τ H rs rh (.refl _ _) w
theorem sSs_cons {st : Stmt} {r : List Stmt} {a' b' : S} (h1 : PS X st (gS Γ W (wS P Φ a'))) (h2 : PSs X r (gS Γ W (wS P Φ b'))) : PSs X (st :: r) (gS Γ W (wS P Φ (.seq a' b'))) := by
  refine PSs.mono (L2.pss_cons h1 h2) ?_
  rintro D τ H ⟨σ, h, N, R, B, C, X', rs, rh, w, kn, kr, kb, kc, kx⟩
  exact ⟨σ, h, _, R, B, C, X', rs, rh, w, fun σ1 h1 τ1 H1 rs1 rh1 s1 q1 => ⟨σ1, h1, N, R, B, C, X', rs1, rh1, q1, kn_step kn s1, kr.step s1, kn_step kb s1, kn_step kc s1, kx.step s1⟩, kr, kb, kc, kx⟩
theorem sS_asg {tg : Expr} {g' : E} {sl : List Nat} (he : PE X e (gE Γ W (wE P Φ e'))) (hg : L2.PG X tg (gG Γ W sl (wG P Φ g'))) (hs : swapsWithSole [tg] e pos.line X.env = pure false) (hw : swappedStores [tg] e X.env = pure none)
    (h1 : (assignEach [tg] X.env).map (·.2) = [assign tg X.env]) : PS X (.Assign [tg] e pos) (gS Γ W (wS P Φ (.asg g' e'))) := by
  refine PS.mono (L2.ps_asg he hg hs hw h1) ?_
  rintro D τ H ⟨σ, h, N, R, B, C, X', rs, rh, w, kn, kr, kb, kc, kx⟩
  refine ⟨σ, h, _, X', rs, rh, w, ?_, kx⟩
  intro v h1 x H1 rv rh1 s1 q1
  exact ⟨v, σ, h1, N, X', rv, rs.mono s1.xt, rh1, q1, fun σ2 h2 τ2 H2 a b c _ d => kn σ2 h2 τ2 H2 a b (s1.trans c) d, kx.step s1⟩
/-- a name, a value: any way the store goes -/
theorem sS_set {i : Nat} {x : Str} {pos' : Pos} (hN : X.N.Nodup) (hi : X.N[i]? = some x) (hx : L2.Loc X.env.scope x) (he : PE X e (gE Γ W (wE P Φ e'))) (hs : swapsWith e (some (.Name x pos')) pos.line X.env = pure false)
    (hf : X.fn x = true ∨ X.env.scope.names.lookup x = some .local) : PS X (.Assign [.Name x pos'] e pos) (gS Γ W (wS P Φ (.asg (.var i) e'))) := by
  refine PS.mono (L2.ps_set hN hi hx he hs hf) ?_
  rintro D τ H ⟨σ, h, N, R, B, C, X', rs, rh, w, kn, kr, kb, kc, kx⟩
  refine ⟨σ, h, _, X', rs, rh, w, ?_, kx⟩
  intro v h1 x H1 rv rh1 s1 q1
  exact kn _ h1 _ H1 ((rs.mono s1.xt).set rv i) rh1 s1 q1
theorem sS_expr (he : PE X e (gE Γ W (wE P Φ e'))) (hs : swapsWith e none pos.line X.env = pure false) : PS X (.Expr e pos) (gS Γ W (wS P Φ (.expr e'))) := by
  refine PS.mono (L2.ps_expr he hs) ?_
  rintro D τ H ⟨σ, h, N, R, B, C, X', rs, rh, w, kn, kr, kb, kc, kx⟩
  exact ⟨σ, h, _, X', rs, rh, w, fun v h1 x H1 rv rh1 s1 q1 => kn σ h1 τ H1 (rs.mono s1.xt) rh1 s1 q1, kx⟩
theorem sS_ret (he : PE X e (gE Γ W (wE P Φ e'))) : PS X (.Return (some e) pos) (gS Γ W (wS P Φ (.ret e'))) := by
  refine PS.mono (L2.ps_ret he) ?_
  rintro D τ H ⟨σ, h, N, R, B, C, X', rs, rh, w, kn, kr, kb, kc, kx⟩
  exact ⟨σ, h, R, X', rs, rh, w, kr, kx⟩
theorem sS_retN : PS X (.Return none pos) (gS Γ W (wS P Φ .retN)) := by
  refine PS.mono L2.ps_retN ?_
  rintro D τ H ⟨σ, h, N, R, B, C, X', rs, rh, w, kn, kr, kb, kc, kx⟩
  exact kr .non h .non H vnon rh (.refl _ _) w
theorem sS_pass : PS X (.Pass pos) (gS Γ W (wS P Φ .skip)) := by
  refine PS.mono L2.ps_pass ?_
  rintro D τ H ⟨σ, h, N, R, B, C, X', rs, rh, w, kn, kr, kb, kc, kx⟩
  exact kn σ h τ H rs rh (.refl _ _) w
theorem sS_brk : PS X (.Break pos) (gS Γ W (wS P Φ .brk)) := by
  refine PS.mono L2.ps_break ?_
  rintro D τ H ⟨σ, h, N, R, B, C, X', rs, rh, w, kn, kr, kb, kc, kx⟩
  exact kb σ h τ H rs rh (.refl _ _) w
theorem sS_cnt : PS X (.Continue pos) (gS Γ W (wS P Φ .cnt)) := by
  refine PS.mono L2.ps_continue ?_
  rintro D τ H ⟨σ, h, N, R, B, C, X', rs, rh, w, kn, kr, kb, kc, kx⟩
  exact kc σ h τ H rs rh (.refl _ _) w
theorem sS_if {c : Expr} {c' : E} {a b : List Stmt} {a' b' : S} (hc : PT X c (gT Γ W (wT P Φ c'))) (ha : PSs X a (gS Γ W (wS P Φ a'))) (hb : PSs X b (gS Γ W (wS P Φ b'))) : PS X (.If c a b pos) (gS Γ W (wS P Φ (.ife c' a' b'))) := by
  refine PS.mono (L2.ps_if hc ha hb) ?_
  rintro D τ H ⟨σ, h, N, R, B, C, X', rs, rh, w, kn, kr, kb, kc, kx⟩
  refine ⟨σ, h, _, X', rs, rh, w, ?_, kx⟩
  intro t h1 H1 rh1 s1 q1
  cases t with
  | true => exact ⟨σ, h1, N, R, B, C, X', rs.mono s1.xt, rh1, q1, kn_step kn s1, kr.step s1, kn_step kb s1, kn_step kc s1, kx.step s1⟩
  | false => exact ⟨σ, h1, N, R, B, C, X', rs.mono s1.xt, rh1, q1, kn_step kn s1, kr.step s1, kn_step kb s1, kn_step kc s1, kx.step s1⟩
theorem sS_while {c : Expr} {c' : E} {b : List Stmt} {b' : S} (hp : PassesOwn (model X.prog X.w) X.A X.env X.xe) (hc : PT X c (gT Γ W (wT P Φ c'))) (hb : PSs X b (gS Γ W (wS P Φ b'))) : PS X (.While c b [] pos) (gS Γ W (wS P Φ (.whl c' b'))) := by
  refine PS.mono (L2.ps_while hp hc hb) ?_
  rintro D τ H ⟨σ, h, N, R, B, C, X', rs, rh, ⟨Wf, ⟨m0, w0⟩, turn⟩, kn, kr, kb, kc, kx⟩
  refine ⟨fun m τ' H' => ∃ σ' h', RS Γ H' σ' τ' ∧ RH Γ h' H' ∧ Sp h H h' H' ∧ Wf m σ' h', ⟨m0, σ, h, rs, rh, .refl _ _, w0⟩, ?_⟩
  rintro m τ1 H1 ⟨σ1, h1, rs1, rh1, s1, wf⟩
  refine ⟨σ1, h1, _, X', rs1, rh1, turn m σ1 h1 wf, ?_, kx.step s1⟩
  intro t h2 H2 rh2 s2 q2
  have s12 := s1.trans s2
  cases t with
  | true =>
    refine ⟨_, fun τ' H' z => z, σ1, h2, _, R, N, _, X', rs1.mono s2.xt, rh2, q2, ?_, kr.step s12, kn_step kn s12, ?_, kx.step s12⟩
    · intro σ3 h3 τ3 H3 rs3 rh3 s3 ⟨m2, hm, w2⟩
      exact ⟨m2, hm, σ3, h3, rs3, rh3, s12.trans s3, w2⟩
    · intro σ3 h3 τ3 H3 rs3 rh3 s3 ⟨m2, hm, w2⟩
      exact ⟨m2, hm, σ3, h3, rs3, rh3, s12.trans s3, w2⟩
  | false => exact kn σ1 h2 τ1 H2 (rs1.mono s2.xt) rh2 s12 q2
theorem sS_for {tg it : Expr} {g' it' : E} {sl : List Nat} {b : List Stmt} {b' : S} (hp : PassesOwn (model X.prog X.w) X.A X.env X.xe) (hc : X.calm = true) (hi : PI X tg it (gI Γ W (wI P Φ it'))) (hg : L2.PG X tg (gG Γ W sl (wG P Φ g'))) (hb : PSs X b (gS Γ W (wS P Φ b')))
    (hs : ∀ x, foldedSetIterable it X.env x = pure x) : PS X (.For tg it b [] pos) (gS Γ W (wS P Φ (.for_ g' it' b'))) := by
  refine PS.mono (L2.ps_for hp hc hi hg hb hs) ?_
  rintro D τ H ⟨σ, h, N, R, B, C, X', rs, rh, w, kn, kr, kb, kc, kx⟩
  refine ⟨σ, h, _, X', rs, rh, w, ?_, kx⟩
  intro xs kp h1 J H1 rh1 s1 hit ⟨Wf, w0, turn⟩
  refine ⟨fun i m τ' H' => m = xs.length - i ∧ i ≤ xs.length ∧ ∃ σ' h', RS Γ H' σ' τ' ∧ RH Γ h' H' ∧ Sp h1 H1 h' H' ∧ Wf i σ' h', ⟨xs.length, by simp, by simp, σ, h1, rs.mono s1.xt, rh1, .refl _ _, w0⟩, ?_⟩
  rintro i m τ2 H2 ⟨rfl, hi', σ2, h2, rs2, rh2, s2, wf⟩
  obtain ⟨kp2, step, fin⟩ := turn i σ2 h2 hi' wf
  obtain ⟨j1, j2⟩ := hit i h2 H2 s2.xt rh2 kp2
  have s12 := s1.trans s2
  by_cases hlt : i < xs.length
  · right
    obtain ⟨jg, jy⟩ := j2 xs[i] (by simp [hlt])
    refine ⟨jg, fun τ' H' => ∃ m', m' < xs.length - i ∧ m' = xs.length - (i + 1) ∧ i + 1 ≤ xs.length ∧ ∃ σ' h', RS Γ H' σ' τ' ∧ RH Γ h' H' ∧ Sp h1 H1 h' H' ∧ Wf (i + 1) σ' h', fun τ' H' ⟨m', a, b⟩ => ⟨m', a, b⟩, ?_⟩
    intro y H3 hy
    obtain ⟨ry, rh3, s3⟩ := jy y H3 hy
    refine ⟨xs[i], σ2, h2, _, X', ry, rs2.mono s3.xt, rh3, step xs[i] (by simp [hlt]), ?_, kx.step (s12.trans s3)⟩
    intro σ4 h4 τ4 H4 rs4 rh4 s4 _ q4
    have s14 := (s12.trans s3).trans s4
    have t4 := (s2.trans s3).trans s4
    refine ⟨σ4, h4, _, R, N, _, X', rs4, rh4, q4, ?_, kr.step s14, kn_step kn s14, ?_, kx.step s14⟩
    · intro σ5 h5 τ5 H5 rs5 rh5 s5 q5
      exact ⟨_, by omega, rfl, hlt, σ5, h5, rs5, rh5, t4.trans s5, q5⟩
    · intro σ5 h5 τ5 H5 rs5 rh5 s5 q5
      exact ⟨_, by omega, rfl, hlt, σ5, h5, rs5, rh5, t4.trans s5, q5⟩
  · left
    have e : i = xs.length := by omega
    exact ⟨j1 e, kn σ2 h2 τ2 H2 rs2 rh2 s12 (fin e)⟩
/-- a, b = x, y: two names of the def's own, stored the other way round -/
theorem sS_par {i j : Nat} {x y : Str} {a b : Expr} {a' b' : E} {px py pt pt2 : Pos} {kt k2 : Nat} (hc : X.calm = true) (hN : X.N.Nodup) (hi : X.N[i]? = some x) (hj : X.N[j]? = some y) (hij : i ≠ j) (hx : X.env.scope.names.lookup x = some .local) (hy : X.env.scope.names.lookup y = some .local)
    (ha : PA X [a, b] (gA Γ W (wA P Φ (.cons a' (.cons b' .nil))))) (hw : swappedStores [.Tuple [.Name x px, .Name y py] kt pt] (.Tuple [a, b] k2 pt2) X.env = pure (some [x, y]))
    (hs : swapsWithSole [.Tuple [.Name x px, .Name y py] kt pt] (.Tuple [a, b] k2 pt2) pos.line X.env = pure false) :
    PS X (.Assign [.Tuple [.Name x px, .Name y py] kt pt] (.Tuple [a, b] k2 pt2) pos) (gS Γ W (wS P Φ (.asg (.tup (.cons (.var i) (.cons (.var j) .nil))) (.tup (.cons a' (.cons b' .nil)))))) := by
  refine PS.mono (L2.ps_par hc hN hi hj hij hx hy ha hw hs) ?_
  rintro D τ H ⟨σ, h, N, R, B, C, X', rs, rh, w, kn, kr, kb, kc, kx⟩
  have w : wA P Φ (.cons a' (.cons b' .nil)) σ h (fun vs h1 => vs.length ≤ SZ ∧ wG P Φ (.tup (.cons (.var i) (.cons (.var j) .nil))) (.tup vs) σ h1 N X') X' := w
  refine ⟨σ, h, _, X', rs, rh, w, ?_, kx⟩
  intro vs h1 xs H1 rvs rh1 s1 ⟨hl, q1⟩
  rcases q1 with ⟨ws, e, _, v, r, e1, v2, r2', e2, e3, q⟩ | ⟨_, _, e, _⟩
  · cases e
    subst e1 e2 e3
    obtain ⟨y1, y2, rfl, ra, rb⟩ := r2 rvs
    exact ⟨y1, y2, rfl, kn _ h1 _ H1 (((rs.mono s1.xt).set ra i).set rb j) rh1 s1 q⟩
  · cases e
theorem r3' {H : LH} {a b c : Vl} {xs : List LV} (r : RVs Γ H [a, b, c] xs) : ∃ x y z, xs = [x, y, z] ∧ RV Γ H a x ∧ RV Γ H b y ∧ RV Γ H c z := by
  simp only [RVs] at r
  obtain ⟨x, _, rfl, h1, y, _, rfl, h2, z, _, rfl, h3, rfl⟩ := r
  exact ⟨x, y, z, rfl, h1, h2, h3⟩
theorem sS_par3 {i j l : Nat} {x y z : Str} {a b c : Expr} {a' b' c' : E} {px py pz pt pt2 : Pos} {kt k2 : Nat} (hc : X.calm = true) (hN : X.N.Nodup) (hi : X.N[i]? = some x) (hj : X.N[j]? = some y) (hl : X.N[l]? = some z) (hij : i ≠ j) (hil : i ≠ l) (hjl : j ≠ l)
    (hx : X.env.scope.names.lookup x = some .local) (hy : X.env.scope.names.lookup y = some .local) (hz : X.env.scope.names.lookup z = some .local)
    (ha : PA X [a, b, c] (gA Γ W (wA P Φ (.cons a' (.cons b' (.cons c' .nil)))))) (hw : swappedStores [.Tuple [.Name x px, .Name y py, .Name z pz] kt pt] (.Tuple [a, b, c] k2 pt2) X.env = pure (some [x, y, z]))
    (hs : swapsWithSole [.Tuple [.Name x px, .Name y py, .Name z pz] kt pt] (.Tuple [a, b, c] k2 pt2) pos.line X.env = pure false) :
    PS X (.Assign [.Tuple [.Name x px, .Name y py, .Name z pz] kt pt] (.Tuple [a, b, c] k2 pt2) pos) (gS Γ W (wS P Φ (.asg (.tup (.cons (.var i) (.cons (.var j) (.cons (.var l) .nil)))) (.tup (.cons a' (.cons b' (.cons c' .nil))))))) := by
  refine PS.mono (L2.ps_par3 hc hN hi hj hl hij hil hjl hx hy hz ha hw hs) ?_
  rintro D τ H ⟨σ, h, N, R, B, C, X', rs, rh, w, kn, kr, kb, kc, kx⟩
  have w : wA P Φ (.cons a' (.cons b' (.cons c' .nil))) σ h (fun vs h1 => vs.length ≤ SZ ∧ wG P Φ (.tup (.cons (.var i) (.cons (.var j) (.cons (.var l) .nil)))) (.tup vs) σ h1 N X') X' := w
  refine ⟨σ, h, _, X', rs, rh, w, ?_, kx⟩
  intro vs h1 xs H1 rvs rh1 s1 ⟨hl, q1⟩
  rcases q1 with ⟨ws, e, _, v, r, e1, v2, r2', e2, v3, r3', e3, e4, q⟩ | ⟨_, _, e, _⟩
  · cases e
    subst e1 e2 e3 e4
    obtain ⟨y1, y2, y3, rfl, ra, rb, rc⟩ := r3' rvs
    exact ⟨y1, y2, y3, rfl, kn _ h1 _ H1 ((((rs.mono s1.xt).set ra i).set rb j).set rc l) rh1 s1 q⟩
  · cases e
end
end KN

set_option autoImplicit false
set_option linter.all false
/-! Kern: exceptions: a caught one is kept as a value -/
namespace KN
open PySem PySem.Spec PyProof.Rows
open L2 (PE PT PW PA PS PSs OpR CallR upd Inv Hp Cx Takes WX TS Zc HOk ObjOk)
section
variable {X : Cx} {pins : List (Addr × Obj)} {σ : L2.St} {H : Hp} {s : Shared} {a : Addr} {cls : Value}
theorem exC_ok {Pr : Program} {w : World} {h : Heap} {oe : Obj} {vs : Array Value} (e : h.get? a = some oe) (z : L2.Zc cls none oe) (d : oe.data = .fields vs) : ObjOk Pr w H h a (ExC cls a) :=
  ⟨⟨oe, vs, e, z, d⟩, ⟨oe, e⟩, fun _ _ ⟨o, v, q, r⟩ k => ⟨o, v, k o q, r⟩⟩
/-- an untracked exception of ours is tracked from here on -/
theorem adopt {oe : Obj} {vs : Array Value} (I : Inv X pins σ H s) (ha : s.heap.get? a = some oe) (hd : oe.data = .fields vs) (hz : L2.Zc cls none oe) (na : H a = none) (n0 : X.s_0.heap.get? a = none) (nL : a ≠ X.env.locals) (np : ∀ p ∈ X.pn ++ pins, p.1 ≠ a) :
    Inv X pins σ (upd H a (ExC cls a)) s := by
  have n0' : ∀ b o, X.s_0.heap.get? b = some o → b ≠ a := fun b o e z => by rw [z, n0] at e; cases e
  refine ⟨I.ok, I.os, I.bare, ⟨I.base.keep, I.base.slot, fun b o e n hx => ?_, I.base.there, fun b xs e => ?_, fun b o u e => ?_, fun b ps e => ?_⟩, I.loc, I.cell, ?_, fun x c e => ?_, fun p hp => ?_, ?_, I.len⟩
  · rw [L2.upd_ne (n0' b o e)]; exact I.base.free b o e n hx
  · rw [L2.upd_ne (L2.ne_of_none (I.base.tups b xs e) na)]; exact I.base.tups b xs e
  · rw [L2.upd_ne (L2.ne_of_none (I.base.frzs b o u e) na)]; exact I.base.frzs b o u e
  · obtain ⟨m, q⟩ := I.base.tbls b ps e
    exact ⟨m, by rw [L2.upd_ne (L2.ne_of_none q na)]; exact q⟩
  · rw [L2.upd_ne (Ne.symm nL)]; exact I.free
  · have : c ≠ a := by
      rintro rfl
      obtain ⟨v, o, ho, hc⟩ := I.cell x c e
      rw [ha] at ho; cases ho
      rw [hd] at hc; cases hc
    rw [L2.upd_ne this]; exact I.freeC x c e
  · obtain ⟨e, n, r⟩ := I.pin p hp
    exact ⟨e, by rw [L2.upd_ne (np p hp)]; exact n, r⟩
  · exact I.hok.laidN (fun _ _ z => z) na (exC_ok ha hz hd)
/-- what 'except c as n: y = n' wishes of an exception: slot i is n's, slot j is y's -/
def wKeep (K : PySem.W.Frag) (c : Value) (i j : Nat) (Wout : WX) (D : L2.Ends) : WX := fun cls d σ H =>
  ∃ b, PySem.W.exmOne K cls c = some b ∧ (b = true → d = none ∧ ∀ a, H a = none → D.nx ((σ.set i (some (.ref a))).set j (some (.ref a)) |>.set i none) (upd H a (ExC cls a))) ∧ (b = false → Wout cls d σ H)
end
section
variable {X : Cx} {x n y : Str} {c : Value} {i j : Nat} {body : List Stmt} {np pos pos' p1 p2 p3 : Pos} {tb : WX → TS} {Wout : WX}
theorem ps_try_keep (hs : X.stack = X.env :: X.outer) (hf : X.env.frame = some X.env.locals) (hex : X.ex = []) (hN : X.N.Nodup) (hi : X.N[i]? = some n) (hln : X.env.kindOf n = some .local) (hc : L2.Names X x c) (tk : Takes X Wout)
    (hb : ∀ (W : WX) (pn : List (Addr × Obj)) (xe : Value → Shared → Prop), Takes (X.tr pn xe) W → PassesOwn (model X.prog X.w) X.A X.env xe → PSs (X.tr pn xe) body (tb W))
    (hsu : ∀ (a : Addr) (oe : Obj) (pn : List (Addr × Obj)), PSs (X.suite a ((a, oe) :: pn)) [.Assign [.Name y p1] (.Name n p2) p3] (L2.tAsg (L2.tVar i) (L2.gName j))) :
    PS X (.Try body [.ExceptHandler (some (.Name x np)) (some n) [.Assign [.Name y p1] (.Name n p2) p3] pos'] [] [] pos) (fun D σ H => tb (wKeep X.K c i j Wout D) D σ H) := by
  refine ⟨fun pins s σ H D I h => ?_⟩
  have ok := I.ok
  have hfr : X.A.frames = some (X.env :: X.outer) := by rw [ok.frames, hs]
  refine wpAny_Try_except ?_
  refine wpAny_mono ((hb (wKeep X.K c i j Wout D) (X.pn ++ pins) (fun e s1 => wpAny (model X.prog X.w) X.A (noteFrame e X.env) (fun _ s2 => wpAny (model X.prog X.w) X.A (setFlight e none) (fun _ s3 =>
    wpAny (model X.prog X.w) X.A (handleBy e X.env [.ExceptHandler (some (.Name x np)) (some n) [.Assign [.Name y p1] (.Name n p2) p3] pos']) (L2.SP X pins D) X.xe s3) X.xe s2) X.xe s1) (fun u s' xx => ?_) PassesOwn.looking).run [] s σ H D (I.toTry _) h) (fun f s1 hsp => ?_) (fun e s1 he => he)
  rotate_left
  · cases f with
    | next =>
      obtain ⟨σ1, H1, J1, q1⟩ := hsp
      exact wpAny_execs_nil ⟨σ1, H1, J1.ofTry ok, q1⟩
    | brk =>
      obtain ⟨σ1, H1, J1, q1⟩ := hsp
      exact ⟨σ1, H1, J1.ofTry ok, q1⟩
    | cont =>
      obtain ⟨σ1, H1, J1, q1⟩ := hsp
      exact ⟨σ1, H1, J1.ofTry ok, q1⟩
    | ret u =>
      obtain ⟨v, σ1, H1, J1, r1, q1⟩ := hsp
      exact ⟨v, σ1, H1, J1.ofTry ok, r1, q1⟩
  obtain ⟨a, B, sI, pins', σ1, H1, cls, d, rfl, J', nb, up, sky, na, os, ag, b, hb1, hyes, hno⟩ := xx
  have J : Inv X pins σ1 H1 sI := J'.ofTry ok
  rw [hs] at sky
  show wpAny (model X.prog X.w) X.A (noteFrame (.ref a) X.env) _ _ _
  refine L2.Sky.land L2.Zc.steady hfr hf sky fun h3 fl3 up3 => ?_
  have J3 : Inv X pins σ1 H1 { s' with heap := h3 } := J.landed nb fl3.1 (up.trans up3) os ag
  have nB : B.get? a = none := fl3.2.1
  obtain ⟨oe3, vs3, he3, hz3, hd3⟩ := fl3.there
  -- where it does not stand
  have nfr : a ∉ L2.frs X.stack := fun hm => by
    rw [hs] at hm
    obtain ⟨_, o', e', hnf⟩ := fl3.2.2.1.mem hm
    rw [he3] at e'; cases e'
    exact hnf _ hd3
  have nL : a ≠ X.env.locals := fun z => nfr (by rw [hs]; exact List.mem_filterMap.mpr ⟨X.env, List.mem_cons_self, by rw [hf, z]⟩)
  have nF : a ∉ X.fs := fun hm => by
    obtain ⟨e, he, q⟩ := List.mem_filterMap.mp hm
    exact nfr (by rw [hs]; exact List.mem_filterMap.mpr ⟨e, List.mem_cons_of_mem _ he, q⟩)
  have nI : sI.heap.get? a = none := by
    cases e : sI.heap.get? a with
    | none => rfl
    | some o => have := nb a o e nfr; rw [nB] at this; cases this
  have n0 : X.s_0.heap.get? a = none := by
    cases e : X.s_0.heap.get? a with
    | none => rfl
    | some o =>
      obtain ⟨o', q⟩ := J.base.there a o e (by rw [hex]; exact fun z => nomatch z)
      rw [nI] at q; cases q
  have npin : ∀ p ∈ X.pn ++ pins, p.1 ≠ a := fun p hp z => by
    have := (J.pin p hp).1
    rw [z, nI] at this; cases this
  have S3 := J3.suite he3 hd3 na nL nF
  refine wpAny_handleBy_cons (codeAny_handlers_test ?_) (by intro q; cases q)
  have LT : PySem.W.Looks (model X.prog X.w) h3 (typeOf (.ref a)) cls := fun A Q E s k q => wpAny_typeOf_ref (k _ _ he3) (by rw [hz3.1]; exact q)
  have LM := PySem.W.exm_one (M := model X.prog X.w) (J3.kIn) LT hb1
  have test : ∀ {Q : Value → Shared → Prop} {E : Value → Shared → Prop}, Q c { s' with heap := h3 } → wpAny (model X.prog X.w) (X.A.mark (some (.ref a))) (eval (.Name x np) X.env) Q E { s' with heap := h3 } := fun {Q E} q => by
    obtain ⟨hg, hdbg, hm | ⟨hm, hv, hnn⟩⟩ := hc
    · exact L2.ld_glob (X := X.suite a ((a, oe3) :: (X.pn ++ pins))) S3 hg hm q hdbg
    · exact L2.ld_blt (X := X.suite a ((a, oe3) :: (X.pn ++ pins))) S3 hg hm hv q hnn hdbg
  refine test (LM.here ?_)
  cases b with
  | true =>
    obtain ⟨rfl, hy2⟩ := hyes rfl
    refine codeAny_handlers_suite_as ?_
    refine HandSPX.lands_againZ fl3 fun h4 fl4 up4 => ?_
    have J4 : Inv X pins σ1 H1 { s' with heap := h4 } := J.landed nb fl4.1 ((up.trans up3).trans up4) os ag
    obtain ⟨oe4, vs4, he4, hz4, hd4⟩ := fl4.there
    have S4 := J4.suite he4 hd4 na nL nF
    refine L2.store_ok (X := X.suite a ((a, oe4) :: (X.pn ++ pins))) (v := .ref a) S4 hN hi (.inl hln) rfl (fun s5 S5 => ?_) (.inr hln)
    have hlen : i < σ1.length := by rw [J.len]; exact (List.getElem?_eq_some_iff.mp hi).1
    have want : L2.tAsg (L2.tVar i) (L2.gName j) ⟨fun σ6 H6 => σ6 = (σ1.set i (some (.ref a))).set j (some (.ref a)) ∧ H6 = H1, fun _ _ => False, fun _ _ => False, fun _ _ => False⟩ (σ1.set i (some (.ref a))) H1 :=
      ⟨.ref a, by rw [List.getElem?_set_self hlen], rfl, rfl⟩
    refine wpAny_mono ((hsu a oe4 (X.pn ++ pins)).run [] s5 _ H1 _ S5 want) (fun f s6 hsp => ?_) (fun _ _ z => False.elim z)
    cases f with
    | next =>
      obtain ⟨σ6, H6, S6, rfl, rfl⟩ := hsp
      refine L2.gone_ok (X := X.suite a ((a, oe4) :: (X.pn ++ pins))) S6 hN hi hln fun s7 S7 => ?_
      have ho := (S7.pin (a, oe4) (List.mem_append_left _ List.mem_cons_self)).1
      exact ⟨_, _, adopt (S7.unsuite ok) ho hd4 hz4 na n0 nL npin, hy2 a na⟩
    | brk =>
      obtain ⟨_, _, _, z⟩ := hsp
      exact z.elim
    | cont =>
      obtain ⟨_, _, _, z⟩ := hsp
      exact z.elim
    | ret u =>
      obtain ⟨_, _, _, _, _, z⟩ := hsp
      exact z.elim
  | false =>
    show wpAny _ X.A (handleBy (.ref a) X.env []) _ _ _
    refine wpAny_handleBy_nil ?_
    obtain ⟨k1, k2, k3, oe, vs, T, oT, ts', he, hz, hd, h1, hr⟩ := id fl3
    unfold PySem.passOn
    refine wpAny_bind (wpAny_field he hd h1 ?_)
    rw [if_neg (show ¬ ((Value.ref T == Value.none) = true) from by simp)]
    have fin : wpAny (model X.prog X.w) X.A (setFlight (.ref a) X.env.frame) (fun _ s4 => wpAny (model X.prog X.w) X.A (throw (.ref a) : Sem Flow) (L2.SP X pins D) X.xe s4) X.xe { s' with heap := h3 } := by
      rw [hf]
      refine HandSPX.setFlight_upZ fl3 fun h4 hh4 up4 => wpAny_throw (tk _ _ ?_)
      exact ⟨a, B, sI, pins, σ1, H1, cls, d, rfl, J, nb, (up.trans up3).trans up4, .inr (.inr (by rw [hs]; exact hh4)), na, os, ag, hno rfl⟩
    first
      | exact wpAny_bind (wpAny_pure (wpAny_bind fin))
      | exact wpAny_bind fin
end
/-! a suite in which the caught one is a value from the start -/
section
variable {X : Cx} {pins : List (Addr × Obj)} {σ : L2.St} {H : Hp} {s : Shared} {a : Addr}
theorem suite0 (A4 : Inv X pins σ H s) : Inv (X.suite a (X.pn ++ pins)) [] σ H s :=
  ⟨A4.ok.suite _ _, A4.os, A4.bare, A4.base, A4.loc, A4.cell, A4.free, A4.freeC, fun p hp => A4.pin p (by rw [List.append_nil] at hp; exact hp), A4.hok, A4.len⟩
theorem unsuite0 {pn' : List (Addr × Obj)} (I : Inv (X.suite a (X.pn ++ pins)) pn' σ H s) (ok : X.Ok) : Inv X pins σ H s :=
  ⟨ok, I.os, I.bare, I.base, I.loc, I.cell, I.free, I.freeC, fun p hp => I.pin p (List.mem_append_left _ hp), I.hok, I.len⟩
@[reducible] def lSet (σ : L2.St) : Option Nat → Addr → L2.St
  | some i, a => σ.set i (some (.ref a))
  | none, _ => σ
@[reducible] def lGo (σ : L2.St) : Option Nat → L2.St
  | some i => σ.set i none
  | none => σ
def wHot (K : PySem.W.Frag) (c : Value) (i : Option Nat) (ts : TS) (Wout : WX) (D : L2.Ends) : WX := fun cls d σ H =>
  ∃ b, PySem.W.exmOne K cls c = some b ∧ (b = true → d = none ∧ ∀ a, H a = none → ts { nx := fun σ' H' => D.nx (lGo σ' i) H', rt := fun _ _ => False, bk := fun _ _ => False, ct := fun _ _ => False } (lSet σ i a) (upd H a (ExC cls a))) ∧ (b = false → Wout cls d σ H)
end
section
variable {X : Cx} {x n : Str} {c : Value} {i : Nat} {body suite : List Stmt} {b0 : Stmt} {np pos pos' : Pos} {tb : WX → TS} {ts : TS} {Wout : WX}
theorem ps_try_hotA (hs : X.stack = X.env :: X.outer) (hf : X.env.frame = some X.env.locals) (hex : X.ex = []) (hN : X.N.Nodup) (hi : X.N[i]? = some n) (hln : X.env.kindOf n = some .local) (hc : L2.Names X x c) (tk : Takes X Wout)
    (hb : ∀ (W : WX) (pn : List (Addr × Obj)) (xe : Value → Shared → Prop), Takes (X.tr pn xe) W → PassesOwn (model X.prog X.w) X.A X.env xe → PSs (X.tr pn xe) body (tb W))
    (hsu : ∀ (a : Addr) (pn : List (Addr × Obj)), PSs (X.suite a pn) (b0 :: suite) ts) :
    PS X (.Try body [.ExceptHandler (some (.Name x np)) (some n) (b0 :: suite) pos'] [] [] pos) (fun D σ H => tb (wHot X.K c (some i) ts Wout D) D σ H) := by
  refine ⟨fun pins s σ H D I h => ?_⟩
  have ok := I.ok
  have hfr : X.A.frames = some (X.env :: X.outer) := by rw [ok.frames, hs]
  refine wpAny_Try_except ?_
  refine wpAny_mono ((hb (wHot X.K c (some i) ts Wout D) (X.pn ++ pins) (fun e s1 => wpAny (model X.prog X.w) X.A (noteFrame e X.env) (fun _ s2 => wpAny (model X.prog X.w) X.A (setFlight e none) (fun _ s3 =>
    wpAny (model X.prog X.w) X.A (handleBy e X.env [.ExceptHandler (some (.Name x np)) (some n) (b0 :: suite) pos']) (L2.SP X pins D) X.xe s3) X.xe s2) X.xe s1) (fun u s' xx => ?_) PassesOwn.looking).run [] s σ H D (I.toTry _) h) (fun f s1 hsp => ?_) (fun e s1 he => he)
  rotate_left
  · cases f with
    | next =>
      obtain ⟨σ1, H1, J1, q1⟩ := hsp
      exact wpAny_execs_nil ⟨σ1, H1, J1.ofTry ok, q1⟩
    | brk =>
      obtain ⟨σ1, H1, J1, q1⟩ := hsp
      exact ⟨σ1, H1, J1.ofTry ok, q1⟩
    | cont =>
      obtain ⟨σ1, H1, J1, q1⟩ := hsp
      exact ⟨σ1, H1, J1.ofTry ok, q1⟩
    | ret u =>
      obtain ⟨v, σ1, H1, J1, r1, q1⟩ := hsp
      exact ⟨v, σ1, H1, J1.ofTry ok, r1, q1⟩
  obtain ⟨a, B, sI, pins', σ1, H1, cls, d, rfl, J', nb, up, sky, na, os, ag, b, hb1, hyes, hno⟩ := xx
  have J : Inv X pins σ1 H1 sI := J'.ofTry ok
  rw [hs] at sky
  show wpAny (model X.prog X.w) X.A (noteFrame (.ref a) X.env) _ _ _
  refine L2.Sky.land L2.Zc.steady hfr hf sky fun h3 fl3 up3 => ?_
  have J3 : Inv X pins σ1 H1 { s' with heap := h3 } := J.landed nb fl3.1 (up.trans up3) os ag
  have nB : B.get? a = none := fl3.2.1
  obtain ⟨oe3, vs3, he3, hz3, hd3⟩ := fl3.there
  -- where it does not stand
  have nfr : a ∉ L2.frs X.stack := fun hm => by
    rw [hs] at hm
    obtain ⟨_, o', e', hnf⟩ := fl3.2.2.1.mem hm
    rw [he3] at e'; cases e'
    exact hnf _ hd3
  have nL : a ≠ X.env.locals := fun z => nfr (by rw [hs]; exact List.mem_filterMap.mpr ⟨X.env, List.mem_cons_self, by rw [hf, z]⟩)
  have nF : a ∉ X.fs := fun hm => by
    obtain ⟨e, he, q⟩ := List.mem_filterMap.mp hm
    exact nfr (by rw [hs]; exact List.mem_filterMap.mpr ⟨e, List.mem_cons_of_mem _ he, q⟩)
  have nI : sI.heap.get? a = none := by
    cases e : sI.heap.get? a with
    | none => rfl
    | some o => have := nb a o e nfr; rw [nB] at this; cases this
  have n0 : X.s_0.heap.get? a = none := by
    cases e : X.s_0.heap.get? a with
    | none => rfl
    | some o =>
      obtain ⟨o', q⟩ := J.base.there a o e (by rw [hex]; exact fun z => nomatch z)
      rw [nI] at q; cases q
  have npin : ∀ p ∈ X.pn ++ pins, p.1 ≠ a := fun p hp z => by
    have := (J.pin p hp).1
    rw [z, nI] at this; cases this
  have S3 := J3.suite he3 hd3 na nL nF
  refine wpAny_handleBy_cons (codeAny_handlers_test ?_) (by intro q; cases q)
  have LT : PySem.W.Looks (model X.prog X.w) h3 (typeOf (.ref a)) cls := fun A Q E s k q => wpAny_typeOf_ref (k _ _ he3) (by rw [hz3.1]; exact q)
  have LM := PySem.W.exm_one (M := model X.prog X.w) (J3.kIn) LT hb1
  have test : ∀ {Q : Value → Shared → Prop} {E : Value → Shared → Prop}, Q c { s' with heap := h3 } → wpAny (model X.prog X.w) (X.A.mark (some (.ref a))) (eval (.Name x np) X.env) Q E { s' with heap := h3 } := fun {Q E} q => by
    obtain ⟨hg, hdbg, hm | ⟨hm, hv, hnn⟩⟩ := hc
    · exact L2.ld_glob (X := X.suite a ((a, oe3) :: (X.pn ++ pins))) S3 hg hm q hdbg
    · exact L2.ld_blt (X := X.suite a ((a, oe3) :: (X.pn ++ pins))) S3 hg hm hv q hnn hdbg
  refine test (LM.here ?_)
  cases b with
  | true =>
    obtain ⟨rfl, hy2⟩ := hyes rfl
    refine codeAny_handlers_suite_as ?_
    refine HandSPX.lands_againZ fl3 fun h4 fl4 up4 => ?_
    have J4 : Inv X pins σ1 H1 { s' with heap := h4 } := J.landed nb fl4.1 ((up.trans up3).trans up4) os ag
    obtain ⟨oe4, vs4, he4, hz4, hd4⟩ := fl4.there
    have S4 := suite0 (a := a) (adopt J4 he4 hd4 hz4 na n0 nL npin)
    refine L2.store_ok (X := X.suite a (X.pn ++ pins)) (v := .ref a) S4 hN hi (.inl hln) rfl (fun s5 S5 => ?_) (.inr hln)
    refine wpAny_mono ((hsu a (X.pn ++ pins)).run [] s5 _ _ _ S5 (hy2 a na)) (fun f s6 hsp => ?_) (fun _ _ z => False.elim z)
    cases f with
    | next =>
      obtain ⟨σ6, H6, S6, q6⟩ := hsp
      exact L2.gone_ok (X := X.suite a (X.pn ++ pins)) S6 hN hi hln fun s7 S7 => ⟨_, _, unsuite0 S7 ok, q6⟩
    | brk =>
      obtain ⟨_, _, _, z⟩ := hsp
      exact z.elim
    | cont =>
      obtain ⟨_, _, _, z⟩ := hsp
      exact z.elim
    | ret u =>
      obtain ⟨_, _, _, _, _, z⟩ := hsp
      exact z.elim
  | false =>
    show wpAny _ X.A (handleBy (.ref a) X.env []) _ _ _
    refine wpAny_handleBy_nil ?_
    obtain ⟨k1, k2, k3, oe, vs, T, oT, ts', he, hz, hd, h1, hr⟩ := id fl3
    unfold PySem.passOn
    refine wpAny_bind (wpAny_field he hd h1 ?_)
    rw [if_neg (show ¬ ((Value.ref T == Value.none) = true) from by simp)]
    have fin : wpAny (model X.prog X.w) X.A (setFlight (.ref a) X.env.frame) (fun _ s4 => wpAny (model X.prog X.w) X.A (throw (.ref a) : Sem Flow) (L2.SP X pins D) X.xe s4) X.xe { s' with heap := h3 } := by
      rw [hf]
      refine HandSPX.setFlight_upZ fl3 fun h4 hh4 up4 => wpAny_throw (tk _ _ ?_)
      exact ⟨a, B, sI, pins, σ1, H1, cls, d, rfl, J, nb, (up.trans up3).trans up4, .inr (.inr (by rw [hs]; exact hh4)), na, os, ag, hno rfl⟩
    first
      | exact wpAny_bind (wpAny_pure (wpAny_bind fin))
      | exact wpAny_bind fin
theorem ps_try_hotN (hs : X.stack = X.env :: X.outer) (hf : X.env.frame = some X.env.locals) (hex : X.ex = []) (hc : L2.Names X x c) (tk : Takes X Wout)
    (hb : ∀ (W : WX) (pn : List (Addr × Obj)) (xe : Value → Shared → Prop), Takes (X.tr pn xe) W → PassesOwn (model X.prog X.w) X.A X.env xe → PSs (X.tr pn xe) body (tb W))
    (hsu : ∀ (a : Addr) (pn : List (Addr × Obj)), PSs (X.suite a pn) (b0 :: suite) ts) :
    PS X (.Try body [.ExceptHandler (some (.Name x np)) (none) (b0 :: suite) pos'] [] [] pos) (fun D σ H => tb (wHot X.K c none ts Wout D) D σ H) := by
  refine ⟨fun pins s σ H D I h => ?_⟩
  have ok := I.ok
  have hfr : X.A.frames = some (X.env :: X.outer) := by rw [ok.frames, hs]
  refine wpAny_Try_except ?_
  refine wpAny_mono ((hb (wHot X.K c none ts Wout D) (X.pn ++ pins) (fun e s1 => wpAny (model X.prog X.w) X.A (noteFrame e X.env) (fun _ s2 => wpAny (model X.prog X.w) X.A (setFlight e none) (fun _ s3 =>
    wpAny (model X.prog X.w) X.A (handleBy e X.env [.ExceptHandler (some (.Name x np)) (none) (b0 :: suite) pos']) (L2.SP X pins D) X.xe s3) X.xe s2) X.xe s1) (fun u s' xx => ?_) PassesOwn.looking).run [] s σ H D (I.toTry _) h) (fun f s1 hsp => ?_) (fun e s1 he => he)
  rotate_left
  · cases f with
    | next =>
      obtain ⟨σ1, H1, J1, q1⟩ := hsp
      exact wpAny_execs_nil ⟨σ1, H1, J1.ofTry ok, q1⟩
    | brk =>
      obtain ⟨σ1, H1, J1, q1⟩ := hsp
      exact ⟨σ1, H1, J1.ofTry ok, q1⟩
    | cont =>
      obtain ⟨σ1, H1, J1, q1⟩ := hsp
      exact ⟨σ1, H1, J1.ofTry ok, q1⟩
    | ret u =>
      obtain ⟨v, σ1, H1, J1, r1, q1⟩ := hsp
      exact ⟨v, σ1, H1, J1.ofTry ok, r1, q1⟩
  obtain ⟨a, B, sI, pins', σ1, H1, cls, d, rfl, J', nb, up, sky, na, os, ag, b, hb1, hyes, hno⟩ := xx
  have J : Inv X pins σ1 H1 sI := J'.ofTry ok
  rw [hs] at sky
  show wpAny (model X.prog X.w) X.A (noteFrame (.ref a) X.env) _ _ _
  refine L2.Sky.land L2.Zc.steady hfr hf sky fun h3 fl3 up3 => ?_
  have J3 : Inv X pins σ1 H1 { s' with heap := h3 } := J.landed nb fl3.1 (up.trans up3) os ag
  have nB : B.get? a = none := fl3.2.1
  obtain ⟨oe3, vs3, he3, hz3, hd3⟩ := fl3.there
  -- where it does not stand
  have nfr : a ∉ L2.frs X.stack := fun hm => by
    rw [hs] at hm
    obtain ⟨_, o', e', hnf⟩ := fl3.2.2.1.mem hm
    rw [he3] at e'; cases e'
    exact hnf _ hd3
  have nL : a ≠ X.env.locals := fun z => nfr (by rw [hs]; exact List.mem_filterMap.mpr ⟨X.env, List.mem_cons_self, by rw [hf, z]⟩)
  have nF : a ∉ X.fs := fun hm => by
    obtain ⟨e, he, q⟩ := List.mem_filterMap.mp hm
    exact nfr (by rw [hs]; exact List.mem_filterMap.mpr ⟨e, List.mem_cons_of_mem _ he, q⟩)
  have nI : sI.heap.get? a = none := by
    cases e : sI.heap.get? a with
    | none => rfl
    | some o => have := nb a o e nfr; rw [nB] at this; cases this
  have n0 : X.s_0.heap.get? a = none := by
    cases e : X.s_0.heap.get? a with
    | none => rfl
    | some o =>
      obtain ⟨o', q⟩ := J.base.there a o e (by rw [hex]; exact fun z => nomatch z)
      rw [nI] at q; cases q
  have npin : ∀ p ∈ X.pn ++ pins, p.1 ≠ a := fun p hp z => by
    have := (J.pin p hp).1
    rw [z, nI] at this; cases this
  have S3 := J3.suite he3 hd3 na nL nF
  refine wpAny_handleBy_cons (codeAny_handlers_test ?_) (by intro q; cases q)
  have LT : PySem.W.Looks (model X.prog X.w) h3 (typeOf (.ref a)) cls := fun A Q E s k q => wpAny_typeOf_ref (k _ _ he3) (by rw [hz3.1]; exact q)
  have LM := PySem.W.exm_one (M := model X.prog X.w) (J3.kIn) LT hb1
  have test : ∀ {Q : Value → Shared → Prop} {E : Value → Shared → Prop}, Q c { s' with heap := h3 } → wpAny (model X.prog X.w) (X.A.mark (some (.ref a))) (eval (.Name x np) X.env) Q E { s' with heap := h3 } := fun {Q E} q => by
    obtain ⟨hg, hdbg, hm | ⟨hm, hv, hnn⟩⟩ := hc
    · exact L2.ld_glob (X := X.suite a ((a, oe3) :: (X.pn ++ pins))) S3 hg hm q hdbg
    · exact L2.ld_blt (X := X.suite a ((a, oe3) :: (X.pn ++ pins))) S3 hg hm hv q hnn hdbg
  refine test (LM.here ?_)
  cases b with
  | true =>
    obtain ⟨rfl, hy2⟩ := hyes rfl
    refine codeAny_handlers_suite ?_
    refine HandSPX.lands_againZ fl3 fun h4 fl4 up4 => ?_
    have J4 : Inv X pins σ1 H1 { s' with heap := h4 } := J.landed nb fl4.1 ((up.trans up3).trans up4) os ag
    obtain ⟨oe4, vs4, he4, hz4, hd4⟩ := fl4.there
    have S4 := suite0 (a := a) (adopt J4 he4 hd4 hz4 na n0 nL npin)
    refine wpAny_mono ((hsu a (X.pn ++ pins)).run [] _ _ _ _ S4 (hy2 a na)) (fun f s6 hsp => ?_) (fun _ _ z => False.elim z)
    cases f with
    | next =>
      obtain ⟨σ6, H6, S6, q6⟩ := hsp
      exact ⟨_, _, unsuite0 S6 ok, q6⟩
    | brk =>
      obtain ⟨_, _, _, z⟩ := hsp
      exact z.elim
    | cont =>
      obtain ⟨_, _, _, z⟩ := hsp
      exact z.elim
    | ret u =>
      obtain ⟨_, _, _, _, _, z⟩ := hsp
      exact z.elim
  | false =>
    show wpAny _ X.A (handleBy (.ref a) X.env []) _ _ _
    refine wpAny_handleBy_nil ?_
    obtain ⟨k1, k2, k3, oe, vs, T, oT, ts', he, hz, hd, h1, hr⟩ := id fl3
    unfold PySem.passOn
    refine wpAny_bind (wpAny_field he hd h1 ?_)
    rw [if_neg (show ¬ ((Value.ref T == Value.none) = true) from by simp)]
    have fin : wpAny (model X.prog X.w) X.A (setFlight (.ref a) X.env.frame) (fun _ s4 => wpAny (model X.prog X.w) X.A (throw (.ref a) : Sem Flow) (L2.SP X pins D) X.xe s4) X.xe { s' with heap := h3 } := by
      rw [hf]
      refine HandSPX.setFlight_upZ fl3 fun h4 hh4 up4 => wpAny_throw (tk _ _ ?_)
      exact ⟨a, B, sI, pins, σ1, H1, cls, d, rfl, J, nb, (up.trans up3).trans up4, .inr (.inr (by rw [hs]; exact hh4)), na, os, ag, hno rfl⟩
    first
      | exact wpAny_bind (wpAny_pure (wpAny_bind fin))
      | exact wpAny_bind fin
end
/-! isinstance of a kept exception -/
def rIsX (K : PySem.W.Frag) : List LV → LH → L2.VK → Prop := fun xs H Q => ∃ (a C : Addr) (c : LV) (cv : Value) (b : Bool), xs = [.ref a, c] ∧ H a = some (ExC (.ref C) a) ∧ L2.ExcC K C ∧ (∀ u, L2.RelV c u → u = cv) ∧ PySem.W.kitOne K (.ref C) cv = some b ∧ Q (.bl b) H
theorem call_isX {X : Cx} : CallR X (.builtin "isinstance") (rIsX X.K) := by
  intro pins s σ H xs us Q I r h
  obtain ⟨a, C, c, cv, b, rfl, ha, C0, hcv, e, q⟩ := h
  cases r with
  | cons rx rr =>
    cases rr with
    | cons rt rr =>
      cases rr
      cases rx
      have ec := hcv _ rt
      subst ec
      obtain ⟨⟨oe, vs, ho, hz, hd⟩, _, _⟩ := I.hok a _ ha
      have J : PySem.W.InstAt s.heap a oe C none := by
        obtain ⟨oc, od, oda, osl⟩ := oe
        obtain ⟨h1, h2⟩ := hz
        dsimp only at h1 h2 hd
        subst h1 h2 hd
        exact ⟨ho, rfl, rfl, trivial⟩
      exact PySem.W.kia_one (PySem.W.handS_kitx_exc C0.hg C0.hk C0.hs C0.hd C0.ha C0.hn C0.ht C0.hm) I.kIn J e (fun z => nomatch z) fun tk => ⟨.bl b, H, I.kept (t' := tk) fun _ _ z => z, rfl, q⟩
def kdV (sub : Nat → Nat → Bool) (c : Nat) : Kd → Bool
  | .cls d => sub c d
  | _ => true
theorem isaX_ty {h : AH} {sub : Nat → Nat → Bool} {v : Vl} {k : Kd} {b : Bool} (hk : kdP k = false) (e : isaK h sub v k = some b) : ∃ a c r, v = .ref a ∧ get h a = some (.exc c r) ∧ kdV sub c k = b := by
  cases v with
  | ref a =>
    simp only [isaK] at e
    cases g : get h a with
    | none => simp [g] at e
    | some o =>
      cases o with
      | exc c r => exact ⟨a, c, r, rfl, g, by cases k <;> first | (simp [kdP] at hk; done) | (simp [g] at e; subst e; rfl)⟩
      | lst xs => cases k <;> first | (simp [kdP] at hk; done) | (simp [g] at e; done)
      | rol xs => simp [g] at e
      | dct xs => simp [g] at e
      | fdc xs => simp [g] at e
      | dtp xs => simp [g] at e
      | ins _ _ => simp [g] at e
  | non => cases k <;> first | (simp [kdP] at hk; done) | (simp [isaK] at e; done)
  | bl _ => cases k <;> first | (simp [kdP] at hk; done) | (simp [isaK] at e; done)
  | int _ => cases k <;> first | (simp [kdP] at hk; done) | (simp [isaK] at e; done)
  | str _ => cases k <;> first | (simp [kdP] at hk; done) | (simp [isaK] at e; done)
  | tup _ => cases k <;> first | (simp [kdP] at hk; done) | (simp [isaK] at e; done)
  | fn _ => simp [isaK] at e
  | gd _ => simp [isaK] at e
def KdX (X : Cx) (Γ : Nm) (P : PG) (k : Kd) (cv : LV) : Prop := kdP k = false ∧ ∃ u, (∀ u', L2.RelV cv u' → u' = u) ∧ ∀ c C, Γ.ea c = some C → L2.ExcC X.K C ∧ PySem.W.kitOne X.K (.ref C) u = some (kdV P.sub c k)
def Sole (cv : LV) (u : Value) : Prop := ∀ u', L2.RelV cv u' → u' = u
theorem sole_all : ∀ {cvs : List LV} {us its : List Value}, Paired Sole cvs us → L2.Vals cvs its → its = us
  | _, _, _, .nil, .nil => rfl
  | _, _, _, .cons h t, .cons r rr => by rw [h _ r, sole_all t rr]
def rIsXT (K : PySem.W.Frag) : List LV → LH → L2.VK → Prop := fun xs H Q => ∃ (a C tp : Addr) (cvs : List LV) (us : List Value) (b : Bool), xs = [.ref a, .ref tp] ∧ H a = some (ExC (.ref C) a) ∧ H tp = some (.tup cvs) ∧ L2.ExcC K C ∧ Paired Sole cvs us ∧ PySem.W.kitAny K (.ref C) us = some b ∧ Q (.bl b) H
theorem call_isXT {X : Cx} : CallR X (.builtin "isinstance") (rIsXT X.K) := by
  intro pins s σ H xs us Q I r h
  obtain ⟨a, C, tp, cvs, ws, b, rfl, ha, hT, C0, pr, e, q⟩ := h
  cases r with
  | cons rx rr =>
    cases rr with
    | cons rt rr =>
      cases rr
      cases rx
      cases rt
      obtain ⟨⟨oe, vs, ho, hz, hd⟩, _, _⟩ := I.hok a _ ha
      obtain ⟨_, its, rv, o, h1, h2, n, h3⟩ := (show ObjOk X.prog X.w H s.heap tp (.tup cvs) from I.hok tp _ hT)
      have e3 := sole_all pr rv
      subst e3
      obtain ⟨oc, od, dt, sl⟩ := o
      simp only at h2 h3
      subst h2 h3
      have J : PySem.W.InstAt s.heap a oe C none := by
        obtain ⟨oc, od, oda, osl⟩ := oe
        obtain ⟨h1, h2⟩ := hz
        dsimp only at h1 h2 hd
        subst h1 h2 hd
        exact ⟨ho, rfl, rfl, trivial⟩
      exact PySem.W.kia_tup (PySem.W.handS_kitx_exc C0.hg C0.hk C0.hs C0.hd C0.ha C0.hn C0.ht C0.hm) I.kIn J h1 e (fun z => nomatch z) fun tk => ⟨.bl b, H, I.kept (t' := tk) fun _ _ z => z, rfl, q⟩
inductive KdXs (X : Cx) (Γ : Nm) (P : PG) : List Kd → List LV → Prop
  | nil : KdXs X Γ P [] []
  | cons {k : Kd} {cv : LV} {ks : List Kd} {cvs : List LV} : KdX X Γ P k cv → KdXs X Γ P ks cvs → KdXs X Γ P (k :: ks) (cv :: cvs)
theorem KdXs.length {X : Cx} {Γ : Nm} {P : PG} {ks : List Kd} {cvs : List LV} (h : KdXs X Γ P ks cvs) : ks.length = cvs.length := by
  induction h with
  | nil => rfl
  | cons _ _ ih => simp [ih]
theorem kdXs_any {X : Cx} {Γ : Nm} {P : PG} {ks : List Kd} {cvs : List LV} (hk : KdXs X Γ P ks cvs) : ∃ us, Paired Sole cvs us ∧ ∀ c C, Γ.ea c = some C → PySem.W.kitAny X.K (.ref C) us = some (ks.any (kdV P.sub c)) := by
  induction hk with
  | nil => exact ⟨[], .nil, fun _ _ _ => rfl⟩
  | @cons k cv ks cvs hk hr ih =>
    obtain ⟨kp, u, c1, c2⟩ := hk
    obtain ⟨us, p, f⟩ := ih
    refine ⟨u :: us, .cons c1 p, fun c C hC => ?_⟩
    refine L2.kitAny_cons (c2 c C hC).2 (fun e1 => ?_) (fun e1 => ?_)
    · rw [f c C hC, List.any_cons, e1]; rfl
    · rw [List.any_cons, e1]; rfl
theorem isaX_any {h : AH} {sub : Nat → Nat → Bool} {a c : Nat} {r : Option Vl} (g : get h a = some (.exc c r)) : ∀ {ks : List Kd} {b : Bool}, (∀ k ∈ ks, kdP k = false) → isaKs h sub (.ref a) ks = some b → ks.any (kdV sub c) = b
  | [], b, _, e => by simp only [isaKs, Option.some.injEq] at e; exact e
  | k :: ks, b, hp, e => by
    simp only [isaKs] at e
    cases z : isaK h sub (.ref a) k with
    | none => simp [z] at e
    | some b1 =>
      cases z2 : isaKs h sub (.ref a) ks with
      | none => simp [z, z2] at e
      | some b2 =>
        simp only [z, z2, Option.some.injEq] at e
        obtain ⟨a', c', r', e1, g', hb⟩ := isaX_ty (hp k List.mem_cons_self) z
        cases e1
        rw [g] at g'; cases g'
        rw [List.any_cons, hb, isaX_any g (fun k hk => hp k (List.mem_cons_of_mem _ hk)) z2, e]
/-- what is to be known of an exception's class that is raised -/
structure ExOk (K : PySem.W.Frag) (C : Addr) : Prop where
  q : PySem.W.excIn K C He.veBase "ValueError.__new__" = true
  k : PySem.W.keepIn K (.ref C) = true
  s : PySem.W.subIn K (.ref C) (.type "BaseException") = some true
  t : PySem.W.typeIn K (.ref C) = some (.type "type")
section
variable {X : Cx} {Γ : Nm} {W : WX} {P : PG} {Φ : Phi} {pos : Pos} {e : Expr} {e' : E}
theorem sE_isaX {p : Pos} {c : Expr} {k : Kd} {cv : LV} (hg : L2.Gl X "isinstance") (hm : X.mg "isinstance" = none) (hk : KdX X Γ P k cv) (he : PE X e (gE Γ W (wE P Φ e'))) (hc : PE X c (L2.tC cv))
    (hs : starEach [e, c] X.env = (false, eval e X.env) :: starEach [c] X.env) (hs2 : starEach [c] X.env = (false, eval c X.env) :: starEach [] X.env) :
    PE X (.Call (.Name "isinstance" p) [e, c] [] pos) (gE Γ W (wE P Φ (.isa e' [k]))) := by
  refine PE.mono (L2.pe_callB call_isX hg hm (by decide +kernel) (L2.pa_cons he (L2.pa_cons hc L2.pa_nil hs2) hs) (he := hs) (hpl := by rw [hs2]; rfl)) ?_
  rintro τ H Q' ⟨σ, h, Q, X', rs, rh, w, kq, kx⟩
  refine ⟨σ, h, _, X', rs, rh, w, ?_, kx⟩
  intro v h1 x H1 rv rh1 s1 ⟨b, e1, q1⟩
  obtain ⟨kp, u, c1, c2⟩ := hk
  have e2 : isaK h1 P.sub v k = some b := by
    simp only [isaKs] at e1
    cases z : isaK h1 P.sub v k with
    | none => simp [z] at e1
    | some b' => simp [z] at e1; rw [e1]
  obtain ⟨a, ec, r, rfl, g, hb⟩ := isaX_ty kp e2
  obtain ⟨C, -, hC, hH⟩ := rh1 a _ g
  obtain ⟨c3, c4⟩ := c2 ec C hC
  exact ⟨a, C, cv, u, b, by rw [rref rv], hH, c3, c1, by rw [c4, hb], kq _ h1 _ H1 vbl rh1 s1 q1⟩
theorem sE_isaXT {p pt : Pos} {kk : Nat} {cs : List Expr} {ks : List Kd} {cvs : List LV} (hg : L2.Gl X "isinstance") (hm : X.mg "isinstance" = none) (ex0 : ∀ d C, Γ.ea d = some C → L2.ExcC X.K C) (hk : KdXs X Γ P ks cvs) (hp : ∀ k ∈ ks, kdP k = false) (hne : ks ≠ []) (hlen : ks.length ≤ 20) (he : PE X e (gE Γ W (wE P Φ e'))) (hc : PA X cs (tCs cvs))
    (hs : starEach [e, .Tuple cs kk pt] X.env = (false, eval e X.env) :: starEach [.Tuple cs kk pt] X.env) :
    PE X (.Call (.Name "isinstance" p) [e, .Tuple cs kk pt] [] pos) (gE Γ W (wE P Φ (.isa e' ks))) := by
  refine PE.mono (L2.pe_callB call_isXT hg hm (by decide +kernel) (L2.pa_cons he (L2.pa_cons (L2.pe_tup hc) L2.pa_nil) hs) (he := hs) (hpl := rfl)) ?_
  rintro τ H Q' ⟨σ, h, Q, X', rs, rh, w, kq, kx⟩
  refine ⟨σ, h, _, X', rs, rh, w, ?_, kx⟩
  intro v h1 x H1 rv rh1 s1 ⟨b, e1, q1⟩
  refine ⟨by rw [← hk.length, ← sz_eq]; unfold SZ; omega, fun tp np => ?_⟩
  obtain ⟨us, c1, c2⟩ := kdXs_any hk
  obtain ⟨a, ec, r, rfl, g⟩ : ∃ a c r, v = .ref a ∧ get h1 a = some (.exc c r) := by
    cases ks with
    | nil => exact absurd rfl hne
    | cons k ks =>
      simp only [isaKs] at e1
      cases z : isaK h1 P.sub v k with
      | none => simp [z] at e1
      | some b1 => obtain ⟨a, c, r, h1, h2, _⟩ := isaX_ty (hp k List.mem_cons_self) z; exact ⟨a, c, r, h1, h2⟩
  have rh2 : RH Γ h1 (upd H1 tp (.tup cvs)) := rh1.tup np
  obtain ⟨C, -, hC, hH⟩ := rh2 a _ g
  exact ⟨a, C, tp, cvs, us, b, by rw [rref rv], hH, L2.upd_same, ex0 _ _ hC, c1, by rw [c2 ec C hC, isaX_any g hp e1], kq _ h1 _ _ vbl rh2 (s1.trans (.tup np)) q1⟩
theorem sS_rais {x : Str} {d : Nat} {C : Addr} {p1 p2 : Pos} (hc : X.calm = true) (tk : Takes X W) (hC : Γ.ea d = some C) (gC : X.mg x = some (.ref C)) (ok : ExOk X.K C) (hg : L2.Gl X x) (hdb : (x == ("__debug__" : Str)) = false) (he : PE X e (gE Γ W (wE P Φ e')))
    (hs : starEach [e] X.env = (false, eval e X.env) :: starEach [] X.env) : PS X (.Raise (some (.Call (.Name x p1) [e] [] p2)) none pos) (gS Γ W (wS P Φ (.rais d e'))) := by
  refine PS.mono (L2.ps_raise hc tk (SkE.pmk_own1 PySem.F.excBase_ValueError ok.q gC ok.k (L2.raises_own ok.s ok.t) hg he hs hdb)) ?_
  rintro D τ H ⟨σ, h, N, R, B, C', X', rs, rh, w, kn, kr, kb, kc, kx⟩
  refine ⟨σ, h, _, X', rs, rh, w, ?_, kx⟩
  intro v h1 x H1 rv rh1 s1 q1
  exact kx ⟨d, none⟩ σ h1 _ _ τ H1 ⟨C, hC, rfl, rfl⟩ (rs.mono s1.xt) rh1 s1 q1
theorem RS.wipe1 {H : LH} {σ : St} {τ : LS} (r : RS Γ H σ τ) (i : Nat) : RS Γ H (σ.set i none) (τ.set i none) := by
  refine ⟨by simp [r.1], fun j w h => ?_⟩
  rw [List.getElem?_set] at h
  rw [List.getElem?_set]
  by_cases e : i = j
  · subst e
    rw [if_pos rfl] at h
    split at h <;> cases h
  · rw [if_neg e] at h ⊢
    exact r.2 j w h
theorem sS_try {x n y : Str} {C : Addr} {i j d : Nat} {body : List Stmt} {b' : S} {np pos' p1 p2 p3 : Pos} (hs : X.stack = X.env :: X.outer) (hf : X.env.frame = some X.env.locals) (hex : X.ex = []) (hN : X.N.Nodup) (hi : X.N[i]? = some n) (hln : X.env.kindOf n = some .local) (hc : L2.Names X x (.ref C)) (tk : Takes X W)
    (hm : ∀ c D, Γ.ea c = some D → PySem.W.exmOne X.K (.ref D) (.ref C) = some (P.sub c d))
    (hb : ∀ (W : WX) (pn : List (Addr × Obj)) (xe : Value → Shared → Prop), Takes (X.tr pn xe) W → PassesOwn (model X.prog X.w) X.A X.env xe → PSs (X.tr pn xe) body (gS Γ W (wS P Φ b')))
    (hsu : ∀ (a : Addr) (oe : Obj) (pn : List (Addr × Obj)), PSs (X.suite a ((a, oe) :: pn)) [.Assign [.Name y p1] (.Name n p2) p3] (L2.tAsg (L2.tVar i) (L2.gName j))) :
    PS X (.Try body [.ExceptHandler (some (.Name x np)) (some n) [.Assign [.Name y p1] (.Name n p2) p3] pos'] [] [] pos) (gS Γ W (wS P Φ (.tryx b' d i j))) := by
  refine PS.mono (ps_try_keep (tb := fun W => gS Γ W (wS P Φ b')) hs hf hex hN hi hln hc tk hb hsu) ?_
  rintro D τ H ⟨σ, h, N, R, B, C', X', rs, rh, w, kn, kr, kb, kc, kx⟩
  refine ⟨σ, h, N, R, B, C', _, rs, rh, w, kn, kr, kb, kc, ?_⟩
  intro ex σ1 h1 c dd τ1 H1 rx rs1 rh1 s1 q1
  obtain ⟨Ce, hCe, rfl, hr⟩ := rx
  refine ⟨P.sub ex.c d, hm _ _ hCe, fun hb => ?_, fun hb => ?_⟩
  · simp only [hb, if_true] at q1
    obtain ⟨er, q1⟩ := q1
    rw [er] at hr
    refine ⟨hr, fun a ha => ?_⟩
    have g0 := rh1.free ha
    have rh2 : RH Γ (push h1 a (.exc ex.c none)) (upd H1 a (ExC (.ref Ce) a)) := rh1.new ha ⟨Ce, rfl, hCe, L2.upd_same⟩
    have s2 : Sp h1 H1 (push h1 a (.exc ex.c none)) (upd H1 a (ExC (.ref Ce) a)) := .new ha
    have rs2 := rs1.mono s2.xt
    exact kn _ _ _ _ (((rs2.set (v := .ref a) vref i).set (v := .ref a) vref j).wipe1 i) rh2 (s1.trans s2) (q1 a g0)
  · simp only [hb, if_false, Bool.false_eq_true] at q1
    exact kx ex σ1 h1 _ dd τ1 H1 ⟨Ce, hCe, rfl, hr⟩ rs1 rh1 s1 q1
theorem hot_read {i : Option Nat} {C : Addr} {d : Nat} {s' : S} (hm : ∀ c D, Γ.ea c = some D → PySem.W.exmOne X.K (.ref D) (.ref C) = some (P.sub c d)) {b' : S} {D : L2.Ends} {τ : LS} {H : LH} (w : gS Γ W (wS P Φ (.tryh b' d i s')) D τ H) :
    gS Γ (wHot X.K (.ref C) i (gS Γ W0 (wS P Φ s')) W D) (wS P Φ b') D τ H := by
  obtain ⟨σ, h, N, R, B, C', X', rs, rh, w, kn, kr, kb, kc, kx⟩ := w
  refine ⟨σ, h, N, R, B, C', _, rs, rh, w, kn, kr, kb, kc, ?_⟩
  intro ex σ1 h1 c dd τ1 H1 rx rs1 rh1 s1 q1
  obtain ⟨Ce, hCe, rfl, hr⟩ := rx
  refine ⟨P.sub ex.c d, hm _ _ hCe, fun hb => ?_, fun hb => ?_⟩
  · simp only [hb, if_true] at q1
    obtain ⟨er, q1⟩ := q1
    rw [er] at hr
    refine ⟨hr, fun a ha => ?_⟩
    have g0 := rh1.free ha
    have rh2 : RH Γ (push h1 a (.exc ex.c none)) (upd H1 a (ExC (.ref Ce) a)) := rh1.new ha ⟨Ce, rfl, hCe, L2.upd_same⟩
    have s2 : Sp h1 H1 (push h1 a (.exc ex.c none)) (upd H1 a (ExC (.ref Ce) a)) := .new ha
    have rs2 := rs1.mono s2.xt
    refine ⟨hSet σ1 i a, _, _, _, _, _, _, ?_, rh2, q1 a g0, ?_, fun _ _ _ _ _ _ _ z => z.elim, fun _ _ _ _ _ _ _ z => z.elim, fun _ _ _ _ _ _ _ z => z.elim, fun _ _ _ _ _ _ _ _ _ _ _ z => z.elim⟩
    · cases i with
      | none => exact rs2
      | some i => exact rs2.set (v := .ref a) vref i
    · intro σ2 h2 τ2 H2 rs3 rh3 s3 q3
      refine kn _ _ _ _ ?_ rh3 ((s1.trans s2).trans s3) q3
      cases i with
      | none => exact rs3
      | some i => exact rs3.wipe1 i
  · simp only [hb, if_false, Bool.false_eq_true] at q1
    exact kx ex σ1 h1 _ dd τ1 H1 ⟨Ce, hCe, rfl, hr⟩ rs1 rh1 s1 q1
theorem sS_tryA {x n : Str} {C : Addr} {i d : Nat} {body suite : List Stmt} {b0 : Stmt} {b' s' : S} {np pos' : Pos} (hs : X.stack = X.env :: X.outer) (hf : X.env.frame = some X.env.locals) (hex : X.ex = []) (hN : X.N.Nodup) (hi : X.N[i]? = some n) (hln : X.env.kindOf n = some .local) (hc : L2.Names X x (.ref C)) (tk : Takes X W)
    (hm : ∀ c D, Γ.ea c = some D → PySem.W.exmOne X.K (.ref D) (.ref C) = some (P.sub c d))
    (hb : ∀ (W : WX) (pn : List (Addr × Obj)) (xe : Value → Shared → Prop), Takes (X.tr pn xe) W → PassesOwn (model X.prog X.w) X.A X.env xe → PSs (X.tr pn xe) body (gS Γ W (wS P Φ b')))
    (hsu : ∀ (a : Addr) (pn : List (Addr × Obj)), PSs (X.suite a pn) (b0 :: suite) (gS Γ W0 (wS P Φ s'))) :
    PS X (.Try body [.ExceptHandler (some (.Name x np)) (some n) (b0 :: suite) pos'] [] [] pos) (gS Γ W (wS P Φ (.tryh b' d (some i) s'))) :=
  PS.mono (ps_try_hotA (tb := fun W => gS Γ W (wS P Φ b')) hs hf hex hN hi hln hc tk hb hsu) fun _ _ _ w => hot_read hm w
theorem sS_tryN {x : Str} {C : Addr} {d : Nat} {body suite : List Stmt} {b0 : Stmt} {b' s' : S} {np pos' : Pos} (hs : X.stack = X.env :: X.outer) (hf : X.env.frame = some X.env.locals) (hex : X.ex = []) (hc : L2.Names X x (.ref C)) (tk : Takes X W)
    (hm : ∀ c D, Γ.ea c = some D → PySem.W.exmOne X.K (.ref D) (.ref C) = some (P.sub c d))
    (hb : ∀ (W : WX) (pn : List (Addr × Obj)) (xe : Value → Shared → Prop), Takes (X.tr pn xe) W → PassesOwn (model X.prog X.w) X.A X.env xe → PSs (X.tr pn xe) body (gS Γ W (wS P Φ b')))
    (hsu : ∀ (a : Addr) (pn : List (Addr × Obj)), PSs (X.suite a pn) (b0 :: suite) (gS Γ W0 (wS P Φ s'))) :
    PS X (.Try body [.ExceptHandler (some (.Name x np)) none (b0 :: suite) pos'] [] [] pos) (gS Γ W (wS P Φ (.tryh b' d none s'))) :=
  PS.mono (ps_try_hotN (tb := fun W => gS Γ W (wS P Φ b')) hs hf hex hc tk hb hsu) fun _ _ _ w => hot_read hm w
end
end KN

set_option autoImplicit false
set_option linter.all false
/-! Kern, part 10b: more of the built-ins -/
namespace KN
open PySem PySem.Spec PyProof.Rows
open L2 (PE PT PW PA PS PSs OpR CallR upd PI)
section
variable {X : L2.Cx} {Γ : Nm} {W : L2.WX} {P : PG} {Φ : Phi} {pos : Pos} {e : Expr} {e' : E}
/-- a statement that is never reached -/
theorem sS_bad {st : Stmt} : PS X st (gS Γ W (wS P Φ .bad)) := ⟨fun pins s τ H D I ⟨σ, h, N, R, B, C, X', rs, rh, w, _⟩ => w.elim⟩
theorem uAdd : L2.PIp X .Add (gO Γ (wAug .add)) := by
  intro pins s σ H x y v u Q' I rx ry ⟨v', u', h, Q, rv, ru, rh, w, kq⟩
  cases v' <;> cases u' <;> first | exact w.elim | skip
  · rename_i a b
    exact L2.iop_add pins s σ H x y v u Q' I rx ry ⟨a, b, rint rv, rint ru, kq _ h _ H vint rh (.refl _ _) w⟩
  · rename_i a b
    obtain ⟨hl, q⟩ := w
    exact L2.iop_add_str pins s σ H x y v u Q' I rx ry ⟨sOf a, sOf b, rstr rv, rstr ru, by rw [sOf_length, sOf_length]; exact hl, by rw [sOf_append]; exact kq _ h _ H vstr rh (.refl _ _) q⟩
theorem uSub : L2.PIp X .Sub (gO Γ (wAug .sub)) := by
  intro pins s σ H x y v u Q' I rx ry ⟨v', u', h, Q, rv, ru, rh, w, kq⟩
  cases v' <;> cases u' <;> first | exact w.elim | skip
  rename_i a b
  exact L2.iop_sub pins s σ H x y v u Q' I rx ry ⟨a, b, rint rv, rint ru, kq _ h _ H vint rh (.refl _ _) w⟩
theorem uMul : L2.PIp X .Mult (gO Γ (wAug .mul)) := by
  intro pins s σ H x y v u Q' I rx ry ⟨v', u', h, Q, rv, ru, rh, w, kq⟩
  cases v' <;> cases u' <;> first | exact w.elim | skip
  rename_i a b
  have ex := rint rv
  have ey := rint ru
  subst ex ey
  obtain ⟨t, rfl⟩ := rx
  obtain ⟨t', rfl⟩ := ry
  exact imul_int ⟨.int (a * b), H, I.tok _, ⟨_, rfl⟩, kq _ h _ H vint rh (.refl _ _) w.2⟩ (mulOk_ok w.1)
theorem sS_aug {i : Nat} {x : Str} {op : Operator} {o : Op2} {pos' : Pos} (hN : X.N.Nodup) (hi : X.N[i]? = some x) (hx : L2.Loc X.env.scope x) (he : PE X e (gE Γ W (wE P Φ e'))) (ho : L2.PIp X op (gO Γ (wAug o)))
    (hf : X.fn x = true ∨ X.env.scope.names.lookup x = some .local) : PS X (.AugAssign (.Name x pos') op e pos) (gS Γ W (wS P Φ (.aug (.var i) o e'))) := by
  refine PS.mono (L2.ps_aug hN hi hx he ho hf) ?_
  rintro D τ H ⟨σ, h, N, R, B, C, X', rs, rh, ⟨v, e1, w⟩, kn, kr, kb, kc, kx⟩
  obtain ⟨xv, e2, rv⟩ := rs.2 i v e1
  refine ⟨xv, e2, σ, h, _, X', rs, rh, w, ?_, kx⟩
  intro u h1 y H1 ru rh1 s1 q1
  refine ⟨v, u, h1, _, rv.mono s1.xt, ru, rh1, q1, ?_⟩
  intro z h2 zx H2 rz rh2 s2 q2
  exact kn _ h2 _ H2 ((rs.mono (s1.trans s2).xt).set rz i) rh2 (s1.trans s2) q2
/-- a list's item, by values -/
theorem pget_list : L2.PGet X (gO Γ wGetL) := by
  intro pins s σ H o i ov iv Q' I ro ri ⟨o', i', h, Q, r1, r2, rh, w, kq⟩
  obtain ⟨a, xs, k, v, rfl, rfl, g, h0, e, q⟩ := w
  have e1 := rref r1
  subst e1
  have e2 := rint r2
  subst e2
  cases ro
  obtain ⟨t, rfl⟩ := ri
  unfold atI at e
  rw [if_pos h0] at e
  obtain ⟨ys, h5, r⟩ := rh a _ g
  obtain ⟨y', h3, r3⟩ := r.get e
  obtain ⟨its, rv2, pl, hz⟩ := I.list (.of h5 : L2.SqL X.K H a ys)
  obtain ⟨u, eu, ru⟩ := rv2.get h3
  have hl : k.toNat < its.length := (List.getElem?_eq_some_iff.mp eu).1
  have hsz : its.length ≤ sizeLine := by
    have := rv2.length
    omega
  rw [sizeLine_eq] at hsz
  exact wpAny_getItem_list pl.isList h0 (by omega) (by simpa using eu) ⟨y', H, I, ru, kq v h _ H r3 rh (.refl _ _) q⟩
theorem sS_augS {a b : Expr} {a' b' : E} {op : Operator} {o : Op2} {tpos : Pos} (hu : X.A.units + 1 < cLine) (hK : Γ.K = X.K) (ha : PE X a (gE Γ W (wE P Φ a'))) (hb : PE X b (gE Γ W (wE P Φ b'))) (he : PE X e (gE Γ W (wE P Φ e'))) (ho : L2.PIp X op (gO Γ (wAug o)))
    (hst : ∀ ov iv new, augStore b ov iv new = (do holding [new, ov, iv] (setItem ov iv new); release [new, ov, iv] []; pure .next)) : PS X (.AugAssign (.Subscript a b tpos) op e pos) (gS Γ W (wS P Φ (.aug (.ix a' b') o e'))) := by
  refine PS.mono (L2.ps_augS ha hb (pget_list (Γ := Γ)) he ho (set_ix (Γ := Γ) hu hK) hst) ?_
  rintro D τ H ⟨σ, h, N, R, B, C, X', rs, rh, w, kn, kr, kb, kc, kx⟩
  refine ⟨σ, h, _, X', rs, rh, w, ?_, kx⟩
  intro x h1 ox H1 ro rh1 s1 q1
  refine ⟨σ, h1, _, X', rs.mono s1.xt, rh1, q1, ?_, kx.step s1⟩
  intro y h2 oy H2 ry rh2 s2 q2
  refine ⟨x, y, h2, _, ro.mono s2.xt, ry, rh2, q2, ?_⟩
  intro v h3 ov H3 rv rh3 s3 q3
  have s123 := (s1.trans s2).trans s3
  refine ⟨σ, h3, _, X', rs.mono s123.xt, rh3, q3, ?_, kx.step s123⟩
  intro u h4 ou H4 ru rh4 s4 q4
  refine ⟨v, u, h4, _, rv.mono s4.xt, ru, rh4, q4, ?_⟩
  intro z h5 oz H5 rz rh5 s5 q5
  have s25 := ((s2.trans s3).trans s4).trans s5
  have s35 := (s3.trans s4).trans s5
  have s15 := s1.trans s25
  exact ⟨x, y, z, h5, _, ro.mono s25.xt, ry.mono s35.xt, rz, rh5, q5, fun h' H' rh' s6 q => kn σ h' τ H' (rs.mono (s15.trans s6).xt) rh' (s15.trans s6) q⟩
/-- True, False as tests -/
theorem sT_bl {b : Bool} {j : Nat} : PT X (.Constant (.bool b) j pos) (gT Γ W (wT P Φ (.bl b))) := by
  refine PT.mono (L2.pt_val L2.pe_bl) ?_
  rintro τ H Q' ⟨σ, h, Q, X', rs, rh, w, kq, kx⟩
  exact ⟨b, rfl, kq b h H rh (.refl _ _) w⟩
theorem strs_rv {H : LH} : ∀ {vs : List Vl} {xs : List LV} {ns : List (List Nat)}, isStrs vs = some ns → RVs Γ H vs xs → xs = (ns.map sOf).map L2.V.str
  | [], _, ns, e, r => by simp only [RVs] at r; subst r; simp [isStrs] at e; subst e; rfl
  | v :: vs, _, ns, e, r => by
    simp only [RVs] at r
    obtain ⟨y, ys, rfl, r1, r2⟩ := r
    cases v <;> simp [isStrs] at e
    obtain ⟨ms, e1, rfl⟩ := e
    rw [rstr r1, strs_rv e1 r2]; rfl
/-! one sign in a text -/
theorem flat_ints {ns : List Int} : (ns.map L2.V.int).all L2.flatV = true := by simp [L2.flatV]
theorem flat_strs {ns : List (List Nat)} : ((ns.map sOf).map L2.V.str).all L2.flatV = true := by simp [L2.flatV]
theorem inV_ints {i : Int} : ∀ {ns : List Int}, L2.inV (.int i) (ns.map L2.V.int) = decide (i ∈ ns)
  | [] => rfl
  | n :: ns => by
    have := inV_ints (i := i) (ns := ns)
    unfold L2.inV at this ⊢
    rw [List.map_cons, List.any_cons, this]
    simp only [L2.eqV, List.mem_cons]
    by_cases h : n = i
    · subst h; simp
    · have : ¬ i = n := fun z => h z.symm
      simp [h, this]
theorem inV_strs {i : List Nat} : ∀ {ns : List (List Nat)}, L2.inV (.str (sOf i)) ((ns.map sOf).map L2.V.str) = decide (i ∈ ns)
  | [] => rfl
  | n :: ns => by
    have := inV_strs (i := i) (ns := ns)
    unfold L2.inV at this ⊢
    rw [List.map_cons, List.map_cons, List.any_cons, this]
    simp only [L2.eqV, List.mem_cons]
    by_cases h : n = i
    · subst h; simp
    · have h1 : ¬ i = n := fun z => h z.symm
      have h2 : (sOf n == sOf i) = false := by
        rw [Bool.eq_false_iff]
        intro z
        exact h (sOf_inj.mp (eq_of_beq z))
      simp [h2, h1]
theorem any_py {d : Da} : ∀ {es : List Da}, ((Da.pys es).any fun z => PyData.eqv z d.py) = es.any fun z => z.eqv d
  | [] => rfl
  | e :: es => by simp only [Da.pys, List.any_cons, eqv_py, any_py (es := es)]
theorem oInL (hu : X.A.units + 65 < cLine) (hK : Γ.K = X.K) {x : Vl} {a : Nat} {h : AH} {Q : Qv} {pins : List (Addr × Obj)} {s : Shared} {σ : LS} {H : LH} {xv yv : LV} {v u : Value} {Q' : L2.VK} (I : L2.Inv X pins σ H s) (rx : L2.RelV xv v) (ry : L2.RelV yv u)
    (rv : RV Γ H x xv) (ru : RV Γ H (.ref a) yv) (rh : RH Γ h H) (w : wInL false x a h Q ∨ wInD false x a h Q) (kq : KQ Γ h H Q Q') : wpAny (model X.prog X.w) X.A (compareOp .In v u) (L2.EP X pins σ Q') X.xe s := by
  rcases w with w | ⟨kvs, ky, g, e, q⟩ | ⟨kvs, ns, g, e, q⟩ | ⟨ss, g, e, q⟩
  rotate_left
  · obtain ⟨ls, h5, r⟩ := rh a _ g
    have ex := rref ru
    subst ex
    obtain rfl : u = Value.ref a := ry
    rw [ky_rv e rv] at rx
    refine L2.d_in (by omega) I (L2.DGet.k (k := kyL ky) h5) rx fun s' I' => ⟨.bl _, H, I', rfl, ?_⟩
    cases hd : dget kvs ky with
    | some v0 =>
      obtain ⟨x0, e0, r0⟩ := RK.get r hd
      rw [hd] at q
      rw [e0]
      exact kq _ _ _ _ vbl rh (.refl _ _) q
    | none =>
      rw [hd] at q
      rw [RK.getN r hd]
      exact kq _ _ _ _ vbl rh (.refl _ _) q
  · subst e
    obtain ⟨kas, h5, hk, r⟩ := rh a _ g
    obtain ⟨b, ts, rfl, sq, rt⟩ := rtup rv
    rw [ints_rvs rt] at sq
    have ex := rref ru
    subst ex
    obtain rfl : u = Value.ref a := ry
    obtain rfl : v = Value.ref b := rx
    have rg := RT.get (k := ns) r
    refine L2.tdI_in (by omega) I h5 (hK ▸ hk) (hK ▸ sq) fun s' I' => ⟨.bl _, H, I', rfl, ?_⟩
    cases hd : tget kvs ns with
    | some v0 =>
      rw [hd] at rg q
      obtain ⟨x0, e0, r0⟩ := rg
      rw [e0]
      exact kq _ _ _ _ vbl rh (.refl _ _) q
    | none =>
      rw [hd] at rg q
      rw [rg]
      exact kq _ _ _ _ vbl rh (.refl _ _) q
  · subst e
    obtain ⟨ys, sq, r'⟩ := lst_of hK rh g
    have e2 := strs_rv (isStrs_map ss) r'
    subst e2
    simp only [RV] at rv
    subst rv
    have e3 : L2.inV .non ((ss.map sOf).map L2.V.str) = false := by
      unfold L2.inV
      rw [List.any_eq_false]
      intro z hz
      obtain ⟨y, _, rfl⟩ := List.mem_map.mp hz
      simp [L2.eqV]
    refine L2.op_in_seq pins s σ H _ yv v u Q' I rx ry ⟨a, _, rref ru, .inl sq, rfl, flat_strs, ?_⟩
    rw [if_neg (by simp), e3]
    exact kq _ _ _ _ vbl rh (.refl _ _) q
  obtain ⟨d, es, hd, he, l1, l2, q⟩ := w
  refine L2.op_inD hu pins s σ H xv yv v u Q' I rx ry ⟨d.py, Da.pys es, ?_, ?_, shaped_py l1, shaped_py l2, ?_⟩
  · rw [← hK]; exact da_dp rh d hd rv
  · rw [← hK]; exact da_dp rh (.lst es) he ru
  · rw [any_py]; exact kq _ h _ H vbl rh (.refl _ _) q
theorem oNinL (hu : X.A.units + 65 < cLine) (hK : Γ.K = X.K) {x : Vl} {a : Nat} {h : AH} {Q : Qv} {pins : List (Addr × Obj)} {s : Shared} {σ : LS} {H : LH} {xv yv : LV} {v u : Value} {Q' : L2.VK} (I : L2.Inv X pins σ H s) (rx : L2.RelV xv v) (ry : L2.RelV yv u)
    (rv : RV Γ H x xv) (ru : RV Γ H (.ref a) yv) (rh : RH Γ h H) (w : wInL true x a h Q ∨ wInD true x a h Q) (kq : KQ Γ h H Q Q') : wpAny (model X.prog X.w) X.A (compareOp .NotIn v u) (L2.EP X pins σ Q') X.xe s := by
  rcases w with w | ⟨kvs, ky, g, e, q⟩ | ⟨kvs, ns, g, e, q⟩ | ⟨ss, g, e, q⟩
  rotate_left
  · obtain ⟨ls, h5, r⟩ := rh a _ g
    have ex := rref ru
    subst ex
    obtain rfl : u = Value.ref a := ry
    rw [ky_rv e rv] at rx
    refine L2.d_notIn (by omega) I (L2.DGet.k (k := kyL ky) h5) rx fun s' I' => ⟨.bl _, H, I', rfl, ?_⟩
    cases hd : dget kvs ky with
    | some v0 =>
      obtain ⟨x0, e0, r0⟩ := RK.get r hd
      rw [hd] at q
      rw [e0]
      exact kq _ _ _ _ vbl rh (.refl _ _) q
    | none =>
      rw [hd] at q
      rw [RK.getN r hd]
      exact kq _ _ _ _ vbl rh (.refl _ _) q
  · subst e
    obtain ⟨kas, h5, hk, r⟩ := rh a _ g
    obtain ⟨b, ts, rfl, sq, rt⟩ := rtup rv
    rw [ints_rvs rt] at sq
    have ex := rref ru
    subst ex
    obtain rfl : u = Value.ref a := ry
    obtain rfl : v = Value.ref b := rx
    have rg := RT.get (k := ns) r
    refine L2.tdI_notIn (by omega) I h5 (hK ▸ hk) (hK ▸ sq) fun s' I' => ⟨.bl _, H, I', rfl, ?_⟩
    cases hd : tget kvs ns with
    | some v0 =>
      rw [hd] at rg q
      obtain ⟨x0, e0, r0⟩ := rg
      rw [e0]
      exact kq _ _ _ _ vbl rh (.refl _ _) q
    | none =>
      rw [hd] at rg q
      rw [rg]
      exact kq _ _ _ _ vbl rh (.refl _ _) q
  · subst e
    obtain ⟨ys, sq, r'⟩ := lst_of hK rh g
    have e2 := strs_rv (isStrs_map ss) r'
    subst e2
    simp only [RV] at rv
    subst rv
    have e3 : L2.inV .non ((ss.map sOf).map L2.V.str) = false := by
      unfold L2.inV
      rw [List.any_eq_false]
      intro z hz
      obtain ⟨y, _, rfl⟩ := List.mem_map.mp hz
      simp [L2.eqV]
    refine L2.op_notIn_seq pins s σ H _ yv v u Q' I rx ry ⟨a, _, rref ru, .inl sq, rfl, flat_strs, ?_⟩
    rw [if_pos rfl, e3]
    exact kq _ _ _ _ vbl rh (.refl _ _) q
  obtain ⟨d, es, hd, he, l1, l2, q⟩ := w
  refine L2.op_notInD hu pins s σ H xv yv v u Q' I rx ry ⟨d.py, Da.pys es, ?_, ?_, shaped_py l1, shaped_py l2, ?_⟩
  · rw [← hK]; exact da_dp rh d hd rv
  · rw [← hK]; exact da_dp rh (.lst es) he ru
  · rw [any_py]; exact kq _ h _ H vbl rh (.refl _ _) q
theorem found_S (a b : List Nat) : (!(PySem.Builtin.Str.occurrences (sOf b) (sOf a) 0 (sOf b).length 1).isEmpty) = inS a b := by
  rw [Bool.eq_iff_iff, StrLaws.found_iff]
  unfold inS
  rw [List.any_eq_true]
  simp only [StrLaws.subAt_eq, List.mem_range]
  have e1 : (sOf b).cps.toList = b := by simp [sOf]
  have e2 : (sOf a).cps.toList = a := by simp [sOf]
  rw [e1, e2, sOf_length, sOf_length]
  constructor
  · rintro ⟨i, h1, h2⟩
    exact ⟨i, by omega, h2⟩
  · rintro ⟨i, h1, h2⟩
    refine ⟨i, ?_, h2⟩
    have := congrArg List.length (eq_of_beq h2)
    simp only [List.length_take, List.length_drop] at this
    omega
theorem oIn (hu : X.A.units + 65 < cLine) (hK : Γ.K = X.K) : OpR X (compareOp .In) (gO Γ (wOp .in_)) := by
  intro pins s σ H x y v u Q' I rx ry ⟨v', u', h, Q, rv, ru, rh, w, kq⟩
  cases v' <;> cases u' <;> first | exact w.elim | exact oInL hu hK I rx ry rv ru rh w kq | skip
  · rename_i i vs
    obtain ⟨ns, e, q⟩ := w
    obtain ⟨a, ys, ey, sq, r⟩ := rtup ru
    have := ints_rv e r
    subst this
    refine L2.op_in_seq pins s σ H x y v u Q' I rx ry ⟨a, _, ey, .inr (by rw [← hK]; exact sq), by rw [rint rv]; rfl, flat_ints, ?_⟩
    rw [rint rv, if_neg (by simp), inV_ints]
    exact kq _ h _ H vbl rh (.refl _ _) q
  · rename_i a b
    rcases w with ⟨c, rfl, q⟩ | q
    rotate_left
    · refine L2.op_in_str pins s σ H x y v u Q' I rx ry ⟨sOf a, sOf b, rstr rv, rstr ru, ?_⟩
      rw [found_S]
      exact kq _ h _ H vbl rh (.refl _ _) q
    refine L2.op_in_str pins s σ H x y v u Q' I rx ry ⟨sOf [c], sOf b, rstr rv, rstr ru, ?_⟩
    have e1 := StrLaws.found_one (sOf b) c
    rw [show (sOf [c]) = (⟨#[c]⟩ : Str) from rfl, e1]
    have e2 : (sOf b).cps.toList = b := by simp [sOf]
    rw [e2]
    exact kq _ h _ H vbl rh (.refl _ _) q
  · rename_i i vs
    obtain ⟨ns, e, q⟩ := w
    obtain ⟨a, ys, ey, sq, r⟩ := rtup ru
    have := strs_rv e r
    subst this
    refine L2.op_in_seq pins s σ H x y v u Q' I rx ry ⟨a, _, ey, .inr (by rw [← hK]; exact sq), by rw [rstr rv]; rfl, flat_strs, ?_⟩
    rw [rstr rv, if_neg (by simp), inV_strs]
    exact kq _ h _ H vbl rh (.refl _ _) q
theorem oNin (hu : X.A.units + 65 < cLine) (hK : Γ.K = X.K) : OpR X (compareOp .NotIn) (gO Γ (wOp .nin)) := by
  intro pins s σ H x y v u Q' I rx ry ⟨v', u', h, Q, rv, ru, rh, w, kq⟩
  cases v' <;> cases u' <;> first | exact w.elim | exact oNinL hu hK I rx ry rv ru rh w kq | skip
  · rename_i i vs
    obtain ⟨ns, e, q⟩ := w
    obtain ⟨a, ys, ey, sq, r⟩ := rtup ru
    have := ints_rv e r
    subst this
    refine L2.op_notIn_seq pins s σ H x y v u Q' I rx ry ⟨a, _, ey, .inr (by rw [← hK]; exact sq), by rw [rint rv]; rfl, flat_ints, ?_⟩
    rw [rint rv, if_pos rfl, inV_ints]
    exact kq _ h _ H vbl rh (.refl _ _) q
  · rename_i a b
    rcases w with ⟨c, rfl, q⟩ | q
    rotate_left
    · refine L2.op_notIn_str pins s σ H x y v u Q' I rx ry ⟨sOf a, sOf b, rstr rv, rstr ru, ?_⟩
      rw [found_S]
      exact kq _ h _ H vbl rh (.refl _ _) q
    refine L2.op_notIn_str pins s σ H x y v u Q' I rx ry ⟨sOf [c], sOf b, rstr rv, rstr ru, ?_⟩
    have e1 := StrLaws.found_one (sOf b) c
    rw [show (sOf [c]) = (⟨#[c]⟩ : Str) from rfl]
    have e2 : (sOf b).cps.toList = b := by simp [sOf]
    rw [e2] at e1
    rw [e1]
    exact kq _ h _ H vbl rh (.refl _ _) q
  · rename_i i vs
    obtain ⟨ns, e, q⟩ := w
    obtain ⟨a, ys, ey, sq, r⟩ := rtup ru
    have := strs_rv e r
    subst this
    refine L2.op_notIn_seq pins s σ H x y v u Q' I rx ry ⟨a, _, ey, .inr (by rw [← hK]; exact sq), by rw [rstr rv]; rfl, flat_strs, ?_⟩
    rw [rstr rv, if_pos rfl, inV_strs]
    exact kq _ h _ H vbl rh (.refl _ _) q
/-! max, min, sorted, str -/
theorem lexL_asym : ∀ {a b : List Int}, lexL a b = true → lexL b a = false
  | [], [], h => by simp [lexL] at h
  | [], _ :: _, _ => by simp [lexL]
  | _ :: _, [], h => by simp [lexL] at h
  | x :: xs, y :: ys, h => by
    simp only [lexL] at h ⊢
    by_cases e : x = y
    · subst e; simp only [if_true] at h ⊢; exact lexL_asym h
    · rw [if_neg e] at h
      rw [if_neg (fun z => e z.symm)]
      simp only [decide_eq_true_eq] at h
      exact decide_eq_false (by omega)
theorem lexL_neg : ∀ {a b c : List Int}, lexL a b = false → lexL b c = false → lexL a c = false
  | [], [], _, _, h => h
  | [], _ :: _, _, h, _ => by simp [lexL] at h
  | _ :: _, [], [], _, _ => by simp [lexL]
  | _ :: _, [], _ :: _, _, h => by simp [lexL] at h
  | _ :: _, _ :: _, [], _, _ => by simp [lexL]
  | x :: xs, y :: ys, z :: zs, h1, h2 => by
    simp only [lexL] at h1 h2 ⊢
    by_cases e1 : x = y
    · subst e1
      simp only [if_true] at h1
      by_cases e2 : x = z
      · subst e2; simp only [if_true] at h2 ⊢; exact lexL_neg h1 h2
      · rw [if_neg e2] at h2 ⊢; exact h2
    · rw [if_neg e1] at h1
      simp only [decide_eq_false_iff_not] at h1
      by_cases e2 : y = z
      · subst e2; rw [if_neg e1]; exact decide_eq_false h1
      · rw [if_neg e2] at h2
        simp only [decide_eq_false_iff_not] at h2
        rw [if_neg (by omega)]
        exact decide_eq_false (by omega)
theorem fold_lex : ∀ (nss : List (List Int)) (m0 : List Int), (nss.foldl (fun a y => if lexL a y = true then y else a) m0) ∈ m0 :: nss ∧ ∀ z ∈ m0 :: nss, lexL (nss.foldl (fun a y => if lexL a y = true then y else a) m0) z = false
  | [], m0 => by
    refine ⟨by simp, fun z hz => ?_⟩
    simp only [List.mem_cons, List.not_mem_nil, or_false] at hz
    subst hz
    cases h : lexL z z with
    | false => exact h
    | true => exact absurd (lexL_asym h) (by simp [h])
  | y :: nss, m0 => by
    simp only [List.foldl_cons]
    cases c : lexL m0 y with
    | true =>
      obtain ⟨i1, i2⟩ := fold_lex nss y
      simp only [if_true]
      refine ⟨List.mem_cons_of_mem _ i1, fun z hz => ?_⟩
      rcases List.mem_cons.mp hz with rfl | hz
      · exact lexL_neg (i2 y (by simp)) (lexL_asym c)
      · exact i2 z hz
    | false =>
      obtain ⟨i1, i2⟩ := fold_lex nss m0
      simp only [Bool.false_eq_true, if_false]
      refine ⟨?_, fun z hz => ?_⟩
      · rcases List.mem_cons.mp i1 with h | h
        · rw [h]; simp
        · exact List.mem_cons_of_mem _ (List.mem_cons_of_mem _ h)
      · rcases List.mem_cons.mp hz with rfl | hz
        · exact i2 z (by simp)
        · rcases List.mem_cons.mp hz with rfl | hz
          · exact lexL_neg (i2 m0 (by simp)) c
          · exact i2 z (List.mem_cons_of_mem _ hz)
def pyT (ns : List Int) : PyData := .tuple (ns.map PyData.int)
theorem alike_ints : ∀ (xs ys : List Int), PySem.W.alikeAll (xs.map PyData.int) (ys.map PyData.int) = true
  | [], _ => by simp [PySem.W.alikeAll]
  | _ :: _, [] => by simp [PySem.W.alikeAll]
  | x :: xs, y :: ys => by simp [PySem.W.alikeAll, PySem.W.alike, alike_ints xs ys]
theorem alike_pyT (xs ys : List Int) : PySem.W.alike (pyT xs) (pyT ys) = true := by
  unfold pyT
  rw [PySem.W.alike]
  exact alike_ints xs ys
theorem lt_ints : ∀ (xs ys : List Int), PyProof.Rows.lexLt itemOrd (PySem.W.keyToksAll (xs.map PyData.int)) (PySem.W.keyToksAll (ys.map PyData.int)) = lexL xs ys
  | [], [] => by decide +kernel
  | [], y :: ys => by
    simp only [List.map_cons, List.map_nil, lexL]
    rw [PySem.W.toks_all_cons, PySem.W.keyToksAll]
    rw [PySem.W.lex_atom (by simp), PySem.W.lex_one]
    rfl
  | x :: xs, [] => by
    simp only [List.map_cons, List.map_nil, lexL]
    rw [PySem.W.toks_all_cons, PySem.W.keyToksAll]
    rw [PySem.W.lex_atom (by simp), PySem.W.lex_one]
    rfl
  | x :: xs, y :: ys => by
    simp only [List.map_cons, lexL]
    have al : PySem.W.alike (.int x) (.int y) = true := by rw [PySem.W.alike]
    by_cases c : x = y
    · subst c
      rw [if_pos rfl, PySem.W.dataLt_all_yes al (PySem.W.eqv_refl_alike _ al)]
      exact lt_ints xs ys
    · rw [if_neg c, PySem.W.dataLt_all_no al ?_, PySem.W.dataLt_int]
      simp [PyData.eqv, c]
theorem lt_pyT (xs ys : List Int) : PySem.W.dataLt (pyT xs) (pyT ys) = lexL xs ys := by
  unfold pyT
  rw [PySem.W.dataLt_tuple]
  exact lt_ints xs ys
theorem maxD_pyT (nss : List (List Int)) (m0 : List Int) : PySem.W.maxD (pyT m0) (nss.map pyT) = pyT (nss.foldl (fun a y => if lexL a y = true then y else a) m0) := by
  unfold PySem.W.maxD
  induction nss generalizing m0 with
  | nil => rfl
  | cons y nss ih =>
    simp only [List.map_cons, List.foldl_cons]
    rw [lt_pyT]
    cases c : lexL m0 y with
    | true => simp only [if_true]; exact ih y
    | false => simp only [Bool.false_eq_true, if_false]; exact ih m0
theorem pyT_inj {a b : List Int} (h : pyT a = pyT b) : a = b := by
  unfold pyT at h
  simp only [PyData.tuple.injEq] at h
  have : ∀ a b : List Int, a.map PyData.int = b.map PyData.int → a = b := by
    intro a
    induction a with
    | nil => intro b h; cases b with
      | nil => rfl
      | cons y ys => simp at h
    | cons x xs ih => intro b h; cases b with
      | nil => simp at h
      | cons y ys =>
        simp only [List.map_cons, List.cons.injEq, PyData.int.injEq] at h
        rw [h.1, ih ys h.2]
  exact this a b h
theorem depth_pyT : ∀ nss : List (List Int), PyData.depthAll (nss.map pyT) ≤ 1
  | [] => by simp [PyData.depthAll]
  | ns :: nss => by
    have h0 : ∀ xs : List Int, PyData.depthAll (xs.map PyData.int) = 0 := by
      intro xs
      induction xs with
      | nil => rfl
      | cons x xs ih => simp [PyData.depthAll, PyData.depth, ih]
    have ih := depth_pyT nss
    simp only [List.map_cons, PyData.depthAll, pyT, PyData.depth, h0]
    omega


def rMaxT (K : PySem.W.Frag) : List L2.V → L2.Hp → L2.VK → Prop := fun vs H Q => ∃ (a : Addr) (ys : List L2.V) (nss : List (List Int)), vs = [L2.V.ref a] ∧ L2.SqL K H a ys ∧ L2.DpAll K H ys (nss.map pyT) ∧ nss ≠ [] ∧
  ∀ i (h1 : i < ys.length) (h2 : i < nss.length), (∀ m ∈ nss, lexL nss[i] m = false) → Q ys[i] H
theorem dpAll_len {K : PySem.W.Frag} {H : L2.Hp} : ∀ {ys : List L2.V} {ds : List PyData}, L2.DpAll K H ys ds → ys.length = ds.length
  | _, [], h => by cases h; rfl
  | _, _ :: _, h => by
    cases h with
    | cons h1 h2 => simp [dpAll_len h2]
theorem cr_maxT {X : L2.Cx} (hc : X.calm = true) (hu : X.A.units + 65 < cLine) : CallR X (.builtin "max") (rMaxT X.K) := by
  intro pins s σ H vs us Q I r h
  obtain ⟨a, ys, nss, rfl, hs, hd, hne, q⟩ := h
  obtain ⟨its, rv, hl, _⟩ := I.list hs
  rw [L2.Vals.ref1 r]
  obtain ⟨as, hr⟩ := L2.Dp.readsAll I _ _ _ hd rv
  obtain ⟨m0, rest, rfl⟩ : ∃ m0 rest, nss = m0 :: rest := by
    cases nss with
    | nil => exact absurd rfl hne
    | cons a b => exact ⟨a, b, rfl⟩
  have hdep := depth_pyT (m0 :: rest)
  refine PySem.W.max_list_data (x := pyT m0) (xs := rest.map pyT) (I.ok.hd hc) hl.isList (by simpa using hr) ⟨?_, ?_⟩ (by
    simp only [List.map_cons] at hdep
    omega) ?_
  · intro x hx y hy
    rw [← List.map_cons] at hx hy
    obtain ⟨x', _, rfl⟩ := List.mem_map.mp hx
    obtain ⟨y', _, rfl⟩ := List.mem_map.mp hy
    exact alike_pyT _ _
  · intro x hx
    rw [← List.map_cons] at hx
    obtain ⟨x', _, rfl⟩ := List.mem_map.mp hx
    intro z; cases z
  intro i v h' tk bs hv hrd hk
  rw [maxD_pyT] at hrd
  have hv' : its[i]? = some v := by simpa using hv
  have hil : i < its.length := (List.getElem?_eq_some_iff.mp hv').1
  have hyl : i < ys.length := by rw [rv.length]; exact hil
  have hnl : i < (m0 :: rest).length := by have := dpAll_len hd; rw [List.length_map] at this; omega
  obtain ⟨f1, f2⟩ := fold_lex rest m0
  obtain ⟨bs2, r2, _⟩ := PySem.W.readsAll_at hr i v hv'
  have e2 : ((m0 :: rest).map pyT).getD i PyData.none = pyT ((m0 :: rest)[i]) := by
    rw [List.getD_eq_getElem?_getD, List.getElem?_map, List.getElem?_eq_getElem hnl]; rfl
  rw [e2] at r2
  have r3 := PySem.W.reads_keeps hk r2
  have e3 := pyT_inj (PySem.W.alike_unique _ _ _ _ _ (alike_pyT _ _) r3 hrd)
  have hrel : L2.RelV ys[i] v := by
    obtain ⟨u, u1, u2⟩ := L2.Vals.get rv (List.getElem?_eq_getElem hyl)
    rw [hv'] at u1
    cases u1
    exact u2
  exact ⟨ys[i], H, I.kept hk, hrel, q i hyl hnl (by rw [e3]; exact f2)⟩
theorem dat_tups {h : AH} : ∀ nss : List (List Int), DaOfs h (nss.map fun ns => Vl.tup (ns.map Vl.int)) (nss.map fun ns => Da.tup (ns.map Da.int))
  | [] => by simp [DaOfs]
  | ns :: nss => by
    have h0 : ∀ xs : List Int, DaOfs h (xs.map Vl.int) (xs.map Da.int) := by
      intro xs
      induction xs with
      | nil => simp [DaOfs]
      | cons x xs ih => simp only [List.map_cons, DaOfs]; exact ⟨_, _, rfl, by simp only [DaOf], ih⟩
    simp only [List.map_cons, DaOfs]
    exact ⟨_, _, rfl, by simp only [DaOf]; exact ⟨_, rfl, h0 ns⟩, dat_tups nss⟩
theorem pys_tups : ∀ nss : List (List Int), Da.pys (nss.map fun ns => Da.tup (ns.map Da.int)) = nss.map pyT
  | [] => rfl
  | ns :: nss => by
    have h0 : ∀ xs : List Int, Da.pys (xs.map Da.int) = xs.map PyData.int := by
      intro xs
      induction xs with
      | nil => rfl
      | cons x xs ih => simp only [List.map_cons, Da.pys, Da.py, ih]
    simp only [List.map_cons, Da.pys, Da.py, h0, pys_tups nss, pyT]
theorem rvs_at {Γ : Nm} {H : LH} : ∀ {vs : List Vl} {xs : List LV} (i : Nat) (h1 : i < vs.length) (h2 : i < xs.length), RVs Γ H vs xs → RV Γ H vs[i] xs[i]
  | [], _, i, h1, _, _ => by simp at h1
  | v :: vs, xs, i, h1, h2, r => by
    simp only [RVs] at r
    obtain ⟨y, ys, rfl, r1, r2⟩ := r
    cases i with
    | zero => exact r1
    | succ i => exact rvs_at i (by simpa using h1) (by simpa using h2) r2
theorem bMax1 (hc : X.calm = true) (hu : X.A.units + 65 < cLine) (hK : Γ.K = X.K) : CallR X (.builtin "max") (gU Γ (wBi .max1)) := by
  intro pins s σ H xs us Q' I rxs ⟨vs, h, Q, rvs, rh, w, kq⟩
  match vs, w with
  | [.ref a], .inl ⟨ws, ns, g, e, hn, w⟩ =>
    obtain ⟨x, rfl, r⟩ := r1 rvs
    obtain ⟨ys, sq, r'⟩ := lst_of hK rh g
    exact L2.cr_max hc pins s σ H _ us Q' I rxs ⟨a, ns, by rw [rref r], by rw [← ints_rv e r']; exact sq, List.length_pos_iff.mpr hn, fun m h1 h2 => kq _ h _ H vint rh (.refl _ _) (w m h1 h2)⟩
  | [.ref a], .inr ⟨nss, g, hn, w⟩ =>
    obtain ⟨x, rfl, r⟩ := r1 rvs
    obtain ⟨ys, sq, r'⟩ := lst_of hK rh g
    have hd := da_dps rh _ (dat_tups nss) r'
    rw [hK, pys_tups] at hd
    refine cr_maxT hc hu pins s σ H _ us Q' I rxs ⟨a, ys, nss, by rw [rref r], sq, hd, hn, fun i h1 h2 h3 => ?_⟩
    have hr := rvs_at i (by simpa using h2) h1 r'
    simp only [List.getElem_map] at hr
    exact kq _ h _ H hr rh (.refl _ _) (w _ (List.getElem_mem h2) h3)
/-- max, min with a default -/
def rDef (K : PySem.W.Frag) (f : List Int → Int → Prop) : List L2.V → List L2.V → LH → L2.VK → Prop := fun vs zs H Q => ∃ (a : Addr) (ns : List Int) (d : Int), vs = [L2.V.ref a] ∧ zs = [L2.V.int d] ∧ L2.SqL K H a (ns.map L2.V.int) ∧ (ns = [] → Q (.int d) H) ∧ (ns ≠ [] → ∀ m, f ns m → Q (.int m) H)
theorem reads_intsD {h : Heap} : ∀ {us : List Value} {ns : List Int}, IntsAre us ns → ∃ as, ReadsAll h us (ns.map PyData.int) as
  | _, _, .nil => ⟨_, .nil⟩
  | _, _, .cons n t r => by
    obtain ⟨as, q⟩ := reads_intsD r
    exact ⟨_, .cons (.int n t) q⟩
theorem alike_intsD (ns : List Int) : PySem.W.AlikeAll (ns.map PyData.int) := by
  constructor
  · intro x hx y hy
    obtain ⟨_, _, rfl⟩ := List.mem_map.mp hx
    obtain ⟨_, _, rfl⟩ := List.mem_map.mp hy
    rw [PySem.W.alike]
  · intro x hx
    obtain ⟨_, _, rfl⟩ := List.mem_map.mp hx
    intro z; cases z
theorem depth_intsD : ∀ ns : List Int, PyData.depthAll (ns.map PyData.int) = 0
  | [] => rfl
  | n :: ns => by simp [PyData.depthAll, PyData.depth, depth_intsD ns]
theorem fold_max : ∀ (ns : List Int) (m0 : Int), ns.foldl max m0 ∈ m0 :: ns ∧ ∀ z ∈ m0 :: ns, z ≤ ns.foldl max m0
  | [], m0 => by simp
  | y :: ns, m0 => by
    obtain ⟨i1, i2⟩ := fold_max ns (max m0 y)
    simp only [List.foldl_cons]
    have i0 := i2 (max m0 y) (by simp)
    refine ⟨?_, fun z hz => ?_⟩
    · rcases List.mem_cons.mp i1 with h | h
      · rw [h]
        rcases Int.le_total m0 y with c | c
        · rw [Int.max_eq_right c]; simp
        · rw [Int.max_eq_left c]; simp
      · exact List.mem_cons_of_mem _ (List.mem_cons_of_mem _ h)
    · rcases List.mem_cons.mp hz with rfl | hz
      · omega
      · rcases List.mem_cons.mp hz with rfl | hz
        · omega
        · exact i2 z (List.mem_cons_of_mem _ hz)
theorem fold_min : ∀ (ns : List Int) (m0 : Int), ns.foldl min m0 ∈ m0 :: ns ∧ ∀ z ∈ m0 :: ns, ns.foldl min m0 ≤ z
  | [], m0 => by simp
  | y :: ns, m0 => by
    obtain ⟨i1, i2⟩ := fold_min ns (min m0 y)
    simp only [List.foldl_cons]
    have i0 := i2 (min m0 y) (by simp)
    refine ⟨?_, fun z hz => ?_⟩
    · rcases List.mem_cons.mp i1 with h | h
      · rw [h]
        rcases Int.le_total m0 y with c | c
        · rw [Int.min_eq_left c]; simp
        · rw [Int.min_eq_right c]; simp
      · exact List.mem_cons_of_mem _ (List.mem_cons_of_mem _ h)
    · rcases List.mem_cons.mp hz with rfl | hz
      · omega
      · rcases List.mem_cons.mp hz with rfl | hz
        · omega
        · exact i2 z (List.mem_cons_of_mem _ hz)
theorem cr_maxDef {X : L2.Cx} (hc : X.calm = true) (hu : X.A.units + 65 < cLine) : L2.CallRK X (.builtin "max") [Str.ofString "default"] (rDef X.K fun ns m => m ∈ ns ∧ ∀ y, y ∈ ns → y ≤ m) := by
  intro pins s σ H vs zs us ws Q I r rz h
  obtain ⟨a, ns, d, rfl, rfl, hs, q0, q⟩ := h
  obtain ⟨its, rv, hl, _⟩ := I.list hs
  rw [L2.Vals.ref1 r]
  obtain ⟨w1, rfl, e1⟩ := L2.vals1 rz
  obtain ⟨t, rfl⟩ := e1
  have hi := rv.ints
  obtain ⟨as, hr⟩ := reads_intsD (h := s.heap) hi
  refine PySem.W.max_list_default (xs := ns.map PyData.int) (I.ok.hd hc) hl.isList (by simpa using hr) (alike_intsD ns) (by rw [depth_intsD]; omega) (fun e h' tk hk => ?_) (fun y ys i v h' tk bs e hv hrd hk => ?_)
  · exact ⟨.int d, H, I.kept hk, ⟨_, rfl⟩, q0 (List.map_eq_nil_iff.mp e)⟩
  · cases ns with
    | nil => simp at e
    | cons n ns =>
      simp only [List.map_cons, List.cons.injEq] at e
      obtain ⟨rfl, rfl⟩ := e
      rw [PySem.W.maxD_ints] at hrd
      cases hrd with
      | int _ t2 => exact ⟨.int _, H, I.kept hk, ⟨_, rfl⟩, q (by simp) _ (fold_max ns n)⟩
theorem cr_minDef {X : L2.Cx} (hc : X.calm = true) (hu : X.A.units + 65 < cLine) : L2.CallRK X (.builtin "min") [Str.ofString "default"] (rDef X.K fun ns m => m ∈ ns ∧ ∀ y, y ∈ ns → m ≤ y) := by
  intro pins s σ H vs zs us ws Q I r rz h
  obtain ⟨a, ns, d, rfl, rfl, hs, q0, q⟩ := h
  obtain ⟨its, rv, hl, _⟩ := I.list hs
  rw [L2.Vals.ref1 r]
  obtain ⟨w1, rfl, e1⟩ := L2.vals1 rz
  obtain ⟨t, rfl⟩ := e1
  have hi := rv.ints
  obtain ⟨as, hr⟩ := reads_intsD (h := s.heap) hi
  refine PySem.W.min_list_default (xs := ns.map PyData.int) (I.ok.hd hc) hl.isList (by simpa using hr) (alike_intsD ns) (by rw [depth_intsD]; omega) (fun e h' tk hk => ?_) (fun y ys i v h' tk bs e hv hrd hk => ?_)
  · exact ⟨.int d, H, I.kept hk, ⟨_, rfl⟩, q0 (List.map_eq_nil_iff.mp e)⟩
  · cases ns with
    | nil => simp at e
    | cons n ns =>
      simp only [List.map_cons, List.cons.injEq] at e
      obtain ⟨rfl, rfl⟩ := e
      rw [PySem.W.minD_ints] at hrd
      cases hrd with
      | int _ t2 => exact ⟨.int _, H, I.kept hk, ⟨_, rfl⟩, q (by simp) _ (fold_min ns n)⟩
/-- the call by keyword -/
theorem sE_mmd {a d : Expr} {a' d' : E} {p q kp : Pos} {nm : String} {b : Bi} {f : List Int → Int → Prop} (hc : X.calm = true) (hK : Γ.K = X.K) (hcr : L2.CallRK X (.builtin nm) [Str.ofString "default"] (rDef X.K f))
    (hb : ∀ (a : Nat) (d : Int) (h : AH) (Q : Qv), wBi b [.ref a, .int d] h Q → ∃ ns : List Int, isLst h a (ns.map Vl.int) ∧ (ns = [] → Q (.int d) h) ∧ (ns ≠ [] → ∀ m, f ns m → Q (.int m) h))
    (hb2 : ∀ (v u : Vl) (h : AH) (Q : Qv), wBi b [v, u] h Q → ∃ (a : Nat) (d : Int), v = .ref a ∧ u = .int d) {x : Str}
    (g1 : L2.Gl X x) (m1 : X.mg x = none) (hv : bootBuiltins x = some (.builtin nm)) (n1 : x ≠ "__name__") (n2 : (x == ("__debug__" : Str)) = false) (ha : PE X a (gE Γ W (wE P Φ a'))) (hd : PE X d (gE Γ W (wE P Φ d')))
    (hs : starEach [a] X.env = (false, eval a X.env) :: starEach [] X.env) (he : backTo q (starEach [a] X.env) = (false, eval a X.env) :: backTo q (starEach [] X.env)) (hpl : (backTo q (starEach [a] X.env)).any (·.1) = false) :
    PE X (.Call (.Name x p) [a] [⟨some (Str.ofString "default"), d, kp⟩] q) (gE Γ W (wE P Φ (.bi b (.cons a' (.cons d' .nil))))) := by
  refine PE.mono (L2.pe_callBK hcr g1 m1 hv (sA_cons ha sA_nil hs) (L2.pk_cons hd L2.pk_nil) n1 n2 he hpl) ?_
  rintro τ H Q' ⟨σ, h, Q, X', rs, rh, w, kq, kx⟩
  refine ⟨σ, h, fun vs h1 => match vs with
    | [v] => wE P Φ d' σ h1 (fun u h2 => wBi b [v, u] h2 Q) X'
    | _ => False, X', rs, rh, w, ?_, kx⟩
  intro vs h1 xs H1 rvs rh1 s1 q1
  match vs, q1 with
  | [v], q1 =>
    obtain ⟨x1, rfl, r1'⟩ := r1 rvs
    refine ⟨σ, h1, _, X', rs.mono s1.xt, rh1, q1, ?_, kx.step s1⟩
    intro u h2 y H2 ru rh2 s2 q2
    obtain ⟨l, dd, rfl, rfl⟩ := hb2 _ _ _ _ q2
    obtain ⟨ns, g, k0, k1⟩ := hb _ _ _ _ q2
    have r2 := r1'.mono s2.xt
    obtain ⟨ys, sq, r'⟩ := lst_of hK rh2 g
    have := ints_rv (isInts_map ns) r'
    subst this
    refine ⟨l, ns, dd, by rw [rref r2], by rw [rint ru], sq, fun e => ?_, fun e m hm => ?_⟩
    · exact kq _ h2 _ H2 vint rh2 (s1.trans s2) (k0 e)
    · exact kq _ h2 _ H2 vint rh2 (s1.trans s2) (k1 e m hm)
theorem isInts_eq : ∀ {xs : List Vl} {ns : List Int}, isInts xs = some ns → xs = ns.map Vl.int
  | [], ns, e => by simp [isInts] at e; subst e; rfl
  | x :: xs, ns, e => by
    cases x <;> simp only [isInts] at e <;> try cases e
    obtain ⟨ms, h, rfl⟩ := Option.map_eq_some_iff.mp e
    rw [isInts_eq h]
    rfl
theorem sE_maxd {a d : Expr} {a' d' : E} {p q kp : Pos} (hc : X.calm = true) (hu : X.A.units + 65 < cLine) (hK : Γ.K = X.K) (g1 : L2.Gl X (Str.ofString "max")) (m1 : X.mg (Str.ofString "max") = none) (n1 : (Str.ofString "max") ≠ "__name__") (n2 : ((Str.ofString "max") == ("__debug__" : Str)) = false)
    (ha : PE X a (gE Γ W (wE P Φ a'))) (hd : PE X d (gE Γ W (wE P Φ d'))) (hs : starEach [a] X.env = (false, eval a X.env) :: starEach [] X.env) (he : backTo q (starEach [a] X.env) = (false, eval a X.env) :: backTo q (starEach [] X.env)) (hpl : (backTo q (starEach [a] X.env)).any (·.1) = false) :
    PE X (.Call (.Name (Str.ofString "max") p) [a] [⟨some (Str.ofString "default"), d, kp⟩] q) (gE Γ W (wE P Φ (.bi .maxd (.cons a' (.cons d' .nil))))) := by
  refine sE_mmd hc hK (cr_maxDef hc hu) (fun a d h Q w => ?_) (fun v u h Q w => ?_) g1 m1 (by decide +kernel) n1 n2 ha hd hs he hpl
  · obtain ⟨xs, ns, g, e, k0, k1⟩ := w
    have := isInts_eq e
    subst this
    exact ⟨ns, g, k0, fun hn m hm => k1 hn m hm.1 hm.2⟩
  · cases v <;> cases u <;> first | exact w.elim | exact ⟨_, _, rfl, rfl⟩
theorem sE_mind {a d : Expr} {a' d' : E} {p q kp : Pos} (hc : X.calm = true) (hu : X.A.units + 65 < cLine) (hK : Γ.K = X.K) (g1 : L2.Gl X (Str.ofString "min")) (m1 : X.mg (Str.ofString "min") = none) (n1 : (Str.ofString "min") ≠ "__name__") (n2 : ((Str.ofString "min") == ("__debug__" : Str)) = false)
    (ha : PE X a (gE Γ W (wE P Φ a'))) (hd : PE X d (gE Γ W (wE P Φ d'))) (hs : starEach [a] X.env = (false, eval a X.env) :: starEach [] X.env) (he : backTo q (starEach [a] X.env) = (false, eval a X.env) :: backTo q (starEach [] X.env)) (hpl : (backTo q (starEach [a] X.env)).any (·.1) = false) :
    PE X (.Call (.Name (Str.ofString "min") p) [a] [⟨some (Str.ofString "default"), d, kp⟩] q) (gE Γ W (wE P Φ (.bi .mind (.cons a' (.cons d' .nil))))) := by
  refine sE_mmd hc hK (cr_minDef hc hu) (fun a d h Q w => ?_) (fun v u h Q w => ?_) g1 m1 (by decide +kernel) n1 n2 ha hd hs he hpl
  · obtain ⟨xs, ns, g, e, k0, k1⟩ := w
    have := isInts_eq e
    subst this
    exact ⟨ns, g, k0, fun hn m hm => k1 hn m hm.1 hm.2⟩
  · cases v <;> cases u <;> first | exact w.elim | exact ⟨_, _, rfl, rfl⟩
theorem bMin1 (hc : X.calm = true) (hK : Γ.K = X.K) : CallR X (.builtin "min") (gU Γ (wBi .min1)) := by
  intro pins s σ H xs us Q' I rxs ⟨vs, h, Q, rvs, rh, w, kq⟩
  match vs, w with
  | [.ref a], ⟨ws, ns, g, e, hn, w⟩ =>
    obtain ⟨x, rfl, r⟩ := r1 rvs
    obtain ⟨ys, sq, r'⟩ := lst_of hK rh g
    exact L2.cr_min hc pins s σ H _ us Q' I rxs ⟨a, ns, by rw [rref r], by rw [← ints_rv e r']; exact sq, List.length_pos_iff.mpr hn, fun m h1 h2 => kq _ h _ H vint rh (.refl _ _) (w m h1 h2)⟩
theorem ints_of {H : LH} : ∀ ms : List Int, RVs Γ H (ms.map Vl.int) (ms.map L2.V.int)
  | [] => by simp only [List.map_nil, RVs]
  | m :: ms => by simp only [List.map_cons, RVs]; exact ⟨_, _, rfl, vint, ints_of ms⟩
theorem strs_of {H : LH} : ∀ ms : List (List Nat), RVs Γ H (ms.map Vl.str) ((ms.map sOf).map L2.V.str)
  | [] => by simp only [List.map_nil, RVs]
  | m :: ms => by simp only [List.map_cons, RVs]; exact ⟨_, _, rfl, vstr, strs_of ms⟩
theorem perm_sOf {ss : List (List Nat)} {ys : List Str} (h : ys.Perm (ss.map sOf)) : ∃ zs : List (List Nat), zs.Perm ss ∧ ys = zs.map sOf := by
  refine ⟨ys.map fun y => y.cps.toList, ?_, ?_⟩
  · have := h.map fun y : Str => y.cps.toList
    rw [List.map_map] at this
    have e : ((fun y : Str => y.cps.toList) ∘ sOf) = id := by funext z; simp [sOf]
    rw [e, List.map_id] at this
    exact this
  · rw [List.map_map]
    have e : (sOf ∘ fun y : Str => y.cps.toList) = id := by funext z; simp [sOf]
    rw [e, List.map_id]
theorem perm_sOfO {ss : List (List Nat)} {ys : List Str} (h : ys.Perm (ss.map sOf)) (pw : ys.Pairwise (fun x y => ¬ y.cps.toList < x.cps.toList)) : ∃ zs : List (List Nat), zs.Perm ss ∧ zs.Pairwise (fun x y => ¬ y < x) ∧ ys = zs.map sOf := by
  obtain ⟨zs, h1, h2⟩ := perm_sOf h
  refine ⟨zs, h1, ?_, h2⟩
  rw [h2] at pw
  exact (List.pairwise_map.mp pw).imp fun {x y} q => by simpa [sOf] using q
theorem pairs_rv {H : LH} : ∀ {ps : List (Int × Int)} {ys : List LV}, RVs Γ H (ps.map pairV) ys → ∃ bs : List Addr, ys = bs.map L2.V.ref ∧ Paired (fun b (p : Int × Int) => L2.SqT Γ.K H b [.int p.1, .int p.2]) bs ps
  | [], _, r => ⟨[], by simpa only [List.map_nil, RVs] using r, .nil⟩
  | p :: ps, _, r => by
    simp only [List.map_cons, RVs, RV] at r
    obtain ⟨y, ys, rfl, ⟨b, xs, rfl, sq, z1, zs1, rfl, rfl, z2, zs2, rfl, rfl, rfl⟩, r2⟩ := r
    obtain ⟨bs, rfl, pr⟩ := pairs_rv r2
    exact ⟨b :: bs, rfl, .cons sq pr⟩
theorem pairs_back {H : LH} : ∀ {bs : List Addr} {ps : List (Int × Int)}, Paired (fun b (p : Int × Int) => L2.SqT Γ.K H b [.int p.1, .int p.2]) bs ps → RVs Γ H (ps.map pairV) (bs.map L2.V.ref)
  | _, _, .nil => by simp only [List.map_nil, RVs]
  | _, _, .cons (a := b) (b := p) h t => by
    simp only [List.map_cons, RVs]
    refine ⟨_, _, rfl, ?_, pairs_back t⟩
    simp only [RV]
    exact ⟨b, _, rfl, h, rv_ints [p.1, p.2]⟩
theorem lexB_pairLt {x y : Int × Int} : SrtO.lexB y x = false ↔ ¬ pairLt y x := by
  unfold pairLt SrtO.lexB
  by_cases e : y.1 = x.1
  · rw [if_pos e]; simp [e]
  · rw [if_neg e]; simp [e]
theorem bSorted (hc : X.calm = true) (hK : Γ.K = X.K) : CallR X (.builtin "sorted") (gU Γ (wBi .sorted1)) := by
  intro pins s σ H xs us Q' I rxs ⟨vs, h, Q, rvs, rh, w, kq⟩
  match vs, w with
  | [.ref a], .inl ⟨ws, ns, g, e, w⟩ =>
    obtain ⟨x, rfl, r⟩ := r1 rvs
    obtain ⟨ys, sq, r'⟩ := lst_of hK rh g
    refine L2.cr_sortedI pins s σ H _ us Q' I rxs ⟨a, ns, by rw [rref r], by rw [← ints_rv e r']; exact sq, fun ms p h1 h2 np => ?_⟩
    exact kq (.ref p) _ _ _ vref (rh.new (u := .lst (ms.map Vl.int)) np ⟨_, L2.upd_same, ints_of ms⟩) (.new np) (w ms h1 h2 p (rh.free np))
  | [.ref a], .inr (.inl ⟨ws, ss, g, e, w⟩) =>
    obtain ⟨x, rfl, r⟩ := r1 rvs
    obtain ⟨ys, sq, r'⟩ := lst_of hK rh g
    refine L2.cr_sortedStr pins s σ H _ us Q' I rxs ⟨a, ss.map sOf, by rw [rref r], by rw [← strs_rv e r']; exact sq, fun ms p h1 h2 np => ?_⟩
    obtain ⟨zs, e1, e3, e2⟩ := perm_sOfO h1 h2
    subst e2
    exact kq (.ref p) _ _ _ vref (rh.new (u := .lst (zs.map Vl.str)) np ⟨_, L2.upd_same, strs_of zs⟩) (.new np) (w zs e1 e3 p (rh.free np))
  | [.ref a], .inr (.inr (.inl ⟨ps, g, w⟩)) =>
    obtain ⟨x, rfl, r⟩ := r1 rvs
    obtain ⟨ys, sq, r'⟩ := lst_of hK rh g
    have ex := rref r
    subst ex
    obtain ⟨bs, rfl, pr⟩ := pairs_rv r'
    rw [hK] at pr
    refine L2.cr_sortedPairs pins s σ H _ us Q' I rxs ⟨a, bs, ps, rfl, sq, pr, fun bs' ms p h0 h1 h2 np => ?_⟩
    have h3 : ms.Pairwise (fun x y => ¬ pairLt y x) := h2.imp fun {x y} q => lexB_pairLt.mp q
    refine kq (.ref p) _ _ _ vref (rh.new (u := .lst (ms.map pairV)) np ⟨_, L2.upd_same, ?_⟩) (.new np) (w ms h1 h3 p (rh.free np))
    exact (pairs_back (by rw [hK]; exact h0)).mono (.new np)
  | [.ref a], .inr (.inr (.inr ⟨ps, kvs, g, e, w⟩)) =>
    obtain ⟨x, rfl, r⟩ := r1 rvs
    obtain ⟨kas, h5, hk, rk⟩ := rh a _ g
    have ex := rref r
    subst ex
    have ek : kas.map (·.1) = ps.map fun p => [p.1, p.2] := by rw [← e, RT.keys rk]
    have eg : ∀ q ∈ kas, ∃ p ∈ ps, q.1 = [p.1, p.2] := fun q hq => by
      have : q.1 ∈ ps.map fun p => [p.1, p.2] := by rw [← ek]; exact List.mem_map.mpr ⟨q, hq, rfl⟩
      obtain ⟨p, hp, ep⟩ := List.mem_map.mp this
      exact ⟨p, hp, ep.symm⟩
    refine L2.cr_sortedTd hc pins s σ H _ us Q' I rxs ⟨a, kas, fun q => (q.1.headD 0, q.1.tail.headD 0), rfl, h5, hK ▸ hk, fun q hq => ?_, fun ks p h1 h2 np => ?_⟩
    · obtain ⟨p, _, ep⟩ := eg q hq
      show q.1 = [q.1.headD 0, q.1.tail.headD 0]
      rw [ep]; rfl
    · have e2 : (ks.map fun q : List Int × Addr × LV => ((q.1.headD 0, q.1.tail.headD 0) : Int × Int)).Perm ps := by
        have := h1.map fun q : List Int × Addr × LV => ((q.1.headD 0, q.1.tail.headD 0) : Int × Int)
        have e3 : (kas.map fun q : List Int × Addr × LV => ((q.1.headD 0, q.1.tail.headD 0) : Int × Int)) = ps := by
          have := congrArg (List.map fun k : List Int => ((k.headD 0, k.tail.headD 0) : Int × Int)) ek
          rw [List.map_map, List.map_map] at this
          exact this.trans (List.map_id' _)
        rw [e3] at this
        exact this
      have e4 : (ks.map fun q : List Int × Addr × LV => ((q.1.headD 0, q.1.tail.headD 0) : Int × Int)).Pairwise (fun x y => ¬ pairLt y x) := List.pairwise_map.mpr (h2.imp fun {x y} q => lexB_pairLt.mp q)
      refine kq (.ref p) _ _ _ vref (rh.new (u := .lst ((ks.map fun q : List Int × Addr × LV => ((q.1.headD 0, q.1.tail.headD 0) : Int × Int)).map pairV)) np ⟨_, L2.upd_same, ?_⟩) (.new np) (w _ e2 e4 p (rh.free np))
      have key : ∀ ks : List (List Int × Addr × LV), (∀ q ∈ ks, q ∈ kas) → RVs Γ H ((ks.map fun q : List Int × Addr × LV => ((q.1.headD 0, q.1.tail.headD 0) : Int × Int)).map pairV) (ks.map fun q => L2.V.ref q.2.1) := by
        intro ks
        induction ks with
        | nil => intro _; simp only [List.map_nil, RVs]
        | cons q ks ih =>
          intro hq
          simp only [List.map_cons, RVs]
          refine ⟨_, _, rfl, ?_, ih fun z hz => hq z (List.mem_cons_of_mem _ hz)⟩
          obtain ⟨p, _, ep⟩ := eg q (hq q List.mem_cons_self)
          simp only [RV]
          have := hk q (hq q List.mem_cons_self)
          rw [ep] at this ⊢
          exact ⟨q.2.1, _, rfl, this, rv_ints [p.1, p.2]⟩
      exact (key ks fun q hq => h1.mem_iff.mp hq).mono (.new np)
theorem itoa_ok (i : Int) : sOf (itoa i) = Str.ofString (toString i) := by
  rw [Str.ofString_eq_toList]; rfl
theorem bStr1 : CallR X (.type "str") (gU Γ (wBi .str1)) := by
  intro pins s σ H xs us Q' I rxs ⟨vs, h, Q, rvs, rh, w, kq⟩
  match vs, w with
  | [.int i], ⟨hz, q⟩ =>
    obtain ⟨x, rfl, r⟩ := r1 rvs
    refine L2.call_str_int pins s σ H _ us Q' I rxs ⟨i, by rw [rint r], ?_, ?_⟩
    · by_cases z : i.natAbs = 0
      · rw [z]; decide
      · exact Nat.lt_trans ((Nat.log2_lt z).mpr hz) (by decide)
    · show Q' (.str (Str.ofString (toString i))) H
      rw [← itoa_ok]
      exact kq _ h _ H vstr rh (.refl _ _) q
/-! texts joined -/
theorem foldl_pre (a z : List Nat) : ∀ (r : List (List Nat)) (x : List Nat), r.foldl (fun acc p => acc ++ a ++ p) (z ++ x) = z ++ r.foldl (fun acc p => acc ++ a ++ p) x
  | [], _ => rfl
  | y :: r, x => by
    simp only [List.foldl_cons]
    rw [show z ++ x ++ a ++ y = z ++ (x ++ a ++ y) by simp]
    exact foldl_pre a z r _
theorem joinL_fold (a : List Nat) : ∀ (r : List (List Nat)) (x : List Nat), joinL a (x :: r) = r.foldl (fun acc p => acc ++ a ++ p) x
  | [], _ => rfl
  | y :: r, x => by
    rw [joinL, joinL_fold a r y, List.foldl_cons]
    exact (foldl_pre a (x ++ a) r y).symm
theorem foldl_arr (a : List Nat) : ∀ (r : List (List Nat)) (x : List Nat), ((r.map sOf).foldl (fun (acc : Array Nat) p => acc ++ (sOf a).cps ++ p.cps) x.toArray) = (r.foldl (fun acc p => acc ++ a ++ p) x).toArray
  | [], _ => rfl
  | y :: r, x => by
    simp only [List.map_cons, List.foldl_cons]
    rw [show x.toArray ++ (sOf a).cps ++ (sOf y).cps = (x ++ a ++ y).toArray by simp [sOf]]
    exact foldl_arr a r _
theorem join_ok (a : List Nat) (ss : List (List Nat)) : PySem.Txt.join (sOf a) (ss.map sOf) = sOf (joinL a ss) := by
  show Builtin.Str.glued _ _ = _
  unfold Builtin.Str.glued
  cases ss with
  | nil => rfl
  | cons x r =>
    rw [joinL_fold]
    show (⟨(r.map sOf).foldl _ (sOf x).cps⟩ : Str) = _
    have := foldl_arr a r x
    rw [show (sOf x).cps = x.toArray from rfl, this]; rfl
theorem mJoin (hK : Γ.K = X.K) : MtAt X Γ "join" .str .join := by
  refine ⟨_, PySem.F.plainAttrs_str, PySem.F.slot_str_join, PySem.F.type_str_join, ?_⟩
  intro pins s σ H x xs v us Q' I rx rxs ⟨v', vs, h, Q, rv, rvs, rh, w, kq⟩
  match v', vs, w with
  | .str a, [.ref p], ⟨ws, ss, g, e, hz, q⟩ =>
    obtain ⟨x', rfl, r⟩ := r1 rvs
    obtain ⟨ys, sq, r'⟩ := lst_of hK rh g
    refine L2.mt_join pins s σ H x _ v us Q' I rx rxs ⟨sOf a, p, ss.map sOf, rstr rv, by rw [rref r], .inl (by rw [← strs_rv e r']; exact sq), ?_, ?_⟩
    · rw [sOf_length, List.length_map, List.map_map]
      have : (ss.map ((fun s : Str => s.length) ∘ sOf)) = ss.map (·.length) := List.map_congr_left fun y _ => sOf_length y
      rw [this]; exact hz
    · rw [join_ok]
      exact kq _ h _ H vstr rh (.refl _ _) q
/-! signs counted -/
theorem occ_len (x : Str) (c hi limit : Nat) (hh : hi = x.length) (hl : x.length < limit) : ∀ (m k : Nat) (f : Array Nat) (fr : Nat), k + m = hi + 1 → fr ≤ k → f.size ≤ k →
    ((forIn (List.range' k m) (f, fr) (StrLaws.occBody x ⟨#[c]⟩ hi limit)).run.fst).size = f.size + (x.cps.toList.drop k).count c
  | 0, k, f, fr, e, _, _ => by
    have : x.cps.toList.drop k = [] := by
      apply List.drop_eq_nil_of_le
      simp [Str.length] at hh ⊢; omega
    rw [this]; simp
  | m + 1, k, f, fr, e, h1, h2 => by
    rw [List.range'_succ, List.forIn_cons]
    unfold StrLaws.occBody
    have key := StrLaws.subAt_one x c k
    by_cases hc : x.cps.toList[k]? = some c
    · obtain ⟨q1, q2⟩ := key.mpr hc
      rw [if_pos ⟨⟨⟨by simp [Str.length] at *; omega, h1⟩, by rw [hh]; exact q1⟩, q2⟩]
      have := occ_len x c hi limit hh hl m (k + 1) (f.push k) (k + (⟨#[c]⟩ : Str).length) (by omega) (by show k + 1 ≤ k + 1; omega) (by simp; omega)
      refine this.trans ?_
      obtain ⟨hlt, he⟩ := List.getElem?_eq_some_iff.mp hc
      rw [List.drop_eq_getElem_cons hlt, he]
      simp; omega
    · rw [if_neg (fun z => hc (key.mp ⟨by rw [← hh]; exact z.1.2, z.2⟩))]
      have := occ_len x c hi limit hh hl m (k + 1) f fr (by omega) (by omega) (by omega)
      refine this.trans ?_
      by_cases hlt : k < x.cps.toList.length
      · rw [List.drop_eq_getElem_cons hlt]
        have : x.cps.toList[k] ≠ c := fun z => hc (by rw [List.getElem?_eq_getElem hlt, z])
        rw [List.count_cons_of_ne this]
      · rw [List.drop_eq_nil_of_le (by omega), List.drop_eq_nil_of_le (by omega)]
theorem count_ok (s : List Nat) (c : Nat) : PySem.Txt.count (sOf s) (sOf [c]) = ((s.count c : Nat) : Int) := by
  show ((Builtin.Str.occurrences (sOf s) (sOf [c]) 0 (sOf s).length ((sOf s).length + 1)).length : Int) = _
  rw [StrLaws.occ_eq]
  have := occ_len (sOf s) c (sOf s).length ((sOf s).length + 1) rfl (by omega) ((sOf s).length + 1) 0 #[] 0 (by omega) (by omega) (by simp)
  have e : (sOf s).cps.toList = s := by simp [sOf]
  rw [e] at this
  rw [show (sOf [c]) = (⟨#[c]⟩ : Str) from rfl]
  simp at this ⊢
  omega
theorem mCount : MtAt X Γ "count" .str .count := by
  refine ⟨_, PySem.F.plainAttrs_str, PySem.F.slot_str_count, PySem.F.type_str_count, ?_⟩
  intro pins s σ H x xs v us Q' I rx rxs ⟨v', vs, h, Q, rv, rvs, rh, w, kq⟩
  match v', vs, w with
  | .str a, [.str b], ⟨c, e, q⟩ =>
    subst e
    obtain ⟨x', rfl, r⟩ := r1 rvs
    refine L2.mt_count pins s σ H x _ v us Q' I rx rxs ⟨sOf a, sOf [c], rstr rv, by rw [rstr r], ?_⟩
    rw [count_ok]
    exact kq _ h _ H vint rh (.refl _ _) q
theorem spl_splA (c : Nat) : ∀ (l acc : List Nat), TL.spl [c] 0 acc l = splA c acc l
  | [], acc => by rw [TL.spl_nil]; rfl
  | x :: r, acc => by
    have e : TL.pre [c] (x :: r) = decide (x = c) := by simp [TL.pre, Bool.beq_eq_decide_eq]
    unfold TL.spl splA
    rw [e]
    by_cases h : x = c
    · rw [if_pos (decide_eq_true h), if_pos h]
      have := spl_splA c r []
      simpa using this
    · rw [if_neg (by simpa using h), if_neg h]
      exact spl_splA c r _
theorem mSplit : MtAt X Γ "split" .str .split := by
  refine ⟨_, PySem.F.plainAttrs_str, PySem.F.slot_str_split, PySem.F.type_str_split, ?_⟩
  intro pins s σ H x xs v us Q' I rx rxs ⟨v', vs, h, Q, rv, rvs, rh, w, kq⟩
  match v', vs, w with
  | .str a, [.str b], ⟨c, e, hc, hz, q⟩ =>
    subst e
    obtain ⟨x', rfl, r⟩ := r1 rvs
    refine L2.mt_split pins s σ H x _ v us Q' I rx rxs ⟨sOf a, sOf [c], rstr rv, by rw [rstr r], rfl, by rw [sOf_length]; exact hz, ?_⟩
    have e1 : Txt.split (sOf a) (sOf [c]) = (splA c [] a).map sOf := by
      have := SX.split_S (a := a) (b := [c]) (by simp) (by simpa using hc)
      rw [spl_splA] at this
      exact this
    rw [e1]
    exact new_ok kq rh (.refl _ _) q fun p np => ⟨_, L2.upd_same, strs_of _⟩
theorem par_parA (c : Nat) : ∀ (l acc : List Nat), (TL.par [c] acc l = none ∧ parA c acc l = (acc ++ l, [], [])) ∨ ∃ p q, TL.par [c] acc l = some (p, q) ∧ parA c acc l = (p, [c], q)
  | [], acc => .inl ⟨rfl, by simp [parA]⟩
  | x :: r, acc => by
    have e : TL.pre [c] (x :: r) = decide (x = c) := by simp [TL.pre, Bool.beq_eq_decide_eq]
    unfold TL.par parA
    rw [e]
    by_cases h : x = c
    · rw [if_pos (decide_eq_true h), if_pos h]
      exact .inr ⟨_, _, rfl, by simp⟩
    · rw [if_neg (by simpa using h), if_neg h]
      rcases par_parA c r (acc ++ [x]) with ⟨h1, h2⟩ | h1
      · exact .inl ⟨h1, by rw [h2]; simp⟩
      · exact .inr h1
theorem mPart : MtAt X Γ "partition" .str .partition := by
  refine ⟨_, PySem.F.plainAttrs_str, PySem.F.slot_str_partition, PySem.F.type_str_partition, ?_⟩
  intro pins s σ H x xs v us Q' I rx rxs ⟨v', vs, h, Q, rv, rvs, rh, w, kq⟩
  match v', vs, w with
  | .str a, [.str b], ⟨c, e, hc, hz, q⟩ =>
    subst e
    obtain ⟨x', rfl, r⟩ := r1 rvs
    refine L2.mt_partition pins s σ H x _ v us Q' I rx rxs ⟨sOf a, sOf [c], rstr rv, by rw [rstr r], rfl, by rw [sOf_length]; exact hz, fun l hl => ?_⟩
    have e1 : Txt.partition (sOf a) (sOf [c]) = (sOf (parA c [] a).1, sOf (parA c [] a).2.1, sOf (parA c [] a).2.2) := by
      rcases par_parA c a [] with ⟨h1, h2⟩ | ⟨p1, p2, h1, h2⟩
      · have := SX.partition_none (a := a) (b := [c]) (by simp) h1
        rw [h2]
        exact this
      · have := SX.partition_some (a := a) (b := [c]) (by simp) h1
        rw [h2]
        exact this
    rw [e1]
    refine kq _ h _ _ ?_ (rh.tup hl) (.tup hl) q
    simp only [RV]
    refine ⟨l, _, rfl, .of L2.upd_same, ?_⟩
    exact strs_of [(parA c [] a).1, (parA c [] a).2.1, (parA c [] a).2.2]
theorem mStarts : MtAt X Γ "startswith" .str .startswith := by
  refine ⟨_, PySem.F.plainAttrs_str, PySem.F.slot_str_startswith, PySem.F.type_str_startswith, ?_⟩
  intro pins s σ H x xs v us Q' I rx rxs ⟨v', vs, h, Q, rv, rvs, rh, w, kq⟩
  match v', vs, w with
  | .str a, [.str b], q =>
    obtain ⟨x', rfl, r⟩ := r1 rvs
    refine L2.mt_startswith pins s σ H x _ v us Q' I rx rxs ⟨sOf a, sOf b, rstr rv, by rw [rstr r], ?_⟩
    have e1 : Txt.startswith (sOf a) (sOf b) = (a.take b.length == b) := by
      have e2 : (sOf a).cps.toList = a := by simp [sOf]
      have e3 : (sOf b).cps.toList = b := by simp [sOf]
      unfold Txt.startswith
      rw [StrLaws.subAt_eq, e2, e3, sOf_length, sOf_length, List.drop_zero]
      cases z : (a.take b.length == b) with
      | false => simp
      | true =>
        have := congrArg List.length (eq_of_beq z)
        simp only [List.length_take] at this
        simp
        omega
    rw [e1]
    exact kq _ h _ H vbl rh (.refl _ _) q
theorem mEnds : MtAt X Γ "endswith" .str .endswith := by
  refine ⟨_, PySem.F.plainAttrs_str, PySem.F.slot_str_endswith, PySem.F.type_str_endswith, ?_⟩
  intro pins s σ H x xs v us Q' I rx rxs ⟨v', vs, h, Q, rv, rvs, rh, w, kq⟩
  match v', vs, w with
  | .str a, [.str b], q =>
    obtain ⟨x', rfl, r⟩ := r1 rvs
    refine L2.mt_endswith pins s σ H x _ v us Q' I rx rxs ⟨sOf a, sOf b, rstr rv, by rw [rstr r], ?_⟩
    have e1 : Txt.endswith (sOf a) (sOf b) = (decide (b.length ≤ a.length) && a.drop (a.length - b.length) == b) := by
      have e2 : (sOf a).cps.toList = a := by simp [sOf]
      have e3 : (sOf b).cps.toList = b := by simp [sOf]
      unfold Txt.endswith
      rw [StrLaws.subAt_eq, e2, e3, sOf_length, sOf_length, Nat.zero_add]
      cases z : decide (b.length ≤ a.length) with
      | false => simp
      | true =>
        have z : b.length ≤ a.length := of_decide_eq_true z
        simp only [Bool.true_and]
        rw [List.take_of_length_le (by rw [List.length_drop]; omega)]
    rw [e1]
    exact kq _ h _ H vbl rh (.refl _ _) q
theorem mSIndex : MtAt X Γ "index" .str .index := by
  refine ⟨_, PySem.F.plainAttrs_str, PySem.F.slot_str_index, PySem.F.type_str_index, ?_⟩
  intro pins s σ H x xs v us Q' I rx rxs ⟨v', vs, h, Q, rv, rvs, rh, w, kq⟩
  match v', vs, w with
  | .str a, [.str b], ⟨ea, z, eb, q⟩ =>
    subst ea eb
    obtain ⟨x', rfl, r⟩ := r1 rvs
    cases z with
    | true =>
      refine L2.mt_sindex pins s σ H x _ v us Q' I rx rxs ⟨sOf [48, 49], sOf [49], 1, [], rstr rv, by rw [rstr r]; rfl, by decide +kernel, ?_⟩
      exact kq (.int 1) h _ H vint rh (.refl _ _) q
    | false =>
      refine L2.mt_sindex pins s σ H x _ v us Q' I rx rxs ⟨sOf [48, 49], sOf [48], 0, [], rstr rv, by rw [rstr r]; rfl, by decide +kernel, ?_⟩
      exact kq (.int 0) h _ H vint rh (.refl _ _) q
theorem tw_all {p : Nat → Bool} : ∀ {xs : List Nat}, (∀ c, c ∈ xs → p c = true) → xs.takeWhile p = xs
  | [], _ => rfl
  | x :: xs, h => by
    rw [List.takeWhile_cons, if_pos (h x (by simp)), tw_all fun c hc => h c (List.mem_cons_of_mem _ hc)]
theorem tw_in {p : Nat → Bool} : ∀ {xs : List Nat} {c : Nat}, c ∈ xs.takeWhile p → p c = true
  | x :: xs, c, h => by
    rw [List.takeWhile_cons] at h
    by_cases e : p x = true
    · rw [if_pos e] at h
      rcases List.mem_cons.mp h with rfl | h
      · exact e
      · exact tw_in h
    · rw [if_neg e] at h; cases h
theorem tw_le {p : Nat → Bool} (xs : List Nat) : (xs.takeWhile p).length ≤ xs.length := (List.takeWhile_prefix p).length_le
theorem strip_ok (a b : List Nat) : ((PySem.Txt.stripChars (sOf a) (sOf b)).cps.toList = [] ↔ ∀ c, c ∈ a → c ∈ b) := by
  have hg : ∀ c, ((sOf b).cps.contains c = true ↔ c ∈ b) := fun c => by simp [sOf]
  have hlen : (sOf a).length = a.length := sOf_length a
  have hlist : (sOf a).cps.toList = a := by simp [sOf]
  show (PySem.Txt.stripBy (sOf b).cps.contains true true (sOf a)).cps.toList = [] ↔ _
  unfold PySem.Txt.stripBy
  by_cases hall : ∀ c, c ∈ a → c ∈ b
  · have htw : ∀ xs : List Nat, (∀ c, c ∈ xs → c ∈ b) → xs.takeWhile (sOf b).cps.contains = xs := fun xs hx => tw_all fun c hc => (hg c).mpr (hx c hc)
    have hlo : stripLo (sOf b).cps.contains true (sOf a) = a.length := by
      unfold stripLo
      rw [if_pos rfl, hlist, htw a hall]
    have hhi : stripHi (sOf b).cps.contains true (sOf a) a.length = a.length := by
      unfold stripHi
      rw [if_pos rfl, hlist, List.drop_length, hlen]
      simp
    refine ⟨fun _ => hall, fun _ => ?_⟩
    by_cases hs : stripSame (sOf b).cps.contains true true (sOf a) = true
    · rw [if_pos hs]
      unfold stripSame at hs
      rw [hlo] at hs
      have : a.length = 0 := by
        have := (Bool.and_eq_true_iff.mp hs).1
        simpa using this
      rw [hlist]
      exact List.eq_nil_of_length_eq_zero this
    · rw [if_neg hs]
      unfold stripped
      rw [hlo, hhi]
      unfold Builtin.Str.strSub
      simp
  · refine ⟨fun z => ?_, fun z => absurd z hall⟩
    exfalso
    obtain ⟨c, hc, hcb⟩ : ∃ c, c ∈ a ∧ c ∉ b := by
      refine Classical.byContradiction fun w => hall fun c hc => Classical.byContradiction fun v => w ⟨c, hc, v⟩
    have hlo : (a.takeWhile (sOf b).cps.contains).length < a.length := by
      refine Nat.lt_of_le_of_ne (tw_le _) fun e => ?_
      have h1 : a.takeWhile (sOf b).cps.contains = a := by
        have := List.takeWhile_prefix (sOf b).cps.contains (l := a)
        exact this.eq_of_length e
      have h2 := tw_in (p := (sOf b).cps.contains) (xs := a) (c := c) (by rw [h1]; exact hc)
      exact hcb ((hg c).mp h2)
    by_cases hs : stripSame (sOf b).cps.contains true true (sOf a) = true
    · rw [if_pos hs, hlist] at z
      rw [z] at hc; cases hc
    · rw [if_neg hs] at z
      unfold stripped at z
      have e1 : stripLo (sOf b).cps.contains true (sOf a) = (a.takeWhile (sOf b).cps.contains).length := by
        unfold stripLo; rw [if_pos rfl, hlist]
      rw [e1] at z
      generalize hn : (a.takeWhile (sOf b).cps.contains).length = n at *
      have hx : ∃ x rest, a.drop n = x :: rest ∧ x ∉ b := by
        have h3 := List.takeWhile_append_dropWhile (p := (sOf b).cps.contains) (l := a)
        have h4 : a.drop n = a.dropWhile (sOf b).cps.contains := by
          conv => lhs; rw [← h3]
          rw [← hn, List.drop_left]
        rw [h4]
        cases hd : a.dropWhile (sOf b).cps.contains with
        | nil =>
          rw [hd, List.append_nil] at h3
          rw [h3] at hn; omega
        | cons x rest =>
          refine ⟨x, rest, rfl, fun hxb => ?_⟩
          have := List.head_dropWhile_not (p := (sOf b).cps.contains) (l := a) (w := by rw [hd]; simp)
          simp only [hd, List.head_cons] at this
          rw [(hg x).mpr hxb] at this
          cases this
      obtain ⟨x, rest, hx1, hx2⟩ := hx
      have e2 : n < stripHi (sOf b).cps.contains true (sOf a) n := by
        unfold stripHi
        rw [if_pos rfl, hlist, hlen, hx1]
        have h5 : (((x :: rest).reverse).takeWhile (sOf b).cps.contains).length < (x :: rest).length := by
          refine Nat.lt_of_le_of_ne (Nat.le_trans (tw_le _) (by simp)) fun e => ?_
          have h1 : ((x :: rest).reverse).takeWhile (sOf b).cps.contains = (x :: rest).reverse := by
            have := List.takeWhile_prefix (sOf b).cps.contains (l := (x :: rest).reverse)
            exact this.eq_of_length (by rw [e]; simp)
          have h2 := tw_in (p := (sOf b).cps.contains) (xs := (x :: rest).reverse) (c := x) (by rw [h1]; simp)
          exact hx2 ((hg x).mp h2)
        have h6 : (x :: rest).length = a.length - n := by rw [← hx1, List.length_drop]
        omega
      have e3 : stripHi (sOf b).cps.contains true (sOf a) n ≤ a.length := by
        unfold stripHi
        rw [if_pos rfl, hlen]; omega
      generalize stripHi (sOf b).cps.contains true (sOf a) n = m at *
      unfold Builtin.Str.strSub at z
      have : ((sOf a).cps.extract n m).toList.length = 0 := by rw [z]; rfl
      simp [sOf] at this
      omega
theorem sOf_toList (s : Str) : sOf s.cps.toList = s := by obtain ⟨a⟩ := s; simp [sOf]
theorem mStrip : MtAt X Γ "strip" .str .strip := by
  refine ⟨_, PySem.F.plainAttrs_str, PySem.F.slot_str_strip, PySem.F.type_str_strip, ?_⟩
  intro pins s σ H x xs v us Q' I rx rxs ⟨v', vs, h, Q, rv, rvs, rh, w, kq⟩
  match v', vs, w with
  | .str a, [.str b], ⟨hz, q⟩ =>
    obtain ⟨x', rfl, r⟩ := r1 rvs
    refine L2.mt_stripChars pins s σ H x _ v us Q' I rx rxs ⟨sOf a, sOf b, rstr rv, by rw [rstr r], by rw [sOf_length]; exact hz, ?_⟩
    have := kq (.str (PySem.Txt.stripChars (sOf a) (sOf b)).cps.toList) h (.str (sOf (PySem.Txt.stripChars (sOf a) (sOf b)).cps.toList)) H vstr rh (.refl _ _) (q _ (strip_ok a b))
    rw [sOf_toList] at this
    exact this
end
end KN

set_option autoImplicit false
set_option linter.all false
/-! Kern, part 10c: instances, methods, calls without arguments -/
namespace KN
open PySem PySem.Spec PyProof.Rows
open L2 (PE PT PW PA PS PSs OpR CallR upd PI)
section
variable {X : L2.Cx} {Γ : Nm} {W : L2.WX} {P : PG} {Φ : Phi} {pos : Pos} {e : Expr} {es : List Expr} {e' es' : E} {k f n : Nat} {fa C : Addr} {fd : FuncData} {ps : List Str} {x : Str} {p ap : Pos}
abbrev EW (W : L2.WX) (σ : LS) : L2.XK := fun cls d H => W cls d σ H
theorem gd_make {A : Around} {args : Args} (gd : A.guards = some []) : (A.under (.builtin "type.__call__" args)).guards = some [] := by
  have e : Code.guards (.builtin "type.__call__" args) = [] := by simp [Code.guards, Code.isGuard, guardIds]
  unfold Around.under
  rw [e, gd]
  rfl
/-- made: the instance, its __init__ -/
theorem run_mk {CX : L2.CXT} {E : L2.XK} {sp : L2.Sp} {pins : List (Addr × Obj)} {τ : LS} {H : LH} {s : Shared} {Q : L2.VK} {us : List Value} {xs : List LV} (M : L2.Mk X.K C fa) (F : FnG X.prog X.w X.K X.mg X.base CX k fa fd ps sp) (gd : X.A.guards = some []) (hr : L2.Room (k + 1) X.A) (hb : L2.Binds X.K fd ps [])
    (hx : L2.PassesAt CX X τ E) (I : L2.Inv X pins τ H s) (r : L2.Vals xs us)
    (q : ∀ a dx, H a = none → H dx = none → dx ≠ a → sp (.ref a :: xs) (upd (upd H dx (.own a)) a (.ins C dx [])) (fun v H2 => v = .non ∧ Q (.ref a) H2) E) :
    wpAny (model X.prog X.w) X.A (call (.ref C) us) (L2.EP X pins τ Q) X.xe s := by
  have q0 := q (s.heap.objs.size + 1) s.heap.objs.size (I.hok.fresh (Nat.le_succ _)) (I.hok.fresh (Nat.le_refl _)) (Nat.ne_of_lt (Nat.lt_succ_self _))
  have J := L2.Inv.made (C := C) I
  have rr : L2.Vals (L2.V.ref (s.heap.objs.size + 1) :: xs) (Value.ref (s.heap.objs.size + 1) :: us) := .cons rfl r
  have hl : (Value.ref (s.heap.objs.size + 1) :: us).length = ps.length := (rr.length.symm).trans (F.len _ _ _ _ q0)
  have bb := hb _ (Value.ref (s.heap.objs.size + 1) :: us) J.kIn (by rw [List.append_nil]; exact hl)
  rw [List.append_nil] at bb
  have go := F.run _ X.stack _ _ ⟨Value.ref (s.heap.objs.size + 1) :: us, []⟩ (Value.ref (s.heap.objs.size + 1) :: us) _ _ E (gd_make gd) (hr.make C us []) (J.env0.make C us []) bb rr q0
  refine wpAny_call (L2.make_map (f := fa) I.kIn M.makes M.init (beq_iff_eq.mp M.fn) (codeAny_mono go fun res s' z => ?_))
  match res, z with
  | .error e, z => exact hx pins _ _ e s' J z
  | .ok (.ret u), z =>
    obtain ⟨v, H', J', rv, ev, q3⟩ := J.after z
    subst ev
    exact ⟨rv, ⟨L2.V.ref (s.heap.objs.size + 1), H', J', rfl, q3⟩⟩
  | .ok .next, z => exact z.elim
  | .ok .brk, z => exact z.elim
  | .ok .cont, z => exact z.elim
/-- what a new instance is to the IR -/
theorem mk_sp {τ : LS} {H H1 : LH} {c : Nat} {vs : List Vl} {xs : List LV} {h1 : AH} {Q : Qv} {Q' : L2.VK} {X' : Xv} {σ : St} {h : AH} (hC : Γ.ca c = some C) (hP : P.init c = some f) (rs : RS Γ H1 σ τ) (rvs : RVs Γ H1 vs xs) (rh1 : RH Γ h1 H1) (s1 : Sp h H h1 H1) (kq : KQ Γ h H Q Q') (kx : KX Γ W h H X')
    (har : ∀ vs h Q X', Φ f vs h Q X' → vs.length = n)
    (w : ∃ f, P.init c = some f ∧ ∀ p, get h1 p = none → Φ f (.ref p :: vs) (push h1 p (.ins c [])) (fun v h2 => v = .non ∧ Q (.ref p) h2) (fun e h2 => X' e σ h2)) :
    ∀ a dx, H1 a = none → H1 dx = none → dx ≠ a → gF Γ (Φ f) n (.ref a :: xs) (upd (upd H1 dx (.own a)) a (.ins C dx [])) (fun v H2 => v = .non ∧ Q' (.ref a) H2) (EW W τ) := by
  intro a dx na nd ne
  obtain ⟨f', e1, w⟩ := w
  rw [hP] at e1; cases e1
  have na2 : (upd H1 dx (.own a)) a = none := by rw [L2.upd_ne (Ne.symm ne)]; exact na
  have s2 : Sp h1 H1 h1 (upd H1 dx (.own a)) := .tup nd
  have s3 : Sp h1 (upd H1 dx (.own a)) (push h1 a (.ins c [])) (upd (upd H1 dx (.own a)) a (.ins C dx [])) := .new na2
  have st := (s1.trans s2).trans s3
  have w := w a (rh1.free na)
  have hl := har _ _ _ _ w
  refine ⟨?_, .ref a :: vs, push h1 a (.ins c []), _, _, ?_, (rh1.tup nd).new na2 ⟨C, dx, [], hC, L2.upd_same, rfl⟩, w, ?_, ?_⟩
  · rw [List.length_cons, ← rvs.length]; exact hl
  · simp only [RVs]
    exact ⟨_, xs, rfl, vref, RVs.mono (s2.trans s3).xt vs rvs⟩
  · intro v h2 y H2 rv rh2 s4 ⟨e1, q⟩
    subst e1
    exact ⟨by simpa only [RV] using rv, kq (.ref a) h2 _ H2 vref rh2 (st.trans s4) q⟩
  · intro ex h2 cc d H2 re rh2 s4 q
    exact kx ex σ h2 cc d τ H2 re (rs.mono ((s2.trans s3).trans s4).xt) rh2 (st.trans s4) q
theorem sE_make {c : Nat} (tk : L2.Takes X W) (M : L2.Mk X.K C fa) (hC : Γ.ca c = some C) (hP : P.init c = some f) (F : FnG X.prog X.w X.K X.mg X.base (L2.CX X.prog X.w) k fa fd ps (gF Γ (Φ f) n)) (gd : X.A.guards = some []) (hr : L2.Room (k + 1) X.A) (hg : L2.Gl X x) (hm : X.mg x = some (.ref C)) (hb : L2.Binds X.K fd ps [])
    (har : ∀ vs h Q X', Φ f vs h Q X' → vs.length = n) (ha : PA X (e :: es) (gA Γ W (wA P Φ es'))) (hdb : (x == ("__debug__" : Str)) = false) (he : starEach (e :: es) X.env = (false, eval e X.env) :: starEach es X.env) (hpl : (backTo pos (starEach es X.env)).any (·.1) = false) :
    PE X (.Call (.Name x p) (e :: es) [] pos) (gE Γ W (wE P Φ (.make c es'))) := by
  refine ⟨fun pins s τ H Q' I ⟨σ, h, Q, X', rs, rh, w, kq, kx⟩ => ?_⟩
  refine wpAny_Call_Name_kw (L2.ld_glob I hg hm ?_ hdb)
  have hargs := ha.run pos pins s τ H (fun xs H1 => ∀ a dx, H1 a = none → H1 dx = none → dx ≠ a → gF Γ (Φ f) n (.ref a :: xs) (upd (upd H1 dx (.own a)) a (.ins C dx [])) (fun v H2 => v = .non ∧ Q' (.ref a) H2) (EW W τ)) I
    ⟨σ, h, _, X', rs, rh, w, fun vs h1 xs H1 rvs rh1 s1 q1 => mk_sp hC hP (rs.mono s1.xt) rvs rh1 s1 kq kx har q1, kx⟩
  refine PySem.W.callWith_K (h₀ := X.base) I.ok.mod.kin M.kp (L2.thn hargs fun us s1 ⟨xs, H1, I1, r, q⟩ => ⟨I1.kIn, run_mk M F gd hr hb (L2.passAt tk τ) I1 r q⟩) he hpl
theorem sE_make0 {c : Nat} (tk : L2.Takes X W) (M : L2.Mk X.K C fa) (hC : Γ.ca c = some C) (hP : P.init c = some f) (F : FnG X.prog X.w X.K X.mg X.base (L2.CX X.prog X.w) k fa fd ps (gF Γ (Φ f) n)) (gd : X.A.guards = some []) (hr : L2.Room (k + 1) X.A) (hg : L2.Gl X x) (hm : X.mg x = some (.ref C)) (hb : L2.Binds X.K fd ps [])
    (har : ∀ vs h Q X', Φ f vs h Q X' → vs.length = n) (hdb : (x == ("__debug__" : Str)) = false) : PE X (.Call (.Name x p) [] [] pos) (gE Γ W (wE P Φ (.make c .nil))) := by
  refine ⟨fun pins s τ H Q' I ⟨σ, h, Q, X', rs, rh, w, kq, kx⟩ => ?_⟩
  refine wpAny_Call_Name_kw (L2.ld_glob I hg hm ?_ hdb)
  exact PySem.W.callWith_K0 I.kIn M.kp (run_mk (us := []) M F gd hr hb (L2.passAt tk τ) I .nil (mk_sp hC hP rs (by simp only [RVs]) rh (.refl _ _) kq kx har w))
/-- f() -/
theorem sE_call0 (tk : L2.Takes X W) (F : FnG X.prog X.w X.K X.mg X.base (L2.CX X.prog X.w) k fa fd ps (gF Γ (Φ f) n)) (gd : X.A.guards = some []) (hr : L2.Room k X.A) (hg : L2.Gl X x) (hm : X.mg x = some (.ref fa)) (hkp : PySem.W.keepIn X.K (.ref fa) = true) (hb : L2.Binds X.K fd ps [])
    (har : ∀ vs h Q X', Φ f vs h Q X' → vs.length = n) (hdb : (x == ("__debug__" : Str)) = false) : PE X (.Call (.Name x p) [] [] pos) (gE Γ W (wE P Φ (.call f .nil))) := by
  refine ⟨fun pins s τ H Q' I ⟨σ, h, Q, X', rs, rh, w, kq, kx⟩ => ?_⟩
  refine wpAny_Call_Name_kw (L2.ld_glob I hg hm ?_ hdb)
  have w : Φ f [] h Q (fun e h2 => X' e σ h2) := w
  refine PySem.W.callWith_K0 I.kIn hkp (run_fnG (E := fun τ => EW W τ) (us := []) (vs := []) F gd hr hb (L2.passAt tk τ) I .nil ⟨har _ _ _ _ w, [], h, Q, _, by simp only [RVs], rh, w, kq, ?_⟩)
  intro ex h2 cc d H2 re rh2 s4 q
  exact kx ex σ h2 cc d τ H2 re (rs.mono s4.xt) rh2 s4 q
end
/-! attributes -/
structure AttF (X : L2.Cx) (Γ : Nm) (f : Nat) (y : Str) : Prop where
  nm : Γ.fld f = y
  at_ : ∀ c C, Γ.ca c = some C → L2.Cls X.K C ∧ L2.NoAttr X.K C y
section
variable {X : L2.Cx} {Γ : Nm} {W : L2.WX} {P : PG} {Φ : Phi} {pos : Pos} {e : Expr} {es : List Expr} {e' es' o' : E} {k f n : Nat} {fa C : Addr} {fd : FuncData} {ps : List Str} {x y : Str} {p ap : Pos} {o : Expr}
theorem rf_get {H : LH} (hi : ∀ f g, Γ.fld f = Γ.fld g → f = g) : ∀ {fs : List (Nat × Vl)} {gs : List (Str × LV)} {f : Nat} {v : Vl}, RF Γ H fs gs → fget fs f = some v → ∃ x, gs.lookup (Γ.fld f) = some x ∧ RV Γ H v x
  | [], _, _, _, _, e => by cases e
  | (g, u) :: r, _, f, v, ⟨z, zs, e1, r1, r2⟩, e => by
    subst e1
    unfold fget at e
    rw [List.lookup_cons]
    by_cases q : g = f
    · rw [if_pos q] at e
      cases e
      subst q
      exact ⟨z, by simp, r1⟩
    · rw [if_neg q] at e
      have : (Γ.fld f == Γ.fld g) = false := beq_eq_false_iff_ne.mpr fun w => q (hi _ _ w).symm
      rw [this]
      exact rf_get hi r2 e
theorem rf_put {H : LH} (hi : ∀ f g, Γ.fld f = Γ.fld g → f = g) {f : Nat} {v : Vl} {x : LV} (rv : RV Γ H v x) : ∀ {fs : List (Nat × Vl)} {gs : List (Str × LV)}, RF Γ H fs gs → RF Γ H (fput fs f v) (L2.putF (Γ.fld f) x gs)
  | [], gs, r => by
    have e : gs = [] := r
    subst e
    exact ⟨x, [], rfl, rv, rfl⟩
  | (g, u) :: r, _, ⟨z, zs, e1, r1, r2⟩ => by
    subst e1
    unfold fput L2.putF
    by_cases q : g = f
    · subst q
      rw [if_pos rfl, if_pos rfl]
      exact ⟨x, zs, rfl, rv, r2⟩
    · rw [if_neg q, if_neg fun w => q (hi _ _ w)]
      exact ⟨z, _, rfl, r1, rf_put hi rv r2⟩
theorem rf_len {H : LH} : ∀ {fs : List (Nat × Vl)} {gs : List (Str × LV)}, RF Γ H fs gs → gs.length = fs.length
  | [], gs, r => by
    have e : gs = [] := r
    subst e; rfl
  | (g, u) :: r, _, ⟨z, zs, e1, r1, r2⟩ => by subst e1; simp [rf_len r2]
theorem rf_no {H : LH} (hy : ∀ f, Γ.fld f ≠ y) : ∀ {fs : List (Nat × Vl)} {gs : List (Str × LV)}, RF Γ H fs gs → gs.lookup y = none
  | [], gs, r => by
    have e : gs = [] := r
    subst e; rfl
  | (g, u) :: r, _, ⟨z, zs, e1, r1, r2⟩ => by
    subst e1
    rw [List.lookup_cons, beq_eq_false_iff_ne.mpr (Ne.symm (hy g))]
    exact rf_no hy r2
theorem sE_attr (hi : ∀ f g, Γ.fld f = Γ.fld g → f = g) (a : AttF X Γ f y) (ho : PE X o (gE Γ W (wE P Φ o'))) (hb : attributeBase o y X.env (eval o X.env) = eval o X.env) : PE X (.Attribute o y pos) (gE Γ W (wE P Φ (.attr o' f))) := by
  refine PE.mono (L2.pe_fld ho hb) ?_
  rintro τ H Q' ⟨σ, h, Q, X', rs, rh, w, kq, kx⟩
  refine ⟨σ, h, _, X', rs, rh, w, ?_, kx⟩
  intro v h1 x H1 rv rh1 s1 ⟨b, c, fs, u, e1, g, e2, q1⟩
  subst e1
  obtain ⟨C, dx, gs, hC, hH, rf⟩ := rh1 b _ g
  obtain ⟨z, l1, l2⟩ := rf_get hi rf e2
  rw [a.nm] at l1
  exact ⟨b, C, dx, gs, z, rref rv, hH, (a.at_ c C hC).1, (a.at_ c C hC).2, l1, kq u h1 z H1 l2 rh1 s1 q1⟩
theorem sS_fld {p' : Pos} (hi : ∀ f g, Γ.fld f = Γ.fld g → f = g) (a : AttF X Γ f y) (ho : PE X o (gE Γ W (wE P Φ o'))) (he : PE X e (gE Γ W (wE P Φ e'))) (hs : swapsWith e (some (.Attribute o y p')) pos.line X.env = pure false) :
    PS X (.Assign [.Attribute o y p'] e pos) (gS Γ W (wS P Φ (.asg (.attr o' f) e'))) := by
  refine PS.mono (L2.ps_fld ho he hs) ?_
  rintro D τ H ⟨σ, h, N, R, B, C, X', rs, rh, w, kn, kr, kb, kc, kx⟩
  refine ⟨σ, h, _, X', rs, rh, w, ?_, kx⟩
  intro v h1 x H1 rv rh1 s1 q1
  refine ⟨σ, h1, _, X', rs.mono s1.xt, rh1, q1, ?_, kx.step s1⟩
  intro u h2 z H2 ru rh2 s2 ⟨b, c, fs, e1, g, hl, q2⟩
  subst e1
  obtain ⟨C', dx, gs, hC, hH, rf⟩ := rh2 b _ g
  have st : Sp h2 H2 (put h2 b (.ins c (fput fs f v))) (upd H2 b (.ins C' dx (L2.putF y x gs))) := .mut g hH trivial
  refine ⟨b, C', dx, gs, rref ru, hH, (a.at_ c C' hC).1, (a.at_ c C' hC).2, by rw [rf_len rf]; exact hl, ?_⟩
  have rv2 := (rv.mono s2.xt).mono st.xt
  have rf2 := RF.mono st.xt fs rf
  refine kn σ _ τ _ (rs.mono ((s1.trans s2).trans st).xt) (rh2.mut (u := .ins c (fput fs f v)) hH trivial ⟨C', dx, _, hC, L2.upd_same, ?_⟩) ((s1.trans s2).trans st) q2
  have z := rf_put hi (f := f) rv2 rf2
  rw [a.nm] at z
  exact z
/-! methods -/
theorem call_meth {M : Model} {A : Around} {Er : Value → Shared → Prop} {s : Shared} {env : Env} {args : List Expr} {Q : Value → Shared → Prop} (hbase : attributeBase o x env (eval o env) = eval o env)
    (hfew : ((backTo pos (starEach args env)).all (fun x => !x.1) && (backToKw pos (keywordEach [] env)).all (fun x => x.1.isSome) && decide (args.length + ([] : List Keyword).length + (if ([] : List Keyword).isEmpty then 0 else 1) < 30)) = true) (hline : (ap.endLine == pos.line) = true)
    (q : wpAny M A (eval o env) (fun ov s1 => ∀ pl, wpAny M A (getMethod ov x pl) (fun fx s2 => wpAny M A (callWith pos fx.1 fx.2 (backTo pos (starEach args env)) []) Q Er s2) Er s1) Er s) :
    wpAny M A (eval (.Call (.Attribute o x ap) args [] pos) env) Q Er s := by
  have hform : methodCallForm (args.length + ([] : List Keyword).length) (backTo pos (starEach args env)) (backToKw pos (keywordEach [] env)) = true := hfew
  have hpos : methodCallPos true o env ap pos = pure pos := by simp [methodCallPos, hline]
  rw [arm_eval_Call, hbase]
  refine wpAny_bind (wpAny_mono q (fun ov s1 q1 => wpAny_bind (wpAny_standAt ?_)) fun _ _ z => z)
  unfold methodCall
  rw [hform]
  exact wpAny_bind (wpAny_holding (wpAny_mono (q1 _) (fun fx s2 q2 => wpAny_bind (wpAny_of_eq hpos q2)) fun _ _ z => z))
/-- what a method's name says -/
structure MethF (X : L2.Cx) (Γ : Nm) (P : PG) (m : Nat) (y : Str) (c f : Nat) (fa : Addr) : Prop where
  cl : ∀ C, Γ.ca c = some C → L2.Cls X.K C ∧ L2.Meth X.K C y fa
  no : ∀ f, Γ.fld f ≠ y
  un : ∀ c' f', P.meth c' m = some f' → c' = c ∧ f' = f
theorem sE_meth {m c : Nat} (tk : L2.Takes X W) (mf : MethF X Γ P m y c f fa) (F : FnG X.prog X.w X.K X.mg X.base (L2.CX X.prog X.w) k fa fd ps (gF Γ (Φ f) n)) (gd : X.A.guards = some []) (hr : L2.Room k X.A) (hb : L2.Binds X.K fd ps [])
    (har : ∀ vs h Q X', Φ f vs h Q X' → vs.length = n) (ho : PE X o (gE Γ W (wE P Φ o'))) (ha : PA X es (gA Γ W (wA P Φ es'))) (hbase : attributeBase o y X.env (eval o X.env) = eval o X.env)
    (hfew : ((backTo pos (starEach es X.env)).all (fun x => !x.1) && (backToKw pos (keywordEach [] X.env)).all (fun x => x.1.isSome) && decide (es.length + ([] : List Keyword).length + (if ([] : List Keyword).isEmpty then 0 else 1) < 30)) = true) (hline : (ap.endLine == pos.line) = true)
    (hst : es = [] ∧ es' = .nil ∨ ∃ e r, es = e :: r ∧ starEach es X.env = (false, eval e X.env) :: starEach r X.env ∧ (backTo pos (starEach r X.env)).any (·.1) = false) :
    PE X (.Call (.Attribute o y ap) es [] pos) (gE Γ W (wE P Φ (.cm m o' es'))) := by
  refine ⟨fun pins s τ H Q' I ⟨σ, h, Q, X', rs, rh, w, kq, kx⟩ => call_meth hbase hfew hline ?_⟩
  refine L2.thn (ho.run pins s τ H (fun x H1 => ∃ b c' fs f' h1, x = .ref b ∧ get h1 b = some (.ins c' fs) ∧ P.meth c' m = some f' ∧ RH Γ h1 H1 ∧ Sp h H h1 H1 ∧ wA P Φ es' σ h1 (fun vs h2 => Φ f' (.ref b :: vs) h2 Q (fun e h2 => X' e σ h2)) X') I ⟨σ, h, _, X', rs, rh, w, ?_, kx⟩) fun u s1 ⟨x, H1, I1, rx, b, c', fs, f', h1, e1, g, e2, rh1, s1', w1⟩ pl => ?_
  · intro v h1 x H1 rv rh1 s1 ⟨b, c', fs, f', e1, g, e2, q1⟩
    subst e1
    exact ⟨b, c', fs, f', h1, rref rv, g, e2, rh1, s1, q1⟩
  subst e1
  obtain rfl : u = Value.ref b := rx
  obtain ⟨rfl, rfl⟩ := mf.un _ _ e2
  obtain ⟨C, dx, gs, hC, hH, rf⟩ := rh1 b _ g
  obtain ⟨cl, me⟩ := mf.cl C hC
  refine L2.getmeth_ok I1 hH cl me (rf_no mf.no rf) ?_
  have fin : ∀ {H2 : LH} {h2 : AH} {vs : List Vl} {xs : List LV} {us : List Value} {s2 : Shared}, L2.Inv X pins τ H2 s2 → L2.Vals xs us → RVs Γ H2 vs xs → RH Γ h2 H2 → Sp h1 H1 h2 H2 → Φ f' (.ref b :: vs) h2 Q (fun e h2 => X' e σ h2) →
      wpAny (model X.prog X.w) X.A (call (.ref fa) (.ref b :: us)) (L2.EP X pins τ Q') X.xe s2 := by
    intro H2 h2 vs xs us s2 I2 r rvs rh2 s2' q
    refine run_fnG (E := fun τ => EW W τ) (us := .ref b :: us) (vs := L2.V.ref b :: xs) F gd hr hb (L2.passAt tk τ) I2 (.cons rfl r) ⟨?_, .ref b :: vs, h2, Q, _, ?_, rh2, q, kq.step (s1'.trans s2'), ?_⟩
    · rw [List.length_cons, ← rvs.length]; exact har _ _ _ _ q
    · simp only [RVs]; exact ⟨_, xs, rfl, vref, rvs⟩
    · intro ex h3 cc d H3 re rh3 s3 q3
      exact kx ex σ h3 cc d τ H3 re (rs.mono ((s1'.trans s2').trans s3).xt) rh3 ((s1'.trans s2').trans s3) q3
  rcases hst with ⟨z1, z2⟩ | ⟨e0, r0, z1, z2, z3⟩
  · subst z1 z2
    exact PySem.W.callWith_K0 (first := [.ref b]) I1.kIn me.kp (fin I1 .nil (vs := []) (xs := []) (by simp only [RVs]) rh1 (.refl _ _) w1)
  · subst z1
    refine PySem.W.callWith_K (first := [.ref b]) (h₀ := X.base) I1.ok.mod.kin me.kp (L2.thn (ha.run pos pins s1 τ H1 (fun xs H2 => ∃ vs h2, RVs Γ H2 vs xs ∧ RH Γ h2 H2 ∧ Sp h1 H1 h2 H2 ∧ Φ f' (.ref b :: vs) h2 Q (fun e h2 => X' e σ h2)) I1 ⟨σ, h1, _, X', rs.mono s1'.xt, rh1, w1, ?_, kx.step s1'⟩) fun us s2 ⟨xs, H2, I2, r, vs, h2, rvs, rh2, s2', q⟩ => ⟨I2.kIn, fin I2 r rvs rh2 s2' q⟩) z2 z3
    intro vs h2 xs H2 rvs rh2 s2 q
    exact ⟨vs, h2, rvs, rh2, s2, q⟩
end
end KN

set_option autoImplicit false
set_option linter.all false
/-! Kern, part 10b: list(range(..)), len(set(..)) -/
namespace KN
open PySem PySem.Spec PyProof.Rows
open L2 (PE PT PW PA PS PSs OpR CallR upd PI)
section
variable {X : L2.Cx} {Γ : Nm} {W : L2.WX} {P : PG} {Φ : Phi} {pos q : Pos}
theorem rg_rvs {H : LH} {i j : Int} : RVs Γ H ((List.range (j - i).toNat).map fun (k : Nat) => Vl.int (i + (k : Int))) (L2.rgV i j) := by
  unfold L2.rgV
  generalize List.range (j - i).toNat = l
  induction l with
  | nil => simp [RVs]
  | cons k l ih => simp only [List.map_cons, RVs]; exact ⟨_, _, rfl, vint, ih⟩
theorem sE_lrg2 {a b : Expr} {a' b' : E} {p p2 : Pos} (hc : X.calm = true) (g1 : L2.Gl X "list") (m1 : X.mg "list" = none) (g2 : L2.Gl X "range") (m2 : X.mg "range" = none) (ha : PE X a (gE Γ W (wE P Φ a'))) (hb : PE X b (gE Γ W (wE P Φ b')))
    (hs : starEach [a, b] X.env = (false, eval a X.env) :: starEach [b] X.env) (hs2 : starEach [b] X.env = (false, eval b X.env) :: starEach [] X.env) :
    PE X (.Call (.Name "list" p) [.Call (.Name "range" p2) [a, b] [] q] [] pos) (gE Γ W (wE P Φ (.lrg a' b'))) := by
  refine PE.mono (L2.pe_listRg hc g1 m1 (L2.prg_2 g2 m2 ha hb hs hs2 (by rw [hs2]; rfl)) rfl) ?_
  rintro τ H Q' ⟨σ, h, Q, X', rs, rh, w, kq, kx⟩
  refine ⟨σ, h, _, X', rs, rh, w, ?_, kx⟩
  intro v h1 x H1 rv rh1 s1 q1
  refine ⟨σ, h1, _, X', rs.mono s1.xt, rh1, q1, ?_, kx.step s1⟩
  rintro u h2 y H2 ru rh2 s2 ⟨i, j, e1, e2, ⟨b1, b2, b3, b4, b5⟩, q⟩
  subst e1 e2
  exact ⟨i, j, rint rv, rint ru, ⟨by omega, by omega, by omega, by omega, by simpa [SZ] using b5⟩, new_ok kq rh2 (s1.trans s2) q fun p np => ⟨_, L2.upd_same, rg_rvs⟩⟩
theorem sE_lrg1 {a : Expr} {a' : E} {p p2 : Pos} (hc : X.calm = true) (g1 : L2.Gl X "list") (m1 : X.mg "list" = none) (g2 : L2.Gl X "range") (m2 : X.mg "range" = none) (ha : PE X a (gE Γ W (wE P Φ a')))
    (hs : starEach [a] X.env = (false, eval a X.env) :: starEach [] X.env) :
    PE X (.Call (.Name "list" p) [.Call (.Name "range" p2) [a] [] q] [] pos) (gE Γ W (wE P Φ (.lrg (.int 0) a'))) := by
  refine PE.mono (L2.pe_listRg hc g1 m1 (L2.prg_1 g2 m2 ha hs) rfl) ?_
  rintro τ H Q' ⟨σ, h, Q, X', rs, rh, w, kq, kx⟩
  refine ⟨σ, h, _, X', rs, rh, w, ?_, kx⟩
  rintro u h2 y H2 ru rh2 s2 ⟨i, j, e1, e2, ⟨b1, b2, b3, b4, b5⟩, q⟩
  cases e1
  subst e2
  exact ⟨j, rint ru, ⟨by omega, by omega, by omega, by omega, by simpa [SZ] using b5⟩, new_ok kq rh2 s2 q fun p np => ⟨_, L2.upd_same, rg_rvs⟩⟩
theorem met_dst (ns : List Int) : PyProof.Rows.firstMet (fun i => ns.getD i 0) ns.length = dst ns := by
  have e : (List.range ns.length).map (fun i => ns.getD i 0) = ns := by
    apply List.ext_getElem
    · simp
    · intro i h1 h2; simp [h2]
  unfold PyProof.Rows.firstMet
  rw [e]
  rfl
/-- the signs from the last one on -/
theorem rev_pick (cs : List Nat) : ((Builtin.Str.strSliceIndices none none (-1) cs.length).filterMap (cs.toArray[·]?)).toArray = cs.reverse.toArray := by
  congr 1
  have e1 : Builtin.Str.strSliceIndices none none (-1) cs.length = (List.range cs.length).map fun (j : Nat) => ((cs.length : Int) - 1 + -1 * (j : Int)).toNat := by
    unfold Builtin.Str.strSliceIndices sliceRange
    simp only [show ¬ ((-1 : Int) > 0) by omega, if_false]
    by_cases z : cs.length = 0
    · rw [z]; simp
    · rw [if_pos (show ((cs.length : Int) - 1 > -1) by omega)]
      rw [show (((cs.length : Int) - 1 - -1 - -1 - 1) / (- -1)).toNat = cs.length by simp]
  rw [e1, List.filterMap_map]
  apply List.ext_getElem?
  intro j
  have e2 : (List.range cs.length).filterMap ((fun x => cs.toArray[x]?) ∘ fun (j : Nat) => ((cs.length : Int) - 1 + -1 * (j : Int)).toNat) = (List.range cs.length).map fun (j : Nat) => cs.getD (cs.length - 1 - j) 0 := by
    have go : ∀ xs : List Nat, (∀ j ∈ xs, j < cs.length) → xs.filterMap ((fun x => cs.toArray[x]?) ∘ fun (j : Nat) => ((cs.length : Int) - 1 + -1 * (j : Int)).toNat) = xs.map fun (j : Nat) => cs.getD (cs.length - 1 - j) 0 := by
      intro xs
      induction xs with
      | nil => intro _; rfl
      | cons j xs ih =>
        intro hx
        have hj := hx j (by simp)
        have e3 : ((fun x => cs.toArray[x]?) ∘ fun (j : Nat) => ((cs.length : Int) - 1 + -1 * (j : Int)).toNat) j = some (cs.getD (cs.length - 1 - j) 0) := by
          simp only [Function.comp]
          rw [show ((cs.length : Int) - 1 + -1 * (j : Int)).toNat = cs.length - 1 - j by omega]
          simp [List.getD_eq_getElem?_getD, List.getElem?_eq_getElem (show cs.length - 1 - j < cs.length by omega)]
        rw [List.filterMap_cons, e3, List.map_cons, ih fun y hy => hx y (List.mem_cons_of_mem _ hy)]
    exact go _ fun j hj => List.mem_range.mp hj
  rw [e2]
  by_cases hj : j < cs.length
  · rw [List.getElem?_reverse hj]
    simp [hj, List.getD_eq_getElem?_getD, List.getElem?_eq_getElem (show cs.length - 1 - j < cs.length by omega)]
  · rw [List.getElem?_eq_none (by simp; omega), List.getElem?_eq_none (by simp; omega)]
theorem pe_revA {a : Expr} {ta : L2.TE} {k : Nat} {p1 p2 p3 pos : Pos} (ha : PE X a ta) :
    PE X (.Subscript a (.Slice none none (some (.UnaryOp .USub (.Constant (.int 1) k p1) p2)) p3) pos)
      (fun τ H Q' => ta τ H fun y G => (∃ l ys, y = .ref l ∧ L2.SqL X.K G l ys ∧ ∀ p, G p = none → Q' (.ref p) (upd G p (.lst ys.reverse))) ∨ (∃ cs : List Nat, y = .str (sOf cs) ∧ cs.length ≤ sizeLine ∧ Q' (.str (sOf cs.reverse)) G) ∨ ∃ l ys, y = .ref l ∧ L2.SqT X.K G l ys ∧ ∀ p, G p = none → Q' (.ref p) (upd G p (.tup ys.reverse))) := by
  refine ⟨fun pn sh τ H Q' J w => ?_⟩
  refine Subscript_ (L2.thn (ha.run pn sh τ H _ J w) fun u t1 ⟨y, G, J1, ry, cases2⟩ => ?_)
  have third : L2.PO X (some (.UnaryOp .USub (.Constant (.int 1) k p1) p2)) _ := L2.po_some (L2.pe_un L2.un_neg L2.pe_int)
  refine wpAny_Slice (L2.thn (L2.po_none.run pn t1 τ G (fun o G' => o = none ∧ G' = G) J1 ⟨rfl, rfl⟩) fun u1 t2 ⟨o1, G1, J2, w1, eo1, eG1⟩ => ?_)
  subst eo1; subst eG1
  refine L2.thn (L2.po_none.run pn t2 τ G1 (fun o G' => o = none ∧ G' = G1) J2 ⟨rfl, rfl⟩) fun u2 t3 ⟨o2, G2, J3, w2, eo2, eG2⟩ => ?_
  subst eo2; subst eG2
  refine L2.thn (third.run pn t3 τ G2 (fun o G' => o = some (-1) ∧ G' = G2) J3 ⟨1, rfl, -1, rfl, rfl, rfl⟩) fun u3 t4 ⟨o3, G3, J4, w3, eo3, eG3⟩ => ?_
  subst eo3; subst eG3
  have J5 : L2.Inv X pn τ G3 { t4 with heap := t4.heap.push { cls := .type "slice", data := .fields #[u1, u2, u3] } } := J4.kept (t' := t4.toks) fun _ _ z => Heap.get?_push_of_some _ z
  have goal : wpAny (model X.prog X.w) X.A (subscriptTail a (.Slice none none (some (.UnaryOp .USub (.Constant (.int 1) k p1) p2)) p3) u (.ref t4.heap.objs.size)) (L2.EP X pn τ Q') X.xe
      { t4 with heap := t4.heap.push { cls := .type "slice", data := .fields #[u1, u2, u3] } } := by
    rcases cases2 with ⟨l, ys, ey, sq, kk⟩ | ⟨cs, ey, hz, kk⟩ | ⟨l, ys, ey, sq, kk⟩
    · subst ey
      obtain rfl : u = Value.ref l := ry
      obtain ⟨vs, rv, there, small⟩ := J5.list sq
      have sz := rv.length
      refine tail_any (ops := [.ref l, .ref t4.heap.objs.size]) there.isList.typeIs PySem.slot_list_getitem.lookup ?_ (by with_unfolding_all rfl)
      refine wpAny_getItem_list_slice there.isList (.new _ u1 u2 u3) w1 w2 w3 (by decide) ?_ (by rw [List.size_toArray, ← sz]; exact small)
      rw [PySem.W.krv_pick]
      refine ⟨.ref _, _, J5.laid (t' := t4.toks) (o := .lst ys.reverse) (fun _ _ z => Heap.get?_push_of_some _ z) (Nat.le_refl _) ⟨?_, _, 0, rv.reverse, Heap.get?_push_size _ rfl⟩, rfl, kk _ ?_⟩
      · rw [List.length_reverse]; exact small
      · exact J5.hok.fresh (Nat.le_refl _)
    · subst ey
      obtain ⟨tk, rfl⟩ := ry
      obtain ⟨g1, z1, y1⟩ := L2.IsPart.raw w1
      obtain ⟨g2, z2, y2⟩ := L2.IsPart.raw w2
      obtain ⟨g3, z3, y3⟩ := L2.IsPart.raw w3
      subst z1; subst z2; subst z3
      refine tail_any (ops := [.str (sOf cs) tk, .ref t4.heap.objs.size]) (typeIs_str _ _ _) F.slot_str_getitem.lookup ?_ (by with_unfolding_all rfl)
      refine wpAny_getItem_str_slice (l := g1) (u := g2) (st := g3) ⟨_, Heap.get?_push_size _ rfl, rfl, rfl⟩ (by rw [y3]; rfl) ?_
      have en : sliceMade (sOf cs) tk g1 g2 g3 = .str (sOf cs.reverse) := by
        unfold sliceMade slicePicked
        rw [y1, y2, y3]
        show (if ((-1 : Int) == 1 && _) = true then _ else _) = _
        rw [if_neg (by simp)]
        show Made.str ⟨((Builtin.Str.strSliceIndices none none (-1) (sOf cs).length).filterMap ((sOf cs).cps[·]?)).toArray⟩ = Made.str ⟨cs.reverse.toArray⟩
        rw [sOf_length]
        exact congrArg (fun z => Made.str ⟨z⟩) (rev_pick cs)
      rw [en]
      refine ⟨by rw [sOf_length, List.length_reverse]; exact hz, ?_⟩
      exact ⟨.str (sOf cs.reverse), G3, J5.tok _, ⟨_, rfl⟩, kk⟩
    · subst ey
      obtain rfl : u = Value.ref l := ry
      obtain ⟨vs, rv, there, small⟩ := J5.tuple sq
      have sz := rv.length
      refine tail_any (ops := [.ref l, .ref t4.heap.objs.size]) there.typeIs PyProof.Rows.slot_tuple_getitem.lookup ?_ (by with_unfolding_all rfl)
      refine HT.back_tuple there (.new _ u1 u2 u3) w1 w2 w3 ?_ (by rw [List.size_toArray, ← sz]; exact small)
      refine ⟨.ref _, _, J5.laid (t' := t4.toks) (o := .tup ys.reverse) (fun _ _ z => Heap.get?_push_of_some _ z) (Nat.le_refl _) ⟨?_, _, rv.reverse, IsTup.new _ _⟩, rfl, kk _ ?_⟩
      · rw [List.length_reverse]; exact small
      · exact J5.hok.fresh (Nat.le_refl _)
  exact goal
theorem sE_rev {a : Expr} {a' : E} {k : Nat} {p1 p2 p3 pos : Pos} (hK : Γ.K = X.K) (ha : PE X a (gE Γ W (wE P Φ a'))) :
    PE X (.Subscript a (.Slice none none (some (.UnaryOp .USub (.Constant (.int 1) k p1) p2)) p3) pos) (gE Γ W (wE P Φ (.rev a'))) := by
  refine PE.mono (pe_revA ha) ?_
  rintro τ H Q' ⟨σ, h, Q, X', rs, rh, w, kq, kx⟩
  refine ⟨σ, h, _, X', rs, rh, w, ?_, kx⟩
  rintro u h1 x H1 ru rh1 s1 (⟨l, xs, e, g, q⟩ | ⟨cs, e, hz, q⟩ | ⟨xs, e, q⟩)
  · subst e
    obtain ⟨ys, sq, r⟩ := lst_of hK rh1 (.inl g)
    exact .inl ⟨l, ys, rref ru, sq, new_ok kq rh1 s1 q fun p np => ⟨_, L2.upd_same, r.rev.mono (.new np)⟩⟩
  · subst e
    exact .inr (.inl ⟨cs, rstr ru, hz, kq _ h1 _ H1 vstr rh1 s1 q⟩)
  · subst e
    obtain ⟨a, ys, ex, sq, r⟩ := rtup ru
    refine .inr (.inr ⟨a, ys, ex, by rw [← hK]; exact sq, fun p np => ?_⟩)
    refine kq (.tup xs.reverse) h1 _ _ ?_ (rh1.tup np) (s1.trans (.tup np)) q
    simp only [RV]
    exact ⟨p, _, rfl, .of L2.upd_same, r.rev.mono (.new np)⟩
theorem strs_are : ∀ {ss : List Str} {us : List Value}, L2.Vals (ss.map L2.V.str) us → ∀ (i : Nat) (v : Value), us[i]? = some v → ∃ x t, ss[i]? = some x ∧ v = Value.str x t
  | [], _, .nil => fun i v e => by simp at e
  | s :: ss, _, .cons r rr => fun i v e => by
    cases i with
    | zero =>
      obtain ⟨t, e1⟩ := r
      simp at e
      exact ⟨s, t, rfl, by rw [← e, e1]⟩
    | succ i => exact strs_are rr i v (by simpa using e)
theorem pe_nset {a : Expr} {ta : L2.TE} {p p2 : Pos} (hc : X.calm = true) (g1 : L2.Gl X "len") (m1 : X.mg "len" = none) (g2 : L2.Gl X "set") (m2 : X.mg "set" = none) (ha : PE X a ta)
    (hs : starEach [a] X.env = (false, eval a X.env) :: starEach [] X.env) :
    PE X (.Call (.Name "len" p) [.Call (.Name "set" p2) [a] [] q] [] pos) (fun σ H Q => ta σ H fun x H1 => (∃ (l : Addr) (ns : List Int), x = .ref l ∧ L2.SqL X.K H1 l (ns.map L2.V.int) ∧ ns.length ≤ 4000 ∧ Q (.int ((dst ns).length : Nat)) H1) ∨
      ∃ (l : Addr) (ss : List Str), x = .ref l ∧ L2.SqL X.K H1 l (ss.map L2.V.str) ∧ ss.length ≤ 4000 ∧ ss.Nodup ∧ Q (.int (ss.length : Nat)) H1) := by
  refine ⟨fun pins s σ H Q I h => Call_ (L2.ld_blt I g1 m1 boot_len ?_)⟩
  refine PyProof.Rows.callWith_builtin1 (PyProof.Rows.args_cons (Call_ (L2.ld_blt I g2 m2 boot_set ?_)) rfl) rfl rfl
  have run := ha.run pins s σ H _ I h
  refine PyProof.Rows.callWith_type1 (PyProof.Rows.args_cons (L2.thn run ?_) hs) hs rfl
  rintro v s1 ⟨x, H1, I1, r1, ⟨l, ns, rfl, hq, hl, q1⟩ | ⟨l, ss, rfl, hq, hl, hn, q1⟩⟩
  · refine PyProof.Rows.args_nil ?_
    cases r1
    obtain ⟨its, r, pl, _⟩ := I1.list hq
    have size : its.toArray.size = ns.length := by simpa using r.length.symm
    refine call_set_list (I1.ok.hd hc) pl.isList (by simpa using RZ.intsAre_vals r) (by unfold scanBound; omega) fun h' tk hS hk => PyProof.Rows.args_nil ?_
    rw [size, met_dst] at hS
    have small : (dst ns).length ≤ ns.length := by rw [← met_dst]; exact PyProof.Rows.firstMet_length_le _ _
    obtain ⟨ob, es, ep, tb, w1, w2, w3, _, _, _, w4, w5⟩ := hS
    have I2 : L2.Inv X pins σ H1 { s1 with heap := h', toks := tk } :=
      I1.kept fun b o e => hk b o (Heap.lt_size e) e
    exact call_len_set w1 w2 w3 w4 (by omega) ⟨.int (dst ns).length, H1, I2.tok _, ⟨_, by rw [w5]⟩, q1⟩
  · refine PyProof.Rows.args_nil ?_
    cases r1
    obtain ⟨its, r, pl, _⟩ := I1.list hq
    have size : its.toArray.size = ss.length := by simpa using r.length.symm
    refine HT.set_texts (I1.ok.hd hc) pl.isList (fun i v e => strs_are r i v (by simpa using e)) size (by unfold scanBound; omega) fun h' tk hS hk => PyProof.Rows.args_nil ?_
    rw [HT.metS_nodup hn] at hS
    obtain ⟨ob, es, ep, tb, w1, w2, w3, _, _, _, w4, w5⟩ := hS
    have I2 : L2.Inv X pins σ H1 { s1 with heap := h', toks := tk } := I1.kept fun b o e => hk b o e
    exact call_len_set w1 w2 w3 w4 (by omega) ⟨.int ss.length, H1, I2.tok _, ⟨_, by rw [w5]⟩, q1⟩
theorem sE_nset {a : Expr} {a' : E} {p p2 : Pos} (hc : X.calm = true) (hK : Γ.K = X.K) (g1 : L2.Gl X "len") (m1 : X.mg "len" = none) (g2 : L2.Gl X "set") (m2 : X.mg "set" = none) (ha : PE X a (gE Γ W (wE P Φ a')))
    (hs : starEach [a] X.env = (false, eval a X.env) :: starEach [] X.env) :
    PE X (.Call (.Name "len" p) [.Call (.Name "set" p2) [a] [] q] [] pos) (gE Γ W (wE P Φ (.nset a'))) := by
  refine PE.mono (pe_nset hc g1 m1 g2 m2 ha hs) ?_
  rintro τ H Q' ⟨σ, h, Q, X', rs, rh, w, kq, kx⟩
  refine ⟨σ, h, _, X', rs, rh, w, ?_, kx⟩
  rintro u h1 x H1 ru rh1 s1 (⟨l, xs, ns, e, g, ei, hl, q⟩ | ⟨l, ss, e, g, hl, hn, q⟩)
  · subst e
    obtain ⟨ys, sq, r⟩ := lst_of hK rh1 g
    have := ints_rv ei r
    subst this
    exact .inl ⟨l, ns, rref ru, sq, hl, kq _ h1 _ H1 vint rh1 s1 q⟩
  · subst e
    obtain ⟨ys, sq, r⟩ := lst_of hK rh1 g
    have := strs_rv (isStrs_map ss) r
    subst this
    refine .inr ⟨l, ss.map sOf, rref ru, sq, by simpa using hl, ?_, ?_⟩
    · exact List.Pairwise.map sOf (fun a b n e => n (sOf_inj.mp e)) hn
    · rw [List.length_map]; exact kq _ h1 _ H1 vint rh1 s1 q
theorem pe_sset {a : Expr} {ta : L2.TE} {p p2 : Pos} (hc : X.calm = true) (g1 : L2.Gl X "sorted") (m1 : X.mg "sorted" = none) (g2 : L2.Gl X "set") (m2 : X.mg "set" = none) (ha : PE X a ta)
    (hs : starEach [a] X.env = (false, eval a X.env) :: starEach [] X.env) :
    PE X (.Call (.Name "sorted" p) [.Call (.Name "set" p2) [a] [] q] [] pos) (fun σ H Q => ta σ H fun x H1 => ∃ (l : Addr) (ns : List Int), x = .ref l ∧ L2.SqL X.K H1 l (ns.map L2.V.int) ∧ ns.length ≤ 4000 ∧
      ∀ (ms : List Int) (r : Addr), ms.Pairwise (· < ·) → (∀ k : Int, k ∈ ms ↔ k ∈ ns) → H1 r = none → Q (.ref r) (upd H1 r (.lst (ms.map L2.V.int)))) := by
  refine ⟨fun pins s σ H Q I h => Call_ (L2.ld_blt I g1 m1 boot_sorted ?_)⟩
  refine PyProof.Rows.callWith_builtin1 (PyProof.Rows.args_cons (Call_ (L2.ld_blt I g2 m2 boot_set ?_)) rfl) rfl rfl
  have run := ha.run pins s σ H _ I h
  refine PyProof.Rows.callWith_type1 (PyProof.Rows.args_cons (L2.thn run ?_) hs) hs rfl
  rintro v s1 ⟨x, H1, I1, r1, l, ns, rfl, hq, hl, q1⟩
  refine PyProof.Rows.args_nil ?_
  cases r1
  obtain ⟨its, r, pl, _⟩ := I1.list hq
  refine HT.set_ints (I1.ok.hd hc) pl.isList (ns := ns) (by simpa using RZ.intsAre_vals r) (by unfold scanBound; omega) fun h' tk ⟨c, c1, R⟩ hk => PyProof.Rows.args_nil ?_
  have I2 : L2.Inv X pins σ H1 { s1 with heap := h', toks := tk } := I1.kept fun b o e => hk b o e
  have R2 : L2.SetR X.w (({ s1 with heap := h', toks := tk } : Shared)).heap s1.heap.objs.size (fun k => decide (k ∈ ns)) c := R
  clear R; generalize s1.heap.objs.size = z at R2 ⊢
  show wpAny _ _ _ _ _ ({ s1 with heap := h', toks := tk } : Shared)
  generalize ({ s1 with heap := h', toks := tk } : Shared) = s2 at I2 R2 ⊢
  refine HT.sorted_setI R2 (I2.ok.hd hc) (by omega) fun t b out n ms k eg eo ge hb hi hs2 hm hn => ?_
  have small : (ms.map L2.V.int).length ≤ sizeLine := by rw [List.length_map, hn, sizeLine_eq]; omega
  have nb : H1 b = none := I2.hok.fresh ge
  have J : L2.Inv X pins σ (upd H1 b (.lst (ms.map L2.V.int))) { s2 with heap := t.heap, gens := t.gens, drawn := t.drawn, toks := t.toks } :=
    I2.call (ch := []) (L2.Un.laid k ge nb) (I2.hok.laid k ge ⟨small, out.toList, n, L2.vals_of_ints hi, hb⟩) (by rw [eg]; exact I2.bare) (fun _ z => nomatch z)
  have et : t = { s2 with heap := t.heap, gens := t.gens, drawn := t.drawn, toks := t.toks } := by cases t; cases s2; cases eo; rfl
  rw [et]
  exact ⟨.ref b, _, J, rfl, q1 ms b hs2 (fun k => by rw [hm]; simp) nb⟩
theorem ints_rvs2 {H : LH} : ∀ ms : List Int, RVs Γ H (ms.map Vl.int) (ms.map L2.V.int)
  | [] => by simp only [List.map_nil, RVs]
  | m :: ms => by simp only [List.map_cons, RVs]; exact ⟨_, _, rfl, vint, ints_rvs2 ms⟩
theorem sE_sset {a : Expr} {a' : E} {p p2 : Pos} (hc : X.calm = true) (hK : Γ.K = X.K) (g1 : L2.Gl X "sorted") (m1 : X.mg "sorted" = none) (g2 : L2.Gl X "set") (m2 : X.mg "set" = none) (ha : PE X a (gE Γ W (wE P Φ a')))
    (hs : starEach [a] X.env = (false, eval a X.env) :: starEach [] X.env) :
    PE X (.Call (.Name "sorted" p) [.Call (.Name "set" p2) [a] [] q] [] pos) (gE Γ W (wE P Φ (.sset a'))) := by
  refine PE.mono (pe_sset hc g1 m1 g2 m2 ha hs) ?_
  rintro τ H Q' ⟨σ, h, Q, X', rs, rh, w, kq, kx⟩
  refine ⟨σ, h, _, X', rs, rh, w, ?_, kx⟩
  rintro u h1 x H1 ru rh1 s1 ⟨l, ns, e, g, hl, q⟩
  subst e
  obtain ⟨ys, sq, r⟩ := lst_of hK rh1 g
  have := ints_rv (isInts_map ns) r
  subst this
  refine ⟨l, ns, rref ru, sq, hl, fun ms p h1' h2' np => ?_⟩
  exact kq (.ref p) _ _ _ vref (rh1.new (u := .lst (ms.map Vl.int)) np ⟨_, L2.upd_same, ints_rvs2 ms⟩) (s1.trans (.new np)) (q ms h1' h2' p (rh1.free np))
theorem sE_dctT {k v : Expr} {k' v' : E} {pos : Pos} (hu : X.A.units + 1 < cLine) (hK : Γ.K = X.K) (hk : PE X k (gE Γ W (wE P Φ k'))) (hv : PE X v (gE Γ W (wE P Φ v'))) : PE X (.Dict [some k] [v] pos) (gE Γ W (wE P Φ (.dctT k' v'))) := by
  refine PE.mono (L2.pe_dispT hu hk hv) ?_
  rintro τ H Q' ⟨σ, h, Q, X', rs, rh, w, kq, kx⟩
  intro p np
  have s0 : Sp h H h (upd H p (L2.TD p [])) := .tup np
  have gp := rh.free np
  simp only [L2.tPairs]
  refine ⟨σ, h, _, X', rs.mono s0.xt, rh.tup np, w, ?_, kx.step s0⟩
  intro x h1 xv H1 rv rh1 s1 q1
  refine ⟨σ, h1, _, X', rs.mono (s0.trans s1).xt, rh1, q1, ?_, kx.step (s0.trans s1)⟩
  intro y h2 yv H2 ry rh2 s2 ⟨ns, e, q2⟩
  subst e
  have hw : H2 p = some (L2.TD p []) := (s1.trans s2).fr p _ L2.upd_same gp
  have gp2 : get h2 p = none := (s1.trans s2).dom p gp (by rw [L2.upd_same]; simp)
  obtain ⟨b, ts, rfl, sq, rt⟩ := rtup rv
  rw [ints_rvs rt] at sq
  have sq2 := sqT_mono s2.xt sq
  have xt : Xt H2 (upd H2 p (L2.TD p [(ns, b, yv)])) := .mut hw trivial
  refine ⟨hw, _, _, b, ns, rfl, rfl, hK ▸ sq2, ?_⟩
  refine kq (.ref p) _ _ _ vref (rh2.own (u := .dtp _) hw trivial gp2 ⟨_, L2.upd_same, ?_, ?_⟩) (.own (w := L2.TD p []) np trivial (s1.trans s2) gp) (q2 p gp2)
  · intro z hz
    simp only [List.mem_cons, List.not_mem_nil, or_false] at hz
    subst hz
    exact sqT_mono xt sq2
  · exact ⟨b, yv, [], rfl, ry.mono xt, rfl⟩
theorem dp_rv {H : LH} : ∀ {ps : List (List Int × Vl)} {ys : List LV}, RVs Γ H (ps.map fun p => .tup [.tup (p.1.map Vl.int), p.2]) ys →
    ∃ (ts : List Addr) (kas : List (List Int × Addr × LV)), ys = ts.map L2.V.ref ∧ Paired (fun t (q : List Int × Addr × LV) => L2.SqT Γ.K H t [.ref q.2.1, q.2.2]) ts kas ∧ L2.TdK Γ.K H kas ∧ RT Γ H ps kas
  | [], _, r => ⟨[], [], by simpa only [List.map_nil, RVs] using r, .nil, (fun _ hp => nomatch hp), rfl⟩
  | p :: ps, _, r => by
    simp only [List.map_cons, RVs] at r
    obtain ⟨y, ys, rfl, r1, r2⟩ := r
    obtain ⟨t, xs, rfl, sq, rx⟩ := rtup r1
    simp only [RVs] at rx
    obtain ⟨z1, zs1, rfl, ra, z2, zs2, rfl, rb, rfl⟩ := rx
    obtain ⟨b, bs, rfl, sb, rbs⟩ := rtup ra
    rw [ints_rvs rbs] at sb
    obtain ⟨ts, kas, rfl, pr, hk, rt⟩ := dp_rv r2
    refine ⟨t :: ts, (p.1, b, z2) :: kas, rfl, .cons sq pr, fun q hq => ?_, ⟨b, z2, kas, rfl, rb, rt⟩⟩
    rcases List.mem_cons.mp hq with rfl | hq
    · exact sb
    · exact hk q hq
theorem rt_fold {H : LH} : ∀ {ps : List (List Int × Vl)} {kas : List (List Int × Addr × LV)} {acc : List (List Int × Vl)} {ac2 : List (List Int × Addr × LV)}, RT Γ H ps kas → RT Γ H acc ac2 →
    RT Γ H (ps.foldl (fun acc p => tput acc p.1 p.2) acc) (kas.foldl (fun acc q => L2.putT acc q.1 q.2.1 q.2.2) ac2)
  | [], _, _, _, r, h => by have : _ = [] := r; subst this; exact h
  | (k, v) :: ps, _, acc, ac2, ⟨b, y, ys, e1, r1, r2⟩, h => by
    subst e1
    rw [List.foldl_cons, List.foldl_cons]
    exact rt_fold r2 (RT.put r1 h)
theorem tdk_fold {K : PySem.W.Frag} {H : LH} : ∀ {kas ac2 : List (List Int × Addr × LV)}, L2.TdK K H kas → L2.TdK K H ac2 → L2.TdK K H (kas.foldl (fun acc q => L2.putT acc q.1 q.2.1 q.2.2) ac2)
  | [], _, _, h => h
  | q :: kas, ac2, hk, h => by
    rw [List.foldl_cons]
    exact tdk_fold (fun p hp => hk p (List.mem_cons_of_mem _ hp)) (tdk_put h (hk q List.mem_cons_self))
theorem ds_rv {H : LH} : ∀ {ps : List (List Nat × Vl)} {ys : List LV}, RVs Γ H (ps.map fun p => .tup [.str p.1, p.2]) ys →
    ∃ (ts : List Addr) (kvs : List (L2.Key × LV)), ys = ts.map L2.V.ref ∧ Paired (fun t (kv : L2.Key × LV) => L2.SqT Γ.K H t [L2.kV kv.1, kv.2]) ts kvs ∧ RK Γ H (ps.map fun p => (Ky.s p.1, p.2)) kvs
  | [], _, r => ⟨[], [], by simpa only [List.map_nil, RVs] using r, .nil, rfl⟩
  | p :: ps, _, r => by
    simp only [List.map_cons, RVs] at r
    obtain ⟨y, ys, rfl, r1, r2⟩ := r
    obtain ⟨t, xs, rfl, sq, rx⟩ := rtup r1
    simp only [RVs] at rx
    obtain ⟨z1, zs1, rfl, ra, z2, zs2, rfl, rb, rfl⟩ := rx
    obtain rfl := rstr ra
    obtain ⟨ts, kvs, rfl, pr, rk⟩ := ds_rv r2
    exact ⟨t :: ts, (kyL (.s p.1), z2) :: kvs, rfl, .cons sq pr, ⟨z2, kvs, rfl, rb, rk⟩⟩
theorem rk_fold {H : LH} : ∀ {ps : List (List Nat × Vl)} {kvs : List (L2.Key × LV)} {acc : List (Ky × Vl)} {ac2 : List (L2.Key × LV)}, RK Γ H (ps.map fun p => (Ky.s p.1, p.2)) kvs → RK Γ H acc ac2 →
    RK Γ H (ps.foldl (fun acc p => dput acc (.s p.1) p.2) acc) (L2.mergeK ac2 kvs)
  | [], _, _, _, r, h => by have : _ = [] := r; subst this; exact h
  | (k, v) :: ps, _, acc, ac2, ⟨y, ys, e1, r1, r2⟩, h => by
    subst e1
    rw [List.foldl_cons]
    exact rk_fold (ac2 := L2.putK ac2 (kyL (.s k)) y) r2 (RK.put r1 h)
theorem bDict1 (hc : X.calm = true) (hu : X.A.units + 65 < cLine) (hK : Γ.K = X.K) : CallR X (.type "dict") (gU Γ (wBi .dict1)) := by
  intro pins s σ H xs us Q' I rxs ⟨vs, h, Q, rvs, rh, w, kq⟩
  match vs, w with
  | [.ref a], .inl ⟨ps, g, hz, w⟩ =>
    obtain ⟨x, rfl, r⟩ := r1 rvs
    obtain ⟨ys, sq, r'⟩ := lst_of hK rh g
    obtain ⟨ts, kas, rfl, pr, hk, rt⟩ := dp_rv r'
    refine L2.cr_dictTd hc (by omega) pins s σ H _ us Q' I rxs ⟨a, ts, kas, by rw [rref r], sq, by rw [← hK]; exact pr, by rw [← hK]; exact hk, fun p np => ?_⟩
    have xt : Xt H (upd H p (L2.TD p (kas.foldl (fun acc q => L2.putT acc q.1 q.2.1 q.2.2) []))) := .new np
    exact kq (.ref p) _ _ _ vref (rh.new (u := .dtp _) np ⟨_, L2.upd_same, tdk_mono xt (tdk_fold hk fun _ hp => nomatch hp), (rt_fold rt (show RT Γ H [] [] from rfl)).mono xt⟩) (.new np) (w p (rh.free np))
  | [.ref a], .inr ⟨ps, g, w⟩ =>
    obtain ⟨x, rfl, r⟩ := r1 rvs
    obtain ⟨ys, sq, r'⟩ := lst_of hK rh g
    obtain ⟨ts, kvs, rfl, pr, rk⟩ := ds_rv r'
    refine L2.call_dictP hc pins s σ H _ us Q' I rxs ⟨a, ts, kvs, by rw [rref r], sq, by rw [← hK]; exact pr, fun p np => ?_⟩
    have xt : Xt H (upd H p (.dK (L2.mergeK [] kvs))) := .new np
    exact kq (.ref p) _ _ _ vref (rh.new (u := .dct _) np ⟨_, L2.upd_same, (rk_fold rk (show RK Γ H [] [] from rfl)).mono xt⟩) (.new np) (w p (rh.free np))
end
end KN

set_option autoImplicit false
set_option linter.all false
/-! Kern, part 11: from the text to the IR -/
namespace KN
open PySem PySem.Spec PyProof.Rows
open L2 (PE PT PW PA PS PSs OpR CallR upd PI)

/-- a program's names -/
structure Tab where
  fns : List (Str × Nat × Nat)
  globs : List (Str × Nat)
  /-- classes: the name, its number, how many arguments -/
  cls : List (Str × Nat × Nat)
  flds : List (Str × Nat)
  mets : List (Str × Nat × Nat)
  /-- built-in names that the module leaves alone -/
  bl : List Str
  /-- exceptions: the name, its number, whether it is raised by a text alone -/
  exs : List (Str × Nat × Bool)
  /-- defs that are called in except suites -/
  hots : List Nat
structure CC where
  N : List Str
  sc : Scope
  /-- names whose cells were made here -/
  st : Str → Bool
  T : Tab
  /-- within an except suite -/
  hot : Bool := false
/-- in a suite a built-in that walks is out of reach -/
def calmBi : Bi → Bool
  | .max2 => true
  | .min2 => true
  | .list1 => true
  | .tuple1 => true
  | .all1 => true
  | .any1 => true
  | .sum1 => true
  | .max1 => true
  | .min1 => true
  | .sorted1 => true
  | .dict1 => true
  | .list0 => true
  | _ => false

def ixOf : List Str → Str → Option Nat
  | [], _ => none
  | y :: ys, x => if y = x then some 0 else (ixOf ys x).map (· + 1)
theorem ixOf_get : ∀ {N : List Str} {x : Str} {i : Nat}, ixOf N x = some i → N[i]? = some x
  | [], _, _, h => by simp [ixOf] at h
  | y :: ys, x, i, h => by
    unfold ixOf at h
    by_cases e : y = x
    · rw [if_pos e] at h; cases h; simp [e]
    · rw [if_neg e] at h
      obtain ⟨j, h1, rfl⟩ := Option.map_eq_some_iff.mp h
      simpa using ixOf_get h1
def visB (sc : Scope) (x : Str) : Bool := match sc.names.lookup x with
  | some .local => true
  | some .cell => true
  | some .free => true
  | _ => false
theorem visB_ok {sc : Scope} {x : Str} (h : visB sc x = true) : L2.Vis sc x := by
  unfold visB at h
  unfold L2.Vis
  split at h <;> simp_all
def glB (sc : Scope) (x : Str) : Bool := match sc.names.lookup x with
  | some .globalImplicit => true
  | _ => false
def dbgB (x : Str) : Bool := !(x == ("__debug__" : Str)) && !(x == ("__classdict__" : Str)) && !(x == ("__name__" : Str))
theorem glB_ok {X : L2.Cx} {x : Str} (h : glB X.env.scope x = true) : L2.Gl X x := by
  unfold glB at h
  unfold L2.Gl Env.kindOf
  split at h <;> simp_all
/-- a name of ours, a global one -/
def cName (c : CC) (x : Str) : Option E :=
  if dbgB x = true then
    if visB c.sc x = true then (ixOf c.N x).map E.var
    else if glB c.sc x = true then (c.T.globs.lookup x).map E.glob else none
  else none
def cConst : Const → Option E
  | .int i => some (.int i)
  | .str s => some (.str s.cps.toList)
  | .bool b => some (.bl b)
  | .none => some .non
  | _ => none
def cBin : Operator → Option Op2
  | .Add => some .add
  | .Sub => some .sub
  | .Mult => some .mul
  | .FloorDiv => some .fdiv
  | .Mod => some .mod
  | .Pow => some .pow
  | _ => none
def cAug : Operator → Option Op2
  | .Add => some .add
  | .Sub => some .sub
  | .Mult => some .mul
  | _ => none
def cCmp : CmpOp → Option Op2
  | .Eq => some .eq
  | .NotEq => some .ne
  | .Lt => some .lt
  | .LtE => some .le
  | .Gt => some .gt
  | .GtE => some .ge
  | .Is => some .is_
  | .IsNot => some .isn
  | .In => some .in_
  | .NotIn => some .nin
def notSet : Expr → Bool
  | .Set .. => false
  | _ => true
def notStar : Expr → Bool
  | .Starred .. => false
  | _ => true
def notSlice : Expr → Bool
  | .Slice .. => false
  | _ => true
/-- f(..) or x: whatever the values -/
def orvB : Expr → List Expr → Bool
  | .Call .., [.Name ..] => true
  | _, _ => false
def notSuper : Expr → Bool
  | .Call (.Name _ _) [] [] _ => false
  | _ => true
def bltB (c : CC) (x : Str) : Bool := dbgB x && glB c.sc x && c.T.bl.contains x
/-- built-in functions: the name, how many arguments, what it is -/
def biTab : List (String × Nat × Bi) := [("abs", 1, .abs), ("max", 2, .max2), ("min", 2, .min2), ("len", 1, .len), ("int", 1, .int1), ("list", 1, .list1), ("all", 1, .all1), ("any", 1, .any1), ("sum", 1, .sum1), ("max", 1, .max1), ("min", 1, .min1), ("sorted", 1, .sorted1), ("tuple", 1, .tuple1), ("str", 1, .str1), ("divmod", 2, .divmod), ("dict", 1, .dict1)]
def cBi : List (String × Nat × Bi) → Str → Nat → Option Bi
  | [], _, _ => none
  | (y, k, b) :: r, x, n => if x = Str.ofString y ∧ n = k then some b else cBi r x n
def mtTab : List (String × Nat × Mt) := [("append", 1, .append), ("join", 1, .join), ("count", 1, .count), ("pop", 0, .pop0), ("extend", 1, .extend), ("reverse", 0, .reverse), ("clear", 0, .clear), ("index", 1, .index), ("pop", 1, .pop1), ("insert", 2, .insert), ("get", 2, .dget2), ("setdefault", 2, .setdefault), ("strip", 1, .strip), ("split", 1, .split), ("partition", 1, .partition), ("startswith", 1, .startswith), ("endswith", 1, .endswith), ("get", 1, .dget1)]
def cMt : List (String × Nat × Mt) → Str → Nat → Option Mt
  | [], _, _ => none
  | (y, k, b) :: r, x, n => if x = Str.ofString y ∧ n = k then some b else cMt r x n
def kdTab : List (String × Kd) := [("int", .int), ("bool", .bool), ("str", .str), ("list", .list), ("tuple", .tuple)]
def cKd1 : List (String × Kd) → Str → Option Kd
  | [], _ => none
  | (y, k) :: r, x => if x = Str.ofString y then some k else cKd1 r x
/-- a class in an isinstance -/
def cKd (c : CC) : Expr → Option Kd
  | .Name x _ => if bltB c x = true then cKd1 kdTab x else none
  | _ => none
def strsE : List (List Nat) → E
  | [] => .nil
  | z :: r => .cons (.str z) (strsE r)
/-- the step of a slice backwards -/
def isM1 : Expr → Bool
  | .UnaryOp .USub (.Constant (.int 1) _ _) _ => true
  | _ => false
theorem isM1_ok {e : Expr} (h : isM1 e = true) : ∃ k p1 p2, e = .UnaryOp .USub (.Constant (.int 1) k p1) p2 := by
  unfold isM1 at h
  split at h
  · exact ⟨_, _, _, rfl⟩
  · cases h
/-- a written text, split -/
def cSplit : Expr → Str → List Expr → Option E
  | .Constant (.str s) _ _, m, [.Constant (.str t) _ _] => if (decide (m = Str.ofString "split") && (!(t.length == 0) && (decide (s.length ≤ 1000) && decide ((Txt.split s t).length ≤ 1000)))) = true then some (.lst (strsE ((Txt.split s t).map fun z => z.cps.toList))) else none
  | _, _, _ => none
/-- an exception's class in an isinstance -/
def cKdX (c : CC) : Expr → Option Kd
  | .Name x _ => match c.T.exs.lookup x with
    | some (d, _) => if (dbgB x && glB c.sc x) = true then some (.cls d) else none
    | none => if (bltB c x && decide (x = Str.ofString "ValueError")) = true then some .valErr else none
  | _ => none
def cKds (c : CC) : List Expr → Option (List Kd)
  | [] => some []
  | e :: es => match notStar e, cKd c e, cKds c es with
    | true, some k, some ks => some (k :: ks)
    | _, _, _ => none
def cKdsX (c : CC) : List Expr → Option (List Kd)
  | [] => some []
  | e :: es => match notStar e, cKdX c e, cKdsX c es with
    | true, some k, some ks => some (k :: ks)
    | _, _, _ => none
def cKeys : List (Option Expr) → Option (List Ky)
  | [] => some []
  | some k :: r => match keyE k, cKeys r with
    | some ky, some kys => some (ky :: kys)
    | _, _ => none
  | none :: _ => none
def plainE : E → Bool
  | .var _ => true
  | .bi _ _ => true
  | .isa _ _ => true
  | .call _ _ => true
  | .mt _ _ _ => true
  | .ix _ _ => true
  | .cm _ _ _ => true
  | _ => false
/-- where a name may be stored -/
def locB (c : CC) (x : Str) : Bool := match c.sc.names.lookup x with
  | some .local => true
  | some .cell => c.st x
  | _ => false
/-- the stores of a, b = x, y -/
def swp (kf : Str → Option NameKind) (ts vs : List Expr) : Option (Option (List Str)) :=
  if (!(ts.length == 2 || ts.length == 3) || vs.length != ts.length) = true then some none
  else if (vs.any fun | .Starred .. => true | _ => false) = true then some none
  else
    let line := (ts.head?.map (·.pos.line)).getD 0
    let names := ts.filterMap fun
      | .Name id pos => if kf id == some .local && pos.line == line then some id else none
      | _ => none
    if (names.length != ts.length || names.eraseDups.length != names.length) = true then some none
    else if vs.all (foldedForSure 8) = true then some none
    else if vs.all (constantsAlone 8) = true then none
    else some (some names)
def notLc : Expr → Bool
  | .ListComp .. => false
  | .SetComp .. => false
  | .DictComp .. => false
  | _ => true
def lcOwn (N : List Str) : Expr → Option (List (Str × Nat))
  | .Name x _ => (ixOf N x).map fun i => [(x, i)]
  | .Tuple gs _ _ => go gs
  | _ => none
where
  go : List Expr → Option (List (Str × Nat))
    | [] => some []
    | .Name x _ :: gs => match ixOf N x, go gs with
      | some i, some r => some ((x, i) :: r)
      | _, _ => none
    | .Tuple es _ _ :: gs => match go2 es, go gs with
      | some l, some r => some (l ++ r)
      | _, _ => none
    | _ :: _ => none
  go2 : List Expr → Option (List (Str × Nat))
    | [] => some []
    | .Name x _ :: gs => match ixOf N x, go2 gs with
      | some i, some r => some ((x, i) :: r)
      | _, _ => none
    | _ :: _ => none
def blkCC (c : CC) (scope : Scope) : CC := ⟨c.N, L2.relS scope c.sc, fun x => scope.names.lookup x == some .cell, c.T, c.hot⟩
def cCall (c : CC) (x : Str) (n : Nat) (es : E) : Option E :=
  if bltB c x = true then (cBi biTab x n).bind fun b => if (c.hot && calmBi b) = true then none else some (.bi b es)
  else if (dbgB x && glB c.sc x) = true then match c.T.fns.lookup x with
    | some (f, k) => if c.hot = true then (if (decide (k = n) && c.T.hots.contains f) = true then some (.call f es) else none) else if k = n then some (.call f es) else none
    | none => if c.hot = true then none else match c.T.cls.lookup x with
      | some (d, k) => if k = n then some (.make d es) else none
      | none => none
  else if (!c.hot && (dbgB x && visB c.sc x)) = true then (ixOf c.N x).map fun i => .callv i es
  else none
def cCall0 (c : CC) (x : Str) : Option E :=
  if (!c.hot && (dbgB x && glB c.sc x)) = true then match c.T.fns.lookup x with
    | some (f, k) => if k = 0 then some (.call f .nil) else none
    | none => match c.T.cls.lookup x with
      | some (d, k) => if k = 0 then some (.make d .nil) else none
      | none => none
  else none
def cMet (c : CC) (m : Str) (n : Nat) (o es : E) : Option E := match c.T.mets.lookup m with
  | some (i, k) => if (!c.hot && decide (k = n)) = true then some (.cm i o es) else none
  | none => none
def hotCC (c : CC) : CC := { c with hot := true }
mutual
def cE : Nat → CC → Expr → Option E
  | 0, _, _ => none
  | n + 1, c, e => match e with
    | .Name x _ => cName c x
    | .Constant k _ _ => cConst k
    | .BinOp a o b _ => match cBin o, cE n c a, cE n c b with
      | some o', some a', some b' => some (.op o' a' b')
      | _, _, _ => none
    | .UnaryOp op a _ => match op with
      | .USub => (cE n c a).map .neg
      | .Not => (cE n c a).map .notv
      | _ => none
    | .BoolOp op vs _ => cBV n c op vs
    | .IfExp t a b _ => match cT n c t, cE n c a, cE n c b with
      | some t', some a', some b' => some (.ite t' a' b')
      | _, _, _ => none
    | .Compare a ops bs _ => match ops, bs with
      | [o], [b] => match cCmp o, cE n c a, cE n c b, notSet b with
        | some o', some a', some b', true => some (.op o' a' b')
        | _, _, _, _ => none
      | [o1, o2], [b, d] => match cCmp o1, cCmp o2, cE n c a, cE n c b, cE n c d, notSet d with
        | some p1, some p2, some a', some b', some d', true => some (.chain p1 p2 a' b' d')
        | _, _, _, _, _, _ => none
      | [o1, o2, o3], [b, d, f] => match cCmp o1, cCmp o2, cCmp o3, cE n c a, cE n c b, cE n c d, cE n c f, notSet f with
        | some p1, some p2, some p3, some a', some b', some d', some f', true => some (.chain3 p1 p2 p3 a' b' d' f')
        | _, _, _, _, _, _, _, _ => none
      | _, _ => none
    | .Tuple es _ _ => (cA n c es).map .tup
    | .List es _ => (cA n c es).map .lst
    | .Dict ks vs _ => if ks.length ≤ 15 ∧ ks.isEmpty = false then match cD n c ks vs with
        | some p => some (.dct p.1 p.2)
        | none => match ks, vs with
          | [some k], [v] => match cE n c k, cE n c v with
            | some k', some v' => some (.dctT k' v')
            | _, _ => none
          | _, _ => none
      else match ks, vs with
      | [], [] => some .dct0
      | _, _ => none
    | .Subscript a b _ => match b with
      | .Slice lo hi st _ => match st with
        | none => match cE n c a, cP n c lo, cP n c hi with
          | some a', some l', some h' => some (.slc a' l' h')
          | _, _, _ => none
        | some st => match isM1 st, lo, hi, cE n c a with
          | true, none, none, some a' => some (.rev a')
          | _, _, _, _ => none
      | b => match cE n c a, cE n c b with
        | some a', some b' => some (.ix a' b')
        | _, _ => none
    | .Call f es kws p => match kws with
      | [] => match f with
        | .Name x _ => match cSp n c x es with
          | some e' => some e'
          | none =>
          if x = Str.ofString "isinstance" then
            if bltB c x = true then
              match es with
              | [a, b] => match notStar a, cE n c a with
                | true, some a' => match b with
                  | .Tuple cs _ _ => match cKds c cs with
                    | some ks => if ks.length ≤ 20 ∧ ks.isEmpty = false then some (.isa a' ks) else none
                    | none => match cKdsX c cs with
                      | some ks => if ks.length ≤ 20 ∧ ks.isEmpty = false then some (.isa a' ks) else none
                      | none => none
                  | b => match cKd c b with
                    | some k => some (.isa a' [k])
                    | none => (cKdX c b).map fun k => .isa a' [k]
                | _, _ => none
              | _ => none
            else none
          else if es.isEmpty = true then cCall0 c x
          else match cA n c es with
            | some es' => cCall c x es.length es'
            | none => none
        | .Attribute o m ap => match cSplit o m es with
          | some r => if (ap.endLine == p.line) = true then some r else none
          | none => match cE n c o, cA n c es with
          | some o', some es' => if (notSuper o && (ap.endLine == p.line) && decide (es.length < 20)) = true then match cMt mtTab m es.length with
              | some m' => some (.mt m' o' es')
              | none => cMet c m es.length o' es'
            else none
          | _, _ => none
        | _ => none
      | kw :: kws => match kw, kws, f, es with
        | ⟨nm, d, _⟩, [], .Name x _, [a] =>
          if (!c.hot && (bltB c x && decide (nm = some (Str.ofString "default")))) = true then match notStar a, cE n c a, cE n c d with
            | true, some a', some d' => if x = Str.ofString "max" then some (.bi .maxd (.cons a' (.cons d' .nil))) else if x = Str.ofString "min" then some (.bi .mind (.cons a' (.cons d' .nil))) else none
            | _, _, _ => none
          else none
        | _, _, _, _ => none
    | .Attribute o y _ => match cE n c o, c.T.flds.lookup y, notSuper o with
      | some o', some f, true => some (.attr o' f)
      | _, _, _ => none
    | .ListComp elt gens scope _ => match gens with
      | [g] => match g with
        | ⟨tg, it, ifs, 0⟩ => match lcOwn c.N tg, cI n c tg it, cG n (blkCC c scope) tg, cTs n (blkCC c scope) ifs, cE n (blkCC c scope) elt with
          | some own, some it', some g', some t', some elt' =>
            if (!c.hot && (L2.blkC c.N c.sc scope own && notSet it && ((gsl g').all fun j => (own.map (·.2)).contains j))) = true then some (.lc elt' (own.map (·.2)) g' it' t') else none
          | _, _, _, _, _ => none
        | _ => none
      | _ => none
    | _ => none
/-- list(range(..)), len(set(..)) -/
def cSp : Nat → CC → Str → List Expr → Option E
  | 0, _, _, _ => none
  | n + 1, c, x, es => if (bltB c x && decide (x = Str.ofString "str")) = true then match es with
    | [a] => match notStar a, cE n c a with
      | true, some a' => some (.strd a')
      | _, _ => none
    | _ => none
  else match es with
    | [.Call (.Name y _) as [] _] =>
      if (!c.hot && (bltB c x && bltB c y && decide (x = Str.ofString "list") && decide (y = Str.ofString "range"))) = true then match as with
        | [a] => match notStar a, cE n c a with
          | true, some a' => some (.lrg (.int 0) a')
          | _, _ => none
        | [a, b] => match notStar a, notStar b, cE n c a, cE n c b with
          | true, true, some a', some b' => some (.lrg a' b')
          | _, _, _, _ => none
        | _ => none
      else if (!c.hot && (bltB c x && bltB c y && decide (x = Str.ofString "len") && decide (y = Str.ofString "set"))) = true then match as with
        | [a] => match notStar a, cE n c a with
          | true, some a' => some (.nset a')
          | _, _ => none
        | _ => none
      else if (!c.hot && (bltB c x && bltB c y && decide (x = Str.ofString "sorted") && decide (y = Str.ofString "set"))) = true then match as with
        | [a] => match notStar a, cE n c a with
          | true, some a' => some (.sset a')
          | _, _ => none
        | _ => none
      else none
    | _ => none
/-- and, or as values -/
def cBV : Nat → CC → BoolOp → List Expr → Option E
  | 0, _, _, _ => none
  | n + 1, c, op, es => match es with
    | [] => none
    | [a] => cE n c a
    | a :: es => match op, cE n c a, cBV n c op es with
      | .And, some a', some r' => some (.and a' r')
      | .Or, some a', some r' => if orvB a es = true then some (.orv a' r') else some (.or a' r')
      | _, _, _ => none
def cA : Nat → CC → List Expr → Option E
  | 0, _, _ => none
  | n + 1, c, es => match es with
    | [] => some .nil
    | e :: es => match notStar e, cE n c e, cA n c es with
      | true, some e', some es' => some (.cons e' es')
      | _, _, _ => none
def cD : Nat → CC → List (Option Expr) → List Expr → Option (List Ky × E)
  | 0, _, _, _ => none
  | n + 1, c, ks, vs => match ks, vs with
    | [], [] => some ([], .nil)
    | some k :: ks, v :: vs => match keyE k, cE n c v, cD n c ks vs with
      | some ky, some v', some (kys, vs') => some (ky :: kys, .cons v' vs')
      | _, _, _ => none
    | _, _ => none
def cP : Nat → CC → Option Expr → Option E
  | 0, _, _ => none
  | n + 1, c, e => match e with
    | none => some .non
    | some e => (cE n c e).map .one
/-- tests -/
def cT : Nat → CC → Expr → Option E
  | 0, _, _ => none
  | n + 1, c, e => match e with
    | .UnaryOp .Not a _ => (cT n c a).map .not
    | .BoolOp op vs _ => cBT n c op vs
    | .Constant k _ _ => match k with
      | .bool b => some (.bl b)
      | _ => none
    | .Compare a ops bs _ => match ops, bs with
      | [o], [b] => match cCmp o, cE n c a, cE n c b, notSet b with
        | some o', some a', some b', true => some (.op o' a' b')
        | _, _, _, _ => none
      | [o1, o2], [b, d] => match cCmp o1, cCmp o2, cE n c a, cE n c b, cE n c d, notSet d with
        | some p1, some p2, some a', some b', some d', true => some (.chain p1 p2 a' b' d')
        | _, _, _, _, _, _ => none
      | [o1, o2, o3], [b, d, f] => match cCmp o1, cCmp o2, cCmp o3, cE n c a, cE n c b, cE n c d, cE n c f, notSet f with
        | some p1, some p2, some p3, some a', some b', some d', some f', true => some (.chain3 p1 p2 p3 a' b' d' f')
        | _, _, _, _, _, _, _, _ => none
      | _, _ => none
    | .Name _ _ => match cE n c e with
      | some e' => if plainE e' = true then some e' else none
      | none => none
    | .Call _ _ _ _ => match cE n c e with
      | some e' => if plainE e' = true then some e' else none
      | none => none
    | .Subscript _ _ _ => match cE n c e with
      | some e' => if plainE e' = true then some e' else none
      | none => none
    | _ => none
def cBT : Nat → CC → BoolOp → List Expr → Option E
  | 0, _, _, _ => none
  | n + 1, c, op, es => match es with
    | [] => none
    | [a] => cT n c a
    | a :: es => match op, cT n c a, cBT n c op es with
      | .And, some a', some r' => some (.and a' r')
      | .Or, some a', some r' => some (.or a' r')
      | _, _, _ => none
def cTs : Nat → CC → List Expr → Option E
  | 0, _, _ => none
  | n + 1, c, es => match es with
    | [] => some (.bl true)
    | [e] => cT n c e
    | _ => none
/-- what is walked (by a target) -/
def cI : Nat → CC → Expr → Expr → Option E
  | 0, _, _, _ => none
  | n + 1, c, tg, it => match it with
    | .Call f es kws p => match kws with
      | [] => match f with
        | .Name x q =>
          if (bltB c x && decide (x = Str.ofString "range")) = true then match es with
            | [a] => match notStar a, cE n c a with
              | true, some a' => some (.irng (.int 0) a')
              | _, _ => none
            | [a, b] => match notStar a, notStar b, cE n c a, cE n c b with
              | true, true, some a', some b' => some (.irng a' b')
              | _, _, _, _ => none
            | _ => none
          else if (bltB c x && decide (x = Str.ofString "zip")) = true then match tg with
            | .Tuple _ _ _ => match es with
              | [a, b] => match notStar a, notStar b, cE n c a, cE n c b with
                | true, true, some a', some b' => some (.izip a' b')
                | _, _, _, _ => none
              | [a, b, d] => match notStar a, notStar b, notStar d, cE n c a, cE n c b, cE n c d with
                | true, true, true, some a', some b', some d' => some (.izip3 a' b' d')
                | _, _, _, _, _, _ => none
              | _ => none
            | _ => none
          else if (bltB c x && decide (x = Str.ofString "enumerate")) = true then match tg with
            | .Tuple _ _ _ => match es with
              | [a] => match notStar a, cE n c a with
                | true, some a' => some (.ienum a')
                | _, _ => none
              | _ => none
            | _ => none
          else if (bltB c x && decide (x = Str.ofString "reversed")) = true then match es with
            | [a] => match notStar a, cE n c a with
              | true, some a' => some (.irev a')
              | _, _ => none
            | _ => none
          else (cE n c it).map .iseq
        | _ => (cE n c it).map .iseq
      | _ => none
    | _ => (cE n c it).map .iseq
/-- targets of a loop, of a display -/
def cG : Nat → CC → Expr → Option E
  | 0, _, _ => none
  | n + 1, c, e => match e with
    | .Name x _ => if locB c x = true then (ixOf c.N x).map .var else none
    | .Tuple gs _ _ => if c.hot = true then none else (cGs n c gs).map .tup
    | .Subscript a b _ => match notSlice b, cE n c a, cE n c b with
      | true, some a', some b' => some (.ix a' b')
      | _, _, _ => none
    | _ => none
def cGs : Nat → CC → List Expr → Option E
  | 0, _, _ => none
  | n + 1, c, es => match es with
    | [] => some .nil
    | e :: es => match notStar e, cG n c e, cGs n c es with
      | true, some e', some es' => some (.cons e' es')
      | _, _, _ => none
end
/-- a name that stands for a dict where it is gone through is marked among the free names -/
def dictMark (x : Str) : Str := ⟨x.cps.push 123⟩
def lockW (c : CC) (it : E) (s : S) : S := match it with
  | .iseq (.var i) => if c.T.bl.contains (dictMark (c.N.getD i (Str.ofString ""))) = true then .lock i s else s
  | _ => s
/-- a, b = x, y stored the other way round: two names, three -/
def cPar (c : CC) (ns : List Str) (ts vs : List Expr) (es' : E) : Option S := if c.hot = true then none else match ts, vs, es' with
  | [.Name x _, .Name y _], [_, _], .cons a' (.cons b' .nil) => match ixOf c.N x, ixOf c.N y with
    | some i, some j => if (i != j && (c.sc.names.lookup x == some .local) && (c.sc.names.lookup y == some .local) && (ns == [x, y])) = true then some (.asg (.tup (.cons (.var i) (.cons (.var j) .nil))) (.tup (.cons a' (.cons b' .nil)))) else none
    | _, _ => none
  | [.Name x _, .Name y _, .Name z _], [_, _, _], .cons a' (.cons b' (.cons d' .nil)) => match ixOf c.N x, ixOf c.N y, ixOf c.N z with
    | some i, some j, some l => if (i != j && i != l && j != l && (c.sc.names.lookup x == some .local) && (c.sc.names.lookup y == some .local) && (c.sc.names.lookup z == some .local) && (ns == [x, y, z])) = true then
        some (.asg (.tup (.cons (.var i) (.cons (.var j) (.cons (.var l) .nil)))) (.tup (.cons a' (.cons b' (.cons d' .nil))))) else none
    | _, _, _ => none
  | _, _, _ => none
/-- x = [..]: stored within the display -/
def lcIn (c : CC) (x : Str) (px : Pos) : Expr → Bool
  | .ListComp _ _ scope lp => (c.sc.names.lookup x == some .local) && (px.line == lp.line) && !(scope.names.any fun (n, k) => n == x && (k == .local || k == .cell))
  | _ => false
def plainLc : Expr → Bool
  | .SetComp .. => false
  | .DictComp .. => false
  | _ => true
def cSet (c : CC) (x : Str) (px : Pos) (i : Nat) (e : Expr) (e' : E) : Option S :=
  if lcIn c x px e = true then
    match e with
    | .ListComp elt gens scope _ => match gens with
      | [g] => match g with
        | ⟨tg, it, ifs, 0⟩ => match lcOwn c.N tg, cI 60 c tg it, cG 60 (blkCC c scope) tg, cTs 60 (blkCC c scope) ifs, cE 60 (blkCC c scope) elt with
          | some own, some it', some g', some t', some elt' =>
            if (!c.hot && (L2.blkC c.N c.sc scope own && notSet it && ((gsl g').all fun j => (own.map (·.2)).contains j))) = true then some (.asg (.var i) (.lc elt' (own.map (·.2)) g' it' t')) else none
          | _, _, _, _, _ => none
        | _ => none
      | _ => none
    | _ => none
  else if plainLc e = true then some (.asg (.var i) e') else none
mutual
def cS : Nat → CC → Stmt → Option S
  | 0, _, _ => none
  | n + 1, c, s => match s with
    | .Assign tgs e _ => match tgs with
      | [tg] => match cE 60 c e with
        | none => none
        | some e' => match tg with
          | .Name x px => if locB c x = true then match ixOf c.N x with
              | some i => cSet c x px i e e'
              | none => none
            else none
          | .Tuple ts _ _ => match e with
            | .Tuple vs _ _ => match swp (fun x => c.sc.names.lookup x) ts vs with
              | some none => match cG 60 c tg with
                | some g' => some (.asg g' e')
                | none => none
              | some (some ns) => match cA 60 c vs with
                | some vs' => cPar c ns ts vs vs'
                | none => none
              | none => none
            | _ => match cG 60 c tg with
              | some g' => if notLc e = true then some (.asg g' e') else none
              | none => none
          | .Attribute o y _ => match cE 60 c o, c.T.flds.lookup y with
            | some o', some f => if notLc e = true then some (.asg (.attr o' f) e') else none
            | _, _ => none
          | _ => match cG 60 c tg with
            | some g' => if notLc e = true then some (.asg g' e') else none
            | none => none
      | _ => none
    | .Expr e _ => match cE 60 c e with
      | some e' => if notLc e = true then some (.expr e') else none
      | none => none
    | .Return v _ => match v with
      | none => some .retN
      | some e => (cE 60 c e).map .ret
    | .If t a b _ => match cT 60 c t, cSs n c a, cSs n c b with
      | some t', some a', some b' => some (.ife t' a' b')
      | _, _, _ => none
    | .While t b els _ => match els, cT 60 c t, cSs n c b with
      | [], some t', some b' => some (.whl t' b')
      | _, _, _ => none
    | .For tg it b els _ => match els, cI 60 c tg it, cG 60 c tg, cSs n c b with
      | [], some it', some g', some b' => if (!c.hot && notSet it) = true then some (lockW c it' (.for_ g' it' b')) else none
      | _, _, _, _ => none
    | .Break _ => some .brk
    | .Continue _ => some .cnt
    | .Pass _ => some .skip
    | .Raise ex cause _ => match ex, cause with
      | some (.Call (.Name x _) [e] [] _), none => match c.T.exs.lookup x, cE 60 c e with
        | some (d, true), some e' => if (!c.hot && (dbgB x && glB c.sc x && notStar e)) = true then some (.rais d e') else some .bad
        | _, _ => some .bad
      | _, _ => some .bad
    | .Try body hds els fin _ => match hds, els, fin with
      | [.ExceptHandler (some (.Name x _)) (some n1) [.Assign [.Name y _] (.Name n2 _) _] _], [], [] =>
        match c.T.exs.lookup x, ixOf c.N n1, ixOf c.N y, cSs n c body with
        | some (d, _), some i, some j, some b' => if (!c.hot && (dbgB x && glB c.sc x && decide (n2 = n1) && dbgB n1 && (c.sc.names.lookup n1 == some .local) && locB c y)) = true then some (.tryx b' d i j) else none
        | _, _, _, _ => none
      | [.ExceptHandler (some (.Name x _)) (some n1) (b0 :: hs) _], [], [] =>
        match c.T.exs.lookup x, ixOf c.N n1, cSs n c body, cSs n (hotCC c) (b0 :: hs) with
        | some (d, _), some i, some b', some s' => if (!c.hot && (dbgB x && glB c.sc x && dbgB n1 && (c.sc.names.lookup n1 == some .local))) = true then some (.tryh b' d (some i) s') else none
        | _, _, _, _ => none
      | [.ExceptHandler (some (.Name x _)) none (b0 :: hs) _], [], [] =>
        match c.T.exs.lookup x, cSs n c body, cSs n (hotCC c) (b0 :: hs) with
        | some (d, _), some b', some s' => if (!c.hot && (dbgB x && glB c.sc x)) = true then some (.tryh b' d none s') else none
        | _, _, _ => none
      | _, _, _ => none
    | .AugAssign tg op e _ => match tg with
      | .Name x _ => match cAug op, ixOf c.N x, cE 60 c e with
        | some o, some i, some e' => if locB c x = true then some (.aug (.var i) o e') else none
        | _, _, _ => none
      | .Subscript a b _ => match cAug op, notSlice b, cE 60 c a, cE 60 c b, cE 60 c e with
        | some o, true, some a', some b', some e' => some (.aug (.ix a' b') o e')
        | _, _, _, _, _ => none
      | _ => none
    | _ => none
def cSs : Nat → CC → List Stmt → Option S
  | 0, _, _ => none
  | n + 1, c, ss => match ss with
    | [] => some .skip
    | s :: ss => match cS n c s, cSs n c ss with
      | some s', some r' => some (.seq s' r')
      | _, _ => none
end
end KN

set_option autoImplicit false
set_option linter.all false
/-! Kern: count, index of truths in a list; a written text split -/
namespace KN
open PySem PySem.Spec PyProof.Rows
open L2 (PE PT PW PA PS PSs OpR CallR upd)
section
variable {X : L2.Cx} {Γ : Nm} {W : L2.WX} {P : PG} {Φ : Phi}
theorem flat_bls (bs : List Bool) : (bs.map L2.V.bl).all L2.flatV = true := by simp [L2.flatV]
theorem rvs_bls {H : LH} : ∀ {bs : List Bool} {xs : List LV}, RVs Γ H (bs.map Vl.bl) xs → xs = bs.map L2.V.bl
  | [], xs, r => by simpa only [List.map_nil, RVs] using r
  | b :: bs, xs, r => by
    simp only [List.map_cons, RVs] at r
    obtain ⟨y, ys, rfl, ry, rr⟩ := r
    have := rvs_bls rr
    have ey : y = .bl b := by simpa only [RV] using ry
    rw [this, ey]; rfl
theorem mLIndex (hK : Γ.K = X.K) : MtAt X Γ "index" .lst .index := by
  refine ⟨_, PySem.F.plainAttrs_list, PySem.F.slot_list_index, PySem.F.type_list_index, ?_⟩
  intro pins s σ H x xs v us Q' I rx rxs ⟨v', vs, h, Q, rv, rvs, rh, w, kq⟩
  match v', vs, w with
  | .ref a, [.bl b], ⟨bs, j, g, hj, hm, q⟩ =>
    obtain ⟨x', rfl, r⟩ := r1 rvs
    have ex : x' = .bl b := by simpa only [RV] using r
    subst ex
    obtain ⟨ys, h5, r'⟩ := rh a _ g
    have := rvs_bls r'
    subst this
    refine L2.mt_index pins s σ H x _ v us Q' I rx rxs ⟨a, bs.map L2.V.bl, .bl b, j, .bl b, rref rv, rfl, .of h5, rfl, flat_bls bs, by simp [hj], by simp [L2.eqV], fun m z' hm' hz => ?_, kq _ h _ H vint rh (.refl _ _) q⟩
    rw [List.getElem?_map] at hz
    cases e : bs[m]? with
    | none => rw [e] at hz; cases hz
    | some b' =>
      rw [e] at hz
      cases hz
      have : b' ≠ b := fun z => hm m hm' (by rw [e, z])
      simp [L2.eqV, this]
theorem countP_vals {y : L2.V} : ∀ {xs : List L2.V} {us : List Value}, L2.Vals xs us → xs.all L2.flatV = true → us.countP (L2.eqU y) = xs.countP (fun z => L2.eqV z y)
  | _, _, .nil, _ => rfl
  | x :: xs, u :: us, .cons r t, f => by
    rw [List.all_cons, Bool.and_eq_true] at f
    rw [List.countP_cons, List.countP_cons, countP_vals t f.2, L2.eqU_of r f.1]
theorem mLCount (hK : Γ.K = X.K) : MtAt X Γ "count" .lst .count := by
  refine ⟨_, PySem.F.plainAttrs_list, PySem.F.slot_list_count, PySem.F.type_list_count, ?_⟩
  intro pins s σ H x xs v us Q' I rx rxs ⟨v', vs, h, Q, rv, rvs, rh, w, kq⟩
  match v', vs, w with
  | .ref a, [.bl b], ⟨bs, g, q⟩ =>
    obtain ⟨x', rfl, r⟩ := r1 rvs
    have ex : x' = .bl b := by simpa only [RV] using r
    subst ex
    obtain ⟨ys, h5, r'⟩ := rh a _ g
    have := rvs_bls r'
    subst this
    have ea := rref rv
    subst ea
    cases rx
    cases rxs with
    | cons ry rt =>
      rename_i uy ut
      cases rt
      obtain ⟨its, rv2, ⟨⟨cls, dd, data, sl⟩, n, ho, hc, hdn, hd⟩, hlen⟩ := I.list (.of h5)
      simp only at hc hd
      subst hc hd
      refine call_meets PySem.F.slot_list_count ⟨_, ho, rfl⟩ PySem.F.entry_list_count (PySem.F.args_list_count_2 _ _)
        (SeqAt.list_countAt a its.toArray n dd sl uy (L2.eqU (.bl b))) ⟨ho, fun u' hu' => L2.mem_eqAt ry rfl rv2 (flat_bls bs) u' (by simpa using hu'), ?_⟩
      have ec : its.toArray.toList.countP (L2.eqU (.bl b)) = bs.count b := by
        rw [show its.toArray.toList = its from by simp, countP_vals rv2 (flat_bls bs), List.countP_map]
        unfold List.count
        congr 1
      refine ⟨.int (bs.count b : Nat), H, I.tok _, ⟨s.toks, ?_⟩, kq _ h _ H vint rh (.refl _ _) q⟩
      rw [ec]
theorem strs_read {σ : St} {h : AH} {X' : Xv} : ∀ {zs : List (List Nat)} {QA : List Vl → AH → Prop}, wA P Φ (strsE zs) σ h QA X' → QA (zs.map Vl.str) h
  | [], _, w => w
  | z :: zs, QA, w => strs_read (zs := zs) (QA := fun vs h2 => QA (.str z :: vs) h2) w
theorem sE_split {s t : Str} {j j2 : Nat} {p1 p2 apos pos : Pos} (hb : (t.length == 0) = false) (hl : s.length ≤ 1000) (hz : (Txt.split s t).length ≤ 1000) (hline : (apos.endLine == pos.line) = true) :
    PE X (.Call (.Attribute (.Constant (.str s) j p1) "split" apos) [.Constant (.str t) j2 p2] [] pos) (gE Γ W (wE P Φ (.lst (strsE ((Txt.split s t).map fun z => z.cps.toList))))) := by
  refine PE.mono (L2.pe_split L2.pe_str L2.pe_str rfl rfl hline) ?_
  rintro τ H Q' ⟨σ, h, Q, X', rs, rh, w, kq, kx⟩
  refine ⟨⟨_, rfl⟩, s, t, rfl, rfl, hb, by rw [sizeLine_eq]; omega, ?_⟩
  have w1 := strs_read (X' := X') w
  obtain ⟨-, w2⟩ := w1
  have key : ∀ (zs : List Str) (H : LH), RVs Γ H ((zs.map fun z => z.cps.toList).map Vl.str) (zs.map L2.V.str) := by
    intro zs H
    induction zs with
    | nil => simp only [List.map_nil, RVs]
    | cons z zs ih => simp only [List.map_cons, RVs]; exact ⟨_, _, rfl, by simp only [RV, sOf], ih⟩
  intro p np
  exact kq (.ref p) _ _ _ vref (rh.new (u := .lst _) np ⟨_, L2.upd_same, key _ _⟩) (.new np) (w2 p (rh.free np))
end
end KN

set_option autoImplicit false
set_option linter.all false
/-! Kern, part 10g: data, written -/
namespace KN
open PySem PySem.Spec PyProof.Rows
open L2 (PE PT PW PA PS PSs OpR CallR upd PI)
def shwD (d : Da) : List Nat := d.py.shown.cps.toList
theorem shwD_ok (d : Da) : sOf (shwD d) = d.py.shown := rfl
theorem textFrom_le : ∀ (ts : List Str) (k : Nat) (acc : Str), (textFrom k acc ts).length ≤ acc.length + piled ts
  | [], k, acc => by simp [textFrom]
  | t :: r, k, acc => by
    have ih := textFrom_le r (k + 1) (acc ++ (if k > 0 then ", " else "" : String) ++ t)
    have e : ((if k > 0 then ", " else "" : String) : Str).length ≤ 2 := by split <;> decide
    rw [strLen_append, strLen_append] at ih
    rw [piled_cons]
    simp only [textFrom]
    omega
theorem listText_le (ts : List Str) : (listText ts).length ≤ piled ts + 4 := by
  have a := textFrom_le ts 0 "["
  have e1 : ((("[" : String) : Str)).length = 1 := rfl
  have e2 : ((("]" : String) : Str)).length = 1 := rfl
  unfold listText
  rw [strLen_append, e2]
  omega
theorem tupleText_le (ts : List Str) : (tupleText ts).length ≤ piled ts + 4 := by
  have e1 : ((("(" : String) : Str)).length = 1 := rfl
  have e3 : (((if ts.length == 1 then ",)" else ")" : String) : Str)).length ≤ 2 := by split <;> decide
  unfold tupleText
  rw [strLen_append, strLen_append, e1]
  by_cases h : ts = []
  · subst h
    have e4 : (Str.join ", " ([] : List Str)).length = 0 := rfl
    omega
  · have := join_length_add ts h
    omega
theorem log2_lt' {n k : Nat} (hk : 0 < k) (h : n < 2 ^ k) : n.log2 < k := by
  by_cases z : n = 0
  · subst z
    simpa using hk
  · exact (Nat.log2_lt z).mpr h
theorem sgn_ok {s : List Nat} (h : Da.ok (.str s) = true) : ∀ c ∈ (sOf s).cps.toList, c < 16 ^ 8 := fun c hc => by
  simp only [Da.ok, List.all_eq_true, decide_eq_true_eq] at h
  have := h c hc
  exact Nat.lt_trans this (by decide)
theorem int_wid {i : Int} (hs : intW i = true) : (Str.ofString (toString i)).length ≤ if i.natAbs < 10000000000000 then 14 else 1922 := by
  have hs : i.natAbs < 2 ^ 1900 := intW_ok.mp hs
  rw [PySem.ofString_length]
  split
  · rename_i z
    exact int_text_length_le10 (a := i) (k := 13) (by decide) z
  · have a := int_text_length_le (a := i) (k := 1900) (by decide) (log2_lt' (by decide) hs)
    exact Nat.le_trans a (by decide)
theorem int_sho {i : Int} (hs : intW i = true) : i.natAbs.log2 < 1920 := by
  have hs : i.natAbs < 2 ^ 1900 := intW_ok.mp hs
  exact Nat.lt_trans (log2_lt' (by decide) hs) (by decide)
mutual
theorem wid_ok : ∀ d : Da, d.ok = true → d.sho = true → d.py.shown.length ≤ d.wid
  | .non, _, _ => by decide
  | .bl b, _, _ => by cases b <;> decide
  | .int i, _, hs => by
    simp only [Da.wid, Da.py, PyData.shown]
    exact int_wid (by simpa only [Da.sho] using hs)
  | .str s, h, _ => by
    simp only [Da.wid, Da.py, PyData.shown]
    exact StrLaws.reprText_len (sOf s) (sgn_ok h)
  | .tup ds, h, hs => by
    simp only [Da.wid, Da.py, PyData.shown]
    simp only [Da.ok] at h
    simp only [Da.sho] at hs
    have a := tupleText_le (PyData.shownAll (Da.pys ds))
    have b := wids_ok ds h hs
    omega
  | .lst ds, h, hs => by
    simp only [Da.wid, Da.py, PyData.shown]
    simp only [Da.ok] at h
    simp only [Da.sho] at hs
    have a := listText_le (PyData.shownAll (Da.pys ds))
    have b := wids_ok ds h hs
    omega
theorem wids_ok : ∀ ds : List Da, Da.oks ds = true → Da.shos ds = true → piled (PyData.shownAll (Da.pys ds)) ≤ Da.wids ds
  | [], _, _ => by simp [PyData.shownAll, Da.pys, Da.wids, piled]
  | d :: ds, h, hs => by
    simp only [Da.oks, Bool.and_eq_true] at h
    simp only [Da.shos, Bool.and_eq_true] at hs
    have a := wid_ok d h.1 hs.1
    have b := wids_ok ds h.2 hs.2
    simp only [Da.pys, PyData.shownAll, Da.wids, piled_cons]
    omega
end
mutual
theorem sho_ok : ∀ d : Da, d.sho = true → d.py.showable = true
  | .non, _ => by simp [Da.py, PyData.showable]
  | .bl _, _ => by simp [Da.py, PyData.showable]
  | .int i, hs => by
    simp only [Da.py, PyData.showable, decide_eq_true_eq]
    exact int_sho (by simpa only [Da.sho] using hs)
  | .str _, _ => by simp [Da.py, PyData.showable]
  | .tup ds, hs => by simp only [Da.py, PyData.showable]; simp only [Da.sho] at hs; exact shos_ok ds hs
  | .lst ds, hs => by simp only [Da.py, PyData.showable]; simp only [Da.sho] at hs; exact shos_ok ds hs
theorem shos_ok : ∀ ds : List Da, Da.shos ds = true → PyData.showableAll (Da.pys ds) = true
  | [], _ => by simp [Da.pys, PyData.showableAll]
  | d :: ds, hs => by
    simp only [Da.shos, Bool.and_eq_true] at hs
    simp only [Da.pys, PyData.showableAll, sho_ok d hs.1, shos_ok ds hs.2, Bool.and_self]
end
mutual
theorem nodict : ∀ d : Da, d.py.hasDict = false
  | .non => by simp [Da.py, PyData.hasDict]
  | .bl _ => by simp [Da.py, PyData.hasDict]
  | .int _ => by simp [Da.py, PyData.hasDict]
  | .str _ => by simp [Da.py, PyData.hasDict]
  | .tup ds => by simp only [Da.py, PyData.hasDict]; exact nodicts ds
  | .lst ds => by simp only [Da.py, PyData.hasDict]; exact nodicts ds
theorem nodicts : ∀ ds : List Da, PyData.hasDictAll (Da.pys ds) = false
  | [] => by simp [Da.pys, PyData.hasDictAll]
  | d :: ds => by simp only [Da.pys, PyData.hasDictAll, nodict d, nodicts ds, Bool.or_self]
end
section
variable {X : L2.Cx} {Γ : Nm} {W : L2.WX} {P : PG} {Φ : Phi} {pos : Pos}
def StrL (P : PG) (vs : List Vl) (h : AH) (Q : Qv) : Prop := match vs with
  | [v] => StrK P Q v h
  | _ => False
theorem bStrD (gd : X.A.guards = some []) (hu : X.A.units + 64 < cLine) (hK : Γ.K = X.K) (hs : P.shw = shwD) : CallR X (.type "str") (gU Γ (StrL P)) := by
  intro pins s σ H xs us Q' I rxs ⟨vs, h, Q, rvs, rh, w, kq⟩
  obtain ⟨v, rfl, w⟩ : ∃ v, vs = [v] ∧ StrK P Q v h := by
    match vs, w with
    | [v], w => exact ⟨v, rfl, w⟩
  rcases w with ⟨i, rfl, hz, q⟩ | ⟨d, hd, h2, h3, h4, h5, q⟩
  · exact bStr1 pins s σ H xs us Q' I rxs ⟨[.int i], h, Q, rvs, rh, ⟨hz, q⟩, kq⟩
  · obtain ⟨x, rfl, r⟩ := r1 rvs
    have dp := da_dp rh d hd r
    rw [hK] at dp
    cases d with
    | non =>
      simp only [DaOf] at hd; subst hd
      simp only [RV] at r; subst r
      obtain ⟨u, rfl, e⟩ := L2.vals1 rxs
      cases e
      refine PySem.P.str_of_none ⟨.str _, H, I.tok _, ⟨_, rfl⟩, ?_⟩
      have := kq (.str (shwD .non)) h _ H vstr rh (.refl _ _) (by rw [← hs]; exact q)
      rw [shwD_ok] at this
      exact this
    | bl b =>
      simp only [DaOf] at hd; subst hd
      simp only [RV] at r; subst r
      obtain ⟨u, rfl, e⟩ := L2.vals1 rxs
      cases e
      refine PySem.P.str_of_bool ⟨.str _, H, I.tok _, ⟨_, rfl⟩, ?_⟩
      have := kq (.str (shwD (.bl b))) h _ H vstr rh (.refl _ _) (by rw [← hs]; exact q)
      rw [shwD_ok] at this
      exact this
    | int i =>
      simp only [DaOf] at hd; subst hd
      refine L2.call_str_int pins s σ H _ us Q' I rxs ⟨i, by rw [rint r], int_sho (by simpa only [Da.sho] using h3), ?_⟩
      have := kq (.str (shwD (.int i))) h _ H vstr rh (.refl _ _) (by rw [← hs]; exact q)
      rw [shwD_ok] at this
      exact this
    | str t =>
      simp only [DaOf] at hd; subst hd
      simp only [RV] at r; subst r
      obtain ⟨u, rfl, t', rfl⟩ := L2.vals1 rxs
      exact PySem.P.str_of_str ⟨.str _, H, I, ⟨t', rfl⟩, kq (.str t) h _ H vstr rh (.refl _ _) q⟩
    | tup ds =>
      cases rxs with
      | cons rx rr =>
        cases rr
        rename_i u
        obtain ⟨as, rd⟩ := L2.Dp.reads I (Da.tup ds).py x u dp rx
        obtain ⟨a, rfl⟩ : ∃ a, u = .ref a := by
          simp only [Da.py] at rd; cases rd; exact ⟨_, rfl⟩
        have hwid := wid_ok (.tup ds) h2 h3
        have hdep := dep_py (.tup ds)
        refine str_of_reads rd (sho_ok _ h3) (fun z => by rw [nodict] at z; cases z) gd (by omega) (fun _ _ z => z) (fun h' t tk hk => ?_) (Nat.le_trans hwid h5)
        have q' : Q (.str (shwD (.tup ds))) h := by rw [← hs]; exact q
        exact ⟨.str (sOf (shwD (.tup ds))), H, I.kept (t' := tk) hk, ⟨t, rfl⟩, kq (.str (shwD (.tup ds))) h _ H vstr rh (.refl _ _) q'⟩
    | lst ds =>
      cases rxs with
      | cons rx rr =>
        cases rr
        rename_i u
        obtain ⟨as, rd⟩ := L2.Dp.reads I (Da.lst ds).py x u dp rx
        obtain ⟨a, rfl⟩ : ∃ a, u = .ref a := by
          simp only [Da.py] at rd; cases rd; exact ⟨_, rfl⟩
        have hwid := wid_ok (.lst ds) h2 h3
        have hdep := dep_py (.lst ds)
        refine str_of_reads rd (sho_ok _ h3) (fun z => by rw [nodict] at z; cases z) gd (by omega) (fun _ _ z => z) (fun h' t tk hk => ?_) (Nat.le_trans hwid h5)
        have q' : Q (.str (shwD (.lst ds))) h := by rw [← hs]; exact q
        exact ⟨.str (sOf (shwD (.lst ds))), H, I.kept (t' := tk) hk, ⟨t, rfl⟩, kq (.str (shwD (.lst ds))) h _ H vstr rh (.refl _ _) q'⟩
theorem sE_strd {a : Expr} {a' : E} {p : Pos} (gd : X.A.guards = some []) (hu : X.A.units + 64 < cLine) (hK : Γ.K = X.K) (hsh : P.shw = shwD) (g1 : L2.Gl X "str") (m1 : X.mg "str" = none) (ha : PE X a (gE Γ W (wE P Φ a')))
    (hs : starEach [a] X.env = (false, eval a X.env) :: starEach [] X.env) : PE X (.Call (.Name "str" p) [a] [] pos) (gE Γ W (wE P Φ (.strd a'))) := by
  refine PE.mono (L2.pe_callTy (bStrD (Γ := Γ) gd hu hK hsh) g1 m1 (by decide +kernel) (sA_cons ha sA_nil hs) (by decide) (by decide) hs rfl) ?_
  rintro τ H Q' ⟨σ, h, Q, X', rs, rh, w, kq, kx⟩
  refine ⟨σ, h, fun vs h1 => StrL P vs h1 Q, X', rs, rh, (show wE P Φ a' σ h (fun x h1 => StrK P Q x h1) X' from w), ?_, kx⟩
  intro vs h1 xs H1 rvs rh1 s1 q1
  exact ⟨vs, h1, Q, rvs, rh1, q1, kq.step s1⟩
end
end KN

set_option autoImplicit false
set_option linter.all false
/-! Kern, part 12: the IR of a text means what the text does -/
namespace KN
open PySem PySem.Spec PyProof.Rows
open L2 (PE PT PW PA PS PSs OpR CallR upd PI)

/-- what a context must be like -/
structure Ctx (X : L2.Cx) (Γ : Nm) (W : L2.WX) (P : PG) (Φ : Phi) (k : Nat) (c : CC) : Prop where
  N : X.N = c.N
  sc : X.env.scope = c.sc
  nd : X.N.Nodup
  calm : c.hot = false → X.calm = true
  room : c.hot = false → L2.Room (2 * k + 1) X.A
  rm : L2H.RoomH (2 * k + 1) X.A
  hts : ∀ x f n, c.T.fns.lookup x = some (f, n) → c.T.hots.contains f = true → ∃ fa fd ps, X.mg x = some (.ref fa) ∧ PySem.W.keepIn X.K (.ref fa) = true ∧ L2.Binds X.K fd ps [] ∧
    FnGH X.prog X.w X.K X.mg X.base (L2.CX X.prog X.w) (2 * k) fa fd ps (gF Γ (Φ f) n) ∧ ∀ vs h Q X', Φ f vs h Q X' → vs.length = n
  gd : X.A.guards = some []
  shw : P.shw = shwD
  K : Γ.K = X.K
  par : X.w.params = Γ.par
  tk : L2.Takes X W
  fn : ∀ x, c.st x = true → X.fn x = true
  kind : c.sc.kind = .function
  bl : ∀ x, c.T.bl.contains x = true → X.mg x = none
  glb : ∀ x g, c.T.globs.lookup x = some g → ∃ v xv u, P.glob g = some v ∧ X.mg x = some u ∧ L2.RelV xv u ∧ ∀ H, RV Γ H v xv
  fns : ∀ x f n, c.T.fns.lookup x = some (f, n) → ∃ fa fd ps, X.mg x = some (.ref fa) ∧ PySem.W.keepIn X.K (.ref fa) = true ∧ L2.Binds X.K fd ps [] ∧
    FnG X.prog X.w X.K X.mg X.base (L2.CX X.prog X.w) (2 * k) fa fd ps (gF Γ (Φ f) n) ∧ ∀ vs h Q X', Φ f vs h Q X' → vs.length = n
  fi : ∀ f g, Γ.fld f = Γ.fld g → f = g
  exs : ∀ x d b, c.T.exs.lookup x = some (d, b) → ∃ C, Γ.ea d = some C ∧ X.mg x = some (.ref C) ∧ (b = true → ExOk X.K C) ∧
    ∀ d' C', Γ.ea d' = some C' → PySem.W.kitOne X.K (.ref C') (.ref C) = some (P.sub d' d) ∧ PySem.W.exmOne X.K (.ref C') (.ref C) = some (P.sub d' d)
  exc : ∀ d C, Γ.ea d = some C → L2.ExcC X.K C ∧ PySem.W.kitOne X.K (.ref C) (.type "ValueError") = some true
  att : ∀ y f, c.T.flds.lookup y = some f → AttF X Γ f y
  cls : ∀ x d n, c.T.cls.lookup x = some (d, n) → ∃ C fa fd ps f, Γ.ca d = some C ∧ X.mg x = some (.ref C) ∧ L2.Mk X.K C fa ∧ P.init d = some f ∧ L2.Binds X.K fd ps [] ∧
    FnG X.prog X.w X.K X.mg X.base (L2.CX X.prog X.w) (2 * k) fa fd ps (gF Γ (Φ f) (n + 1)) ∧ ∀ vs h Q X', Φ f vs h Q X' → vs.length = n + 1
  fnv : ∀ f a, Γ.fa f = some a → ∃ fd ps n, PySem.W.keepIn X.K (.ref a) = true ∧ L2.Binds X.K fd ps [] ∧
    FnG X.prog X.w X.K X.mg X.base (L2.CX X.prog X.w) (2 * k) a fd ps (gF Γ (Φ f) n) ∧ ∀ vs h Q X', Φ f vs h Q X' → vs.length = n
  met : ∀ y m n, c.T.mets.lookup y = some (m, n) → ∃ d f fa fd ps, MethF X Γ P m y d f fa ∧ L2.Binds X.K fd ps [] ∧
    FnG X.prog X.w X.K X.mg X.base (L2.CX X.prog X.w) (2 * k) fa fd ps (gF Γ (Φ f) (n + 1)) ∧ ∀ vs h Q X', Φ f vs h Q X' → vs.length = n + 1

section
variable {X : L2.Cx} {Γ : Nm} {W : L2.WX} {P : PG} {Φ : Phi} {k : Nat} {c : CC}

theorem Ctx.hu (x : Ctx X Γ W P Φ k c) : X.A.units + 64 < cLine := by have := x.rm.un; omega
theorem Ctx.hu65 (x : Ctx X Γ W P Φ k c) : X.A.units + 65 < cLine := by have := x.rm.un; omega
theorem Ctx.hu1 (x : Ctx X Γ W P Φ k c) : X.A.units + 1 < cLine := by have := x.rm.un; omega
theorem takesW0 {Y : L2.Cx} : L2.Takes Y W0 := fun _ _ x => by
  obtain ⟨_, _, _, _, _, _, _, _, _, _, _, _, _, _, _, _, z⟩ := x
  exact z.elim
theorem Ctx.blk (x : Ctx X Γ W P Φ k c) (s : Shared) (H : LH) (scope : Scope) (C : Addr) (cl : List (Str × Addr)) (fp : List Addr) (hk : scope.kind = .function) :
    Ctx (X.blk s H scope (compEnvC scope cl C X.env) fp) Γ W0 P Φ k (blkCC c scope) where
  N := x.N
  sc := by
    show relabel scope X.env = L2.relS scope c.sc
    rw [← x.sc]; rfl
  nd := x.nd
  calm := x.calm
  room := x.room
  rm := x.rm
  hts := x.hts
  gd := x.gd
  shw := x.shw
  K := x.K
  par := x.par
  tk := takesW0
  fn := fun _ h => h
  kind := hk
  bl := x.bl
  glb := x.glb
  fns := x.fns
  fi := x.fi
  exs := x.exs
  exc := x.exc
  att := fun y f e => let z := x.att y f e; ⟨z.nm, z.at_⟩
  cls := x.cls
  fnv := x.fnv
  met := fun y m n e => let ⟨d, f, fa, fd, ps, z, r⟩ := x.met y m n e; ⟨d, f, fa, fd, ps, ⟨z.cl, z.no, z.un⟩, r⟩

/-! operators -/
theorem cBin_ok (x : Ctx X Γ W P Φ k c) {op : Operator} {o : Op2} (h : cBin op = some o) : OpR X (binaryOp op) (gO Γ (wOp o)) := by
  cases op <;> simp [cBin] at h <;> subst h
  · exact oAdd x.K
  · exact oSub
  · exact oMul
  · exact oMod
  · exact oPow
  · exact oFdiv
theorem cCmp_ok (x : Ctx X Γ W P Φ k c) {op : CmpOp} {o : Op2} (h : cCmp op = some o) : OpR X (compareOp op) (gO Γ (wOp o)) := by
  cases op <;> simp [cCmp] at h <;> subst h
  · exact oEq x.hu x.K
  · exact oNe x.hu x.K
  · exact oLt x.hu x.K
  · exact oLe
  · exact oGt
  · exact oGe
  · exact oIs
  · exact oIsn
  · exact oIn x.hu65 x.K
  · exact oNin x.hu65 x.K
theorem star_ok {e : Expr} (h : notStar e = true) (es : List Expr) (env : Env) : starEach (e :: es) env = (false, eval e env) :: starEach es env := by
  cases e <;> first | rfl | simp [notStar] at h
theorem star_back {a : Expr} (h : notStar a = true) {q : Pos} {env : Env} : backTo q (starEach [a] env) = (false, eval a env) :: backTo q (starEach [] env) := by rw [star_ok h]; rfl
theorem plain_back {a : Expr} (h : notStar a = true) {q : Pos} {env : Env} : (backTo q (starEach [a] env)).any (·.1) = false := by rw [star_ok h]; rfl
theorem set_ok {e : Expr} (h : notSet e = true) : (∀ op, behindInMarks op e = false) ∧ ∀ env x, foldedSetIterable e env x = pure x := by
  cases e <;> first | exact ⟨fun _ => rfl, fun _ _ => rfl⟩ | simp [notSet] at h
theorem last_ok {o1 o2 : CmpOp} {b d : Expr} (h : notSet d = true) : lastMarks [o1, o2] [b, d] = false := by
  show behindInMarks o2 d = false
  exact (set_ok h).1 o2
theorem last_ok3 {o1 o2 o3 : CmpOp} {b d f : Expr} (h : notSet f = true) : lastMarks [o1, o2, o3] [b, d, f] = false := by
  show behindInMarks o3 f = false
  exact (set_ok h).1 o3
theorem slice_ok {e : Expr} (h : ∀ a b c d, e ≠ .Slice a b c d) : L2.PlainIx e := by
  intro o i
  cases e <;> first | rfl | exact absurd rfl (h _ _ _ _)
theorem super_ok {o : Expr} (h : notSuper o = true) (m : Str) (env : Env) : attributeBase o m env (eval o env) = eval o env := by
  cases o <;> first | rfl | skip
  rename_i f args kws p
  cases f <;> first | rfl | skip
  cases args <;> first | (cases kws <;> first | rfl | simp [notSuper] at h) | rfl
theorem dbg_ok {x : Str} (h : dbgB x = true) : (x == ("__debug__" : Str)) = false ∧ (x == ("__classdict__" : Str)) = false ∧ x ≠ ("__name__" : Str) := by
  unfold dbgB at h
  simp only [Bool.and_eq_true, Bool.not_eq_true'] at h
  exact ⟨h.1.1, h.1.2, beq_eq_false_iff_ne.mp h.2⟩
theorem cName_ok (x : Ctx X Γ W P Φ k c) {n : Str} {pos : Pos} {e' : E} (h : cName c n = some e') : PE X (.Name n pos) (gE Γ W (wE P Φ e')) := by
  unfold cName at h
  by_cases hd : dbgB n = true
  · rw [if_pos hd] at h
    obtain ⟨d1, d2, _⟩ := dbg_ok hd
    by_cases hv : visB c.sc n = true
    · rw [if_pos hv] at h
      obtain ⟨i, h1, rfl⟩ := Option.map_eq_some_iff.mp h
      exact sE_var (by rw [x.N]; exact ixOf_get h1) (visB_ok (by rw [x.sc]; exact hv)) d1 d2
    · rw [if_neg hv] at h
      by_cases hg : glB c.sc n = true
      · rw [if_pos hg] at h
        obtain ⟨i, h1, rfl⟩ := Option.map_eq_some_iff.mp h
        exact sE_glob (glB_ok (by rw [x.sc]; exact hg)) d1 (x.glb n i h1)
      · rw [if_neg hg] at h; cases h
  · rw [if_neg hd] at h; cases h
theorem cConst_ok {v : Const} {j : Nat} {pos : Pos} {e' : E} (h : cConst v = some e') : PE X (.Constant v j pos) (gE Γ W (wE P Φ e')) := by
  cases v <;> simp [cConst] at h <;> subst h
  · exact sE_non
  · exact sE_bl
  · exact sE_int
  · exact sE_str
theorem bltB_ok (x : Ctx X Γ W P Φ k c) {n : Str} (h : bltB c n = true) : L2.Gl X n ∧ X.mg n = none ∧ (n == ("__debug__" : Str)) = false ∧ n ≠ ("__name__" : Str) := by
  unfold bltB at h
  simp only [Bool.and_eq_true] at h
  obtain ⟨⟨h1, h2⟩, h3⟩ := h
  obtain ⟨d1, _, d3⟩ := dbg_ok h1
  exact ⟨glB_ok (by rw [x.sc]; exact h2), x.bl n h3, d1, d3⟩
theorem cAug_ok {op : Operator} {o : Op2} (h : cAug op = some o) : L2.PIp X op (gO Γ (wAug o)) := by
  cases op <;> simp [cAug] at h <;> subst h
  · exact uAdd
  · exact uSub
  · exact uMul
theorem cBi_mem : ∀ {t : List (String × Nat × Bi)} {x : Str} {n : Nat} {b : Bi}, cBi t x n = some b → ∃ y, (y, n, b) ∈ t ∧ x = Str.ofString y
  | [], _, _, _, h => by simp [cBi] at h
  | (y, k, b') :: r, x, n, b, h => by
    unfold cBi at h
    split at h
    · rename_i e
      cases h
      exact ⟨y, by rw [e.2]; exact List.mem_cons_self, e.1⟩
    · obtain ⟨z, h1, h2⟩ := cBi_mem h
      exact ⟨z, List.mem_cons_of_mem _ h1, h2⟩
theorem cMt_mem : ∀ {t : List (String × Nat × Mt)} {x : Str} {n : Nat} {b : Mt}, cMt t x n = some b → ∃ y, (y, n, b) ∈ t ∧ x = Str.ofString y
  | [], _, _, _, h => by simp [cMt] at h
  | (y, k, b') :: r, x, n, b, h => by
    unfold cMt at h
    split at h
    · rename_i e
      cases h
      exact ⟨y, by rw [e.2]; exact List.mem_cons_self, e.1⟩
    · obtain ⟨z, h1, h2⟩ := cMt_mem h
      exact ⟨z, List.mem_cons_of_mem _ h1, h2⟩
/-- a built-in call -/
theorem biTab_ok (x : Ctx X Γ W P Φ k c) {n : Str} {m : Nat} {b : Bi} (h : cBi biTab n m = some b) (hh : (c.hot && calmBi b) = false) : (∃ id, bootBuiltins n = some (.builtin id) ∧ CallR X (.builtin id) (gU Γ (wBi b))) ∨ (∃ T, bootBuiltins n = some (.type T) ∧ CallR X (.type T) (gU Γ (wBi b))) := by
  obtain ⟨y, hm, rfl⟩ := cBi_mem h
  simp only [biTab, List.mem_cons, List.not_mem_nil, or_false, Prod.mk.injEq] at hm
  rcases hm with ⟨rfl, _, rfl⟩ | ⟨rfl, _, rfl⟩ | ⟨rfl, _, rfl⟩ | ⟨rfl, _, rfl⟩ | ⟨rfl, _, rfl⟩ | ⟨rfl, _, rfl⟩ | ⟨rfl, _, rfl⟩ | ⟨rfl, _, rfl⟩ | ⟨rfl, _, rfl⟩ | ⟨rfl, _, rfl⟩ | ⟨rfl, _, rfl⟩ | ⟨rfl, _, rfl⟩ | ⟨rfl, _, rfl⟩ | ⟨rfl, _, rfl⟩ | ⟨rfl, _, rfl⟩ | ⟨rfl, _, rfl⟩
  · exact .inl ⟨_, by decide +kernel, bAbs⟩
  · exact .inl ⟨_, by decide +kernel, bMax2 (x.calm (by simpa [calmBi] using hh))⟩
  · exact .inl ⟨_, by decide +kernel, bMin2 (x.calm (by simpa [calmBi] using hh))⟩
  · exact .inl ⟨_, by decide +kernel, bLen x.K⟩
  · exact .inr ⟨_, by decide +kernel, bInt1⟩
  · exact .inr ⟨_, by decide +kernel, bList1 (x.calm (by simpa [calmBi] using hh)) x.K⟩
  · exact .inl ⟨_, by decide +kernel, bAll (x.calm (by simpa [calmBi] using hh)) x.K⟩
  · exact .inl ⟨_, by decide +kernel, bAny (x.calm (by simpa [calmBi] using hh)) x.K⟩
  · exact .inl ⟨_, by decide +kernel, bSum (x.calm (by simpa [calmBi] using hh)) x.K⟩
  · exact .inl ⟨_, by decide +kernel, bMax1 (x.calm (by simpa [calmBi] using hh)) x.hu65 x.K⟩
  · exact .inl ⟨_, by decide +kernel, bMin1 (x.calm (by simpa [calmBi] using hh)) x.K⟩
  · exact .inl ⟨_, by decide +kernel, bSorted (x.calm (by simpa [calmBi] using hh)) x.K⟩
  · exact .inr ⟨_, by decide +kernel, bTuple1 x.K⟩
  · exact .inr ⟨_, by decide +kernel, bStr1⟩
  · exact .inl ⟨_, by decide +kernel, bDivmod⟩
  · exact .inr ⟨_, by decide +kernel, bDict1 (x.calm (by simpa [calmBi] using hh)) x.hu65 x.K⟩
theorem mtTab_ok (x : Ctx X Γ W P Φ k c) {n : Str} {m : Nat} {b : Mt} (h : cMt mtTab n m = some b) : ∀ k, mtHas k b = true → MtAt X Γ n k b := by
  obtain ⟨y, hm, rfl⟩ := cMt_mem h
  simp only [mtTab, List.mem_cons, List.not_mem_nil, or_false, Prod.mk.injEq] at hm
  rcases hm with ⟨rfl, _, rfl⟩ | ⟨rfl, _, rfl⟩ | ⟨rfl, _, rfl⟩ | ⟨rfl, _, rfl⟩ | ⟨rfl, _, rfl⟩ | ⟨rfl, _, rfl⟩ | ⟨rfl, _, rfl⟩ | ⟨rfl, _, rfl⟩ | ⟨rfl, _, rfl⟩ | ⟨rfl, _, rfl⟩ | ⟨rfl, _, rfl⟩ | ⟨rfl, _, rfl⟩ | ⟨rfl, _, rfl⟩ | ⟨rfl, _, rfl⟩ | ⟨rfl, _, rfl⟩ | ⟨rfl, _, rfl⟩ | ⟨rfl, _, rfl⟩ | ⟨rfl, _, rfl⟩
  all_goals (intro k hk; cases k <;> first | exact absurd hk (by decide) | skip)
  · exact mAppend
  · exact mJoin x.K
  · exact mCount
  · exact mLCount x.K
  · exact mPop0
  · exact mExtend
  · exact mReverse
  · exact mClear
  · exact mSIndex
  · exact mLIndex x.K
  · exact mPop1
  · exact mInsert
  · exact mDget2 x.hu1
  · exact mSetd x.hu1 x.K
  · exact mStrip
  · exact mSplit
  · exact mPart
  · exact mStarts
  · exact mEnds
  · exact mDget1 x.hu1
theorem cKd1_ok {n : Str} {kd : Kd} (h : cKd1 kdTab n = some kd) : bootBuiltins n = some (.type (kdN kd)) ∧ ∀ c, kd ≠ .cls c := by
  simp only [kdTab, cKd1] at h
  repeat' split at h
  all_goals (try cases h)
  all_goals (rename_i hc; subst hc; exact ⟨by decide +kernel, fun c z => by cases z⟩)
theorem cKd1_pl {n : Str} {kd : Kd} (h : cKd1 kdTab n = some kd) : kdP kd = true := by
  simp only [kdTab, cKd1] at h
  repeat' split at h
  all_goals (first | (cases h; done) | (cases h; rfl))
theorem cKd_ok (x : Ctx X Γ W P Φ k c) {e : Expr} {kd : Kd} (h : cKd c e = some kd) : ∃ cv, KdOk X kd cv ∧ PE X e (L2.tC cv) ∧ notStar e = true ∧ kdP kd = true := by
  cases e <;> simp [cKd] at h
  obtain ⟨hb, h⟩ := h
  obtain ⟨g1, g2, g3, g4⟩ := bltB_ok x hb
  obtain ⟨b1, b2⟩ := cKd1_ok h
  exact ⟨_, kd_plain b2, L2.pe_bltn g1 g2 b1 rfl g4 g3, rfl, cKd1_pl h⟩
theorem cKdX_ok (x : Ctx X Γ W P Φ k c) {e : Expr} {kd : Kd} (h : cKdX c e = some kd) : ∃ cv, KdX X Γ P kd cv ∧ PE X e (L2.tC cv) ∧ notStar e = true := by
  cases e <;> simp only [cKdX] at h <;> try (cases h; done)
  split at h
  · rename_i d b he
    split at h <;> try cases h
    rename_i hb
    simp only [Bool.and_eq_true] at hb
    obtain ⟨C, h1, h2, h3, h4⟩ := x.exs _ _ _ he
    have hd := hb.1
    unfold dbgB at hd
    simp only [Bool.and_eq_true, Bool.not_eq_true'] at hd
    refine ⟨.ref C, ⟨rfl, .ref C, fun u' r => r, fun c' C' hc => ⟨(x.exc _ _ hc).1, (h4 _ _ hc).1⟩⟩, L2.pe_glob (glB_ok (by rw [x.sc]; exact hb.2)) h2 rfl hd.1.1, rfl⟩
  · split at h <;> try cases h
    rename_i hb
    simp only [Bool.and_eq_true, decide_eq_true_eq] at hb
    obtain ⟨g1, g2, g3, g4⟩ := bltB_ok x hb.1
    obtain ⟨hb1, rfl⟩ := hb
    exact ⟨.ty "ValueError", ⟨rfl, .type "ValueError", fun u' r => r, fun c' C' hc => x.exc _ _ hc⟩, L2.pe_bltn g1 g2 (by decide +kernel) rfl g4 g3, rfl⟩
theorem cKds_ok (x : Ctx X Γ W P Φ k c) : ∀ {es : List Expr} {ks : List Kd}, cKds c es = some ks → ∃ cvs, KdsOk X ks cvs ∧ PA X es (tCs cvs)
  | [], ks, h => by simp [cKds] at h; subst h; exact ⟨[], .nil, pa_cs_nil⟩
  | e :: es, ks, h => by
    simp only [cKds] at h
    split at h <;> try cases h
    rename_i kd ks' h1 h2 h3
    obtain ⟨cv, k1, k2, k3, k4⟩ := cKd_ok x h2
    obtain ⟨cvs, q1, q2⟩ := cKds_ok x h3
    exact ⟨cv :: cvs, .cons k4 k1 q1, pa_cs_cons k2 q2 (star_ok k3 _ _)⟩
theorem cKdsX_ok (x : Ctx X Γ W P Φ k c) : ∀ {es : List Expr} {ks : List Kd}, cKdsX c es = some ks → ∃ cvs, KdXs X Γ P ks cvs ∧ PA X es (tCs cvs) ∧ ∀ k ∈ ks, kdP k = false
  | [], ks, h => by simp [cKdsX] at h; subst h; exact ⟨[], .nil, pa_cs_nil, fun _ z => by cases z⟩
  | e :: es, ks, h => by
    simp only [cKdsX] at h
    split at h <;> try cases h
    rename_i kd ks' h1 h2 h3
    obtain ⟨cv, k1, k2, k3⟩ := cKdX_ok x h2
    obtain ⟨cvs, q1, q2, q3⟩ := cKdsX_ok x h3
    refine ⟨cv :: cvs, .cons k1 q1, pa_cs_cons k2 q2 (star_ok k3 _ _), fun k hk => ?_⟩
    rcases List.mem_cons.mp hk with rfl | hk
    · exact k1.1
    · exact q3 k hk
theorem wA_len {es' : E} {σ : St} {h : AH} {Q : List Vl → AH → Prop} {X' : Xv} : True := trivial
/-- plain expressions as tests -/
theorem plain_hw {e' : E} (h : plainE e' = true) : ∀ σ (h : AH) (Q : Bool → AH → Prop) X', wT P Φ e' σ h Q X' → wE P Φ e' σ h (fun z h' => ∃ t, truth h' z = some t ∧ Q t h') X' := by
  intro σ h Q X' w
  cases e' <;> first | exact w | (simp [plainE] at h)
theorem plain_pos {e : Expr} (h : (match e with | .Name _ _ => true | .Call _ _ _ _ => true | .Subscript _ _ _ => true | _ => false) = true) (env : Env) : ∀ whole, isTrue e env whole = (do let v ← whole; standAt e.pos; holding [v] (truthy v)) := by
  cases e <;> first | (intro _; rfl) | simp at h
theorem assign_len : ∀ (es : List Expr) (env : Env), (assignEach es env).length = es.length
  | [], _ => rfl
  | e :: es, env => by
    have ih := assign_len es env
    cases e <;> simp [assignEach, ih]
theorem assign_star : ∀ {es : List Expr} (env : Env), (es.all notStar) = true → (assignEach es env).findIdx? (·.1) = none
  | [], _, _ => rfl
  | e :: es, env, h => by
    simp only [List.all_cons, Bool.and_eq_true] at h
    have ih := assign_star (es := es) env h.2
    cases e <;> first | (simp [notStar] at h; done) | (simp [assignEach, List.findIdx?_cons]; simpa using ih)
theorem assign_cons {e : Expr} (h : notStar e = true) (es : List Expr) (env : Env) : (assignEach (e :: es) env).map (·.2) = assign e env :: (assignEach es env).map (·.2) := by
  cases e <;> first | rfl | simp [notStar] at h
theorem cGs_len : ∀ (n : Nat) (c : CC) (gs : List Expr) (gs' : E), cGs n c gs = some gs' → elen gs' = gs.length ∧ gs.all notStar = true
  | 0, _, _, _, h => by simp [cGs] at h
  | n + 1, c, [], gs', h => by
    simp [cGs] at h; subst h
    exact ⟨rfl, rfl⟩
  | n + 1, c, g :: gs, gs', h => by
    simp only [cGs] at h
    split at h <;> try cases h
    rename_i g' gs'' h1 h2 h3
    obtain ⟨i1, i2⟩ := cGs_len n c gs gs'' h3
    exact ⟨by simp [elen, i1], by simp [h1, i2]⟩
/-- the stores in a block's target -/
theorem loc_ok (x : Ctx X Γ W P Φ k c) {n : Str} (h : locB c n = true) : L2.Loc X.env.scope n ∧ (X.fn n = true ∨ X.env.scope.names.lookup n = some .local) := by
  unfold locB at h
  unfold L2.Loc
  rw [x.sc]
  split at h
  · rename_i e; exact ⟨.inl e, .inr e⟩
  · rename_i e; exact ⟨.inr e, .inl (x.fn n h)⟩
  · cases h
theorem cCall_ok (x : Ctx X Γ W P Φ k c) {n : Str} {p pos : Pos} {e : Expr} {es : List Expr} {es' r : E} (h : cCall c n (e :: es).length es' = some r) (ha : PA X (e :: es) (gA Γ W (wA P Φ es'))) (hs : notStar e = true) (hr : ∀ y ∈ es, notStar y = true) :
    PE X (.Call (.Name n p) (e :: es) [] pos) (gE Γ W (wE P Φ r)) := by
  have hst := star_ok hs es X.env
  have hpl : (backTo pos (starEach es X.env)).any (·.1) = false := by
    clear h ha hst hs
    induction es with
    | nil => rfl
    | cons y ys ih =>
      rw [star_ok (hr y (by simp))]
      have := ih fun z hz => hr z (List.mem_cons_of_mem _ hz)
      cases ys with
      | nil => rfl
      | cons w ws => exact this
  unfold cCall at h
  by_cases hb : bltB c n = true
  · rw [if_pos hb] at h
    obtain ⟨b, h1, h0⟩ := Option.bind_eq_some_iff.mp h
    by_cases hh : (c.hot && calmBi b) = true
    · rw [if_pos hh] at h0; cases h0
    rw [if_neg hh] at h0
    cases h0
    obtain ⟨g1, g2, g3, g4⟩ := bltB_ok x hb
    rcases biTab_ok x h1 (by simpa using hh) with ⟨id, b1, b2⟩ | ⟨T, b1, b2⟩
    · exact sE_bi b2 g1 g2 b1 ha g4 g3 hst hpl
    · exact sE_biT b2 g1 g2 b1 ha g4 g3 hst hpl
  · rw [if_neg hb] at h
    split at h
    · rename_i hc
      simp only [Bool.and_eq_true] at hc
      split at h
      · rename_i f m hf
        split at h
        · split at h
          · rename_i em
            cases h
            simp only [Bool.and_eq_true, decide_eq_true_eq] at em
            obtain ⟨rfl, em⟩ := em
            obtain ⟨fa, fd, ps, f1, f2, f3, f4, f5⟩ := x.hts n f _ hf em
            exact sE_callH rfl x.tk f4 x.gd (x.rm.mono (by omega)) (glB_ok (by rw [x.sc]; exact hc.2)) f1 f2 f3 ha f5 (dbg_ok hc.1).1 hst hpl
          · cases h
        rename_i hh
        have hh : c.hot = false := by simpa using hh
        split at h
        · rename_i em
          cases h
          obtain ⟨fa, fd, ps, f1, f2, f3, f4, f5⟩ := x.fns n f m hf
          exact sE_call rfl x.tk f4 x.gd ((x.room hh).mono (by omega)) (glB_ok (by rw [x.sc]; exact hc.2)) f1 f2 f3 ha f5 (dbg_ok hc.1).1 hst hpl
        · cases h
      · split at h
        · cases h
        rename_i hh
        have hh : c.hot = false := by simpa using hh
        split at h
        · rename_i d m hf
          split at h
          · rename_i em
            cases h
            obtain ⟨C, fa, fd, ps, f, f1, f2, f3, f4, f5, f6, f7⟩ := x.cls n d m hf
            exact sE_make x.tk f3 f1 f4 f6 x.gd (x.room hh) (glB_ok (by rw [x.sc]; exact hc.2)) f2 f5 f7 ha (dbg_ok hc.1).1 hst hpl
          · cases h
        · cases h
    · split at h
      · rename_i hc
        rw [Bool.and_eq_true, Bool.not_eq_true'] at hc
        obtain ⟨hh, hc⟩ := hc
        simp only [Bool.and_eq_true] at hc
        obtain ⟨i, h1, rfl⟩ := Option.map_eq_some_iff.mp h
        obtain ⟨d1, d2, _⟩ := dbg_ok hc.1
        exact sE_callv x.tk x.fnv x.gd ((x.room hh).mono (by omega)) (by rw [x.N]; exact ixOf_get h1) (visB_ok (by rw [x.sc]; exact hc.2)) ha d1 d2 hst hpl
      · cases h
theorem cCall0_ok (x : Ctx X Γ W P Φ k c) {n : Str} {p pos : Pos} {r : E} (h : cCall0 c n = some r) : PE X (.Call (.Name n p) [] [] pos) (gE Γ W (wE P Φ r)) := by
  unfold cCall0 at h
  split at h
  · rename_i hc
    rw [Bool.and_eq_true, Bool.not_eq_true'] at hc
    obtain ⟨hh, hc⟩ := hc
    simp only [Bool.and_eq_true] at hc
    split at h
    · rename_i f m hf
      split at h
      · rename_i em
        cases h
        obtain ⟨fa, fd, ps, f1, f2, f3, f4, f5⟩ := x.fns n f m hf
        exact sE_call0 x.tk f4 x.gd ((x.room hh).mono (by omega)) (glB_ok (by rw [x.sc]; exact hc.2)) f1 f2 f3 f5 (dbg_ok hc.1).1
      · cases h
    · split at h
      · rename_i d m hf
        split at h
        · rename_i em
          cases h
          obtain ⟨C, fa, fd, ps, f, f1, f2, f3, f4, f5, f6, f7⟩ := x.cls n d m hf
          exact sE_make0 x.tk f3 f1 f4 f6 x.gd (x.room hh) (glB_ok (by rw [x.sc]; exact hc.2)) f2 f5 f7 (dbg_ok hc.1).1
        · cases h
      · cases h
  · cases h
end
end KN

set_option autoImplicit false
set_option linter.all false
/-! Kern, part 13: the IR of an expression means what the expression does -/
namespace KN
open PySem PySem.Spec PyProof.Rows
open L2 (PE PT PW PA PS PSs OpR CallR upd PI)

structure Snd (Γ : Nm) (P : PG) (Φ : Phi) (k n : Nat) : Prop where
  oE : ∀ {X : L2.Cx} {W : L2.WX} {c : CC}, Ctx X Γ W P Φ k c → ∀ {e : Expr} {e' : E}, cE n c e = some e' → PE X e (gE Γ W (wE P Φ e'))
  oBV : ∀ {X : L2.Cx} {W : L2.WX} {c : CC}, Ctx X Γ W P Φ k c → ∀ {op : BoolOp} {es : List Expr} {pos : Pos} {e' : E}, cBV n c op es = some e' → PE X (.BoolOp op es pos) (gE Γ W (wE P Φ e'))
  oA : ∀ {X : L2.Cx} {W : L2.WX} {c : CC}, Ctx X Γ W P Φ k c → ∀ {es : List Expr} {e' : E}, cA n c es = some e' → PA X es (gA Γ W (wA P Φ e')) ∧ ∀ y ∈ es, notStar y = true
  oD : ∀ {X : L2.Cx} {W : L2.WX} {c : CC}, Ctx X Γ W P Φ k c → ∀ {ks : List (Option Expr)} {vs : List Expr} {kys : List Ky} {e' : E}, cD n c ks vs = some (kys, e') → DPs X Γ W P Φ ks vs kys e'
  oSp : ∀ {X : L2.Cx} {W : L2.WX} {c : CC}, Ctx X Γ W P Φ k c → ∀ {y : Str} {q pos : Pos} {es : List Expr} {e' : E}, cSp n c y es = some e' → PE X (.Call (.Name y q) es [] pos) (gE Γ W (wE P Φ e'))
  oP : ∀ {X : L2.Cx} {W : L2.WX} {c : CC}, Ctx X Γ W P Φ k c → ∀ {e : Option Expr} {e' : E}, cP n c e = some e' → L2.PO X e (gP Γ W (wP P Φ e'))
  oT : ∀ {X : L2.Cx} {W : L2.WX} {c : CC}, Ctx X Γ W P Φ k c → ∀ {e : Expr} {e' : E}, cT n c e = some e' → PT X e (gT Γ W (wT P Φ e'))
  oBT : ∀ {X : L2.Cx} {W : L2.WX} {c : CC}, Ctx X Γ W P Φ k c → ∀ {op : BoolOp} {es : List Expr} {pos : Pos} {e' : E}, cBT n c op es = some e' → PW X (.BoolOp op es pos) (gT Γ W (wT P Φ e'))
  oTs : ∀ {X : L2.Cx} {W : L2.WX} {c : CC}, Ctx X Γ W P Φ k c → ∀ {es : List Expr} {e' : E}, cTs n c es = some e' → L2.PTs X es (gT Γ W (wT P Φ e'))
  oI : ∀ {X : L2.Cx} {W : L2.WX} {c : CC}, Ctx X Γ W P Φ k c → ∀ {tg e : Expr} {e' : E}, cI n c tg e = some e' → PI X tg e (gI Γ W (wI P Φ e'))
  oG : ∀ {X : L2.Cx} {W : L2.WX} {c : CC}, Ctx X Γ W P Φ k c → ∀ {e : Expr} {e' : E}, cG n c e = some e' → L2.PG X e (gG Γ W (gsl e') (wG P Φ e'))
  oGs : ∀ {X : L2.Cx} {W : L2.WX} {c : CC}, Ctx X Γ W P Φ k c → ∀ {es : List Expr} {e' : E}, cGs n c es = some e' → L2.PGs X es (gGs Γ W (gsl e') (wGs P Φ e'))

section
variable {Γ : Nm} {P : PG} {Φ : Phi} {k n : Nat}

theorem plain_few {pos : Pos} {env : Env} : ∀ {es : List Expr}, (∀ y ∈ es, notStar y = true) → (backTo pos (starEach es env)).any (·.1) = false
  | [], _ => rfl
  | e :: es, h => by
    rw [star_ok (h e (by simp))]
    have := plain_few (pos := pos) (env := env) (es := es) fun z hz => h z (List.mem_cons_of_mem _ hz)
    cases es with
    | nil => rfl
    | cons w ws => exact this
theorem all_few {pos : Pos} {env : Env} : ∀ {es : List Expr}, (∀ y ∈ es, notStar y = true) → (backTo pos (starEach es env)).all (fun x => !x.1) = true
  | [], _ => rfl
  | e :: es, h => by
    rw [star_ok (h e (by simp))]
    have := all_few (pos := pos) (env := env) (es := es) fun z hz => h z (List.mem_cons_of_mem _ hz)
    cases es with
    | nil => rfl
    | cons w ws => exact this
theorem few_ok {pos : Pos} {env : Env} {es : List Expr} (h : ∀ y ∈ es, notStar y = true) (hl : es.length < 20) : ((backTo pos (starEach es env)).all (fun x => !x.1) && (backToKw pos (keywordEach [] env)).all (fun x => x.1.isSome)
      && decide (es.length + ([] : List Keyword).length + (if ([] : List Keyword).isEmpty then 0 else 1) < 30)) = true := by
  rw [all_few h]
  simp [keywordEach, backToKw]
  omega
theorem snd_zero : Snd Γ P Φ k 0 := by
  constructor
  all_goals (intros; rename_i h; simp [cE, cSp, cBV, cA, cD, cP, cT, cBT, cTs, cI, cG, cGs] at h)

section
variable {X : L2.Cx} {W : L2.WX} {c : CC} (ih : Snd Γ P Φ k n) (x : Ctx X Γ W P Φ k c)
include ih x
theorem snd_BV {op : BoolOp} {es : List Expr} {pos : Pos} {e' : E} (h : cBV (n + 1) c op es = some e') : PE X (.BoolOp op es pos) (gE Γ W (wE P Φ e')) := by
  unfold cBV at h
  split at h
  · cases h
  · exact L2.pe_one (ih.oE x h)
  · rename_i a es' hne
    split at h <;> first | (cases h; done) | skip
    · rename_i a' r' h1 h2
      cases h
      cases es' with
      | nil => exact absurd rfl (hne)
      | cons b bs => exact sE_and (ih.oE x h1) (ih.oBV x h2)
    · rename_i a' r' h1 h2
      cases es' with
      | nil => exact absurd rfl (hne)
      | cons b bs =>
        split at h
        · cases h
          exact sE_orv x.K (ih.oE x h1) (ih.oBV x h2)
        · cases h
          exact sE_or (ih.oE x h1) (ih.oBV x h2)
theorem snd_BT {op : BoolOp} {es : List Expr} {pos : Pos} {e' : E} (h : cBT (n + 1) c op es = some e') : PW X (.BoolOp op es pos) (gT Γ W (wT P Φ e')) := by
  unfold cBT at h
  split at h
  · cases h
  · cases op
    · exact L2.pw_and1 (ih.oT x h)
    · exact L2.pw_or1 (ih.oT x h)
  · rename_i a es' hne
    split at h <;> first | (cases h; done) | skip
    · rename_i a' r' h1 h2
      cases h
      cases es' with
      | nil => exact absurd rfl (hne)
      | cons b bs => exact sW_and (ih.oT x h1) (ih.oBT x h2)
    · rename_i a' r' h1 h2
      cases h
      cases es' with
      | nil => exact absurd rfl (hne)
      | cons b bs => exact sW_or (ih.oT x h1) (ih.oBT x h2)
theorem snd_Sp {y : Str} {q pos : Pos} {es : List Expr} {e' : E} (h : cSp (n + 1) c y es = some e') : PE X (.Call (.Name y q) es [] pos) (gE Γ W (wE P Φ e')) := by
  unfold cSp at h
  split at h
  · rename_i hb
    simp only [Bool.and_eq_true, decide_eq_true_eq] at hb
    obtain ⟨b1, rfl⟩ := hb
    obtain ⟨g1, g2, _, _⟩ := bltB_ok x b1
    split at h <;> try cases h
    split at h <;> try cases h
    rename_i h1 h2
    exact sE_strd x.gd x.hu x.K x.shw g1 g2 (ih.oE x h2) (star_ok h1 _ _)
  split at h <;> try cases h
  split at h
  · rename_i hb
    simp only [Bool.and_eq_true, decide_eq_true_eq, Bool.not_eq_true'] at hb
    obtain ⟨hh, ⟨⟨b1, b2⟩, rfl⟩, rfl⟩ := hb
    obtain ⟨g1, g2, _, _⟩ := bltB_ok x b1
    obtain ⟨g3, g4, _, _⟩ := bltB_ok x b2
    split at h <;> try cases h
    · split at h <;> try cases h
      rename_i h1 h2
      exact sE_lrg1 (x.calm hh) g1 g2 g3 g4 (ih.oE x h2) (star_ok h1 _ _)
    · split at h <;> try cases h
      rename_i h1 h2 h3 h4
      exact sE_lrg2 (x.calm hh) g1 g2 g3 g4 (ih.oE x h3) (ih.oE x h4) (star_ok h1 _ _) (star_ok h2 _ _)
  · split at h
    · rename_i hb
      simp only [Bool.and_eq_true, decide_eq_true_eq, Bool.not_eq_true'] at hb
      obtain ⟨hh, ⟨⟨b1, b2⟩, rfl⟩, rfl⟩ := hb
      obtain ⟨g1, g2, _, _⟩ := bltB_ok x b1
      obtain ⟨g3, g4, _, _⟩ := bltB_ok x b2
      split at h <;> try cases h
      split at h <;> try cases h
      rename_i h1 h2
      exact sE_nset (x.calm hh) x.K g1 g2 g3 g4 (ih.oE x h2) (star_ok h1 _ _)
    · split at h <;> try cases h
      rename_i hb
      simp only [Bool.and_eq_true, decide_eq_true_eq, Bool.not_eq_true'] at hb
      obtain ⟨hh, ⟨⟨b1, b2⟩, rfl⟩, rfl⟩ := hb
      obtain ⟨g1, g2, _, _⟩ := bltB_ok x b1
      obtain ⟨g3, g4, _, _⟩ := bltB_ok x b2
      split at h <;> try cases h
      split at h <;> try cases h
      rename_i h1 h2
      exact sE_sset (x.calm hh) x.K g1 g2 g3 g4 (ih.oE x h2) (star_ok h1 _ _)
theorem snd_A {es : List Expr} {e' : E} (h : cA (n + 1) c es = some e') : PA X es (gA Γ W (wA P Φ e')) ∧ ∀ y ∈ es, notStar y = true := by
  unfold cA at h
  split at h
  · cases h; exact ⟨sA_nil, fun _ z => by simp at z⟩
  · split at h <;> try cases h
    rename_i e es h0 e1 es1 h1 h2 h3
    obtain ⟨a1, a2⟩ := ih.oA x h3
    refine ⟨sA_cons (ih.oE x h2) a1 (star_ok h1 _ _), fun y hy => ?_⟩
    rcases List.mem_cons.mp hy with rfl | hy
    · exact h1
    · exact a2 y hy
theorem snd_D {ks : List (Option Expr)} {vs : List Expr} {kys : List Ky} {e' : E} (h : cD (n + 1) c ks vs = some (kys, e')) : DPs X Γ W P Φ ks vs kys e' := by
  unfold cD at h
  split at h
  · cases h; exact .nil
  · split at h <;> try cases h
    rename_i h1 h2 h3
    exact .cons h1 (ih.oE x h2) (ih.oD x h3)
  · cases h
theorem snd_P {e : Option Expr} {e' : E} (h : cP (n + 1) c e = some e') : L2.PO X e (gP Γ W (wP P Φ e')) := by
  unfold cP at h
  split at h
  · cases h; exact sP_none
  · obtain ⟨e1, h1, rfl⟩ := Option.map_eq_some_iff.mp h
    exact sP_some (ih.oE x h1)
theorem snd_T {e : Expr} {e' : E} (h : cT (n + 1) c e = some e') : PT X e (gT Γ W (wT P Φ e')) := by
  unfold cT at h
  split at h
  · obtain ⟨e1, h1, rfl⟩ := Option.map_eq_some_iff.mp h
    exact sT_not (ih.oT x h1)
  · exact (ih.oBT x h).pt
  · split at h <;> try cases h
    exact sT_bl
  · split at h
    · split at h <;> try cases h
      rename_i h1 h2 h3 h4
      exact sT_cmp (cCmp_ok x h1) (ih.oE x h2) (ih.oE x h3) ((set_ok h4).1 _)
    · split at h <;> try cases h
      rename_i h1 h2 h3 h4 h5 h6
      exact sT_chain (cCmp_ok x h1) (cCmp_ok x h2) (ih.oE x h3) (ih.oE x h4) (ih.oE x h5) (last_ok h6)
    · split at h <;> try cases h
      rename_i h1 h2 h3 h4 h5 h6 h7 h8
      exact sT_chain3 (cCmp_ok x h1) (cCmp_ok x h2) (cCmp_ok x h3) (ih.oE x h4) (ih.oE x h5) (ih.oE x h6) (ih.oE x h7) (last_ok3 h8)
    · cases h
  · split at h <;> try cases h
    rename_i h1
    split at h <;> try cases h
    rename_i h2
    exact sT_any x.K (ih.oE x h1) (plain_hw h2) (plain_pos rfl _)
  · split at h <;> try cases h
    rename_i h1
    split at h <;> try cases h
    rename_i h2
    exact sT_any x.K (ih.oE x h1) (plain_hw h2) (plain_pos rfl _)
  · split at h <;> try cases h
    rename_i h1
    split at h <;> try cases h
    rename_i h2
    exact sT_any x.K (ih.oE x h1) (plain_hw h2) (plain_pos rfl _)
  · cases h
theorem snd_Ts {es : List Expr} {e' : E} (h : cTs (n + 1) c es = some e') : L2.PTs X es (gT Γ W (wT P Φ e')) := by
  unfold cTs at h
  split at h
  · cases h; exact sTs_nil
  · exact sTs_one (ih.oT x h)
  · cases h
theorem snd_Gs {es : List Expr} {e' : E} (h : cGs (n + 1) c es = some e') : L2.PGs X es (gGs Γ W (gsl e') (wGs P Φ e')) := by
  unfold cGs at h
  split at h
  · cases h; exact sGs_nil
  · split at h <;> try cases h
    rename_i h1 h2 h3
    exact sGs_cons (ih.oG x h2) (ih.oGs x h3) (assign_cons h1 _ _)
theorem assign_ix {a b : Expr} {pos : Pos} (h : notSlice b = true) (env : Env) : ∀ v, assign (.Subscript a b pos) env v = (do
      let ov ← holding [v] (eval a env)
      let iv ← holding [v, ov] (eval b env)
      standAt pos
      holding [v, ov, iv] (setItem ov iv v)
      release [v, ov, iv] []) := by
  intro v
  cases b <;> first | rfl | simp [notSlice] at h
theorem snd_G {e : Expr} {e' : E} (h : cG (n + 1) c e = some e') : L2.PG X e (gG Γ W (gsl e') (wG P Φ e')) := by
  unfold cG at h
  split at h
  · split at h <;> try cases h
    rename_i hl
    obtain ⟨i, h1, rfl⟩ := Option.map_eq_some_iff.mp h
    obtain ⟨l1, l2⟩ := loc_ok x hl
    exact sG_var x.nd (by rw [x.N]; exact ixOf_get h1) l1 l2
  · split at h
    · cases h
    rename_i hh
    have hh : c.hot = false := by simpa using hh
    obtain ⟨gs', h1, rfl⟩ := Option.map_eq_some_iff.mp h
    obtain ⟨l1, l2⟩ := cGs_len _ _ _ _ h1
    exact sG_tup x.K (x.calm hh) (ih.oGs x h1) (assign_len _ _) (assign_star _ l2) l1
  · split at h <;> try cases h
    rename_i h1 h2 h3
    exact sG_ix x.hu1 x.K (ih.oE x h2) (ih.oE x h3) (assign_ix ih x h1 _)
  · cases h

theorem snd_I {tg e : Expr} {e' : E} (h : cI (n + 1) c tg e = some e') : PI X tg e (gI Γ W (wI P Φ e')) := by
  have seq : ∀ {e : Expr} {e' : E}, (cE n c e).map E.iseq = some e' → PI X tg e (gI Γ W (wI P Φ e')) := by
    intro e e' h
    obtain ⟨e1, h1, rfl⟩ := Option.map_eq_some_iff.mp h
    exact sI_seq x.K (ih.oE x h1)
  unfold cI at h
  split at h
  · rename_i f es kws p
    split at h
    · split at h
      · rename_i nm q
        split at h
        · rename_i hc
          simp only [Bool.and_eq_true, decide_eq_true_eq] at hc
          obtain ⟨hb, rfl⟩ := hc
          obtain ⟨g1, g2, _, _⟩ := bltB_ok x hb
          split at h
          · split at h <;> try cases h
            rename_i h1 h2
            exact sI_rng1 g1 g2 (ih.oE x h2) (star_ok h1 _ _)
          · split at h <;> try cases h
            rename_i h1 h2 h3 h4
            exact sI_rng2 g1 g2 (ih.oE x h3) (ih.oE x h4) (star_ok h1 _ _) (star_ok h2 _ _)
          · cases h
        · split at h
          · rename_i hc
            simp only [Bool.and_eq_true, decide_eq_true_eq] at hc
            obtain ⟨hb, rfl⟩ := hc
            obtain ⟨g1, g2, _, _⟩ := bltB_ok x hb
            split at h
            · split at h
              · split at h <;> try cases h
                rename_i h1 h2 h3 h4
                exact sI_zip x.K g1 g2 (ih.oE x h3) (ih.oE x h4) (star_ok h1 _ _) (star_ok h2 _ _)
              · split at h <;> try cases h
                rename_i h1 h2 h3 h4 h5 h6
                exact sI_zip3 x.K g1 g2 (ih.oE x h4) (ih.oE x h5) (ih.oE x h6) (star_ok h1 _ _) (star_ok h2 _ _) (star_ok h3 _ _)
              · cases h
            · cases h
          · split at h
            · rename_i hc
              simp only [Bool.and_eq_true, decide_eq_true_eq] at hc
              obtain ⟨hb, rfl⟩ := hc
              obtain ⟨g1, g2, _, _⟩ := bltB_ok x hb
              split at h
              · split at h
                · split at h <;> try cases h
                  rename_i h1 h2
                  exact sI_enum g1 g2 (ih.oE x h2) (star_ok h1 _ _)
                · cases h
              · cases h
            · split at h
              · rename_i hc
                simp only [Bool.and_eq_true, decide_eq_true_eq] at hc
                obtain ⟨hb, rfl⟩ := hc
                obtain ⟨g1, g2, _, _⟩ := bltB_ok x hb
                split at h
                · split at h <;> try cases h
                  rename_i h1 h2
                  exact sI_rev g1 g2 (ih.oE x h2) (star_ok h1 _ _)
                · cases h
              · exact seq h
      · exact seq h
    · cases h
  · exact seq h
theorem all_hw {gs : List Nat} {own : List (Str × Nat)} (h : (gs.all fun j => (own.map (·.2)).contains j) = true) : ∀ j ∈ gs, j ∈ own.map (·.2) := by
  simpa using h
theorem snd_E {e : Expr} {e' : E} (h : cE (n + 1) c e = some e') : PE X e (gE Γ W (wE P Φ e')) := by
  unfold cE at h
  split at h
  · exact cName_ok x h
  · exact cConst_ok h
  · split at h <;> try cases h
    rename_i h1 h2 h3
    exact sE_bin (cBin_ok x h1) (ih.oE x h2) (ih.oE x h3)
  · split at h <;> try cases h
    · obtain ⟨e1, h1, rfl⟩ := Option.map_eq_some_iff.mp h
      exact sE_neg (ih.oE x h1)
    · obtain ⟨e1, h1, rfl⟩ := Option.map_eq_some_iff.mp h
      exact sE_notv x.K (ih.oE x h1)
  · exact ih.oBV x h
  · split at h <;> try cases h
    rename_i h1 h2 h3
    exact sE_ite (ih.oT x h1) (ih.oE x h2) (ih.oE x h3)
  · split at h
    · split at h <;> try cases h
      rename_i h1 h2 h3 h4
      exact sE_cmp (cCmp_ok x h1) (ih.oE x h2) (ih.oE x h3) ((set_ok h4).1 _)
    · split at h <;> try cases h
      rename_i h1 h2 h3 h4 h5 h6
      exact sE_chain (cCmp_ok x h1) (cCmp_ok x h2) (ih.oE x h3) (ih.oE x h4) (ih.oE x h5) (last_ok h6)
    · split at h <;> try cases h
      rename_i h1 h2 h3 h4 h5 h6 h7 h8
      exact sE_chain3 (cCmp_ok x h1) (cCmp_ok x h2) (cCmp_ok x h3) (ih.oE x h4) (ih.oE x h5) (ih.oE x h6) (ih.oE x h7) (last_ok3 h8)
    · cases h
  · obtain ⟨e1, h1, rfl⟩ := Option.map_eq_some_iff.mp h
    exact sE_tup (ih.oA x h1).1
  · obtain ⟨e1, h1, rfl⟩ := Option.map_eq_some_iff.mp h
    exact sE_lst (ih.oA x h1).1
  · split at h
    · rename_i h1
      split at h
      · rename_i p h2
        cases h
        exact sE_dct (ih.oD x h2) (by rintro rfl; simp at h1) h1.1
      · split at h
        · split at h <;> try cases h
          rename_i h3 h4
          exact sE_dctT x.hu1 x.K (ih.oE x h3) (ih.oE x h4)
        · cases h
    · split at h <;> cases h
      exact sE_dct0
  · split at h
    · split at h
      · split at h <;> try cases h
        rename_i h1 h2 h3
        exact sE_slc x.K (ih.oE x h1) (ih.oP x h2) (ih.oP x h3)
      · split at h <;> try cases h
        rename_i h0 h1
        obtain ⟨_, _, _, rfl⟩ := isM1_ok h0
        exact sE_rev x.K (ih.oE x h1)
    · rename_i hne
      split at h <;> try cases h
      rename_i h1 h2
      exact sE_ix (iIx x.hu1 x.K x.par) (ih.oE x h1) (ih.oE x h2) (slice_ok fun a b c d z => hne a b c d z)
  · rename_i f es kws p
    split at h
    · split at h
      · rename_i nm q
        split at h
        · rename_i hsp
          cases h
          exact ih.oSp x hsp
        split at h
        · rename_i hn
          subst hn
          split at h <;> try cases h
          rename_i hb
          obtain ⟨g1, g2, _, _⟩ := bltB_ok x hb
          split at h <;> try cases h
          split at h <;> try cases h
          rename_i a b h1 a' h2 h3
          split at h
          · split at h <;> try cases h
            rename_i ks h4
            split at h <;> try cases h
            rename_i h5
            obtain ⟨cvs, k1, k2⟩ := cKds_ok x h4
            exact sE_isaT x.K g1 g2 k1 (by rintro rfl; simp at h5) h5.1 (ih.oE x h3) k2 (star_ok h2 _ _)
            split at h <;> try cases h
            rename_i ks h4 _ _ h6
            split at h <;> try cases h
            rename_i h5
            obtain ⟨cvs, k1, k2, k4⟩ := cKdsX_ok x h6
            exact sE_isaXT g1 g2 (fun d C hC => (x.exc d C hC).1) k1 k4 (by rintro rfl; simp at h5) h5.1 (ih.oE x h3) k2 (star_ok h2 _ _)
          · split at h
            · rename_i kd h4
              cases h
              obtain ⟨cv, k1, k2, k3, k4⟩ := cKd_ok x h4
              exact sE_isa1 k4 x.K g1 g2 k1 (ih.oE x h3) k2 (star_ok h2 _ _) (star_ok k3 _ _)
            · obtain ⟨kd, h4, rfl⟩ := Option.map_eq_some_iff.mp h
              obtain ⟨cv, k1, k2, k3⟩ := cKdX_ok x h4
              exact sE_isaX g1 g2 k1 (ih.oE x h3) k2 (star_ok h2 _ _) (star_ok k3 _ _)
        · split at h
          · rename_i he
            cases es with
            | nil => exact cCall0_ok x h
            | cons y ys => simp at he
          rename_i hn hne
          split at h <;> try cases h
          rename_i es' h1
          cases es with
          | nil => exact absurd rfl hne
          | cons y ys =>
            obtain ⟨a1, a2⟩ := ih.oA x h1
            exact cCall_ok x h a1 (a2 y (by simp)) fun z hz => a2 z (by simp [hz])
      · rename_i o m ap
        split at h
        · rename_i r hr
          split at h <;> try cases h
          rename_i hline
          unfold cSplit at hr
          split at hr <;> try cases hr
          split at hr <;> try cases hr
          rename_i hc
          simp only [Bool.and_eq_true, decide_eq_true_eq, Bool.not_eq_true'] at hc
          obtain ⟨rfl, hc1, hc2, hc3⟩ := hc
          exact sE_split hc1 hc2 hc3 hline
        split at h <;> try cases h
        rename_i o' es' h1 h3
        split at h <;> try cases h
        rename_i h4
        simp only [Bool.and_eq_true, decide_eq_true_eq] at h4
        obtain ⟨⟨h4, h5⟩, h6⟩ := h4
        obtain ⟨a1, a2⟩ := ih.oA x h3
        have nil' : es = [] → es' = .nil := by
          rintro rfl
          cases n with
          | zero => simp [cA] at h3
          | succ n => simp [cA] at h3; exact h3.symm
        split at h
        · rename_i m' h2
          cases h
          cases es with
          | nil =>
            obtain rfl := nil' rfl
            exact sE_mt0 x.K (mtTab_ok x h2) (ih.oE x h1) (super_ok h4 _ _) h5
          | cons y ys => exact sE_mt x.K (mtTab_ok x h2) (ih.oE x h1) a1 (super_ok h4 _ _) (few_ok (fun z hz => a2 z hz) h6) h5 (star_ok (a2 y (by simp)) _ _) (plain_few fun z hz => a2 z (by simp [hz]))
        · unfold cMet at h
          split at h <;> try cases h
          rename_i i j hm
          split at h <;> try cases h
          rename_i ej
          simp only [Bool.and_eq_true, decide_eq_true_eq, Bool.not_eq_true'] at ej
          obtain ⟨hh, ej⟩ := ej
          obtain ⟨d, f, fa, fd, ps, f1, f2, f3, f4⟩ := x.met _ _ _ hm
          refine sE_meth x.tk f1 f3 x.gd ((x.room hh).mono (by omega)) f2 f4 (ih.oE x h1) a1 (super_ok h4 _ _) (few_ok (fun z hz => a2 z hz) h6) h5 ?_
          cases es with
          | nil => exact .inl ⟨rfl, nil' rfl⟩
          | cons y ys => exact .inr ⟨y, ys, rfl, star_ok (a2 y (by simp)) _ _, plain_few fun z hz => a2 z (by simp [hz])⟩
      · cases h
    · split at h <;> try cases h
      rename_i nm d kp xn p2 a
      split at h <;> try cases h
      rename_i hb
      simp only [Bool.and_eq_true, decide_eq_true_eq, Bool.not_eq_true'] at hb
      obtain ⟨hh, b1, rfl⟩ := hb
      obtain ⟨g1, g2, g3, g4⟩ := bltB_ok x b1
      split at h <;> try cases h
      rename_i a' d' h1 h2 h3
      split at h
      · rename_i ex
        subst ex
        cases h
        exact sE_maxd (x.calm hh) x.hu65 x.K g1 g2 g4 g3 (ih.oE x h2) (ih.oE x h3) (star_ok h1 _ _) (star_back h1) (plain_back h1)
      · split at h <;> try cases h
        rename_i ex
        subst ex
        exact sE_mind (x.calm hh) x.hu65 x.K g1 g2 g4 g3 (ih.oE x h2) (ih.oE x h3) (star_ok h1 _ _) (star_back h1) (plain_back h1)
  · split at h <;> try cases h
    rename_i h1 h2 h3
    exact sE_attr x.fi (x.att _ _ h2) (ih.oE x h1) (super_ok h3 _ _)
  · split at h <;> try cases h
    split at h <;> try cases h
    split at h <;> try cases h
    rename_i own it' g' t' elt' h1 h2 h3 h4 h5
    split at h <;> try cases h
    rename_i h6
    rw [Bool.and_eq_true, Bool.not_eq_true'] at h6
    obtain ⟨hh, h6⟩ := h6
    simp only [Bool.and_eq_true] at h6
    obtain ⟨⟨h6, h7⟩, h8⟩ := h6
    have ok := L2.blkOk_by h6
    have hk := ok.kind
    refine PE.mono (L2.pe_lc (x.calm hh) x.nd (ih.oI x h2) (by rw [x.N, x.sc]; exact ok) (fun s H C cl fp => ih.oG (x.blk s H _ C cl fp hk) h3) (fun s H C cl fp => ih.oTs (x.blk s H _ C cl fp hk) h4) (fun s H C cl fp => ih.oE (x.blk s H _ C cl fp hk) h5) ((set_ok h7).2 _)) ?_
    exact lc_read (all_hw ih x h8)
  · cases h
end
theorem snd : ∀ n, Snd Γ P Φ k n
  | 0 => snd_zero
  | n + 1 => by
    have ih := snd n
    exact ⟨fun x => snd_E ih x, fun x => snd_BV ih x, fun x => snd_A ih x, fun x => snd_D ih x, fun x => snd_Sp ih x, fun x => snd_P ih x, fun x => snd_T ih x, fun x => snd_BT ih x, fun x => snd_Ts ih x, fun x => snd_I ih x, fun x => snd_G ih x, fun x => snd_Gs ih x⟩
end
end KN

set_option autoImplicit false
set_option linter.all false
/-! Kern, part 14: the IR of statements -/
namespace KN
open PySem PySem.Spec PyProof.Rows
open L2 (PE PT PW PA PS PSs OpR CallR upd PI)

theorem swp_ok {ts vs : List Expr} {kt k2 : Nat} {pt pt2 : Pos} {env : Env} {r : Option (List Str)} (hk : env.scope.kind = .function) (h : swp env.kindOf ts vs = some r) : swappedStores [.Tuple ts kt pt] (.Tuple vs k2 pt2) env = pure r := by
  have hb : (env.blockKind != .function) = false := by unfold Env.blockKind; rw [hk]; rfl
  unfold swp at h
  unfold swappedStores
  simp only [hb, Bool.or_false]
  by_cases c1 : (!(ts.length == 2 || ts.length == 3) || vs.length != ts.length) = true
  · rw [if_pos c1] at h ⊢; cases h; rfl
  · rw [if_neg c1] at h ⊢
    split at h
    · rename_i c2
      cases h
      exact if_pos c2
    · rename_i c2
      refine (if_neg c2).trans ?_
      dsimp only at h
      split at h
      · rename_i c3
        cases h
        exact if_pos c3
      · rename_i c3
        refine (if_neg c3).trans ?_
        split at h
        · rename_i c4
          cases h
          exact if_pos c4
        · rename_i c4
          refine (if_neg c4).trans ?_
          split at h
          · cases h
          · rename_i c5
            cases h
            exact if_neg c5
theorem sw_notLc {e : Expr} (h : notLc e = true) (t : Option Expr) (l : Nat) (env : Env) : swapsWith e t l env = pure false := by
  cases e <;> first | rfl | simp [notLc] at h
theorem sw_tgt {e tg : Expr} (h : ∀ x p, tg ≠ .Name x p) (l : Nat) (env : Env) : swapsWithSole [tg] e l env = pure false := by
  cases tg <;> first | exact absurd rfl (h _ _) | (cases e <;> rfl)
theorem swapped_tgt {e tg : Expr} {env : Env} (h : ∀ ts k p vs k2 p2, tg = .Tuple ts k p → e ≠ .Tuple vs k2 p2) (hl : ∀ ts p, tg ≠ .List ts p) : swappedStores [tg] e env = pure none := by
  cases tg <;> first | rfl | exact absurd rfl (hl _ _) | skip
  cases e <;> first | rfl | exact absurd rfl (h _ _ _ _ _ _ rfl)
theorem sw_false {elt : Expr} {gs : List Comprehension} {scope : Scope} {lp py : Pos} {y : Str} {l : Nat} {env : Env} {c : CC} (hc : env.scope = c.sc) (hk : env.scope.kind = .function) (h : lcIn c y py (.ListComp elt gs scope lp) = false) : swapsWith (.ListComp elt gs scope lp) (some (.Name y py)) l env = pure false := by
  have hb : env.blockKind = .function := by unfold Env.blockKind; rw [hk]; rfl
  unfold swapsWith
  unfold lcIn at h
  simp only [hb, Env.kindOf, hc, Expr.pos] at h ⊢
  have h2 : ((ScopeKind.function == ScopeKind.function) && c.sc.names.lookup y == some NameKind.local && py.line == lp.line && !(scope.names.any fun (n, k) => n == y && (k == .local || k == .cell))) = false := by
    simpa using h
  rw [h2]

section
variable {Γ : Nm} {P : PG} {Φ : Phi} {k : Nat} {X : L2.Cx} {W : L2.WX} {c : CC} (x : Ctx X Γ W P Φ k c) (hp : PassesOwn (model X.prog X.w) X.A X.env X.xe)
include x
theorem kd : X.env.scope.kind = .function := by rw [x.sc]; exact x.kind
theorem kfe : X.env.kindOf = fun y => c.sc.names.lookup y := by unfold Env.kindOf; rw [x.sc]
theorem cSet_ok {n : Str} {px pos : Pos} {i : Nat} {e : Expr} {e' : E} {r : S} (hl : locB c n = true) (hi : ixOf c.N n = some i) (he : cE 60 c e = some e') (h : cSet c n px i e e' = some r) : PS X (.Assign [.Name n px] e pos) (gS Γ W (wS P Φ r)) := by
  obtain ⟨l1, l2⟩ := loc_ok x hl
  have hi' : X.N[i]? = some n := by rw [x.N]; exact ixOf_get hi
  unfold cSet at h
  split at h
  · rename_i hin
    split at h <;> try cases h
    split at h <;> try cases h
    split at h <;> try cases h
    split at h <;> try cases h
    rename_i own it' g' t' elt' h2 h1 h3 h4 h5
    split at h <;> try cases h
    rename_i h6
    rw [Bool.and_eq_true, Bool.not_eq_true'] at h6
    obtain ⟨hh, h6⟩ := h6
    simp only [Bool.and_eq_true] at h6
    obtain ⟨⟨h6, h7⟩, h8⟩ := h6
    have ok := L2.blkOk_by h6
    have hk := ok.kind
    unfold lcIn at hin
    simp only [Bool.and_eq_true, Bool.not_eq_true', beq_iff_eq] at hin
    obtain ⟨⟨n1, n2⟩, n3⟩ := hin
    have ih := snd (Γ := Γ) (P := P) (Φ := Φ) (k := k) 60
    have hloc : X.env.scope.names.lookup n = some .local := by rw [x.sc]; exact n1
    refine PS.mono (L2.ps_setLc (x.calm hh) x.nd hi' hloc (L2.sw_true (kd x) hloc (by simpa using n2) n3) (ih.oI x h1) (by rw [x.N, x.sc]; exact ok) (fun s H C cl fp => ih.oG (x.blk s H _ C cl fp hk) h3) (fun s H C cl fp => ih.oTs (x.blk s H _ C cl fp hk) h4) (fun s H C cl fp => ih.oE (x.blk s H _ C cl fp hk) h5) ((set_ok h7).2 _)) ?_
    rintro D τ H ⟨σ, h, N, R, B, C, X', rs, rh, w, kn, kr, kb, kc, kx⟩
    refine lc_read (by simpa using h8) τ H _ ⟨σ, h, _, X', rs, rh, w, ?_, kx⟩
    intro v h1 x H1 rv rh1 s1 q1
    exact kn _ h1 _ H1 ((rs.mono s1.xt).set rv i) rh1 s1 q1
  · rename_i hin
    split at h <;> try cases h
    rename_i hpl
    refine sS_set x.nd hi' l1 ((snd 60).oE x he) ?_ l2
    by_cases hn : notLc e = true
    · exact sw_notLc hn _ _ _
    · cases e <;> first | (simp [notLc] at hn; done) | (simp [plainLc] at hpl; done) | exact sw_false x.sc (kd x) (by simpa using hin)
theorem cPar_ok {ns : List Str} {ts vs : List Expr} {kt k2 : Nat} {pt pt2 pos : Pos} {es' : E} {r : S} (hw : swp X.env.kindOf ts vs = some (some ns)) (ha : PA X vs (gA Γ W (wA P Φ es'))) (h : cPar c ns ts vs es' = some r) : PS X (.Assign [.Tuple ts kt pt] (.Tuple vs k2 pt2) pos) (gS Γ W (wS P Φ r)) := by
  unfold cPar at h
  split at h
  · cases h
  rename_i hh
  have hh : c.hot = false := by simpa using hh
  split at h
  · split at h <;> try cases h
    rename_i h1 h2
    split at h <;> try cases h
    rename_i h3
    simp only [Bool.and_eq_true, beq_iff_eq, bne_iff_ne] at h3
    obtain ⟨⟨⟨h3, h4⟩, h5⟩, rfl⟩ := h3
    exact sS_par (x.calm hh) x.nd (by rw [x.N]; exact ixOf_get h1) (by rw [x.N]; exact ixOf_get h2) h3 (by rw [x.sc]; exact h4) (by rw [x.sc]; exact h5) ha (swp_ok (kd x) hw) rfl
  · split at h <;> try cases h
    rename_i h1 h2 h0
    split at h <;> try cases h
    rename_i h3
    simp only [Bool.and_eq_true, beq_iff_eq, bne_iff_ne] at h3
    obtain ⟨⟨⟨⟨⟨⟨h3, h4⟩, h5⟩, h6⟩, h7⟩, h8⟩, rfl⟩ := h3
    exact sS_par3 (x.calm hh) x.nd (by rw [x.N]; exact ixOf_get h1) (by rw [x.N]; exact ixOf_get h2) (by rw [x.N]; exact ixOf_get h0) h3 h4 h5 (by rw [x.sc]; exact h6) (by rw [x.sc]; exact h7) (by rw [x.sc]; exact h8) ha (swp_ok (kd x) hw) rfl
  · cases h
omit x
theorem Ctx.tr {X : L2.Cx} {W W' : L2.WX} {c : CC} (x : Ctx X Γ W P Φ k c) (pn : List (Addr × Obj)) (xe : Value → Shared → Prop) (tk : L2.Takes (X.tr pn xe) W') : Ctx (X.tr pn xe) Γ W' P Φ k c :=
  { N := x.N, sc := x.sc, nd := x.nd, calm := x.calm, room := x.room, rm := x.rm, hts := x.hts, gd := x.gd, shw := x.shw, K := x.K, par := x.par, tk := tk, fn := x.fn, kind := x.kind, bl := x.bl, glb := x.glb, fns := x.fns, fi := x.fi, exs := x.exs, exc := x.exc, att := fun y f e => let z := x.att y f e; ⟨z.1, z.2⟩, cls := x.cls, fnv := x.fnv, met := fun y m n e => by obtain ⟨d, f, fa, fd, ps, ⟨a1, a2, a3⟩, r⟩ := x.met y m n e; exact ⟨d, f, fa, fd, ps, ⟨a1, a2, a3⟩, r⟩ }
theorem Ctx.suite {X : L2.Cx} {W : L2.WX} {c : CC} (x : Ctx X Γ W P Φ k c) (a : Addr) (pn : List (Addr × Obj)) : Ctx (X.suite a pn) Γ W0 P Φ k (hotCC c) :=
  { N := x.N, sc := x.sc, nd := x.nd, calm := fun z => (by cases z), room := fun z => (by cases z), rm := ⟨x.rm.dp, x.rm.un⟩, hts := x.hts, gd := x.gd, shw := x.shw, K := x.K, par := x.par, tk := takesW0, fn := x.fn, kind := x.kind, bl := x.bl, glb := x.glb, fns := x.fns, fi := x.fi, exs := x.exs, exc := x.exc, att := fun y f e => let z := x.att y f e; ⟨z.1, z.2⟩, cls := x.cls, fnv := x.fnv, met := fun y m n e => by obtain ⟨d, f, fa, fd, ps, ⟨a1, a2, a3⟩, r⟩ := x.met y m n e; exact ⟨d, f, fa, fd, ps, ⟨a1, a2, a3⟩, r⟩ }
theorem aug_store {b : Expr} (h : notSlice b = true) : ∀ ov iv new, augStore b ov iv new = (do holding [new, ov, iv] (setItem ov iv new); release [new, ov, iv] []; pure .next) := by
  intro ov iv new
  cases b <;> first | rfl | simp [notSlice] at h
theorem lockW_ok {X : L2.Cx} {W : L2.WX} {c : CC} {it : E} {s : S} {st : Stmt} (h : PS X st (gS Γ W (wS P Φ s))) : PS X st (gS Γ W (wS P Φ (lockW c it s))) := by
  unfold lockW
  split
  · split
    · exact sS_lock h
    · exact h
  · exact h
theorem sndS : ∀ (n : Nat) {X : L2.Cx} {W : L2.WX} {c : CC} (x : Ctx X Γ W P Φ k c) (hp : PassesOwn (model X.prog X.w) X.A X.env X.xe) (hst : X.stack = X.env :: X.outer ∧ X.env.frame = some X.env.locals ∧ X.ex = []), (∀ {s : Stmt} {s' : S}, cS n c s = some s' → PS X s (gS Γ W (wS P Φ s'))) ∧ (∀ {ss : List Stmt} {s' : S}, cSs n c ss = some s' → PSs X ss (gS Γ W (wS P Φ s')))
  | 0, X, W, c, x, hp, hst => by
    constructor <;> (intro _ _ h; simp [cS, cSs] at h)
  | n + 1, X, W, c, x, hp, hst => by
    obtain ⟨ih1, ih2⟩ := sndS n x hp hst
    have se := snd (Γ := Γ) (P := P) (Φ := Φ) (k := k) 60
    constructor
    · intro s s' h
      unfold cS at h
      split at h
      · split at h <;> try cases h
        split at h <;> try cases h
        rename_i e' he
        split at h
        · split at h <;> try cases h
          rename_i hl
          split at h <;> try cases h
          rename_i hi
          exact cSet_ok x hl hi he h
        · split at h
          · split at h <;> try cases h
            · rename_i hw
              rw [← kfe x] at hw
              split at h <;> try cases h
              rename_i hg
              exact sS_asg (se.oE x he) (se.oG x hg) (sw_tgt (by intro _ _ z; cases z) _ _) (swp_ok (kd x) hw) rfl
            · rename_i hw
              rw [← kfe x] at hw
              split at h <;> try cases h
              rename_i ha
              exact cPar_ok x hw (se.oA x ha).1 h
          · rename_i hne
            split at h <;> try cases h
            rename_i hg
            split at h <;> try cases h
            exact sS_asg (se.oE x he) (se.oG x hg) (sw_tgt (by intro _ _ z; cases z) _ _) (swapped_tgt (fun ts k p vs k2 p2 _ => hne vs k2 p2) (by intro _ _ z; cases z)) rfl
        · split at h <;> try cases h
          rename_i h1 h2
          split at h <;> try cases h
          rename_i hl
          exact sS_fld x.fi (x.att _ _ h2) (se.oE x h1) (se.oE x he) (sw_notLc hl _ _ _)
        · rename_i hn1 hn2 hn3
          split at h <;> try cases h
          rename_i hg
          split at h <;> try cases h
          rename_i hl
          refine sS_asg (se.oE x he) (se.oG x hg) (sw_notLc hl _ _ _) (swapped_tgt (fun ts k p vs k2 p2 z => absurd z (hn2 ts k p)) ?_) ?_
          · rintro ts p rfl
            simp [cG] at hg
          · unfold cG at hg
            split at hg <;> first | rfl | (cases hg; done)
      · split at h <;> try cases h
        rename_i he
        split at h <;> try cases h
        rename_i hl
        exact sS_expr (se.oE x he) (sw_notLc hl _ _ _)
      · split at h
        · cases h; exact sS_retN
        · obtain ⟨e1, h1, rfl⟩ := Option.map_eq_some_iff.mp h
          exact sS_ret (se.oE x h1)
      · split at h <;> try cases h
        rename_i h1 h2 h3
        exact sS_if (se.oT x h1) (ih2 h2) (ih2 h3)
      · split at h <;> try cases h
        rename_i h1 h2
        exact sS_while hp (se.oT x h1) (ih2 h2)
      · split at h <;> try cases h
        rename_i h1 h2 h3
        split at h <;> try cases h
        rename_i h4
        rw [Bool.and_eq_true, Bool.not_eq_true'] at h4
        obtain ⟨hh, h4⟩ := h4
        exact lockW_ok (sS_for hp (x.calm hh) (se.oI x h1) (se.oG x h2) (ih2 h3) ((set_ok h4).2 _))
      · cases h; exact sS_brk
      · cases h; exact sS_cnt
      · cases h; exact sS_pass
      · split at h
        · rename_i y p1 e p2 _
          split at h
          · rename_i d e' he1 he2
            split at h
            · rename_i hb
              cases h
              rw [Bool.and_eq_true, Bool.not_eq_true'] at hb
              obtain ⟨hh, hb⟩ := hb
              simp only [Bool.and_eq_true] at hb
              obtain ⟨C, h1, h2, h3, h4⟩ := x.exs _ _ _ he1
              have hd := hb.1.1
              unfold dbgB at hd
              simp only [Bool.and_eq_true, Bool.not_eq_true'] at hd
              exact sS_rais (x.calm hh) x.tk h1 h2 (h3 rfl) (glB_ok (by rw [x.sc]; exact hb.1.2)) hd.1.1 (se.oE x he2) (star_ok hb.2 _ _)
            · cases h; exact sS_bad
          · cases h; exact sS_bad
        · cases h; exact sS_bad
      · split at h <;> try cases h
        · rename_i y np n1 z p1 n2 p2 p3 pos'
          split at h <;> try cases h
          rename_i d b i j b' he1 he2 he3 he4
          split at h <;> try cases h
          rename_i hb
          rw [Bool.and_eq_true, Bool.not_eq_true'] at hb
          obtain ⟨hh, hb⟩ := hb
          simp only [Bool.and_eq_true, decide_eq_true_eq, beq_iff_eq] at hb
          obtain ⟨⟨⟨⟨⟨hb1, hb2⟩, rfl⟩, hb3⟩, hb4⟩, hb5⟩ := hb
          obtain ⟨C, h1, h2, h3, h4⟩ := x.exs _ _ _ he1
          have hd := hb1
          unfold dbgB at hd
          simp only [Bool.and_eq_true, Bool.not_eq_true'] at hd
          have hd3 := hb3
          unfold dbgB at hd3
          simp only [Bool.and_eq_true, Bool.not_eq_true'] at hd3
          have hi : X.N[i]? = some n2 := by rw [x.N]; exact ixOf_get he2
          have hj : X.N[j]? = some z := by rw [x.N]; exact ixOf_get he3
          have hln : X.env.kindOf n2 = some .local := by rw [kfe x]; exact hb4
          obtain ⟨l1, l2⟩ := loc_ok x hb5
          refine sS_try hst.1 hst.2.1 hst.2.2 x.nd hi hln ⟨glB_ok (by rw [x.sc]; exact hb2), hd.1.1, .inl h2⟩ x.tk (fun c' D hD => (h4 _ _ hD).2) (fun W' pn xe tk hp' => (sndS n (x.tr pn xe tk) hp' hst).2 he4) (fun a oe pn => ?_)
          exact L2.pss_one (L2.ps_asg (L2.pe_var (X := X.suite a ((a, oe) :: pn)) hi (.inl hln) hd3.1.1 hd3.1.2) (L2.pg_name (X := X.suite a ((a, oe) :: pn)) x.nd hj l1 l2) rfl rfl rfl)
        · rename_i y np n1 b0 hs pos' hne
          split at h <;> try cases h
          rename_i d b i b' s1 he1 he2 he3 he4
          split at h <;> try cases h
          rename_i hb
          rw [Bool.and_eq_true, Bool.not_eq_true'] at hb
          obtain ⟨hh, hb⟩ := hb
          simp only [Bool.and_eq_true, beq_iff_eq] at hb
          obtain ⟨⟨⟨hb1, hb2⟩, hb3⟩, hb4⟩ := hb
          obtain ⟨C, h1, h2, h3, h4⟩ := x.exs _ _ _ he1
          have hd := hb1
          unfold dbgB at hd
          simp only [Bool.and_eq_true, Bool.not_eq_true'] at hd
          have hi : X.N[i]? = some n1 := by rw [x.N]; exact ixOf_get he2
          have hln : X.env.kindOf n1 = some .local := by rw [kfe x]; exact hb4
          exact sS_tryA hst.1 hst.2.1 hst.2.2 x.nd hi hln ⟨glB_ok (by rw [x.sc]; exact hb2), hd.1.1, .inl h2⟩ x.tk (fun c' D hD => (h4 _ _ hD).2) (fun W' pn xe tk hp' => (sndS n (x.tr pn xe tk) hp' hst).2 he3) fun a pn => (sndS n (x.suite a pn) PassesOwn.never hst).2 he4
        · rename_i y np b0 hs pos'
          split at h <;> try cases h
          rename_i d b b' s1 he1 he3 he4
          split at h <;> try cases h
          rename_i hb
          rw [Bool.and_eq_true, Bool.not_eq_true'] at hb
          obtain ⟨hh, hb⟩ := hb
          simp only [Bool.and_eq_true] at hb
          obtain ⟨hb1, hb2⟩ := hb
          obtain ⟨C, h1, h2, h3, h4⟩ := x.exs _ _ _ he1
          have hd := hb1
          unfold dbgB at hd
          simp only [Bool.and_eq_true, Bool.not_eq_true'] at hd
          exact sS_tryN hst.1 hst.2.1 hst.2.2 ⟨glB_ok (by rw [x.sc]; exact hb2), hd.1.1, .inl h2⟩ x.tk (fun c' D hD => (h4 _ _ hD).2) (fun W' pn xe tk hp' => (sndS n (x.tr pn xe tk) hp' hst).2 he3) fun a pn => (sndS n (x.suite a pn) PassesOwn.never hst).2 he4
      · split at h <;> try cases h
        split at h <;> try cases h
        rename_i h1 h2 h3
        split at h <;> try cases h
        rename_i h4
        obtain ⟨l1, l2⟩ := loc_ok x h4
        exact sS_aug x.nd (by rw [x.N]; exact ixOf_get h2) l1 (se.oE x h3) (cAug_ok h1) l2
        split at h <;> try cases h
        rename_i h1 h2 h3 h4 h5
        exact sS_augS x.hu1 x.K (se.oE x h3) (se.oE x h4) (se.oE x h5) (cAug_ok h1) (aug_store h2)
      · cases h
    · intro ss s' h
      unfold cSs at h
      split at h
      · cases h; exact sSs_nil
      · split at h <;> try cases h
        rename_i h1 h2
        exact sSs_cons (ih1 h1) (ih2 h2)
end
end KN

set_option autoImplicit false
set_option linter.all false
/-! Kern, part 15: a program -/
namespace KN
open PySem PySem.Spec PyProof.Rows
open L2 (PE PT PW PA PS PSs OpR CallR upd PI)

/-- a def of the text -/
structure FD where
  id : Nat
  /-- the name by which the module has it -/
  gn : Str
  name : Str
  qual : Str
  st : Stmt
  N : List Str
  ps : List Str
  fn : Fn
def FD.cc (T : Tab) (d : FD) : CC := ⟨d.N, L2.defScope d.st, fun x => (L2.defScope d.st).names.lookup x == some .cell, T, false⟩
def FD.ccH (T : Tab) (d : FD) : CC := { d.cc { T with hots := [] } with hot := true }
def scOk (N ps : List Str) (sc : Scope) : Bool := (match sc.kind with | .function => true | _ => false) && !sc.isCoroutine && !sc.isGenerator && decide N.Nodup && decide (N.take ps.length = ps) &&
  (ps.all fun x => match sc.names.lookup x with | some .local => true | some .cell => true | _ => false) && (sc.names.all fun y => match y.2 with | .free => false | _ => true)
theorem scOk_ok {N ps : List Str} {sc : Scope} (h : scOk N ps sc = true) : L2.FnScope N ps sc := by
  unfold scOk at h
  simp only [Bool.and_eq_true, Bool.not_eq_true', decide_eq_true_eq, List.all_eq_true] at h
  obtain ⟨⟨⟨⟨⟨⟨h1, h2⟩, h3⟩, h4⟩, h5⟩, h6⟩, h7⟩ := h
  refine ⟨?_, h2, h3, h4, h5, fun x hx => ?_, fun y hy e => ?_⟩
  · split at h1 <;> first | assumption | cases h1
  · have q := h6 x hx
    split at q <;> first | exact .inl (by assumption) | exact .inr (by assumption) | cases q
  · have q := h7 y hy
    rw [e] at q; cases q
/-- what is to be looked at in a def -/
def FD.chk (d : FD) : Bool := scOk d.N d.ps (L2.defScope d.st) && (d.fn.ar == d.ps.length) && (d.fn.n == d.N.length)
/-- how it stands behind the top -/
def FK (K : PySem.W.Frag) (d : FD) : Prop := ∃ (f : Addr) (fd : FuncData), L2.Fun K d.name d.qual d.st f fd ∧ PySem.W.nsIn K mainGlobals d.gn = some (some (.ref f))
theorem FK.mk {K : PySem.W.Frag} {d : FD} {f : Addr} {oc : Value} {od an : Option Addr} {osl : Array (Option Value)} {kV doc pm cdv ct : Value} (a : PySem.W.nsIn K mainGlobals d.gn = some (some (.ref f)))
    (l : K.lookup f = some ⟨oc, od, .func (PySem.W.fnOf d.name d.qual (L2.defArgs d.st) (L2.defBody d.st) (L2.defScope d.st) .none kV doc pm an cdv ct), osl⟩)
    (c : PySem.W.codeIn K cdv d.qual = true) (k : PySem.W.keepIn K (.ref f) = true) : FK K d := ⟨f, _, L2.fun_mk l c k, a⟩
/-- a method -/
def MK (K : PySem.W.Frag) (C : Addr) (d : FD) : Prop := ∃ (f : Addr) (fd : FuncData), L2.Fun K d.name d.qual d.st f fd ∧ PySem.W.findIn K (.ref C) d.name = some (some (.ref f)) ∧ PySem.W.isFn K (.ref f) = true
theorem MK.mk {K : PySem.W.Frag} {C : Addr} {d : FD} {f : Addr} {oc : Value} {od an : Option Addr} {osl : Array (Option Value)} {kV doc pm cdv ct : Value} (a : PySem.W.findIn K (.ref C) d.name = some (some (.ref f))) (i : PySem.W.isFn K (.ref f) = true)
    (l : K.lookup f = some ⟨oc, od, .func (PySem.W.fnOf d.name d.qual (L2.defArgs d.st) (L2.defBody d.st) (L2.defScope d.st) .none kV doc pm an cdv ct), osl⟩)
    (c : PySem.W.codeIn K cdv d.qual = true) (k : PySem.W.keepIn K (.ref f) = true) : MK K C d := ⟨f, _, L2.fun_mk l c k, a, i⟩
/-- a class -/
structure CK (K : PySem.W.Frag) (Γ : Nm) (c : Nat) (x : Str) (ini : FD) (ms : List FD) (ys : List Str) (C : Addr) : Prop where
  at_ : PySem.W.nsIn K mainGlobals x = some (some (.ref C))
  ca : Γ.ca c = some C
  cl : L2.Cls K C
  mks : PySem.W.makesIn K C = true
  kp : PySem.W.keepIn K (.ref C) = true
  ini : MK K C ini
  ms : ∀ d ∈ ms, MK K C d
  ys : ∀ y ∈ ys, L2.NoAttr K C y
/-- how its arguments bind -/
def FB (d : FD) : Prop := ∀ (kV doc pm : Value) (an : Option Addr) (cdv ct : Value) (us : List Value), us.length = d.ps.length → bindArgs (PySem.W.fnOf d.name d.qual (L2.defArgs d.st) (L2.defBody d.st) (L2.defScope d.st) .none kV doc pm an cdv ct) ⟨us, []⟩ = pure (d.ps.zip us)

structure Prg (K : PySem.W.Frag) (mg : Str → Option Value) (Γ : Nm) (P : PG) (T : Tab) (ds : List FD) : Prop where
  hK : Γ.K = K
  shw : P.shw = shwD
  bl : ∀ x, T.bl.contains x = true → mg x = none
  glb : ∀ x g, T.globs.lookup x = some g → ∃ v xv u, P.glob g = some v ∧ mg x = some u ∧ L2.RelV xv u ∧ ∀ H, RV Γ H v xv
  fns : ∀ x f n, T.fns.lookup x = some (f, n) → ∃ d ∈ ds, ∃ fa fd, L2.Fun K d.name d.qual d.st fa fd ∧ mg x = some (.ref fa) ∧ d.id = f ∧ d.ps.length = n
  fi : ∀ f g, Γ.fld f = Γ.fld g → f = g
  exs : ∀ x d b, T.exs.lookup x = some (d, b) → ∃ C, Γ.ea d = some C ∧ mg x = some (.ref C) ∧ (b = true → ExOk K C) ∧
    ∀ d' C', Γ.ea d' = some C' → PySem.W.kitOne K (.ref C') (.ref C) = some (P.sub d' d) ∧ PySem.W.exmOne K (.ref C') (.ref C) = some (P.sub d' d)
  exc : ∀ d C, Γ.ea d = some C → L2.ExcC K C ∧ PySem.W.kitOne K (.ref C) (.type "ValueError") = some true
  att : ∀ y f, T.flds.lookup y = some f → Γ.fld f = y ∧ ∀ c C, Γ.ca c = some C → L2.Cls K C ∧ L2.NoAttr K C y
  cls : ∀ x c n, T.cls.lookup x = some (c, n) → ∃ C fa fd, ∃ d ∈ ds, Γ.ca c = some C ∧ mg x = some (.ref C) ∧ L2.Mk K C fa ∧ P.init c = some d.id ∧ d.ps.length = n + 1 ∧ L2.Fun K d.name d.qual d.st fa fd
  fnv : ∀ f a, Γ.fa f = some a → ∃ d ∈ ds, ∃ fd, L2.Fun K d.name d.qual d.st a fd ∧ d.id = f
  met : ∀ y m n, T.mets.lookup y = some (m, n) → ∃ c fa fd, ∃ d ∈ ds, (∀ C, Γ.ca c = some C → L2.Cls K C ∧ L2.Meth K C y fa) ∧ (∀ f, Γ.fld f ≠ y) ∧ (∀ c' f', P.meth c' m = some f' → c' = c ∧ f' = d.id) ∧ d.ps.length = n + 1 ∧ L2.Fun K d.name d.qual d.st fa fd
  ok : ∀ d ∈ ds, FB d ∧ d.chk = true ∧ P.fns d.id = some d.fn ∧ cSs 60 (d.cc T) (L2.defBody d.st) = some d.fn.body
  hot : ∀ d ∈ ds, T.hots.contains d.id = true → cSs 60 (d.ccH T) (L2.defBody d.st) = some d.fn.body

theorem start_rs {Γ : Nm} {H : LH} {vs : List Vl} {xs : List LV} (r : RVs Γ H vs xs) (N : List Str) (n : Nat) (hn : n = N.length) : RS Γ H (vs.map some ++ List.replicate (n - vs.length) none) (L2.start N xs) := by
  subst hn
  have hl := r.length
  unfold L2.start
  refine ⟨by simp [hl], fun i v h => ?_⟩
  by_cases hi : i < vs.length
  · rw [List.getElem?_append_left (by simpa using hi), List.getElem?_map] at h
    rw [List.getElem?_append_left (by simpa [← hl] using hi), List.getElem?_map]
    cases e : vs[i]? with
    | none => rw [e] at h; cases h
    | some w =>
      rw [e] at h
      cases h
      obtain ⟨x, h1, h2⟩ := r.get e
      exact ⟨x, by rw [h1]; rfl, h2⟩
  · rw [List.getElem?_append_right (by simpa using hi), List.getElem?_replicate] at h
    split at h <;> cases h
theorem gF_len {Γ : Nm} {P : PG} {k f n : Nat} {fn : Fn} (e : P.fns f = some fn) (hn : fn.ar = n) : ∀ vs h Q X', wF P k f vs h Q X' → vs.length = n := by
  intro vs h Q X' w
  cases k with
  | zero => exact w.elim
  | succ k =>
    obtain ⟨fn', e1, e2, _⟩ := w
    rw [e] at e1; cases e1
    rw [e2, hn]
section
variable {Pr : Program} {w : World} {K : PySem.W.Frag} {mg : Str → Option Value} {base : Heap} {Γ : Nm} {P : PG} {T : Tab} {ds : List FD}
theorem prg_stepH (hw : w.params = Γ.par) (p : Prg K mg Γ P T ds) (k : Nat) (ihG : ∀ (d : FD), d ∈ ds → ∀ (f : Addr) (fd : FuncData), L2.Fun K d.name d.qual d.st f fd → FnG Pr w K mg base (L2.CX Pr w) (2 * k) f fd d.ps (gF Γ (wF P k d.id) d.ps.length))
    (d : FD) (hd : d ∈ ds) (hot : T.hots.contains d.id = true) (f : Addr) (fd : FuncData) (F : L2.Fun K d.name d.qual d.st f fd) : FnGH Pr w K mg base (L2.CX Pr w) (2 * (k + 1)) f fd d.ps (gF Γ (wF P (k + 1) d.id) d.ps.length) := by
    obtain ⟨FB', ck, e1, e2⟩ := p.ok d hd
    unfold FD.chk at ck
    simp only [Bool.and_eq_true, beq_iff_eq] at ck
    obtain ⟨⟨c1, c2⟩, c3⟩ := ck
    have S := scOk_ok c1
    have har : ∀ d' ∈ ds, ∀ vs h Q X', wF P k d'.id vs h Q X' → vs.length = d'.ps.length := fun d' hd' => by
      obtain ⟨_, ck2, e3, _⟩ := p.ok d' hd'
      unfold FD.chk at ck2
      simp only [Bool.and_eq_true, beq_iff_eq] at ck2
      exact gF_len (Γ := Γ) e3 ck2.1.2
    have e2 := p.hot d hd hot
    show FnGH Pr w K mg base (L2.CX Pr w) ((2 * k + 1) + 1) f fd d.ps _
    refine okGH F S (fun vs H Q E h => h.1) (fun cdv A outer s H xs Q E p0 gd hr h => ?_)
    obtain ⟨hl, vs, h, Q', X', rvs, rh, w', kq, ke⟩ := h
    obtain ⟨fn, g1, g2, g3⟩ := w'
    rw [e1] at g1; cases g1
    have x : Ctx (L2H.cxH (L2.CX Pr w) Pr w K mg base d.N d.qual (L2.defScope d.st) f cdv A outer s H E p0) Γ (fun cls dd _ H => E cls dd H) P (wF P k) k (d.ccH T) := {
      N := rfl
      sc := rfl
      nd := S.nd
      calm := fun z => by cases z
      room := fun z => by cases z
      rm := hr
      hts := fun y f n e z => by cases z
      gd := gd
      shw := p.shw
      K := p.hK
      par := hw
      tk := L2.takes_of rfl rfl rfl rfl
      fn := fun _ _ => rfl
      kind := S.kind
      bl := p.bl
      glb := p.glb
      fns := fun y f n e => by
        obtain ⟨d', hd', fa, fdd, F2, m2, rfl, rfl⟩ := p.fns y f n e
        exact ⟨fa, fdd, d'.ps, m2, F2.kp, F2.binds (p.ok d' hd').1, ihG d' hd' fa fdd F2, har d' hd'⟩
      fi := p.fi
      exs := p.exs
      exc := p.exc
      att := fun y f e => let z := p.att y f e; ⟨z.1, z.2⟩
      cls := fun y c n e => by
        obtain ⟨C, fa, fdd, d', hd', h1, h2, h3, h4, h5, F2⟩ := p.cls y c n e
        have q := ihG d' hd' fa fdd F2
        rw [h5] at q
        exact ⟨C, fa, fdd, d'.ps, d'.id, h1, h2, h3, h4, F2.binds (p.ok d' hd').1, q, fun vs h Q X' z => (har d' hd' vs h Q X' z).trans h5⟩
      fnv := fun f a e => by
        obtain ⟨d', hd', fdd, F2, rfl⟩ := p.fnv f a e
        exact ⟨fdd, d'.ps, d'.ps.length, F2.kp, F2.binds (p.ok d' hd').1, ihG d' hd' a fdd F2, har d' hd'⟩
      met := fun y m n e => by
        obtain ⟨c, fa, fdd, d', hd', h1, h2, h3, h5, F2⟩ := p.met y m n e
        have q := ihG d' hd' fa fdd F2
        rw [h5] at q
        exact ⟨c, d'.id, fa, fdd, d'.ps, ⟨h1, h2, h3⟩, F2.binds (p.ok d' hd').1, q, fun vs h Q X' z => (har d' hd' vs h Q X' z).trans h5⟩ }
    refine ⟨_, (sndS 60 x (L2.passes_of rfl) ⟨rfl, rfl, rfl⟩).2 e2, _, _, _, _, _, _, _, start_rs rvs d.N _ c3, rh, g3, ?_, ?_, fun _ _ _ _ _ _ _ z => z.elim, fun _ _ _ _ _ _ _ z => z.elim, ?_⟩
    · intro σ' h' τ' H' _ rh' s' ⟨h2, sb, q⟩
      exact kq _ h2 _ H' vnon (rh'.sub sb) (s'.sub sb) q
    · intro v h' x' H' rv rh' s' ⟨h2, sb, q⟩
      exact kq _ h2 _ H' rv (rh'.sub sb) (s'.sub sb) q
    · intro e σ' h' c dd τ' H' re _ rh' s' ⟨h2, sb, q⟩
      exact ke e h2 c dd H' re (rh'.sub sb) (s'.sub sb) q
theorem prg_stepG (hw : w.params = Γ.par) (p : Prg K mg Γ P T ds) (k : Nat) (ihG : ∀ (d : FD), d ∈ ds → ∀ (f : Addr) (fd : FuncData), L2.Fun K d.name d.qual d.st f fd → FnG Pr w K mg base (L2.CX Pr w) (2 * k) f fd d.ps (gF Γ (wF P k d.id) d.ps.length))
    (ihH : ∀ (d : FD), d ∈ ds → T.hots.contains d.id = true → ∀ (f : Addr) (fd : FuncData), L2.Fun K d.name d.qual d.st f fd → FnGH Pr w K mg base (L2.CX Pr w) (2 * k) f fd d.ps (gF Γ (wF P k d.id) d.ps.length))
    (d : FD) (hd : d ∈ ds) (f : Addr) (fd : FuncData) (F : L2.Fun K d.name d.qual d.st f fd) : FnG Pr w K mg base (L2.CX Pr w) (2 * (k + 1)) f fd d.ps (gF Γ (wF P (k + 1) d.id) d.ps.length) := by
    obtain ⟨FB', ck, e1, e2⟩ := p.ok d hd
    unfold FD.chk at ck
    simp only [Bool.and_eq_true, beq_iff_eq] at ck
    obtain ⟨⟨c1, c2⟩, c3⟩ := ck
    have S := scOk_ok c1
    have har : ∀ d' ∈ ds, ∀ vs h Q X', wF P k d'.id vs h Q X' → vs.length = d'.ps.length := fun d' hd' => by
      obtain ⟨_, ck2, e3, _⟩ := p.ok d' hd'
      unfold FD.chk at ck2
      simp only [Bool.and_eq_true, beq_iff_eq] at ck2
      exact gF_len (Γ := Γ) e3 ck2.1.2
    show FnG Pr w K mg base (L2.CX Pr w) ((2 * k + 1) + 1) f fd d.ps _
    refine okG F S (fun vs H Q E h => h.1) (fun cdv A outer s H xs Q E gd hr h => ?_)
    obtain ⟨hl, vs, h, Q', X', rvs, rh, w', kq, ke⟩ := h
    obtain ⟨fn, g1, g2, g3⟩ := w'
    rw [e1] at g1; cases g1
    have x : Ctx (L2.cxOf (L2.CX Pr w) Pr w K mg base d.N d.qual (L2.defScope d.st) f cdv A outer s H E) Γ (fun cls dd _ H => E cls dd H) P (wF P k) k (d.cc T) := {
      N := rfl
      sc := rfl
      nd := S.nd
      calm := fun _ => rfl
      room := fun _ => hr
      rm := ⟨hr.dp, hr.un⟩
      hts := fun y f n e hh => by
        obtain ⟨d', hd', fa, fdd, F2, m2, rfl, rfl⟩ := p.fns y f n e
        exact ⟨fa, fdd, d'.ps, m2, F2.kp, F2.binds (p.ok d' hd').1, ihH d' hd' hh fa fdd F2, har d' hd'⟩
      gd := gd
      shw := p.shw
      K := p.hK
      par := hw
      tk := L2.takes_of rfl rfl rfl rfl
      fn := fun _ _ => rfl
      kind := S.kind
      bl := p.bl
      glb := p.glb
      fns := fun y f n e => by
        obtain ⟨d', hd', fa, fdd, F2, m2, rfl, rfl⟩ := p.fns y f n e
        exact ⟨fa, fdd, d'.ps, m2, F2.kp, F2.binds (p.ok d' hd').1, ihG d' hd' fa fdd F2, har d' hd'⟩
      fi := p.fi
      exs := p.exs
      exc := p.exc
      att := fun y f e => let z := p.att y f e; ⟨z.1, z.2⟩
      cls := fun y c n e => by
        obtain ⟨C, fa, fdd, d', hd', h1, h2, h3, h4, h5, F2⟩ := p.cls y c n e
        have q := ihG d' hd' fa fdd F2
        rw [h5] at q
        exact ⟨C, fa, fdd, d'.ps, d'.id, h1, h2, h3, h4, F2.binds (p.ok d' hd').1, q, fun vs h Q X' z => (har d' hd' vs h Q X' z).trans h5⟩
      fnv := fun f a e => by
        obtain ⟨d', hd', fdd, F2, rfl⟩ := p.fnv f a e
        exact ⟨fdd, d'.ps, d'.ps.length, F2.kp, F2.binds (p.ok d' hd').1, ihG d' hd' a fdd F2, har d' hd'⟩
      met := fun y m n e => by
        obtain ⟨c, fa, fdd, d', hd', h1, h2, h3, h5, F2⟩ := p.met y m n e
        have q := ihG d' hd' fa fdd F2
        rw [h5] at q
        exact ⟨c, d'.id, fa, fdd, d'.ps, ⟨h1, h2, h3⟩, F2.binds (p.ok d' hd').1, q, fun vs h Q X' z => (har d' hd' vs h Q X' z).trans h5⟩ }
    refine ⟨_, (sndS 60 x (L2.passes_of rfl) ⟨rfl, rfl, rfl⟩).2 e2, _, _, _, _, _, _, _, start_rs rvs d.N _ c3, rh, g3, ?_, ?_, fun _ _ _ _ _ _ _ z => z.elim, fun _ _ _ _ _ _ _ z => z.elim, ?_⟩
    · intro σ' h' τ' H' _ rh' s' ⟨h2, sb, q⟩
      exact kq _ h2 _ H' vnon (rh'.sub sb) (s'.sub sb) q
    · intro v h' x' H' rv rh' s' ⟨h2, sb, q⟩
      exact kq _ h2 _ H' rv (rh'.sub sb) (s'.sub sb) q
    · intro e σ' h' c dd τ' H' re _ rh' s' ⟨h2, sb, q⟩
      exact ke e h2 c dd H' re (rh'.sub sb) (s'.sub sb) q
theorem prg_both (hw : w.params = Γ.par) (p : Prg K mg Γ P T ds) : ∀ (k : Nat), (∀ (d : FD), d ∈ ds → ∀ (f : Addr) (fd : FuncData), L2.Fun K d.name d.qual d.st f fd → FnG Pr w K mg base (L2.CX Pr w) (2 * k) f fd d.ps (gF Γ (wF P k d.id) d.ps.length)) ∧
    ∀ (d : FD), d ∈ ds → T.hots.contains d.id = true → ∀ (f : Addr) (fd : FuncData), L2.Fun K d.name d.qual d.st f fd → FnGH Pr w K mg base (L2.CX Pr w) (2 * k) f fd d.ps (gF Γ (wF P k d.id) d.ps.length)
  | 0 => by
    constructor
    · intro d hd f fd F
      refine ⟨fun vs H Q E h => h.1, fun A outer s H args us vs Q E _ _ _ _ _ h => ?_⟩
      obtain ⟨_, _, _, _, _, _, _, z, _⟩ := h
      exact z.elim
    · intro d hd hh f fd F
      refine ⟨fun vs H Q E h => h.1, fun A outer s H args us vs Q E _ _ _ _ _ h => ?_⟩
      obtain ⟨_, _, _, _, _, _, _, z, _⟩ := h
      exact z.elim
  | k + 1 => ⟨prg_stepG hw p k (prg_both hw p k).1 (prg_both hw p k).2, prg_stepH hw p k (prg_both hw p k).1⟩
theorem prg_ok (hw : w.params = Γ.par) (p : Prg K mg Γ P T ds) (k : Nat) (d : FD) (hd : d ∈ ds) (f : Addr) (fd : FuncData) (F : L2.Fun K d.name d.qual d.st f fd) : FnG Pr w K mg base (L2.CX Pr w) (2 * k) f fd d.ps (gF Γ (wF P k d.id) d.ps.length) := (prg_both hw p k).1 d hd f fd F
end

/-! ### what is read off the module behind the top -/
theorem bls_nil {K : PySem.W.Frag} : ∀ x ∈ ([] : List Str), PySem.W.nsIn K mainGlobals x = some none := fun _ h => by cases h
theorem bls_cons {K : PySem.W.Frag} {y : Str} {xs : List Str} (h : PySem.W.nsIn K mainGlobals y = some none) (r : ∀ x ∈ xs, PySem.W.nsIn K mainGlobals x = some none) : ∀ x ∈ y :: xs, PySem.W.nsIn K mainGlobals x = some none := fun x hx => by
  rcases List.mem_cons.mp hx with rfl | hx
  · exact h
  · exact r x hx
/-- no list stands in the module -/
def noLst (K : PySem.W.Frag) : Bool := K.all fun p => match p.2.cls with
  | .type n => n != "list"
  | _ => true
def GV (K : PySem.W.Frag) (Γ : Nm) (x : Str) (v : Vl) : Prop := ∃ xv u, PySem.W.nsIn K mainGlobals x = some (some u) ∧ L2.RelV xv u ∧ ∀ H, RV Γ H v xv
/-- a class of the text -/
structure CD where
  id : Nat
  name : Str
  /-- its __init__, its methods by their numbers -/
  ini : FD
  ms : List (Nat × FD)
structure PrgK (K : PySem.W.Frag) (Γ : Nm) (P : PG) (T : Tab) (ds fs : List FD) (cs : List CD) : Prop where
  hK : Γ.K = K
  nl : noLst K = true
  bl : ∀ x ∈ T.bl, PySem.W.nsIn K mainGlobals x = some none
  glb : ∀ x g, (x, g) ∈ T.globs → ∃ v, P.glob g = some v ∧ GV K Γ x v
  ok : ∀ d ∈ fs, FK K d
  cl : ∀ c ∈ cs, ∃ C, CK K Γ c.id c.name c.ini (c.ms.map (·.2)) (T.flds.map (·.1)) C
  ca : ∀ i C, Γ.ca i = some C → ∃ c ∈ cs, c.id = i
  fi : ∀ f g, Γ.fld f = Γ.fld g → f = g
  fl : ∀ y f, (y, f) ∈ T.flds → Γ.fld f = y
  exs : ∀ x d b, (x, d, b) ∈ T.exs → ∃ C, Γ.ea d = some C ∧ PySem.W.nsIn K mainGlobals x = some (some (.ref C)) ∧ (b = true → ExOk K C) ∧
    ∀ d' C', Γ.ea d' = some C' → PySem.W.kitOne K (.ref C') (.ref C) = some (P.sub d' d) ∧ PySem.W.exmOne K (.ref C') (.ref C) = some (P.sub d' d)
  exc : ∀ d C, Γ.ea d = some C → L2.ExcC K C ∧ PySem.W.kitOne K (.ref C) (.type "ValueError") = some true
  fm : ∀ y (m : Nat × Nat), (y, m) ∈ T.mets → ∀ f, Γ.fld f ≠ y
  fa : ∀ f a, Γ.fa f = some a → ∃ x n, (x, f, n) ∈ T.fns ∧ ∀ b, PySem.W.nsIn K mainGlobals x = some (some (.ref b)) → b = a
/-- what stands without the module -/
structure PrgT (P : PG) (T : Tab) (ds fs : List FD) (cs : List CD) : Prop where
  shw : P.shw = shwD
  fns : ∀ x f n, (x, f, n) ∈ T.fns → ∃ d ∈ fs, d ∈ ds ∧ d.gn = x ∧ d.id = f ∧ d.ps.length = n
  cls : ∀ x i n, (x, i, n) ∈ T.cls → ∃ c ∈ cs, c.id = i ∧ c.name = x ∧ c.ini ∈ ds ∧ c.ini.name = "__init__" ∧ P.init i = some c.ini.id ∧ c.ini.ps.length = n + 1
  met : ∀ y m n, (y, m, n) ∈ T.mets → ∃ c ∈ cs, ∃ d, (m, d) ∈ c.ms ∧ d ∈ ds ∧ d.name = y ∧ (∀ c' f', P.meth c' m = some f' → c' = c.id ∧ f' = d.id) ∧ d.ps.length = n + 1
  ok : ∀ d ∈ ds, FB d ∧ d.chk = true ∧ P.fns d.id = some d.fn ∧ cSs 60 (d.cc T) (L2.defBody d.st) = some d.fn.body
  hot : ∀ d ∈ ds, T.hots.contains d.id = true → cSs 60 (d.ccH T) (L2.defBody d.st) = some d.fn.body
theorem lookup_mem {α β : Type} [BEq α] [LawfulBEq α] : ∀ {l : List (α × β)} {x : α} {b : β}, l.lookup x = some b → (x, b) ∈ l
  | [], _, _, h => by cases h
  | (y, c) :: l, x, b, h => by
    rw [List.lookup_cons] at h
    split at h
    · rename_i e
      have e : x = y := by simpa using e
      subst e
      cases h
      exact List.mem_cons_self
    · exact List.mem_cons_of_mem _ (lookup_mem h)
theorem prg_of {K : PySem.W.Frag} {mg : Str → Option Value} {h : Heap} {Γ : Nm} {P : PG} {T : Tab} {ds fs : List FD} {cs : List CD} (X : K.In h) (G : h.Ns mainGlobals mg) (k : PrgK K Γ P T ds fs cs) (t : PrgT P T ds fs cs) : Prg K mg Γ P T ds where
  hK := k.hK
  shw := t.shw
  bl := fun x hx => PySem.W.mg_none_of X G (k.bl x (by simpa using hx))
  glb := fun x g e => by
    obtain ⟨v, h1, xv, u, h2, h3, h4⟩ := k.glb x g (lookup_mem e)
    exact ⟨v, xv, u, h1, PySem.W.mg_of X G h2, h3, h4⟩
  fns := fun x f n e => by
    obtain ⟨d, h1, h2, h3, h4, h5⟩ := t.fns x f n (lookup_mem e)
    obtain ⟨fa, fd, F, a⟩ := k.ok d h1
    rw [h3] at a
    exact ⟨d, h2, fa, fd, F, PySem.W.mg_of X G a, h4, h5⟩
  fi := k.fi
  exs := fun x d b e => by
    obtain ⟨C, h1, h2, h3, h4⟩ := k.exs x d b (lookup_mem e)
    exact ⟨C, h1, PySem.W.mg_of X G h2, h3, h4⟩
  exc := k.exc
  att := fun y f e => by
    have hm := lookup_mem e
    refine ⟨k.fl y f hm, fun i C hC => ?_⟩
    obtain ⟨c, hc, rfl⟩ := k.ca i C hC
    obtain ⟨C', q⟩ := k.cl c hc
    have e2 := q.ca
    rw [hC] at e2; cases e2
    exact ⟨q.cl, q.ys y (List.mem_map.mpr ⟨_, hm, rfl⟩)⟩
  cls := fun x i n e => by
    obtain ⟨c, h1, h2, h3, h4, h5, h6, h7⟩ := t.cls x i n (lookup_mem e)
    obtain ⟨C, q⟩ := k.cl c h1
    obtain ⟨fa, fd, F, a, b⟩ := q.ini
    have a1 := q.at_
    rw [h3] at a1
    rw [h5] at a
    exact ⟨C, fa, fd, c.ini, h4, by rw [← h2]; exact q.ca, PySem.W.mg_of X G a1, ⟨q.mks, a, b, q.kp⟩, h6, h7, F⟩
  fnv := fun f a e => by
    obtain ⟨x, n, h1, h2⟩ := k.fa f a e
    obtain ⟨d, g1, g2, g3, g4, g5⟩ := t.fns x f n h1
    obtain ⟨fa, fd, F, b⟩ := k.ok d g1
    rw [g3] at b
    have := h2 fa b
    subst this
    exact ⟨d, g2, fd, F, g4⟩
  met := fun y m n e => by
    obtain ⟨c, h1, d, h2, h3, h4, h5, h6⟩ := t.met y m n (lookup_mem e)
    obtain ⟨C, q⟩ := k.cl c h1
    obtain ⟨fa, fd, F, a, b⟩ := q.ms d (List.mem_map.mpr ⟨_, h2, rfl⟩)
    rw [h4] at a
    refine ⟨c.id, fa, fd, d, h3, fun C' hC' => ?_, k.fm y (m, n) (lookup_mem e), h5, h6, F⟩
    have e2 := q.ca
    rw [hC'] at e2; cases e2
    exact ⟨q.cl, a, b, F.kp⟩
  ok := t.ok
  hot := t.hot
theorem noLst_ok {K : PySem.W.Frag} (h : noLst K = true) {a : Addr} {o : Obj} (e : K.lookup a = some o) : o.cls ≠ .type "list" := by
  unfold noLst at h
  rw [List.all_eq_true] at h
  have hm : (a, o) ∈ K := lookup_mem e
  have := h _ hm
  intro z
  simp [z] at this
/-- THE LAW: from what its def does -/
theorem law_walk {l : PySem.W.OpenLaw} {n k : Nat} {q : Program} {loose : List Str} {XP : (Str → Option Value) → Heap → Prop} {YP : World → Heap → Prop} {d : DefRec} {K : Params → PySem.W.Frag} {x : Str}
    (Γ : Params → PySem.W.Frag → Nm) (hpar : ∀ p K, (Γ p K).par = p) (P : PG) (T : Tab) (ds fs : List FD) (cs : List CD) (D : FD) (hD : D ∈ ds) (hDf : D ∈ fs) (hDn : D.gn = d.name) (hDp : D.ps = [x]) (t : PrgT P T ds fs cs)
    (hn : l.most = some n) (hn2 : n ≤ sizeLine) (hdf : d.params.defaults = []) (hr : L2.Room (2 * k) callerA) (hY : ∀ (w : World) (h : Heap), YP w h → (K w.params).In h)
    (hk : ∀ p : Params, PrgK (K p) (Γ p (K p)) P T ds fs cs)
    (law : ∀ (a : Nat) (ns : List Int) (Q : Qv) (X : Ex → AH → Prop), ns.length ≤ n → (∀ h', Q (.bl true) h') → wF P k D.id [.ref a] ⟨[], [(a, .rol (ns.map Vl.int))]⟩ Q X) :
    PySem.W.WalkO q loose XP YP l.row.toRowW d [] (fun f vs => PySem.call f vs) := by
  refine walkG (n := n) (k := 2 * k) (x := x) (CX := fun w => L2.CX l.prog w) (sp := fun w => fun vs H Q E => vs.length = 1 ∧ gF (Γ w.params (K w.params)) (wF P k D.id) 1 vs H Q E) hn hn2 hdf hr hY (fun p a o z => noLst_ok (hk p).nl z) (fun w mg fa h KX G hmg => ?_) (fun w H a ns hl hO hS => ?_) (fun w H s e s' z => ?_)
  · have p := prg_of KX G (hk w.params) t
    obtain ⟨f, fd, F, a⟩ := (hk w.params).ok D hDf
    have m := PySem.W.mg_of KX G a
    rw [hDn, hmg] at m
    cases m
    refine ⟨fd, fun s u => ?_, fun base KB GB => ?_⟩
    · obtain ⟨oc, od, kV, doc, pm, an, cdv, ct, osl, rfl, lk, hcd⟩ := F.ex
      have := (p.ok D hD).1 kV doc pm an cdv ct [u] (by rw [hDp]; rfl)
      rw [hDp] at this
      exact .of_eq this
    · have := prg_ok (Pr := l.prog) (w := w) (base := base) (hpar _ _).symm p k D hD fa fd F
      rw [hDp] at this
      exact this.imp fun vs H Q E h => h.2
  · refine ⟨rfl, rfl, [.ref a], ⟨[], [(a, .rol (ns.map Vl.int))]⟩, fun v _ => v = .bl true, fun _ _ => False, ?_, ?_, law a ns _ _ hl fun _ => rfl, ?_, fun _ _ _ _ _ _ _ _ z => z⟩
    · simp only [RVs]; exact ⟨_, [], rfl, vref, rfl⟩
    · intro b o e
      unfold get at e
      simp only [look] at e
      by_cases hb : b = a
      · subst hb
        simp at e
        subst e
        have rv : ∀ ms : List Int, RVs (Γ w.params (K w.params)) H (ms.map Vl.int) (ms.map L2.V.int) := by
          intro ms
          induction ms with
          | nil => simp only [List.map_nil, RVs]
          | cons m ms ih => simp only [List.map_cons, RVs]; exact ⟨_, _, rfl, by simp only [RV], ih⟩
        rcases hS with (h1 | ⟨o, h1⟩) | ⟨o, its, m, h1, h2, _⟩
        · rcases hO b with z | ⟨o, xs, z⟩
          · rw [h1] at z; cases z
          · rw [h1] at z; cases z
        · exact ⟨o, _, h1, rv ns⟩
        · exact absurd h2 (noLst_ok (hk w.params).nl h1)
      · simp [hb] at e
    · intro v h' x' H' rv _ _ e
      subst e
      simpa only [RV] using rv
  · obtain ⟨_, _, _, _, _, _, _, _, _, _, _, _, z⟩ := z
    exact z.elim
/-! numbers of attributes -/
def fldOf (l : List (Str × Nat)) (f : Nat) : Str := match l.find? (fun e => e.2 == f) with
  | some e => e.1
  | none => ⟨#[1114112, f]⟩
def plainName (y : Str) : Bool := y.cps.toList.all fun c => decide (c < 1114112)
theorem fldOf_or (l : List (Str × Nat)) (f : Nat) : (∃ e ∈ l, e.2 = f ∧ fldOf l f = e.1) ∨ fldOf l f = ⟨#[1114112, f]⟩ := by
  unfold fldOf
  cases e : l.find? (fun e => e.2 == f) with
  | none => exact .inr rfl
  | some x =>
    have h1 := List.find?_some e
    exact .inl ⟨x, List.mem_of_find?_eq_some e, by simpa using h1, rfl⟩
theorem not_plain {f : Nat} : plainName ⟨#[1114112, f]⟩ = false := by simp [plainName]
def fldChk (l : List (Str × Nat)) : Bool := decide (l.map (·.1)).Nodup && (l.all fun e => plainName e.1) && (l.all fun e => decide (fldOf l e.2 = e.1))
theorem nodup_fst {l : List (Str × Nat)} (h : (l.map (·.1)).Nodup) {a b : Str × Nat} (ha : a ∈ l) (hb : b ∈ l) (e : a.1 = b.1) : a = b := by
  induction l with
  | nil => cases ha
  | cons x l ih =>
    simp only [List.map_cons, List.nodup_cons] at h
    rcases List.mem_cons.mp ha with qa | qa <;> rcases List.mem_cons.mp hb with qb | qb
    · rw [qa, qb]
    · exact absurd (List.mem_map.mpr ⟨b, qb, by rw [← e, qa]⟩) h.1
    · exact absurd (List.mem_map.mpr ⟨a, qa, by rw [e, qb]⟩) h.1
    · exact ih h.2 qa qb
theorem fldOf_inj {l : List (Str × Nat)} (h : fldChk l = true) (f g : Nat) (e : fldOf l f = fldOf l g) : f = g := by
  unfold fldChk at h
  simp only [Bool.and_eq_true, decide_eq_true_eq, List.all_eq_true] at h
  obtain ⟨⟨h1, h2⟩, h3⟩ := h
  rcases fldOf_or l f with ⟨a, ha, hf, ea⟩ | ea <;> rcases fldOf_or l g with ⟨b, hb, hg, eb⟩ | eb
  · have := nodup_fst h1 ha hb (by rw [← ea, ← eb]; exact e)
    rw [← hf, ← hg, this]
  · have := h2 a ha
    rw [← ea, e, eb, not_plain] at this; cases this
  · have := h2 b hb
    rw [← eb, ← e, ea, not_plain] at this; cases this
  · rw [ea, eb] at e
    simpa using e
theorem fldOf_at {l : List (Str × Nat)} (h : fldChk l = true) (y : Str) (f : Nat) (m : (y, f) ∈ l) : fldOf l f = y := by
  unfold fldChk at h
  simp only [Bool.and_eq_true, decide_eq_true_eq, List.all_eq_true] at h
  exact h.2 _ m
theorem fldOf_no {l : List (Str × Nat)} {y : Str} (h1 : plainName y = true) (h2 : (l.all fun e => decide (e.1 ≠ y)) = true) (f : Nat) : fldOf l f ≠ y := by
  intro z
  rcases fldOf_or l f with ⟨a, ha, hf, ea⟩ | ea
  · rw [List.all_eq_true] at h2
    have := h2 a ha
    simp [← ea, z] at this
  · rw [← z, ea, not_plain] at h1; cases h1
def metChk (l : List (Str × Nat)) (ms : List (Str × Nat × Nat)) : Bool := ms.all fun m => plainName m.1 && l.all fun e => decide (e.1 ≠ m.1)
theorem metChk_ok {l : List (Str × Nat)} {ms : List (Str × Nat × Nat)} (h : metChk l ms = true) (y : Str) (m : Nat × Nat) (hm : (y, m) ∈ ms) (f : Nat) : fldOf l f ≠ y := by
  unfold metChk at h
  rw [List.all_eq_true] at h
  have := h _ hm
  rw [Bool.and_eq_true] at this
  exact fldOf_no this.1 this.2 f
/-- where a class stands -/
def clsAt (K : PySem.W.Frag) (x : Str) : Option Addr := match PySem.W.nsIn K mainGlobals x with
  | some (some (.ref C)) => some C
  | _ => none
theorem clsAt_of {K : PySem.W.Frag} {x : Str} {C : Addr} (h : PySem.W.nsIn K mainGlobals x = some (some (.ref C))) : clsAt K x = some C := by
  unfold clsAt; rw [h]
theorem CK.make {K : PySem.W.Frag} {Γ : Nm} {c : Nat} {x : Str} {ini : FD} {ms : List FD} {ys : List Str} {C : Addr} (at_ : PySem.W.nsIn K mainGlobals x = some (some (.ref C))) (ca : Γ.ca c = some C) (pg : PySem.W.plainGet K C Str.empty = true) (hd : PySem.W.hasDictIn K C = true) (po : PySem.W.plainOver K C = true)
    (sa : PySem.W.findIn K (.ref C) "__setattr__" = some (some (.builtin "object.__setattr__"))) (mks : PySem.W.makesIn K C = true) (kp : PySem.W.keepIn K (.ref C) = true) (hi : MK K C ini) (hm : ∀ d ∈ ms, MK K C d) (hy : ∀ y ∈ ys, PySem.W.findIn K (.ref C) y = some none) : CK K Γ c x ini ms ys C :=
  ⟨at_, ca, ⟨pg, hd, po, sa⟩, mks, kp, hi, hm, hy⟩
theorem all_nil {α : Type} {p : α → Prop} : ∀ y ∈ ([] : List α), p y := fun _ h => by cases h
theorem all_cons {α : Type} {p : α → Prop} {a : α} {l : List α} (h : p a) (r : ∀ y ∈ l, p y) : ∀ y ∈ a :: l, p y := fun y hy => by
  rcases List.mem_cons.mp hy with rfl | hy
  · exact h
  · exact r y hy
/-- constants of the module -/
theorem gv_int {K : PySem.W.Frag} {Γ : Nm} {x : Str} {i : Int} {t : Tok} (h : PySem.W.nsIn K mainGlobals x = some (some (.int i t))) : GV K Γ x (.int i) := ⟨.int i, .int i t, h, ⟨t, rfl⟩, fun _ => vint⟩
theorem gdl_nil {K : PySem.W.Frag} {a : Addr} : ∀ k v, ([] : List (List Nat × List Nat)).lookup k = some v → ∃ t, PySem.W.nsIn K a (sOf k) = some (some (.str (sOf v) t)) := fun k v h => by cases h
theorem gdl_cons {K : PySem.W.Frag} {a : Addr} {s u : Str} {t : Tok} {k0 v0 : List Nat} {r : List (List Nat × List Nat)} (e1 : s = sOf k0) (h : PySem.W.nsIn K a s = some (some (.str u t))) (e2 : u = sOf v0)
    (g : ∀ k v, r.lookup k = some v → ∃ t, PySem.W.nsIn K a (sOf k) = some (some (.str (sOf v) t))) : ∀ k v, ((k0, v0) :: r).lookup k = some v → ∃ t, PySem.W.nsIn K a (sOf k) = some (some (.str (sOf v) t)) := fun k v hh => by
  rw [List.lookup_cons] at hh
  split at hh
  · rename_i e
    have e : k = k0 := by simpa using e
    cases hh
    exact ⟨t, by rw [e, ← e1, ← e2]; exact h⟩
  · exact g k v hh
theorem gv_gd {K : PySem.W.Frag} {Γ : Nm} {x : Str} {kvs : List (List Nat × List Nat)} {a : Addr} (hK : Γ.K = K) (h : PySem.W.nsIn K mainGlobals x = some (some (.ref a))) (g : GDict K Γ.par a kvs) : GV K Γ x (.gd kvs) := ⟨.ref a, .ref a, h, rfl, fun _ => by simp only [RV]; exact ⟨a, rfl, by rw [hK]; exact g⟩⟩
theorem gv_str {K : PySem.W.Frag} {Γ : Nm} {x : Str} {s : List Nat} {u : Str} {t : Tok} (h : PySem.W.nsIn K mainGlobals x = some (some (.str u t))) (e : u = sOf s) : GV K Γ x (.str s) := ⟨.str (sOf s), .str u t, h, ⟨t, by rw [e]⟩, fun _ => vstr⟩
end KN

set_option autoImplicit false
set_option linter.all false
/-! Kern: a law's end over a head by a Hook: all facts are looked at in one run -/
namespace KN
open PySem PySem.Spec PyProof.Rows
abbrev AlK : Type := He.Al × Bool × List (Option (List (Option (Str × Int))))
def obsK (fa : List He.Fa) (fn : List He.FnD) (ex : PySem.W.Frag → Bool) (ds : List (Str × List Str)) (K : PySem.W.Frag) : AlK := (He.obsE fa fn K, ex K, ds.map fun d => He.dicW K (He.ga K d.1))
def valK (fn : List He.FnD) (ds : List (Str × List Str)) (w : World) : AlK := (He.valE fn, true, ds.map fun d => some (He.keysIn w.params d.2))
structure SaysK (fa : List He.Fa) (fn : List He.FnD) (ex : PySem.W.Frag → Bool) (ds : List (Str × List Str)) (w : World) (K : PySem.W.Frag) : Prop where
  e : He.SaysE fa fn K
  x : ex K = true
  d : (ds.map fun d => He.dicW K (He.ga K d.1)) = ds.map fun d => some (He.keysIn w.params d.2)
def hookK (n : Nat) (fa : List He.Fa) (fn : List He.FnD) (ex : PySem.W.Frag → Bool) (ds : List (Str × List Str)) : PySem.W.Hook where
  α := AlK
  obs := fun s => obsK fa fn ex ds (He.frG s.heap.get? (He.asG s.heap.get? n))
  val := fun w => valK fn ds w
  says := fun w h => ∃ K : PySem.W.Frag, K.In h ∧ SaysK fa fn ex ds w K
  of := fun _ _ e => ⟨_, He.frG_in, ⟨congrArg (fun z : AlK => z.1) e, congrArg (fun z : AlK => z.2.1) e, congrArg (fun z : AlK => z.2.2) e⟩⟩
  keeps := fun _ _ _ ⟨K, hK, c⟩ k => ⟨K, PySem.W.Frag.In.keeps hK k, c⟩
def obK (n : Nat) (fa : List He.Fa) (fn : List He.FnD) (ex : PySem.W.Frag → Bool) (ds : List (Str × List Str)) (s : PySem.W.SharedT) : AlK := obsK fa fn ex ds (He.frG (HandSHeadRun.getT s) (He.asG (HandSHeadRun.getT s) n))
theorem obK_eq {n : Nat} {fa : List He.Fa} {fn : List He.FnD} {ex : PySem.W.Frag → Bool} {ds : List (Str × List Str)} (s : PySem.W.SharedT) : obK n fa fn ex ds s = (hookK n fa fn ex ds).obs s.abs := by
  have e : HandSHeadRun.getT s = s.abs.heap.get? := funext fun a => HandSHeadRun.getT_eq s a
  show obsK fa fn ex ds (He.frG (HandSHeadRun.getT s) (He.asG (HandSHeadRun.getT s) n)) = _
  rw [e]; rfl
/-! what is looked at -/
def faOf (T : Tab) (fs : List FD) (cs : List CD) : List He.Fa :=
  T.bl.map He.Fa.free ++ (fs.flatMap fun d => [He.Fa.glo d.gn, He.Fa.keep d.gn]) ++ cs.flatMap fun c => [He.Fa.glo c.name, He.Fa.cls c.name, He.Fa.mkr c.name, He.Fa.keep c.name] ++ ((c.ini :: c.ms.map (·.2)).map fun d => He.Fa.meth c.name d.name) ++ T.flds.map fun y => He.Fa.noat c.name y.1
def exFa (T : Tab) : List He.Fa := T.exs.flatMap fun e => He.Fa.glo e.1 :: if e.2.2 = true then [He.Fa.exc e.1] else []
def fndOf (at_ : Str × Option Str) (d : FD) : He.FnD := ⟨at_, d.name, d.qual, L2.defArgs d.st, L2.defBody d.st, L2.defScope d.st⟩
def fnOf (fs : List FD) (cs : List CD) : List He.FnD := (fs.map fun d => fndOf (d.gn, none) d) ++ cs.flatMap fun c => (c.ini :: c.ms.map (·.2)).map fun d => fndOf (c.name, some d.name) d
def strB (o : Option (Option Value)) (s : List Nat) : Bool := match o with
  | some (some (.str y _)) => decide (y = sOf s)
  | _ => false
theorem strB_ok {o : Option (Option Value)} {s : List Nat} (h : strB o s = true) : ∃ t, o = some (some (.str (sOf s) t)) := by
  unfold strB at h
  split at h
  · rename_i y t
    have : y = sOf s := of_decide_eq_true h
    exact ⟨t, by rw [this]⟩
  · cases h
def fnB (T : Tab) (x : Str) (f : Nat) : Bool := match T.fns.find? fun e => e.2.1 == f with
  | some e => decide (e.1 = x)
  | none => false
def intsB : List Value → List Vl → Bool
  | [], [] => true
  | .int j _ :: us, .int i :: vs => decide (j = i) && intsB us vs
  | _, _ => false
theorem intsB_ok : ∀ {us : List Value} {vs : List Vl}, intsB us vs = true → ∃ xs, L2.Vals xs us ∧ ∀ (Γ : Nm) (H : LH), RVs Γ H vs xs
  | [], [], _ => ⟨[], .nil, fun Γ H => by simp only [RVs]⟩
  | .int j t :: us, .int i :: vs, h => by
    simp only [intsB, Bool.and_eq_true, decide_eq_true_eq] at h
    obtain ⟨e, h⟩ := h
    subst e
    obtain ⟨xs, p, q⟩ := intsB_ok h
    exact ⟨.int j :: xs, .cons ⟨t, rfl⟩ p, fun Γ H => by simp only [RVs, RV]; exact ⟨_, _, rfl, rfl, q Γ H⟩⟩
/-- a module's tuple of numbers -/
def tupB (K : PySem.W.Frag) (x : Str) (vs : List Vl) : Bool := match K.lookup (He.ga K x) with
  | some o => decide (o.cls = .type "tuple") && (match o.data with
    | .seq its _ => decide (its.size ≤ sizeLine) && intsB its.toList vs
    | _ => false)
  | none => false
theorem tupB_ok {K : PySem.W.Frag} {x : Str} {vs : List Vl} (h : tupB K x vs = true) : ∃ xs, (∀ H : LH, L2.SqT K H (He.ga K x) xs) ∧ ∀ (Γ : Nm) (H : LH), RVs Γ H vs xs := by
  unfold tupB at h
  split at h
  · rename_i o ho
    rw [Bool.and_eq_true, decide_eq_true_eq] at h
    obtain ⟨hc, h⟩ := h
    split at h
    · rename_i its n hd
      rw [Bool.and_eq_true, decide_eq_true_eq] at h
      obtain ⟨xs, p, q⟩ := intsB_ok h.2
      exact ⟨xs, fun H => .inr ⟨o, its, n, ho, hc, hd, h.1, p⟩, q⟩
    · cases h
  · cases h
def gvB (T : Tab) (K : PySem.W.Frag) (x : Str) : Vl → Bool
  | .int i => (match PySem.W.nsIn K mainGlobals x with
    | some (some (.int j _)) => decide (j = i)
    | _ => false)
  | .str s => strB (PySem.W.nsIn K mainGlobals x) s
  | .gd kvs => He.eqO (PySem.W.nsIn K mainGlobals x) (some (some (.ref (He.ga K x)))) && kvs.all fun kv => strB (PySem.W.nsIn K (He.ga K x) (sOf kv.1)) kv.2
  | .fn f => He.eqO (PySem.W.nsIn K mainGlobals x) (some (some (.ref (He.ga K x)))) && fnB T x f
  | .tup vs => He.eqO (PySem.W.nsIn K mainGlobals x) (some (some (.ref (He.ga K x)))) && tupB K x vs
  | _ => false
/-- an exception's class, for isinstance -/
def excB (K : PySem.W.Frag) (C : Addr) : Bool :=
  decide (PySem.W.findIn K (.ref C) "__getattribute__" = some (some (.builtin "BaseException.__getattribute__"))) && (decide (PySem.W.findIn K (.ref C) "__getattr__" = some none) && (decide (PySem.W.subIn K (.ref C) (.type "BaseException") = some true) && (PySem.W.hasDictIn K C &&
  (decide (PySem.W.findIn K (.ref C) "__class__" = some (some (.builtin "object.__class__"))) && (decide (PySem.W.specialIn K (.builtin "object.__class__") "__get__" = some (some (.builtin "getset_descriptor.__get__"))) && (decide (PySem.W.takesIn K (.builtin "object.__class__") = some true) && decide (PySem.W.mroIn K C (.type "object") = some true)))))))
theorem excB_ok {K : PySem.W.Frag} {C : Addr} (h : excB K C = true) : L2.ExcC K C := by
  unfold excB at h
  simp only [Bool.and_eq_true, decide_eq_true_eq] at h
  obtain ⟨a1, a2, a3, a4, a5, a6, a7, a8⟩ := h
  exact ⟨a1, a2, a3, a4, a5, a6, a7, a8⟩
def exsB (P : PG) (T : Tab) (K : PySem.W.Frag) : Bool := T.exs.all fun e => excB K (He.ga K e.1) && (decide (PySem.W.kitOne K (.ref (He.ga K e.1)) (.type "ValueError") = some true) &&
  T.exs.all fun e' => decide (PySem.W.kitOne K (.ref (He.ga K e'.1)) (.ref (He.ga K e.1)) = some (P.sub e'.2.1 e.2.1)) && decide (PySem.W.exmOne K (.ref (He.ga K e'.1)) (.ref (He.ga K e.1)) = some (P.sub e'.2.1 e.2.1)))
def exsOk (T : Tab) : Bool := T.exs.all fun e => match T.exs.find? fun d => d.2.1 == e.2.1 with
  | some d => decide (d.1 = e.1)
  | none => false
def exOf (P : PG) (T : Tab) (K : PySem.W.Frag) : Bool := noLst K && (exsB P T K && T.globs.all fun xg => match P.glob xg.2 with
  | some v => gvB T K xg.1 v
  | none => false)
def gdK (P : PG) (xg : Str × Nat) : Option (Str × List Str) := match P.glob xg.2 with
  | some (.gd kvs) => some (xg.1, kvs.map fun kv => sOf kv.1)
  | _ => none
def dsOf (P : PG) (T : Tab) : List (Str × List Str) := T.globs.filterMap (gdK P)
/-- names of what is spoken of -/
def gmOf (p : Params) (cs : List CD) (T : Tab) (K : PySem.W.Frag) : Nm := ⟨K, p, fun f => (T.fns.find? fun e => e.2.1 == f).map fun e => He.ga K e.1, fun i => (cs.find? fun c => c.id == i).map fun c => He.ga K c.name, fun i => (T.exs.find? fun e => e.2.1 == i).map fun e => He.ga K e.1, fldOf T.flds⟩
def idsOk (cs : List CD) : Bool := cs.all fun c => match cs.find? fun d => d.id == c.id with
  | some d => decide (d.name = c.name)
  | none => false
section
variable {P : PG} {T : Tab} {ds fs : List FD} {cs : List CD} {w : World} {K : PySem.W.Frag}
theorem says_fact {fa : List He.Fa} {fn : List He.FnD} (c : He.SaysE fa fn K) {f : He.Fa} (h : f ∈ fa) : f.ok K = true := by
  have c1 := (He.ba (show ((fa.all fun f => f.ok K) && fn.all fun d => (He.Fa.code d.at_ d.qual).ok K) = true from congrArg (fun z : He.Al => z.1) c)).1
  exact List.all_eq_true.mp c1 f h
theorem says_def {fa : List He.Fa} {fn : List He.FnD} (c : He.SaysE fa fn K) {d : He.FnD} (h : d ∈ fn) :
    ∃ oc od osl kV doc pm an cdv ct, K.lookup (He.fAd K d.at_) = some ⟨oc, od, .func (PySem.W.fnOf d.name d.qual d.params d.body d.scope .none kV doc pm an cdv ct), osl⟩ ∧ PySem.W.codeIn K cdv d.qual = true := by
  have c2 := (He.ba (show ((fa.all fun f => f.ok K) && fn.all fun d => (He.Fa.code d.at_ d.qual).ok K) = true from congrArg (fun z : He.Al => z.1) c)).2
  have e : fn.map (fun d => He.fnObs K d.at_) = fn.map He.FnD.val := congrArg (fun z : He.Al => z.2) c
  exact He.fn_ok (List.map_inj_left.mp e d h) (List.all_eq_true.mp c2 d h)
theorem prgK_of (hex : exsOk T = true) (c : SaysK (faOf T fs cs ++ exFa T) (fnOf fs cs) (exOf P T) (dsOf P T) w K) (hcs : idsOk cs = true) (hfl : fldChk T.flds = true) (hm : metChk T.flds T.mets = true) : PrgK K (gmOf w.params cs T K) P T ds fs cs := by
  obtain ⟨ce, cx, cd⟩ := c
  unfold exOf at cx
  rw [Bool.and_eq_true, Bool.and_eq_true] at cx
  obtain ⟨cx1, cxe, cx2⟩ := cx
  have fact := fun (f : He.Fa) (h : f ∈ faOf T fs cs) => says_fact ce (List.mem_append_left _ h)
  have factX := fun (f : He.Fa) (h : f ∈ exFa T) => says_fact ce (List.mem_append_right _ h)
  have hid : ∀ c ∈ cs, (gmOf w.params cs T K).ca c.id = some (He.ga K c.name) := by
    intro c hc
    have := List.all_eq_true.mp hcs c hc
    show (cs.find? fun d => d.id == c.id).map (fun c => He.ga K c.name) = _
    split at this
    · rename_i d e
      rw [e, Option.map_some, of_decide_eq_true this]
    · cases this
  refine ⟨rfl, cx1, fun x hx => ?_, fun x g hg => ?_, fun d hd => ?_, fun c hc => ?_, fun i C hC => ?_, fldOf_inj hfl, fldOf_at hfl, fun x d b hx => ?_, fun d C hC => ?_, metChk_ok hm, fun f a hf => ?_⟩
  · exact He.eqO_ok (fact (.free x) (by simp only [faOf, List.mem_append, List.mem_map]; exact .inl (.inl ⟨x, hx, rfl⟩)))
  · have := List.all_eq_true.mp cx2 _ hg
    simp only at this
    cases e : P.glob g with
    | none => rw [e] at this; cases this
    | some v =>
      rw [e] at this
      refine ⟨v, rfl, ?_⟩
      simp only at this
      cases v with
      | int i =>
        simp only [gvB] at this
        split at this
        · rename_i j t q
          have ej : j = i := of_decide_eq_true this
          rw [ej] at q
          exact gv_int q
        · cases this
      | str s =>
        obtain ⟨t, q⟩ := strB_ok (show strB (PySem.W.nsIn K mainGlobals x) s = true from this)
        exact gv_str q rfl
      | gd kvs =>
        simp only [gvB, Bool.and_eq_true] at this
        have q := He.eqO_ok this.1
        have hmem : (x, kvs.map fun kv => sOf kv.1) ∈ dsOf P T := List.mem_filterMap.mpr ⟨(x, g), hg, by simp only [gdK, e]⟩
        have e2 := List.map_inj_left.mp cd _ hmem
        obtain ⟨es, n, kd⟩ := He.dicW_ok (w := w) e2
        refine gv_gd rfl q ⟨es, n, kd.at_, kd.lit, fun k v hk => ?_⟩
        have hv := List.all_eq_true.mp this.2 (k, v) (lookup_mem hk)
        exact strB_ok hv
      | fn f =>
        simp only [gvB, Bool.and_eq_true] at this
        have q := He.eqO_ok this.1
        have h2 := this.2
        have e2 : (gmOf w.params cs T K).fa f = some (He.ga K x) := by
          show (T.fns.find? fun e => e.2.1 == f).map (fun e => He.ga K e.1) = _
          unfold fnB at h2
          split at h2
          · rename_i e' he
            rw [he, Option.map_some, of_decide_eq_true h2]
          · cases h2
        exact ⟨.ref (He.ga K x), .ref (He.ga K x), q, rfl, fun H => by simp only [RV]; exact ⟨_, e2, rfl⟩⟩
      | tup vs =>
        simp only [gvB, Bool.and_eq_true] at this
        have q := He.eqO_ok this.1
        obtain ⟨xs, h1, h2⟩ := tupB_ok this.2
        exact ⟨.ref (He.ga K x), .ref (He.ga K x), q, rfl, fun H => by simp only [RV]; exact ⟨_, xs, rfl, h1 H, h2 _ H⟩⟩
      | _ => cases this
  · have hf : fndOf (d.gn, none) d ∈ fnOf fs cs := List.mem_append_left _ (List.mem_map.mpr ⟨d, hd, rfl⟩)
    obtain ⟨oc, od, osl, kV, doc, pm, an, cdv, ct, l, cc⟩ := says_def ce hf
    have h1 := fact (.glo d.gn) (by simp only [faOf, List.mem_append, List.mem_flatMap]; exact .inl (.inr ⟨d, hd, by simp⟩))
    have h2 := fact (.keep d.gn) (by simp only [faOf, List.mem_append, List.mem_flatMap]; exact .inl (.inr ⟨d, hd, by simp⟩))
    exact FK.mk (He.eqO_ok h1) l cc h2
  · have inc : ∀ f, f ∈ ([He.Fa.glo c.name, He.Fa.cls c.name, He.Fa.mkr c.name, He.Fa.keep c.name] ++ ((c.ini :: c.ms.map (·.2)).map fun d => He.Fa.meth c.name d.name) ++ T.flds.map fun y => He.Fa.noat c.name y.1) → f.ok K = true := fun f hf =>
      fact f (by simp only [faOf]; exact List.mem_append_right _ (List.mem_flatMap.mpr ⟨c, hc, hf⟩))
    have a1 := inc (.glo c.name) (by simp)
    have a2 := inc (.cls c.name) (by simp)
    have a3 := inc (.mkr c.name) (by simp)
    have a4 := inc (.keep c.name) (by simp)
    have me : ∀ d, d ∈ c.ini :: c.ms.map (·.2) → MK K (He.ga K c.name) d := fun d hd => by
      have b1 := inc (.meth c.name d.name) (List.mem_append_left _ (List.mem_append_right _ (List.mem_map.mpr ⟨d, hd, rfl⟩)))
      have hf : fndOf (c.name, some d.name) d ∈ fnOf fs cs := List.mem_append_right _ (List.mem_flatMap.mpr ⟨c, hc, List.mem_map.mpr ⟨d, hd, rfl⟩⟩)
      obtain ⟨oc, od, osl, kV, doc, pm, an, cdv, ct, l, cc⟩ := says_def ce hf
      obtain ⟨m1, m2, m3⟩ := He.meth_ok b1
      exact MK.mk m1 m2 l cc m3
    obtain ⟨k1, k2, k3, k4⟩ := He.cls_ok a2
    obtain ⟨k5, k6, k7, k8⟩ := He.mkr_ok a3
    exact ⟨He.ga K c.name, CK.make (He.eqO_ok a1) (hid c hc) k1 k2 k3 k4 k5 a4 (me _ List.mem_cons_self) (fun d hd => me d (List.mem_cons_of_mem _ hd)) fun y hy => by
      obtain ⟨z, hz, rfl⟩ := List.mem_map.mp hy
      exact He.noat_ok (inc (.noat c.name z.1) (List.mem_append_right _ (List.mem_map.mpr ⟨z, hz, rfl⟩)))⟩
  · have hC : (cs.find? fun c => c.id == i).map (fun c => He.ga K c.name) = some C := hC
    cases e : cs.find? fun c => c.id == i with
    | none => rw [e] at hC; cases hC
    | some c => exact ⟨c, List.mem_of_find?_eq_some e, by simpa using List.find?_some e⟩
  · have h1 := List.all_eq_true.mp hex _ hx
    have hC : (gmOf w.params cs T K).ea d = some (He.ga K x) := by
      show (T.exs.find? fun e => e.2.1 == d).map (fun e => He.ga K e.1) = _
      simp only at h1
      split at h1
      · rename_i e' he
        rw [he, Option.map_some, of_decide_eq_true h1]
      · cases h1
    have h2 := List.all_eq_true.mp cxe _ hx
    simp only [Bool.and_eq_true, List.all_eq_true, decide_eq_true_eq] at h2
    refine ⟨He.ga K x, hC, He.eqO_ok (factX (.glo x) (by simp only [exFa, List.mem_flatMap]; exact ⟨_, hx, by simp⟩)), fun hb => ?_, fun d' C' hC' => ?_⟩
    · obtain ⟨q1, q2, q3, q4⟩ := He.exc_ok (factX (.exc x) (by simp only [exFa, List.mem_flatMap]; exact ⟨_, hx, by simp [hb]⟩))
      exact ⟨q1, q2, q3, q4⟩
    · have hC' : (T.exs.find? fun e => e.2.1 == d').map (fun e => He.ga K e.1) = some C' := hC'
      cases e : T.exs.find? fun e => e.2.1 == d' with
      | none => rw [e] at hC'; cases hC'
      | some e' =>
        rw [e] at hC'
        cases hC'
        have hd : e'.2.1 = d' := by simpa using List.find?_some e
        have := h2.2.2 e' (List.mem_of_find?_eq_some e)
        rw [hd] at this
        exact this
  · have hC' : (T.exs.find? fun e => e.2.1 == d).map (fun e => He.ga K e.1) = some C := hC
    cases e : T.exs.find? fun e => e.2.1 == d with
    | none => rw [e] at hC'; cases hC'
    | some e' =>
      rw [e] at hC'
      cases hC'
      have h2 := List.all_eq_true.mp cxe _ (List.mem_of_find?_eq_some e)
      simp only [Bool.and_eq_true, List.all_eq_true, decide_eq_true_eq] at h2
      exact ⟨excB_ok h2.1, h2.2.1⟩
  · have hf : (T.fns.find? fun e => e.2.1 == f).map (fun e => He.ga K e.1) = some a := hf
    cases e : T.fns.find? fun e => e.2.1 == f with
    | none => rw [e] at hf; cases hf
    | some e' =>
      rw [e] at hf
      cases hf
      have h1 : e'.2.1 = f := by simpa using List.find?_some e
      refine ⟨e'.1, e'.2.2, by rw [← h1]; exact List.mem_of_find?_eq_some e, fun b hb => ?_⟩
      show b = He.ga K e'.1
      unfold He.ga
      rw [hb]
end

section
variable {Γ : Nm} {K : PySem.W.Frag} {P : PG} {T : Tab} {ds fs : List FD} {cs : List CD} {D : FD} {x : Str} {w : World} {k n : Nat}
theorem law_fd {l : PySem.W.OpenLaw} {mg : Str → Option Value} {fa : Addr} {h : Heap} {name : Str} (hpar : Γ.par = w.params) (hk : PrgK K Γ P T ds fs cs) (hD : D ∈ ds) (hDf : D ∈ fs) (hDn : D.gn = name) (hDp : D.ps = [x]) (t : PrgT P T ds fs cs)
    (KX : K.In h) (G : h.Ns mainGlobals mg) (hmg : mg name = some (.ref fa)) : ∃ fd : FuncData, (∀ (s : Shared) (u : Value), BindsTo s fd ⟨[u], []⟩ [(x, u)]) ∧
      ∀ base : Heap, K.In base → base.Ns mainGlobals mg → FnG l.prog w K mg base (L2.CX l.prog w) (2 * k) fa fd [x] (fun vs H Q E => vs.length = 1 ∧ gF Γ (wF P k D.id) 1 vs H Q E) := by
  have p := prg_of KX G hk t
  obtain ⟨f, fd, F, a⟩ := hk.ok D hDf
  have m := PySem.W.mg_of KX G a
  rw [hDn, hmg] at m
  cases m
  refine ⟨fd, fun s u => ?_, fun base KB GB => ?_⟩
  · obtain ⟨oc, od, kV, doc, pm, an, cdv, ct, osl, rfl, lk, hcd⟩ := F.ex
    have := (p.ok D hD).1 kV doc pm an cdv ct [u] (by rw [hDp]; rfl)
    rw [hDp] at this
    exact .of_eq this
  · have := prg_ok (Pr := l.prog) (w := w) (base := base) hpar.symm p k D hD fa fd F
    rw [hDp] at this
    exact this.imp fun vs H Q E h => h.2
theorem law_sp {H : LH} {a : Addr} {ns : List Int} (hKK : Γ.K = K) (hk : PrgK K Γ P T ds fs cs) (hl : ns.length ≤ n) (hO : L2.Only H) (hS : L2.SqL K H a (ns.map L2.V.int))
    (law : ∀ (a : Nat) (ns : List Int) (Q : Qv) (X : Ex → AH → Prop), ns.length ≤ n → (∀ h', Q (.bl true) h') → wF P k D.id [.ref a] ⟨[], [(a, .rol (ns.map Vl.int))]⟩ Q X) :
    [L2.V.ref a].length = 1 ∧ gF Γ (wF P k D.id) 1 [.ref a] H (fun v _ => v = .bl true) fun _ _ _ => False := by
  refine ⟨rfl, rfl, [.ref a], ⟨[], [(a, .rol (ns.map Vl.int))]⟩, fun v _ => v = .bl true, fun _ _ => False, ?_, ?_, law a ns _ _ hl fun _ => rfl, ?_, fun _ _ _ _ _ _ _ _ z => z⟩
  · simp only [RVs]; exact ⟨_, [], rfl, vref, rfl⟩
  · intro b o e
    unfold get at e
    simp only [look] at e
    by_cases hb : b = a
    · subst hb
      simp at e
      subst e
      have rv : ∀ ms : List Int, RVs Γ H (ms.map Vl.int) (ms.map L2.V.int) := by
        intro ms
        induction ms with
        | nil => simp only [List.map_nil, RVs]
        | cons m ms ih => simp only [List.map_cons, RVs]; exact ⟨_, _, rfl, by simp only [RV], ih⟩
      rcases hS with (h1 | ⟨o, h1⟩) | ⟨o, its, m, h1, h2, _⟩
      · rcases hO b with z | ⟨o, xs, z⟩
        · rw [h1] at z; cases z
        · rw [h1] at z; cases z
      · exact ⟨o, _, h1, rv ns⟩
      · exact absurd h2 (noLst_ok hk.nl h1)
    · simp [hb] at e
  · intro v h' x' H' rv _ _ e
    subst e
    simpa only [RV] using rv
theorem law_walkE {l : PySem.W.OpenLaw} {q : Program} {loose : List Str} {XP : (Str → Option Value) → Heap → Prop} {YP : World → Heap → Prop} {d : DefRec}
    (hD : D ∈ ds) (hDf : D ∈ fs) (hDn : D.gn = d.name) (hDp : D.ps = [x]) (t : PrgT P T ds fs cs)
    (hn : l.most = some n) (hn2 : n ≤ sizeLine) (hdf : d.params.defaults = []) (hr : L2.Room (2 * k) callerA) (hk : ∀ (w : World) (h : Heap), YP w h → ∃ (K : PySem.W.Frag) (Γ : Nm), K.In h ∧ Γ.par = w.params ∧ PrgK K Γ P T ds fs cs)
    (law : ∀ (a : Nat) (ns : List Int) (Q : Qv) (X : Ex → AH → Prop), ns.length ≤ n → (∀ h', Q (.bl true) h') → wF P k D.id [.ref a] ⟨[], [(a, .rol (ns.map Vl.int))]⟩ Q X) :
    PySem.W.WalkO q loose XP YP l.row.toRowW d [] (fun f vs => PySem.call f vs) := by
  refine Att.attach_call hn hdf fun w s₀ s₁ mg mb fa o pm cd doc a vs ns G Y ho hd hcd hmg hobj hints hlen hg => ?_
  obtain ⟨K, Γ, KX, hpar, hK⟩ := hk w _ Y
  obtain ⟨fd, hb, hF⟩ := law_fd (l := l) (k := k) hpar hK hD hDf hDn hDp t KX G.T.g hmg
  have hnl : K.lookup a = none := by
    cases z : K.lookup a with
    | none => rfl
    | some o' =>
      have e := KX a o' z
      rw [hobj] at e; cases e
      exact absurd rfl (noLst_ok hK.nl z)
  refine law_callG KX G.T.g G.T.b G.T.builtins G.T.nolimit hg hobj hints (Nat.le_trans hlen hn2) hr hnl hF hb (fun H hO hS => law_sp hK.hK hK hlen hO hS law) fun H e s' z => ?_
  obtain ⟨_, _, _, _, _, _, _, _, _, _, _, _, z⟩ := z
  exact z.elim
end
end KN

set_option autoImplicit false
namespace KN
/-! the draws' box, what is drawn, the comparison -/
def kC : Ky := .s [99, 101, 108, 108, 115]
def kT : Ky := .s [116, 117, 114, 110]
/-- the box at p, its turn at most T -/
def Box (p c T : Nat) (b : List (Nat × Ob)) : Prop := ∃ (t : Int) (cs : List Int), p ≠ c ∧ b = [(p, .dct [(kC, .ref c), (kT, .int t)]), (c, .lst (cs.map Vl.int))] ∧ 0 ≤ t ∧ t ≤ T ∧ cs ≠ [] ∧ cs.length ≤ 64
section
variable {p c T T' : Nat} {b b' r : List (Nat × Ob)}
theorem Box.mono (h : Box p c T b) (l : T ≤ T') : Box p c T' b := by
  obtain ⟨t, cs, h1, h2, h3, h4, h5⟩ := h
  exact ⟨t, cs, h1, h2, h3, by omega, h5⟩
theorem Box.look {x : Nat} (h : Box p c T b) (h1 : x ≠ p) (h2 : x ≠ c) : look b x = none := by
  obtain ⟨t, cs, _, rfl, _⟩ := h
  simp [KN.look, h1, h2]
theorem Box.get {x : Nat} (h : Box p c T b) (h1 : x ≠ p) (h2 : x ≠ c) : get ⟨b, r⟩ x = KN.look r x := by
  simp [KN.get, h.look h1 h2]
theorem Box.ne {x : Nat} (h : Box p c T b) (n : KN.get ⟨b, r⟩ x = none) : x ≠ p ∧ x ≠ c := by
  obtain ⟨t, cs, h1, rfl, _⟩ := h
  constructor
  · rintro rfl
    simp [KN.get, KN.look] at n
  · rintro rfl
    simp [KN.get, KN.look, Ne.symm h1] at n
theorem Box.none {x : Nat} (h : Box p c T b) (h' : Box p c T' b') (n : KN.get ⟨b, r⟩ x = none) : KN.get ⟨b', r⟩ x = none := by
  obtain ⟨n1, n2⟩ := h.ne n
  rw [h'.get n1 n2, ← h.get n1 n2]; exact n
theorem Box.some {x : Nat} {o : Ob} (h : Box p c T b) (h' : Box p c T' b') (n1 : x ≠ p) (n2 : x ≠ c) (g : KN.get ⟨b, r⟩ x = some o) : KN.get ⟨b', r⟩ x = some o := by
  rw [h'.get n1 n2, ← h.get n1 n2]; exact g
end
theorem map_get {cs : List Int} {j : Nat} (h : j < cs.length) : (cs.map Vl.int)[j]? = some (.int cs[j]) := by simp [h]
theorem cut_len {α : Type} (xs : List α) (j : Int) (hj : 0 ≤ j) : (cut xs none (some j)).length ≤ j.toNat := by
  unfold cut sIx
  simp [hj]
  omega
theorem cut_map {α β : Type} (f : α → β) (xs : List α) (lo hi : Option Int) : cut (xs.map f) lo hi = (cut xs lo hi).map f := by
  unfold cut
  simp [List.map_drop, List.map_take]
/-! the comparison -/
mutual
/-- v is the data d in h, its lists ours -/
def DL (h : AH) : Vl → Da → Prop
  | v, .non => v = .non
  | v, .bl b => v = .bl b
  | v, .int i => v = .int i
  | v, .str s => v = .str s
  | v, .tup ds => ∃ vs, v = .tup vs ∧ DLs h vs ds
  | v, .lst ds => ∃ a vs, v = .ref a ∧ get h a = some (.lst vs) ∧ DLs h vs ds
def DLs (h : AH) : List Vl → List Da → Prop
  | vs, [] => vs = []
  | vs, d :: ds => ∃ v ws, vs = v :: ws ∧ DL h v d ∧ DLs h ws ds
end
mutual
theorem DL.da {h : AH} : ∀ (d : Da) {v : Vl}, DL h v d → DaOf h v d
  | .non, _, x => by simpa only [DL, DaOf] using x
  | .bl _, _, x => by simpa only [DL, DaOf] using x
  | .int _, _, x => by simpa only [DL, DaOf] using x
  | .str _, _, x => by simpa only [DL, DaOf] using x
  | .tup ds, _, x => by
    simp only [DL, DaOf] at x ⊢
    obtain ⟨vs, e, x⟩ := x
    exact ⟨vs, e, DLs.da ds x⟩
  | .lst ds, _, x => by
    simp only [DL, DaOf] at x ⊢
    obtain ⟨a, vs, e, g, x⟩ := x
    exact ⟨a, vs, e, .inl g, DLs.da ds x⟩
theorem DLs.da {h : AH} : ∀ (ds : List Da) {vs : List Vl}, DLs h vs ds → DaOfs h vs ds
  | [], _, x => by simpa only [DLs, DaOfs] using x
  | d :: ds, _, x => by
    simp only [DLs, DaOfs] at x ⊢
    obtain ⟨v, ws, e, x, y⟩ := x
    exact ⟨v, ws, e, DL.da d x, DLs.da ds y⟩
end
theorem DLs.len {h : AH} : ∀ {ds : List Da} {vs : List Vl}, DLs h vs ds → vs.length = ds.length
  | [], _, x => by simp only [DLs] at x; subst x; rfl
  | d :: ds, _, x => by
    simp only [DLs] at x
    obtain ⟨v, ws, rfl, _, y⟩ := x
    simp [DLs.len y]
theorem DLs.get {h : AH} : ∀ {ds : List Da} {vs : List Vl} {i : Nat} {d : Da}, DLs h vs ds → ds[i]? = some d → ∃ v, vs[i]? = some v ∧ DL h v d
  | [], _, _, _, _, e => by simp at e
  | d :: ds, _, 0, _, x, e => by
    simp only [DLs] at x
    obtain ⟨v, ws, rfl, y, _⟩ := x
    simp at e; subst e
    exact ⟨v, rfl, y⟩
  | d :: ds, _, i + 1, _, x, e => by
    simp only [DLs] at x
    obtain ⟨v, ws, rfl, _, y⟩ := x
    simpa using DLs.get y (by simpa using e)
theorem dep_mem : ∀ {ds : List Da} {i : Nat} {d : Da}, ds[i]? = some d → d.dep ≤ Da.deps ds
  | [], _, _, e => by simp at e
  | x :: ds, 0, d, e => by
    simp at e; subst e
    simp only [Da.deps]; exact Nat.le_max_left _ _
  | x :: ds, i + 1, d, e => by
    have := dep_mem (ds := ds) (i := i) (d := d) (by simpa using e)
    simp only [Da.deps]; exact Nat.le_trans this (Nat.le_max_right _ _)
mutual
/-- no list too long -/
def Da.wok : Da → Bool
  | .tup ds => decide (ds.length ≤ SZ) && Da.woks ds
  | .lst ds => decide (ds.length ≤ SZ) && Da.woks ds
  | _ => true
def Da.woks : List Da → Bool
  | [] => true
  | d :: ds => Da.wok d && Da.woks ds
end
theorem woks_mem : ∀ {ds : List Da} {d : Da}, Da.woks ds = true → d ∈ ds → d.wok = true
  | [], _, _, h => by cases h
  | x :: ds, d, w, h => by
    simp only [Da.woks, Bool.and_eq_true] at w
    rcases List.mem_cons.mp h with rfl | h
    · exact w.1
    · exact woks_mem w.2 h
theorem isBls_rep : ∀ k : Nat, isBls (List.replicate k (.bl true)) = some (List.replicate k true)
  | 0 => rfl
  | k + 1 => by simp [List.replicate_succ, isBls, isBls_rep k]
theorem zw_at {xs ys : List Vl} {i : Nat} {x : Vl} (h : (List.zipWith (fun a b => Vl.tup [a, b]) xs ys)[i]? = some x) : ∃ a b, xs[i]? = some a ∧ ys[i]? = some b ∧ x = .tup [a, b] := by
  rw [List.getElem?_zipWith] at h
  cases e1 : xs[i]? with
  | none => simp [e1] at h
  | some a =>
    cases e2 : ys[i]? with
    | none => simp [e1, e2] at h
    | some b => simp [e1, e2] at h; exact ⟨a, b, rfl, rfl, h.symm⟩
theorem deps_mem {ds : List Da} {i : Nat} {d : Da} (e : ds[i]? = some d) : d.dep ≤ Da.deps ds := dep_mem e
theorem eqv_refl : ∀ d : Da, d.eqv d = true := Da.rec (motive_1 := fun d => d.eqv d = true) (motive_2 := fun ds => Da.eqvs ds ds = true) (by simp [Da.eqv]) (fun _ => by simp [Da.eqv]) (fun _ => by simp [Da.eqv]) (fun _ => by simp [Da.eqv])
  (fun _ h => by simpa only [Da.eqv] using h) (fun _ h => by simpa only [Da.eqv] using h) (by simp [Da.eqvs]) (fun _ _ h1 h2 => by simp [Da.eqvs, h1, h2])

/-! things that stand beside the box; data that is compared -/
/-- o stands at a, and a is none of the box -/
def At (p c : Nat) (r : List (Nat × Ob)) (a : Nat) (o : Ob) : Prop := a ≠ p ∧ a ≠ c ∧ look r a = some o
section
variable {p c T a q : Nat} {b r : List (Nat × Ob)} {o u : Ob}
theorem At.get (w : At p c r a o) (hb : Box p c T b) : KN.get ⟨b, r⟩ a = some o := by rw [hb.get w.1 w.2.1]; exact w.2.2
/-- a place where nothing stands -/
def Fr (p c : Nat) (r : List (Nat × Ob)) (a : Nat) : Prop := a ≠ p ∧ a ≠ c ∧ look r a = none
theorem Fr.of (hb : Box p c T b) (n : KN.get ⟨b, r⟩ q = none) : Fr p c r q := by
  have h := hb.ne n
  exact ⟨h.1, h.2, by rw [← hb.get h.1 h.2]; exact n⟩
theorem Fr.get (w : Fr p c r q) (hb : Box p c T b) : KN.get ⟨b, r⟩ q = none := by rw [hb.get w.1 w.2.1]; exact w.2.2
theorem At.nfr (w : At p c r a o) (n : Fr p c r q) : a ≠ q := by
  rintro rfl; have := w.2.2; rw [n.2.2] at this; cases this
theorem At.push (w : At p c r a o) (n : Fr p c r q) : At p c ((q, u) :: r) a o := ⟨w.1, w.2.1, by simp [look, w.nfr n, w.2.2]⟩
theorem At.new (n : Fr p c r q) : At p c ((q, u) :: r) q u := ⟨n.1, n.2.1, by simp [look]⟩
theorem At.put (w : At p c r a o) (hb : Box p c T b) : KN.put ⟨b, r⟩ a u = ⟨b, lput r a u⟩ := by
  unfold KN.put
  rw [hb.look w.1 w.2.1]
/-- something stands there -/
def Th (p c : Nat) (r : List (Nat × Ob)) (a : Nat) : Prop := a ≠ p ∧ a ≠ c ∧ look r a ≠ none
theorem Th.of (w : At p c r a o) : Th p c r a := ⟨w.1, w.2.1, by rw [w.2.2]; simp⟩
theorem Th.push (w : Th p c r a) : Th p c ((q, u) :: r) a := ⟨w.1, w.2.1, by simp only [look]; split <;> simp [w.2.2]⟩
theorem Th.new (n : Fr p c r q) : Th p c ((q, u) :: r) q := ⟨n.1, n.2.1, by simp [look]⟩
theorem Th.lput (w : Th p c r a) : Th p c (lput r q u) a := ⟨w.1, w.2.1, by
  rw [look_lput]
  split
  · rename_i e; subst e; cases z : look r a with
    | none => exact absurd z w.2.2
    | some _ => simp
  · exact w.2.2⟩
theorem At.lput_self (w : Th p c r a) : At p c (KN.lput r a u) a u := ⟨w.1, w.2.1, by
  rw [look_lput, if_pos rfl]
  cases z : look r a with
  | none => exact absurd z w.2.2
  | some _ => rfl⟩
theorem At.lput_ne (w : At p c r a o) (n : a ≠ q) : At p c (lput r q u) a o := ⟨w.1, w.2.1, by rw [look_lput, if_neg n]; exact w.2.2⟩
theorem At.ne {a' : Nat} {o' : Ob} (w : At p c r a o) (w' : At p c r a' o') (n : o ≠ o') : a ≠ a' := by
  rintro rfl; have := w'.2.2; rw [w.2.2] at this; exact n (Option.some.inj this)
theorem push_mk : KN.push ⟨b, r⟩ q o = ⟨b, (q, o) :: r⟩ := rfl
end
/-! data -/
def DV (h : AH) (v : Vl) (d : Da) (n : Nat) : Prop := DL h v d ∧ d.dep ≤ n ∧ d.ok = true ∧ d.wok = true
def DVs (h : AH) (vs : List Vl) (ds : List Da) (n : Nat) : Prop := DLs h vs ds ∧ Da.deps ds ≤ n ∧ Da.oks ds = true ∧ Da.woks ds = true
section
variable {h h' : AH} {n : Nat}
theorem dv_int {i : Int} : DV h (.int i) (.int i) n := ⟨by simp [DL], by simp [Da.dep], rfl, rfl⟩
theorem dv_bl {i : Bool} : DV h (.bl i) (.bl i) n := ⟨by simp [DL], by simp [Da.dep], rfl, rfl⟩
theorem dv_non : DV h .non .non n := ⟨by simp [DL], by simp [Da.dep], rfl, rfl⟩
theorem dv_str {s : List Nat} (w : (s.all fun c => decide (c < 1114112)) = true) : DV h (.str s) (.str s) n := ⟨by simp [DL], by simp [Da.dep], by simpa only [Da.ok] using w, rfl⟩
theorem dvs_nil : DVs h [] [] n := ⟨by simp [DLs], by simp [Da.deps], rfl, rfl⟩
theorem dvs_cons {v : Vl} {d : Da} {vs : List Vl} {ds : List Da} (a : DV h v d n) (b : DVs h vs ds n) : DVs h (v :: vs) (d :: ds) n := by
  refine ⟨?_, ?_, ?_, ?_⟩
  · simp only [DLs]; exact ⟨v, vs, rfl, a.1, b.1⟩
  · simp only [Da.deps]; exact Nat.max_le.mpr ⟨a.2.1, b.2.1⟩
  · simp only [Da.oks, a.2.2.1, b.2.2.1, Bool.and_self]
  · simp only [Da.woks, a.2.2.2, b.2.2.2, Bool.and_self]
theorem DVs.len {vs : List Vl} {ds : List Da} (w : DVs h vs ds n) : vs.length = ds.length := w.1.len
theorem dv_tup {vs : List Vl} {ds : List Da} (w : DVs h vs ds n) (hz : vs.length ≤ SZ) : DV h (.tup vs) (.tup ds) (n + 1) := by
  refine ⟨?_, ?_, ?_, ?_⟩
  · simp only [DL]; exact ⟨vs, rfl, w.1⟩
  · simp only [Da.dep]; have := w.2.1; omega
  · simp only [Da.ok]; exact w.2.2.1
  · simp only [Da.wok, w.2.2.2, Bool.and_true, decide_eq_true_eq]; rw [← w.len]; exact hz
theorem dv_lst {a : Nat} {vs : List Vl} {ds : List Da} (g : get h a = some (.lst vs)) (w : DVs h vs ds n) (hz : vs.length ≤ SZ) : DV h (.ref a) (.lst ds) (n + 1) := by
  refine ⟨?_, ?_, ?_, ?_⟩
  · simp only [DL]; exact ⟨a, vs, rfl, g, w.1⟩
  · simp only [Da.dep]; have := w.2.1; omega
  · simp only [Da.ok]; exact w.2.2.1
  · simp only [Da.wok, w.2.2.2, Bool.and_true, decide_eq_true_eq]; rw [← w.len]; exact hz
theorem dvs_map {α : Type} {f : α → Vl} {g : α → Da} : ∀ {xs : List α}, (∀ x, x ∈ xs → DV h (f x) (g x) n) → DVs h (xs.map f) (xs.map g) n
  | [], _ => dvs_nil
  | x :: xs, w => dvs_cons (w x (by simp)) (dvs_map fun y m => w y (List.mem_cons_of_mem _ m))
theorem dvs_ints {ns : List Int} : DVs h (ns.map Vl.int) (ns.map Da.int) n := dvs_map fun _ _ => dv_int
theorem DV.mono {v : Vl} {d : Da} {m : Nat} (w : DV h v d n) (l : n ≤ m) : DV h v d m := ⟨w.1, Nat.le_trans w.2.1 l, w.2.2⟩
mutual
theorem DL.sub (s : Sub h h') : ∀ (d : Da) {v : Vl}, DL h v d → DL h' v d
  | .non, _, x => by simpa only [DL] using x
  | .bl _, _, x => by simpa only [DL] using x
  | .int _, _, x => by simpa only [DL] using x
  | .str _, _, x => by simpa only [DL] using x
  | .tup ds, _, x => by
    simp only [DL] at x ⊢
    obtain ⟨vs, e, x⟩ := x
    exact ⟨vs, e, DLs.sub s ds x⟩
  | .lst ds, _, x => by
    simp only [DL] at x ⊢
    obtain ⟨a, vs, e, g, x⟩ := x
    exact ⟨a, vs, e, s _ _ g, DLs.sub s ds x⟩
theorem DLs.sub (s : Sub h h') : ∀ (ds : List Da) {vs : List Vl}, DLs h vs ds → DLs h' vs ds
  | [], _, x => by simpa only [DLs] using x
  | d :: ds, _, x => by
    simp only [DLs] at x ⊢
    obtain ⟨v, ws, e, x, y⟩ := x
    exact ⟨v, ws, e, DL.sub s d x, DLs.sub s ds y⟩
end
theorem DV.sub {v : Vl} {d : Da} (w : DV h v d n) (s : Sub h h') : DV h' v d n := ⟨w.1.sub s, w.2⟩
theorem o_eqD {x y : Vl} {d e : Da} {Q : Qv} (hx : DaOf h x d) (hy : DaOf h y e) (k1 : d.dep ≤ 60 ∧ d.ok = true) (k2 : e.dep ≤ 60 ∧ e.ok = true) (q : Q (.bl (d.eqv e)) h) : wOp .eq x y h Q := by
  have key : wEq false x y h Q := ⟨d, e, hx, hy, k1, k2, q⟩
  cases x <;> cases y <;> first | exact key | skip
  rename_i s t
  have e1 : d = .str s := by cases d <;> simp_all [DaOf]
  have e2 : e = .str t := by cases e <;> simp_all [DaOf]
  subst e1 e2
  simpa [wOp, Da.eqv, Bool.beq_eq_decide_eq] using q
theorem o_neD {x y : Vl} {d e : Da} {Q : Qv} (hx : DaOf h x d) (hy : DaOf h y e) (k1 : d.dep ≤ 60 ∧ d.ok = true) (k2 : e.dep ≤ 60 ∧ e.ok = true) (q : Q (.bl (!d.eqv e)) h) : wOp .ne x y h Q := by
  have key : wEq true x y h Q := ⟨d, e, hx, hy, k1, k2, q⟩
  cases x <;> cases y <;> first | exact key | skip
  rename_i s t
  have e1 : d = .str s := by cases d <;> simp_all [DaOf]
  have e2 : e = .str t := by cases e <;> simp_all [DaOf]
  subst e1 e2
  simpa [wOp, Da.eqv, Bool.beq_eq_decide_eq] using q
theorem o_eqV {x y : Vl} {d e : Da} {Q : Qv} (hx : DV h x d n) (hy : DV h y e n) (hn : n ≤ 60) (q : Q (.bl (d.eqv e)) h) : wOp .eq x y h Q :=
  o_eqD (DL.da d hx.1) (DL.da e hy.1) ⟨Nat.le_trans hx.2.1 hn, hx.2.2.1⟩ ⟨Nat.le_trans hy.2.1 hn, hy.2.2.1⟩ q
theorem o_neV {x y : Vl} {d e : Da} {Q : Qv} (hx : DV h x d n) (hy : DV h y e n) (hn : n ≤ 60) (q : Q (.bl (!d.eqv e)) h) : wOp .ne x y h Q :=
  o_neD (DL.da d hx.1) (DL.da e hy.1) ⟨Nat.le_trans hx.2.1 hn, hx.2.2.1⟩ ⟨Nat.le_trans hy.2.1 hn, hy.2.2.1⟩ q
theorem o_eqR {x y : Vl} {d : Da} {Q : Qv} (hx : DV h x d n) (hy : DV h y d n) (hn : n ≤ 60) (q : Q (.bl true) h) : wOp .eq x y h Q := o_eqV hx hy hn (by rw [eqv_refl]; exact q)
theorem o_neR {x y : Vl} {d : Da} {Q : Qv} (hx : DV h x d n) (hy : DV h y d n) (hn : n ≤ 60) (q : Q (.bl false) h) : wOp .ne x y h Q := o_neV hx hy hn (by rw [eqv_refl]; exact q)
theorem eqvs_ints : ∀ xs ys : List Int, Da.eqvs (xs.map Da.int) (ys.map Da.int) = decide (xs = ys)
  | [], [] => by simp [Da.eqvs]
  | [], _ :: _ => by simp [Da.eqvs]
  | _ :: _, [] => by simp [Da.eqvs]
  | x :: xs, y :: ys => by
    simp only [List.map_cons, Da.eqvs, Da.eqv, eqvs_ints xs ys, List.cons.injEq, Bool.decide_and]
    rw [Bool.beq_eq_decide_eq]
/-- lists of ints compared -/
theorem o_eqIs {a b : Nat} {xs ys : List Int} {Q : Qv} (ga : get h a = some (.lst (xs.map Vl.int))) (gb : get h b = some (.lst (ys.map Vl.int))) (h1 : xs.length ≤ SZ) (h2 : ys.length ≤ SZ) (q : Q (.bl (decide (xs = ys))) h) : wOp .eq (.ref a) (.ref b) h Q :=
  o_eqV (n := 1) (dv_lst ga dvs_ints (by simpa using h1)) (dv_lst gb dvs_ints (by simpa using h2)) (by decide) (by rw [Da.eqv, eqvs_ints]; exact q)
theorem o_neIs {a b : Nat} {xs ys : List Int} {Q : Qv} (ga : get h a = some (.lst (xs.map Vl.int))) (gb : get h b = some (.lst (ys.map Vl.int))) (h1 : xs.length ≤ SZ) (h2 : ys.length ≤ SZ) (q : Q (.bl (!decide (xs = ys))) h) : wOp .ne (.ref a) (.ref b) h Q :=
  o_neV (n := 1) (dv_lst ga dvs_ints (by simpa using h1)) (dv_lst gb dvs_ints (by simpa using h2)) (by decide) (by rw [Da.eqv, eqvs_ints]; exact q)
/-- a list beside the empty one -/
theorem o_eqE {a b : Nat} {xs : List Vl} {ds : List Da} {Q : Qv} (ga : get h a = some (.lst xs)) (gb : get h b = some (.lst [])) (w : DVs h xs ds n) (hn : n < 60) (hz : xs.length ≤ SZ) (q : Q (.bl xs.isEmpty) h) : wOp .eq (.ref a) (.ref b) h Q :=
  o_eqV (n := n + 1) (dv_lst ga w hz) (dv_lst gb dvs_nil (by simp)) (by omega) (by
    have : Da.eqv (.lst ds) (.lst []) = xs.isEmpty := by
      have l := w.len
      cases ds <;> cases xs <;> simp_all [Da.eqv, Da.eqvs]
    rw [this]; exact q)
theorem o_neE {a b : Nat} {xs : List Vl} {ds : List Da} {Q : Qv} (ga : get h a = some (.lst xs)) (gb : get h b = some (.lst [])) (w : DVs h xs ds n) (hn : n < 60) (hz : xs.length ≤ SZ) (q : Q (.bl (!xs.isEmpty)) h) : wOp .ne (.ref a) (.ref b) h Q :=
  o_neV (n := n + 1) (dv_lst ga w hz) (dv_lst gb dvs_nil (by simp)) (by omega) (by
    have : Da.eqv (.lst ds) (.lst []) = xs.isEmpty := by
      have l := w.len
      cases ds <;> cases xs <;> simp_all [Da.eqv, Da.eqvs]
    rw [this]; exact q)
end
section
variable {p c T T' a q : Nat} {b b' r r' r0 : List (Nat × Ob)} {o u : Ob} {Q : Qv}
/-- what stood beside the box still stands -/
def RX (p c : Nat) (r r' : List (Nat × Ob)) : Prop := ∀ a o, At p c r a o → At p c r' a o
theorem RX.refl : RX p c r r := fun _ _ w => w
theorem RX.at (x : RX p c r r') (w : At p c r a o) : At p c r' a o := x a o w
theorem Th.rx (x : RX p c r r') (w : Th p c r a) : Th p c r' a := by
  cases z : look r a with
  | none => exact absurd z w.2.2
  | some o => exact Th.of (x a o ⟨w.1, w.2.1, z⟩)
theorem RX.trans {r2 : List (Nat × Ob)} (x : RX p c r r') (y : RX p c r' r2) : RX p c r r2 := fun a o w => y a o (x a o w)
theorem RX.push (x : RX p c r r') (n : Fr p c r' q) : RX p c r ((q, u) :: r') := fun a o w => (x a o w).push n
theorem RX.lput (x : RX p c r r') (n : ∀ o, ¬ At p c r q o) : RX p c r (lput r' q u) := fun a o w => (x a o w).lput_ne (by rintro rfl; exact n _ w)
theorem notAt (n : Fr p c r q) : ∀ o, ¬ At p c r q o := fun o w => w.nfr n rfl
theorem n_newB {b r : List (Nat × Ob)} (hb : Box p c T b) (q : ∀ p0, Fr p c r p0 → Q (.ref p0) ⟨b, (p0, o) :: r⟩) : wNew ⟨b, r⟩ o Q := fun p0 n => q p0 (Fr.of hb n)
theorem RX.fr (x : RX p c r r') (n : Fr p c r' q) : Fr p c r q := by
  refine ⟨n.1, n.2.1, ?_⟩
  cases e : look r q with
  | none => rfl
  | some o => have := (x q o ⟨n.1, n.2.1, e⟩).2.2; rw [n.2.2] at this; cases this
theorem Fr.old (n : Fr p c ((a, u) :: r) q) : Fr p c r q ∧ q ≠ a := by
  have := n.2.2
  by_cases z : q = a
  · subst z; simp [look] at this
  · simp [look, z] at this; exact ⟨⟨n.1, n.2.1, this⟩, z⟩
theorem Sub_box (hb : Box p c T b) (x : RX p c r0 r) : Sub ⟨b, r0⟩ ⟨b, r⟩ := by
  intro y v e
  by_cases h : y = p ∨ y = c
  · obtain ⟨t, cs, h1, rfl, _⟩ := hb
    rcases h with rfl | rfl <;> simpa [KN.get, look, Ne.symm h1] using e
  · have h1 : y ≠ p := fun z => h (.inl z)
    have h2 : y ≠ c := fun z => h (.inr z)
    rw [hb.get h1 h2] at e
    exact (x y v ⟨h1, h2, e⟩).get hb
theorem RX.new (x : RX p c r0 r) (w : At p c r q u) : RX p c ((q, u) :: r0) r := by
  intro y v e
  by_cases z : y = q
  · subst z
    have := e.2.2
    simp only [look, if_pos rfl, if_true] at this
    cases this; exact w
  · exact x y v ⟨e.1, e.2.1, by have := e.2.2; simpa [look, z] using this⟩

variable {xs ys : List Vl} {v : Vl} {h : AH} {F : AH → Prop}
theorem m_appendB (hb : Box p c T b) (w : At p c r a (.lst xs)) (hz : xs.length < SZ) (q : Q .non ⟨b, lput r a (.lst (xs ++ [v]))⟩) : wMt .lst .append (.ref a) [v] ⟨b, r⟩ Q := m_append (w.get hb) hz (by rw [w.put hb]; exact q)
theorem x_setB {i : Int} {j : Nat} (w : At p c r a (.lst xs)) (hb : Box p c T b) (hi : i = (j : Int)) (hj : j < xs.length) (hz : xs.length ≤ 4611686018427387904) (q : F ⟨b, lput r a (.lst (xs.set j v))⟩) : wSetIx (.ref a) (.int i) v ⟨b, r⟩ F := x_set (w.get hb) hi hj hz (by rw [w.put hb]; exact q)
end
theorem Sub.nil {h h' : AH} {p : Nat} (s : Sub h h') (n : get h' p = none) : get h p = none := by
  cases z : get h p with
  | none => rfl
  | some o => rw [s p o z] at n; cases n
theorem Sub.put {h h' : AH} {p : Nat} {o : Ob} (s : Sub h h') (n : get h p = none) : Sub h (KN.put h' p o) := fun x u e => by
  rw [get_put_ne (ne_of_get e n)]; exact s x u e
theorem any_ints {i : Int} : ∀ {ns : List Int}, ((ns.map Da.int).any fun z => z.eqv (.int i)) = decide (i ∈ ns)
  | [] => rfl
  | n :: ns => by
    rw [List.map_cons, List.any_cons, any_ints (ns := ns)]
    simp only [Da.eqv, List.mem_cons]
    by_cases h : n = i
    · subst h; simp
    · have : ¬ i = n := fun z => h z.symm
      simp [h, this]
theorem o_inIs {h : AH} {Q : Qv} {i : Int} {a : Nat} {ns : List Int} (g : get h a = some (.lst (ns.map Vl.int))) (hz : ns.length ≤ SZ) (q : Q (.bl (decide (i ∈ ns))) h) : wOp .in_ (.int i) (.ref a) h Q := by
  have w : DV h (.ref a) (.lst (ns.map Da.int)) 1 := dv_lst g dvs_ints (by simpa using hz)
  refine .inl ⟨.int i, ns.map Da.int, by simp [DaOf], DL.da _ w.1, ⟨by simp [Da.dep], rfl⟩, ⟨by have := w.2.1; omega, w.2.2.1⟩, ?_⟩
  rw [any_ints]; simpa using q
theorem o_ninIs {h : AH} {Q : Qv} {i : Int} {a : Nat} {ns : List Int} (g : get h a = some (.lst (ns.map Vl.int))) (hz : ns.length ≤ SZ) (q : Q (.bl (!decide (i ∈ ns))) h) : wOp .nin (.int i) (.ref a) h Q := by
  have w : DV h (.ref a) (.lst (ns.map Da.int)) 1 := dv_lst g dvs_ints (by simpa using hz)
  refine .inl ⟨.int i, ns.map Da.int, by simp [DaOf], DL.da _ w.1, ⟨by simp [Da.dep], rfl⟩, ⟨by have := w.2.1; omega, w.2.2.1⟩, ?_⟩
  rw [any_ints]; simpa using q
theorem put_b {h : AH} {a : Nat} {o : Ob} (e : look h.b a = none) : (KN.put h a o).b = h.b := by
  unfold KN.put; rw [e]
end KN

local macro_rules | `(tactic| walk_at "kn_ar") => `(tactic| first | omega | (unfold KN.MulOk; omega) | assumption | decide)
local macro_rules | `(tactic| walk_at "kn_sz") => `(tactic| first | assumption | (simp only [List.length_cons, List.length_nil, List.length_append, List.length_map, List.length_set, List.length_replicate, KN.SZ] at *; omega) | (simp [KN.SZ] at *; omega))
local macro_rules | `(tactic| walk_at "kn_ne") => `(tactic| first | assumption | exact Ne.symm (by assumption) | (intro kn_z; subst kn_z; simp_all))
local macro_rules | `(tactic| walk_at "kn_get") => `(tactic| first | assumption | (refine KN.At.get ?_ (by assumption); walk_at "kn_at") | exact KN.get_push_self (by assumption) | (refine KN.get_push_old (by assumption) ?_; walk_at "kn_get") | (apply KN.get_put_self; walk_at "kn_get") | (refine (KN.get_put_ne ?_).trans ?_; walk_at "kn_ne"; walk_at "kn_get"))
local macro_rules | `(tactic| walk_at "kn_pow") => `(tactic| first | (simp only [Int.reduceToNat, Int.reducePow]; done) | (simp only [Int.reduceToNat, Int.reducePow]; rfl) | rfl)
local macro_rules | `(tactic| walk_at "kn_th") => `(tactic| first | exact KN.Th.of (by assumption) | exact KN.Th.new (by assumption) | (refine KN.Th.push ?_; walk_at "kn_th") | (refine KN.Th.lput ?_; walk_at "kn_th") | (refine KN.Th.rx (by assumption) ?_; walk_at "kn_th"))
local macro_rules | `(tactic| walk_at "kn_at") => `(tactic| first | assumption | exact KN.At.new (by assumption) | (refine KN.At.push ?_ (by assumption); walk_at "kn_at") | (refine KN.RX.at (by assumption) ?_; walk_at "kn_at") | (refine KN.At.lput_self ?_; walk_at "kn_th") | (refine KN.At.lput_ne ?_ ?_; rotate_left; walk_at "kn_ne"; walk_at "kn_at"))
local macro_rules | `(tactic| walk_at "kn_call") => `(tactic| fail)
local macro_rules | `(tactic| walk_at "kn_1") => `(tactic| with_reducible first
  | refine KN.s_seq ?_
  | refine KN.s_asg ?_
  | (refine' KN.e_var ?ks0 ?_; (case ks0 => with_unfolding_all rfl))
  | refine KN.e_int ?_
  | refine KN.e_op ?_
  | refine KN.a_cons ?_
  | refine KN.a_nil ?_
  | refine KN.e_call ?_
  | (refine' KN.e_callv ?ks0 ?_; (case ks0 => with_unfolding_all rfl))
  | refine KN.e_tup ?_
  | refine KN.e_ix ?_
  | refine KN.g_var ?_
  | (refine' KN.g_tup ?ks0 ?_; (case ks0 => with_unfolding_all rfl))
  | refine KN.gs_cons ?_
  | refine KN.gs_nil ?_
  | refine KN.s_ret ?_
  | refine KN.s_expr ?_
  | refine KN.s_rais ?_
  | refine KN.s_try ?_
  | refine KN.s_tryh ?_
  | refine KN.s_tryn ?_
  | refine KN.s_augS ?_
  | refine KN.m_sindex ?_
  | refine KN.m_starts ?_
  | refine KN.t_op ?_
  | refine KN.e_bi ?_
  | refine KN.e_str ?_
  | refine KN.e_bl ?_
  | refine KN.e_non ?_
  | refine KN.e_neg ?_
  | refine KN.e_notv ?_
  | refine KN.e_and ?_
  | refine KN.e_or ?_
  | refine KN.e_lst ?_
  | refine KN.e_slc ?_
  | refine KN.p_non ?_
  | refine KN.p_one ?_
  | refine KN.e_mt ?_
  | refine KN.e_isa ?_
  | refine KN.e_attrK ?_
  | (refine' KN.attr_ok ?ks0 ?ks1 ?_; (case ks0 => walk_at "kn_get"); (case ks1 => with_unfolding_all rfl))
  | refine KN.e_make ?_
  | refine KN.e_cm ?_
  | refine KN.g_attr ?_
  | refine KN.t_not ?_
  | refine KN.t_and ?_
  | refine KN.t_or ?_
  | (refine' KN.t_var ?ks0 ?ks1 ?_; (case ks0 => with_unfolding_all rfl); (case ks1 => with_unfolding_all rfl))
  | refine KN.t_isa ?_
  | refine KN.t_call ?_
  | refine KN.t_bi ?_
  | refine KN.t_ix ?_
  | refine KN.t_mt ?_
  | refine KN.t_bl ?_
  | refine KN.t_chain ?_
  | refine KN.e_chain ?_
  | refine KN.t_chain3 ?_
  | refine KN.e_chain3 ?_
  | refine KN.e_dct ?_
  | refine KN.e_lc ?_
  | refine KN.g_ix ?_
  | refine KN.s_skip ?_
  | refine KN.s_retN ?_
  | refine KN.s_brk ?_
  | refine KN.s_cnt ?_
  | refine KN.s_for ?_
  | refine KN.i_seq ?_
  | refine KN.i_rng ?_
  | refine KN.i_zip ?_
  | refine KN.i_zip3 ?_
  | refine KN.i_enum ?_
  | refine KN.i_rev ?_
  | refine KN.e_lrg ?_
  | refine KN.e_nset ?_
  | refine KN.e_sset ?_
  | refine KN.e_strd ?_
  | refine KN.e_rev ?_
  | (refine' KN.lrg_ok ?ks0 ?ks1 ?_; (case ks0 => walk_at "kn_ar"); (case ks1 => walk_at "kn_sz"))
  | refine KN.o_add ?_
  | refine KN.o_sub ?_
  | (refine' KN.o_mul ?ks0 ?_; (case ks0 => walk_at "kn_ar"))
  | (refine' KN.o_modP ?ks0 ?_; (case ks0 => walk_at "kn_ar"))
  | (refine' KN.o_fdivP ?ks0 ?ks1 ?_; (case ks0 => walk_at "kn_ar"); (case ks1 => walk_at "kn_ar"))
  | (refine' KN.o_powL ?ks0 ?ks1 ?_; (case ks0 => walk_at "kn_pow"); (case ks1 => walk_at "kn_ar"))
  | refine KN.b_abs ?_
  | refine KN.b_max2 ?_
  | refine KN.b_min2 ?_
  | refine KN.b_int1b ?_
  | refine KN.b_int1c ?_
  | refine KN.b_int1i ?_
  | (refine' KN.b_lenL ?ks0 ?_; (case ks0 => walk_at "kn_get"))
  | (refine' KN.b_lenR ?ks0 ?_; (case ks0 => walk_at "kn_get"))
  | refine KN.b_lenT ?_
  | (refine' KN.b_divmod ?ks0 ?ks1 ?_; (case ks0 => walk_at "kn_ar"); (case ks1 => walk_at "kn_ar"))
  | (refine' KN.b_tuple1L ?ks0 ?_; (case ks0 => walk_at "kn_get"))
  | (refine' KN.b_list1L ?ks0 ?_; (case ks0 => walk_at "kn_get"))
  | refine KN.b_list1T ?_
  | (refine' KN.b_list1S ?ks0 ?_; (case ks0 => walk_at "kn_sz"))
  | (refine' KN.c_lstL ?ks0 ?_; (case ks0 => walk_at "kn_get"))
  | (refine' KN.o_addL ?ks0 ?ks1 ?ks2 ?_; (case ks0 => walk_at "kn_get"); (case ks1 => walk_at "kn_get"); (case ks2 => walk_at "kn_sz"))
  | (refine' KN.e_glob ?ks0 ?_; (case ks0 => assumption))
  | (refine' KN.b_lenS ?ks0 ?_; (case ks0 => walk_at "kn_sz"))
  | (refine' KN.s_aug ?ks0 ?_; (case ks0 => with_unfolding_all rfl))
  | refine KN.u_add ?_
  | refine KN.u_sub ?_
  | (refine' KN.u_mul ?ks0 ?_; (case ks0 => walk_at "kn_ar"))
  | (refine' KN.u_addS ?ks0 ?_; (case ks0 => walk_at "kn_sz"))
  | (refine' KN.o_addS ?ks0 ?_; (case ks0 => walk_at "kn_sz"))
  | refine KN.o_eqS ?_
  | refine KN.o_neS ?_
  | (refine' KN.c_str ?ks0 ?_; (case ks0 => walk_at "kn_sz"))
  | refine KN.if_t ?_
  | refine KN.if_f ?_
  | refine KN.ex_bl ?_
  | refine KN.ex_int ?_
  | (refine' KN.rng_ok ?ks0 ?_; (case ks0 => walk_at "kn_ar"))
  | (refine' KN.zip_L ?ks0 ?ks1 ?_; (case ks0 => walk_at "kn_get"); (case ks1 => walk_at "kn_get"))
  | refine KN.zip_T ?_
  | (refine' KN.zip_SL ?ks0 ?_; (case ks0 => walk_at "kn_get"))
  | (refine' KN.zip_LS ?ks0 ?_; (case ks0 => walk_at "kn_get"))
  | refine KN.zip_SS ?_
  | refine KN.seq_T ?_
  | (refine' KN.seq_L ?ks0 ?_; (case ks0 => walk_at "kn_get"))
  | (refine' KN.seq_S ?ks0 ?_; (case ks0 => walk_at "kn_sz"))
  | (refine' KN.enum_L ?ks0 ?_; (case ks0 => walk_at "kn_get"))
  | refine KN.enum_S ?_
  | (refine' KN.rvk_ok ?ks0 ?_; (case ks0 => walk_at "kn_get"))
  | (refine' KN.rvk_str ?ks0 ?_; (case ks0 => walk_at "kn_sz"))
  | refine KN.rvk_tup ?_
  | (refine' KN.rev_L ?ks0 ?_; (case ks0 => walk_at "kn_get"))
  | (refine' KN.x_tup ?ks0 ?_; (case ks0 => with_unfolding_all rfl))
  | (refine' KN.cm_ok ?ks0 ?ks1 ?_; (case ks0 => walk_at "kn_get"); (case ks1 => assumption))
  | (refine' KN.sz_ok ?ks0 ?_; (case ks0 => walk_at "kn_sz"))
  | (refine' KN.rk_lst ?ks0 rfl ?_; (case ks0 => walk_at "kn_get"))
  | refine KN.rk_str rfl ?_
  | (refine' KN.rk_dct ?ks0 rfl ?_; (case ks0 => walk_at "kn_get"))
  | (refine' KN.m_dget2 ?ks0 rfl ?_; (case ks0 => walk_at "kn_get"))
  | refine KN.o_isBl ?_
  | refine KN.o_isnBl ?_
  | (refine' KN.m_appendB ?ks0 ?ks1 ?ks2 ?_; (case ks0 => assumption); (case ks1 => walk_at "kn_at"); (case ks2 => walk_at "kn_sz"))
  | (refine' KN.m_append ?ks0 ?ks1 ?_; (case ks0 => walk_at "kn_get"); (case ks1 => walk_at "kn_sz"))
  | (refine' KN.m_reverse ?ks0 ?_; (case ks0 => walk_at "kn_get"))
  | (refine' KN.m_clear ?ks0 ?_; (case ks0 => walk_at "kn_get"))
  | refine KN.ex_tr rfl ?_
  | refine KN.ex_isa rfl ?_
  | (refine' KN.ex_trL ?ks0 ?_; (case ks0 => walk_at "kn_get"))
  | (refine' KN.ex_isaL ?ks0 rfl rfl ?_; (case ks0 => walk_at "kn_get"))
  | (refine' KN.ex_isaX ?ks0 ?_; (case ks0 => walk_at "kn_get"))
  | (refine' KN.ex_isaV ?ks0 ?_; (case ks0 => walk_at "kn_get"))
  | refine KN.o_isNon ?_
  | refine KN.o_isnN ?_
  | refine KN.o_eqB ?_
  | refine KN.o_neB ?_
  | (refine' KN.if_tt ?ks0 ?_; (case ks0 => with_unfolding_all rfl))
  | (refine' KN.if_ff ?ks0 ?_; (case ks0 => with_unfolding_all rfl))
  | (refine' KN.n_newB ?ks1 ?_; (case ks1 => assumption); intro _ _)
  | (refine' KN.x_last ?ks1 ?_; (case ks1 => walk_at "kn_get"))
  | (refine' KN.x_lst ?ks1 ?ks2 ?_; (case ks1 => walk_at "kn_get"); (case ks2 => with_unfolding_all rfl))
  | (refine' KN.x_pick1 ?ks1 ?ks2 ?ks3 ?_; (case ks1 => walk_at "kn_get"); (case ks2 => walk_at "kn_ar"); (case ks3 => walk_at "kn_ar"); intro _ _)
  | (refine' KN.x_pick2 ?ks1 ?ks2 ?ks3 ?_; (case ks1 => walk_at "kn_get"); (case ks2 => walk_at "kn_ar"); (case ks3 => walk_at "kn_ar"); intro _ _)
  | (refine' KN.x_pick3 ?ks1 ?ks2 ?ks3 ?_; (case ks1 => walk_at "kn_get"); (case ks2 => walk_at "kn_ar"); (case ks3 => walk_at "kn_ar"); intro _ _)
  | (refine' KN.x_pick4 ?ks1 ?ks2 ?ks3 ?_; (case ks1 => walk_at "kn_get"); (case ks2 => walk_at "kn_ar"); (case ks3 => walk_at "kn_ar"); intro _ _)
  | (refine' KN.x_pick5 ?ks1 ?ks2 ?ks3 ?_; (case ks1 => walk_at "kn_get"); (case ks2 => walk_at "kn_ar"); (case ks3 => walk_at "kn_ar"); intro _ _)
  | (refine' KN.x_pick6 ?ks1 ?ks2 ?ks3 ?_; (case ks1 => walk_at "kn_get"); (case ks2 => walk_at "kn_ar"); (case ks3 => walk_at "kn_ar"); intro _ _)
  | (refine' KN.x_pick7 ?ks1 ?ks2 ?ks3 ?_; (case ks1 => walk_at "kn_get"); (case ks2 => walk_at "kn_ar"); (case ks3 => walk_at "kn_ar"); intro _ _)
  | (refine' KN.x_pick8 ?ks1 ?ks2 ?ks3 ?_; (case ks1 => walk_at "kn_get"); (case ks2 => walk_at "kn_ar"); (case ks3 => walk_at "kn_ar"); intro _ _)
  | walk_at "kn_call")
local macro_rules | `(tactic| walk_at "kn_t") => `(tactic| with_reducible first
  | refine KN.s_ife ?_
  | refine KN.e_ite ?_
  | refine KN.t_lt (fun _ => ?_) (fun _ => ?_)
  | refine KN.t_le (fun _ => ?_) (fun _ => ?_)
  | refine KN.t_gt (fun _ => ?_) (fun _ => ?_)
  | refine KN.t_ge (fun _ => ?_) (fun _ => ?_)
  | refine KN.t_eqI (fun _ => ?_) (fun _ => ?_)
  | refine KN.t_neI (fun _ => ?_) (fun _ => ?_)
  | refine KN.o_lt ?_
  | refine KN.o_le ?_
  | refine KN.o_gt ?_
  | refine KN.o_ge ?_
  | refine KN.o_eqI ?_
  | refine KN.o_neI ?_)
local macro_rules | `(tactic| walk_at "kn") => `(tactic| repeat (walk_at "kn_1"))
local macro_rules | `(tactic| walk_at "knb") => `(tactic| repeat (with_reducible first | walk_at "kn_1" | refine KN.s_ife ?_ | refine KN.e_ite ?_))
local macro_rules | `(tactic| walk_at "kns") => `(tactic| repeat' (first | walk_at "kn_1" | walk_at "kn_t"))

namespace KN
def f__law_take : Fn := ⟨2, 7, .seq (.asg (.var 2) (.op (.add) (.ix (.var 0) (.str [116, 117, 114, 110])) (.int 1))) (.seq (.asg (.ix (.var 0) (.str [116, 117, 114, 110])) (.var 2)) (.seq (.asg (.var 3) (.op (.mod) (.var 2) (.bi (.len) (.cons (.ix (.var 0) (.str [99, 101, 108, 108, 115])) (.nil))))) (.seq (.asg (.var 4) (.ix (.ix (.var 0) (.str [99, 101, 108, 108, 115])) (.var 3))) (.seq (.ife (.op (.ge) (.var 4) (.op (.pow) (.int 10) (.int 18))) (.seq (.asg (.tup (.cons (.ix (.ix (.var 0) (.str [99, 101, 108, 108, 115])) (.var 3)) (.cons (.var 5) (.nil)))) (.bi (.divmod) (.cons (.var 4) (.cons (.var 1) (.nil))))) (.seq (.ret (.var 5)) (.skip))) (.skip)) (.seq (.asg (.var 6) (.op (.mod) (.op (.mul) (.op (.add) (.op (.add) (.op (.add) (.op (.mod) (.var 4) (.int 2147483629)) (.op (.mul) (.op (.mul) (.int 3) (.var 2)) (.var 2))) (.op (.mul) (.int 17) (.var 2))) (.int 5)) (.int 48271)) (.int 2147483647))) (.seq (.asg (.var 6) (.op (.mod) (.op (.mul) (.var 6) (.op (.add) (.op (.mod) (.var 6) (.int 998244353)) (.op (.mul) (.int 7919) (.var 2)))) (.int 2147483587))) (.seq (.ret (.op (.mod) (.op (.fdiv) (.op (.mod) (.op (.mul) (.var 6) (.op (.add) (.op (.mod) (.var 6) (.int 1000003)) (.var 2))) (.int 2147483563)) (.int 32)) (.var 1))) (.skip))))))))⟩
def f__law_begin : Fn := ⟨1, 1, .seq (.ret (.dct [.s [99, 101, 108, 108, 115], .s [116, 117, 114, 110]] (.cons (.op (.add) (.bi (.list1) (.cons (.slc (.var 0) (.non) (.one (.int 63))) (.nil))) (.op (.mul) (.lst (.cons (.int 5) (.nil))) (.bi (.int1) (.cons (.op (.eq) (.bi (.len) (.cons (.var 0) (.nil))) (.int 0)) (.nil))))) (.cons (.int 0) (.nil))))) (.skip)⟩
def f__law_same : Fn := ⟨2, 4, .seq (.ife (.op (.is_) (.var 1) (.non)) (.seq (.ret (.op (.is_) (.var 0) (.non))) (.skip)) (.skip)) (.seq (.ife (.isa (.var 1) [.bool]) (.seq (.ret (.and (.isa (.var 0) [.bool]) (.op (.eq) (.var 0) (.var 1)))) (.skip)) (.skip)) (.seq (.ife (.isa (.var 1) [.list, .tuple]) (.seq (.ife (.or (.op (.ne) (.isa (.var 0) [.list]) (.isa (.var 1) [.list])) (.op (.ne) (.isa (.var 0) [.tuple]) (.isa (.var 1) [.tuple]))) (.seq (.ret (.bl false)) (.skip)) (.skip)) (.seq (.ret (.and (.op (.eq) (.bi (.len) (.cons (.var 0) (.nil))) (.bi (.len) (.cons (.var 1) (.nil)))) (.bi (.all1) (.cons (.lc (.call 5 (.cons (.var 2) (.cons (.var 3) (.nil)))) [2, 3] (.tup (.cons (.var 2) (.cons (.var 3) (.nil)))) (.izip (.var 0) (.var 1)) (.bl true)) (.nil))))) (.skip))) (.skip)) (.seq (.ife (.isa (.var 1) [.str]) (.seq (.ret (.and (.isa (.var 0) [.str]) (.op (.eq) (.var 0) (.var 1)))) (.skip)) (.skip)) (.seq (.ret (.and (.isa (.var 0) [.int]) (.and (.notv (.isa (.var 0) [.bool])) (.op (.eq) (.var 0) (.var 1))))) (.skip)))))⟩
def f_divisor_of : Fn := ⟨2, 2, .seq (.asg (.tup (.cons (.var 0) (.cons (.var 1) (.nil)))) (.tup (.cons (.bi (.abs) (.cons (.var 0) (.nil))) (.cons (.bi (.abs) (.cons (.var 1) (.nil))) (.nil))))) (.seq (.whl (.op (.gt) (.var 1) (.int 0)) (.seq (.asg (.tup (.cons (.var 0) (.cons (.var 1) (.nil)))) (.tup (.cons (.var 1) (.cons (.op (.mod) (.var 0) (.var 1)) (.nil))))) (.skip))) (.seq (.ret (.var 0)) (.skip)))⟩
def f_part_of : Fn := ⟨2, 3, .seq (.asg (.var 2) (.call 1 (.cons (.var 0) (.cons (.var 1) (.nil))))) (.seq (.ife (.op (.lt) (.var 1) (.int 0)) (.seq (.asg (.var 2) (.neg (.var 2))) (.skip)) (.skip)) (.seq (.ret (.tup (.cons (.op (.fdiv) (.var 0) (.var 2)) (.cons (.op (.fdiv) (.var 1) (.var 2)) (.nil))))) (.skip)))⟩
def f_sum_of : Fn := ⟨1, 4, .seq (.asg (.var 1) (.tup (.cons (.int 0) (.cons (.int 1) (.nil))))) (.seq (.for_ (.tup (.cons (.var 2) (.cons (.var 3) (.nil)))) (.iseq (.var 0)) (.seq (.asg (.var 1) (.call 2 (.cons (.op (.add) (.op (.mul) (.ix (.var 1) (.int 0)) (.var 3)) (.op (.mul) (.var 2) (.ix (.var 1) (.int 1)))) (.cons (.op (.mul) (.ix (.var 1) (.int 1)) (.var 3)) (.nil))))) (.skip))) (.seq (.ret (.var 1)) (.skip)))⟩
def f_times : Fn := ⟨2, 2, .seq (.ret (.call 2 (.cons (.op (.mul) (.ix (.var 0) (.int 0)) (.ix (.var 1) (.int 0))) (.cons (.op (.mul) (.ix (.var 0) (.int 1)) (.ix (.var 1) (.int 1))) (.nil))))) (.skip)⟩
def f__law_divisor : Fn := ⟨2, 2, .seq (.asg (.tup (.cons (.var 0) (.cons (.var 1) (.nil)))) (.tup (.cons (.bi (.abs) (.cons (.var 0) (.nil))) (.cons (.bi (.abs) (.cons (.var 1) (.nil))) (.nil))))) (.seq (.whl (.op (.gt) (.var 1) (.int 0)) (.seq (.asg (.tup (.cons (.var 0) (.cons (.var 1) (.nil)))) (.tup (.cons (.var 1) (.cons (.op (.mod) (.var 0) (.var 1)) (.nil))))) (.skip))) (.seq (.ret (.bi (.max2) (.cons (.int 1) (.cons (.var 0) (.nil))))) (.skip)))⟩
def f__law_part : Fn := ⟨2, 3, .seq (.asg (.var 2) (.op (.mul) (.call 7 (.cons (.var 0) (.cons (.var 1) (.nil)))) (.ite (.op (.gt) (.var 1) (.int 0)) (.int 1) (.neg (.int 1))))) (.seq (.ret (.tup (.cons (.op (.fdiv) (.var 0) (.var 2)) (.cons (.op (.fdiv) (.var 1) (.var 2)) (.nil))))) (.skip))⟩
def f_part_text : Fn := ⟨1, 3, .seq (.asg (.tup (.cons (.var 1) (.cons (.var 2) (.nil)))) (.var 0)) (.seq (.ret (.ite (.op (.eq) (.var 2) (.int 1)) (.strd (.var 1)) (.op (.add) (.op (.add) (.strd (.var 1)) (.str [47])) (.strd (.var 2))))) (.skip))⟩
def f_number_in : Fn := ⟨1, 1, .seq (.ife (.or (.not (.chain (.le) (.le) (.int 1) (.bi (.len) (.cons (.var 0) (.nil))) (.glob 2))) (.op (.ne) (.mt (.strip) (.var 0) (.cons (.glob 1) (.nil))) (.str []))) (.seq (.ret (.non)) (.skip)) (.skip)) (.seq (.ret (.bi (.int1) (.cons (.var 0) (.nil)))) (.skip))⟩
def f_part_in : Fn := ⟨1, 7, .seq (.asg (.tup (.cons (.var 1) (.cons (.var 2) (.cons (.var 3) (.nil))))) (.mt (.partition) (.var 0) (.cons (.str [47]) (.nil)))) (.seq (.asg (.var 4) (.call 16 (.cons (.ite (.mt (.startswith) (.var 1) (.cons (.str [45]) (.nil))) (.slc (.var 1) (.one (.int 1)) (.non)) (.var 1)) (.nil)))) (.seq (.asg (.var 5) (.ite (.op (.ne) (.var 2) (.str [])) (.call 16 (.cons (.var 3) (.nil))) (.int 1))) (.seq (.ife (.or (.op (.is_) (.var 4) (.non)) (.or (.op (.is_) (.var 5) (.non)) (.op (.eq) (.var 5) (.int 0)))) (.seq (.rais 1 (.str [110, 111, 32, 112, 97, 114, 116])) (.skip)) (.skip)) (.seq (.asg (.var 6) (.call 2 (.cons (.ite (.mt (.startswith) (.var 1) (.cons (.str [45]) (.nil))) (.neg (.var 4)) (.var 4)) (.cons (.var 5) (.nil))))) (.seq (.ife (.op (.ne) (.call 15 (.cons (.var 6) (.nil))) (.var 0)) (.seq (.rais 1 (.str [97, 32, 112, 97, 114, 116, 32, 119, 114, 105, 116, 116, 101, 110, 32, 111, 116, 104, 101, 114, 119, 105, 115, 101])) (.skip)) (.skip)) (.seq (.ret (.var 6)) (.skip)))))))⟩
def f__law_sign : Fn := ⟨1, 2, .seq (.asg (.var 1) (.str [32, 33, 34, 35, 36, 38, 39, 40, 41, 42, 43, 44, 45, 46, 47, 48, 49, 50, 51, 52, 53, 54, 55, 56, 57, 58, 59, 60, 61, 62, 63, 64, 65, 66, 67, 68, 69, 70, 71, 72, 73, 74, 75, 76, 77, 78, 79, 80, 81, 82, 83, 84, 85, 86, 87, 88, 89, 90, 91, 92, 93, 94, 95, 96, 97, 98, 99, 100, 101, 102, 103, 104, 105, 106, 107, 108, 109, 110, 111, 112, 113, 114, 115, 116, 117, 118, 119, 120, 121, 122, 123, 124, 125, 126, 10])) (.seq (.ret (.ix (.var 1) (.call 4 (.cons (.var 0) (.cons (.bi (.len) (.cons (.var 1) (.nil))) (.nil)))))) (.skip))⟩
def f__law_number : Fn := ⟨1, 3, .seq (.asg (.tup (.cons (.var 1) (.cons (.var 2) (.nil)))) (.tup (.cons (.call 4 (.cons (.var 0) (.cons (.int 5) (.nil)))) (.cons (.op (.sub) (.int 1) (.op (.mul) (.int 2) (.call 4 (.cons (.var 0) (.cons (.int 2) (.nil)))))) (.nil))))) (.seq (.ife (.op (.eq) (.var 1) (.int 0)) (.seq (.ret (.op (.mul) (.var 2) (.call 4 (.cons (.var 0) (.cons (.op (.pow) (.int 10) (.int 12)) (.nil)))))) (.skip)) (.skip)) (.seq (.ife (.op (.eq) (.var 1) (.int 1)) (.seq (.ret (.op (.mul) (.op (.mul) (.var 2) (.op (.mul) (.op (.mul) (.op (.mul) (.int 2) (.int 3)) (.int 5)) (.int 7))) (.call 4 (.cons (.var 0) (.cons (.int 40) (.nil)))))) (.skip)) (.skip)) (.seq (.ret (.op (.mul) (.var 2) (.call 4 (.cons (.var 0) (.cons (.ix (.lst (.cons (.int 13) (.cons (.int 61) (.cons (.int 1000) (.nil))))) (.op (.sub) (.var 1) (.int 2))) (.nil)))))) (.skip))))⟩
def f__law_any_part : Fn := ⟨1, 3, .seq (.asg (.tup (.cons (.var 1) (.cons (.var 2) (.nil)))) (.tup (.cons (.call 6 (.cons (.var 0) (.nil))) (.cons (.call 6 (.cons (.var 0) (.nil))) (.nil))))) (.seq (.ret (.call 8 (.cons (.var 1) (.cons (.ite (.op (.ne) (.var 2) (.int 0)) (.var 2) (.int 1)) (.nil))))) (.skip))⟩
def f__law_text : Fn := ⟨1, 3, .seq (.asg (.tup (.cons (.var 1) (.cons (.var 2) (.nil)))) (.tup (.cons (.str []) (.cons (.bi (.abs) (.cons (.ix (.var 0) (.int 0)) (.nil))) (.nil))))) (.seq (.whl (.or (.op (.gt) (.var 2) (.int 0)) (.op (.eq) (.var 1) (.str []))) (.seq (.asg (.var 1) (.op (.add) (.ix (.str [48, 49, 50, 51, 52, 53, 54, 55, 56, 57]) (.op (.mod) (.var 2) (.int 10))) (.var 1))) (.seq (.asg (.var 2) (.op (.fdiv) (.var 2) (.int 10))) (.skip)))) (.seq (.asg (.var 1) (.op (.add) (.op (.mul) (.str [45]) (.bi (.int1) (.cons (.op (.lt) (.ix (.var 0) (.int 0)) (.int 0)) (.nil)))) (.var 1))) (.seq (.ife (.op (.eq) (.ix (.var 0) (.int 1)) (.int 1)) (.seq (.ret (.var 1)) (.skip)) (.skip)) (.seq (.ret (.op (.add) (.op (.add) (.var 1) (.str [47])) (.call 19 (.cons (.tup (.cons (.ix (.var 0) (.int 1)) (.cons (.int 1) (.nil)))) (.nil))))) (.skip)))))⟩
def f__law_figures : Fn := ⟨1, 2, .seq (.ife (.or (.not (.chain (.lt) (.lt) (.int 0) (.bi (.len) (.cons (.var 0) (.nil))) (.int 13))) (.or (.not (.bi (.all1) (.cons (.lc (.op (.in_) (.var 1) (.str [48, 49, 50, 51, 52, 53, 54, 55, 56, 57])) [1] (.var 1) (.iseq (.var 0)) (.bl true)) (.nil)))) (.and (.op (.eq) (.ix (.var 0) (.int 0)) (.str [48])) (.op (.ne) (.var 0) (.str [48]))))) (.seq (.ret (.non)) (.skip)) (.skip)) (.seq (.ret (.bi (.int1) (.cons (.var 0) (.nil)))) (.skip))⟩
def f__law_walked : Fn := ⟨1, 5, .seq (.asg (.var 1) (.mt (.split) (.var 0) (.cons (.str [47]) (.nil)))) (.seq (.asg (.var 2) (.op (.eq) (.slc (.var 0) (.non) (.one (.int 1))) (.str [45]))) (.seq (.asg (.var 3) (.call 20 (.cons (.slc (.ix (.var 1) (.int 0)) (.one (.bi (.int1) (.cons (.var 2) (.nil)))) (.non)) (.nil)))) (.seq (.ife (.or (.op (.gt) (.bi (.len) (.cons (.var 1) (.nil))) (.int 2)) (.or (.op (.is_) (.var 3) (.non)) (.and (.var 2) (.op (.eq) (.var 3) (.int 0))))) (.seq (.ret (.non)) (.skip)) (.skip)) (.seq (.asg (.var 4) (.ite (.op (.eq) (.bi (.len) (.cons (.var 1) (.nil))) (.int 1)) (.int 1) (.call 20 (.cons (.ix (.var 1) (.int 1)) (.nil))))) (.seq (.ife (.or (.op (.is_) (.var 4) (.non)) (.or (.and (.op (.eq) (.bi (.len) (.cons (.var 1) (.nil))) (.int 2)) (.op (.lt) (.var 4) (.int 2))) (.op (.ne) (.call 7 (.cons (.var 3) (.cons (.var 4) (.nil)))) (.int 1)))) (.seq (.ret (.non)) (.skip)) (.skip)) (.seq (.ret (.tup (.cons (.ite (.var 2) (.neg (.var 3)) (.var 3)) (.cons (.var 4) (.nil))))) (.skip)))))))⟩
def f__law_told : Fn := ⟨1, 4, .seq (.asg (.var 1) (.non)) (.seq (.tryh (.seq (.asg (.var 1) (.call 17 (.cons (.var 0) (.nil)))) (.skip)) 0 (some 2) (.seq (.asg (.var 3) (.isa (.var 2) [.cls 9, .cls 2, .cls 5, .cls 3, .cls 4, .cls 7, .cls 6, .cls 8])) (.seq (.ife (.or (.not (.isa (.var 2) [.cls 1])) (.or (.not (.isa (.var 2) [.valErr])) (.var 3))) (.seq (.asg (.var 1) (.bl true)) (.skip)) (.skip)) (.skip)))) (.seq (.ret (.var 1)) (.skip)))⟩
def f__law_changed : Fn := ⟨3, 5, .seq (.asg (.tup (.cons (.var 3) (.cons (.var 4) (.nil)))) (.tup (.cons (.call 4 (.cons (.var 0) (.cons (.int 9) (.nil)))) (.cons (.call 4 (.cons (.var 0) (.cons (.op (.add) (.bi (.len) (.cons (.var 1) (.nil))) (.int 1)) (.nil)))) (.nil))))) (.seq (.ife (.op (.lt) (.var 3) (.int 2)) (.seq (.ret (.op (.add) (.op (.add) (.slc (.var 1) (.non) (.one (.var 4))) (.call 18 (.cons (.var 0) (.nil)))) (.slc (.var 1) (.one (.op (.add) (.var 4) (.var 3))) (.non)))) (.skip)) (.skip)) (.seq (.ife (.op (.eq) (.var 3) (.int 2)) (.seq (.ret (.op (.add) (.slc (.var 1) (.non) (.one (.var 4))) (.slc (.var 1) (.one (.op (.add) (.var 4) (.int 1))) (.non)))) (.skip)) (.skip)) (.seq (.ife (.op (.eq) (.var 3) (.int 3)) (.seq (.ret (.op (.add) (.op (.add) (.slc (.var 1) (.non) (.one (.var 4))) (.rev (.slc (.var 1) (.one (.var 4)) (.one (.op (.add) (.var 4) (.int 2)))))) (.slc (.var 1) (.one (.op (.add) (.var 4) (.int 2))) (.non)))) (.skip)) (.skip)) (.seq (.ife (.op (.eq) (.var 3) (.int 4)) (.seq (.ret (.op (.add) (.op (.add) (.slc (.var 1) (.non) (.one (.var 4))) (.ix (.str [48, 49, 50, 51, 52, 53, 54, 55, 56, 57]) (.call 4 (.cons (.var 0) (.cons (.int 10) (.nil)))))) (.slc (.var 1) (.one (.var 4)) (.non)))) (.skip)) (.skip)) (.seq (.ife (.op (.eq) (.var 3) (.int 5)) (.seq (.ret (.op (.add) (.op (.add) (.slc (.var 1) (.non) (.one (.var 4))) (.str [48])) (.slc (.var 1) (.one (.var 4)) (.non)))) (.skip)) (.skip)) (.seq (.ife (.op (.eq) (.var 3) (.int 6)) (.seq (.ret (.op (.add) (.op (.add) (.var 1) (.str [47])) (.strd (.call 4 (.cons (.var 0) (.cons (.int 12) (.nil))))))) (.skip)) (.skip)) (.seq (.ife (.op (.eq) (.var 3) (.int 7)) (.seq (.ret (.op (.add) (.op (.add) (.strd (.op (.mul) (.ix (.var 2) (.int 0)) (.int 2))) (.str [47])) (.strd (.op (.mul) (.ix (.var 2) (.int 1)) (.int 2))))) (.skip)) (.skip)) (.seq (.ret (.ix (.lst (.cons (.op (.add) (.var 1) (.var 1)) (.cons (.op (.add) (.str [45]) (.var 1)) (.cons (.op (.add) (.str [43]) (.var 1)) (.cons (.op (.add) (.op (.add) (.strd (.ix (.var 2) (.int 0))) (.str [47])) (.strd (.ix (.var 2) (.int 1)))) (.nil)))))) (.call 4 (.cons (.var 0) (.cons (.int 4) (.nil)))))) (.skip)))))))))⟩
def f_law : Fn := ⟨1, 9, .seq (.asg (.var 1) (.call 3 (.cons (.var 0) (.nil)))) (.seq (.for_ (.var 2) (.irng (.int 0) (.int 6)) (.seq (.asg (.var 3) (.call 13 (.cons (.var 1) (.nil)))) (.seq (.asg (.var 4) (.call 19 (.cons (.var 3) (.nil)))) (.seq (.ife (.not (.call 5 (.cons (.lst (.cons (.call 15 (.cons (.var 3) (.nil))) (.cons (.call 17 (.cons (.var 4) (.nil))) (.nil)))) (.cons (.lst (.cons (.var 4) (.cons (.var 3) (.nil)))) (.nil))))) (.seq (.ret (.bl false)) (.skip)) (.skip)) (.seq (.for_ (.var 5) (.irng (.int 0) (.int 6)) (.seq (.asg (.var 6) (.call 23 (.cons (.var 1) (.cons (.var 4) (.cons (.var 3) (.nil)))))) (.seq (.ife (.op (.eq) (.call 4 (.cons (.var 1) (.cons (.int 4) (.nil)))) (.int 0)) (.seq (.asg (.var 6) (.call 23 (.cons (.var 1) (.cons (.var 6) (.cons (.var 3) (.nil)))))) (.skip)) (.skip)) (.seq (.ife (.not (.call 5 (.cons (.call 22 (.cons (.var 6) (.nil))) (.cons (.call 21 (.cons (.var 6) (.nil))) (.nil))))) (.seq (.ret (.bl false)) (.skip)) (.skip)) (.skip))))) (.skip)))))) (.seq (.asg (.var 7) (.op (.add) (.op (.add) (.str [49]) (.mt (.join) (.str []) (.cons (.lc (.strd (.call 4 (.cons (.var 1) (.cons (.int 10) (.nil))))) [8] (.var 8) (.irng (.int 0) (.int 11)) (.bl true)) (.nil)))) (.str [55]))) (.seq (.ret (.op (.eq) (.lc (.call 22 (.cons (.var 4) (.nil))) [4] (.var 4) (.iseq (.tup (.cons (.str []) (.cons (.op (.mul) (.str [57]) (.int 13)) (.cons (.str [48, 47, 49]) (.cons (.op (.add) (.str [49, 47]) (.var 7)) (.cons (.var 7) (.cons (.op (.add) (.op (.add) (.str [45]) (.var 7)) (.str [47, 50])) (.nil))))))))) (.bl true)) (.op (.mul) (.lst (.cons (.non) (.nil))) (.int 6)))) (.skip))))⟩
end KN
namespace KN
open PySem PyProof.Rows
/-! the text by places -/
def top (i : Nat) : Stmt := PySem.Challenge.pw_meanbits_k03_texts_of_parts.main.body.getD i (.Pass ⟨0, 0, 0, 0⟩)
def T0 : Tab := ⟨[(Str.ofString "divisor_of", 1, 2), (Str.ofString "part_of", 2, 2), (Str.ofString "part_text", 15, 1), (Str.ofString "number_in", 16, 1), (Str.ofString "part_in", 17, 1), (Str.ofString "_law_begin", 3, 1), (Str.ofString "_law_take", 4, 2), (Str.ofString "_law_same", 5, 2), (Str.ofString "_law_divisor", 7, 2), (Str.ofString "_law_sign", 18, 1), (Str.ofString "_law_number", 6, 1), (Str.ofString "_law_part", 8, 2), (Str.ofString "_law_any_part", 13, 1), (Str.ofString "_law_text", 19, 1), (Str.ofString "_law_figures", 20, 1), (Str.ofString "_law_walked", 21, 1), (Str.ofString "_law_told", 22, 1), (Str.ofString "_law_changed", 23, 3), (Str.ofString "law", 9, 1)], [(Str.ofString "FIGURES", 1), (Str.ofString "MOST_FIGURES", 2)], [], [], [], [Str.ofString "ValueError", Str.ofString "abs", Str.ofString "all", Str.ofString "bool", Str.ofString "divmod", Str.ofString "int", Str.ofString "isinstance", Str.ofString "len", Str.ofString "list", Str.ofString "max", Str.ofString "range", Str.ofString "str", Str.ofString "tuple", Str.ofString "zip"], [(Str.ofString "BitsError", 0, true), (Str.ofString "BadPart", 1, true), (Str.ofString "NoPlace", 2, true), (Str.ofString "NoStart", 3, true), (Str.ofString "NoTop", 4, true), (Str.ofString "NoShare", 5, true), (Str.ofString "TooShort", 6, true), (Str.ofString "TooMuch", 7, true), (Str.ofString "UnlikeRows", 8, true), (Str.ofString "BadSheet", 9, false)], []⟩
def D1 : FD := ⟨1, "divisor_of", "divisor_of", "divisor_of", top 14, ["one", "other"], ["one", "other"], f_divisor_of⟩
def D2 : FD := ⟨2, "part_of", "part_of", "part_of", top 15, ["top", "below", "divisor"], ["top", "below"], f_part_of⟩
def D15 : FD := ⟨15, "part_text", "part_text", "part_text", top 16, ["part", "top", "below"], ["part"], f_part_text⟩
def D16 : FD := ⟨16, "number_in", "number_in", "number_in", top 17, ["text"], ["text"], f_number_in⟩
def D17 : FD := ⟨17, "part_in", "part_in", "part_in", top 18, ["text", "top", "stroke", "below", "size", "under", "part"], ["text"], f_part_in⟩
def D3 : FD := ⟨3, "_law_begin", "_law_begin", "_law_begin", top 20, ["_law_script"], ["_law_script"], f__law_begin⟩
def D4 : FD := ⟨4, "_law_take", "_law_take", "_law_take", top 21, ["_law_box", "_law_many", "_law_turn", "_law_place", "_law_cell", "_law_digit", "_law_drawn"], ["_law_box", "_law_many"], f__law_take⟩
def D5 : FD := ⟨5, "_law_same", "_law_same", "_law_same", top 22, ["_law_found", "_law_due", "_law_one", "_law_other"], ["_law_found", "_law_due"], f__law_same⟩
def D7 : FD := ⟨7, "_law_divisor", "_law_divisor", "_law_divisor", top 23, ["_law_one", "_law_other"], ["_law_one", "_law_other"], f__law_divisor⟩
def D18 : FD := ⟨18, "_law_sign", "_law_sign", "_law_sign", top 24, ["_law_box", "_law_some"], ["_law_box"], f__law_sign⟩
def D6 : FD := ⟨6, "_law_number", "_law_number", "_law_number", top 25, ["_law_box", "_law_way", "_law_sign_here"], ["_law_box"], f__law_number⟩
def D8 : FD := ⟨8, "_law_part", "_law_part", "_law_part", top 26, ["_law_top", "_law_below", "_law_divisor_here"], ["_law_top", "_law_below"], f__law_part⟩
def D13 : FD := ⟨13, "_law_any_part", "_law_any_part", "_law_any_part", top 27, ["_law_box", "_law_top", "_law_below"], ["_law_box"], f__law_any_part⟩
def D19 : FD := ⟨19, "_law_text", "_law_text", "_law_text", top 28, ["_law_part_here", "_law_text_here", "_law_size"], ["_law_part_here"], f__law_text⟩
def D20 : FD := ⟨20, "_law_figures", "_law_figures", "_law_figures", top 29, ["_law_text_here", "_law_sign_here"], ["_law_text_here"], f__law_figures⟩
def D21 : FD := ⟨21, "_law_walked", "_law_walked", "_law_walked", top 30, ["_law_text_here", "_law_words", "_law_minus", "_law_top", "_law_below"], ["_law_text_here"], f__law_walked⟩
def D22 : FD := ⟨22, "_law_told", "_law_told", "_law_told", top 31, ["_law_text_here", "_law_found", "error", "_law_others"], ["_law_text_here"], f__law_told⟩
def D23 : FD := ⟨23, "_law_changed", "_law_changed", "_law_changed", top 32, ["_law_box", "_law_text_here", "_law_part_here", "_law_way", "_law_at"], ["_law_box", "_law_text_here", "_law_part_here"], f__law_changed⟩
def D9 : FD := ⟨9, "law", "law", "law", top 33, ["_law_script", "_law_box", "_law_turn", "_law_part_here", "_law_text_here", "_law_again", "_law_bent", "_law_long", "_law_place"], ["_law_script"], f_law⟩
def DS : List FD := [D1, D2, D15, D16, D17, D3, D4, D5, D7, D18, D6, D8, D13, D19, D20, D21, D22, D23, D9]
def FS : List FD := [D1, D2, D15, D16, D17, D3, D4, D5, D7, D18, D6, D8, D13, D19, D20, D21, D22, D23, D9]
def CS : List CD := []
def P0 : PG := { fns := (fun f => match f with | 1 => some f_divisor_of | 2 => some f_part_of | 15 => some f_part_text | 16 => some f_number_in | 17 => some f_part_in | 3 => some f__law_begin | 4 => some f__law_take | 5 => some f__law_same | 7 => some f__law_divisor | 18 => some f__law_sign | 6 => some f__law_number | 8 => some f__law_part | 13 => some f__law_any_part | 19 => some f__law_text | 20 => some f__law_figures | 21 => some f__law_walked | 22 => some f__law_told | 23 => some f__law_changed | 9 => some f_law | _ => none), glob := (fun g => match g with | 1 => some (.str [48, 49, 50, 51, 52, 53, 54, 55, 56, 57]) | 2 => some (.int 12) | _ => none), meth := (fun c m => match c, m with  | _, _ => none), init := (fun c => match c with  | _ => none), sub := fun c d => c == d || d == 0, shw := shwD }
theorem tx1 : FB D1 ∧ D1.chk = true ∧ P0.fns D1.id = some D1.fn ∧ cSs 60 (D1.cc T0) (L2.defBody D1.st) = some D1.fn.body :=
  ⟨fun _ _ _ _ _ _ us hl => match us, hl with | [_, _], _ => rfl, by decide +kernel, rfl, by decide +kernel⟩
theorem tx2 : FB D2 ∧ D2.chk = true ∧ P0.fns D2.id = some D2.fn ∧ cSs 60 (D2.cc T0) (L2.defBody D2.st) = some D2.fn.body :=
  ⟨fun _ _ _ _ _ _ us hl => match us, hl with | [_, _], _ => rfl, by decide +kernel, rfl, by decide +kernel⟩
theorem tx15 : FB D15 ∧ D15.chk = true ∧ P0.fns D15.id = some D15.fn ∧ cSs 60 (D15.cc T0) (L2.defBody D15.st) = some D15.fn.body :=
  ⟨fun _ _ _ _ _ _ us hl => match us, hl with | [_], _ => rfl, by decide +kernel, rfl, by decide +kernel⟩
theorem tx16 : FB D16 ∧ D16.chk = true ∧ P0.fns D16.id = some D16.fn ∧ cSs 60 (D16.cc T0) (L2.defBody D16.st) = some D16.fn.body :=
  ⟨fun _ _ _ _ _ _ us hl => match us, hl with | [_], _ => rfl, by decide +kernel, rfl, by decide +kernel⟩
theorem tx17 : FB D17 ∧ D17.chk = true ∧ P0.fns D17.id = some D17.fn ∧ cSs 60 (D17.cc T0) (L2.defBody D17.st) = some D17.fn.body :=
  ⟨fun _ _ _ _ _ _ us hl => match us, hl with | [_], _ => rfl, by decide +kernel, rfl, by decide +kernel⟩
theorem tx3 : FB D3 ∧ D3.chk = true ∧ P0.fns D3.id = some D3.fn ∧ cSs 60 (D3.cc T0) (L2.defBody D3.st) = some D3.fn.body :=
  ⟨fun _ _ _ _ _ _ us hl => match us, hl with | [_], _ => rfl, by decide +kernel, rfl, by decide +kernel⟩
theorem tx4 : FB D4 ∧ D4.chk = true ∧ P0.fns D4.id = some D4.fn ∧ cSs 60 (D4.cc T0) (L2.defBody D4.st) = some D4.fn.body :=
  ⟨fun _ _ _ _ _ _ us hl => match us, hl with | [_, _], _ => rfl, by decide +kernel, rfl, by decide +kernel⟩
theorem tx5 : FB D5 ∧ D5.chk = true ∧ P0.fns D5.id = some D5.fn ∧ cSs 60 (D5.cc T0) (L2.defBody D5.st) = some D5.fn.body :=
  ⟨fun _ _ _ _ _ _ us hl => match us, hl with | [_, _], _ => rfl, by decide +kernel, rfl, by decide +kernel⟩
theorem tx7 : FB D7 ∧ D7.chk = true ∧ P0.fns D7.id = some D7.fn ∧ cSs 60 (D7.cc T0) (L2.defBody D7.st) = some D7.fn.body :=
  ⟨fun _ _ _ _ _ _ us hl => match us, hl with | [_, _], _ => rfl, by decide +kernel, rfl, by decide +kernel⟩
theorem tx18 : FB D18 ∧ D18.chk = true ∧ P0.fns D18.id = some D18.fn ∧ cSs 60 (D18.cc T0) (L2.defBody D18.st) = some D18.fn.body :=
  ⟨fun _ _ _ _ _ _ us hl => match us, hl with | [_], _ => rfl, by decide +kernel, rfl, by decide +kernel⟩
theorem tx6 : FB D6 ∧ D6.chk = true ∧ P0.fns D6.id = some D6.fn ∧ cSs 60 (D6.cc T0) (L2.defBody D6.st) = some D6.fn.body :=
  ⟨fun _ _ _ _ _ _ us hl => match us, hl with | [_], _ => rfl, by decide +kernel, rfl, by decide +kernel⟩
theorem tx8 : FB D8 ∧ D8.chk = true ∧ P0.fns D8.id = some D8.fn ∧ cSs 60 (D8.cc T0) (L2.defBody D8.st) = some D8.fn.body :=
  ⟨fun _ _ _ _ _ _ us hl => match us, hl with | [_, _], _ => rfl, by decide +kernel, rfl, by decide +kernel⟩
theorem tx13 : FB D13 ∧ D13.chk = true ∧ P0.fns D13.id = some D13.fn ∧ cSs 60 (D13.cc T0) (L2.defBody D13.st) = some D13.fn.body :=
  ⟨fun _ _ _ _ _ _ us hl => match us, hl with | [_], _ => rfl, by decide +kernel, rfl, by decide +kernel⟩
theorem tx19 : FB D19 ∧ D19.chk = true ∧ P0.fns D19.id = some D19.fn ∧ cSs 60 (D19.cc T0) (L2.defBody D19.st) = some D19.fn.body :=
  ⟨fun _ _ _ _ _ _ us hl => match us, hl with | [_], _ => rfl, by decide +kernel, rfl, by decide +kernel⟩
theorem tx20 : FB D20 ∧ D20.chk = true ∧ P0.fns D20.id = some D20.fn ∧ cSs 60 (D20.cc T0) (L2.defBody D20.st) = some D20.fn.body :=
  ⟨fun _ _ _ _ _ _ us hl => match us, hl with | [_], _ => rfl, by decide +kernel, rfl, by decide +kernel⟩
theorem tx21 : FB D21 ∧ D21.chk = true ∧ P0.fns D21.id = some D21.fn ∧ cSs 60 (D21.cc T0) (L2.defBody D21.st) = some D21.fn.body :=
  ⟨fun _ _ _ _ _ _ us hl => match us, hl with | [_], _ => rfl, by decide +kernel, rfl, by decide +kernel⟩
theorem tx22 : FB D22 ∧ D22.chk = true ∧ P0.fns D22.id = some D22.fn ∧ cSs 60 (D22.cc T0) (L2.defBody D22.st) = some D22.fn.body :=
  ⟨fun _ _ _ _ _ _ us hl => match us, hl with | [_], _ => rfl, by decide +kernel, rfl, by decide +kernel⟩
theorem tx23 : FB D23 ∧ D23.chk = true ∧ P0.fns D23.id = some D23.fn ∧ cSs 60 (D23.cc T0) (L2.defBody D23.st) = some D23.fn.body :=
  ⟨fun _ _ _ _ _ _ us hl => match us, hl with | [_, _, _], _ => rfl, by decide +kernel, rfl, by decide +kernel⟩
theorem tx9 : FB D9 ∧ D9.chk = true ∧ P0.fns D9.id = some D9.fn ∧ cSs 60 (D9.cc T0) (L2.defBody D9.st) = some D9.fn.body :=
  ⟨fun _ _ _ _ _ _ us hl => match us, hl with | [_], _ => rfl, by decide +kernel, rfl, by decide +kernel⟩
theorem fnsT : ∀ e ∈ T0.fns, ∃ d ∈ FS, d.gn = e.1 ∧ d.id = e.2.1 ∧ d.ps.length = e.2.2 := by decide +kernel
theorem subT : ∀ d ∈ FS, d ∈ DS := by
  intro d hd
  simp only [FS, DS, List.mem_cons, List.not_mem_nil, or_false] at hd ⊢
  rcases hd with rfl | rfl | rfl | rfl | rfl | rfl | rfl | rfl | rfl | rfl | rfl | rfl | rfl | rfl | rfl | rfl | rfl | rfl | rfl <;> simp
theorem prgT : PrgT P0 T0 DS FS CS := by
  refine ⟨rfl, fun x f n h => ?_, fun x i n h => ?_, fun y m n h => ?_, fun d hd => ?_, fun d hd hh => ?_⟩
  · obtain ⟨d, h1, h2⟩ := fnsT _ h
    exact ⟨d, h1, subT d h1, h2⟩
  · exact absurd h (by simp [T0])
  · exact absurd h (by simp [T0])
  · simp only [DS, List.mem_cons, List.not_mem_nil, or_false] at hd
    rcases hd with rfl | rfl | rfl | rfl | rfl | rfl | rfl | rfl | rfl | rfl | rfl | rfl | rfl | rfl | rfl | rfl | rfl | rfl | rfl
    · exact tx1
    · exact tx2
    · exact tx15
    · exact tx16
    · exact tx17
    · exact tx3
    · exact tx4
    · exact tx5
    · exact tx7
    · exact tx18
    · exact tx6
    · exact tx8
    · exact tx13
    · exact tx19
    · exact tx20
    · exact tx21
    · exact tx22
    · exact tx23
    · exact tx9
  · simp [T0] at hh
def LO0 : List Str := [Str.ofString "BitsError", Str.ofString "BadPart", Str.ofString "NoPlace", Str.ofString "NoStart", Str.ofString "NoTop", Str.ofString "NoShare", Str.ofString "TooShort", Str.ofString "TooMuch", Str.ofString "UnlikeRows", Str.ofString "BadSheet", Str.ofString "FIGURES", Str.ofString "MOST_FIGURES", Str.ofString "divisor_of", Str.ofString "part_of", Str.ofString "part_text", Str.ofString "number_in", Str.ofString "part_in", Str.ofString "_law_begin", Str.ofString "_law_take", Str.ofString "_law_same", Str.ofString "_law_divisor", Str.ofString "_law_sign", Str.ofString "_law_number", Str.ofString "_law_part", Str.ofString "_law_any_part", Str.ofString "_law_text", Str.ofString "_law_figures", Str.ofString "_law_walked", Str.ofString "_law_told", Str.ofString "_law_changed"]
def LOOSE : List Str := LO0
abbrev RwK : PySem.W.OpenRow := PySem.W.OpenLaw.row PySem.Challenge.rw_meanbits_k03_texts_of_parts
set_option maxRecDepth 100000 in
set_option maxHeartbeats 0 in
abbrev HKK : PySem.W.Hook := hookK 5 (faOf T0 FS CS ++ exFa T0) (fnOf FS CS) (exOf P0 T0) (dsOf P0 T0)
def OBK (s : PySem.W.SharedT) : AlK := obK 5 (faOf T0 FS CS ++ exFa T0) (fnOf FS CS) (exOf P0 T0) (dsOf P0 T0) s
theorem obk_eq (s : PySem.W.SharedT) : OBK s = HKK.obs s.abs := obK_eq s
set_option maxRecDepth 100000 in
set_option maxHeartbeats 0 in
theorem runKf (w : World) : HandSHeadRun.RunEq RwK (PySem.W.view RwK.prog [33]) HKK OBK 9000 LOOSE (w.withFollow "special-get-raises" false) := by intro os; kernel_rfl
set_option maxRecDepth 100000 in
set_option maxHeartbeats 0 in
theorem runKt (w : World) : HandSHeadRun.RunEq RwK (PySem.W.view RwK.prog [33]) HKK OBK 9000 LOOSE (w.withFollow "special-get-raises" true) := by intro os; kernel_rfl
theorem runK (w : World) : HandSHeadRun.RunEq RwK (PySem.W.view RwK.prog [33]) HKK OBK 9000 LOOSE w :=
  PySem.W.byRow2 "special-get-raises" (P := fun w => HandSHeadRun.RunEq RwK (PySem.W.view RwK.prog [33]) HKK OBK 9000 LOOSE w) runKf runKt w
end KN
set_option autoImplicit false
namespace KN
theorem emod_lt64 {a b : Int} (h : 0 < b) (h2 : b < 18446744073709551616) : (a % b).natAbs < 2 ^ 64 := by
  have h3 := Int.emod_nonneg a (show b ≠ 0 by omega)
  have h4 := Int.emod_lt_of_pos a h
  omega
/-- item by item -/
theorem same_all {P : PG} {n : Nat} {ds : List Da} {vs ws : List Vl} {h : AH} {Q : Qv} {X : Ex → AH → Prop} {v w : Vl} {kp : List (Nat × Ob)} (H : ∀ d, d ∈ ds → ∀ {v w : Vl} {h : AH} {Q : Qv} {X : Ex → AH → Prop}, DL h v d → DL h w d → Q (.bl true) h → wF P n 5 [v, w] h Q X)
    (h1 : DLs h vs ds) (h2 : DLs h ws ds) (hk : keeps kp h) (hz : ds.length ≤ SZ) (q : Q (.bl true) h) :
    ∃ W : Nat → List Vl → AH → Prop, W 0 [] h ∧ ∀ i acc h2, i ≤ (List.zipWith (fun a b => Vl.tup [a, b]) vs ws).length → W i acc h2 →
      keeps kp h2 ∧ (∀ x, (List.zipWith (fun a b => Vl.tup [a, b]) vs ws)[i]? = some x → wG P (wF P n) (.tup (.cons (.var 2) (.cons (.var 3) .nil))) x (wipe [some v, some w, none, none] [2, 3]) h2 (fun σ' h3 => wT P (wF P n) (.bl true) σ' h3 (fun t h4 => if t = true then wE P (wF P n) (.call 5 (.cons (.var 2) (.cons (.var 3) .nil))) σ' h4 (fun y h5 => acc.length < SZ ∧ W (i + 1) (acc ++ [y]) h5) (fun _ _ _ => False) else W (i + 1) acc h4) (fun _ _ _ => False)) (fun _ _ _ => False)) ∧
      (i = (List.zipWith (fun a b => Vl.tup [a, b]) vs ws).length → ∀ p, get h2 p = none → wA P (wF P n) .nil [some v, some w, none, none] (push h2 p (.lst acc)) (fun vs h2 => wBi .all1 (.ref p :: vs) h2 fun v h' => ∃ h2, Sub h2 h' ∧ Q v h2) (fun e x h' => ∃ h2, Sub h2 h' ∧ X e h2)) := by
  have l1 := h1.len
  have l2 := h2.len
  refine ⟨fun i acc h2 => acc = List.replicate i (.bl true) ∧ h2 = h, ⟨rfl, rfl⟩, ?_⟩
  rintro i acc h2' hi ⟨rfl, rfl⟩
  refine ⟨hk, fun x hx => ?_, fun hl p np => ?_⟩
  · obtain ⟨a, b, e1, e2, rfl⟩ := zw_at hx
    have hlt : i < ds.length := by rw [← l1]; exact (List.getElem?_eq_some_iff.mp e1).1
    have e3 : ds[i]? = some ds[i] := by simp [hlt]
    obtain ⟨a', f1, f2⟩ := h1.get e3
    obtain ⟨b', f3, f4⟩ := h2.get e3
    rw [e1] at f1; cases f1
    rw [e2] at f3; cases f3
    walk_at "knb"
    refine H _ (List.getElem_mem hlt) f2 f4 ⟨by simp; omega, ?_, rfl⟩
    rw [List.replicate_succ']
  · walk_at "knb"
    exact ⟨_, _, .inl (get_push_self np), isBls_rep i, h2', Sub_push np, by simpa using q⟩
end KN

set_option autoImplicit false
namespace KN
theorem sp_take {P : PG} {n p c T : Nat} {m : Int} {b r : List (Nat × Ob)} {Q : Qv} {X : Ex → AH → Prop} (e : P.fns 4 = some f__law_take) (hb : Box p c T b) (hT : T < 2 ^ 60) (h0 : 0 < m) (hm : m < 2 ^ 190)
    (q : ∀ (d : Int) b', 0 ≤ d → d < m → Box p c (T + 1) b' → Q (.int d) ⟨b', r⟩) : wF P (n + 1) 4 [.ref p, .int m] ⟨b, r⟩ Q X := by
  obtain ⟨t, cs, h1, rfl, h3, h4, h5, h6⟩ := hb
  have hl : 0 < cs.length := List.length_pos_iff.mpr h5
  have g1 : get ⟨[(p, .dct [(kC, .ref c), (kT, .int t)]), (c, .lst (cs.map Vl.int))], r⟩ p = some (.dct [(kC, .ref c), (kT, .int t)]) := by simp [get, look]
  have g2 : put ⟨[(p, .dct [(kC, .ref c), (kT, .int t)]), (c, .lst (cs.map Vl.int))], r⟩ p (.dct [(kC, .ref c), (kT, .int (t + 1))]) = ⟨[(p, .dct [(kC, .ref c), (kT, .int (t + 1))]), (c, .lst (cs.map Vl.int))], r⟩ := by simp [put, look, lput]
  have g3 : get ⟨[(p, .dct [(kC, .ref c), (kT, .int (t + 1))]), (c, .lst (cs.map Vl.int))], r⟩ p = some (.dct [(kC, .ref c), (kT, .int (t + 1))]) := by simp [get, look]
  have g4 : get ⟨[(p, .dct [(kC, .ref c), (kT, .int (t + 1))]), (c, .lst (cs.map Vl.int))], r⟩ c = some (.lst (cs.map Vl.int)) := by simp [get, look, Ne.symm h1]
  have g5 : ∀ xs : List Vl, put ⟨[(p, .dct [(kC, .ref c), (kT, .int (t + 1))]), (c, .lst (cs.map Vl.int))], r⟩ c (.lst xs) = ⟨[(p, .dct [(kC, .ref c), (kT, .int (t + 1))]), (c, .lst xs)], r⟩ := fun xs => by simp [put, look, lput, Ne.symm h1]
  have hp0 : 0 ≤ (t + 1) % (cs.length : Int) := Int.emod_nonneg _ (by omega)
  have hp1 : (t + 1) % (cs.length : Int) < cs.length := Int.emod_lt_of_pos _ (by omega)
  obtain ⟨j, hj⟩ : ∃ j : Nat, (t + 1) % (cs.length : Int) = j := ⟨((t + 1) % (cs.length : Int)).toNat, by omega⟩
  have hjl : j < cs.length := by omega
  refine wF_eq e rfl ?_
  show wS _ _ (S.seq _ _) [_, _, _, _, _, _, _] _ _ _ _ _ _
  walk_at "knb"
  refine x_dct g1 rfl ?_
  walk_at "knb"
  refine x_dset g1 rfl (by simp [SZ]) ?_
  rw [show dput [(kC, Vl.ref c), (kT, Vl.int t)] (.s [116, 117, 114, 110]) (.int (t + 1)) = [(kC, Vl.ref c), (kT, Vl.int (t + 1))] from rfl, g2]
  walk_at "knb"
  refine x_dct g3 rfl ?_
  walk_at "knb"
  rw [List.length_map]
  refine o_modP (by omega) ?_
  rw [hj]
  walk_at "knb"
  refine x_dct g3 rfl ?_
  walk_at "knb"
  refine x_lst g4 ((atI_nat rfl).trans (map_get hjl)) ?_
  walk_at "kns"
  · refine x_dct g3 rfl ?_
    walk_at "knb"
    refine x_set g4 rfl (by simpa using hjl) (by simp; omega) ?_
    rw [g5]
    walk_at "knb"
    refine ⟨_, Sub.refl _, q _ _ (Int.emod_nonneg _ (by omega)) (Int.emod_lt_of_pos _ h0) ⟨t + 1, cs.set j (cs[j] / m), h1, ?_, by omega, by omega, ?_, by simpa using h6⟩⟩
    · simp
    · intro z
      have := congrArg List.length z
      simp at this
      exact h5 this
  · refine ⟨_, Sub.refl _, q _ _ (Int.emod_nonneg _ (by omega)) (Int.emod_lt_of_pos _ h0) ⟨t + 1, cs, h1, rfl, by omega, by omega, h5, h6⟩⟩

theorem sp_begin {P : PG} {n a : Nat} {ns : List Int} {h : AH} {Q : Qv} {X : Ex → AH → Prop} (e : P.fns 3 = some f__law_begin) (g : get h a = some (.rol (ns.map Vl.int)))
    (q : ∀ p c b, Box p c 0 b → Q (.ref p) ⟨b, []⟩) : wF P (n + 1) 3 [.ref a] h Q X := by
  refine wF_eq e rfl ?_
  show wS _ _ (S.seq _ _) [_] _ _ _ _ _ _
  walk_at "knb"
  refine c_lst (.inr g) fun p1 n1 => ?_
  refine b_list1 (.inl (get_push_self n1)) fun p2 n2 => ?_
  walk_at "knb"
  refine n_new fun p3 n3 => ?_
  have g3 : get (push (push (push h p1 (.lst (cut (ns.map Vl.int) none (some 63)))) p2 (.lst (cut (ns.map Vl.int) none (some 63)))) p3 (.lst [.int 5])) a = some (.rol (ns.map Vl.int)) := get_push_old n3 (get_push_old n2 (get_push_old n1 g))
  walk_at "knb"
  refine o_eqI ?_
  walk_at "knb"
  refine o_mulL (xs := [.int 5]) (get_push_self n3) (by split <;> omega) (by split <;> omega) (by simp [SZ]; split <;> simp) fun p4 n4 => ?_
  have n4' := get_push_none n4
  have hl : (cut (ns.map Vl.int) none (some 63)).length ≤ 63 := cut_len _ 63 (by omega)
  have g2 : get (push (push h p1 (.lst (cut (ns.map Vl.int) none (some 63)))) p2 (.lst (cut (ns.map Vl.int) none (some 63)))) p2 = some (.lst (cut (ns.map Vl.int) none (some 63))) := get_push_self n2
  refine o_addL (get_push_old n4 (get_push_old n3 g2)) (get_push_self n4) ?_ fun p5 n5 => ?_
  · simp [SZ]
    split <;> simp <;> omega
  have hcs : ∃ cs : List Int, cut (ns.map Vl.int) none (some 63) ++ (List.replicate (if decide (((ns.map Vl.int).length : Int) = 0) = true then (1 : Int) else 0).toNat [Vl.int 5]).flatten = cs.map Vl.int ∧ cs ≠ [] ∧ cs.length ≤ 64 := by
    rw [cut_map] at hl ⊢
    rw [List.length_map] at hl
    by_cases z : ns = []
    · subst z
      exact ⟨[5], by simp [cut], by simp, by simp⟩
    · have : ¬ (((ns.map Vl.int).length : Int) = 0) := by simp [z]
      simp only [this, decide_false]
      refine ⟨cut ns none (some 63), by simp, ?_, by omega⟩
      unfold cut sIx
      simp
      exact z
  obtain ⟨cs, hc1, hc2, hc3⟩ := hcs
  rw [hc1]
  walk_at "knb"
  refine ⟨rfl, by decide, by decide, fun p6 n6 => ?_⟩
  have n65 := get_push_none n6
  refine ⟨⟨[(p6, .dct [(kC, .ref p5), (kT, .int 0)]), (p5, .lst (cs.map Vl.int))], []⟩, ?_, q p6 p5 _ ⟨0, cs, n65.1, rfl, by omega, by omega, hc2, hc3⟩⟩
  intro x o eo
  simp only [get, look] at eo
  by_cases z1 : x = p6
  · subst z1
    simp at eo
    subst eo
    exact get_push_self n6
  · by_cases z2 : x = p5
    · subst z2
      simp [z1] at eo
      subst eo
      exact get_push_old n6 (get_push_self n5)
    · simp [z1, z2] at eo

theorem same_step {P : PG} {n : Nat} (e : P.fns 5 = some f__law_same) (d : Da) (H : ∀ d' : Da, d'.dep < d.dep → d'.wok = true → ∀ {v w : Vl} {h : AH} {Q : Qv} {X : Ex → AH → Prop}, DL h v d' → DL h w d' → Q (.bl true) h → wF P n 5 [v, w] h Q X)
    {v w : Vl} {h : AH} {Q : Qv} {X : Ex → AH → Prop} (hz : d.wok = true) (h1 : DL h v d) (h2 : DL h w d) (q : Q (.bl true) h) : wF P (n + 1) 5 [v, w] h Q X := by
  refine wF_eq e rfl ?_
  show wS _ _ (S.seq _ _) [_, _, _, _] _ _ _ _ _ _
  cases d with
  | non =>
    simp only [DL] at h1 h2
    subst h1 h2
    walk_at "knb"
    exact ⟨h, Sub.refl h, q⟩
  | bl b =>
    simp only [DL] at h1 h2
    subst h1 h2
    walk_at "knb"
    refine ⟨h, Sub.refl h, ?_⟩
    simpa using q
  | int i =>
    simp only [DL] at h1 h2
    subst h1 h2
    walk_at "knb"
    refine o_eqI ?_
    refine ⟨h, Sub.refl h, ?_⟩
    simpa using q
  | str i =>
    simp only [DL] at h1 h2
    subst h1 h2
    walk_at "knb"
    refine ⟨h, Sub.refl h, ?_⟩
    simpa using q
  | tup ds =>
    simp only [DL] at h1 h2
    obtain ⟨vs, rfl, h1⟩ := h1
    obtain ⟨ws, rfl, h2⟩ := h2
    simp only [Da.wok, Bool.and_eq_true, decide_eq_true_eq] at hz
    walk_at "knb"
    refine o_eqI ?_
    walk_at "knb"
    refine if_tt (by simp [h1.len, h2.len]) ?_
    walk_at "knb"
    refine same_all (fun d hd => ?_) h1 h2 (by intro p hp; cases hp) hz.1 q
    obtain ⟨i, hi⟩ := List.getElem?_of_mem hd
    exact H d (by have := dep_mem hi; simp only [Da.dep]; omega) (woks_mem hz.2 hd)
  | lst ds =>
    simp only [DL] at h1 h2
    obtain ⟨a, vs, rfl, g1, h1⟩ := h1
    obtain ⟨b, ws, rfl, g2, h2⟩ := h2
    simp only [Da.wok, Bool.and_eq_true, decide_eq_true_eq] at hz
    walk_at "knb"
    refine o_eqI ?_
    walk_at "knb"
    refine if_tt (by simp [h1.len, h2.len]) ?_
    walk_at "knb"
    refine same_all (fun d hd => ?_) h1 h2 ?_ hz.1 q
    · obtain ⟨i, hi⟩ := List.getElem?_of_mem hd
      exact H d (by have := dep_mem hi; simp only [Da.dep]; omega) (woks_mem hz.2 hd)
    · intro p hp
      simp only [List.mem_cons, List.not_mem_nil, or_false] at hp
      rcases hp with rfl | rfl
      · exact g1
      · exact g2
/-- the comparison of like with like -/
theorem sp_same {P : PG} (e : P.fns 5 = some f__law_same) : ∀ (n : Nat) (d : Da) {v w : Vl} {h : AH} {Q : Qv} {X : Ex → AH → Prop}, d.dep ≤ n → d.wok = true → DL h v d → DL h w d → Q (.bl true) h → wF P (n + 1) 5 [v, w] h Q X
  | 0, d, _, _, _, _, _, hd, hz, h1, h2, q => same_step e d (fun d' h' => absurd h' (by omega)) hz h1 h2 q
  | n + 1, d, _, _, _, _, _, hd, hz, h1, h2, q => same_step e d (fun d' h' hz' _ _ _ _ _ a b c => sp_same e n d' (by omega) hz' a b c) hz h1 h2 q
theorem sp_sameV {P : PG} (e : P.fns 5 = some f__law_same) {n m : Nat} {d : Da} {v w : Vl} {h : AH} {Q : Qv} {X : Ex → AH → Prop} (hx : DV h v d m) (hy : DV h w d m) (hm : m ≤ n) (q : Q (.bl true) h) : wF P (n + 1) 5 [v, w] h Q X := sp_same e n d (Nat.le_trans hx.2.1 hm) hx.2.2.2 hx.1 hy.1 q
end KN
local macro_rules | `(tactic| walk_at "kn_call") => `(tactic| (refine' KN.sp_take ?ks1 ?ks2 ?ks3 ?ks4 ?ks5 ?_; (case ks1 => assumption); (case ks2 => assumption); (case ks3 => omega); (case ks4 => walk_at "kn_ar"); (case ks5 => walk_at "kn_ar"); intro _ _ _ _ _))

set_option autoImplicit false
namespace KN
/-! parts in lowest terms -/
section
variable {h : AH} {Q : Qv}
theorem atI_ok {α : Type} {xs : List α} {i : Int} (h0 : 0 ≤ i) (h1 : i < xs.length) : ∃ v, atI xs i = some v ∧ v ∈ xs := by
  unfold atI
  rw [if_pos h0]
  have : i.toNat < xs.length := by omega
  exact ⟨xs[i.toNat], by simp [this], List.getElem_mem this⟩
/-- one of a list's items -/
theorem x_pick {a : Nat} {xs : List Vl} {i : Int} (g : get h a = some (.lst xs)) (h0 : 0 ≤ i) (h1 : i < xs.length) (q : ∀ v, v ∈ xs → Q v h) : wIx (.ref a) (.int i) h Q := by
  obtain ⟨v, e, m⟩ := atI_ok h0 h1
  exact x_lst g e (q v m)
theorem x_pickR {a : Nat} {xs : List Vl} {i : Int} (lo hi : Int) (g : get h a = some (.lst xs)) (h0 : 0 ≤ i) (h1 : i < xs.length) (hb : ∀ v ∈ xs, ∃ z, v = .int z ∧ lo ≤ z ∧ z ≤ hi) (q : ∀ z : Int, lo ≤ z → z ≤ hi → Q (.int z) h) : wIx (.ref a) (.int i) h Q :=
  x_pick g h0 h1 fun v m => by obtain ⟨z, rfl, l, u⟩ := hb v m; exact q z l u
end
theorem sp_divisor {P : PG} {n : Nat} {h : AH} {Q : Qv} {X : Ex → AH → Prop} {a b : Int} (e : P.fns 1 = some f_divisor_of) (q : Q (.int (Int.gcd a b)) h) : wF P (n + 1) 1 [.int a, .int b] h Q X := by
  refine wF_eq e rfl ?_
  show wS _ _ (S.seq _ _) [_, _] _ _ _ _ _ _
  walk_at "knb"
  refine s_whl (fun m σ h' => ∃ x y : Nat, m = y ∧ σ = [some (.int x), some (.int y)] ∧ h' = h ∧ Nat.gcd x y = Int.gcd a b) (m := b.natAbs) ⟨_, _, rfl, rfl, rfl, rfl⟩ ?_
  rintro m σ h' ⟨x, y, rfl, rfl, rfl, hg⟩
  walk_at "kns"
  · refine ⟨x % m, by have := Nat.mod_lt x (show m > 0 by omega); omega, m, x % m, rfl, rfl, rfl, ?_⟩
    rw [← hg, Nat.gcd_comm, ← Nat.gcd_rec, Nat.gcd_comm]
  · refine ⟨_, Sub.refl _, ?_⟩
    have : m = 0 := by omega
    subst this
    simp at hg
    rw [hg]; exact q
/-- the sign that is taken out -/
def lowS (a b : Int) : Int := if b < 0 then -(Int.gcd a b : Int) else Int.gcd a b
def lowN (a b : Int) : Int := a / lowS a b
def lowD (a b : Int) : Int := b / lowS a b
section
variable {a b : Int}
theorem gcd_posR (hb : b ≠ 0) : 0 < (Int.gcd a b : Int) := by
  have : Int.gcd a b ≠ 0 := fun z => hb (Int.gcd_eq_zero_iff.mp z).2
  omega
theorem gcd_leR (hb : b ≠ 0) : (Int.gcd a b : Int) ≤ b.natAbs := by
  have := Nat.le_of_dvd (Int.natAbs_pos.mpr hb) (Int.gcd_dvd_natAbs_right a b)
  omega
theorem lowS_ne (hb : b ≠ 0) : lowS a b ≠ 0 := by
  have := gcd_posR (a := a) hb
  unfold lowS; split <;> omega
theorem lowS_dvdL : lowS a b ∣ a := by
  unfold lowS; split
  · exact Int.neg_dvd.mpr (Int.gcd_dvd_left ..)
  · exact Int.gcd_dvd_left ..
theorem lowS_dvdR : lowS a b ∣ b := by
  unfold lowS; split
  · exact Int.neg_dvd.mpr (Int.gcd_dvd_right ..)
  · exact Int.gcd_dvd_right ..
theorem lowN_mul : lowN a b * lowS a b = a := Int.ediv_mul_cancel lowS_dvdL
theorem lowD_mul : lowD a b * lowS a b = b := Int.ediv_mul_cancel lowS_dvdR
theorem lowD_pos (hb : b ≠ 0) : 0 < lowD a b := by
  have h1 := lowD_mul (a := a) (b := b)
  have h2 := gcd_posR (a := a) hb
  unfold lowS at h1
  split at h1
  · by_cases z : 0 < lowD a b
    · exact z
    · have : 0 ≤ lowD a b * -(Int.gcd a b : Int) := Int.mul_nonneg_of_nonpos_of_nonpos (by omega) (by omega)
      omega
  · by_cases z : 0 < lowD a b
    · exact z
    · have : lowD a b * (Int.gcd a b : Int) ≤ 0 := Int.mul_nonpos_of_nonpos_of_nonneg (by omega) (by omega)
      omega
theorem low_cross : lowN a b * b = a * lowD a b := by
  have h1 := lowN_mul (a := a) (b := b)
  have h2 := lowD_mul (a := a) (b := b)
  calc lowN a b * b = lowN a b * (lowD a b * lowS a b) := by rw [h2]
    _ = (lowN a b * lowS a b) * lowD a b := by rw [Int.mul_comm (lowD a b), Int.mul_assoc]
    _ = _ := by rw [h1]
theorem low_gcd (hb : b ≠ 0) : Int.gcd (lowN a b) (lowD a b) = 1 := by
  have h1 := lowN_mul (a := a) (b := b)
  have h2 := lowD_mul (a := a) (b := b)
  have h3 : Int.gcd (lowN a b * lowS a b) (lowD a b * lowS a b) = Int.gcd (lowN a b) (lowD a b) * (lowS a b).natAbs := Int.gcd_mul_right ..
  rw [h1, h2] at h3
  have h4 : (lowS a b).natAbs = Int.gcd a b := by unfold lowS; split <;> simp
  rw [h4] at h3
  have h5 : 0 < Int.gcd a b := by have := gcd_posR (a := a) hb; omega
  exact Nat.eq_of_mul_eq_mul_right h5 (by rw [Nat.one_mul]; exact h3.symm)
theorem lowS_scale {m : Int} (hm : m ≠ 0) (hb : b ≠ 0) : lowS (a * m) (b * m) = lowS a b * m := by
  have h3 : Int.gcd (a * m) (b * m) = Int.gcd a b * m.natAbs := Int.gcd_mul_right ..
  unfold lowS
  rw [h3]
  push_cast
  rcases Int.lt_or_gt_of_ne hm with h | h
  · rcases Int.lt_or_gt_of_ne hb with h' | h'
    · have : 0 < b * m := Int.mul_pos_of_neg_of_neg h' h
      rw [if_neg (by omega), if_pos h']
      rw [show ((m.natAbs : Nat) : Int) = -m by omega, Int.mul_neg, Int.neg_mul]
    · have : b * m < 0 := Int.mul_neg_of_pos_of_neg h' h
      rw [if_pos this, if_neg (by omega)]
      rw [show ((m.natAbs : Nat) : Int) = -m by omega, Int.mul_neg, Int.neg_neg]
  · rcases Int.lt_or_gt_of_ne hb with h' | h'
    · have : b * m < 0 := Int.mul_neg_of_neg_of_pos h' h
      rw [if_pos this, if_pos h']
      rw [show ((m.natAbs : Nat) : Int) = m by omega, Int.neg_mul]
    · have : 0 < b * m := Int.mul_pos h' h
      rw [if_neg (by omega), if_neg (by omega)]
      rw [show ((m.natAbs : Nat) : Int) = m by omega]
theorem lowN_scale {m : Int} (hm : m ≠ 0) (hb : b ≠ 0) : lowN (a * m) (b * m) = lowN a b := by
  have h1 := lowN_mul (a := a * m) (b := b * m)
  rw [lowS_scale hm hb] at h1
  refine Int.eq_of_mul_eq_mul_right (Int.mul_ne_zero (lowS_ne (a := a) hb) hm) (h1.trans ?_)
  rw [← Int.mul_assoc, lowN_mul]
theorem lowD_scale {m : Int} (hm : m ≠ 0) (hb : b ≠ 0) : lowD (a * m) (b * m) = lowD a b := by
  have h1 := lowD_mul (a := a * m) (b := b * m)
  rw [lowS_scale hm hb] at h1
  refine Int.eq_of_mul_eq_mul_right (Int.mul_ne_zero (lowS_ne (a := a) hb) hm) (h1.trans ?_)
  rw [← Int.mul_assoc, lowD_mul]
end
theorem sp_part {P : PG} {n : Nat} {h : AH} {Q : Qv} {X : Ex → AH → Prop} {a b : Int} (e : P.fns 1 = some f_divisor_of) (e2 : P.fns 2 = some f_part_of) (hb : b ≠ 0) (hz : b.natAbs < 2 ^ 1899)
   (q : Q (.tup [.int (lowN a b), .int (lowD a b)]) h) : wF P (n + 2) 2 [.int a, .int b] h Q X := by
  have h1 := gcd_posR (a := a) hb
  have h2 := gcd_leR (a := a) hb
  refine wF_eq e2 rfl ?_
  show wS _ _ (S.seq _ _) [_, _, _] _ _ _ _ _ _
  walk_at "knb"
  refine sp_divisor e ?_
  walk_at "knb"
  have e1 : a.fdiv (lowS a b) = lowN a b := Int.fdiv_eq_ediv_of_dvd lowS_dvdL
  have e2 : b.fdiv (lowS a b) = lowD a b := Int.fdiv_eq_ediv_of_dvd lowS_dvdR
  refine t_lt (fun hy => ?_) (fun hy => ?_)
  · rw [show lowS a b = -(Int.gcd a b : Int) from if_pos hy] at e1 e2
    walk_at "knb"
    refine o_fdiv ⟨by omega, by omega⟩ ?_
    walk_at "knb"
    refine o_fdiv ⟨by omega, by omega⟩ ?_
    walk_at "knb"
    rw [e1, e2]
    exact ⟨_, Sub.refl _, q⟩
  · walk_at "knb"
    have e1 : lowN a b = a / (Int.gcd a b : Int) := by unfold lowN lowS; rw [if_neg hy]
    have e2 : lowD a b = b / (Int.gcd a b : Int) := by unfold lowD lowS; rw [if_neg hy]
    rw [← e1, ← e2]
    exact ⟨_, Sub.refl _, q⟩
end KN

set_option autoImplicit false
namespace KN
/-! more on parts in lowest terms -/
section
variable {a b c d : Int}
theorem low_congr (hb : 0 < b) (hd : 0 < d) (e : a * d = c * b) : lowN a b = lowN c d ∧ lowD a b = lowD c d := by
  have h1 := lowN_scale (a := a) (b := b) (m := d) (by omega) (by omega)
  have h2 := lowN_scale (a := c) (b := d) (m := b) (by omega) (by omega)
  have h3 := lowD_scale (a := a) (b := b) (m := d) (by omega) (by omega)
  have h4 := lowD_scale (a := c) (b := d) (m := b) (by omega) (by omega)
  rw [e, Int.mul_comm b d] at h1
  rw [e, Int.mul_comm b d] at h3
  exact ⟨h1.symm.trans h2, h3.symm.trans h4⟩
theorem lowD_le (hb : 0 < b) : lowD a b ≤ b := by
  have h1 := lowD_mul (a := a) (b := b)
  have h2 := lowD_pos (a := a) (b := b) (by omega)
  have h3 := gcd_posR (a := a) (b := b) (by omega)
  have h4 : lowS a b = Int.gcd a b := by unfold lowS; rw [if_neg (by omega)]
  rw [h4] at h1
  calc lowD a b = lowD a b * 1 := by omega
    _ ≤ lowD a b * (Int.gcd a b : Int) := Int.mul_le_mul_of_nonneg_left (by omega) (by omega)
    _ = b := h1
theorem lowN_nonneg (ha : 0 ≤ a) (hb : 0 < b) : 0 ≤ lowN a b := by
  have h3 := gcd_posR (a := a) (b := b) (by omega)
  unfold lowN lowS; rw [if_neg (by omega)]
  exact Int.ediv_nonneg ha (by omega)
theorem lowN_le (ha : 0 ≤ a) (hb : 0 < b) : lowN a b ≤ a := by
  have h3 := gcd_posR (a := a) (b := b) (by omega)
  unfold lowN lowS; rw [if_neg (by omega)]
  exact Int.ediv_le_self _ ha
theorem lowN_abs (hb : b ≠ 0) : (lowN a b).natAbs ≤ a.natAbs := by
  have h1 := lowN_mul (a := a) (b := b)
  have h2 := lowS_ne (a := a) hb
  calc (lowN a b).natAbs = (lowN a b).natAbs * 1 := by omega
    _ ≤ (lowN a b).natAbs * (lowS a b).natAbs := Nat.mul_le_mul_left _ (by omega)
    _ = a.natAbs := by rw [← Int.natAbs_mul, h1]
theorem low_fix (hb : 0 < b) (hg : Int.gcd a b = 1) : lowN a b = a ∧ lowD a b = b := by
  unfold lowN lowD lowS; rw [if_neg (by omega), hg]; simp
theorem low_zero (hb : 0 < b) : lowN 0 b = 0 ∧ lowD 0 b = 1 := by
  have h1 : (0 : Int).gcd b = b.natAbs := by simp
  unfold lowN lowD lowS; rw [if_neg (by omega), h1]
  refine ⟨by simp, ?_⟩
  rw [show ((b.natAbs : Nat) : Int) = b by omega]
  exact Int.ediv_self (by omega)
/-- lowest terms are the only ones -/
theorem low_uniq (hb : 0 < b) (hd : 0 < d) (e : a * d = c * b) (h1 : Int.gcd a b = 1) (h2 : Int.gcd c d = 1) : a = c ∧ b = d := by
  have h3 := low_congr hb hd e
  rw [(low_fix hb h1).1, (low_fix hb h1).2, (low_fix hd h2).1, (low_fix hd h2).2] at h3
  exact h3
end
end KN

set_option autoImplicit false
namespace KN
/-! decimal texts -/
/-- a number, written -/
def decT (n : Nat) : List Nat := itoa (n : Int)
theorem digitC : ∀ d : Nat, d < 10 → d.digitChar.toNat = 48 + d := by decide
theorem decT_dig (m : Nat) : decT m = (Nat.toDigits 10 m).map Char.toNat := by
  show ((toString ((m : Nat) : Int)).toList).map Char.toNat = _
  have : toString ((m : Nat) : Int) = Nat.repr m := rfl
  rw [this, Nat.repr_eq_ofList_toDigits]
  simp
theorem decT_len {n k : Nat} (hk : 0 < k) (h : n < 10 ^ k) : (decT n).length ≤ k := by
  rw [decT_dig, List.length_map]
  exact (Nat.length_toDigits_le_iff (by omega) hk).mpr h
theorem decT_eq (n : Nat) : decT n = if n < 10 then [48 + n] else decT (n / 10) ++ [48 + n % 10] := by
  have e : ∀ m : Nat, decT m = (Nat.toDigits 10 m).map Char.toNat := fun m => by
    show ((toString ((m : Nat) : Int)).toList).map Char.toNat = _
    have : toString ((m : Nat) : Int) = Nat.repr m := rfl
    rw [this, Nat.repr_eq_ofList_toDigits]
    simp
  rw [e, e, Nat.toDigits_eq_if (by omega)]
  by_cases h : n < 10
  · rw [if_pos h, if_pos h]
    simp [digitC n h]
  · rw [if_neg h, if_neg h, List.map_append]
    simp [digitC (n % 10) (Nat.mod_lt _ (by omega))]
theorem decV_snoc (s : List Nat) (c : Nat) : decV (s ++ [c]) = decV s * 10 + (c - 48) := by
  unfold decV; rw [List.foldl_append]; rfl
theorem decV_decT : ∀ n : Nat, decV (decT n) = n := by
  intro n
  induction n using Nat.strongRecOn with
  | ind n ih =>
    rw [decT_eq]
    by_cases h : n < 10
    · rw [if_pos h]; simp [decV]
    · rw [if_neg h, decV_snoc, ih _ (by omega)]
      omega
theorem decT_fig : ∀ n : Nat, ∀ c ∈ decT n, 48 ≤ c ∧ c ≤ 57 := by
  intro n
  induction n using Nat.strongRecOn with
  | ind n ih =>
    rw [decT_eq]
    intro c hc
    by_cases h : n < 10
    · rw [if_pos h] at hc
      have := List.mem_singleton.mp hc
      omega
    · rw [if_neg h] at hc
      rcases List.mem_append.mp hc with z | z
      · exact ih _ (by omega) c z
      · have := List.mem_singleton.mp z
        omega
theorem decT_ne (n : Nat) : decT n ≠ [] := by
  rw [decT_eq]
  split <;> simp
/-- as a number is written -/
def Cano (s : List Nat) : Prop := s ≠ [] ∧ (∀ c ∈ s, 48 ≤ c ∧ c ≤ 57) ∧ (s.head? = some 48 → s = [48])
theorem decT_head : ∀ n : Nat, (decT n).head? = some 48 → n = 0 := by
  intro n
  induction n using Nat.strongRecOn with
  | ind n ih =>
    rw [decT_eq]
    by_cases h : n < 10
    · rw [if_pos h]; simp
    · rw [if_neg h]
      intro e
      have hne := decT_ne (n / 10)
      have e2 : (decT (n / 10)).head? = some 48 := by
        cases hd : decT (n / 10) with
        | nil => exact absurd hd hne
        | cons x xs => rw [hd] at e; simpa using e
      have := ih _ (by omega) e2
      omega
theorem cano_decT (n : Nat) : Cano (decT n) := ⟨decT_ne n, decT_fig n, fun e => by rw [decT_head n e]; rfl⟩
theorem decT_decV : ∀ s : List Nat, Cano s → decT (decV s) = s := by
  have key : ∀ (k : Nat) (s : List Nat), s.length = k → Cano s → decT (decV s) = s ∧ (s.head? ≠ some 48 → 0 < decV s) := by
    intro k
    induction k with
    | zero =>
      intro s hs hc
      exact absurd (List.length_eq_zero_iff.mp hs) hc.1
    | succ k ih =>
      intro s hs hc
      obtain ⟨t, c, rfl⟩ : ∃ t c, s = t ++ [c] := ⟨s.dropLast, s.getLast hc.1, (List.dropLast_concat_getLast hc.1).symm⟩
      have hcf := hc.2.1 c (by simp)
      rw [decV_snoc]
      by_cases ht : t = []
      · subst ht
        refine ⟨?_, fun hh => ?_⟩
        · rw [show decV [] * 10 + (c - 48) = c - 48 by simp [decV], decT_eq, if_pos (by omega)]
          simp; omega
        · simp at hh
          simp [decV]; omega
      · have hh : t.head? = (t ++ [c]).head? := by
          cases t with
          | nil => exact absurd rfl ht
          | cons x xs => rfl
        have hct : Cano t := ⟨ht, fun d hd => hc.2.1 d (List.mem_append_left _ hd), fun e => by
          rw [hh] at e
          have := congrArg List.length (hc.2.2 e)
          simp at this
          exact absurd this ht⟩
        have hn48 : t.head? ≠ some 48 := fun e => by
          rw [hh] at e
          have := congrArg List.length (hc.2.2 e)
          simp at this
          exact absurd this ht
        obtain ⟨i1, i2⟩ := ih t (by simp at hs; exact hs) hct
        have hp := i2 hn48
        refine ⟨?_, fun _ => by omega⟩
        rw [decT_eq, if_neg (by omega), show (decV t * 10 + (c - 48)) / 10 = decV t by omega, i1, show 48 + (decV t * 10 + (c - 48)) % 10 = c by omega]
  exact fun s hc => (key _ s rfl hc).1
theorem decT_iff {s : List Nat} (hd : ∀ c ∈ s, 48 ≤ c ∧ c ≤ 57) (hn : s ≠ []) : decT (decV s) = s ↔ (s.head? = some 48 → s = [48]) := by
  constructor
  · intro e h
    have := cano_decT (decV s)
    rw [e] at this
    exact this.2.2 h
  · exact fun h => decT_decV s ⟨hn, hd, h⟩
theorem decV_lt : ∀ (s : List Nat), (∀ c ∈ s, 48 ≤ c ∧ c ≤ 57) → decV s < 10 ^ s.length := by
  have key : ∀ (k : Nat) (s : List Nat), s.length = k → (∀ c ∈ s, 48 ≤ c ∧ c ≤ 57) → decV s < 10 ^ k := by
    intro k
    induction k with
    | zero => intro s hs _; rw [List.length_eq_zero_iff.mp hs]; decide
    | succ k ih =>
      intro s hs hc
      have hne : s ≠ [] := by rintro rfl; simp at hs
      obtain ⟨t, c, rfl⟩ : ∃ t c, s = t ++ [c] := ⟨s.dropLast, s.getLast hne, (List.dropLast_concat_getLast hne).symm⟩
      have hcf := hc c (by simp)
      have := ih t (by simp at hs; exact hs) fun d hd => hc d (List.mem_append_left _ hd)
      rw [decV_snoc, Nat.pow_succ]
      omega
  exact fun s h => key _ s rfl h
theorem itoa_nat (n : Nat) : itoa (n : Int) = decT n := rfl
theorem itoa_neg {n : Nat} (h : 0 < n) : itoa (-(n : Int)) = 45 :: decT n := by
  obtain ⟨m, rfl⟩ : ∃ m, n = m + 1 := ⟨n - 1, by omega⟩
  show ((toString (Int.negSucc m)).toList).map Char.toNat = _
  have e : toString (Int.negSucc m) = "-" ++ Nat.repr (m + 1) := rfl
  rw [e, String.toList_append, List.map_append]
  rfl
theorem itoa_len12 {x : Int} (h : x.natAbs < 1000000000000) : (itoa x).length ≤ 13 := by
  by_cases c : 0 ≤ x
  · obtain ⟨n, rfl⟩ : ∃ n : Nat, x = n := ⟨x.toNat, by omega⟩
    have := decT_len (n := n) (k := 12) (by omega) (by omega)
    rw [itoa_nat]; omega
  · obtain ⟨n, hn, rfl⟩ : ∃ n : Nat, 0 < n ∧ x = -(n : Int) := ⟨(-x).toNat, by omega, by omega⟩
    have := decT_len (n := n) (k := 12) (by omega) (by omega)
    rw [itoa_neg hn, List.length_cons]; omega
theorem itoa_len13 {x : Int} (h : x.natAbs < 10000000000000) : (itoa x).length ≤ 14 := by
  by_cases c : 0 ≤ x
  · obtain ⟨n, rfl⟩ : ∃ n : Nat, x = n := ⟨x.toNat, by omega⟩
    have := decT_len (n := n) (k := 13) (by omega) (by omega)
    rw [itoa_nat]; omega
  · obtain ⟨n, hn, rfl⟩ : ∃ n : Nat, 0 < n ∧ x = -(n : Int) := ⟨(-x).toNat, by omega, by omega⟩
    have := decT_len (n := n) (k := 13) (by omega) (by omega)
    rw [itoa_neg hn, List.length_cons]; omega
end KN

set_option autoImplicit false
namespace KN
/-! a part read of its text: two ways, one answer -/
def Figs (t : List Nat) : Prop := ∀ c ∈ t, 48 ≤ c ∧ c ≤ 57
instance (t : List Nat) : Decidable (Figs t) := by unfold Figs; infer_instance
def numI (t : List Nat) : Option Nat := if (1 ≤ t.length ∧ t.length ≤ 12) ∧ Figs t then some (decV t) else none
def figI (t : List Nat) : Option Nat := if ((0 < t.length ∧ t.length < 13) ∧ Figs t) ∧ (t.head? = some 48 → t = [48]) then some (decV t) else none
/-- a part, written -/
def ptx (p : Int × Int) : List Nat := if p.2 = 1 then itoa p.1 else itoa p.1 ++ [47] ++ itoa p.2
def mnB (s : List Nat) : Bool := s.head? == some 45
def sgn (m : Bool) (t : Nat) : Int := if m then -(t : Int) else t
def redF (s : List Nat) (x : Int) (n : Nat) : Option (Int × Int) := if n = 0 then none else if ptx (lowN x n, lowD x n) = s then some (lowN x n, lowD x n) else none
/-- the program's way -/
def pinF (s : List Nat) : Option (Int × Int) :=
  match numI ((parA 47 [] s).1.drop (if mnB (parA 47 [] s).1 then 1 else 0)), (if (parA 47 [] s).2.1 = [] then some 1 else numI (parA 47 [] s).2.2) with
  | some t, some n => redF s (sgn (mnB (parA 47 [] s).1) t) n
  | _, _ => none
/-- the law's way -/
def walF (s : List Nat) : Option (Int × Int) :=
  match figI (((splA 47 [] s).headD []).drop (if mnB s then 1 else 0)) with
  | none => none
  | some t => if 2 < (splA 47 [] s).length ∨ (mnB s = true ∧ t = 0) then none else
    match (if (splA 47 [] s).length = 1 then some 1 else figI ((splA 47 [] s).getD 1 [])) with
    | none => none
    | some n => if ((splA 47 [] s).length = 2 ∧ n < 2) ∨ Nat.gcd t n ≠ 1 then none else some (sgn (mnB s) t, (n : Int))
theorem parA_no {c : Nat} : ∀ (s acc : List Nat), c ∉ s → parA c acc s = (acc ++ s, [], [])
  | [], acc, _ => by simp [parA]
  | x :: r, acc, h => by
    have hx : x ≠ c := fun e => h (by simp [e])
    rw [parA, if_neg hx, parA_no r _ fun z => h (List.mem_cons_of_mem _ z)]
    simp
theorem splA_no {c : Nat} : ∀ (s acc : List Nat), c ∉ s → splA c acc s = [acc ++ s]
  | [], acc, _ => by simp [splA]
  | x :: r, acc, h => by
    have hx : x ≠ c := fun e => h (by simp [e])
    rw [splA, if_neg hx, splA_no r _ fun z => h (List.mem_cons_of_mem _ z)]
    simp
theorem parA_at {c : Nat} {b : List Nat} : ∀ (a acc : List Nat), c ∉ a → parA c acc (a ++ c :: b) = (acc ++ a, [c], b)
  | [], acc, _ => by simp [parA]
  | x :: r, acc, h => by
    have hx : x ≠ c := fun e => h (by simp [e])
    rw [List.cons_append, parA, if_neg hx, parA_at r _ fun z => h (List.mem_cons_of_mem _ z)]
    simp
theorem splA_at {c : Nat} {b : List Nat} : ∀ (a acc : List Nat), c ∉ a → splA c acc (a ++ c :: b) = (acc ++ a) :: splA c [] b
  | [], acc, _ => by simp [splA]
  | x :: r, acc, h => by
    have hx : x ≠ c := fun e => h (by simp [e])
    rw [List.cons_append, splA, if_neg hx, splA_at r _ fun z => h (List.mem_cons_of_mem _ z)]
    simp
theorem first_at {c : Nat} : ∀ {s : List Nat}, c ∈ s → ∃ a b, s = a ++ c :: b ∧ c ∉ a
  | x :: r, h => by
    by_cases e : x = c
    · exact ⟨[], r, by rw [e]; rfl, by simp⟩
    · have : c ∈ r := by
        rcases List.mem_cons.mp h with z | z
        · exact absurd z.symm e
        · exact z
      obtain ⟨a, b, rfl, hn⟩ := first_at this
      exact ⟨x :: a, b, rfl, fun z => by
        rcases List.mem_cons.mp z with y | y
        · exact e y.symm
        · exact hn y⟩
theorem splA_len {c : Nat} : ∀ (s acc : List Nat), 1 ≤ (splA c acc s).length
  | [], _ => by simp [splA]
  | x :: r, acc => by
    rw [splA]
    split
    · simp
    · exact splA_len r _
theorem figs_no {t : List Nat} (h : Figs t) {c : Nat} (hc : c < 48) : c ∉ t := fun z => by have := h c z; omega
theorem fig_num {t : List Nat} {v : Nat} (h : figI t = some v) : numI t = some v := by
  unfold figI at h
  split at h
  · rename_i w
    unfold numI
    rw [if_pos ⟨by omega, w.1.2⟩]
    exact h
  · cases h
theorem num_spec {t : List Nat} {v : Nat} (h : numI t = some v) : Figs t ∧ t ≠ [] ∧ v = decV t ∧ t.length ≤ 12 := by
  unfold numI at h
  split at h
  · rename_i w
    exact ⟨w.2, fun z => by rw [z] at w; simp at w, (Option.some.inj h).symm, w.1.2⟩
  · cases h
theorem fig_iff {t : List Nat} {v : Nat} (h : numI t = some v) : (figI t = some v ↔ (t.head? = some 48 → t = [48])) ∧ (¬ (t.head? = some 48 → t = [48]) → figI t = none) := by
  unfold numI at h
  split at h
  · rename_i w
    unfold figI
    refine ⟨⟨fun g => ?_, fun g => ?_⟩, fun g => ?_⟩
    · split at g
      · rename_i y; exact y.2
      · cases g
    · rw [if_pos ⟨⟨by omega, w.2⟩, g⟩]; exact h
    · rw [if_neg fun y => g y.2]
  · cases h
theorem num_none {t : List Nat} (h : numI t = none) : figI t = none := by
  cases e : figI t with
  | none => rfl
  | some v => rw [fig_num e] at h; cases h
theorem decV_zero {u : List Nat} (hf : Figs u) (hn : u ≠ []) (hc : u.head? = some 48 → u = [48]) : decV u = 0 ↔ u = [48] := by
  have := decT_decV u ⟨hn, hf, hc⟩
  constructor
  · intro z; rw [z] at this; exact this.symm
  · intro z; rw [z]; rfl
theorem sgn_text {m : Bool} {u : List Nat} (hf : Figs u) (hn : u ≠ []) : itoa (sgn m (decV u)) = (if m then 45 :: u else u) ↔ (u.head? = some 48 → u = [48]) ∧ ¬ (m = true ∧ decV u = 0) := by
  cases m with
  | false =>
    show itoa ((decV u : Nat) : Int) = u ↔ _
    rw [itoa_nat, decT_iff hf hn]
    simp
  | true =>
    show itoa (-((decV u : Nat) : Int)) = 45 :: u ↔ _
    by_cases z : decV u = 0
    · rw [z]
      constructor
      · intro e
        have : ([48] : List Nat) = 45 :: u := e
        cases this
      · intro e; exact absurd ⟨rfl, rfl⟩ e.2
    · rw [itoa_neg (by omega)]
      rw [← decT_iff hf hn]
      constructor
      · intro e; exact ⟨(List.cons.inj e).2, fun y => z y.2⟩
      · intro e; rw [e.1]
theorem itoa_chars (x : Int) : ∀ c ∈ itoa x, c = 45 ∨ (48 ≤ c ∧ c ≤ 57) := by
  intro c hc
  by_cases h : 0 ≤ x
  · obtain ⟨n, rfl⟩ : ∃ n : Nat, x = n := ⟨x.toNat, by omega⟩
    exact .inr (decT_fig n c hc)
  · obtain ⟨n, hn, rfl⟩ : ∃ n : Nat, 0 < n ∧ x = -(n : Int) := ⟨(-x).toNat, by omega, by omega⟩
    rw [itoa_neg hn] at hc
    rcases List.mem_cons.mp hc with z | z
    · exact .inl z
    · exact .inr (decT_fig n c z)
theorem itoa_no (x : Int) : 47 ∉ itoa x := fun z => by have := itoa_chars x 47 z; omega
theorem sgn_gcd {m : Bool} {t n : Nat} : Int.gcd (sgn m t) n = Nat.gcd t n := by
  cases m
  · show Int.gcd (t : Int) n = _; rfl
  · show Int.gcd (-(t : Int)) n = _
    rw [Int.neg_gcd]; rfl
theorem low_gcd1 {x : Int} {n : Nat} (hn : 0 < n) (h : Nat.gcd x.natAbs n = 1) : lowN x n = x ∧ lowD x n = n := low_fix (by omega) (by
  have : Int.gcd x n = Nat.gcd x.natAbs n := rfl
  rw [this]; exact h)
theorem sgn_abs {m : Bool} {t : Nat} : (sgn m t).natAbs = t := by
  cases m
  · show ((t : Nat) : Int).natAbs = t; omega
  · show (-((t : Nat) : Int)).natAbs = t; omega
/-- one number alone -/
theorem red_one {s : List Nat} {x : Int} : redF s x 1 = if itoa x = s then some (x, 1) else none := by
  have h := low_gcd1 (x := x) (n := 1) (by omega) (Nat.gcd_one_right _)
  unfold redF
  rw [if_neg (by omega), h.1, h.2]
  rfl
/-- a stroke -/
theorem red_two {m : Bool} {a b u : List Nat} {v n : Nat} (ha : a = if m then 45 :: u else u) (ha7 : 47 ∉ a) (hu : Figs u) (hun : u ≠ []) (hv : v = decV u) (hb : Figs b) (hbn : b ≠ []) (hn : n = decV b) :
    redF (a ++ 47 :: b) (sgn m v) n = if ((u.head? = some 48 → u = [48]) ∧ ¬ (m = true ∧ v = 0)) ∧ (b.head? = some 48 → b = [48]) ∧ 2 ≤ n ∧ Nat.gcd v n = 1 then some (sgn m v, (n : Int)) else none := by
  unfold redF
  by_cases h0 : n = 0
  · rw [if_pos h0, if_neg (fun z => by omega)]
  rw [if_neg h0]
  have hnp : (0 : Int) < (n : Nat) := by omega
  have ht := sgn_text (m := m) hu hun
  rw [← hv, ← ha] at ht
  have hbt := decT_iff hb hbn
  rw [← hn] at hbt
  by_cases hc : ((u.head? = some 48 → u = [48]) ∧ ¬ (m = true ∧ v = 0)) ∧ (b.head? = some 48 → b = [48]) ∧ 2 ≤ n ∧ Nat.gcd v n = 1
  · rw [if_pos hc]
    have hl := low_gcd1 (x := sgn m v) (n := n) (by omega) (by rw [sgn_abs]; exact hc.2.2.2)
    rw [hl.1, hl.2, if_pos]
    unfold ptx
    simp only
    rw [if_neg (by omega), ht.mpr hc.1, itoa_nat, hbt.mpr hc.2.1]
    simp
  · rw [if_neg hc, if_neg]
    intro hp
    refine hc ?_
    unfold ptx at hp
    simp only at hp
    have hdp := lowD_pos (a := sgn m v) (b := (n : Int)) (by omega)
    have hg := low_gcd (a := sgn m v) (b := (n : Int)) (by omega)
    have hx := low_cross (a := sgn m v) (b := (n : Int))
    generalize lowN (sgn m v) n = p at *
    generalize lowD (sgn m v) n = d at *
    by_cases hd : d = 1
    · rw [if_pos hd] at hp
      exact absurd (show 47 ∈ itoa p by rw [hp]; simp) (itoa_no p)
    · rw [if_neg hd] at hp
      have e1 := parA_at (c := 47) (b := itoa d) (itoa p) [] (itoa_no p)
      have e2 := parA_at (c := 47) (b := b) a [] ha7
      rw [List.append_assoc] at hp
      rw [show itoa p ++ 47 :: itoa d = a ++ 47 :: b from hp, e2] at e1
      simp only [List.nil_append, Prod.mk.injEq, true_and] at e1
      obtain ⟨f1, f2⟩ := e1
      obtain ⟨D, rfl⟩ : ∃ D : Nat, d = (D : Int) := ⟨d.toNat, by omega⟩
      have f3 : b = decT D := f2
      have f4 : n = D := by rw [hn, f3, decV_decT]
      subst f4
      have f5 : p = sgn m v := Int.eq_of_mul_eq_mul_right (a := (n : Int)) (by omega) hx
      subst f5
      refine ⟨ht.mp f1.symm, hbt.mp f3.symm, by omega, ?_⟩
      rw [← sgn_gcd (m := m)]; exact hg
theorem figI_eq {t : List Nat} {v : Nat} (h : numI t = some v) : figI t = if (t.head? = some 48 → t = [48]) then some v else none := by
  have := fig_iff h
  by_cases c : t.head? = some 48 → t = [48]
  · rw [if_pos c]; exact this.1.mpr c
  · rw [if_neg c]; exact this.2 c
/-- the two ways answer alike -/
theorem pin_wal (s : List Nat) : pinF s = walF s := by
  have hsplit : ∀ a : List Nat, a = if mnB a then 45 :: a.drop (if mnB a then 1 else 0) else a.drop (if mnB a then 1 else 0) := by
    intro a
    cases a with
    | nil => rfl
    | cons x xs =>
      by_cases c : x = 45
      · subst c; rfl
      · have : mnB (x :: xs) = false := by simp [mnB, c]
        rw [this]; rfl
  by_cases h7 : 47 ∈ s
  · obtain ⟨a, b, rfl, ha⟩ := first_at h7
    have hm : mnB (a ++ 47 :: b) = mnB a := by
      cases a with
      | nil => rfl
      | cons x xs => rfl
    unfold pinF walF
    rw [parA_at a [] ha, splA_at a [] ha, hm]
    simp only [List.nil_append, List.headD_cons]
    have hsp := hsplit a
    generalize hu : a.drop (if mnB a then 1 else 0) = u at *
    generalize mnB a = m at *
    rw [if_neg (show ¬ ([47] : List Nat) = [] by simp)]
    have hl := splA_len (c := 47) b []
    cases e1 : numI u with
    | none => rw [num_none e1]
    | some v =>
      have w1 := num_spec e1
      rw [figI_eq e1]
      by_cases hb7 : 47 ∈ b
      · have hbn : numI b = none := by
          unfold numI
          rw [if_neg fun w => by have := w.2 47 hb7; omega]
        obtain ⟨b1, b2, rfl, hb1⟩ := first_at hb7
        have hl2 : 2 < (a :: splA 47 [] (b1 ++ 47 :: b2)).length := by
          rw [splA_at b1 [] hb1]
          have := splA_len (c := 47) b2 []
          simp only [List.length_cons]; omega
        rw [hbn]
        by_cases c : u.head? = some 48 → u = [48]
        · rw [if_pos c]
          simp only
          rw [if_pos (.inl hl2)]
        · rw [if_neg c]
      · rw [splA_no b [] hb7]
        simp only [List.nil_append, List.length_cons, List.length_nil, List.getD_cons_succ, List.getD_cons_zero]
        rw [if_neg (show ¬ (0 + 1 + 1 = 1) by omega)]
        cases e2 : numI b with
        | none =>
          rw [num_none e2]
          by_cases c : u.head? = some 48 → u = [48]
          · rw [if_pos c]
            simp only
            split <;> rfl
          · rw [if_neg c]
        | some n =>
          have w2 := num_spec e2
          rw [figI_eq e2]
          simp only
          rw [red_two hsp ha w1.1 w1.2.1 w1.2.2.1 w2.1 w2.2.1 w2.2.2.1]
          by_cases c : u.head? = some 48 → u = [48]
          · rw [if_pos c]
            simp only
            by_cases c2 : m = true ∧ v = 0
            · rw [if_neg (fun z => z.1.2 c2)]
              rw [if_pos (.inr c2)]
            · have e0 : ¬ (2 < 0 + 1 + 1 ∨ m = true ∧ v = 0) := fun z => by
                rcases z with z | z
                · omega
                · exact c2 z
              by_cases c3 : b.head? = some 48 → b = [48]
              · by_cases c4 : 2 ≤ n ∧ Nat.gcd v n = 1
                · rw [if_pos ⟨⟨c, c2⟩, c3, c4.1, c4.2⟩, if_neg e0, if_pos c3]
                  simp only
                  rw [if_neg (fun z => by
                    rcases z with z | z
                    · omega
                    · exact z c4.2)]
                · rw [if_neg (fun z => c4 z.2.2), if_neg e0, if_pos c3]
                  simp only
                  rw [if_pos]
                  by_cases c5 : 2 ≤ n
                  · exact .inr fun z => c4 ⟨c5, z⟩
                  · exact .inl ⟨trivial, by omega⟩
              · rw [if_neg (fun z => c3 z.2.1), if_neg e0, if_neg c3]
          · rw [if_neg (fun z => c z.1.1), if_neg c]
  · unfold pinF walF
    rw [parA_no s [] h7, splA_no s [] h7]
    simp only [List.nil_append, List.headD_cons, List.length_cons, List.length_nil, if_true]
    have hsp := hsplit s
    generalize hu : s.drop (if mnB s then 1 else 0) = u at *
    generalize mnB s = m at *
    cases e1 : numI u with
    | none => rw [num_none e1]
    | some v =>
      have w1 := num_spec e1
      rw [figI_eq e1]
      have ht := sgn_text (m := m) w1.1 w1.2.1
      rw [← w1.2.2.1, ← hsp] at ht
      simp only
      rw [red_one]
      by_cases c : u.head? = some 48 → u = [48]
      · rw [if_pos c]
        simp only
        by_cases c2 : m = true ∧ v = 0
        · rw [if_neg (fun z => (ht.mp z).2 c2)]
          rw [if_pos (.inr c2)]
        · rw [if_pos (ht.mpr ⟨c, c2⟩)]
          rw [if_neg (fun z => by
            rcases z with z | z
            · omega
            · exact c2 z)]
          rw [if_neg (fun z => by
            rcases z with z | z
            · omega
            · exact z (Nat.gcd_one_right _))]
          rfl
      · rw [if_neg (fun z => c (ht.mp z).1), if_neg c]
end KN

set_option autoImplicit false
namespace KN
/-! sums, products along a list; sums of parts -/
def pr : List Int → Int
  | [] => 1
  | u :: us => u * pr us
theorem pr_append : ∀ xs ys : List Int, pr (xs ++ ys) = pr xs * pr ys
  | [], ys => by simp [pr]
  | x :: xs, ys => by simp [pr, pr_append xs ys, Int.mul_assoc]
theorem pr_take {xs : List Int} {i : Nat} (h : i < xs.length) : pr (xs.take (i + 1)) = pr (xs.take i) * xs[i] := by
  rw [List.take_succ_eq_append_getElem h, pr_append]; simp [pr]
theorem sum_take {xs : List Int} {i : Nat} (h : i < xs.length) : (xs.take (i + 1)).sum = (xs.take i).sum + xs[i] := by
  rw [List.take_succ_eq_append_getElem h, List.sum_append]; simp
theorem pr_pos : ∀ {xs : List Int}, (∀ x ∈ xs, 0 < x) → 0 < pr xs
  | [], _ => by simp [pr]
  | x :: xs, h => Int.mul_pos (h x (by simp)) (pr_pos fun y m => h y (List.mem_cons_of_mem _ m))
theorem pr_dvd : ∀ {xs : List Int} {x : Int}, x ∈ xs → x ∣ pr xs
  | y :: xs, x, h => by
    rcases List.mem_cons.mp h with rfl | h
    · exact Int.dvd_mul_right ..
    · exact Int.dvd_trans (pr_dvd h) (Int.dvd_mul_left ..)
theorem pr_le {k : Nat} : ∀ {xs : List Int}, (∀ x ∈ xs, 0 < x ∧ x ≤ (2 : Int) ^ k) → pr xs ≤ (2 : Int) ^ (k * xs.length)
  | [], _ => by simp [pr]
  | x :: xs, h => by
    have h1 := h x (by simp)
    have h2 := pr_le (k := k) (xs := xs) fun y m => h y (List.mem_cons_of_mem _ m)
    have h3 : 0 < pr xs := pr_pos fun y m => (h y (List.mem_cons_of_mem _ m)).1
    have e : k * (x :: xs).length = k + k * xs.length := by simp [Nat.mul_add, Nat.add_comm]
    rw [e, Int.pow_add]
    exact Int.mul_le_mul h1.2 h2 (by omega) (by have := h1.1; omega)
/-- one part more -/
def sum1 (p q : Int × Int) : Int × Int := (lowN (p.1 * q.2 + q.1 * p.2) (p.2 * q.2), lowD (p.1 * q.2 + q.1 * p.2) (p.2 * q.2))
def sumF (ps : List (Int × Int)) : Int × Int := ps.foldl sum1 (0, 1)
theorem sum1_low {S C t b x : Int} (hC : 0 < C) (hb : 0 < b) (e : t * C = x * b) : sum1 (lowN S C, lowD S C) (t, b) = (lowN (S + x) C, lowD (S + x) C) := by
  have h1 := low_cross (a := S) (b := C)
  have h2 := lowD_pos (a := S) (b := C) (by omega)
  have h3 : (lowN S C * b + t * lowD S C) * C = (S + x) * (lowD S C * b) := by
    calc _ = lowN S C * C * b + t * C * lowD S C := by rw [Int.add_mul]; congr 1 <;> simp only [Int.mul_assoc, Int.mul_comm, Int.mul_left_comm]
      _ = S * lowD S C * b + x * b * lowD S C := by rw [h1, e]
      _ = _ := by rw [Int.add_mul]; congr 1 <;> simp only [Int.mul_assoc, Int.mul_comm, Int.mul_left_comm]
  have h4 := low_congr (Int.mul_pos h2 hb) hC h3
  simp only [sum1, h4.1, h4.2]
theorem sumF_low {C : Int} (hC : 0 < C) : ∀ (ps : List (Int × Int)) (xs : List Int) (S : Int), ps.length = xs.length → (∀ i (h1 : i < ps.length) (h2 : i < xs.length), 0 < ps[i].2 ∧ ps[i].1 * C = xs[i] * ps[i].2) →
    ps.foldl sum1 (lowN S C, lowD S C) = (lowN (S + xs.sum) C, lowD (S + xs.sum) C)
  | [], [], S, _, _ => by simp
  | [], _ :: _, _, h, _ => by simp at h
  | _ :: _, [], _, h, _ => by simp at h
  | (t, b) :: ps, x :: xs, S, h, w => by
    have h0 := w 0 (by simp) (by simp)
    simp only [List.getElem_cons_zero] at h0
    rw [List.foldl_cons, sum1_low hC h0.1 h0.2, sumF_low hC ps xs (S + x) (by simpa using h) (fun i h1 h2 => w (i + 1) (Nat.succ_lt_succ h1) (Nat.succ_lt_succ h2)), List.sum_cons, Int.add_assoc]
theorem sumF_nil {C : Int} (hC : 0 < C) : ((0, 1) : Int × Int) = (lowN 0 C, lowD 0 C) := by rw [(low_zero hC).1, (low_zero hC).2]
end KN

set_option autoImplicit false
namespace KN
/-! parts: sum_of, times -/
abbrev pv (p : Int × Int) : Vl := .tup [.int p.1, .int p.2]
abbrev pd (p : Int × Int) : Da := .tup [.int p.1, .int p.2]
section
variable {P : PG} {n : Nat} {h : AH} {Q : Qv} {X : Ex → AH → Prop}
theorem dv_pv {p : Int × Int} {n : Nat} : DV h (pv p) (pd p) (n + 1) := dv_tup (dvs_cons dv_int (dvs_cons dv_int dvs_nil)) (by simp [SZ])
theorem sp_times {p q' : Int × Int} (e1 : P.fns 1 = some f_divisor_of) (e2 : P.fns 2 = some f_part_of) (e : P.fns 11 = some f_times) (m1 : MulOk p.1 q'.1) (m2 : MulOk p.2 q'.2) (hb : p.2 * q'.2 ≠ 0) (hz : (p.2 * q'.2).natAbs < 2 ^ 1899)
    (q : Q (pv (lowN (p.1 * q'.1) (p.2 * q'.2), lowD (p.1 * q'.1) (p.2 * q'.2))) h) : wF P (n + 3) 11 [pv p, pv q'] h Q X := by
  refine wF_eq e rfl ?_
  show wS _ _ (S.seq _ _) [_, _] _ _ _ _ _ _
  walk_at "knb"
  refine sp_part e1 e2 hb hz ?_
  exact ⟨_, Sub.refl _, q⟩
theorem pow64 {a b : Int} {i : Nat} (h1 : 0 < a) (h2 : a ≤ (2 : Int) ^ (64 * i)) (h3 : 0 < b) (h4 : b < 18446744073709551616) : a * b ≤ (2 : Int) ^ (64 * (i + 1)) := by
  rw [Nat.mul_add, Int.pow_add]
  exact Int.mul_le_mul h2 (by simp; omega) (by omega) (by omega)
theorem pow_lt {a : Int} {k K : Nat} (h0 : 0 < a) (h : a ≤ (2 : Int) ^ k) (hk : k < K) : a.natAbs < 2 ^ K := by
  have h1 : (2 : Int) ^ k < 2 ^ K := Int.pow_lt_pow_of_lt (by omega) hk
  have h2 : ((2 ^ K : Nat) : Int) = (2 : Int) ^ K := by simp
  omega
def PtOk (p : Int × Int) : Prop := 0 < p.2 ∧ p.2 < 18446744073709551616 ∧ -18446744073709551616 < p.1 ∧ p.1 < 18446744073709551616
theorem sp_sum_of {a : Nat} {ps : List (Int × Int)} (e1 : P.fns 1 = some f_divisor_of) (e2 : P.fns 2 = some f_part_of) (e : P.fns 10 = some f_sum_of) (g : get h a = some (.lst (ps.map pv))) (hp : ∀ p ∈ ps, PtOk p) (hl : ps.length ≤ 28)
    (q : Q (pv (sumF ps)) h) : wF P (n + 3) 10 [.ref a] h Q X := by
  refine wF_eq e rfl ?_
  show wS _ _ (S.seq _ _) [_, _, _, _] _ _ _ _ _ _
  walk_at "knb"
  refine for_any (fun i σ h' => ∃ t x2 x3, σ = [some (.ref a), some (pv t), x2, x3] ∧ h' = h ∧ t = (ps.take i).foldl sum1 (0, 1) ∧ 0 < t.2 ∧ t.2 ≤ (2 : Int) ^ (64 * i)) ⟨(0, 1), _, _, rfl, rfl, by simp, by simp, by simp⟩ ?_ ?_ ?_
  · rintro i σ h' hi ⟨t, x2, x3, rfl, rfl, w⟩ x hx
    simp only [List.mem_cons, List.not_mem_nil, or_false] at hx
    subst hx
    exact g
  · rintro i σ h' hi ⟨t, x2, x3, rfl, rfl, ht, h1, h2⟩
    have hi' : i < ps.length := by simpa using hi
    obtain ⟨k1, k2, k3, k4⟩ := hp ps[i] (List.getElem_mem hi')
    rw [List.getElem_map]
    walk_at "knb"
    have hb := Int.mul_pos h1 k1
    have hz := pow64 h1 h2 k1 k2
    refine sp_part e1 e2 (by omega) (pow_lt hb hz (by omega)) ?_
    walk_at "knb"
    refine ⟨(_, _), _, _, rfl, rfl, ?_, lowD_pos (Int.ne_of_gt hb), Int.le_trans (lowD_le hb) hz⟩
    rw [List.take_succ_eq_append_getElem hi', List.foldl_append, ← ht]
    rfl
  · rintro σ h' ⟨t, x2, x3, rfl, rfl, ht, h1, h2⟩
    rw [List.length_map, List.take_length] at ht
    walk_at "knb"
    subst ht
    exact ⟨_, Sub.refl _, q⟩
end
theorem sumlen_one : ∀ xs : List Nat, (((xs.map fun c => [c]).map (·.length)).sum : Nat) = xs.length
  | [] => rfl
  | x :: xs => by
    have := sumlen_one xs
    simp only [List.map_cons, List.sum_cons, this, List.length_cons, List.length_nil]; omega
theorem joinL_one : ∀ xs : List Nat, joinL [] (xs.map fun c => [c]) = xs
  | [] => rfl
  | [x] => rfl
  | x :: y :: r => by
    have := joinL_one (y :: r)
    simp only [List.map_cons] at this ⊢
    simp only [joinL, this]
    rfl
/-- a share: a part from 0 to 1 -/
def ShOk (t b : Int) : Prop := 0 ≤ t ∧ t ≤ b ∧ 0 < b ∧ b < 18446744073709551616
end KN

set_option autoImplicit false
namespace KN
/-! the laws' own divisor and part (k01 and its like) -/
section
variable {P : PG} {n : Nat} {h : AH} {Q : Qv} {X : Ex → AH → Prop}
theorem sp_ldiv {a b : Int} (e : P.fns 7 = some f__law_divisor) (q : Q (.int (max 1 (Int.gcd a b : Int))) h) : wF P (n + 1) 7 [.int a, .int b] h Q X := by
  refine wF_eq e rfl ?_
  show wS _ _ (S.seq _ _) [_, _] _ _ _ _ _ _
  walk_at "knb"
  refine s_whl (fun m σ h' => ∃ x y : Nat, m = y ∧ σ = [some (.int x), some (.int y)] ∧ h' = h ∧ Nat.gcd x y = Int.gcd a b) (m := b.natAbs) ⟨_, _, rfl, rfl, rfl, rfl⟩ ?_
  rintro m σ h' ⟨x, y, rfl, rfl, rfl, hg⟩
  walk_at "kns"
  · refine ⟨x % m, by have := Nat.mod_lt x (show m > 0 by omega); omega, m, x % m, rfl, rfl, rfl, ?_⟩
    rw [← hg, Nat.gcd_comm, ← Nat.gcd_rec, Nat.gcd_comm]
  · refine ⟨_, Sub.refl _, ?_⟩
    have : m = 0 := by omega
    subst this
    simp at hg
    rw [hg]; exact q
theorem sp_lpart {a b : Int} (e7 : P.fns 7 = some f__law_divisor) (e : P.fns 8 = some f__law_part) (hb : b ≠ 0) (hz : b.natAbs < 2 ^ 1899) (q : Q (.tup [.int (lowN a b), .int (lowD a b)]) h) : wF P (n + 2) 8 [.int a, .int b] h Q X := by
  have h1 := gcd_posR (a := a) hb
  have h2 := gcd_leR (a := a) hb
  have h3 : max 1 (Int.gcd a b : Int) = Int.gcd a b := by omega
  refine wF_eq e rfl ?_
  show wS _ _ (S.seq _ _) [_, _, _] _ _ _ _ _ _
  walk_at "knb"
  refine sp_ldiv e7 ?_
  rw [h3]
  walk_at "knb"
  have e1 : a.fdiv (lowS a b) = lowN a b := Int.fdiv_eq_ediv_of_dvd lowS_dvdL
  have e2 : b.fdiv (lowS a b) = lowD a b := Int.fdiv_eq_ediv_of_dvd lowS_dvdR
  refine t_gt (fun hy => ?_) (fun hy => ?_)
  · have e3 : lowS a b = (Int.gcd a b : Int) * 1 := by unfold lowS; rw [if_neg (by omega)]; omega
    have e1 : lowN a b = a / ((Int.gcd a b : Int) * 1) := by unfold lowN; rw [e3]
    have e2 : lowD a b = b / ((Int.gcd a b : Int) * 1) := by unfold lowD; rw [e3]
    walk_at "knb"
    rw [← e1, ← e2]
    exact ⟨_, Sub.refl _, q⟩
  · have e3 : lowS a b = (Int.gcd a b : Int) * -1 := by unfold lowS; rw [if_pos (by omega)]; omega
    rw [e3] at e1 e2
    walk_at "knb"
    refine o_fdiv ⟨by omega, by omega⟩ ?_
    walk_at "knb"
    refine o_fdiv ⟨by omega, by omega⟩ ?_
    walk_at "knb"
    rw [e1, e2]
    exact ⟨_, Sub.refl _, q⟩
end
end KN

set_option autoImplicit false
namespace KN
/-! k03: parts and their texts -/
theorem in_figs {t : List Nat} : (∀ c, c ∈ t → c ∈ ([48, 49, 50, 51, 52, 53, 54, 55, 56, 57] : List Nat)) ↔ Figs t := by
  have key : ∀ c : Nat, c ∈ ([48, 49, 50, 51, 52, 53, 54, 55, 56, 57] : List Nat) ↔ 48 ≤ c ∧ c ≤ 57 := by
    intro c
    simp only [List.mem_cons, List.not_mem_nil, or_false]
    omega
  constructor
  · exact fun h c hc => (key c).mp (h c hc)
  · exact fun h c hc => (key c).mpr (h c hc)
def oN : Option Nat → Vl
  | none => .non
  | some v => .int (v : Nat)
def oP3 : Option (Int × Int) → Vl
  | none => .non
  | some p => pv p
section
variable {P : PG} {n : Nat} {h : AH} {Q : Qv} {X : Ex → AH → Prop}
theorem sp_number_in {t : List Nat} (g1 : P.glob 1 = some (.str [48, 49, 50, 51, 52, 53, 54, 55, 56, 57])) (g2 : P.glob 2 = some (.int 12)) (e : P.fns 16 = some f_number_in) (hz : t.length ≤ SZ) (q : Q (oN (numI t)) h) : wF P (n + 1) 16 [.str t] h Q X := by
  refine wF_eq e rfl ?_
  show wS _ _ (S.seq _ _) [_] _ _ _ _ _ _
  walk_at "kn"
  refine s_ife ?_
  walk_at "kn"
  have hno : ¬ ((1 ≤ t.length ∧ t.length ≤ 12) ∧ Figs t) → numI t = none := fun z => by unfold numI; rw [if_neg z]
  refine t_le (fun c1 => ?_) (fun c1 => ?_)
  rotate_left
  · walk_at "kn"
    rw [hno fun z => c1 (by omega)] at q
    exact ⟨_, Sub.refl _, q⟩
  walk_at "kn"
  refine t_le (fun c2 => ?_) (fun c2 => ?_)
  rotate_left
  · walk_at "kn"
    rw [hno fun z => c2 (by omega)] at q
    exact ⟨_, Sub.refl _, q⟩
  walk_at "kn"
  refine m_strip hz fun s hs => ?_
  walk_at "kn"
  rw [in_figs] at hs
  by_cases c3 : Figs t
  · obtain rfl := hs.mpr c3
    walk_at "kn"
    have h0 : t ≠ [] := fun z => by rw [z] at c1; simp at c1
    refine b_int1t h0 (by omega) c3 ?_
    have e1 : numI t = some (decV t) := by unfold numI; rw [if_pos ⟨⟨by omega, by omega⟩, c3⟩]
    rw [e1] at q
    exact ⟨_, Sub.refl _, q⟩
  · have hsn : s ≠ [] := fun z => c3 (hs.mp z)
    refine if_tt (by simp [hsn]) ?_
    walk_at "kn"
    rw [hno fun z => c3 z.2] at q
    exact ⟨_, Sub.refl _, q⟩
theorem sp_part_text {p : Int × Int} (e : P.fns 15 = some f_part_text) (h1 : p.1.natAbs < 2 ^ 1899) (h2 : p.2.natAbs < 2 ^ 1899) (hl : (itoa p.1).length + (itoa p.2).length + 2 ≤ 10000) (q : Q (.str (ptx p)) h) : wF P (n + 1) 15 [pv p] h Q X := by
  refine wF_eq e rfl ?_
  show wS _ _ (S.seq _ _) [_, _, _] _ _ _ _ _ _
  have z1 : (itoa p.1).length + ([47] : List Nat).length ≤ SZ := by simp only [List.length_cons, List.length_nil, SZ]; omega
  have z2 : (itoa p.1 ++ [47]).length + (itoa p.2).length ≤ SZ := by simp only [List.length_append, List.length_cons, List.length_nil, SZ]; omega
  have k1 : p.1.natAbs < 2 ^ 1900 := Nat.lt_of_lt_of_le h1 (Nat.pow_le_pow_right (by omega) (by omega))
  have k2 : p.2.natAbs < 2 ^ 1900 := Nat.lt_of_lt_of_le h2 (Nat.pow_le_pow_right (by omega) (by omega))
  clear h1 h2
  unfold ptx at q
  walk_at "kn"
  refine e_ite ?_
  walk_at "kn"
  refine t_eqI (fun c => ?_) (fun c => ?_)
  · rw [if_pos c] at q
    walk_at "kn"
    refine b_str1 k1 ?_
    walk_at "kn"
    exact ⟨_, Sub.refl _, q⟩
  · rw [if_neg c] at q
    walk_at "kn"
    refine b_str1 k1 ?_
    walk_at "kn"
    refine b_str1 k2 ?_
    walk_at "kn"
    exact ⟨_, Sub.refl _, q⟩
theorem parA_len {c : Nat} : ∀ (s acc : List Nat), (parA c acc s).1.length + (parA c acc s).2.2.length ≤ acc.length + s.length
  | [], acc => by simp [parA]
  | x :: r, acc => by
    rw [parA]
    split
    · simp only [List.length_cons]; omega
    · have := parA_len (c := c) r (acc ++ [x])
      simp at this ⊢; omega
theorem mnB_take {a : List Nat} : (a.take ([45] : List Nat).length == [45]) = mnB a := by
  cases a with
  | nil => rfl
  | cons x xs => by_cases c : x = 45 <;> simp [mnB, c]
theorem cut_d1 {xs : List Nat} : cut xs (some 1) none = xs.drop 1 := by
  unfold cut sIx
  cases xs with
  | nil => rfl
  | cons x xs => simp
theorem big12 {x : Int} (h : x.natAbs < 1000000000000) : x.natAbs < 2 ^ 1899 := Nat.lt_of_lt_of_le (m := 2 ^ 60) (by omega) (Nat.pow_le_pow_right (by omega) (by omega))
theorem num_lt {u : List Nat} {v : Nat} (e : numI u = some v) : v < 1000000000000 := by
  have w := num_spec e
  have := decV_lt u w.1
  have h2 : (10 : Nat) ^ u.length ≤ 10 ^ 12 := Nat.pow_le_pow_right (by omega) w.2.2.2
  rw [w.2.2.1]
  exact Nat.lt_of_lt_of_le this h2
theorem sp_part_in {t : List Nat} (g1 : P.glob 1 = some (.str [48, 49, 50, 51, 52, 53, 54, 55, 56, 57])) (g2 : P.glob 2 = some (.int 12)) (e1 : P.fns 1 = some f_divisor_of) (e2 : P.fns 2 = some f_part_of) (e15 : P.fns 15 = some f_part_text) (e16 : P.fns 16 = some f_number_in) (e : P.fns 17 = some f_part_in) (hz : t.length ≤ 10000) (q1 : ∀ p, pinF t = some p → Q (pv p) h) (q2 : pinF t = none → X ⟨1, none⟩ h) : wF P (n + 3) 17 [.str t] h Q X := by
  have hzS : t.length ≤ SZ := by simp only [SZ]; omega
  refine wF_eq e rfl ?_
  show wS _ _ (S.seq _ _) [_, _, _, _, _, _, _] _ _ _ _ _ _
  walk_at "kn"
  refine m_part (by omega) hzS ?_
  have hl := parA_len (c := 47) t []
  unfold pinF at q1 q2
  generalize parA 47 [] t = w at *
  obtain ⟨a, st, b⟩ := w
  simp only [List.length_nil] at hl q1 q2 ⊢
  have hza : a.length ≤ SZ := by simp only [SZ]; omega
  have hzb : b.length ≤ SZ := by simp only [SZ]; omega
  walk_at "kn"
  refine e_mid (fun v h' => v = .str (a.drop (if mnB a then 1 else 0)) ∧ h' = h) (fun Q' hQ => ?_) ?_
  · refine e_ite ?_
    walk_at "kn"
    rw [mnB_take]
    by_cases hm : mnB a = true
    · refine if_tt hm ?_
      walk_at "kn"
      rw [cut_d1]
      exact hQ _ _ ⟨by rw [if_pos hm], rfl⟩
    · refine if_ff (by simpa using hm) ?_
      walk_at "kn"
      exact hQ _ _ ⟨by rw [if_neg hm]; rfl, rfl⟩
  rintro _ h1 ⟨rfl, rfl⟩
  have hzu : (a.drop (if mnB a then 1 else 0)).length ≤ SZ := by rw [List.length_drop]; omega
  walk_at "kn"
  refine sp_number_in g1 g2 e16 hzu ?_
  walk_at "kn"
  refine e_mid (fun v h'' => v = oN (if st = [] then some 1 else numI b) ∧ h'' = h1) (fun Q' hQ => ?_) ?_
  · refine e_ite ?_
    walk_at "kn"
    by_cases hs : st = []
    · subst hs
      refine if_ff (by rfl) ?_
      walk_at "kn"
      exact hQ _ _ ⟨rfl, rfl⟩
    · refine if_tt (by simp [hs]) ?_
      walk_at "kn"
      refine sp_number_in g1 g2 e16 hzb ?_
      rw [if_neg hs] at hQ
      exact hQ _ _ ⟨rfl, rfl⟩
  rintro _ hh ⟨rfl, rfl⟩
  walk_at "kn"
  refine s_ife ?_
  walk_at "kn"
  have hva : ∀ v, numI (a.drop (if mnB a then 1 else 0)) = some v → v < 1000000000000 := fun v e => num_lt e
  have hvb : ∀ v, (if st = [] then some 1 else numI b) = some v → v < 1000000000000 := fun v e => by
    split at e
    · have := Option.some.inj e; omega
    · exact num_lt e
  generalize numI (a.drop (if mnB a then 1 else 0)) = oa at *
  generalize (if st = [] then some 1 else numI b) = ob at *
  cases oa with
  | none =>
    refine if_tt (by rfl) ?_
    walk_at "kn"
    exact ⟨_, Sub.refl _, q2 rfl⟩
  | some v =>
    refine if_ff (by rfl) ?_
    walk_at "kn"
    cases ob with
    | none =>
      refine if_tt (by rfl) ?_
      walk_at "kn"
      exact ⟨_, Sub.refl _, q2 rfl⟩
    | some m =>
      refine if_ff (by rfl) ?_
      simp only at q1 q2
      have bv := hva v rfl
      have bm := hvb m rfl
      walk_at "kn"
      show wOp .eq (.int (m : Nat)) (.int 0) _ _
      refine t_eqI (fun c => ?_) (fun c => ?_)
      · walk_at "kn"
        exact ⟨_, Sub.refl _, q2 (by unfold redF; rw [if_pos (by omega)])⟩
      have hmp : (0 : Int) < (m : Nat) := by omega
      walk_at "kn"
      refine e_mid (fun x h'' => x = .int (sgn (mnB a) v) ∧ h'' = hh) (fun Q' hQ => ?_) ?_
      · refine e_ite ?_
        walk_at "kn"
        rw [mnB_take]
        by_cases hm : mnB a = true
        · refine if_tt hm ?_
          walk_at "kn"
          exact ⟨_, rfl, hQ _ _ ⟨by rw [hm]; rfl, rfl⟩⟩
        · refine if_ff (by simpa using hm) ?_
          have hm' : mnB a = false := by simpa using hm
          walk_at "kn"
          exact hQ _ _ ⟨by rw [hm']; rfl, rfl⟩
      rintro _ h3 ⟨rfl, rfl⟩
      walk_at "kn"
      have hx : (sgn (mnB a) v).natAbs < 1000000000000 := by rw [sgn_abs]; omega
      generalize sgn (mnB a) v = x at *
      have hmz : ((m : Nat) : Int).natAbs < 2 ^ 1899 := big12 (by omega)
      refine sp_part e1 e2 (by omega) hmz ?_
      clear hmz
      have hp1 : (lowN x m).natAbs < 1000000000000 := Nat.lt_of_le_of_lt (lowN_abs (by omega)) hx
      have hp2 : (lowD x m).natAbs < 1000000000000 := by
        have := lowD_le (a := x) hmp
        have := lowD_pos (a := x) (b := (m : Int)) (by omega)
        omega
      have hm0 : m ≠ 0 := fun z => by rw [z] at hmp; omega
      unfold redF at q1 q2
      rw [if_neg hm0] at q1 q2
      walk_at "kn"
      refine s_ife ?_
      walk_at "kn"
      have i1 := itoa_len12 hp1
      have i2 := itoa_len12 hp2
      refine sp_part_text (p := (lowN x m, lowD x m)) e15 (big12 hp1) (big12 hp2) (by simp only; omega) ?_
      walk_at "kn"
      by_cases hp : ptx (lowN x m, lowD x m) = t
      · refine if_ff (by simp [hp]) ?_
        walk_at "kn"
        exact ⟨_, Sub.refl _, q1 (lowN x m, lowD x m) (by rw [if_pos hp])⟩
      · refine if_tt (by simp [hp]) ?_
        walk_at "kn"
        exact ⟨_, Sub.refl _, q2 (by rw [if_neg hp])⟩
/-! the law's own way -/
theorem sp_figures {t : List Nat} (e : P.fns 20 = some f__law_figures) (hz : t.length ≤ 10000) (q : Q (oN (figI t)) h) : wF P (n + 1) 20 [.str t] h Q X := by
  have hzS : t.length ≤ SZ := by simp only [SZ]; omega
  refine wF_eq e rfl ?_
  show wS _ _ (S.seq _ _) [_, _] _ _ _ _ _ _
  walk_at "kn"
  refine s_ife ?_
  walk_at "kn"
  have hno : ¬ (((0 < t.length ∧ t.length < 13) ∧ Figs t) ∧ (t.head? = some 48 → t = [48])) → figI t = none := fun z => by unfold figI; rw [if_neg z]
  refine t_lt (fun c1 => ?_) (fun c1 => ?_)
  rotate_left
  · walk_at "kn"
    rw [hno fun z => c1 (by omega)] at q
    exact ⟨_, Sub.refl _, q⟩
  walk_at "kn"
  refine t_lt (fun c2 => ?_) (fun c2 => ?_)
  rotate_left
  · walk_at "kn"
    rw [hno fun z => c2 (by omega)] at q
    exact ⟨_, Sub.refl _, q⟩
  walk_at "kn"
  refine lc_any (fun i acc h' => h' = h ∧ acc = ((t.take i).map fun c => decide (c ∈ ([48, 49, 50, 51, 52, 53, 54, 55, 56, 57] : List Nat))).map Vl.bl) ⟨rfl, rfl⟩ ?_ ?_ ?_
  · rintro i acc h' hi _ z hz
    cases hz
  · rintro i acc h' hi ⟨rfl, rfl⟩
    have hi' : i < t.length := by simpa using hi
    rw [List.getElem_map]
    walk_at "kn"
    refine o_in1 ?_
    refine ⟨by simp [SZ]; omega, rfl, ?_⟩
    rw [List.take_succ_eq_append_getElem hi', List.map_append, List.map_append]; rfl
  rintro acc h' ⟨rfl, rfl⟩
  rw [List.length_map, List.take_length]
  refine n_new fun p np => ?_
  have S0 := Sub_push (o := Ob.lst ((t.map fun c => decide (c ∈ ([48, 49, 50, 51, 52, 53, 54, 55, 56, 57] : List Nat))).map Vl.bl)) np
  have G := get_push_self (o := Ob.lst ((t.map fun c => decide (c ∈ ([48, 49, 50, 51, 52, 53, 54, 55, 56, 57] : List Nat))).map Vl.bl)) np
  generalize push h' p _ = H at *
  walk_at "kn"
  refine b_all1 G ?_
  have hall : (t.map fun c => decide (c ∈ ([48, 49, 50, 51, 52, 53, 54, 55, 56, 57] : List Nat))).all id = true ↔ Figs t := by
    rw [← in_figs, List.all_eq_true]
    simp only [List.mem_map, forall_exists_index, and_imp, forall_apply_eq_imp_iff₂, id, decide_eq_true_eq]
  by_cases c3 : Figs t
  rotate_left
  · refine ⟨false, congrArg some (Bool.eq_false_iff.mpr fun z => c3 (hall.mp z)), ?_⟩
    walk_at "kn"
    rw [hno fun z => c3 z.1.2] at q
    exact ⟨_, S0, q⟩
  refine ⟨true, congrArg some (hall.mpr c3), ?_⟩
  obtain ⟨x, xs, rfl⟩ : ∃ x xs, t = x :: xs := by
    cases t with
    | nil => simp at c1
    | cons x xs => exact ⟨x, xs, rfl⟩
  walk_at "kn"
  refine ⟨hzS, x, rfl, ?_⟩
  walk_at "kn"
  have hyes : ((x :: xs).head? = some 48 → x :: xs = [48]) → figI (x :: xs) = some (decV (x :: xs)) := fun z => by unfold figI; rw [if_pos ⟨⟨⟨by omega, by omega⟩, c3⟩, z⟩]
  by_cases cx : x = 48
  · refine if_tt (decide_eq_true (by rw [cx])) ?_
    walk_at "kn"
    by_cases cs : x :: xs = [48]
    · refine if_ff (by simp [cs]) ?_
      walk_at "kn"
      refine b_int1t (by simp) (by omega) c3 ?_
      rw [hyes fun _ => cs] at q
      exact ⟨_, S0, q⟩
    · refine if_tt (by rw [decide_eq_false cs]; rfl) ?_
      walk_at "kn"
      rw [hno fun z => cs (z.2 (by rw [cx]; rfl))] at q
      exact ⟨_, S0, q⟩
  · refine if_ff (decide_eq_false fun z => cx (List.cons.inj z).1) ?_
    walk_at "kn"
    refine b_int1t (by simp) (by omega) c3 ?_
    rw [hyes fun z => absurd (Option.some.inj z) cx] at q
    exact ⟨_, S0, q⟩
theorem splA_sum {c : Nat} : ∀ (s acc : List Nat), ∀ w ∈ splA c acc s, w.length ≤ acc.length + s.length
  | [], acc, w, h => by
    simp [splA] at h; subst h; simp
  | x :: r, acc, w, h => by
    rw [splA] at h
    split at h
    · rcases List.mem_cons.mp h with z | z
      · rw [z]; omega
      · have := splA_sum r [] w z
        simp at this ⊢; omega
    · have := splA_sum r (acc ++ [x]) w h
      simp at this ⊢; omega
theorem cut_t1 {xs : List Nat} : decide (cut xs none (some 1) = [45]) = mnB xs := by
  unfold cut sIx mnB
  cases xs with
  | nil => rfl
  | cons x xs =>
    have e : ((x :: xs).drop 0).take ((if (0 : Int) ≤ 1 then min (1 : Int).toNat (x :: xs).length else ((1 : Int) + ((x :: xs).length : Int)).toNat) - 0) = [x] := by
      rw [if_pos (by omega)]
      simp
    rw [e]
    by_cases c : x = 45
    · subst c; rfl
    · simp [c]
theorem cut_mn {xs : List Nat} {m : Bool} : cut xs (some (if m = true then 1 else 0)) none = xs.drop (if m then 1 else 0) := by
  cases m
  · unfold cut sIx
    simp
  · exact cut_d1
theorem sp_walked {t : List Nat} (e7 : P.fns 7 = some f__law_divisor) (e20 : P.fns 20 = some f__law_figures) (e : P.fns 21 = some f__law_walked) (hz : t.length ≤ 9000) (q : Q (oP3 (walF t)) h) : wF P (n + 2) 21 [.str t] h Q X := by
  have hzS : t.length ≤ SZ := by simp only [SZ]; omega
  have hzS2 : t.length + 2 ≤ SZ := by simp only [SZ]; omega
  refine wF_eq e rfl ?_
  show wS _ _ (S.seq _ _) [_, _, _, _, _] _ _ _ _ _ _
  walk_at "kn"
  refine m_split (by omega) hzS2 ?_
  have hl0 := splA_len (c := 47) t []
  have hls := splA_sum (c := 47) t []
  unfold walF at q
  generalize splA 47 [] t = ws at *
  obtain ⟨w, ws, rfl⟩ : ∃ w ws', ws = w :: ws' := by
    cases ws with
    | nil => simp at hl0
    | cons x xs => exact ⟨x, xs, rfl⟩
  refine n_new fun p np => ?_
  have S0 := Sub_push (o := Ob.lst ((w :: ws).map Vl.str)) np
  have G := get_push_self (o := Ob.lst ((w :: ws).map Vl.str)) np
  generalize push h p _ = H at *
  walk_at "kn"
  rw [cut_t1, cut_mn]
  simp only [List.headD_cons] at q
  have hwl := hls w (by simp)
  refine sp_figures e20 (by rw [List.length_drop]; simp at hwl; omega) ?_
  walk_at "kn"
  generalize mnB t = m at *
  have hva : ∀ v, figI (w.drop (if m then 1 else 0)) = some v → v < 1000000000000 := fun v e => num_lt (fig_num e)
  generalize figI (w.drop (if m then 1 else 0)) = oa at *
  refine s_mid (fun σ' h' => h' = H ∧ σ' = [some (.str t), some (.ref p), some (.bl m), some (oN oa), none] ∧ ¬ 2 < (w :: ws).length ∧ ∃ v, oa = some v ∧ ¬ (m = true ∧ v = 0)) (fun N' hN => ?_) ?_
  · refine s_ife ?_
    walk_at "kn"
    rw [List.length_map]
    refine t_gt (fun c => ?_) (fun c => ?_)
    · walk_at "kn"
      have c' : 2 < (w :: ws).length := by omega
      cases oa with
      | none => exact ⟨_, S0, q⟩
      | some v => simp only [if_pos (Or.inl c' : 2 < (w :: ws).length ∨ m = true ∧ v = 0)] at q; exact ⟨_, S0, q⟩
    have c' : ¬ 2 < (w :: ws).length := by omega
    walk_at "kn"
    cases oa with
    | none =>
      refine if_tt (by rfl) ?_
      walk_at "kn"
      exact ⟨_, S0, q⟩
    | some v =>
      refine if_ff (by rfl) ?_
      walk_at "kn"
      cases m with
      | false =>
        refine if_ff (by rfl) ?_
        walk_at "kn"
        exact hN _ _ ⟨rfl, rfl, c', v, rfl, by simp⟩
      | true =>
        refine if_tt (by rfl) ?_
        walk_at "kn"
        show wOp .eq (.int (v : Nat)) (.int 0) _ _
        refine t_eqI (fun z => ?_) (fun z => ?_)
        · walk_at "kn"
          have z' : v = 0 := by omega
          simp only at q
          rw [if_pos (Or.inr ⟨trivial, z'⟩)] at q
          exact ⟨_, S0, q⟩
        · walk_at "kn"
          exact hN _ _ ⟨rfl, rfl, c', v, rfl, fun y => z (by omega)⟩
  rintro _ H1 ⟨rfl, rfl, c, v, rfl, c2⟩
  have bv := hva v rfl
  have c12 : ¬ (2 < (w :: ws).length ∨ m = true ∧ v = 0) := fun z => by
    rcases z with z | z
    · exact c z
    · exact c2 z
  simp only [if_neg c12] at q
  walk_at "kn"
  refine e_mid (fun y h' => y = oN (if (w :: ws).length = 1 then some 1 else figI ((w :: ws).getD 1 [])) ∧ h' = H1) (fun Q' hQ => ?_) ?_
  · refine e_ite ?_
    walk_at "kn"
    rw [List.length_map]
    refine t_eqI (fun z => ?_) (fun z => ?_)
    · walk_at "kn"
      exact hQ _ _ ⟨by rw [if_pos (by omega)]; rfl, rfl⟩
    · obtain ⟨w2, ws2, rfl⟩ : ∃ w2 ws2, ws = w2 :: ws2 := by
        cases ws with
        | nil => exact absurd rfl z
        | cons x xs => exact ⟨x, xs, rfl⟩
      have hw2 := hls w2 (by simp)
      walk_at "kn"
      refine sp_figures e20 (by simp at hw2; omega) ?_
      exact hQ _ _ ⟨by rw [if_neg (by simp)]; rfl, rfl⟩
  rintro _ hh ⟨rfl, rfl⟩
  have hvb : ∀ u, (if (w :: ws).length = 1 then some 1 else figI ((w :: ws).getD 1 [])) = some u → u < 1000000000000 := fun u e => by
    split at e
    · have := Option.some.inj e; omega
    · exact num_lt (fig_num e)
  have hob : ∀ u, (if (w :: ws).length = 1 then some 1 else figI ((w :: ws).getD 1 [])) = some u → (w :: ws).length = 1 → u = 1 := fun u e k => by rw [if_pos k] at e; exact (Option.some.inj e).symm
  generalize (if (w :: ws).length = 1 then some 1 else figI ((w :: ws).getD 1 [])) = ob at *
  walk_at "kn"
  refine s_mid (fun σ' h' => h' = hh ∧ σ' = [some (.str t), some (.ref p), some (.bl m), some (oN (some v)), some (oN ob)] ∧ ∃ u, ob = some u ∧ ¬ (((w :: ws).length = 2 ∧ u < 2) ∨ Nat.gcd v u ≠ 1)) (fun N' hN => ?_) ?_
  · refine s_ife ?_
    walk_at "kn"
    cases ob with
    | none =>
      refine if_tt (by rfl) ?_
      walk_at "kn"
      exact ⟨_, S0, q⟩
    | some u =>
      refine if_ff (by rfl) ?_
      simp only at q
      have hu1 := hob u rfl
      generalize hL : (w :: ws).length = L at *
      have hgi : Int.gcd (v : Nat) (u : Nat) = Nat.gcd v u := rfl
      walk_at "kn"
      rw [List.length_map, hL]
      have rest : ¬ (L = 2 ∧ u < 2) → (max 1 (Int.gcd (v : Nat) (u : Nat) : Int) = 1 ↔ Nat.gcd v u = 1) := fun k => by
        have hu : 0 < u := by
          by_cases l1 : L = 1
          · have := hu1 l1; omega
          · omega
        have := Nat.gcd_pos_of_pos_right v hu
        rw [hgi]
        omega
      refine t_eqI (fun z => ?_) (fun z => ?_)
      · walk_at "kn"
        show wOp .lt (.int (u : Nat)) (.int 2) _ _
        refine t_lt (fun y => ?_) (fun y => ?_)
        · walk_at "kn"
          rw [if_pos (Or.inl ⟨by omega, by omega⟩)] at q
          exact ⟨_, S0, q⟩
        have k : ¬ (L = 2 ∧ u < 2) := by omega
        walk_at "kn"
        show wF _ _ 7 [.int (v : Nat), .int (u : Nat)] _ _ _
        refine sp_ldiv e7 ?_
        walk_at "kn"
        refine t_neI (fun y => ?_) (fun y => ?_)
        · walk_at "kn"
          rw [if_pos (Or.inr fun g => y ((rest k).mpr g))] at q
          exact ⟨_, S0, q⟩
        · walk_at "kn"
          refine hN _ _ ⟨rfl, rfl, u, rfl, fun g => ?_⟩
          rcases g with g | g
          · exact k g
          · exact g ((rest k).mp y)
      · have k : ¬ (L = 2 ∧ u < 2) := by omega
        walk_at "kn"
        show wF _ _ 7 [.int (v : Nat), .int (u : Nat)] _ _ _
        refine sp_ldiv e7 ?_
        walk_at "kn"
        refine t_neI (fun y => ?_) (fun y => ?_)
        · walk_at "kn"
          rw [if_pos (Or.inr fun g => y ((rest k).mpr g))] at q
          exact ⟨_, S0, q⟩
        · walk_at "kn"
          refine hN _ _ ⟨rfl, rfl, u, rfl, fun g => ?_⟩
          rcases g with g | g
          · exact k g
          · exact g ((rest k).mp y)
  rintro _ h9 ⟨rfl, rfl, u, rfl, c3⟩
  simp only [if_neg c3] at q
  walk_at "kn"
  refine e_ite ?_
  walk_at "kn"
  cases m with
  | true =>
    refine if_tt (by rfl) ?_
    walk_at "kn"
    refine ⟨_, rfl, ?_⟩
    walk_at "kn"
    exact ⟨_, S0, q⟩
  | false =>
    refine if_ff (by rfl) ?_
    walk_at "kn"
    exact ⟨_, S0, q⟩
theorem sp_told {t : List Nat} (hsub : ∀ c d, P.sub c d = (c == d || d == 0)) (g1 : P.glob 1 = some (.str [48, 49, 50, 51, 52, 53, 54, 55, 56, 57])) (g2 : P.glob 2 = some (.int 12)) (e1 : P.fns 1 = some f_divisor_of) (e2 : P.fns 2 = some f_part_of) (e15 : P.fns 15 = some f_part_text) (e16 : P.fns 16 = some f_number_in) (e17 : P.fns 17 = some f_part_in) (e : P.fns 22 = some f__law_told) (hz : t.length ≤ 10000) (q : Q (oP3 (pinF t)) h) : wF P (n + 4) 22 [.str t] h Q X := by
  refine wF_eq e rfl ?_
  show wS _ _ (S.seq _ _) [_, _, _, _] _ _ _ _ _ _
  walk_at "knb"
  refine sp_part_in g1 g2 e1 e2 e15 e16 e17 hz (fun p hp => ?_) (fun hp => ?_)
  · rw [hp] at q
    walk_at "knb"
    exact ⟨_, Sub.refl _, q⟩
  · rw [hp] at q
    rw [hsub]
    refine if_tt (by rfl) ?_
    refine ⟨rfl, fun p np => ?_⟩
    have GX := get_push_self (o := Ob.exc 1 none) np
    have S0 := Sub_push (o := Ob.exc 1 none) np
    generalize push h p (.exc 1 none) = H0 at *
    have u1 : P.sub 1 1 = true := by rw [hsub]; rfl
    have u2 : P.sub 1 2 = false := by rw [hsub]; rfl
    have u3 : P.sub 1 3 = false := by rw [hsub]; rfl
    have u4 : P.sub 1 4 = false := by rw [hsub]; rfl
    have u5 : P.sub 1 5 = false := by rw [hsub]; rfl
    have u6 : P.sub 1 6 = false := by rw [hsub]; rfl
    have u7 : P.sub 1 7 = false := by rw [hsub]; rfl
    have u8 : P.sub 1 8 = false := by rw [hsub]; rfl
    have u9 : P.sub 1 9 = false := by rw [hsub]; rfl
    walk_at "knb"
    refine ⟨false, by simp [isaKs, isaK, GX, u2, u3, u4, u5, u6, u7, u8, u9], ?_⟩
    walk_at "knb"
    refine if_ff (by rw [u1]; rfl) ?_
    walk_at "knb"
    exact ⟨_, S0, q⟩
def digs (z : Nat) (s : List Nat) : List Nat := (if z = 0 ∧ s ≠ [] then [] else decT z) ++ s
theorem digs_step {z : Nat} {s : List Nat} (h : 0 < z ∨ s = []) : digs (z / 10) ((48 + z % 10) :: s) = digs z s := by
  unfold digs
  rw [if_neg (show ¬ (z = 0 ∧ s ≠ []) from fun w => by
    rcases h with h | h
    · omega
    · exact w.2 h)]
  rw [decT_eq z]
  by_cases c : z < 10
  · rw [if_pos ⟨by omega, by simp⟩, if_pos c, Nat.mod_eq_of_lt c]; rfl
  · rw [if_neg (fun w => by have := w.1; omega), if_neg c]; simp
theorem fig_at {z : Nat} : atI ([48, 49, 50, 51, 52, 53, 54, 55, 56, 57] : List Nat) ((z % 10 : Nat) : Int) = some (48 + z % 10) := by
  have : ∀ d : Nat, d < 10 → atI ([48, 49, 50, 51, 52, 53, 54, 55, 56, 57] : List Nat) ((d : Nat) : Int) = some (48 + d) := by decide
  exact this _ (Nat.mod_lt _ (by omega))
theorem sp_ltext1 {x b : Int} (e : P.fns 19 = some f__law_text) (hx : x.natAbs < 1000000000000) (hb : b.natAbs < 1000000000000) (q : Q (.str (ptx (x, b))) h) (rec : b ≠ 1 → ∀ (h' : AH) (Q' : Qv) (X' : Ex → AH → Prop), Q' (.str (itoa b)) h' → wF P n 19 [pv (b, 1)] h' Q' X') : wF P (n + 1) 19 [pv (x, b)] h Q X := by
  refine wF_eq e rfl ?_
  show wS _ _ (S.seq _ _) [_, _, _] _ _ _ _ _ _
  walk_at "kn"
  refine s_whl (fun k σ' h' => h' = h ∧ ∃ (s : List Nat) (z : Nat), σ' = [some (pv (x, b)), some (.str s), some (.int (z : Nat))] ∧ digs z s = decT x.natAbs ∧ k = z + (if s = [] then 1 else 0)) (m := x.natAbs + 1) ⟨rfl, [], x.natAbs, rfl, by unfold digs; rw [if_neg (by simp)]; simp, by simp⟩ ?_
  rintro k σ' h' ⟨rfl, s, z, rfl, hd, rfl⟩
  have hsl : s.length ≤ 13 := by
    have h1 := congrArg List.length hd
    have h2 := decT_len (n := x.natAbs) (k := 12) (by omega) (by omega)
    unfold digs at h1
    rw [List.length_append] at h1
    omega
  have hzs : ([48 + z % 10] : List Nat).length + s.length ≤ SZ := by simp only [List.length_cons, List.length_nil, SZ]; omega
  have hc1 : ((z : Nat) : Int) % 10 = ((z % 10 : Nat) : Int) := by omega
  have hc2 : ((z : Nat) : Int) / 10 = ((z / 10 : Nat) : Int) := by omega
  walk_at "kn"
  refine t_gt (fun c => ?_) (fun c => ?_)
  · walk_at "kn"
    rw [hc1]
    refine x_str (by simp [SZ]) fig_at ?_
    walk_at "kn"
    rw [hc2]
    exact ⟨_, by rw [if_neg (by simp)]; omega, rfl, (48 + z % 10) :: s, z / 10, rfl, by rw [digs_step (.inl (by omega)), hd], rfl⟩
  walk_at "kn"
  by_cases hs : s = []
  · refine if_tt (by simp [hs]) ?_
    walk_at "kn"
    rw [hc1]
    refine x_str (by simp [SZ]) fig_at ?_
    walk_at "kn"
    rw [hc2]
    exact ⟨_, by rw [if_pos hs, if_neg (by simp)]; omega, rfl, (48 + z % 10) :: s, z / 10, rfl, by rw [digs_step (.inr hs), hd], rfl⟩
  refine if_ff (by simp [hs]) ?_
  have hz0 : z = 0 := by omega
  subst hz0
  have hs2 : s = decT x.natAbs := by
    unfold digs at hd
    rw [if_pos ⟨rfl, hs⟩] at hd
    exact hd
  have hi := itoa_len12 hx
  refine s_seq (s_mid (fun σ' h'' => h'' = h' ∧ σ' = [some (pv (x, b)), some (.str (itoa x)), some (.int 0)]) (fun N' hN => ?_) ?_)
  · walk_at "kn"
    show wOp .lt (.int x) (.int 0) _ _
    refine o_lt ?_
    by_cases hx0 : x < 0
    · rw [decide_eq_true hx0]
      walk_at "kn"
      refine o_mulS (by simp) (by simp) (by simp [SZ]) ?_
      walk_at "kn"
      refine hN _ _ ⟨rfl, ?_⟩
      have : itoa x = 45 :: s := by
        obtain ⟨n, hn, rfl⟩ : ∃ n : Nat, 0 < n ∧ x = -(n : Int) := ⟨(-x).toNat, by omega, by omega⟩
        rw [itoa_neg hn, hs2]; simp
      rw [this]; rfl
    · rw [decide_eq_false hx0]
      walk_at "kn"
      refine o_mulS (by simp) (by simp) (by simp [SZ]) ?_
      walk_at "kn"
      refine hN _ _ ⟨rfl, ?_⟩
      have : itoa x = s := by
        obtain ⟨n, rfl⟩ : ∃ n : Nat, x = (n : Int) := ⟨x.toNat, by omega⟩
        rw [itoa_nat, hs2]; simp
      rw [this]; rfl
  rintro _ h2 ⟨rfl, rfl⟩
  walk_at "kn"
  refine s_ife ?_
  walk_at "kn"
  show wOp .eq (.int b) (.int 1) _ _
  refine t_eqI (fun c => ?_) (fun c => ?_)
  · walk_at "kn"
    unfold ptx at q
    rw [if_pos (show (x, b).2 = 1 from c)] at q
    exact ⟨_, Sub.refl _, q⟩
  · have hz47 : (itoa x).length + ([47] : List Nat).length ≤ SZ := by simp only [List.length_cons, List.length_nil, SZ]; omega
    have hib := itoa_len12 hb
    have hz2 : (itoa x ++ [47]).length + (itoa b).length ≤ SZ := by simp only [List.length_append, List.length_cons, List.length_nil, SZ]; omega
    unfold ptx at q
    rw [if_neg (show ¬ (x, b).2 = 1 from c)] at q
    walk_at "kn"
    refine rec c _ _ _ ?_
    walk_at "kn"
    exact ⟨_, Sub.refl _, q⟩
theorem sp_ltext {x b : Int} (e : P.fns 19 = some f__law_text) (hx : x.natAbs < 1000000000000) (hb : b.natAbs < 1000000000000) (q : Q (.str (ptx (x, b))) h) : wF P (n + 2) 19 [pv (x, b)] h Q X :=
  sp_ltext1 e hx hb q fun _ h' Q' X' q' => sp_ltext1 e hb (by omega) (by unfold ptx; rw [if_pos (show (b, (1 : Int)).2 = 1 from rfl)]; exact q') fun c => absurd rfl c
end
section
variable {P : PG} {n p c T : Nat} {b r : List (Nat × Ob)} {Q : Qv} {X : Ex → AH → Prop}
theorem sp_number3 (e4 : P.fns 4 = some f__law_take) (e : P.fns 6 = some f__law_number) (B : Box p c T b) (hT : T + 3 < 2 ^ 60)
    (q : ∀ (v : Int) b', v.natAbs < 1000000000000 → Box p c (T + 3) b' → Q (.int v) ⟨b', r⟩) : wF P (n + 2) 6 [.ref p] ⟨b, r⟩ Q X := by
  refine wF_eq e rfl ?_
  show wS _ _ (S.seq _ _) [_, _, _] _ _ _ _ _ _
  walk_at "kn"
  rename_i d1 b1 l1 u1 B1 d2 b2 l2 u2 B2
  have h12 : (10 : Int) ^ (12 : Int).toNat = 1000000000000 := by decide
  have hd2 : d2 = 0 ∨ d2 = 1 := by omega
  refine s_ife ?_
  walk_at "kn"
  refine t_eqI (fun z => ?_) (fun z => ?_)
  · walk_at "kn"
    rename_i d3 b3 l3 u3 B3
    refine ⟨_, Sub.refl _, q _ _ ?_ (B3.mono (by omega))⟩ <;> (obtain rfl | rfl := hd2) <;> omega
  walk_at "kn"
  refine s_ife ?_
  walk_at "kn"
  refine t_eqI (fun z2 => ?_) (fun z2 => ?_)
  · walk_at "kn"
    rename_i d3 b3 l3 u3 B3
    refine ⟨_, Sub.refl _, q _ _ ?_ (B3.mono (by omega))⟩ <;> (obtain rfl | rfl := hd2) <;> omega
  walk_at "kn"
  rename_i q4 f4 v hv d3 b3 l3 u3 B3
  refine ⟨⟨b3, r⟩, Sub_box B3 (RX.refl.push f4), q _ _ ?_ (B3.mono (by omega))⟩ <;> (obtain rfl | rfl := hd2) <;> omega
theorem sp_any3 (e4 : P.fns 4 = some f__law_take) (e6 : P.fns 6 = some f__law_number) (e7 : P.fns 7 = some f__law_divisor) (e8 : P.fns 8 = some f__law_part) (e : P.fns 13 = some f__law_any_part) (B : Box p c T b) (hT : T + 6 < 2 ^ 60)
    (q : ∀ (x y : Int) b', x.natAbs < 1000000000000 → 0 < y → y < 1000000000000 → Int.gcd x y = 1 → Box p c (T + 6) b' → Q (pv (x, y)) ⟨b', r⟩) : wF P (n + 3) 13 [.ref p] ⟨b, r⟩ Q X := by
  refine wF_eq e rfl ?_
  show wS _ _ (S.seq _ _) [_, _, _] _ _ _ _ _ _
  walk_at "kn"
  refine sp_number3 e4 e6 B (by omega) fun v1 b1 l1 B1 => ?_
  walk_at "kn"
  refine sp_number3 e4 e6 B1 (by omega) fun v2 b2 l2 B2 => ?_
  walk_at "kn"
  refine e_mid (fun v h' => ∃ z : Int, v = .int z ∧ h' = ⟨b2, r⟩ ∧ z ≠ 0 ∧ z.natAbs < 1000000000000) (fun Q' hQ => ?_) ?_
  · refine e_ite ?_
    walk_at "kn"
    refine t_neI (fun z => ?_) (fun z => ?_)
    · walk_at "kn"
      exact hQ _ _ ⟨_, rfl, rfl, z, l2⟩
    · walk_at "kn"
      exact hQ _ _ ⟨_, rfl, rfl, by omega, by omega⟩
  rintro _ _ ⟨z, rfl, rfl, hz, hz2⟩
  walk_at "kn"
  have hp : z.natAbs < 2 ^ 1899 := big12 hz2
  refine sp_lpart e7 e8 hz hp ?_
  clear hp
  have h1 := lowD_pos (a := v1) hz
  have h2 := lowN_abs (a := v1) hz
  have h3 : lowD v1 z ≤ z.natAbs := by
    have hm := lowD_mul (a := v1) (b := z)
    have hn : (lowD v1 z).natAbs * (lowS v1 z).natAbs = z.natAbs := by rw [← Int.natAbs_mul, hm]
    have hs := lowS_ne (a := v1) hz
    have : (lowD v1 z).natAbs * 1 ≤ (lowD v1 z).natAbs * (lowS v1 z).natAbs := Nat.mul_le_mul_left _ (by omega)
    omega
  exact ⟨_, Sub.refl _, q (lowN v1 z) (lowD v1 z) b2 (by omega) h1 (by omega) (low_gcd hz) B2⟩
theorem sp_sign3 (e4 : P.fns 4 = some f__law_take) (e : P.fns 18 = some f__law_sign) (B : Box p c T b) (hT : T + 2000 < 2 ^ 59) (q : ∀ k b', Box p c (T + 1) b' → Q (.str [k]) ⟨b', r⟩) : wF P (n + 2) 18 [.ref p] ⟨b, r⟩ Q X := by
  refine wF_eq e rfl ?_
  show wS _ _ (S.seq _ _) [_, _] _ _ _ _ _ _
  walk_at "kn"
  rename_i d b1 l1 u1 B1
  refine x_strIn (by simp [SZ]) l1 (by simpa using u1) fun k hk => ?_
  exact ⟨_, Sub.refl _, q k b1 B1⟩
theorem cut_len3 {xs : List Nat} {lo hi : Option Int} : (cut xs lo hi).length ≤ xs.length := by
  unfold cut
  simp only [List.length_take, List.length_drop]
  omega
theorem sp_changed {t : List Nat} {x y : Int} (e4 : P.fns 4 = some f__law_take) (e18 : P.fns 18 = some f__law_sign) (e : P.fns 23 = some f__law_changed) (B : Box p c T b) (hT : T + 3000 < 2 ^ 59) (ht : t.length ≤ 1000) (hx : x.natAbs < 1000000000000) (hy : 0 < y ∧ y < 1000000000000)
    (q : ∀ s b' r', s.length ≤ 2 * t.length + 60 → Box p c (T + 5) b' → RX p c r r' → Q (.str s) ⟨b', r'⟩) : wF P (n + 3) 23 [.ref p, .str t, pv (x, y)] ⟨b, r⟩ Q X := by
  have hz : t.length ≤ SZ := by simp only [SZ]; omega
  have hc : ∀ lo hi, (cut t lo hi).length ≤ t.length := fun lo hi => cut_len3
  refine wF_eq e rfl ?_
  show wS _ _ (S.seq _ _) [_, _, _, _, _] _ _ _ _ _ _
  walk_at "kn"
  rename_i d1 b1 l1 u1 B1 d2 b2 l2 u2 B2
  refine s_ife ?_
  walk_at "kn"
  refine t_lt (fun w => ?_) (fun w => ?_)
  · walk_at "kn"
    refine sp_sign3 e4 e18 B2 (by omega) fun k b3 B3 => ?_
    have z1 := hc none (some d2)
    have z2 := hc (some (d2 + d1)) none
    have y1 : (cut t none (some d2)).length + ([k] : List Nat).length ≤ SZ := by simp only [List.length_cons, List.length_nil, SZ]; omega
    have y2 : (cut t none (some d2) ++ [k]).length + (cut t (some (d2 + d1)) none).length ≤ SZ := by simp only [List.length_append, List.length_cons, List.length_nil, SZ]; omega
    walk_at "kn"
    exact ⟨_, Sub.refl _, q _ _ _ (by simp only [List.length_append, List.length_cons, List.length_nil]; omega) (B3.mono (by omega)) RX.refl⟩
  walk_at "kn"
  refine s_ife ?_
  walk_at "kn"
  refine t_eqI (fun w2 => ?_) (fun w2 => ?_)
  · have z1 := hc none (some d2)
    have z2 := hc (some (d2 + 1)) none
    have y1 : (cut t none (some d2)).length + (cut t (some (d2 + 1)) none).length ≤ SZ := by simp only [SZ]; omega
    walk_at "kn"
    exact ⟨_, Sub.refl _, q _ _ _ (by simp only [List.length_append]; omega) (B2.mono (by omega)) RX.refl⟩
  walk_at "kn"
  refine s_ife ?_
  walk_at "kn"
  refine t_eqI (fun w3 => ?_) (fun w3 => ?_)
  · have z1 := hc none (some d2)
    have z2 := hc (some (d2 + 2)) none
    have z3 := hc (some d2) (some (d2 + 2))
    have y0 : (cut t (some d2) (some (d2 + 2))).length ≤ SZ := by simp only [SZ]; omega
    have y1 : (cut t none (some d2)).length + (cut t (some d2) (some (d2 + 2))).reverse.length ≤ SZ := by simp only [List.length_reverse, SZ]; omega
    have y2 : (cut t none (some d2) ++ (cut t (some d2) (some (d2 + 2))).reverse).length + (cut t (some (d2 + 2)) none).length ≤ SZ := by simp only [List.length_append, List.length_reverse, SZ]; omega
    walk_at "kn"
    have z4 : (cut t none (some d2)).length + (cut t (some d2) (some (d2 + 2))).length ≤ 2 * t.length := by omega
    have z5 : (cut t (some d2) (some (d2 + 2))).length ≤ 2 := by
      unfold cut
      rw [List.length_take]
      simp only [sIx]
      rw [if_pos (by omega), if_pos (by omega)]
      omega
    exact ⟨_, Sub.refl _, q _ _ _ (by simp only [List.length_append, List.length_reverse]; omega) (B2.mono (by omega)) RX.refl⟩
  walk_at "kn"
  refine s_ife ?_
  walk_at "kn"
  refine t_eqI (fun w4 => ?_) (fun w4 => ?_)
  · have z1 := hc none (some d2)
    have z2 := hc (some d2) none
    walk_at "kn"
    rename_i d3 b3 l3 u3 B3
    refine x_strIn (by simp [SZ]) l3 (by simpa using u3) fun k hk => ?_
    have y1 : (cut t none (some d2)).length + ([k] : List Nat).length ≤ SZ := by simp only [List.length_cons, List.length_nil, SZ]; omega
    have y2 : (cut t none (some d2) ++ [k]).length + (cut t (some d2) none).length ≤ SZ := by simp only [List.length_append, List.length_cons, List.length_nil, SZ]; omega
    walk_at "kn"
    exact ⟨_, Sub.refl _, q _ _ _ (by simp only [List.length_append, List.length_cons, List.length_nil]; omega) (B3.mono (by omega)) RX.refl⟩
  walk_at "kn"
  refine s_ife ?_
  walk_at "kn"
  refine t_eqI (fun w5 => ?_) (fun w5 => ?_)
  · have z1 := hc none (some d2)
    have z2 := hc (some d2) none
    have y1 : (cut t none (some d2)).length + ([48] : List Nat).length ≤ SZ := by simp only [List.length_cons, List.length_nil, SZ]; omega
    have y2 : (cut t none (some d2) ++ [48]).length + (cut t (some d2) none).length ≤ SZ := by simp only [List.length_append, List.length_cons, List.length_nil, SZ]; omega
    walk_at "kn"
    exact ⟨_, Sub.refl _, q _ _ _ (by simp only [List.length_append, List.length_cons, List.length_nil]; omega) (B2.mono (by omega)) RX.refl⟩
  walk_at "kn"
  refine s_ife ?_
  walk_at "kn"
  refine t_eqI (fun w6 => ?_) (fun w6 => ?_)
  · have y1 : t.length + ([47] : List Nat).length ≤ SZ := by simp only [List.length_cons, List.length_nil, SZ]; omega
    walk_at "kn"
    rename_i d3 b3 l3 u3 B3
    have i3 := itoa_len12 (x := d3) (by omega)
    have y2 : (t ++ [47]).length + (itoa d3).length ≤ SZ := by simp only [List.length_append, List.length_cons, List.length_nil, SZ]; omega
    refine b_str1 (Nat.lt_of_lt_of_le (big12 (by omega)) (Nat.pow_le_pow_right (by omega) (by omega))) ?_
    walk_at "kn"
    exact ⟨_, Sub.refl _, q _ _ _ (by simp only [List.length_append, List.length_cons, List.length_nil]; omega) (B3.mono (by omega)) RX.refl⟩
  walk_at "kn"
  refine s_ife ?_
  have big20 : ∀ w : Int, w.natAbs < 10000000000000 → w.natAbs < 2 ^ 1900 := fun w hw => Nat.lt_of_lt_of_le (m := 2 ^ 60) (by omega) (Nat.pow_le_pow_right (by omega) (by omega))
  walk_at "kn"
  refine t_eqI (fun w7 => ?_) (fun w7 => ?_)
  · have i1 := itoa_len13 (x := x * 2) (by omega)
    have i2 := itoa_len13 (x := y * 2) (by omega)
    have y1 : (itoa (x * 2)).length + ([47] : List Nat).length ≤ SZ := by simp only [List.length_cons, List.length_nil, SZ]; omega
    have y2 : (itoa (x * 2) ++ [47]).length + (itoa (y * 2)).length ≤ SZ := by simp only [List.length_append, List.length_cons, List.length_nil, SZ]; omega
    walk_at "kn"
    refine b_str1 (big20 _ (by simp only; omega)) ?_
    walk_at "kn"
    refine b_str1 (big20 _ (by simp only; omega)) ?_
    walk_at "kn"
    exact ⟨_, Sub.refl _, q _ _ _ (by simp only [List.length_append, List.length_cons, List.length_nil]; omega) (B2.mono (by omega)) RX.refl⟩
  have i1 := itoa_len12 hx
  have i2 := itoa_len12 (x := y) (by omega)
  have y1 : t.length + t.length ≤ SZ := by simp only [SZ]; omega
  have y2 : ([45] : List Nat).length + t.length ≤ SZ := by simp only [List.length_cons, List.length_nil, SZ]; omega
  have y3 : ([43] : List Nat).length + t.length ≤ SZ := by simp only [List.length_cons, List.length_nil, SZ]; omega
  have y4 : (itoa x).length + ([47] : List Nat).length ≤ SZ := by simp only [List.length_cons, List.length_nil, SZ]; omega
  have y5 : (itoa x ++ [47]).length + (itoa y).length ≤ SZ := by simp only [List.length_append, List.length_cons, List.length_nil, SZ]; omega
  walk_at "kn"
  refine b_str1 (big20 _ (by simp only; omega)) ?_
  walk_at "kn"
  refine b_str1 (big20 _ (by simp only; omega)) ?_
  walk_at "kn"
  rename_i p9 f9 d9 b9 l9 u9 B9
  have A9 := At.new (u := Ob.lst [Vl.str (t ++ t), Vl.str ([45] ++ t), Vl.str ([43] ++ t), Vl.str (itoa x ++ [47] ++ itoa y)]) f9
  have X9 := (RX.refl (p := p) (c := c) (r := r)).push f9 (u := Ob.lst [Vl.str (t ++ t), Vl.str ([45] ++ t), Vl.str ([43] ++ t), Vl.str (itoa x ++ [47] ++ itoa y)])
  obtain rfl | rfl | rfl | rfl : d9 = 0 ∨ d9 = 1 ∨ d9 = 2 ∨ d9 = 3 := by omega
  · refine x_lst (A9.get B9) (show atI _ ((0 : Nat) : Int) = _ from rfl) ?_
    exact ⟨_, Sub.refl _, q _ _ _ (by simp only [List.length_append]; omega) (B9.mono (by omega)) X9⟩
  · refine x_lst (A9.get B9) (show atI _ ((1 : Nat) : Int) = _ from rfl) ?_
    exact ⟨_, Sub.refl _, q _ _ _ (by simp only [List.length_append, List.length_cons, List.length_nil]; omega) (B9.mono (by omega)) X9⟩
  · refine x_lst (A9.get B9) (show atI _ ((2 : Nat) : Int) = _ from rfl) ?_
    exact ⟨_, Sub.refl _, q _ _ _ (by simp only [List.length_append, List.length_cons, List.length_nil]; omega) (B9.mono (by omega)) X9⟩
  · refine x_lst (A9.get B9) (show atI _ ((3 : Nat) : Int) = _ from rfl) ?_
    exact ⟨_, Sub.refl _, q _ _ _ (by simp only [List.length_append, List.length_cons, List.length_nil]; omega) (B9.mono (by omega)) X9⟩
end
theorem ptx_len {x y : Int} (hx : x.natAbs < 1000000000000) (hy : y.natAbs < 1000000000000) : (ptx (x, y)).length ≤ 27 := by
  have i1 := itoa_len12 hx
  have i2 := itoa_len12 hy
  unfold ptx
  split
  · simp only; omega
  · simp only [List.length_append, List.length_cons, List.length_nil]; omega
theorem itoa_all3 {x : Int} : ((itoa x).all fun c => decide (c < 1114112)) = true := by
  rw [List.all_eq_true]
  intro c hc
  have := itoa_chars x c hc
  simp; omega
theorem ptx_all {p : Int × Int} : ((ptx p).all fun c => decide (c < 1114112)) = true := by
  unfold ptx
  split
  · exact itoa_all3
  · rw [List.all_append, List.all_append, itoa_all3, itoa_all3]; rfl
theorem numI_decT {n : Nat} (h : n < 1000000000000) : numI (decT n) = some n := by
  have h1 := decT_len (n := n) (k := 12) (by omega) (by omega)
  have h2 := List.length_pos_iff.mpr (decT_ne n)
  unfold numI
  rw [if_pos ⟨⟨by omega, h1⟩, decT_fig n⟩, decV_decT]
theorem itoa_split {x : Int} : mnB (itoa x) = decide (x < 0) ∧ (itoa x).drop (if mnB (itoa x) then 1 else 0) = decT x.natAbs ∧ sgn (mnB (itoa x)) x.natAbs = x := by
  by_cases c : 0 ≤ x
  · obtain ⟨n, rfl⟩ : ∃ n : Nat, x = n := ⟨x.toNat, by omega⟩
    have hm : mnB (decT n) = false := by
      have hf := decT_fig n
      cases hd : decT n with
      | nil => rfl
      | cons y ys =>
        have := hf y (by rw [hd]; simp)
        have : y ≠ 45 := by omega
        simp [mnB, this]
    rw [itoa_nat, hm]
    refine ⟨(decide_eq_false (by omega)).symm, ?_, ?_⟩
    · simp
    · show ((Int.natAbs (n : Int) : Nat) : Int) = n
      omega
  · obtain ⟨n, hn, rfl⟩ : ∃ n : Nat, 0 < n ∧ x = -(n : Int) := ⟨(-x).toNat, by omega, by omega⟩
    rw [itoa_neg hn]
    have hm : mnB (45 :: decT n) = true := rfl
    rw [hm]
    refine ⟨(decide_eq_true (by omega)).symm, ?_, ?_⟩
    · simp
    · show -((Int.natAbs (-(n : Int)) : Nat) : Int) = -(n : Int)
      omega
/-- what is written is read back -/
theorem pin_ptx {x y : Int} (hx : x.natAbs < 1000000000000) (hy : 0 < y ∧ y < 1000000000000) (hg : Int.gcd x y = 1) : pinF (ptx (x, y)) = some (x, y) := by
  obtain ⟨n, rfl⟩ : ∃ n : Nat, y = n := ⟨y.toNat, by omega⟩
  have sp := itoa_split (x := x)
  have hl := low_fix (a := x) (b := (n : Int)) (by omega) hg
  have hr : redF (ptx (x, (n : Int))) x n = some (x, (n : Int)) := by
    unfold redF
    rw [if_neg (by omega), hl.1, hl.2, if_pos rfl]
  by_cases h1 : n = 1
  · subst h1
    have e : ptx (x, ((1 : Nat) : Int)) = itoa x := by unfold ptx; rw [if_pos (show (x, ((1 : Nat) : Int)).2 = 1 from rfl)]
    rw [e] at hr ⊢
    unfold pinF
    rw [parA_no _ [] (itoa_no x)]
    simp only [List.nil_append]
    rw [sp.2.1, numI_decT hx, if_pos trivial]
    simp only
    rw [sp.2.2, hr]
  · have e : ptx (x, (n : Int)) = itoa x ++ 47 :: decT n := by
      unfold ptx
      rw [if_neg (show ¬ (x, (n : Int)).2 = 1 from fun z => h1 (by simp only at z; omega))]
      simp [itoa_nat]
    rw [e] at hr ⊢
    unfold pinF
    rw [parA_at _ [] (itoa_no x)]
    simp only [List.nil_append]
    rw [sp.2.1, numI_decT hx, if_neg (by simp), numI_decT (by omega)]
    simp only
    rw [sp.2.2, hr]
theorem numI_long {s : List Nat} (h : 13 ≤ s.length) : numI s = none := by unfold numI; rw [if_neg fun z => by omega]
theorem long1 {s : List Nat} (h : s.length = 13) (h7 : 47 ∉ s) (hm : mnB s = false) : pinF s = none := by
  unfold pinF
  rw [parA_no _ [] h7]
  simp only [List.nil_append, hm]
  rw [numI_long (by simp; omega)]
theorem long2 {s : List Nat} (h : s.length = 13) : pinF ([49, 47] ++ s) = none := by
  unfold pinF
  rw [show [49, 47] ++ s = [49] ++ 47 :: s from rfl, parA_at _ [] (by decide)]
  simp only
  rw [if_neg (show ¬ ([47] : List Nat) = [] by simp), numI_long (s := s) (by omega)]
  generalize numI (List.drop (if mnB ([] ++ [49]) = true then 1 else 0) ([] ++ [49])) = o
  cases o <;> rfl
theorem long3 {s : List Nat} (h : s.length = 13) (h7 : 47 ∉ s) : pinF ([45] ++ s ++ [47, 50]) = none := by
  unfold pinF
  rw [show [45] ++ s ++ [47, 50] = (45 :: s) ++ 47 :: [50] by simp, parA_at _ [] (fun z => by rcases List.mem_cons.mp z with y | y; cases y; exact h7 y)]
  simp only [List.nil_append]
  have hm : mnB (45 :: s) = true := rfl
  simp only [hm, if_true]
  rw [numI_long (by simp; omega)]
section
variable {P : PG} {n : Nat} {Q : Qv} {X : Ex → AH → Prop}
theorem dv_oP3 {h : AH} {o : Option (Int × Int)} : ∃ d, DV h (oP3 o) d 1 := by
  cases o with
  | none => exact ⟨_, dv_non⟩
  | some p => exact ⟨_, dv_pv⟩
set_option maxHeartbeats 8000000 in
theorem sp_law {a : Nat} {ns : List Int} (hsub : ∀ c d, P.sub c d = (c == d || d == 0)) (g1 : P.glob 1 = some (.str [48, 49, 50, 51, 52, 53, 54, 55, 56, 57])) (g2 : P.glob 2 = some (.int 12)) (e1 : P.fns 1 = some f_divisor_of) (e2 : P.fns 2 = some f_part_of) (e3 : P.fns 3 = some f__law_begin) (e4 : P.fns 4 = some f__law_take) (e5 : P.fns 5 = some f__law_same) (e6 : P.fns 6 = some f__law_number) (e7 : P.fns 7 = some f__law_divisor) (e8 : P.fns 8 = some f__law_part) (e13 : P.fns 13 = some f__law_any_part) (e15 : P.fns 15 = some f_part_text) (e16 : P.fns 16 = some f_number_in) (e17 : P.fns 17 = some f_part_in) (e18 : P.fns 18 = some f__law_sign) (e19 : P.fns 19 = some f__law_text) (e20 : P.fns 20 = some f__law_figures) (e21 : P.fns 21 = some f__law_walked) (e22 : P.fns 22 = some f__law_told) (e23 : P.fns 23 = some f__law_changed) (e9 : P.fns 9 = some f_law)
    (q : ∀ h, Q (.bl true) h) : wF P (n + 9) 9 [.ref a] ⟨[], [(a, .rol (ns.map Vl.int))]⟩ Q X := by
  refine wF_eq e9 rfl ?_
  show wS _ _ (S.seq _ _) [_, _, _, _, _, _, _, _, _] _ _ _ _ _ _
  walk_at "kn"
  refine sp_begin e3 (ns := ns) (by simp [get, look]) fun p c b B => ?_
  walk_at "kn"
  refine for_rng (fun i σ h => ∃ x2 x3 x4 x5 x6 b r, σ = [some (.ref a), some (.ref p), x2, x3, x4, x5, x6, none, none] ∧ h = ⟨b, r⟩ ∧ Box p c (i * 1000) b) ⟨none, none, none, none, none, _, _, rfl, rfl, B.mono (by omega)⟩ ?_ ?_
  · rintro i σ h hi ⟨x2, x3, x4, x5, x6, b, r, rfl, rfl, B⟩
    walk_at "kn"
    refine sp_any3 e4 e6 e7 e8 e13 B (by omega) fun x y b1 hx hy0 hy hg B1 => ?_
    walk_at "kn"
    have hy' : y.natAbs < 1000000000000 := by omega
    refine sp_ltext e19 hx hy' ?_
    have htl := ptx_len hx hy'
    have hpin := pin_ptx hx ⟨hy0, hy⟩ hg
    have hal := ptx_all (p := (x, y))
    have htx := itoa_len12 hx
    have hty := itoa_len12 hy'
    walk_at "kn"
    refine s_ife ?_
    walk_at "kn"
    refine sp_part_text (p := (x, y)) e15 (big12 hx) (big12 hy') (by simp only; omega) ?_
    generalize ptx (x, y) = t at *
    walk_at "kn"
    refine sp_part_in g1 g2 e1 e2 e15 e16 e17 (by omega) (fun p' hp' => ?_) (fun hp' => by rw [hp'] at hpin; cases hpin)
    obtain rfl : p' = (x, y) := by rw [hp'] at hpin; exact Option.some.inj hpin
    walk_at "kn"
    rename_i p1 f1 p2 f2
    have A1 := (At.new (u := Ob.lst [Vl.str t, pv (x, y)]) f1).push f2 (u := Ob.lst [Vl.str t, pv (x, y)])
    have A2 := At.new (u := Ob.lst [Vl.str t, pv (x, y)]) f2
    have X2 := ((RX.refl (p := p) (c := c) (r := r)).push f1 (u := Ob.lst [Vl.str t, pv (x, y)])).push f2 (u := Ob.lst [Vl.str t, pv (x, y)])
    generalize (p2, Ob.lst [Vl.str t, pv (x, y)]) :: (p1, Ob.lst [Vl.str t, pv (x, y)]) :: r = r2 at *
    have hdv : ∀ z, At p c r2 z (Ob.lst [Vl.str t, pv (x, y)]) → DV ⟨b1, r2⟩ (.ref z) (.lst [.str t, pd (x, y)]) 2 := fun z A => dv_lst (A.get B1) (dvs_cons (dv_str hal) (dvs_cons dv_pv dvs_nil)) (by simp [SZ])
    refine sp_sameV (m := 2) e5 (hdv _ A1) (hdv _ A2) (by omega) ?_
    walk_at "kn"
    refine for_rng (fun j σ h => ∃ x5 x6 b r, σ = [some (.ref a), some (.ref p), some (.int (0 + (i : Int))), some (pv (x, y)), some (.str t), x5, x6, none, none] ∧ h = ⟨b, r⟩ ∧ Box p c (i * 1000 + 6 + j * 20) b) ⟨_, _, _, _, rfl, rfl, B1.mono (by omega)⟩ ?_ ?_
    · rintro j σ h hj ⟨x5, x6, b3, r3, rfl, rfl, B3⟩
      walk_at "kn"
      refine sp_changed e4 e18 e23 B3 (by omega) (by omega) hx ⟨hy0, hy⟩ fun s b4 r4 hs B4 X4 => ?_
      walk_at "kn"
      refine s_mid (fun σ' h' => ∃ (s2 : List Nat) (b6 r6 : List (Nat × Ob)), σ' = [some (.ref a), some (.ref p), some (.int (0 + (i : Int))), some (pv (x, y)), some (.str t), some (.int (0 + (j : Int))), some (.str s2), none, none] ∧ h' = ⟨b6, r6⟩ ∧ Box p c (i * 1000 + 6 + j * 20 + 15) b6 ∧ s2.length ≤ 1000) (fun N' hN => ?_) ?_
      · refine s_ife ?_
        walk_at "kn"
        rename_i d5 b5 l5 u5 B5
        refine t_eqI (fun _ => ?_) (fun _ => ?_)
        · walk_at "kn"
          refine sp_changed e4 e18 e23 B5 (by omega) (by omega) hx ⟨hy0, hy⟩ fun s2 b6 r6 hs2 B6 X6 => ?_
          walk_at "kn"
          exact hN _ _ ⟨s2, b6, r6, rfl, rfl, B6.mono (by omega), by omega⟩
        · walk_at "kn"
          exact hN _ _ ⟨s, b5, r4, rfl, rfl, B5.mono (by omega), by omega⟩
      rintro _ _ ⟨s2, b6, r6, rfl, rfl, B6, hs2⟩
      walk_at "kn"
      refine s_ife ?_
      walk_at "kn"
      refine sp_told hsub g1 g2 e1 e2 e15 e16 e17 e22 (by omega) ?_
      walk_at "kn"
      refine sp_walked e7 e20 e21 (by omega) ?_
      rw [pin_wal]
      walk_at "kn"
      obtain ⟨dd, hdd⟩ := dv_oP3 (h := ⟨b6, r6⟩) (o := walF s2)
      refine sp_sameV (m := 1) e5 hdd hdd (by omega) ?_
      walk_at "kn"
      exact ⟨_, _, _, _, rfl, rfl, B6.mono (by omega)⟩
    rintro σ h ⟨x5, x6, b3, r3, rfl, rfl, B3⟩
    walk_at "kn"
    exact ⟨_, _, _, _, _, _, _, rfl, rfl, B3.mono (by omega)⟩
  · rintro σ h ⟨x2, x3, x4, x5, x6, b, r, rfl, rfl, B⟩
    walk_at "kn"
    refine lc_rng (fun k acc h' => ∃ (cs : List Nat) (b2 : List (Nat × Ob)), acc = (cs.map fun c => [c]).map Vl.str ∧ h' = ⟨b2, r⟩ ∧ cs.length = k ∧ Figs cs ∧ Box p c (7000 + k) b2) ⟨[], b, rfl, rfl, rfl, (fun _ h => by cases h), B.mono (by omega)⟩ ?_ ?_
    · rintro k acc h' hk ⟨cs, b2, rfl, rfl, hl, hd, B2⟩
      walk_at "kn"
      rename_i d3 b3 l3 u3 B3
      refine b_str1 (Nat.lt_of_lt_of_le (big12 (by omega)) (Nat.pow_le_pow_right (by omega) (by omega))) ?_
      obtain ⟨D, rfl⟩ : ∃ D : Nat, d3 = D := ⟨d3.toNat, by omega⟩
      rw [itoa_nat, decT_eq, if_pos (by omega)]
      refine ⟨by simp [SZ]; omega, cs ++ [48 + D], b3, by simp, rfl, by simp [hl], ?_, B3.mono (by omega)⟩
      intro d hd'
      rcases List.mem_append.mp hd' with z | z
      · exact hd d z
      · have := List.mem_singleton.mp z; omega
    rintro acc h' ⟨cs, b2, rfl, rfl, hl, hd, B2⟩
    have hl : cs.length = 11 := by omega
    refine n_new fun p3 n3 => ?_
    have f3 := Fr.of B2 n3
    rw [push_mk]
    have A3 := At.new (u := Ob.lst ((cs.map fun c => [c]).map Vl.str)) f3
    generalize (p3, Ob.lst ((cs.map fun c => [c]).map Vl.str)) :: r = r3 at *
    walk_at "kn"
    refine m_join (ss := cs.map fun c => [c]) (.inl (A3.get B2)) ?_ ?_
    · rw [sumlen_one]; simp [SZ]; omega
    rw [joinL_one]
    have zz1 : ([49] : List Nat).length + cs.length ≤ SZ := by simp only [List.length_cons, List.length_nil, SZ]; omega
    have zz2 : ([49] ++ cs).length + ([55] : List Nat).length ≤ SZ := by simp only [List.length_append, List.length_cons, List.length_nil, SZ]; omega
    have hlong : ([49] ++ cs ++ [55]).length = 13 := by simp [hl]
    have h47 : 47 ∉ [49] ++ cs ++ [55] := fun z => by
      rcases List.mem_append.mp z with z | z
      · rcases List.mem_append.mp z with z | z
        · simp at z
        · have := hd 47 z; omega
      · simp at z
    have hmn : mnB ([49] ++ cs ++ [55]) = false := rfl
    have zz3 : ([49, 47] : List Nat).length + ([49] ++ cs ++ [55]).length ≤ SZ := by rw [hlong]; simp [SZ]
    have zz4 : ([45] : List Nat).length + ([49] ++ cs ++ [55]).length ≤ SZ := by rw [hlong]; simp [SZ]
    have zz5 : ([45] ++ ([49] ++ cs ++ [55])).length + ([47, 50] : List Nat).length ≤ SZ := by rw [List.length_append, hlong]; simp [SZ]
    walk_at "kn"
    have n5 := long1 hlong h47 hmn
    have n4 := long2 hlong
    have n6 := long3 hlong h47
    generalize [49] ++ cs ++ [55] = lg at *
    have hall : ∀ v ∈ [Vl.str [], .str (List.replicate (13 : Int).toNat [57]).flatten, .str [48, 47, 49], .str ([49, 47] ++ lg), .str lg, .str ([45] ++ lg ++ [47, 50])], ∃ s, v = .str s ∧ s.length ≤ 20 ∧ pinF s = none := by
      intro v hv
      simp only [List.mem_cons, List.not_mem_nil, or_false] at hv
      rcases hv with rfl | rfl | rfl | rfl | rfl | rfl
      · exact ⟨_, rfl, by simp, rfl⟩
      · exact ⟨_, rfl, by decide, by rw [pin_wal]; decide⟩
      · exact ⟨_, rfl, by simp, by rw [pin_wal]; decide⟩
      · exact ⟨_, rfl, by simp; omega, n4⟩
      · exact ⟨_, rfl, by omega, n5⟩
      · exact ⟨_, rfl, by simp; omega, n6⟩
    refine o_mulS (by omega) (by omega) (by simp [SZ]) ?_
    walk_at "kn"
    refine lc_any (fun k acc h' => h' = ⟨b2, r3⟩ ∧ acc = List.replicate k Vl.non) ⟨rfl, rfl⟩ ?_ ?_ ?_
    · rintro k acc h' hk _ z hz
      cases hz
    · rintro k acc h' hk ⟨rfl, rfl⟩
      obtain ⟨s, es, hs1, hs2⟩ := hall _ (List.getElem_mem hk)
      rw [es]
      walk_at "kn"
      refine sp_told hsub g1 g2 e1 e2 e15 e16 e17 e22 (by omega) ?_
      rw [hs2]
      refine ⟨by simp [SZ]; simp at hk; omega, rfl, by rw [List.replicate_succ']; rfl⟩
    rintro acc h' ⟨rfl, rfl⟩
    refine n_new fun p4 n4 => ?_
    have f4 := Fr.of B2 n4
    rw [push_mk]
    have A4 := At.new (u := Ob.lst (List.replicate 6 Vl.non)) f4
    show wE _ _ _ _ ⟨b2, (p4, Ob.lst (List.replicate 6 Vl.non)) :: r3⟩ _ _
    generalize (p4, Ob.lst (List.replicate 6 Vl.non)) :: r3 = r4 at *
    walk_at "kn"
    rename_i p5 f5
    have A5 := At.new (u := Ob.lst [Vl.non]) f5
    have A45 := A4.push f5 (u := Ob.lst [Vl.non])
    generalize (p5, Ob.lst [Vl.non]) :: r4 = r5 at *
    refine o_mulL (A5.get B2) (by omega) (by omega) (by simp [SZ]) ?_
    show wNew _ (.lst (List.replicate 6 Vl.non)) _
    refine n_new fun p6 n6' => ?_
    have f6 := Fr.of B2 n6'
    rw [push_mk]
    have A6 := At.new (u := Ob.lst (List.replicate 6 Vl.non)) f6
    have A46 := A45.push f6 (u := Ob.lst (List.replicate 6 Vl.non))
    generalize (p6, Ob.lst (List.replicate 6 Vl.non)) :: r5 = r6 at *
    have dv6 : ∀ z, At p c r6 z (Ob.lst (List.replicate 6 Vl.non)) → DV ⟨b2, r6⟩ (.ref z) (.lst (List.replicate 6 Da.non)) 1 := fun z A => dv_lst (A.get B2) (dvs_cons dv_non (dvs_cons dv_non (dvs_cons dv_non (dvs_cons dv_non (dvs_cons dv_non (dvs_cons dv_non dvs_nil)))))) (by simp [SZ])
    refine o_eqV (n := 1) (dv6 _ A46) (dv6 _ A6) (by omega) ?_
    exact ⟨_, Sub.refl _, q _⟩
end
end KN

namespace KN
open PySem PyProof.Rows
theorem law_ok {a : Nat} {ns : List Int} {Q : Qv} {X : Ex → AH → Prop} (q : ∀ h', Q (.bl true) h') : wF P0 40 9 [.ref a] ⟨[], [(a, .rol (ns.map Vl.int))]⟩ Q X := by
  apply sp_law <;> first | exact q | rfl | exact fun _ _ => rfl
end KN
open PySem PySem.W PySem.Calls PyProof.Rows in
set_option maxRecDepth 100000 in
set_option maxHeartbeats 0 in
theorem PySem.Challenge.cw_meanbits_k03_texts_of_parts_holds : PySem.Challenge.rw_meanbits_k03_texts_of_parts.Holds := by
  w_on; o_law
  refine HandSHeadRun.head_any (r := KN.RwK) (q := PySem.W.view KN.RwK.prog [33]) (H := KN.HKK) (ob := KN.OBK) (M := 9000) (loose := KN.LOOSE) (d := HandSHeadRun.topDef KN.RwK.prog 33) (kwd := []) KN.obk_eq
    (by kernel_rfl) (fun s => by kernel_rfl) KN.runK (by kernel_rfl) (by kernel_rfl) (by kernel_rfl) (by rfl) (by first | assumption | decide +kernel) (by decide +kernel) ⟨rfl, rfl, rfl, rfl, rfl, by decide +kernel⟩ ?hw ?hc
  case hw => w_witness2
  case hc =>
    refine KN.law_walkE (l := PySem.Challenge.rw_meanbits_k03_texts_of_parts) (n := 63) (k := 40) (x := "_law_script") (P := KN.P0) (T := KN.T0) (ds := KN.DS) (fs := KN.FS) (cs := KN.CS) (D := KN.D9) (by simp [KN.DS]) (by simp [KN.FS]) (by kernel_rfl) rfl KN.prgT rfl (by decide) (by kernel_rfl) ⟨rfl, by decide, by decide⟩ ?hk ?law
    case hk => exact fun w h ⟨K, KX, c⟩ => ⟨K, KN.gmOf w.params KN.CS KN.T0 K, KX, rfl, KN.prgK_of (by decide +kernel) c (by decide +kernel) (by decide +kernel) (by decide +kernel)⟩
    case law => exact fun a ns Q X _ q => KN.law_ok q
