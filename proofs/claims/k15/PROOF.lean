import PyProof.Rows.All
import Wide.All
import OpenK.AllK
import Wide.FinOn
import HandS.ForMost
import HandS.ForExc
import HandS.Wide
import HandS.Style
import HandS.Codes
import HandS.RaiseMore
import HandS.IsInst
import HandS.SetFor
import HandS.Iter
import HandS.More
import KE.KIndexOf
import HandS.TupAny
import HandS.Conv
import HandS.Zip
import HandS.SortInts
import HandS.EndBits
import HandS.Small
import HandS.Strs
import KE.GoesEnum
import KE.GoesMore
import HandS.ListItems
import HandS.DictComp
import HandS.Defaults
import PySem.Challenge.RW_moveafter_k15_repeated_on_lines
set_option Elab.async false
set_option linter.all false
set_option maxRecDepth 100000
set_option exponentiation.threshold 2000
/-! The plain machine: data D, objects AO, the tree E, S of a def's body, and what each means. Own work. -/
namespace Py
open PySem PySem.Spec PyProof.Rows L2

/-- data: tuples are values, lists, dicts and instances stand at addresses -/
inductive D where
  | non | bl (b : Bool) | int (i : Int) | str (s : Str) | tup (ds : List D) | ref (a : Addr)
  | fl (ds : List D)   -- a list that nobody changes
  | fd (ks : List Key) (vs : List D)   -- a dict that nobody changes
/-- what stands at an address; f..: read only -/
inductive AO where
  | lst (ds : List D)
  | dct (kvs : List (Key × D))
  | ins (c : Str) (fs : List (Str × D)) | exc (c : Str)
abbrev AH := Addr → Option AO
def put (A : AH) (a : Addr) (o : AO) : AH := fun b => if b = a then some o else A b
/-- without a -/
def rem (A : AH) (a : Addr) : AH := fun b => if b = a then none else A b
/-! dicts by pairs -/
def keyD : Key → D | .inl i => .int i | .inr s => .str s
def dkey : D → Option Key | .int i => some (.inl i) | .str s => some (.inr s) | _ => none
def lookK (kvs : List (Key × D)) (k : Key) : Option D := (kvs.find? fun p => decide (p.1 = k)).map (·.2)
def setK (kvs : List (Key × D)) (k : Key) (d : D) : List (Key × D) := if (kvs.any fun p => decide (p.1 = k)) = true then kvs.map fun p => if p.1 = k then (p.1, d) else p else kvs ++ [(k, d)]
def mergK (kvs more : List (Key × D)) : List (Key × D) := more.foldl (fun acc p => setK acc p.1 p.2) kvs
abbrev DSt := List (Option D)
abbrev Dk := D → AH → Prop
abbrev Dx := Str → AH → Prop
abbrev DE := DSt → AH → Dx → Dk → Prop
abbrev Cal := Str → List D → AH → Dx → Dk → Prop
structure DEnds where
  nx : DSt → AH → Prop
  rt : Dk
  bk : DSt → AH → Prop
  ct : DSt → AH → Prop
  ex : DSt → Str → AH → Prop
structure GEnv where
  cal : Cal
  con : Str → Option D
  sub : Str → Str → Bool

inductive BOp | add | sub | mul | fdiv | mod | pow
  deriving DecidableEq
inductive COp | eq | ne | lt | le | gt | ge | is_ | isn | in_ | nin
  deriving DecidableEq
inductive Cl | int | bool | str | tuple | list | dict | own (x : Str)
  deriving DecidableEq
/-- built-in functions and types that are called -/
inductive BF | len | int | str | repr | sorted | min | max | all | any | sum | tuple | list | dict | set
  deriving DecidableEq
/-- methods of built-in types -/
inductive MT | append | pop | index | extend | insert | remove | get | items | values | join | split | partition | count | upper | clear | strip | replace | setdefault
  deriving DecidableEq
inductive Tg | name (i : Nat) (x : Str) | tup (xs : List (Nat × Str))
mutual
inductive E where
  | var (i : Nat) (x : Str)
  | gv (x : Str)
  | cst (d : D)
  | bin (o : BOp) (a b : E)
  | neg (a : E)
  | cmp (o : COp) (a b : E)
  | chain (o o' : COp) (a b c : E)
  | bop (isAnd : Bool) (es : Es)
  | not (a : E)
  | ite (c a b : E)
  | tup (es : Es)
  | lst (es : Es)
  | idx (a i : E)
  | slc (a : E) (lo hi : Oe)
  | rev (a : E)
  | call (f : Str) (es : Es)
  | bif (f : BF) (es : Es)
  | mth (m : MT) (o : E) (es : Es)
  | isi (a : E) (c : Cl)
  | lc (elt : E) (tg : Tg) (it : I) (cs : Es) (own : List (Str × Nat))
  | lrg (it : I) | trg (it : I)                 -- list(range ..), tuple(range ..)
  | dsp (ps : Ps)                            -- {k: v, ..}
  | dc (k v : E) (tg : Tg) (it : I) (cs : Es) (own : List (Str × Nat))
  | litems (a : E)                              -- list(a.items())
  | dnil                                        -- {}
  | callk (f : Str) (es : Es) (ns : List Str) (ws : Es) (dv : List D)
  | lset (a : E) | sset (a : E)                 -- len(set(a)), sorted(set(a))
inductive Es where | nil | cons (e : E) (es : Es)
inductive Ps where | nil | cons (k v : E) (ps : Ps)
inductive Oe where | no | yes (e : E)
inductive I where
  | seq (e : E)
  | rng1 (a : E)
  | rng2 (a b : E)
  | enum (e : E)
  | zip (a b : E)
  | items (e : E) | values (e : E)
end
mutual
inductive S where
  | asg (i : Nat) (x : Str) (e : E)
  | unp (xs : List (Nat × Str)) (e : E)
  | par (xs : List (Nat × Str)) (es : Es)
  | sto (o i e : E)
  | aug (i : Nat) (x : Str) (o : BOp) (e : E)
  | exp (e : E)
  | ret (e : E)
  | ret0
  | if_ (c : E) (a b : Ss)
  | whl (c : E) (b : Ss) (ws : List Nat)
  | for_ (tg : Tg) (it : I) (b : Ss) (ws : List Nat)
  | raise (c : Str)
  | frz (i : Nat) | wipe (ws : List Nat)        -- said of the plain state alone: no code
  | pass | brk | cnt
inductive Ss where | nil | cons (s : S) (ss : Ss)
end
def Es.of : List E → Es | [] => .nil | e :: r => .cons e (Es.of r)
def Ss.of : List S → Ss | [] => .nil | e :: r => .cons e (Ss.of r)

/-! ### reading the heap -/
def rd (A : AH) (a : Addr) : Option AO := A a
def getL (A : AH) (a : Addr) : Option (List D) := match A a with
  | some (.lst ds) => some ds
  | _ => none
/-- the pairs of a dict -/
def mapD (A : AH) : D → Option (List (Key × D))
  | .fd ks vs => some (ks.zip vs)
  | .ref a => match A a with
    | some (.dct kvs) => some kvs
    | _ => none
  | _ => none
/-- the items of a list or a tuple -/
def seqD (A : AH) : D → Option (List D)
  | .tup ds => some ds
  | .fl ds => some ds
  | .ref a => getL A a
  | _ => none
/-- the items of a list -/
def lstD (A : AH) : D → Option (List D)
  | .fl ds => some ds
  | .ref a => getL A a
  | _ => none
/-- a new list, a new dict: a value that nobody changes, or an object: the proof chooses -/
@[irreducible] def allocL (ds : List D) (A : AH) (Q : Dk) : Prop := Q (.fl ds) A ∨ ∀ p, A p = none → Q (.ref p) (put A p (.lst ds))
@[irreducible] def allocD (kvs : List (Key × D)) (A : AH) (Q : Dk) : Prop := Q (.fd (kvs.map (·.1)) (kvs.map (·.2))) A ∨ ∀ p, A p = none → Q (.ref p) (put A p (.dct kvs))
/-- a list that stands at L comes out -/
@[irreducible] def outL (L : Addr) (A : AH) (Q : Dk) : Prop := Q (.ref L) A ∨ ∃ ds, A L = some (.lst ds) ∧ Q (.fl ds) (rem A L)
@[irreducible] def outD (L : Addr) (A : AH) (Q : Dk) : Prop := Q (.ref L) A ∨ ∃ kvs, A L = some (.dct kvs) ∧ Q (.fd (kvs.map (·.1)) (kvs.map (·.2))) (rem A L)
section
variable {ds : List D} {kvs : List (Key × D)} {A : AH} {Q : Dk} {L : Addr}
theorem allocL_eq : allocL ds A Q = (Q (.fl ds) A ∨ ∀ p, A p = none → Q (.ref p) (put A p (.lst ds))) := by unfold allocL; rfl
theorem allocD_eq : allocD kvs A Q = (Q (.fd (kvs.map (·.1)) (kvs.map (·.2))) A ∨ ∀ p, A p = none → Q (.ref p) (put A p (.dct kvs))) := by unfold allocD; rfl
theorem outL_eq : outL L A Q = (Q (.ref L) A ∨ ∃ ds, A L = some (.lst ds) ∧ Q (.fl ds) (rem A L)) := by unfold outL; rfl
theorem outD_eq : outD L A Q = (Q (.ref L) A ∨ ∃ kvs, A L = some (.dct kvs) ∧ Q (.fd (kvs.map (·.1)) (kvs.map (·.2))) (rem A L)) := by unfold outD; rfl
theorem allocL.fz (h : Q (.fl ds) A) : allocL ds A Q := by rw [allocL_eq]; exact .inl h
theorem allocL.new (h : ∀ p, A p = none → Q (.ref p) (put A p (.lst ds))) : allocL ds A Q := by rw [allocL_eq]; exact .inr h
theorem allocD.fz (h : Q (.fd (kvs.map (·.1)) (kvs.map (·.2))) A) : allocD kvs A Q := by rw [allocD_eq]; exact .inl h
theorem allocD.new (h : ∀ p, A p = none → Q (.ref p) (put A p (.dct kvs))) : allocD kvs A Q := by rw [allocD_eq]; exact .inr h
end
def allSome {α : Type} : List (Option α) → Option (List α)
  | [] => some []
  | some x :: r => (allSome r).map (x :: ·)
  | none :: _ => none
def keyP : Key → PyData | .inl i => .int i | .inr s => .str s
/-- the data that stands in a value: plain at depth n -/
def snap (A : AH) : Nat → D → Option PyData
  | _, .non => some .none
  | _, .bl b => some (.bool b)
  | _, .int i => some (.int i)
  | _, .str s => some (.str s)
  | 0, _ => none
  | n + 1, .tup ds => (allSome (ds.map (snap A n))).map .tuple
  | n + 1, .fl ds => (allSome (ds.map (snap A n))).map .list
  | n + 1, .ref a => match getL A a with
    | some ds => (allSome (ds.map (snap A n))).map .list
    | none => none
  | _ + 1, .fd _ _ => none
def truD (A : AH) : D → Option Bool
  | .non => some false
  | .bl b => some b
  | .int i => some (i != 0)
  | .str s => if s.length ≤ sizeLine then some ((s.length : Int) != 0) else none
  | .tup ds => some (!ds.isEmpty)
  | .fl ds => some (!ds.isEmpty)
  | .fd _ _ => none
  | .ref a => match A a with
    | some (.lst ds) => some (!ds.isEmpty)
    | some (.dct ds) => some (!ds.isEmpty)
    | _ => none

/-! ### operators -/
def CPowW (i j : Int) : Prop := 0 ≤ j ∧ j ≤ 1000 ∧ i.natAbs.log2 < 10000
def rBin (o : BOp) (x y : D) (A : AH) (Q : Dk) : Prop := match o, x, y with
  | .add, .int i, .int j => Q (.int (i + j)) A
  | .add, .str s, .str t => s.length + t.length ≤ sizeLine ∧ Q (.str (s ++ t)) A
  | .add, .tup xs, .tup ys => xs.length + ys.length ≤ sizeLine ∧ Q (.tup (xs ++ ys)) A
  | .add, x, y => match lstD A x, lstD A y with
    | some xs, some ys => xs.length + ys.length ≤ sizeLine ∧ allocL (xs ++ ys) A Q
    | _, _ => False
  | .sub, .int i, .int j => Q (.int (i - j)) A
  | .mul, .int i, .int j => CMulW i j ∧ Q (.int (i * j)) A
  | .mul, .ref a, .int k => match rd A a with
    | some (.lst xs) => 0 ≤ k ∧ k < 1000 ∧ xs.length * k.toNat ≤ sizeLine ∧ allocL (List.replicate k.toNat xs).flatten A Q
    | _ => False
  | .fdiv, .int i, .int j => CDivW i j ∧ Q (.int (i / j)) A
  | .mod, .int i, .int j => 0 < j ∧ Q (.int (i % j)) A
  | .pow, .int i, .int j => CPowW i j ∧ Q (.int (i ^ j.toNat)) A
  | _, _, _ => False
/-- += and its like: not on lists -/
def rAug (o : BOp) (x y : D) (A : AH) (Q : Dk) : Prop := match x with
  | .ref _ => False
  | .fl _ => False
  | _ => rBin o x y A Q
def isScal : D → Bool
  | .fd _ _ => false
  | .tup _ => false
  | .ref _ => false
  | .fl _ => false
  | _ => true
/-- what == says of two values -/
def eqD (A : AH) : D → D → Option Bool
  | .int i, .int j => some (decide (i = j))
  | .str i, .str j => some (decide (i = j))
  | x, y => match snap A 60 x, snap A 60 y with
    | some p, some q => if SeqAt.shaped p && SeqAt.shaped q then some (PyData.eqv p q) else none
    | _, _ => none
def flatD : D → Bool
  | .non => true | .bl _ => true | .int _ => true | .str _ => true | _ => false
def eqF : D → D → Bool
  | .non, .non => true
  | .bl a, .bl b => a == b
  | .bl a, .int j => (if a then 1 else 0) == j
  | .int i, .bl b => i == (if b then 1 else 0)
  | .int i, .int j => i == j
  | .str x, .str y => x == y
  | _, _ => false
def inF (x : D) (ds : List D) : Bool := ds.any fun y => eqF y x
def rCmp (o : COp) (x y : D) (A : AH) (Q : Dk) : Prop := match o with
  | .eq => match eqD A x y with | some b => Q (.bl b) A | none => False
  | .ne => match eqD A x y with | some b => Q (.bl (!b)) A | none => False
  | .lt => match x, y with | .int i, .int j => Q (.bl (decide (i < j))) A | _, _ => False
  | .le => match x, y with | .int i, .int j => Q (.bl (decide (i ≤ j))) A | _, _ => False
  | .gt => match x, y with | .int i, .int j => Q (.bl (decide (j < i))) A | _, _ => False
  | .ge => match x, y with | .int i, .int j => Q (.bl (decide (j ≤ i))) A | _, _ => False
  | .is_ => match y with | .non => Q (.bl (match x with | .non => true | _ => false)) A | _ => False
  | .isn => match y with | .non => Q (.bl (match x with | .non => false | _ => true)) A | _ => False
  | .in_ => match mapD A y with
    | some kvs => match dkey x with
      | some k => Q (.bl (lookK kvs k).isSome) A
      | none => False
    | none => match seqD A y with
      | some ds => flatD x = true ∧ ds.all flatD = true ∧ Q (.bl (inF x ds)) A
      | none => False
  | .nin => match mapD A y with
    | some kvs => match dkey x with
      | some k => Q (.bl (!(lookK kvs k).isSome)) A
      | none => False
    | none => match seqD A y with
      | some ds => flatD x = true ∧ ds.all flatD = true ∧ Q (.bl (!inF x ds)) A
      | none => False
/-- the place of an index, of any sign -/
def ixD (n : Nat) (i : Int) : Option Nat := ixN n i
def rIdx (x i : D) (A : AH) (Q : Dk) : Prop := match mapD A x with
  | some kvs => match dkey i with
    | some k => match lookK kvs k with
      | some d => Q d A
      | none => False
    | none => False
  | none => match i with
    | .int k => match seqD A x with
      | some ds => match atI ds k with
        | some d => Q d A
        | none => False
      | none => False
    | _ => False
/-- lo and hi of a slice -/
def cutD {α : Type} (xs : List α) (lo hi : Option Int) : List α := (xs.drop (HT.sIx xs.length 0 lo)).take (HT.sIx xs.length xs.length hi - HT.sIx xs.length 0 lo)
def rSlc (x : D) (lo hi : Option Int) (A : AH) (Q : Dk) : Prop := match x with
  | .tup ds => Q (.tup (cutD ds lo hi)) A
  | .fl ds => allocL (cutD ds lo hi) A Q
  | .ref a => match getL A a with
    | some ds => allocL (cutD ds lo hi) A Q
    | none => False
  | _ => False
def rRev (x : D) (A : AH) (Q : Dk) : Prop := match x with
  | .fl ds => allocL ds.reverse A Q
  | .ref a => match getL A a with
    | some ds => allocL ds.reverse A Q
    | none => False
  | _ => False
def intsD : List D → Option (List Int)
  | [] => some []
  | .int i :: r => (intsD r).map (i :: ·)
  | _ :: _ => none
def boolsD : List D → Option (List Bool)
  | [] => some []
  | .bl i :: r => (boolsD r).map (i :: ·)
  | _ :: _ => none
def sortI (ns : List Int) : List Int := ns.mergeSort fun a b => decide (a ≤ b)
def maxI : List Int → Int | [] => 0 | x :: r => r.foldl max x
def minI : List Int → Int | [] => 0 | x :: r => r.foldl min x
/-- each once, as first met -/
def ddI (ns : List Int) : List Int := ns.foldl PyProof.Rows.step_dedup []
/-- a list of pairs, keys ahead -/
def pairsD : List D → Option (List (Key × D))
  | [] => some []
  | .tup [x, d] :: r => match dkey x with
    | some k => (pairsD r).map ((k, d) :: ·)
    | none => none
  | _ :: _ => none
def rB (f : BF) (xs : List D) (A : AH) (Q : Dk) : Prop := match f, xs with
  | .len, [.str s] => s.length ≤ sizeLine ∧ Q (.int s.length) A
  | .len, [.tup ds] => Q (.int ds.length) A
  | .len, [.fl ds] => Q (.int ds.length) A
  | .len, [.fd ks _] => Q (.int ks.length) A
  | .len, [.ref a] => match rd A a with
    | some (.lst ds) => Q (.int ds.length) A
    | some (.dct kvs) => Q (.int kvs.length) A
    | _ => False
  | .int, [.int i] => Q (.int i) A
  | .int, [.bl b] => Q (.int (if b then 1 else 0)) A
  | .str, [.int i] => i.natAbs.log2 < 1920 ∧ Q (.str (toString i)) A
  | .repr, [.int i] => i.natAbs.log2 < 1920 ∧ Q (.str (toString i)) A
  | .repr, [x] => match snap A 60 x with
    | some p => p.showable = true ∧ p.hasDict = false ∧ p.depth ≤ 64 ∧ p.shown.length ≤ sizeLine ∧ Q (.str p.shown) A
    | none => False
  | .max, [.int i, .int j] => Q (.int (if j > i then j else i)) A
  | .min, [.int i, .int j] => Q (.int (if j < i then j else i)) A
  | .max, [x] => match (lstD A x).bind intsD with
    | some ns => 0 < ns.length ∧ Q (.int (maxI ns)) A
    | none => False
  | .min, [x] => match (lstD A x).bind intsD with
    | some ns => 0 < ns.length ∧ Q (.int (minI ns)) A
    | none => False
  | .sorted, [x] => match mapD A x with
    | some kvs => match intsD (kvs.map fun p => keyD p.1) with
      | some ns => ns.length < 64 ∧ allocL ((sortI ns).map .int) A Q
      | none => False
    | none => match (seqD A x).bind intsD with
      | some ns => allocL ((sortI ns).map .int) A Q
      | none => False
  | .all, [x] => match (lstD A x).bind boolsD with
    | some bs => Q (.bl (bs.all id)) A
    | none => False
  | .any, [x] => match (lstD A x).bind boolsD with
    | some bs => Q (.bl (bs.any id)) A
    | none => False
  | .sum, [x] => match (lstD A x).bind intsD with
    | some ns => Q (.int ns.sum) A
    | none => False
  | .tuple, [.tup ds] => Q (.tup ds) A
  | .tuple, [x] => match lstD A x with
    | some ds => Q (.tup ds) A
    | none => False
  | .dict, [x] => match mapD A x with
    | some kvs => allocD kvs A Q
    | none => match (lstD A x).bind pairsD with
      | some kvs => kvs.length ≤ 4000 ∧ allocD (mergK [] kvs) A Q
      | none => False
  | .list, [x] => match mapD A x with
    | some kvs => allocL (kvs.map fun p => keyD p.1) A Q
    | none => match seqD A x with
      | some ds => allocL ds A Q
      | none => False
  | _, _ => False
/-- methods of a list -/
def rML (m : MT) (a : Addr) (ds : List D) (xs : List D) (A : AH) (Q : Dk) : Prop := match m, xs with
  | .append, [d] => ds.length < sizeLine ∧ Q .non (put A a (.lst (ds ++ [d])))
  | .pop, [] => match ds[ds.length - 1]? with
    | some d => Q d (put A a (.lst ds.dropLast))
    | none => False
  | .pop, [.int i] => 0 ≤ i ∧ i < 2 ^ 62 ∧ match ds[i.toNat]? with
    | some d => Q d (put A a (.lst (ds.eraseIdx i.toNat)))
    | none => False
  | .extend, [.tup es] => ds.length + es.length ≤ sizeLine ∧ Q .non (put A a (.lst (ds ++ es)))
  | .extend, [.fl es] => ds.length + es.length ≤ sizeLine ∧ Q .non (put A a (.lst (ds ++ es)))
  | .extend, [.ref b] => match lstD A (.ref b) with
    | some es => ds.length + es.length ≤ sizeLine ∧ Q .non (put A a (.lst (ds ++ es)))
    | none => False
  | .insert, [.int i, d] => ds.length < sizeLine ∧ 0 ≤ i ∧ i < 2 ^ 62 ∧ Q .non (put A a (.lst (ds.take i.toNat ++ [d] ++ ds.drop i.toNat)))
  | .index, [.int k] => match intsD ds with
    | some ns => k ∈ ns ∧ Q (.int (ns.idxOf k : Nat)) A
    | none => False
  | .remove, [.int k] => match intsD ds with
    | some ns => k ∈ ns ∧ Q .non (put A a (.lst (ds.eraseIdx (ns.idxOf k))))
    | none => False
  | .count, [.int k] => match intsD ds with
    | some ns => Q (.int (ns.count k : Nat)) A
    | none => False
  | _, _ => False
/-- methods of a list that nobody changes -/
def rMF (m : MT) (ds : List D) (xs : List D) (A : AH) (Q : Dk) : Prop := match m, xs with
  | .index, [.int k] => match intsD ds with
    | some ns => k ∈ ns ∧ Q (.int (ns.idxOf k : Nat)) A
    | none => False
  | .count, [.int k] => match intsD ds with
    | some ns => Q (.int (ns.count k : Nat)) A
    | none => False
  | _, _ => False
/-- methods of a tuple -/
def rMT (m : MT) (ds : List D) (xs : List D) (A : AH) (Q : Dk) : Prop := match m, xs with
  | .index, [.int k] => match intsD ds with
    | some ns => k ∈ ns ∧ Q (.int (ns.idxOf k : Nat)) A
    | none => False
  | _, _ => False
/-- methods of a dict that is read -/
def rMD (m : MT) (kvs : List (Key × D)) (xs : List D) (A : AH) (Q : Dk) : Prop := match m, xs with
  | .get, [x] => match dkey x with
    | some k => Q ((lookK kvs k).getD .non) A
    | none => False
  | .get, [x, d] => match dkey x with
    | some k => Q ((lookK kvs k).getD d) A
    | none => False
  | _, _ => False
def rMS (m : MT) (s : Str) (xs : List D) (A : AH) (Q : Dk) : Prop := False
inductive RK | list | tuple | str | dict
/-- the kind of a receiver -/
def recv (A : AH) : D → Option RK
  | .tup _ => some .tuple
  | .str _ => some .str
  | .fl _ => some .list
  | .fd _ _ => some .dict
  | .ref a => match A a with
    | some (.lst _) => some .list
    | some (.dct _) => some .dict
    | _ => none
  | _ => none
def listM : MT → Bool | .append => true | .pop => true | .extend => true | .insert => true | .index => true | .remove => true | .count => true | _ => false
def tupM : MT → Bool | .index => true | _ => false
def dictM : MT → Bool | .get => true | _ => false
def strM : MT → Bool | _ => false
def okRK : RK → MT → Bool | .list, m => listM m | .tuple, m => tupM m | .str, m => strM m | .dict, m => dictM m
def rM (k : RK) (m : MT) (o : D) (xs : List D) (A : AH) (Q : Dk) : Prop := match k, o with
  | .list, .ref a => match rd A a with
    | some (.lst ds) => rML m a ds xs A Q
    | _ => False
  | .list, .fl ds => rMF m ds xs A Q
  | .dict, x => match mapD A x with
    | some kvs => rMD m kvs xs A Q
    | none => False
  | .tuple, .tup ds => rMT m ds xs A Q
  | .str, .str s => rMS m s xs A Q
  | _, _ => False
/-- is it of the class -/
def isiD (sub : Str → Str → Bool) (A : AH) (d : D) (c : Cl) : Option Bool := match d, c with
  | .non, _ => some false
  | .bl _, c => some (decide (c = .bool) || decide (c = .int))
  | .int _, c => some (decide (c = .int))
  | .str _, c => some (decide (c = .str))
  | .tup _, c => some (decide (c = .tuple))
  | .fl _, c => some (decide (c = .list))
  | .fd _ _, c => some (decide (c = .dict))
  | .ref a, c => match A a with
    | some (.lst _) => some (decide (c = .list))
    | some (.dct _) => some (decide (c = .dict))
    | _ => none

/-! ### targets, loops -/
def bindT (tg : Tg) (d : D) (σ : DSt) (k : DSt → Prop) : Prop := match tg with
  | .name i _ => k (σ.set i (some d))
  | .tup xs => match d with
    | .tup ds => ds.length = xs.length ∧ k ((xs.zip ds).foldl (fun σ p => σ.set p.1.1 (some p.2)) σ)
    | _ => False
abbrev Gd := List (Addr × AO)
def holds (G : Gd) (A : AH) : Prop := ∀ p ∈ G, A p.1 = some p.2
/-- the same ends but the next -/
def DEnds.then_ (Z : DEnds) (f : DSt → AH → Prop) : DEnds := ⟨f, Z.rt, Z.bk, Z.ct, Z.ex⟩
/-- within a loop -/
def DEnds.loop (Z : DEnds) (f : DSt → AH → Prop) : DEnds := ⟨f, Z.rt, Z.nx, f, Z.ex⟩
/-- some slots are no more asked of -/
def wipN (σ : DSt) (ws : List Nat) : DSt := ws.foldl (fun σ i => σ.set i none) σ
def forR0 (G : Gd) (tg : Tg) (ws : List Nat) (tb : DEnds → DSt → AH → Prop) (Z : DEnds) : List D → DSt → AH → Prop
  | [], σ, A => holds G A ∧ Z.nx (wipN σ ws) A
  | d :: ds, σ, A => holds G A ∧ bindT tg d (wipN σ ws) fun σ' => tb (Z.loop (forR0 G tg ws tb Z ds)) σ' A
/-- the loop; it stays as it is until a law of it is named -/
@[irreducible] def forR : Gd → Tg → List Nat → (DEnds → DSt → AH → Prop) → DEnds → List D → DSt → AH → Prop := forR0
def whlR0 (c : DSt → AH → Dx → (Bool → AH → Prop) → Prop) (ws : List Nat) (tb : DEnds → DSt → AH → Prop) (Z : DEnds) : Nat → DSt → AH → Prop
  | 0, _, _ => False
  | n + 1, σ, A => c (wipN σ ws) A (Z.ex (wipN σ ws)) fun b A1 => match b with
    | true => tb (Z.loop (whlR0 c ws tb Z n)) (wipN σ ws) A1
    | false => Z.nx (wipN σ ws) A1
@[irreducible] def whlR : (DSt → AH → Dx → (Bool → AH → Prop) → Prop) → List Nat → (DEnds → DSt → AH → Prop) → DEnds → Nat → DSt → AH → Prop := whlR0
def noX : Dx := fun _ _ => False
def wipeD (σ : DSt) : List (Str × Nat) → DSt
  | [] => σ
  | v :: vs => (wipeD σ vs).set v.2 none
def lcR0 (G : Gd) (tg : Tg) (tt : DSt → AH → (Bool → AH → Prop) → Prop) (te : DSt → AH → Dk → Prop) (σ : DSt) (L : Addr) (Q : AH → Prop) : List D → AH → Prop
  | [], A => holds G A ∧ Q A
  | d :: ds, A => holds G A ∧ bindT tg d σ fun σ' => tt σ' A fun b A1 => match b with
    | true => te σ' A1 fun y A2 => match rd A2 L with
      | some (.lst acc) => acc.length < sizeLine ∧ lcR0 G tg tt te σ L Q ds (put A2 L (.lst (acc ++ [y])))
      | _ => False
    | false => lcR0 G tg tt te σ L Q ds A1
@[irreducible] def lcR : Gd → Tg → (DSt → AH → (Bool → AH → Prop) → Prop) → (DSt → AH → Dk → Prop) → DSt → Addr → (AH → Prop) → List D → AH → Prop := lcR0
/-- a dict comprehension's loop -/
def dcR0 (G : Gd) (tg : Tg) (tt : DSt → AH → (Bool → AH → Prop) → Prop) (tk te : DSt → AH → Dk → Prop) (σ : DSt) (L : Addr) (Q : AH → Prop) : List D → AH → Prop
  | [], A => holds G A ∧ Q A
  | d :: ds, A => holds G A ∧ bindT tg d σ fun σ' => tt σ' A fun b A1 => match b with
    | true => tk σ' A1 fun y A2 => te σ' A2 fun z A3 => match rd A3 L, dkey y with
      | some (.dct acc), some k => acc.length < sizeLine ∧ dcR0 G tg tt tk te σ L Q ds (put A3 L (.dct (setK acc k z)))
      | _, _ => False
    | false => dcR0 G tg tt tk te σ L Q ds A1
@[irreducible] def dcR : Gd → Tg → (DSt → AH → (Bool → AH → Prop) → Prop) → (DSt → AH → Dk → Prop) → (DSt → AH → Dk → Prop) → DSt → Addr → (AH → Prop) → List D → AH → Prop := dcR0
section
variable {G : Gd} {tg : Tg} {ws : List Nat} {tb : DEnds → DSt → AH → Prop} {Z : DEnds} {σ : DSt} {A : AH} {d : D} {ds : List D} {n : Nat} {c : DSt → AH → Dx → (Bool → AH → Prop) → Prop}
  {tt : DSt → AH → (Bool → AH → Prop) → Prop} {tk te : DSt → AH → Dk → Prop} {L : Addr} {Q : AH → Prop}
theorem forR_eq : forR = forR0 := by unfold forR; rfl
theorem whlR_eq : whlR = whlR0 := by unfold whlR; rfl
theorem lcR_eq : lcR = lcR0 := by unfold lcR; rfl
theorem dcR_eq : dcR = dcR0 := by unfold dcR; rfl
theorem forR_nil : forR G tg ws tb Z [] σ A = (holds G A ∧ Z.nx (wipN σ ws) A) := by rw [forR_eq]; rfl
theorem forR_cons : forR G tg ws tb Z (d :: ds) σ A = (holds G A ∧ bindT tg d (wipN σ ws) fun σ' => tb (Z.loop (forR G tg ws tb Z ds)) σ' A) := by rw [forR_eq]; rfl
theorem whlR_zero : whlR c ws tb Z 0 σ A = False := by rw [whlR_eq]; rfl
theorem whlR_succ : whlR c ws tb Z (n + 1) σ A = (c (wipN σ ws) A (Z.ex (wipN σ ws)) fun b A1 => match b with
    | true => tb (Z.loop (whlR c ws tb Z n)) (wipN σ ws) A1
    | false => Z.nx (wipN σ ws) A1) := by rw [whlR_eq]; rfl
theorem lcR_nil : lcR G tg tt te σ L Q [] A = (holds G A ∧ Q A) := by rw [lcR_eq]; rfl
theorem lcR_cons : lcR G tg tt te σ L Q (d :: ds) A = (holds G A ∧ bindT tg d σ fun σ' => tt σ' A fun b A1 => match b with
    | true => te σ' A1 fun y A2 => match rd A2 L with
      | some (.lst acc) => acc.length < sizeLine ∧ lcR G tg tt te σ L Q ds (put A2 L (.lst (acc ++ [y])))
      | _ => False
    | false => lcR G tg tt te σ L Q ds A1) := by rw [lcR_eq]; rfl
theorem dcR_nil : dcR G tg tt tk te σ L Q [] A = (holds G A ∧ Q A) := by rw [dcR_eq]; rfl
theorem dcR_cons : dcR G tg tt tk te σ L Q (d :: ds) A = (holds G A ∧ bindT tg d σ fun σ' => tt σ' A fun b A1 => match b with
    | true => tk σ' A1 fun y A2 => te σ' A2 fun z A3 => match rd A3 L, dkey y with
      | some (.dct acc), some k => acc.length < sizeLine ∧ dcR G tg tt tk te σ L Q ds (put A3 L (.dct (setK acc k z)))
      | _, _ => False
    | false => dcR G tg tt tk te σ L Q ds A1) := by rw [dcR_eq]; rfl
end
def rngD (lo : Int) (n : Nat) : List D := (List.range n).map fun k => .int (lo + (k : Nat))
def enumD (ds : List D) : List D := ds.mapIdx fun i d => .tup [.int (i : Nat), d]
/-- the turns over d.items() -/
def itemsD (ks : List Key) (vs : List D) : List D := List.zipWith (fun k v => .tup [keyD k, v]) ks vs
def zipD (ds es : List D) : List D := List.zipWith (fun x y => .tup [x, y]) ds es
/-- what is walked: a tuple (true) or a list, its items, what must stand -/
def srcD (A : AH) : D → Option (Bool × List D × Gd)
  | .tup ds => some (true, ds, [])
  | .fl ds => some (false, ds, [])
  | .ref a => match rd A a with
    | some (.lst ds) => some (false, ds, [(a, .lst ds)])
    | _ => none
  | _ => none
def cstV : D → Bool
  | .non => true | .bl _ => true | .int _ => true | .str _ => true | _ => false

/-! ### the meaning -/
variable (G : GEnv)
abbrev DE' (α : Type) := DSt → AH → Dx → (α → AH → Prop) → Prop
/-- a value's truth -/
def valT (v : DE) : DE' Bool := fun σ A X Q => v σ A X fun x A1 => match truD A1 x with
  | some b => Q b A1
  | none => False
def boT (v : DE) : DE' Bool := fun σ A X Q => v σ A X fun z A3 => match z with
  | .bl k => Q k A3
  | _ => False
def wT (v : DE) : DE × DE' Bool := (v, valT v)
def wB (v : DE) : DE × DE' Bool := (v, boT v)
mutual
/-- an expression's meaning: as a value, as a test -/
def ev2 : E → DE × DE' Bool
  | .var i _ => wT fun σ A _ Q => match σ[i]? with
    | some (some d) => Q d A
    | _ => False
  | .gv x => wT fun _ A _ Q => match G.con x with
    | some d => Q d A
    | none => False
  | .cst d => wT fun _ A _ Q => Q d A
  | .bin o a b => wT fun σ A X Q => (ev2 a).1 σ A X fun x A1 => (ev2 b).1 σ A1 X fun y A2 => rBin o x y A2 Q
  | .neg a => wT fun σ A X Q => (ev2 a).1 σ A X fun x A1 => match x with | .int i => Q (.int (-i)) A1 | _ => False
  | .cmp o a b => wB fun σ A X Q => (ev2 a).1 σ A X fun x A1 => (ev2 b).1 σ A1 X fun y A2 => rCmp o x y A2 Q
  | .chain o o' a b c => wB fun σ A X Q => (ev2 a).1 σ A X fun x A1 => (ev2 b).1 σ A1 X fun y A2 => rCmp o x y A2 fun z A3 => match z with
    | .bl true => (ev2 c).1 σ A3 X fun w A4 => rCmp o' y w A4 Q
    | .bl false => Q (.bl false) A3
    | _ => False
  | .bop k es => evB2 k es
  | .not a => (fun σ A X Q => valT (ev2 a).1 σ A X fun b A1 => Q (.bl (!b)) A1, fun σ A X Q => (ev2 a).2 σ A X fun b A1 => Q (!b) A1)
  | .ite c a b => (fun σ A X Q => (ev2 c).2 σ A X fun k A1 => match k with
    | true => (ev2 a).1 σ A1 X Q
    | false => (ev2 b).1 σ A1 X Q, fun σ A X Q => (ev2 c).2 σ A X fun k A1 => match k with
    | true => (ev2 a).2 σ A1 X Q
    | false => (ev2 b).2 σ A1 X Q)
  | .tup es => wT fun σ A X Q => evs es σ A X fun ds A1 => ds.length ≤ sizeLine ∧ Q (.tup ds) A1
  | .lst es => wT fun σ A X Q => evs es σ A X fun ds A1 => ds.length ≤ sizeLine ∧ allocL ds A1 Q
  | .idx a i => wT fun σ A X Q => (ev2 a).1 σ A X fun x A1 => (ev2 i).1 σ A1 X fun y A2 => rIdx x y A2 Q
  | .slc a lo hi => wT fun σ A X Q => (ev2 a).1 σ A X fun x A1 => evo lo σ A1 X fun l A2 => evo hi σ A2 X fun h A3 => rSlc x l h A3 Q
  | .rev a => wT fun σ A X Q => (ev2 a).1 σ A X fun x A1 => rRev x A1 Q
  | .call f es => wT fun σ A X Q => evs es σ A X fun ds A1 => G.cal f ds A1 X Q
  | .bif f es => wT fun σ A X Q => evs es σ A X fun ds A1 => rB f ds A1 Q
  | .mth m o es => wT fun σ A X Q => (ev2 o).1 σ A X fun x A1 => match recv A1 x with
    | some k => okRK k m = true ∧ evs es σ A1 X fun ds A2 => rM k m x ds A2 Q
    | none => False
  | .isi a c => wT fun σ A X Q => (ev2 a).1 σ A X fun x A1 => match isiD G.sub A1 x c with
    | some b => Q (.bl b) A1
    | none => False
  | .lc elt tg it cs own => wT fun σ A X Q => evI it σ A X fun ds Gd A1 => ∀ L, A1 L = none →
      lcR Gd tg (fun σ' A' R => evC cs σ' A' noX R) (fun σ' A' R => (ev2 elt).1 σ' A' noX R) (wipeD σ own) L (fun A2 => outL L A2 Q) ds (put A1 L (.lst []))
  | .dc kx elt tg it cs own => wT fun σ A X Q => evI it σ A X fun ds Gd A1 => ∀ L, A1 L = none →
      dcR Gd tg (fun σ' A' R => evC cs σ' A' noX R) (fun σ' A' R => (ev2 kx).1 σ' A' noX R) (fun σ' A' R => (ev2 elt).1 σ' A' noX R) (wipeD σ own) L (fun A2 => outD L A2 Q) ds (put A1 L (.dct []))
  | .dnil => wT fun _ A _ Q => allocD [] A Q
  | .dsp ps => wT fun σ A X Q => ∀ p, A p = none → evKV ps σ (put A p (.dct [])) X fun kvs A3 => A3 p = some (.dct []) ∧ kvs.length ≤ 15 ∧ outD p (put A3 p (.dct (mergK [] kvs))) Q
  | .litems a => wT fun σ A X Q => (ev2 a).1 σ A X fun x A1 => match mapD A1 x with
    | some kvs => allocL (kvs.map fun p => .tup [keyD p.1, p.2]) A1 Q
    | none => False
  | .callk f es ns ws dv => wT fun σ A X Q => evs es σ A X fun ds A1 => evs ws σ A1 X fun zs A2 => zs.length = ns.length ∧ G.cal f (ds ++ zs ++ dv) A2 X Q
  | .lrg it => wT fun σ A X Q => evI it σ A X fun ds _ A1 => ds.length ≤ 2 ^ 24 ∧ allocL ds A1 Q
  | .trg it => wT fun σ A X Q => evI it σ A X fun ds _ A1 => ds.length ≤ 2 ^ 24 ∧ Q (.tup ds) A1
  | .lset a => wT fun σ A X Q => (ev2 a).1 σ A X fun x A1 => match (seqD A1 x).bind intsD with
    | some ns => ns.length ≤ 4000 ∧ Q (.int (ddI ns).length) A1
    | none => False
  | .sset a => wT fun σ A X Q => (ev2 a).1 σ A X fun x A1 => match (seqD A1 x).bind intsD with
    | some ns => ns.length ≤ 4000 ∧ (ddI ns).length < 64 ∧ allocL ((sortI (ddI ns)).map .int) A1 Q
    | none => False
/-- and (true), or (false): all but the last True or False, where the value is asked -/
def evB2 (k : Bool) : Es → DE × DE' Bool
  | .nil => (fun _ _ _ _ => False, fun _ _ _ _ => False)
  | .cons a es => match es with
    | .nil => ev2 a
    | .cons b r => (fun σ A X Q => (ev2 a).1 σ A X fun x A1 => match x with
      | .bl t => match t == k with
        | true => (evB2 k (.cons b r)).1 σ A1 X Q
        | false => Q (.bl t) A1
      | _ => False, fun σ A X Q => (ev2 a).2 σ A X fun t A1 => match t == k with
        | true => (evB2 k (.cons b r)).2 σ A1 X Q
        | false => Q t A1)
/-- the pairs of a written dict -/
def evKV : Ps → DSt → AH → Dx → (List (Key × D) → AH → Prop) → Prop
  | .nil, _, A, _, Q => Q [] A
  | .cons k v ps, σ, A, X, Q => (ev2 k).1 σ A X fun x A1 => (ev2 v).1 σ A1 X fun y A2 => evKV ps σ A2 X fun kvs A3 => match dkey x with
    | some k => Q ((k, y) :: kvs) A3
    | none => False
def evs : Es → DSt → AH → Dx → (List D → AH → Prop) → Prop
  | .nil, _, A, _, Q => Q [] A
  | .cons e es, σ, A, X, Q => (ev2 e).1 σ A X fun d A1 => evs es σ A1 X fun ds A2 => Q (d :: ds) A2
/-- a comprehension's tests -/
def evC : Es → DSt → AH → Dx → (Bool → AH → Prop) → Prop
  | .nil, _, A, _, Q => Q true A
  | .cons e _, σ, A, X, Q => (ev2 e).2 σ A X Q
def evo : Oe → DSt → AH → Dx → (Option Int → AH → Prop) → Prop
  | .no, _, A, _, Q => Q none A
  | .yes e, σ, A, X, Q => (ev2 e).1 σ A X fun d A1 => match d with
    | .int i => Q (some i) A1
    | _ => False
def evI : I → DSt → AH → Dx → (List D → Gd → AH → Prop) → Prop
  | .seq e, σ, A, X, Q => (ev2 e).1 σ A X fun d A1 => match d with
    | .tup ds => Q ds [] A1
    | .fl ds => Q ds [] A1
    | .fd ks _ => Q (ks.map keyD) [] A1
    | .ref a => match rd A1 a with
      | some (.lst ds) => Q ds [(a, .lst ds)] A1
      | _ => False
    | _ => False
  | .items e, σ, A, X, Q => (ev2 e).1 σ A X fun d A1 => match d with
    | .fd ks vs => Q (itemsD ks vs) [] A1
    | _ => False
  | .values e, σ, A, X, Q => (ev2 e).1 σ A X fun d A1 => match d with
    | .fd _ vs => Q vs [] A1
    | _ => False
  | .enum e, σ, A, X, Q => (ev2 e).1 σ A X fun d A1 => match d with
    | .tup ds => Q (enumD ds) [] A1
    | .fl ds => Q (enumD ds) [] A1
    | .ref a => match rd A1 a with
      | some (.lst ds) => Q (enumD ds) [(a, .lst ds)] A1
      | _ => False
    | _ => False
  | .zip a b, σ, A, X, Q => (ev2 a).1 σ A X fun x A1 => (ev2 b).1 σ A1 X fun y A2 => match srcD A2 x, srcD A2 y with
    | some (k1, ds, G1), some (k2, es, G2) => k1 = k2 ∧ Q (zipD ds es) (G1 ++ G2) A2
    | _, _ => False
  | .rng1 e, σ, A, X, Q => (ev2 e).1 σ A X fun d A1 => match d with
    | .int j => -(2 ^ 62) ≤ j ∧ j < 2 ^ 62 ∧ Q (rngD 0 j.toNat) [] A1
    | _ => False
  | .rng2 a b, σ, A, X, Q => (ev2 a).1 σ A X fun x A1 => (ev2 b).1 σ A1 X fun y A2 => match x, y with
    | .int i, .int j => (-(2 ^ 62) ≤ i ∧ i < 2 ^ 62 ∧ -(2 ^ 62) ≤ j ∧ j < 2 ^ 62) ∧ Q (rngD i (j - i).toNat) [] A2
    | _, _ => False
end
def ev (e : E) : DE := (ev2 G e).1
def evT (e : E) : DE' Bool := (ev2 G e).2
mutual
def evS : S → DEnds → DSt → AH → Prop
  | .asg i _ e, Z, σ, A => ev G e σ A (Z.ex σ) fun d A1 => Z.nx (σ.set i (some d)) A1
  | .unp xs e, Z, σ, A => ev G e σ A (Z.ex σ) fun d A1 => match d with
    | .tup ds => ds.length = xs.length ∧ Z.nx ((xs.zip ds).foldl (fun σ p => σ.set p.1.1 (some p.2)) σ) A1
    | _ => False
  | .par xs es, Z, σ, A => evs G es σ A (Z.ex σ) fun ds A1 => ds.length = xs.length ∧ Z.nx ((xs.zip ds).foldl (fun σ p => σ.set p.1.1 (some p.2)) σ) A1
  | .sto o i e, Z, σ, A => ev G e σ A (Z.ex σ) fun d A1 => ev G o σ A1 (Z.ex σ) fun x A2 => ev G i σ A2 (Z.ex σ) fun k A3 => match x, k with
    | .ref a, k => match rd A3 a with
      | some (.lst ds) => match k with
        | .int i => match ixD ds.length i with
          | some j => Z.nx σ (put A3 a (.lst (ds.set j d)))
          | none => False
        | _ => False
      | some (.dct kvs) => match dkey k with
        | some y => kvs.length < sizeLine ∧ Z.nx σ (put A3 a (.dct (setK kvs y d)))
        | none => False
      | _ => False
    | _, _ => False
  | .aug i _ o e, Z, σ, A => match σ[i]? with
    | some (some x) => ev G e σ A (Z.ex σ) fun y A1 => rAug o x y A1 fun z A2 => Z.nx (σ.set i (some z)) A2
    | _ => False
  | .exp e, Z, σ, A => ev G e σ A (Z.ex σ) fun _ A1 => Z.nx σ A1
  | .ret e, Z, σ, A => ev G e σ A (Z.ex σ) fun d A1 => Z.rt d A1
  | .ret0, Z, _, A => Z.rt .non A
  | .if_ c a b, Z, σ, A => evT G c σ A (Z.ex σ) fun k A1 => match k with
    | true => evSs a Z σ A1
    | false => evSs b Z σ A1
  | .whl c b ws, Z, σ, A => ∃ n, whlR (fun σ A X Q => evT G c σ A X Q) ws (fun Z σ A => evSs b Z σ A) Z n σ A
  | .for_ tg it b ws, Z, σ, A => evI G it σ A (Z.ex σ) fun ds Gd A1 => forR Gd tg ws (fun Z σ A => evSs b Z σ A) Z ds σ A1
  | .wipe ws, Z, σ, A => Z.nx (wipN σ ws) A
  | .frz i, Z, σ, A => match σ[i]? with
    | some (some (.ref p)) => match rd A p with
      | some (.lst ds) => Z.nx (σ.set i (some (.fl ds))) (rem A p)
      | some (.dct kvs) => Z.nx (σ.set i (some (.fd (kvs.map (·.1)) (kvs.map (·.2))))) (rem A p)
      | _ => False
    | _ => False
  | .raise c, Z, σ, A => Z.ex σ c A
  | .pass, Z, σ, A => Z.nx σ A
  | .brk, Z, σ, A => Z.bk σ A
  | .cnt, Z, σ, A => Z.ct σ A
def evSs : Ss → DEnds → DSt → AH → Prop
  | .nil, Z, σ, A => Z.nx σ A
  | .cons s ss, Z, σ, A => evS s (Z.then_ fun σ A => evSs ss Z σ A) σ A
end
/-- A is part of A' -/
def Sub (A A' : AH) : Prop := ∀ a o, A a = some o → A' a = some o
/-! what comes out of a def may be frozen -/
mutual
inductive Thaw (A : AH) : D → D → List Addr → Prop
  | same (d : D) : Thaw A d d []
  | lst {p : Addr} {ds es : List D} {ps : List Addr} : A p = some (.lst ds) → Thaws A ds es ps → Thaw A (.ref p) (.fl es) (p :: ps)
  | dct {p : Addr} {kvs : List (Key × D)} {es : List D} {ps : List Addr} : A p = some (.dct kvs) → Thaws A (kvs.map (·.2)) es ps → Thaw A (.ref p) (.fd (kvs.map (·.1)) es) (p :: ps)
  | tup {ds es : List D} {ps : List Addr} : Thaws A ds es ps → Thaw A (.tup ds) (.tup es) ps
inductive Thaws (A : AH) : List D → List D → List Addr → Prop
  | same (ds : List D) : Thaws A ds ds []
  | cons {d e : D} {ds es : List D} {ps qs : List Addr} : Thaw A d e ps → Thaws A ds es qs → Thaws A (d :: ds) (e :: es) (ps ++ qs)
end
/-- a def's end: what nobody holds may be forgotten, what comes out may be frozen -/
@[irreducible] def EndOk (A' : AH) (d : D) (Q : Dk) : Prop := ∃ A2 d2 ps, Thaw A' d d2 ps ∧ Sub A2 A' ∧ (∀ p ∈ ps, A2 p = none) ∧ Q d2 A2
theorem EndOk_eq {A' : AH} {d : D} {Q : Dk} : EndOk A' d Q = ∃ A2 d2 ps, Thaw A' d d2 ps ∧ Sub A2 A' ∧ (∀ p ∈ ps, A2 p = none) ∧ Q d2 A2 := by unfold EndOk; rfl
/-- a call of a def: its slots, its body -/
def runD (n : Nat) (body : Ss) (ds : List D) (A : AH) (X : Dx) (Q : Dk) : Prop :=
  evSs G body ⟨fun _ A' => EndOk A' .non Q, fun d A' => EndOk A' d Q, fun _ _ => False, fun _ _ => False, fun _ c A' => ∃ A2, Sub A2 A' ∧ X c A2⟩
    (ds.map some ++ List.replicate (n - ds.length) none) A
end Py

namespace Py
open PySem PySem.Spec PyProof.Rows L2

/-! ### how the plain data lies in the layer's heap -/
/-- a tuple without a dict of its own: locked as its object, or written -/
def TupAt (K : PySem.W.Frag) (H : Hp) (a : Addr) (vs : List V) : Prop :=
  (∃ o : Obj, H a = some (.frz o (.tup vs)) ∧ o.dict = none ∧ o.slots = #[]) ∨
    ∃ (o : Obj) (its : Array Value) (n : Nat), K.lookup a = some o ∧ o.cls = .type "tuple" ∧ (o.dict = none ∧ o.slots = #[]) ∧ o.data = .seq its n ∧ its.size ≤ sizeLine ∧ Vals vs its.toList
theorem TupAt.sqt {K : PySem.W.Frag} {H : Hp} {a : Addr} {vs : List V} (h : TupAt K H a vs) : SqT K H a vs := by
  rcases h with ⟨o, h, _⟩ | ⟨o, its, n, h1, h2, h3, h4, h5, h6⟩
  · exact .inl (.inr ⟨o, h⟩)
  · exact .inr ⟨o, its, n, h1, h2, h4, h5, h6⟩
/-- a list that nobody changes -/
def FlAt (K : PySem.W.Frag) (H : Hp) (a : Addr) (vs : List V) : Prop :=
  (∃ o : Obj, H a = some (.frz o (.lst vs))) ∨ ∃ (o : Obj) (its : Array Value) (n : Nat), K.lookup a = some o ∧ o.cls = .type "list" ∧ o.dict = none ∧ o.data = .seq its n ∧ its.size ≤ sizeLine ∧ Vals vs its.toList ∧ o.slots = #[]
/-- a dict that nobody changes -/
def FdAt (H : Hp) (a : Addr) (ws : List (Key × V)) : Prop := ∃ o : Obj, H a = some (.frz o (.dK ws))
theorem FlAt.sql {K : PySem.W.Frag} {H : Hp} {a : Addr} {vs : List V} (h : FlAt K H a vs) : SqL K H a vs := by
  rcases h with ⟨o, h⟩ | ⟨o, its, n, h1, h2, h3, h4, h5, h6, _⟩
  · exact .inl (.inr ⟨o, h⟩)
  · exact .inr ⟨o, its, n, h1, h2, h3, h4, h5, h6⟩
mutual
def RelD (K : PySem.W.Frag) (H : Hp) : D → V → Prop
  | .non, v => v = .non
  | .bl b, v => v = .bl b
  | .int i, v => v = .int i
  | .str s, v => v = .str s
  | .tup ds, v => ∃ a vs, v = .ref a ∧ TupAt K H a vs ∧ RelDs K H ds vs
  | .ref a, v => v = .ref a
  | .fl ds, v => ∃ a vs, v = .ref a ∧ FlAt K H a vs ∧ RelDs K H ds vs
  | .fd ks ds, v => ∃ a ws, v = .ref a ∧ FdAt H a ws ∧ ws.map (·.1) = ks ∧ RelDs K H ds (ws.map (·.2))
def RelDs (K : PySem.W.Frag) (H : Hp) : List D → List V → Prop
  | [], vs => vs = []
  | d :: ds, vs => ∃ v r, vs = v :: r ∧ RelD K H d v ∧ RelDs K H ds r
end
def FzOk : HO → Prop
  | .tup _ => True
  | .lst _ => True
  | .dK _ => True
  | _ => False
def Mono (H H' : Hp) : Prop := ∀ a o u, FzOk u → H a = some (.frz o u) → H' a = some (.frz o u)
theorem Mono.refl {H : Hp} : Mono H H := fun _ _ _ _ h => h
theorem Mono.trans {H H1 H2 : Hp} (a : Mono H H1) (b : Mono H1 H2) : Mono H H2 := fun c o xs k h => b c o xs k (a c o xs k h)
theorem Mono.tup {K : PySem.W.Frag} {H H' : Hp} {a : Addr} {xs : List V} (m : Mono H H') (h : TupAt K H a xs) : TupAt K H' a xs := by
  rcases h with ⟨o, h, d⟩ | h
  · exact .inl ⟨o, m a o _ trivial h, d⟩
  · exact .inr h
theorem Mono.fl {K : PySem.W.Frag} {H H' : Hp} {a : Addr} {xs : List V} (m : Mono H H') (h : FlAt K H a xs) : FlAt K H' a xs := by
  rcases h with ⟨o, h⟩ | h
  · exact .inl ⟨o, m a o _ trivial h⟩
  · exact .inr h
mutual
theorem RelD.mono {K : PySem.W.Frag} {H H' : Hp} (m : Mono H H') : ∀ (d : D) (v : V), RelD K H d v → RelD K H' d v
  | .non, _, h => h
  | .bl _, _, h => h
  | .int _, _, h => h
  | .str _, _, h => h
  | .ref _, _, h => h
  | .tup ds, _, ⟨a, vs, e, h, r⟩ => ⟨a, vs, e, m.tup h, RelDs.mono m ds vs r⟩
  | .fl ds, _, ⟨a, vs, e, h, r⟩ => ⟨a, vs, e, m.fl h, RelDs.mono m ds vs r⟩
  | .fd ks ds, _, ⟨a, ws, e, ⟨o, h⟩, ek, r⟩ => ⟨a, ws, e, ⟨o, m a o _ trivial h⟩, ek, RelDs.mono m ds _ r⟩
theorem RelDs.mono {K : PySem.W.Frag} {H H' : Hp} (m : Mono H H') : ∀ (ds : List D) (vs : List V), RelDs K H ds vs → RelDs K H' ds vs
  | [], _, h => h
  | d :: ds, _, ⟨v, r, e, h, t⟩ => ⟨v, r, e, RelD.mono m d v h, RelDs.mono m ds r t⟩
end
theorem RelDs.length {K : PySem.W.Frag} {H : Hp} : ∀ {ds : List D} {vs : List V}, RelDs K H ds vs → vs.length = ds.length
  | [], _, h => by cases (show _ = [] from h); rfl
  | _ :: ds, _, ⟨_, r, e, _, t⟩ => by subst e; simp [RelDs.length t]
theorem RelDs.get {K : PySem.W.Frag} {H : Hp} : ∀ {ds : List D} {vs : List V} {i : Nat} {d : D}, RelDs K H ds vs → ds[i]? = some d → ∃ v, vs[i]? = some v ∧ RelD K H d v
  | [], _, _, _, _, h => by simp at h
  | x :: ds, _, 0, d, ⟨v, r, e, h, t⟩, g => by
    subst e
    cases (show x = d by simpa using g)
    exact ⟨v, rfl, h⟩
  | x :: ds, _, i + 1, d, ⟨v, r, e, h, t⟩, g => by
    subst e
    obtain ⟨w, e1, e2⟩ := RelDs.get (i := i) (d := d) t (by simpa using g)
    exact ⟨w, by simpa using e1, e2⟩
theorem RelDs.getV {K : PySem.W.Frag} {H : Hp} {ds : List D} {vs : List V} {i : Nat} {v : V} (r : RelDs K H ds vs) (h : vs[i]? = some v) : ∃ d, ds[i]? = some d ∧ RelD K H d v := by
  have hi : i < ds.length := by
    have := (List.getElem?_eq_some_iff.mp h).1
    rw [r.length] at this
    exact this
  obtain ⟨w, e, q⟩ := r.get (List.getElem?_eq_getElem hi)
  rw [h] at e
  cases e
  exact ⟨_, List.getElem?_eq_getElem hi, q⟩
theorem RelDs.app {K : PySem.W.Frag} {H : Hp} : ∀ {ds es : List D} {vs ws : List V}, RelDs K H ds vs → RelDs K H es ws → RelDs K H (ds ++ es) (vs ++ ws)
  | [], _, _, _, h, q => by cases (show _ = [] from h); exact q
  | _ :: ds, _, _, _, ⟨v, r, e, h, t⟩, q => by subst e; exact ⟨v, _, rfl, h, RelDs.app t q⟩
theorem RelDs.one {K : PySem.W.Frag} {H : Hp} {d : D} {v : V} (h : RelD K H d v) : RelDs K H [d] [v] := ⟨v, [], rfl, h, rfl⟩
theorem RelDs.drop {K : PySem.W.Frag} {H : Hp} : ∀ (n : Nat) {ds : List D} {vs : List V}, RelDs K H ds vs → RelDs K H (ds.drop n) (vs.drop n)
  | 0, _, _, h => h
  | _ + 1, [], _, h => by cases (show _ = [] from h); exact rfl
  | n + 1, _ :: ds, _, ⟨v, r, e, _, t⟩ => by subst e; exact RelDs.drop n t
theorem RelDs.take {K : PySem.W.Frag} {H : Hp} : ∀ (n : Nat) {ds : List D} {vs : List V}, RelDs K H ds vs → RelDs K H (ds.take n) (vs.take n)
  | 0, _, _, h => rfl
  | _ + 1, [], _, h => by cases (show _ = [] from h); exact rfl
  | n + 1, _ :: ds, _, ⟨v, r, e, h, t⟩ => by subst e; exact ⟨v, _, rfl, h, RelDs.take n t⟩
theorem RelDs.set {K : PySem.W.Frag} {H : Hp} {d : D} {v : V} (q : RelD K H d v) : ∀ (n : Nat) {ds : List D} {vs : List V}, RelDs K H ds vs → RelDs K H (ds.set n d) (vs.set n v)
  | _, [], _, h => by cases (show _ = [] from h); exact rfl
  | 0, _ :: ds, _, ⟨w, r, e, h, t⟩ => by subst e; exact ⟨v, _, rfl, q, t⟩
  | n + 1, _ :: ds, _, ⟨w, r, e, h, t⟩ => by subst e; exact ⟨w, _, rfl, h, RelDs.set q n t⟩
theorem RelDs.erase {K : PySem.W.Frag} {H : Hp} : ∀ (n : Nat) {ds : List D} {vs : List V}, RelDs K H ds vs → RelDs K H (ds.eraseIdx n) (vs.eraseIdx n)
  | _, [], _, h => by cases (show _ = [] from h); exact rfl
  | 0, _ :: ds, _, ⟨w, r, e, h, t⟩ => by subst e; exact t
  | n + 1, _ :: ds, _, ⟨w, r, e, h, t⟩ => by subst e; exact ⟨w, _, rfl, h, RelDs.erase n t⟩
theorem RelDs.rev {K : PySem.W.Frag} {H : Hp} : ∀ {ds : List D} {vs : List V}, RelDs K H ds vs → RelDs K H ds.reverse vs.reverse
  | [], _, h => by cases (show _ = [] from h); exact rfl
  | _ :: ds, _, ⟨w, r, e, h, t⟩ => by
    subst e
    rw [List.reverse_cons, List.reverse_cons]
    exact RelDs.app (RelDs.rev t) (RelDs.one h)
theorem RelDs.mk {K : PySem.W.Frag} {H : Hp} : ∀ {ds : List D} {vs : List V}, vs.length = ds.length → (∀ (i : Nat) d v, ds[i]? = some d → vs[i]? = some v → RelD K H d v) → RelDs K H ds vs
  | [], vs, h, _ => by cases vs with | nil => rfl | cons _ _ => simp at h
  | d :: ds, [], h, _ => by simp at h
  | d :: ds, v :: vs, h, q => ⟨v, vs, rfl, q 0 d v rfl rfl, RelDs.mk (by simpa using h) fun i d v e1 e2 => q (i + 1) d v (by simpa using e1) (by simpa using e2)⟩

structure RC where
  K : PySem.W.Frag
  cl : Str → Option Addr
def RelKv (K : PySem.W.Frag) (H : Hp) : List (Key × D) → List (Key × V) → Prop
  | [], ws => ws = []
  | p :: r, ws => ∃ v t, ws = (p.1, v) :: t ∧ RelD K H p.2 v ∧ RelKv K H r t
def RelFs (K : PySem.W.Frag) (H : Hp) : List (Str × D) → List (Str × V) → Prop
  | [], ws => ws = []
  | p :: r, ws => ∃ v t, ws = (p.1, v) :: t ∧ RelD K H p.2 v ∧ RelFs K H r t
def RelO (c : RC) (H : Hp) (a : Addr) : AO → Prop
  | .lst ds => ∃ vs, H a = some (.lst vs) ∧ RelDs c.K H ds vs
  | .dct kvs => ∃ ws, H a = some (.dK ws) ∧ RelKv c.K H kvs ws
  | .ins n fs => ∃ C dx ws, c.cl n = some C ∧ H a = some (.ins C dx ws) ∧ RelFs c.K H fs ws
  | .exc _ => False
def RelA (c : RC) (A : AH) (H : Hp) : Prop := ∀ a o, A a = some o → RelO c H a o
theorem RelKv.mono {K : PySem.W.Frag} {H H' : Hp} (m : Mono H H') : ∀ {ds : List (Key × D)} {vs : List (Key × V)}, RelKv K H ds vs → RelKv K H' ds vs
  | [], _, h => h
  | _ :: ds, _, ⟨v, t, e, h2, r⟩ => ⟨v, t, e, RelD.mono m _ _ h2, RelKv.mono m r⟩
theorem RelFs.mono {K : PySem.W.Frag} {H H' : Hp} (m : Mono H H') : ∀ {ds : List (Str × D)} {vs : List (Str × V)}, RelFs K H ds vs → RelFs K H' ds vs
  | [], _, h => h
  | _ :: ds, _, ⟨v, t, e, h2, r⟩ => ⟨v, t, e, RelD.mono m _ _ h2, RelFs.mono m r⟩
theorem Rd_some {H : Hp} {a : Addr} {u : HO} (r : Rd H a u) : ∃ o, H a = Option.some o := by
  rcases r with r | ⟨o, r⟩ <;> exact ⟨_, r⟩
theorem RelO_some {c : RC} {H : Hp} {a : Addr} {o : AO} (h : RelO c H a o) : ∃ u, H a = Option.some u := by
  cases o with
  | lst ds => obtain ⟨_, e, _⟩ := h; exact ⟨_, e⟩
  | dct ds => obtain ⟨_, e, _⟩ := h; exact ⟨_, e⟩
  | ins n fs => obtain ⟨_, _, _, _, e, _⟩ := h; exact ⟨_, e⟩
  | exc _ => exact h.elim
theorem RelA_none {c : RC} {A : AH} {H : Hp} (r : RelA c A H) {a : Addr} (h : H a = Option.none) : A a = Option.none := by
  cases e : A a with
  | none => rfl
  | some o =>
    obtain ⟨u, q⟩ := RelO_some (r a o e)
    rw [h] at q
    cases q
theorem RelO.keep {c : RC} {H H' : Hp} {a : Addr} {o : AO} (h : RelO c H a o) (m : Mono H H') (e : H' a = H a) : RelO c H' a o := by
  have er : ∀ u, Rd H a u → Rd H' a u := fun u x => by unfold Rd at *; rw [e]; exact x
  cases o with
  | lst ds => obtain ⟨v, q, r⟩ := h; exact ⟨v, e.trans q, r.mono m⟩
  | dct ds => obtain ⟨v, q, r⟩ := h; exact ⟨v, e.trans q, r.mono m⟩
  | ins n fs => obtain ⟨C, dx, v, z, q, r⟩ := h; exact ⟨C, dx, v, z, e.trans q, r.mono m⟩
  | exc _ => exact h.elim
theorem Sub.rel {c : RC} {A A' : AH} {H : Hp} (s : Sub A A') (r : RelA c A' H) : RelA c A H := fun a o e => r a o (s a o e)
/-- a store at a place that holds nothing frozen -/
theorem Mono.upd {H : Hp} {a : Addr} {o : HO} (h : ∀ ob u, H a ≠ some (.frz ob u)) : Mono H (upd H a o) := fun b ob xs k r => by
  have hb : b ≠ a := fun e => h ob xs (e ▸ r)
  rw [upd_ne hb]
  exact r
theorem Mono.fresh {H : Hp} {a : Addr} {o : HO} (h : H a = none) : Mono H (L2.upd H a o) := Mono.upd fun ob xs r => by
  rw [h] at r
  cases r
theorem Mono.at {H : Hp} {a : Addr} {o u : HO} (h : H a = some u) (n2 : ∀ ob w, u ≠ .frz ob w) : Mono H (L2.upd H a o) := Mono.upd fun ob xs r => by
  rw [h] at r
  cases r
  exact n2 _ _ rfl
theorem RelA.put {c : RC} {A : AH} {H : Hp} {a : Addr} {o : AO} {u : HO} (r : RelA c A H) (m : Mono H (L2.upd H a u)) (h : RelO c (L2.upd H a u) a o) : RelA c (put A a o) (L2.upd H a u) := fun b p e => by
  unfold Py.put at e
  by_cases hb : b = a
  · subst hb
    rw [if_pos rfl] at e
    cases e
    exact h
  · rw [if_neg hb] at e
    exact (r b p e).keep m (upd_ne hb)
/-- a new object that is no concern of the plain heap (a tuple) -/
theorem RelA.aside {c : RC} {A : AH} {H : Hp} {a : Addr} {u : HO} (r : RelA c A H) (h : H a = none) : RelA c A (L2.upd H a u) := fun b p e => by
  have hb : b ≠ a := fun z => by
    obtain ⟨o, q⟩ := RelO_some (r b p e)
    rw [z, h] at q
    cases q
  exact (r b p e).keep (Mono.fresh h) (upd_ne hb)
theorem getL_rel {c : RC} {A : AH} {H : Hp} {a : Addr} {ds : List D} (r : RelA c A H) (h : getL A a = some ds) : ∃ vs, Rd H a (.lst vs) ∧ RelDs c.K H ds vs := by
  unfold getL at h
  split at h
  · rename_i e
    cases h
    obtain ⟨vs, q, t⟩ := r a _ e
    exact ⟨vs, .inl q, t⟩
  · cases h
theorem RelKv.length {K : PySem.W.Frag} {H : Hp} : ∀ {ds : List (Key × D)} {vs : List (Key × V)}, RelKv K H ds vs → vs.length = ds.length
  | [], _, h => by cases (show _ = [] from h); rfl
  | _ :: ds, _, ⟨v, t, e, _, r⟩ => by subst e; simp [RelKv.length r]
theorem RelKv.keys {K : PySem.W.Frag} {H : Hp} : ∀ {ds : List (Key × D)} {vs : List (Key × V)}, RelKv K H ds vs → vs.map (·.1) = ds.map (·.1)
  | [], _, h => by cases (show _ = [] from h); rfl
  | _ :: ds, _, ⟨v, t, e, _, r⟩ => by subst e; simp [RelKv.keys r]
theorem RelKv.vals {K : PySem.W.Frag} {H : Hp} : ∀ {ds : List (Key × D)} {vs : List (Key × V)}, RelKv K H ds vs → RelDs K H (ds.map (·.2)) (vs.map (·.2))
  | [], _, h => by cases (show _ = [] from h); rfl
  | _ :: ds, _, ⟨v, t, e, h, r⟩ => by subst e; exact ⟨v, _, rfl, h, RelKv.vals r⟩
theorem RelKv.zip {K : PySem.W.Frag} {H : Hp} : ∀ {ds : List D} {ws : List (Key × V)}, RelDs K H ds (ws.map (·.2)) → RelKv K H ((ws.map (·.1)).zip ds) ws
  | [], [], _ => rfl
  | [], _ :: _, h => by cases (show _ = [] from h)
  | d :: ds, [], ⟨_, _, e, _⟩ => by cases e
  | d :: ds, (k, w) :: ws, ⟨v, r, e, h, t⟩ => by
    simp only [List.map_cons, List.cons.injEq] at e
    obtain ⟨rfl, rfl⟩ := e
    exact ⟨w, ws, rfl, h, RelKv.zip t⟩
theorem RelKv.app {K : PySem.W.Frag} {H : Hp} : ∀ {ds es : List (Key × D)} {vs ws : List (Key × V)}, RelKv K H ds vs → RelKv K H es ws → RelKv K H (ds ++ es) (vs ++ ws)
  | [], _, _, _, h, q => by cases (show _ = [] from h); exact q
  | _ :: ds, _, _, _, ⟨v, t, e, h, r⟩, q => by subst e; exact ⟨v, _, rfl, h, RelKv.app r q⟩
theorem RelKv.look {K : PySem.W.Frag} {H : Hp} (k : Key) : ∀ {ds : List (Key × D)} {vs : List (Key × V)}, RelKv K H ds vs → (lookK ds k = none ∧ valV vs k = none) ∨ ∃ d v, lookK ds k = some d ∧ valV vs k = some v ∧ RelD K H d v
  | [], _, h => by cases (show _ = [] from h); exact .inl ⟨rfl, rfl⟩
  | p :: ds, _, ⟨v, t, e, h, r⟩ => by
    subst e
    by_cases hk : p.1 = k
    · refine .inr ⟨p.2, v, by simp [lookK, hk], valV_pos hk, h⟩
    · have e1 : lookK (p :: ds) k = lookK ds k := by simp [lookK, hk]
      rw [e1, valV_neg hk]
      exact RelKv.look k r
theorem RelKv.any {K : PySem.W.Frag} {H : Hp} (k : Key) : ∀ {ds : List (Key × D)} {vs : List (Key × V)}, RelKv K H ds vs → (ds.any fun p => decide (p.1 = k)) = vs.any fun p => decide (p.1 = k)
  | [], _, h => by cases (show _ = [] from h); rfl
  | p :: ds, _, ⟨v, t, e, h, r⟩ => by
    subst e
    rw [List.any_cons, List.any_cons, RelKv.any k r]
theorem RelKv.set {K : PySem.W.Frag} {H : Hp} (k : Key) {d : D} {u : V} (q : RelD K H d u) {ds : List (Key × D)} {vs : List (Key × V)} (r : RelKv K H ds vs) : RelKv K H (setK ds k d) (putK vs k u) := by
  have repl : ∀ {ds : List (Key × D)} {vs : List (Key × V)}, RelKv K H ds vs → RelKv K H (ds.map fun p => if p.1 = k then (p.1, d) else p) (vs.map fun p => if p.1 = k then (p.1, u) else p) := fun {ds} => by
    induction ds with
    | nil => intro vs h; cases (show _ = [] from h); exact rfl
    | cons p ds ih =>
      rintro vs ⟨v, t, e, h, r⟩
      subst e
      rw [List.map_cons, List.map_cons]
      by_cases hk : p.1 = k
      · rw [if_pos hk, if_pos hk]
        exact ⟨u, _, rfl, q, ih r⟩
      · rw [if_neg hk, if_neg hk]
        exact ⟨v, _, rfl, h, ih r⟩
  unfold setK putK
  rw [RelKv.any k r]
  split
  · exact repl r
  · exact r.app ⟨u, [], rfl, q, rfl⟩
theorem RelKv.merge {K : PySem.W.Frag} {H : Hp} : ∀ {more : List (Key × D)} {ms : List (Key × V)} {ds : List (Key × D)} {vs : List (Key × V)}, RelKv K H more ms → RelKv K H ds vs → RelKv K H (mergK ds more) (mergeK vs ms)
  | [], _, _, _, h, r => by cases (show _ = [] from h); exact r
  | p :: more, _, _, _, ⟨v, t, e, h, r'⟩, r => by
    subst e
    exact RelKv.merge (more := more) (ms := t) r' (r.set p.1 h)
/-- the pairs of a dict, changing or not -/
theorem mapD_rel {c : RC} {A : AH} {H : Hp} {d : D} {x : V} {kvs : List (Key × D)} (r : RelA c A H) (rx : RelD c.K H d x) (h : mapD A d = some kvs) : ∃ a ws, x = .ref a ∧ Rd H a (.dK ws) ∧ RelKv c.K H kvs ws := by
  cases d <;> simp only [mapD] at h <;> try (cases h; done)
  · split at h
    · rename_i e
      cases h
      obtain ⟨ws, q, t⟩ := r _ _ e
      exact ⟨_, ws, rx, .inl q, t⟩
    · cases h
  · cases h
    obtain ⟨a, ws, e, ⟨o, hf⟩, ek, q⟩ := rx
    subst ek
    exact ⟨a, ws, e, .inr ⟨o, hf⟩, RelKv.zip q⟩
theorem lstD_rel {c : RC} {A : AH} {H : Hp} {d : D} {x : V} {ds : List D} (r : RelA c A H) (rx : RelD c.K H d x) (h : lstD A d = some ds) : ∃ a vs, x = .ref a ∧ SqL c.K H a vs ∧ RelDs c.K H ds vs := by
  cases d <;> simp only [lstD] at h <;> try (cases h; done)
  · obtain ⟨vs, q, t⟩ := getL_rel r h
    exact ⟨_, vs, rx, .inl q, t⟩
  · cases h
    obtain ⟨a, vs, e, hf, q⟩ := rx
    exact ⟨a, vs, e, hf.sql, q⟩
/-- keys as data -/
theorem keyD_rel {K : PySem.W.Frag} {H : Hp} (k : Key) : RelD K H (keyD k) (kV k) := by cases k <;> rfl
theorem dkey_rel {K : PySem.W.Frag} {H : Hp} {d : D} {k : Key} {v : V} (h : dkey d = some k) (r : RelD K H d v) : v = kV k := by
  cases d <;> simp only [dkey] at h <;> try (cases h; done)
  · cases h; exact r
  · cases h; exact r
/-! ### what is frozen while it goes on -/
/-- some changing things may be frozen ahead of what follows -/
inductive FzS (Q : VK) : VK
  | here {v : V} {H : Hp} : Q v H → FzS Q v H
  | step {v : V} {H : Hp} {p : Addr} {u : HO} : Mut (some u) → H p = some u → (∀ o, FzS Q v (L2.upd H p (.frz o u))) → FzS Q v H
theorem EP_fz {X : Cx} {pins : List (Addr × Obj)} {σ : L2.St} {Q : VK} {u : Value} {s : Shared} (h : EP X pins σ (FzS Q) u s) : EP X pins σ Q u s := by
  obtain ⟨v, H, I, r, q⟩ := h
  induction q with
  | here q => exact ⟨_, _, I, r, q⟩
  | step mu e _ ih =>
    obtain ⟨o, I'⟩ := I.lock e mu
    exact ih o I' r
theorem PE.fz {X : Cx} {e : Expr} {t : TE} (h : PE X e t) : PE X e (fun σ H Q => t σ H (FzS Q)) := ⟨fun pins s σ H Q I q => thn (h.run pins s σ H _ I q) fun _ _ => EP_fz⟩
theorem OpR.fz {X : Cx} {f : Value → Value → Sem Value} {r : R2} (h : OpR X f r) : OpR X f (fun x y H Q => r x y H (FzS Q)) := fun pins s σ H x y v u Q I rx ry q => thn (h pins s σ H x y v u _ I rx ry q) fun _ _ => EP_fz
theorem CallR.fz {X : Cx} {f : Value} {r : List V → Hp → VK → Prop} (h : CallR X f r) : CallR X f (fun x H Q => r x H (FzS Q)) := fun pins s σ H x v Q I rx q => thn (h pins s σ H x v _ I rx q) fun _ _ => EP_fz
theorem SlR.fz {X : Cx} {r : V → Option Int → Option Int → Hp → VK → Prop} (h : SlR X r) : SlR X (fun x a b H Q => r x a b H (FzS Q)) := fun pins s σ H x v vl vu lo hi sl Q I rx hs pl pu q =>
  let ⟨T, id, h1, h2, h3⟩ := h pins s σ H x v vl vu lo hi sl _ I rx hs pl pu q
  ⟨T, id, h1, h2, thn h3 fun _ _ => EP_fz⟩
/-- all that comes out is frozen -/
theorem frz_rel {c : RC} {A : AH} {H : Hp} {p : Addr} {o : Obj} {u : HO} (r : RelA c A H) (hp : A p = none) (m : Mono H (L2.upd H p (.frz o u))) : RelA c A (L2.upd H p (.frz o u)) := fun b a e => by
  have hb : b ≠ p := fun z => by rw [z, hp] at e; cases e
  exact (r b a e).keep m (upd_ne hb)
theorem Mono.frz {H : Hp} {p : Addr} {o : Obj} {u : HO} (h : H p = some u) (mu : Mut (some u)) : Mono H (L2.upd H p (.frz o u)) := Mono.at h fun ob w z => by subst z; exact mu
/-! ### the slots -/
def RelS (K : PySem.W.Frag) (H : Hp) (σd : DSt) (σ : L2.St) : Prop := σd.length = σ.length ∧ ∀ (i : Nat) d, σd[i]? = some (some d) → ∃ v, σ[i]? = some (some v) ∧ RelD K H d v
theorem RelS.mono {K : PySem.W.Frag} {H H' : Hp} {σd : DSt} {σ : L2.St} (m : Mono H H') (r : RelS K H σd σ) : RelS K H' σd σ := ⟨r.1, fun i d e => let ⟨v, a, b⟩ := r.2 i d e; ⟨v, a, RelD.mono m _ _ b⟩⟩
theorem RelS.set {K : PySem.W.Frag} {H : Hp} {σd : DSt} {σ : L2.St} {i : Nat} {d : D} {v : V} (r : RelS K H σd σ) (h : RelD K H d v) : RelS K H (σd.set i (some d)) (σ.set i (some v)) := by
  refine ⟨by simpa using r.1, fun j e q => ?_⟩
  by_cases hj : i = j
  · subst hj
    by_cases hi : i < σd.length
    · rw [List.getElem?_set_self hi] at q
      cases q
      exact ⟨v, List.getElem?_set_self (by rw [← r.1]; exact hi), h⟩
    · rw [List.getElem?_eq_none (by simpa using hi)] at q
      cases q
  · rw [List.getElem?_set_ne hj] at q ⊢
    exact r.2 j e q
theorem RelS.setN {K : PySem.W.Frag} {H : Hp} {σd : DSt} {σ : L2.St} {i : Nat} (r : RelS K H σd σ) : RelS K H (σd.set i none) (σ.set i none) := by
  refine ⟨by simpa using r.1, fun j e q => ?_⟩
  by_cases hj : i = j
  · subst hj
    by_cases hi : i < σd.length
    · rw [List.getElem?_set_self hi] at q
      cases q
    · rw [List.getElem?_eq_none (by simpa using hi)] at q
      cases q
  · rw [List.getElem?_set_ne hj] at q ⊢
    exact r.2 j e q
theorem RelS.forget {K : PySem.W.Frag} {H : Hp} {σd : DSt} {σ : L2.St} {i : Nat} (r : RelS K H σd σ) : RelS K H (σd.set i none) σ := by
  refine ⟨by simpa using r.1, fun j e q => ?_⟩
  by_cases hj : i = j
  · subst hj
    by_cases hi : i < σd.length
    · rw [List.getElem?_set_self hi] at q
      cases q
    · rw [List.getElem?_eq_none (by simpa using hi)] at q
      cases q
  · rw [List.getElem?_set_ne hj] at q
    exact r.2 j e q
theorem RelS.wipN {K : PySem.W.Frag} {H : Hp} {σ : L2.St} : ∀ (ws : List Nat) {σd : DSt}, RelS K H σd σ → RelS K H (wipN σd ws) σ
  | [], _, r => r
  | _ :: ws, _, r => RelS.wipN ws r.forget
theorem RelS.wipe {K : PySem.W.Frag} {H : Hp} {σd : DSt} {σ : L2.St} (r : RelS K H σd σ) : ∀ own : List (Str × Nat), RelS K H (wipeD σd own) (wipe σ (own.map (·.2)))
  | [] => r
  | v :: vs => (RelS.wipe r vs).setN
/-- weaken what follows -/
theorem PE.imp {X : Cx} {e : Expr} {t t' : TE} (h : PE X e t) (i : ∀ σ H Q, t' σ H Q → t σ H Q) : PE X e t' := ⟨fun pins s σ H Q I q => h.run pins s σ H Q I (i _ _ _ q)⟩
theorem PT.imp {X : Cx} {e : Expr} {t t' : TT} (h : PT X e t) (i : ∀ σ H Q, t' σ H Q → t σ H Q) : PT X e t' := ⟨fun pins s σ H Q I q => h.run pins s σ H Q I (i _ _ _ q)⟩
theorem PS.imp {X : Cx} {e : Stmt} {t t' : TS} (h : PS X e t) (i : ∀ D σ H, t' D σ H → t D σ H) : PS X e t' := ⟨fun pins s σ H Q I q => h.run pins s σ H Q I (i _ _ _ q)⟩
theorem PSs.imp {X : Cx} {e : List Stmt} {t t' : TS} (h : PSs X e t) (i : ∀ D σ H, t' D σ H → t D σ H) : PSs X e t' := ⟨fun pins s σ H Q I q => h.run pins s σ H Q I (i _ _ _ q)⟩
theorem PA.imp {X : Cx} {e : List Expr} {t t' : TA} (h : PA X e t) (i : ∀ σ H Q, t' σ H Q → t σ H Q) : PA X e t' := ⟨fun pos pins s σ H Q I q => h.run pos pins s σ H Q I (i _ _ _ q)⟩
theorem PI.imp {X : Cx} {tg e : Expr} {t t' : TI} (h : PI X tg e t) (i : ∀ σ H Q, t' σ H Q → t σ H Q) : PI X tg e t' := ⟨fun pins s σ H Q I q => h.run pins s σ H Q I (i _ _ _ q)⟩
theorem PG.imp {X : Cx} {e : Expr} {t t' : TG} (h : PG X e t) (i : ∀ v σ H Q, t' v σ H Q → t v σ H Q) : PG X e t' := ⟨fun pins s σ H v u Q I r q => h.run pins s σ H v u Q I r (i _ _ _ _ q)⟩
theorem OpR.imp {X : Cx} {f : Value → Value → Sem Value} {r r' : R2} (h : OpR X f r) (i : ∀ x y H Q, r' x y H Q → r x y H Q) : OpR X f r' := fun pins s σ H x y v u Q I rx ry q => h pins s σ H x y v u Q I rx ry (i _ _ _ _ q)
theorem CallR.imp {X : Cx} {f : Value} {r r' : List V → Hp → VK → Prop} (h : CallR X f r) (i : ∀ x H Q, r' x H Q → r x H Q) : CallR X f r' := fun pins s σ H x v Q I rx q => h pins s σ H x v Q I rx (i _ _ _ q)
theorem MtR.imp {X : Cx} {f : String} {r r' : V → List V → Hp → VK → Prop} (h : MtR X f r) (i : ∀ o x H Q, r' o x H Q → r o x H Q) : MtR X f r' := fun pins s σ H o x w v Q I ro rx q => h pins s σ H o x w v Q I ro rx (i _ _ _ _ q)
theorem IxR.imp {X : Cx} {r r' : R2} (h : IxR X r) (i : ∀ x y H Q, r' x y H Q → r x y H Q) : IxR X r' := fun a b pins s σ H x y v u Q I rx ry q => h a b pins s σ H x y v u Q I rx ry (i _ _ _ _ q)
theorem SlR.imp {X : Cx} {r r' : V → Option Int → Option Int → Hp → VK → Prop} (h : SlR X r) (i : ∀ x a b H Q, r' x a b H Q → r x a b H Q) : SlR X r' := fun pins s σ H x v vl vu lo hi sl Q I rx hs pl pu q => h pins s σ H x v vl vu lo hi sl Q I rx hs pl pu (i _ _ _ _ _ q)
end Py

namespace Py
open PySem PySem.Spec PyProof.Rows L2
/-! ### calls where no __repr__ is under way: what a def promises there -/
structure FnG (P : Program) (w : World) (K : PySem.W.Frag) (mg : Str → Option Value) (base : Heap) (CX : CXT) (k : Nat) (f : Addr) (fd : FuncData) (ps : List Str) (sp : Sp) : Prop where
  len : ∀ vs H Q E, sp vs H Q E → vs.length = ps.length
  run : ∀ (A : Around) (outer : List Env) (s : Shared) (H : Hp) (args : Args) (us : List Value) (vs : List V) (Q : VK) (E : XK), Room k A → A.guards = some [] → Env0 P w K mg base A outer s H → BindsTo s fd args (ps.zip us) → Vals vs us → sp vs H Q E →
    codeAny (model P w) A (.call (.ref f) args) (CR CX outer P w H s Q E) s
/-- a weaker promise -/
theorem FnG.weaken {P : Program} {w : World} {K : PySem.W.Frag} {mg : Str → Option Value} {base : Heap} {CX : CXT} {k : Nat} {f : Addr} {fd : FuncData} {ps : List Str} {sp sp' : Sp} (F : FnG P w K mg base CX k f fd ps sp) (h : ∀ vs H Q E, sp' vs H Q E → sp vs H Q E) : FnG P w K mg base CX k f fd ps sp' :=
  ⟨fun vs H Q E q => F.len vs H Q E (h _ _ _ _ q), fun A outer s H args us vs Q E hr hg he hb hv hs => F.run A outer s H args us vs Q E hr hg he hb hv (h _ _ _ _ hs)⟩
section
variable {CX : CXT} {P : Program} {w : World} {K : PySem.W.Frag} {mg : Str → Option Value} {base : Heap} {k : Nat} {f : Addr}
theorem fn_G {x qual : Str} {st : Stmt} {fd : FuncData} {N ps : List Str} {sp : Sp} (F : Fun K x qual st f fd) (S : FnScope N ps (defScope st)) (len : ∀ vs H Q E, sp vs H Q E → vs.length = ps.length)
    (body : ∀ (cdv : Value) (A : Around) (outer : List Env) (s : Shared) (H : Hp) (vs : List V) (Q : VK) (E : XK), Room k (A.deeper (envOfC qual (defScope st) s.heap.objs.size f cdv)) → A.guards = some [] → sp vs H Q E →
      ∃ t, PSs (cxOf CX P w K mg base N qual (defScope st) f cdv A outer s H E) (defBody st) t ∧ t { nx := fun _ H' => FzS Q .non H', rt := FzS Q } (L2.start N vs) H) : FnG P w K mg base CX (k + 1) f fd ps sp := by
  obtain ⟨oc, od, kV, doc, pm, an, cdv, ct, osl, rfl, lk, hcd⟩ := F.ex
  constructor
  · exact len
  · intro A outer s H args us vs Q E hr hg e0 hb rv hsp
    have n1 := len _ _ _ _ hsp
    have inK : K.In s.heap := e0.mod.kin.keeps fun b o e => (e0.bs b o e).1
    have noL : s.heap.NoLimit := e0.mod.nolimit.keeps fun b o e => (e0.bs b o e).1
    have par : ∀ y ∈ ps.zip us, (defScope st).names.lookup y.1 = some .local ∨ ((defScope st).names.lookup y.1 = some .cell ∧ ((cellsFrom (s.heap.objs.size + 1) (defScope st).names []).lookup y.1).isSome = true) := by
      rintro ⟨n, v⟩ hy
      exact (S.par n (List.of_mem_zip hy).1).imp id fun q => ⟨q, PySem.W.cellsFrom_some _ _ _ (.inl q)⟩
    obtain ⟨t, ht, hq⟩ := body cdv A outer s H vs Q E (hr.deeper _) hg hsp
    apply codeAny_call_function hr.depth (inK _ _ lk) rfl S.co S.gen rfl (PySem.W.codeRec_of inK hcd)
    apply hb
    apply wpAny_newFunctionEnv_cells S.kind par
    rintro env rfl s1 x
    refine ⟨noL.keeps x.toInCall.keep, codeAny_func ?_⟩
    have J := inv_start (CX := CX) (E := E) S hr.hd e0 n1 rv x
    apply wpAny_mono (ht.run [] s1 (L2.start N vs) H _ J hq)
    · intro fl s' hs
      have fin : ∀ (σ' : L2.St) (H' : Hp) (v : V) (u : Value), Inv (cxOf CX P w K mg base N qual (defScope st) f cdv A outer s H E) [] σ' H' s' → RelV v u → FzS Q v H' → CE outer P w H s Q u s' :=
        fun σ' H' v u I r q => by
          obtain ⟨v, H', I, r, q⟩ := EP_fz ⟨v, H', I, r, q⟩
          exact ⟨v, H', I.os, I.bare, I.base, I.hok, r, q⟩
      cases fl with
      | ret u => obtain ⟨v, σ', H', I, r, q⟩ := hs; exact fin σ' H' v u I r q
      | next => obtain ⟨σ', H', I, q⟩ := hs; exact fin σ' H' .non .none I rfl q
      | brk => exact hs.choose_spec.choose_spec.2.elim
      | cont => exact hs.choose_spec.choose_spec.2.elim
    · exact fun e s' hs => hs
end
section
variable {X : Cx} {CX : CXT} {k : Nat} {f : Addr} {fd : FuncData} {ps : List Str} {sp : Sp} {E : L2.St → XK} {x : Str} {p pos : Pos} {e : Expr} {es : List Expr} {t : TA}
theorem run_G {pins : List (Addr × Obj)} {σ : L2.St} {H : Hp} {s : Shared} {Q : VK} {us : List Value} {vs : List V} (F : FnG X.prog X.w X.K X.mg X.base CX k f fd ps sp) (hr : Room k X.A) (hg : X.A.guards = some []) (hb : Binds X.K fd ps []) (hx : PassesAt CX X σ (E σ))
    (I : Inv X pins σ H s) (r : Vals vs us) (h : sp vs H Q (E σ)) : wpAny (model X.prog X.w) X.A (call (.ref f) us) (EP X pins σ Q) X.xe s := by
  have n1 : us.length = ps.length := r.length.symm.trans (F.len _ _ _ _ h)
  have b := hb s us I.kIn (by simpa using n1)
  simp only [List.append_nil] at b
  apply wpAny_call
  apply codeAny_mono (F.run X.A X.stack s H ⟨us, []⟩ us vs Q (E σ) hr hg I.env0 b r h)
  intro r s' hq
  cases r with
  | error e => exact hx pins H s e s' I hq
  | ok fl => cases fl with
    | ret u => exact I.after hq
    | _ => exact hq.elim
theorem pe_G (F : FnG X.prog X.w X.K X.mg X.base CX k f fd ps sp) (hr : Room k X.A) (hgd : X.A.guards = some []) (hg : Gl X x) (hm : X.mg x = some (.ref f)) (hk : PySem.W.keepIn X.K (.ref f) = true) (hb : Binds X.K fd ps []) (hx : ∀ σ, PassesAt CX X σ (E σ))
    (ha : PA X (e :: es) t) (hdb : (x == ("__debug__" : Str)) = false) (he : starEach (e :: es) X.env = (false, eval e X.env) :: starEach es X.env) (hpl : (backTo pos (starEach es X.env)).any (·.1) = false) : PE X (.Call (.Name x p) (e :: es) [] pos) (tCallS sp E t) := by
  constructor
  intro pins s σ H Q I h
  apply wpAny_Call_Name_kw
  apply ld_glob I hg hm _ hdb
  apply PySem.W.callWith_K (h₀ := X.base) I.ok.mod.kin hk _ he hpl
  apply thn (ha.run pos pins s σ H _ I h)
  rintro us s1 ⟨vs, H1, I1, r, q⟩
  exact ⟨I1.kIn, run_G F hr hgd hb (hx σ) I1 r q⟩
theorem pe_G0 (F : FnG X.prog X.w X.K X.mg X.base CX k f fd ps sp) (hr : Room k X.A) (hgd : X.A.guards = some []) (hg : Gl X x) (hm : X.mg x = some (.ref f)) (hk : PySem.W.keepIn X.K (.ref f) = true) (hb : Binds X.K fd ps []) (hx : ∀ σ, PassesAt CX X σ (E σ))
    (hdb : (x == ("__debug__" : Str)) = false) : PE X (.Call (.Name x p) [] [] pos) (tCallS sp E tNil) := by
  constructor
  intro pins s σ H Q I h
  apply wpAny_Call_Name_kw
  apply ld_glob I hg hm _ hdb
  exact PySem.W.callWith_K0 I.kIn hk (run_G (us := []) F hr hgd hb (hx σ) I .nil h)
end
end Py

namespace Py
open PySem PySem.Spec PyProof.Rows L2
section
variable (c : RC)
/-- what follows, told of the layer's values -/
def Fol (H : Hp) (Q : VK) (Qd : Dk) : Prop := ∀ d A' v H', Qd d A' → Mono H H' → RelA c A' H' → RelD c.K H' d v → Q v H'
def lR2 (r : D → D → AH → Dk → Prop) : R2 := fun x y H Q => ∃ A dx dy Qd, RelA c A H ∧ RelD c.K H dx x ∧ RelD c.K H dy y ∧ r dx dy A Qd ∧ Fol c H Q Qd
def lR1 (r : D → AH → Dk → Prop) : V → Hp → VK → Prop := fun x H Q => ∃ A dx Qd, RelA c A H ∧ RelD c.K H dx x ∧ r dx A Qd ∧ Fol c H Q Qd
def lRs (r : List D → AH → Dk → Prop) : List V → Hp → VK → Prop := fun xs H Q => ∃ A ds Qd, RelA c A H ∧ RelDs c.K H ds xs ∧ r ds A Qd ∧ Fol c H Q Qd
def lRm (r : D → List D → AH → Dk → Prop) : V → List V → Hp → VK → Prop := fun x xs H Q => ∃ A dx ds Qd, RelA c A H ∧ RelD c.K H dx x ∧ RelDs c.K H ds xs ∧ r dx ds A Qd ∧ Fol c H Q Qd
end
section
variable {c : RC} {X : Cx}
theorem Fol.here {H : Hp} {Q : VK} {Qd : Dk} {A : AH} {d : D} {v : V} (f : Fol c H Q Qd) (q : Qd d A) (ra : RelA c A H) (r : RelD c.K H d v) : Q v H := f d A v H q Mono.refl ra r
theorem Fol.lst {H : Hp} {Q : VK} {Qd : Dk} {A : AH} {ds : List D} {vs : List V} (f : Fol c H Q Qd) (q : allocL ds A Qd) (ra : RelA c A H) (r : RelDs c.K H ds vs) : ∀ p, H p = none → FzS Q (.ref p) (upd H p (.lst vs)) := fun p hp => by
  rw [allocL_eq] at q
  rcases q with q | q
  · refine .step (u := .lst vs) trivial upd_same fun o => .here ?_
    rw [upd_upd]
    have m := Mono.fresh (o := .frz o (.lst vs)) hp
    exact f (.fl ds) A _ _ q m (ra.aside hp) ⟨p, vs, rfl, .inl ⟨o, upd_same⟩, r.mono m⟩
  · have m := Mono.fresh (o := .lst vs) hp
    exact .here (f (.ref p) _ _ _ (q p (RelA_none ra hp)) m (ra.put m ⟨vs, upd_same, r.mono m⟩) rfl)
theorem Fol.dct {H : Hp} {Q : VK} {Qd : Dk} {A : AH} {kvs : List (Key × D)} {ws : List (Key × V)} (f : Fol c H Q Qd) (q : allocD kvs A Qd) (ra : RelA c A H) (r : RelKv c.K H kvs ws) : ∀ p, H p = none → FzS Q (.ref p) (upd H p (.dK ws)) := fun p hp => by
  rw [allocD_eq] at q
  rcases q with q | q
  · refine .step (u := .dK ws) trivial upd_same fun o => .here ?_
    rw [upd_upd]
    have m := Mono.fresh (o := .frz o (.dK ws)) hp
    exact f (.fd _ _) A _ _ q m (ra.aside hp) ⟨p, ws, rfl, ⟨o, upd_same⟩, r.keys, (r.mono m).vals⟩
  · have m := Mono.fresh (o := .dK ws) hp
    exact .here (f (.ref p) _ _ _ (q p (RelA_none ra hp)) m (ra.put m ⟨ws, upd_same, r.mono m⟩) rfl)
/-- a new tuple, locked as its object -/
def newT (vs : List V) (H : Hp) (Q : VK) : Prop := ∀ (p : Addr) (ob : Obj), H p = none → ob.dict = none ∧ ob.slots = #[] → Q (.ref p) (upd H p (.frz ob (.tup vs)))
theorem Fol.tup {H : Hp} {Q : VK} {Qd : Dk} {A : AH} {ds : List D} {vs : List V} (f : Fol c H Q Qd) (q : Qd (.tup ds) A) (ra : RelA c A H) (r : RelDs c.K H ds vs) : newT vs H Q := fun p ob hp hd =>
  have m := Mono.fresh (o := .frz ob (.tup vs)) hp
  f (.tup ds) A _ _ q m (ra.aside hp) ⟨p, vs, rfl, .inl ⟨ob, upd_same, hd⟩, r.mono m⟩
theorem laidT {pins : List (Addr × Obj)} {σ : L2.St} {H : Hp} {s : Shared} {t : Nat} {h : Heap} {xs : List V} {us : List Value} {Q : VK} (I : Inv X pins σ H { s with heap := h, toks := t }) (r : Vals xs us) (z : xs.length ≤ sizeLine) (q : newT xs H Q) :
    EP X pins σ Q (.ref h.objs.size) { s with heap := h.push { cls := .type "tuple", data := .seq us.toArray }, toks := t } := by
  refine ⟨.ref h.objs.size, upd H h.objs.size (.frz { cls := .type "tuple", data := .seq us.toArray } (.tup xs)), ?_, rfl, q _ _ (I.hok.fresh (Nat.le_refl _)) ⟨rfl, rfl⟩⟩
  exact I.laid (t' := t) (fun b ob q => Heap.get?_push_of_some _ q) (Nat.le_refl _) ⟨Heap.get?_push_size _ rfl, z, us, r, IsTup.new _ _⟩
/-- tuple + tuple -/
def rCatN (K : PySem.W.Frag) : R2 := fun x y H Q => ∃ a b xs ys, x = .ref a ∧ y = .ref b ∧ SqT K H a xs ∧ SqT K H b ys ∧ xs.length + ys.length ≤ sizeLine ∧
  (xs = [] → Q (.ref b) H) ∧ (xs ≠ [] → ys = [] → Q (.ref a) H) ∧ (xs ≠ [] → ys ≠ [] → newT (xs ++ ys) H Q)
theorem op_catN : OpR X (binaryOp .Add) (rCatN X.K) := by
  intro pins s σ H x y v u Q I rx ry h
  obtain ⟨a, b, xs, ys, rfl, rfl, ha, hb, hz, q0, q1, q2⟩ := h
  cases rx
  cases ry
  obtain ⟨its, r1, p1, _⟩ := I.tuple ha
  obtain ⟨its2, r2, p2, _⟩ := I.tuple hb
  by_cases hx : xs = []
  · subst hx
    cases r1
    exact cat_tup0 p1 p2 ⟨.ref b, H, I, rfl, q0 rfl⟩
  · refine HT.cat_tup p1 p2 (fun z => hx (r1.nil_iff.mp z)) (fun z => ⟨.ref a, H, I, rfl, q1 hx (r2.nil_iff.mp z)⟩) (fun z => ?_) (by rw [← r1.length, ← r2.length]; exact hz)
    exact laidT (h := s.heap) (t := s.toks) I (r1.append r2) (by rw [List.length_append]; exact hz) (q2 hx fun w => z (r2.nil_iff.mpr w))
/-- list + list -/
def rCatL (K : PySem.W.Frag) : R2 := fun x y H Q => ∃ a b xs ys, x = .ref a ∧ y = .ref b ∧ SqL K H a xs ∧ SqL K H b ys ∧ xs.length + ys.length ≤ sizeLine ∧ ∀ p, H p = none → Q (.ref p) (upd H p (.lst (xs ++ ys)))
theorem op_catL : OpR X (binaryOp .Add) (rCatL X.K) := by
  intro pins s σ H x y v u Q I rx ry h
  obtain ⟨a, b, xs, ys, rfl, rfl, ha, hb, hz, q⟩ := h
  cases rx
  cases ry
  obtain ⟨its, r1, ⟨o1, n1, e1, hc1, hd1, hs1⟩, z1⟩ := I.list ha
  obtain ⟨its2, r2, ⟨o2, n2, e2, hc2, hd2, hs2⟩, z2⟩ := I.list hb
  obtain ⟨cls, dd, data, sl⟩ := o1
  obtain ⟨cls2, dd2, data2, sl2⟩ := o2
  simp only at hc1 hd1 hs1 hc2 hd2 hs2
  subst hc1 hd1 hs1 hc2 hd2 hs2
  have e : its.toArray ++ its2.toArray = (its ++ its2).toArray := by simp
  refine concat_meets ⟨_, e1, rfl⟩ ⟨_, e2, rfl⟩ noFill_list_add seq_list_add PySem.F.slot_list_add PySem.F.entry_list_add (PySem.F.args_list_add_2 _ _) (list_addW a b its.toArray its2.toArray n1 n2 _ _ sl sl2 (by rw [List.size_toArray, List.size_toArray, ← r1.length, ← r2.length]; exact hz)) ⟨e1, e2, ?_⟩
  rw [e]
  exact ⟨.ref _, _, I.lnew (t' := s.toks) (r1.append r2) (by rw [List.length_append]; exact hz), rfl, q _ I.fresh⟩
theorem Rd_sql {K : PySem.W.Frag} {H : Hp} {a : Addr} {xs : List V} (h : Rd H a (.lst xs)) : SqL K H a xs := .inl h

/-! ### + - * // % ** -/
theorem d_add (hK : X.K = c.K) : OpR X (binaryOp .Add) (lR2 c (rBin .add)) := by
  refine OpR.imp (op_add.or (op_add_str.or (op_catN.or (OpR.fz op_catL)))) fun x y H Q h => ?_
  obtain ⟨A, dx, dy, Qd, ra, rx, ry, r, f⟩ := h
  have gen : (match lstD A dx, lstD A dy with
    | some xs, some ys => xs.length + ys.length ≤ sizeLine ∧ allocL (xs ++ ys) A Qd
    | _, _ => False) → (rCatL X.K) x y H (FzS Q) := fun r => by
    split at r
    · rename_i xs ys e1 e2
      obtain ⟨a, vs, rfl, h1, r1⟩ := lstD_rel ra rx e1
      obtain ⟨b, ws, rfl, h2, r2⟩ := lstD_rel ra ry e2
      exact ⟨a, b, vs, ws, rfl, rfl, by rw [hK]; exact h1, by rw [hK]; exact h2, by rw [r1.length, r2.length]; exact r.1, f.lst r.2 ra (r1.app r2)⟩
    · exact r.elim
  cases dx <;> cases dy <;> try exact .inr (.inr (.inr (gen r)))
  · exact .inl ⟨_, _, rx, ry, f.here r ra rfl⟩
  · exact .inr (.inl ⟨_, _, rx, ry, r.1, f.here r.2 ra rfl⟩)
  · rename_i xs ys
    obtain ⟨a, vs, rfl, h1, r1⟩ := rx
    obtain ⟨b, ws, rfl, h2, r2⟩ := ry
    refine .inr (.inr (.inl ⟨a, b, vs, ws, rfl, rfl, by rw [hK]; exact h1.sqt, by rw [hK]; exact h2.sqt, by rw [r1.length, r2.length]; exact r.1, fun e => ?_, fun e1 e2 => ?_, fun e1 e2 => ?_⟩))
    · subst e
      have e1 : xs = [] := by have := r1.length; exact List.length_eq_zero_iff.mp (by simpa using this.symm)
      subst e1
      exact f.here (d := .tup ([] ++ ys)) r.2 ra ⟨b, ws, rfl, h2, r2⟩
    · subst e2
      have e3 : ys = [] := by have := r2.length; exact List.length_eq_zero_iff.mp (by simpa using this.symm)
      subst e3
      exact f.here (d := .tup (xs ++ [])) r.2 ra ⟨a, vs, rfl, h1, by rw [List.append_nil]; exact r1⟩
    · exact f.tup r.2 ra (r1.app r2)
theorem d_sub : OpR X (binaryOp .Sub) (lR2 c (rBin .sub)) := by
  refine OpR.imp op_sub fun x y H Q h => ?_
  obtain ⟨A, dx, dy, Qd, ra, rx, ry, r, f⟩ := h
  cases dx <;> cases dy <;> try exact r.elim
  exact ⟨_, _, rx, ry, f.here r ra rfl⟩
theorem flat_rep {K : PySem.W.Frag} {H : Hp} {ds : List D} {vs : List V} (r : RelDs K H ds vs) : ∀ n, RelDs K H (List.replicate n ds).flatten (List.replicate n vs).flatten
  | 0 => rfl
  | n + 1 => by
    rw [List.replicate_succ, List.replicate_succ, List.flatten_cons, List.flatten_cons]
    exact r.app (flat_rep r n)
theorem d_mul : OpR X (binaryOp .Mult) (lR2 c (rBin .mul)) := by
  refine OpR.imp (op_mulW.or (OpR.fz op_rep)) fun x y H Q h => ?_
  obtain ⟨A, dx, dy, Qd, ra, rx, ry, r, f⟩ := h
  cases dx <;> cases dy <;> try exact r.elim
  · exact .inl ⟨_, _, rx, ry, r.1, f.here r.2 ra rfl⟩
  · rename_i a k
    unfold rBin at r
    dsimp only at r
    split at r
    · rename_i xs e1
      obtain ⟨vs, h1, r1⟩ := ra a _ e1
      obtain ⟨k0, k1, hz, q⟩ := r
      exact .inr ⟨a, k, vs, rx, ry, h1, by omega, by omega, by rw [r1.length]; exact hz, f.lst q ra (flat_rep r1 _)⟩
    · exact r.elim
theorem d_fdiv : OpR X (binaryOp .FloorDiv) (lR2 c (rBin .fdiv)) := by
  refine OpR.imp op_fdivW fun x y H Q h => ?_
  obtain ⟨A, dx, dy, Qd, ra, rx, ry, r, f⟩ := h
  cases dx <;> cases dy <;> try exact r.elim
  exact ⟨_, _, rx, ry, r.1, f.here r.2 ra rfl⟩
theorem d_mod : OpR X (binaryOp .Mod) (lR2 c (rBin .mod)) := by
  refine OpR.imp op_mod fun x y H Q h => ?_
  obtain ⟨A, dx, dy, Qd, ra, rx, ry, r, f⟩ := h
  cases dx <;> cases dy <;> try exact r.elim
  exact ⟨_, _, rx, ry, r.1, f.here r.2 ra rfl⟩
theorem op_powW : OpR X (binaryOp .Pow) (rI CPowW fun i j => .int (i ^ j.toNat)) := opI fun i j _ _ _ _ _ hc q => by
  obtain ⟨h0, h1, h2⟩ := hc
  refine pow_int h0 ?_ q
  have b : Builtin.Int.intBits i ≤ 10000 := by
    unfold Builtin.Int.intBits
    split <;> omega
  have h3 : (Builtin.Int.intBits i : Int) * j ≤ 10000 * j := Int.mul_le_mul_of_nonneg_right (by omega) h0
  omega
theorem d_pow : OpR X (binaryOp .Pow) (lR2 c (rBin .pow)) := by
  refine OpR.imp op_powW fun x y H Q h => ?_
  obtain ⟨A, dx, dy, Qd, ra, rx, ry, r, f⟩ := h
  cases dx <;> cases dy <;> try exact r.elim
  exact ⟨_, _, rx, ry, r.1, f.here r.2 ra rfl⟩
def bopOp : BOp → Operator | .add => .Add | .sub => .Sub | .mul => .Mult | .fdiv => .FloorDiv | .mod => .Mod | .pow => .Pow
theorem d_bin (hK : X.K = c.K) : ∀ o : BOp, OpR X (binaryOp (bopOp o)) (lR2 c (rBin o))
  | .add => d_add hK | .sub => d_sub | .mul => d_mul | .fdiv => d_fdiv | .mod => d_mod | .pow => d_pow

/-! ### comparisons -/
theorem snaps_of {A : AH} {H : Hp} {n : Nat} (ih : ∀ (d : D) (v : V) (p : PyData), RelD c.K H d v → snap A n d = some p → Dp c.K H v p) : ∀ (ds : List D) (vs : List V) (ps : List PyData), RelDs c.K H ds vs → allSome (ds.map (snap A n)) = some ps → DpAll c.K H vs ps
  | [], _, _, r, e => by cases (show _ = [] from r); simp only [List.map_nil, allSome] at e; cases e; exact .nil
  | d :: ds, _, _, ⟨v, w, ev, h, r⟩, e => by
    subst ev
    rw [List.map_cons] at e
    cases q1 : snap A n d with
    | none => rw [q1] at e; simp only [allSome] at e; cases e
    | some p =>
      rw [q1] at e
      simp only [allSome] at e
      cases q2 : allSome (ds.map (snap A n)) with
      | none => rw [q2] at e; cases e
      | some ps =>
        rw [q2] at e
        cases e
        exact .cons (ih d v p h q1) (snaps_of ih ds w ps r q2)
theorem snap_ok {A : AH} {H : Hp} (ra : RelA c A H) : ∀ (n : Nat) (d : D) (v : V) (p : PyData), RelD c.K H d v → snap A n d = some p → Dp c.K H v p
  | _, .non, _, _, r, e => by simp only [snap] at e; cases e; cases r; exact .non
  | _, .bl _, _, _, r, e => by simp only [snap] at e; cases e; cases r; exact .bl _
  | _, .int _, _, _, r, e => by simp only [snap] at e; cases e; cases r; exact .int _
  | _, .str _, _, _, r, e => by simp only [snap] at e; cases e; cases r; exact .str _
  | 0, .tup _, _, _, r, e => by simp only [snap] at e; cases e
  | 0, .ref _, _, _, r, e => by simp only [snap] at e; cases e
  | n + 1, .tup ds, _, _, ⟨a, vs, ev, h, r⟩, e => by
    simp only [snap] at e
    subst ev
    cases q : allSome (ds.map (snap A n)) with
    | none => rw [q] at e; cases e
    | some ps =>
      rw [q] at e
      cases e
      exact .tup h.sqt (snaps_of (snap_ok ra n) ds vs ps r q)
  | 0, .fl _, _, _, r, e => by simp only [snap] at e; cases e
  | 0, .fd _ _, _, _, r, e => by simp only [snap] at e; cases e
  | n + 1, .fd ks ds, _, _, r, e => by simp only [snap] at e; cases e
  | n + 1, .fl ds, _, _, ⟨a, vs, ev, h, r⟩, e => by
    simp only [snap] at e
    subst ev
    cases q : allSome (ds.map (snap A n)) with
    | none => rw [q] at e; cases e
    | some ps =>
      rw [q] at e
      cases e
      exact .lst h.sql (snaps_of (snap_ok ra n) ds vs ps r q)
  | n + 1, .ref a, _, _, r, e => by
    simp only [snap] at e
    cases r
    cases g : getL A a with
    | none => rw [g] at e; cases e
    | some ds =>
      rw [g] at e
      dsimp only at e
      cases q : allSome (ds.map (snap A n)) with
      | none => rw [q] at e; cases e
      | some ps =>
        rw [q] at e
        cases e
        obtain ⟨vs, h, r⟩ := getL_rel ra g
        exact .lst (Rd_sql h) (snaps_of (snap_ok ra n) ds vs ps r q)
theorem eqD_ok {A : AH} {H : Hp} {dx dy : D} {x y : V} {b : Bool} (ra : RelA c A H) (rx : RelD c.K H dx x) (ry : RelD c.K H dy y) (e : eqD A dx dy = some b) :
    (scal x y = true ∧ decide (x = y) = b) ∨ ∃ d e', Dp c.K H x d ∧ Dp c.K H y e' ∧ SeqAt.shaped d = true ∧ SeqAt.shaped e' = true ∧ PyData.eqv d e' = b := by
  unfold eqD at e
  split at e
  · cases rx
    cases ry
    cases e
    exact .inl ⟨rfl, by simp⟩
  · cases rx
    cases ry
    cases e
    exact .inl ⟨rfl, by simp⟩
  · split at e
    · rename_i p q hp hq
      split at e
      · rename_i hs
        cases e
        rw [Bool.and_eq_true] at hs
        exact .inr ⟨p, q, snap_ok ra _ _ _ _ rx hp, snap_ok ra _ _ _ _ ry hq, hs.1, hs.2, rfl⟩
      · cases e
    · cases e
theorem d_eq (hK : X.K = c.K) (hu : X.A.units + 64 < cLine) : OpR X (compareOp .Eq) (lR2 c (rCmp .eq)) := by
  refine OpR.imp (op_eq.or (op_eqD hu)) fun x y H Q h => ?_
  obtain ⟨A, dx, dy, Qd, ra, rx, ry, r, f⟩ := h
  unfold rCmp at r
  dsimp only at r
  split at r
  · rename_i b e
    rcases eqD_ok ra rx ry e with ⟨h1, h2⟩ | ⟨d, e', h1, h2, s1, s2, ev⟩
    · exact .inl ⟨h1, by rw [h2]; exact f.here r ra rfl⟩
    · rw [hK]
      exact .inr ⟨d, e', h1, h2, s1, s2, by rw [ev]; exact f.here r ra rfl⟩
  · exact r.elim
theorem d_ne (hK : X.K = c.K) (hu : X.A.units + 64 < cLine) : OpR X (compareOp .NotEq) (lR2 c (rCmp .ne)) := by
  refine OpR.imp (op_ne.or (op_neD hu)) fun x y H Q h => ?_
  obtain ⟨A, dx, dy, Qd, ra, rx, ry, r, f⟩ := h
  unfold rCmp at r
  dsimp only at r
  split at r
  · rename_i b e
    rcases eqD_ok ra rx ry e with ⟨h1, h2⟩ | ⟨d, e', h1, h2, s1, s2, ev⟩
    · exact .inl ⟨h1, by rw [h2]; exact f.here r ra rfl⟩
    · rw [hK]
      exact .inr ⟨d, e', h1, h2, s1, s2, by rw [ev]; exact f.here r ra rfl⟩
  · exact r.elim
theorem d_lt : OpR X (compareOp .Lt) (lR2 c (rCmp .lt)) := by
  refine OpR.imp op_lt fun x y H Q h => ?_
  obtain ⟨A, dx, dy, Qd, ra, rx, ry, r, f⟩ := h
  cases dx <;> cases dy <;> try exact r.elim
  exact ⟨_, _, rx, ry, f.here r ra rfl⟩
theorem d_le : OpR X (compareOp .LtE) (lR2 c (rCmp .le)) := by
  refine OpR.imp op_le fun x y H Q h => ?_
  obtain ⟨A, dx, dy, Qd, ra, rx, ry, r, f⟩ := h
  cases dx <;> cases dy <;> try exact r.elim
  exact ⟨_, _, rx, ry, f.here r ra rfl⟩
theorem d_gt : OpR X (compareOp .Gt) (lR2 c (rCmp .gt)) := by
  refine OpR.imp op_gt fun x y H Q h => ?_
  obtain ⟨A, dx, dy, Qd, ra, rx, ry, r, f⟩ := h
  cases dx <;> cases dy <;> try exact r.elim
  exact ⟨_, _, rx, ry, f.here r ra rfl⟩
theorem d_ge : OpR X (compareOp .GtE) (lR2 c (rCmp .ge)) := by
  refine OpR.imp op_ge fun x y H Q h => ?_
  obtain ⟨A, dx, dy, Qd, ra, rx, ry, r, f⟩ := h
  cases dx <;> cases dy <;> try exact r.elim
  exact ⟨_, _, rx, ry, f.here r ra rfl⟩
theorem non_iff {K : PySem.W.Frag} {H : Hp} {d : D} {x : V} (r : RelD K H d x) : decide (x = V.non) = (match d with | .non => true | _ => false) := by
  cases d with
  | tup ds => obtain ⟨a, vs, e, _⟩ := r; subst e; simp
  | fl ds => obtain ⟨a, vs, e, _⟩ := r; subst e; simp
  | fd ks ds => obtain ⟨a, vs, e, _⟩ := r; subst e; simp
  | _ => cases r; simp
theorem d_is : OpR X (compareOp .Is) (lR2 c (rCmp .is_)) := by
  refine OpR.imp op_isN fun x y H Q h => ?_
  obtain ⟨A, dx, dy, Qd, ra, rx, ry, r, f⟩ := h
  cases dy <;> try exact r.elim
  refine ⟨ry, ?_⟩
  rw [non_iff rx]
  refine f.here r ra ?_
  cases dx <;> rfl
theorem d_isn : OpR X (compareOp .IsNot) (lR2 c (rCmp .isn)) := by
  refine OpR.imp op_notN fun x y H Q h => ?_
  obtain ⟨A, dx, dy, Qd, ra, rx, ry, r, f⟩ := h
  cases dy <;> try exact r.elim
  refine ⟨ry, ?_⟩
  rw [non_iff rx]
  refine f.here r ra ?_
  cases dx <;> rfl
theorem flat_ok {K : PySem.W.Frag} {H : Hp} {d : D} {x : V} (r : RelD K H d x) (h : flatD d = true) : flatV x = true := by
  cases d <;> first | (cases r; rfl) | cases h
theorem flats_ok {K : PySem.W.Frag} {H : Hp} : ∀ {ds : List D} {xs : List V}, RelDs K H ds xs → ds.all flatD = true → xs.all flatV = true
  | [], _, r, _ => by cases (show _ = [] from r); rfl
  | d :: ds, _, ⟨v, w, e, h, r⟩, q => by
    subst e
    rw [List.all_cons, Bool.and_eq_true] at q ⊢
    exact ⟨flat_ok h q.1, flats_ok r q.2⟩
theorem eqF_ok {K : PySem.W.Frag} {H : Hp} {d e : D} {x y : V} (r : RelD K H d x) (q : RelD K H e y) (h : flatD d = true) (h2 : flatD e = true) : eqV x y = eqF d e := by
  cases d <;> first | (cases h; done) | (cases r; cases e <;> first | (cases h2; done) | (cases q; rfl))
theorem inF_ok {K : PySem.W.Frag} {H : Hp} {d : D} {x : V} (r : RelD K H d x) (h : flatD d = true) : ∀ {ds : List D} {xs : List V}, RelDs K H ds xs → ds.all flatD = true → inV x xs = inF d ds
  | [], _, q, _ => by cases (show _ = [] from q); rfl
  | e :: ds, _, ⟨v, w, ev, h1, q⟩, a => by
    subst ev
    rw [List.all_cons, Bool.and_eq_true] at a
    have ih := inF_ok r h q a.2
    unfold inV inF at *
    rw [List.any_cons, List.any_cons, ih, eqF_ok h1 r a.1 h]
theorem seq_ok {A : AH} {H : Hp} {d : D} {x : V} {ds : List D} (ra : RelA c A H) (r : RelD c.K H d x) (e : seqD A d = some ds) : ∃ p vs, x = .ref p ∧ (SqL c.K H p vs ∨ SqT c.K H p vs) ∧ RelDs c.K H ds vs := by
  cases d <;> first | (simp only [seqD] at e; cases e; done) | skip
  · simp only [seqD] at e
    cases e
    obtain ⟨a, vs, e, h, q⟩ := r
    exact ⟨a, vs, e, .inr h.sqt, q⟩
  · simp only [seqD] at e
    obtain ⟨vs, h, q⟩ := getL_rel ra e
    exact ⟨_, vs, r, .inl (Rd_sql h), q⟩
  · simp only [seqD] at e
    cases e
    obtain ⟨a, vs, e, h, q⟩ := r
    exact ⟨a, vs, e, .inl h.sql, q⟩
/-- k in a dict, by values -/
def rInD (neg : Bool) : R2 := fun y x H Q => ∃ a o, x = .ref a ∧ DGet H a y o ∧ Q (.bl (o.isSome != neg)) H
theorem op_inD (hu : X.A.units + 1 < cLine) : OpR X (compareOp .In) (rInD false) := by
  intro pins s σ H y x u v Q I ry rx h
  obtain ⟨a, o, rfl, g, q⟩ := h
  cases rx
  exact d_in hu I g ry fun s' I' => ⟨.bl _, H, I', rfl, by simpa using q⟩
theorem op_ninD (hu : X.A.units + 1 < cLine) : OpR X (compareOp .NotIn) (rInD true) := by
  intro pins s σ H y x u v Q I ry rx h
  obtain ⟨a, o, rfl, g, q⟩ := h
  cases rx
  exact d_notIn hu I g ry fun s' I' => ⟨.bl _, H, I', rfl, by simpa using q⟩
theorem dget_of {A : AH} {H : Hp} {d i : D} {x y : V} {kvs : List (Key × D)} {k : Key} (ra : RelA c A H) (rx : RelD c.K H d x) (ry : RelD c.K H i y) (h : mapD A d = some kvs) (hk : dkey i = some k) :
    ∃ a o, x = .ref a ∧ DGet H a y o ∧ ((lookK kvs k = none ∧ o = none) ∨ ∃ e v, lookK kvs k = some e ∧ o = some v ∧ RelD c.K H e v) := by
  obtain ⟨a, ws, rfl, hr, rk⟩ := mapD_rel ra rx h
  cases dkey_rel hk ry
  exact ⟨a, valV ws k, rfl, .inl ⟨ws, k, hr, rfl, rfl⟩, rk.look k⟩
theorem d_inO (hK : X.K = c.K) (hu : X.A.units + 64 < cLine) : OpR X (compareOp .In) (lR2 c (rCmp .in_)) := by
  refine OpR.imp (OpR.or op_in_seq (op_inD (by omega))) fun x y H Q h => ?_
  obtain ⟨A, dx, dy, Qd, ra, rx, ry, r, f⟩ := h
  unfold rCmp at r
  dsimp only at r
  split at r
  · rename_i kvs e
    split at r
    · rename_i k ek
      obtain ⟨a, o, e1, g, z⟩ := dget_of ra ry rx e ek
      refine .inr ⟨a, o, e1, g, ?_⟩
      have : o.isSome = (lookK kvs k).isSome := by rcases z with ⟨z1, z2⟩ | ⟨e, v, z1, z2, _⟩ <;> simp [z1, z2]
      rw [this]
      exact f.here r ra (by simp [RelD])
    · exact r.elim
  · split at r
    · rename_i ds e
      obtain ⟨p, vs, e1, h, q⟩ := seq_ok ra ry e
      rw [hK]
      refine .inl ⟨p, vs, e1, h, flat_ok rx r.1, flats_ok q r.2.1, ?_⟩
      rw [inF_ok rx r.1 q r.2.1]
      exact f.here r.2.2 ra rfl
    · exact r.elim
theorem d_ninO (hK : X.K = c.K) (hu : X.A.units + 64 < cLine) : OpR X (compareOp .NotIn) (lR2 c (rCmp .nin)) := by
  refine OpR.imp (OpR.or op_notIn_seq (op_ninD (by omega))) fun x y H Q h => ?_
  obtain ⟨A, dx, dy, Qd, ra, rx, ry, r, f⟩ := h
  unfold rCmp at r
  dsimp only at r
  split at r
  · rename_i kvs e
    split at r
    · rename_i k ek
      obtain ⟨a, o, e1, g, z⟩ := dget_of ra ry rx e ek
      refine .inr ⟨a, o, e1, g, ?_⟩
      have : o.isSome = (lookK kvs k).isSome := by rcases z with ⟨z1, z2⟩ | ⟨e, v, z1, z2, _⟩ <;> simp [z1, z2]
      rw [this]
      exact f.here r ra (by simp [RelD])
    · exact r.elim
  · split at r
    · rename_i ds e
      obtain ⟨p, vs, e1, h, q⟩ := seq_ok ra ry e
      rw [hK]
      refine .inl ⟨p, vs, e1, h, flat_ok rx r.1, flats_ok q r.2.1, ?_⟩
      rw [inF_ok rx r.1 q r.2.1]
      exact f.here r.2.2 ra rfl
    · exact r.elim
def copOp : COp → CmpOp | .eq => .Eq | .ne => .NotEq | .lt => .Lt | .le => .LtE | .gt => .Gt | .ge => .GtE | .is_ => .Is | .isn => .IsNot | .in_ => .In | .nin => .NotIn
theorem d_cmp (hK : X.K = c.K) (hu : X.A.units + 64 < cLine) : ∀ o : COp, OpR X (compareOp (copOp o)) (lR2 c (rCmp o))
  | .eq => d_eq hK hu | .ne => d_ne hK hu | .lt => d_lt | .le => d_le | .gt => d_gt | .ge => d_ge | .is_ => d_is | .isn => d_isn | .in_ => d_inO hK hu | .nin => d_ninO hK hu
end
end Py

namespace Py
open PySem PySem.Spec PyProof.Rows L2 SrtO
section
variable {prog : Program} {w : World} {A : Around} {E : Value → Shared → Prop} {s : Shared}
/-- what a fresh list holds that was filled with these -/
abbrev filled (h : Heap) (vs : List Value) : Heap := (h.push (seqObj "list" #[] 0)).update h.objs.size (Obj.mapSeq (· ++ vs.toArray))
theorem collect_tupleN {l : Addr} {vs : List Value} {Q : List Value → Shared → Prop} (hl : s.heap.IsTuple l vs.toArray) (h : Q vs { s with heap := filled s.heap vs }) (z : vs.length ≤ sizeLine) : wpAny (model prog w) A (collect (.ref l)) Q E s := by
  obtain ⟨o, ho, hc, n, hd⟩ := id hl
  unfold collect
  apply wpAny_bind
  apply wpAny_runValue
  apply codeAny_builtin entry_proto_collect'
  show wpAny _ _ (do again (.builtin "list.__iadd__" ⟨[← newList [], .ref l], []⟩)) _ _ s
  refine wpAny_bind (wpAny_newList ?_ (Nat.zero_le _))
  refine wpAny_pure ⟨Code.quiet_builtin _ (by decide +kernel), codeAny_builtin entry_list_iadd' ?_⟩
  show wpAny _ _ (Builtin.List.listExtendWith (.ref s.heap.objs.size) (.ref l) (.ref s.heap.objs.size)) _ _ { s with heap := s.heap.push (seqObj "list" #[] 0) }
  unfold Builtin.List.listExtendWith
  have h1 : (s.heap.push (seqObj "list" #[] 0)).get? l = some o := Heap.get?_push_of_some _ ho
  have h2 : (s.heap.push (seqObj "list" #[] 0)).get? s.heap.objs.size = some (seqObj "list" #[] 0) := Heap.get?_push_size _ rfl
  refine wpAny_bind (wpAny_typeOf (T := "tuple") ⟨o, h1, hc⟩ ?_)
  have t1 : (Value.type "tuple" == Value.type "tuple") = true := by rfl
  rw [if_pos (by simp)]
  apply wpAny_bind
  apply listItems_at h1 hd
  apply wpAny_bind
  apply listItems_at (xs := #[]) (n := 0) h2 rfl
  rw [if_neg (by simp)]
  apply wpAny_bind
  refine listUpdate_at (xs := #[]) (n := 0) h2 rfl ?_ (Nat.zero_le _) (by show (#[] ++ vs.toArray).size ≤ sizeLine + 1; simp; omega)
  apply wpAny_pure
  show wpAny (model prog w) A (do
      let o ← load s.heap.objs.size
      match o.data with
      | .seq xs _ => pure xs.toList
      | _ => unsupported "internal:collect") Q E { s with heap := filled s.heap vs }
  apply wpAny_bind
  apply wpAny_load (get?_update_seq h2 _)
  show wpAny _ _ (pure ((#[] : Array Value) ++ vs.toArray).toList) Q E _
  have e : ((#[] : Array Value) ++ vs.toArray).toList = vs := by simp
  rw [e]
  exact wpAny_pure h
theorem sorted_tupleN {l : Addr} {vs : List Value} {ltv : Value → Value → Bool} {Q : Value → Shared → Prop} (O : Swo ltv) (hl : s.heap.IsTuple l vs.toArray) (z : vs.length ≤ sizeLine)
    (hS : 2 ≤ vs.length → ∀ (h1 : Heap) (a : Addr), h1.get? a = some (seqObj "list" vs.toArray 0) → (∀ b o, s.heap.get? b = some o → b ≠ a ∧ h1.get? b = some o) → SortableO prog w A.in1.in1 { s with heap := h1 } a vs ltv)
    (h : ∀ out : List Value, Srtd ltv out → Stb ltv out vs → Q (.ref (s.heap.objs.size + 1)) { s with heap := sortedAll s.heap vs out.toArray }) : wpAny (model prog w) A (call (.builtin "sorted") [.ref l]) Q E s := by
  apply Calls.call_function_entry kind_sorted plain_sorted entry_sorted (args_sorted1 _)
  unfold Builtin.«sorted»
  refine wpAny_bind (m := checkCount "sorted" 1 1 _) (wpAny_pure ?_)
  apply wpAny_bind
  refine collect_tupleN hl ?_ z
  apply wpAny_bind
  refine wpAny_newList ?_ z
  have n1 : (filled s.heap vs).objs.size = s.heap.objs.size + 1 := by
    show ((s.heap.push (seqObj "list" #[] 0)).update _ _).objs.size = _
    rw [Heap.size_update, size_push']
  have at1 : ((filled s.heap vs).push (seqObj "list" vs.toArray 0)).get? (s.heap.objs.size + 1) = some (seqObj "list" vs.toArray 0) := by
    rw [← n1]
    exact Heap.get?_push_size _ rfl
  have kp : ∀ b o, s.heap.get? b = some o → b ≠ s.heap.objs.size + 1 ∧ ((filled s.heap vs).push (seqObj "list" vs.toArray 0)).get? b = some o := fun b o q => by
    have lt : b < s.heap.objs.size := Heap.lt_size q
    refine ⟨Nat.ne_of_lt (Nat.lt_succ_of_lt lt), Heap.get?_push_of_some _ ?_⟩
    show ((s.heap.push (seqObj "list" #[] 0)).update _ _).get? b = _
    rw [Heap.get?_update_ne _ _ _ _ (Nat.ne_of_lt lt)]
    exact Heap.get?_push_of_some _ q
  show wpAny _ _ _ _ _ { s with heap := (filled s.heap vs).push (seqObj "list" vs.toArray 0) }
  rw [n1]
  apply wpAny_bind
  apply wpAny_holding
  refine wpAny_call_entry slot_list_sort ⟨_, at1, rfl⟩ entry_list_sort ?_ (args_list_sort _)
  exact list_sort_ord O at1 z (fun h2 => hS h2 _ _ at1 kp) fun out h1 h2 => ⟨_, rfl, wpAny_pure ⟨_, rfl, h out h1 h2⟩⟩
end
/-- sorted(t), t a tuple of whole numbers -/
theorem cr_sortedTN {X : Cx} : CallR X (.builtin "sorted") (fun vs H Q => ∃ (a : Addr) (ns : List Int), vs = [V.ref a] ∧ SqT X.K H a (ns.map V.int) ∧ ∀ (ms : List Int) (p : Addr), ms.Perm ns → ms.Pairwise (· ≤ ·) → H p = none → Q (.ref p) (upd H p (.lst (ms.map V.int)))) := by
  intro pins s σ H vs us Q I r h
  obtain ⟨a, ns, rfl, hs, q⟩ := h
  obtain ⟨its, rv, hl, hz⟩ := I.tuple hs
  rw [Vals.ref1 r]
  have hi := rv.ints
  apply sorted_tupleN swo_int (show s.heap.IsTuple a its.toArray from hl) (by rw [← rv.length]; exact hz) (fun h2 _ _ _ _ => ints_sortable hi h2)
  intro out h1 h2
  obtain ⟨k1, k2, k3⟩ := ints_out hi h1 h2
  obtain ⟨ep, at1⟩ := PyProof.Rows.sortedAll_at s.heap its out.toArray
  have len : ((out.map iv).map V.int).length ≤ sizeLine := by
    have := k2.length_eq
    simp at this hz ⊢
    omega
  exact ⟨.ref _, upd H (s.heap.objs.size + 1) (.lst ((out.map iv).map V.int)), I.laid (t' := s.toks) (fun _ _ => PyProof.Rows.sortedAll_old) (Nat.le_succ _) ⟨len, out, ep, vals_of_ints k1, at1⟩, rfl, q _ _ k2 k3 (I.hok.fresh (Nat.le_succ _))⟩
end Py

namespace Py
open PySem PySem.Spec PyProof.Rows L2
section
variable {c : RC} {X : Cx}
/-- a slice of a tuple -/
def rSlN (K : PySem.W.Frag) : V → Option Int → Option Int → Hp → VK → Prop := fun x lo hi H Q => ∃ a xs, x = .ref a ∧ SqT K H a xs ∧
  (HT.sIx xs.length 0 lo = 0 ∧ HT.sIx xs.length xs.length hi = xs.length → Q (.ref a) H) ∧ (¬ (HT.sIx xs.length 0 lo = 0 ∧ HT.sIx xs.length xs.length hi = xs.length) → newT (cutV xs lo hi) H Q)
theorem sl_tupN : SlR X (rSlN X.K) := by
  intro pins s σ H x v vl vu lo hi sl Q I rx hs pl pu h
  obtain ⟨a, xs, rfl, hx, q1, q2⟩ := h
  cases rx
  obtain ⟨its, r, ht, hz⟩ := I.tuple hx
  have hlen : its.toArray.size = xs.length := by rw [List.size_toArray]; exact r.length.symm
  refine ⟨"tuple", _, PyProof.Rows.slot_tuple_getitem.lookup, ht.typeIs, ?_⟩
  by_cases hw : HT.sIx xs.length 0 lo = 0 ∧ HT.sIx xs.length xs.length hi = xs.length
  · exact getItem_tuple_whole ht hs pl pu (by rw [hlen]; exact hw) ⟨.ref a, H, I, rfl, q1 hw⟩
  · refine HT.getItem_tuple_cut ht hs pl pu (by rw [hlen]; exact hw) ?_ (by rw [hlen]; exact hz)
    rw [hlen]
    exact laidT (h := s.heap) (t := s.toks) I ((r.drop (HT.sIx xs.length 0 lo)).take (HT.sIx xs.length xs.length hi - HT.sIx xs.length 0 lo)) (Nat.le_trans (cutV_length xs lo hi) hz) (q2 hw)
theorem call_tupleN : CallR X (.type "tuple") (fun xs H Q => ∃ p ys, xs = [.ref p] ∧ ((SqL X.K H p ys ∧ newT ys H Q) ∨ (SqT X.K H p ys ∧ Q (.ref p) H))) := by
  intro pins s σ H xs us Q I r h
  obtain ⟨p, ys, rfl, h⟩ := h
  obtain ⟨u, rfl, rx⟩ := vals1 r
  cases rx
  rcases h with ⟨hq, q⟩ | ⟨hq, q⟩
  · obtain ⟨its, r', pl, hz⟩ := I.list hq
    have hlen := r'.length
    refine call_tuple_list pl.isList (fun h' kp => ?_) (by simp only [List.size_toArray] <;> omega)
    exact laidT (h := h') (t := s.toks) (I.kept kp) r' hz q
  · obtain ⟨its, r', pl, hz⟩ := I.tuple hq
    exact call_tuple_same pl ⟨.ref p, H, I, rfl, q⟩
theorem atI_ok {K : PySem.W.Frag} {H : Hp} {ds : List D} {vs : List V} {k : Int} {d : D} (r : RelDs K H ds vs) (h : atI ds k = some d) : ∃ v, atI vs k = some v ∧ RelD K H d v := by
  unfold atI at *
  rw [r.length]
  cases e : ixN ds.length k with
  | none => rw [e] at h; cases h
  | some j =>
    rw [e] at h
    exact r.get h
/-- d[k] by values -/
theorem ix_dict (hu : X.A.units + 1 < cLine) : IxR X (fun x y H Q => ∃ a v, x = .ref a ∧ DGet H a y (some v) ∧ Q v H) := by
  intro value slice pins s σ H x y u w Q I rx ry h hs
  obtain ⟨a, v, rfl, g, q⟩ := h
  cases rx
  exact tail_any (dict_typeIs I g) PySem.F.slot_dict_getitem.lookup (d_getItem hu I g ry fun w' s' I' rw' => ⟨v, H, I', rw', q⟩) hs
theorem d_idx (hK : X.K = c.K) (hu : X.A.units + 1 < cLine) : IxR X (lR2 c rIdx) := by
  refine IxR.imp (IxR.or ix_seq (ix_dict hu)) fun x y H Q h => ?_
  obtain ⟨A, dx, dy, Qd, ra, rx, ry, r, f⟩ := h
  unfold rIdx at r
  split at r
  · rename_i kvs e
    split at r
    · rename_i k ek
      obtain ⟨a, o, e1, g, z⟩ := dget_of ra rx ry e ek
      split at r
      · rename_i d ed
        rcases z with ⟨z1, _⟩ | ⟨e', v, z1, z2, rv⟩
        · rw [ed] at z1; cases z1
        · rw [ed] at z1
          cases z1
          subst z2
          exact .inr ⟨a, v, e1, g, f.here r ra rv⟩
      · exact r.elim
    · exact r.elim
  · split at r
    · cases ry
      split at r
      · rename_i ds e
        split at r
        · rename_i d e2
          obtain ⟨p, vs, e1, h, q⟩ := seq_ok ra rx e
          obtain ⟨v, hv, rv⟩ := atI_ok q e2
          rcases h with h | h
          · exact .inl (.inl ⟨p, vs, _, v, e1, rfl, by rw [hK]; exact h, hv, f.here r ra rv⟩)
          · exact .inl (.inr (.inl ⟨p, vs, _, v, e1, rfl, by rw [hK]; exact h, hv, f.here r ra rv⟩))
        · exact r.elim
      · exact r.elim
    · exact r.elim
def lRsl (c : RC) (r : D → Option Int → Option Int → AH → Dk → Prop) : V → Option Int → Option Int → Hp → VK → Prop := fun x lo hi H Q => ∃ A dx Qd, RelA c A H ∧ RelD c.K H dx x ∧ r dx lo hi A Qd ∧ Fol c H Q Qd
theorem cut_ok {K : PySem.W.Frag} {H : Hp} {ds : List D} {vs : List V} {lo hi : Option Int} (r : RelDs K H ds vs) : RelDs K H (cutD ds lo hi) (cutV vs lo hi) := by
  unfold cutD cutV
  rw [r.length]
  exact (r.drop _).take _
theorem d_slc (hK : X.K = c.K) : SlR X (lRsl c rSlc) := by
  refine SlR.imp (SlR.or (SlR.fz sl_list) sl_tupN) fun x lo hi H Q h => ?_
  obtain ⟨A, dx, Qd, ra, rx, r, f⟩ := h
  unfold rSlc at r
  split at r
  · rename_i ds
    obtain ⟨a, vs, e, h, q⟩ := rx
    refine .inr ⟨a, vs, e, by rw [hK]; exact h.sqt, fun hw => ?_, fun hw => f.tup r ra (cut_ok q)⟩
    have e2 : cutD ds lo hi = ds := by
      unfold cutD
      rw [q.length] at hw
      rw [hw.1, hw.2]
      simp
    refine f.here r ra ?_
    rw [e2]
    exact ⟨a, vs, rfl, h, q⟩
  · obtain ⟨a, vs, rfl, h, q⟩ := rx
    exact .inl ⟨a, vs, rfl, by rw [hK]; exact h.sql, f.lst r ra (cut_ok q)⟩
  · split at r
    · rename_i e
      obtain ⟨vs, h, q⟩ := getL_rel ra e
      exact .inl ⟨_, vs, rx, .inl h, f.lst r ra (cut_ok q)⟩
    · exact r.elim
  · exact r.elim
/-! ### built-in calls -/
theorem ints_ok {K : PySem.W.Frag} {H : Hp} : ∀ {ds : List D} {vs : List V} {ns : List Int}, RelDs K H ds vs → intsD ds = some ns → vs = ns.map V.int
  | [], _, _, r, e => by cases (show _ = [] from r); cases e; rfl
  | d :: ds, _, ns, ⟨v, w, ev, h, r⟩, e => by
    subst ev
    cases d <;> try (simp only [intsD] at e; cases e; done)
    rename_i i
    simp only [intsD] at e
    cases q : intsD ds with
    | none => rw [q] at e; cases e
    | some ms =>
      rw [q] at e
      cases e
      cases h
      rw [ints_ok r q]
      rfl
theorem bools_ok {K : PySem.W.Frag} {H : Hp} : ∀ {ds : List D} {vs : List V} {ns : List Bool}, RelDs K H ds vs → boolsD ds = some ns → vs = ns.map V.bl
  | [], _, _, r, e => by cases (show _ = [] from r); cases e; rfl
  | d :: ds, _, ns, ⟨v, w, ev, h, r⟩, e => by
    subst ev
    cases d <;> try (simp only [boolsD] at e; cases e; done)
    rename_i i
    simp only [boolsD] at e
    cases q : boolsD ds with
    | none => rw [q] at e; cases e
    | some ms =>
      rw [q] at e
      cases e
      cases h
      rw [bools_ok r q]
      rfl
theorem CallR.or {f : Value} {r r' : List V → Hp → VK → Prop} (h : CallR X f r) (h' : CallR X f r') : CallR X f (fun x H Q => r x H Q ∨ r' x H Q) := by
  intro pins s σ H xs us Q I r q
  rcases q with q | q
  · exact h pins s σ H xs us Q I r q
  · exact h' pins s σ H xs us Q I r q
theorem RelDs.nil_of {K : PySem.W.Frag} {H : Hp} {vs : List V} (r : RelDs K H [] vs) : vs = [] := r
theorem RelDs.one_of {K : PySem.W.Frag} {H : Hp} {d : D} {vs : List V} (r : RelDs K H [d] vs) : ∃ v, vs = [v] ∧ RelD K H d v := by
  obtain ⟨v, w, e, h, q⟩ := r
  cases q.nil_of
  exact ⟨v, e, h⟩
theorem RelDs.two_of {K : PySem.W.Frag} {H : Hp} {d e : D} {vs : List V} (r : RelDs K H [d, e] vs) : ∃ v w, vs = [v, w] ∧ RelD K H d v ∧ RelD K H e w := by
  obtain ⟨v, w, e, h, q⟩ := r
  obtain ⟨u, e2, h2⟩ := q.one_of
  subst e2
  exact ⟨v, u, e, h, h2⟩
theorem call_lenR : CallR X (.builtin "len") (fun xs H Q => ∃ a kvs, xs = [.ref a] ∧ Rd H a (.dK kvs) ∧ Q (.int kvs.length) H) := by
  intro pins s σ H xs us Q I r h
  obtain ⟨a, kvs, rfl, hr, q⟩ := h
  obtain ⟨u, rfl, rx⟩ := vals1 r
  cases rx
  exact d_len I hr fun t s' I' => ⟨.int _, H, I', ⟨t, rfl⟩, q⟩
theorem b_len (hK : X.K = c.K) : CallR X (.builtin "len") (lRs c (rB .len)) := by
  refine CallR.imp (call_len.or (call_lenD.or call_lenR)) fun xs H Q h => ?_
  obtain ⟨A, ds, Qd, ra, rx, r, f⟩ := h
  rcases ds with _ | ⟨d, _ | ⟨e, _⟩⟩
  · exact r.elim
  · obtain ⟨v, rfl, rv⟩ := rx.one_of
    cases d <;> try exact r.elim
    · cases rv
      exact .inl ⟨_, _, rfl, ⟨r.1, rfl⟩, f.here r.2 ra rfl⟩
    · obtain ⟨a, vs, rfl, h, q⟩ := rv
      exact .inl ⟨_, _, rfl, .inr ⟨vs, by rw [hK]; exact h.sqt, rfl⟩, f.here r ra (by rw [q.length]; rfl)⟩
    · cases rv
      simp only [rB] at r
      split at r
      · rename_i e
        obtain ⟨vs, h, q⟩ := ra _ _ e
        exact .inl ⟨_, _, rfl, .inl ⟨vs, .inl (.inl h), rfl⟩, f.here r ra (by rw [q.length]; rfl)⟩
      · rename_i e
        obtain ⟨vs, h, q⟩ := ra _ _ e
        exact .inr (.inl ⟨_, _, rfl, h, f.here r ra (by rw [RelKv.length q]; rfl)⟩)
      · exact r.elim
    · obtain ⟨a, vs, rfl, h, q⟩ := rv
      exact .inl ⟨_, _, rfl, .inl ⟨vs, by rw [hK]; exact h.sql, rfl⟩, f.here r ra (by rw [q.length]; rfl)⟩
    · obtain ⟨a, ws, rfl, ⟨o, h⟩, ek, q⟩ := rv
      subst ek
      exact .inr (.inr ⟨a, ws, rfl, .inr ⟨o, h⟩, f.here r ra (by show _ = _; simp)⟩)
  · cases d <;> exact r.elim
theorem b_int : CallR X (.type "int") (lRs c (rB .int)) := by
  refine CallR.imp call_int1 fun xs H Q h => ?_
  obtain ⟨A, ds, Qd, ra, rx, r, f⟩ := h
  rcases ds with _ | ⟨d, _ | ⟨e, _⟩⟩
  · exact r.elim
  · obtain ⟨v, rfl, rv⟩ := rx.one_of
    cases d <;> try exact r.elim
    · cases rv
      exact .inr ⟨_, rfl, f.here r ra rfl⟩
    · cases rv
      exact .inl ⟨_, rfl, f.here r ra rfl⟩
  · cases d <;> exact r.elim
theorem b_str : CallR X (.type "str") (lRs c (rB .str)) := by
  refine CallR.imp call_str_int fun xs H Q h => ?_
  obtain ⟨A, ds, Qd, ra, rx, r, f⟩ := h
  rcases ds with _ | ⟨d, _ | ⟨e, _⟩⟩
  · exact r.elim
  · obtain ⟨v, rfl, rv⟩ := rx.one_of
    cases d <;> try exact r.elim
    cases rv
    exact ⟨_, rfl, r.1, f.here r.2 ra rfl⟩
  · cases d <;> exact r.elim
/-- repr of plain data, where no __repr__ is under way -/
theorem call_reprD (hg : X.A.guards = some []) (hu : X.A.units + 66 < cLine) : CallR X (.builtin "repr") (fun xs H Q => ∃ x p, xs = [x] ∧ Dp X.K H x p ∧ p.showable = true ∧ p.hasDict = false ∧ p.depth ≤ 64 ∧ p.shown.length ≤ sizeLine ∧ Q (.str p.shown) H) := by
  intro pins s σ H xs us Q I r h
  obtain ⟨x, p, rfl, dp, h1, h2, h3, h4, q⟩ := h
  cases r with
  | cons ru rn =>
    rename_i u us
    cases rn
    obtain ⟨as, rd⟩ := Dp.reads I p x u dp ru
    have obj : ∀ a, u = .ref a → wpAny (model X.prog X.w) X.A (call (.builtin "repr") [u]) (EP X pins σ Q) X.xe s := fun a e => by
      subst e
      exact repr_of_reads' rd h1 (PyData.noDict_hsm h2) hg (by omega) (fun _ _ e => e) (fun h' u tk k => ⟨.str p.shown, H, I.kept k, ⟨u, rfl⟩, q⟩) h4
    cases dp with
    | non => cases (show u = Value.none from ru); exact PySem.P.repr_of_none ⟨.str _, H, I.tok _, ⟨_, rfl⟩, q⟩
    | bl b => cases (show u = Value.bool b from ru); exact PySem.P.repr_of_bool ⟨.str _, H, I.tok _, ⟨_, rfl⟩, q⟩
    | int i => obtain ⟨t, rfl⟩ := ru; exact PySem.P.repr_of_int (by simpa [PyData.showable] using h1) ⟨.str _, H, I.tok _, ⟨_, rfl⟩, q⟩
    | str y => obtain ⟨t, rfl⟩ := ru; exact PySem.P.repr_of_str ⟨.str _, H, I.tok _, ⟨_, rfl⟩, q⟩ h4
    | lst h1 _ => exact obj _ ru
    | tup h1 _ => exact obj _ ru
theorem b_repr (hK : X.K = c.K) (hg : X.A.guards = some []) (hu : X.A.units + 66 < cLine) : CallR X (.builtin "repr") (lRs c (rB .repr)) := by
  refine CallR.imp (CallR.or SkE.call_repr_int (call_reprD hg hu)) fun xs H Q h => ?_
  obtain ⟨A, ds, Qd, ra, rx, r, f⟩ := h
  rcases ds with _ | ⟨d, _ | ⟨e, _⟩⟩
  · exact r.elim
  · obtain ⟨v, rfl, rv⟩ := rx.one_of
    have gen : (match snap A 60 d with
        | some p => p.showable = true ∧ p.hasDict = false ∧ p.depth ≤ 64 ∧ p.shown.length ≤ sizeLine ∧ Qd (.str p.shown) A
        | none => False) → ∃ x p, [v] = [x] ∧ Dp X.K H x p ∧ p.showable = true ∧ p.hasDict = false ∧ p.depth ≤ 64 ∧ p.shown.length ≤ sizeLine ∧ Q (.str p.shown) H := fun z => by
      split at z
      · rename_i p e
        exact ⟨v, p, rfl, by rw [hK]; exact snap_ok ra 60 d v p rv e, z.1, z.2.1, z.2.2.1, z.2.2.2.1, f.here z.2.2.2.2 ra rfl⟩
      · exact z.elim
    cases d with
    | int i =>
      cases rv
      exact .inl ⟨_, rfl, r.1, f.here r.2 ra rfl⟩
    | _ => exact .inr (gen r)
  · cases d <;> exact r.elim
theorem ints_rel {K : PySem.W.Frag} {H : Hp} : ∀ ns : List Int, RelDs K H (ns.map .int) (ns.map V.int)
  | [] => rfl
  | n :: ns => ⟨_, _, rfl, rfl, ints_rel ns⟩
theorem getL_ints {A : AH} {H : Hp} {a : Addr} {ns : List Int} (ra : RelA c A H) (h : (getL A a).bind intsD = some ns) : SqL c.K H a (ns.map V.int) := by
  cases e : getL A a with
  | none => rw [e] at h; cases h
  | some ds =>
    rw [e] at h
    obtain ⟨vs, h1, q⟩ := getL_rel ra e
    cases ints_ok q h
    exact .inl h1
theorem lst_ints {A : AH} {H : Hp} {d : D} {x : V} {ns : List Int} (ra : RelA c A H) (rx : RelD c.K H d x) (h : (lstD A d).bind intsD = some ns) : ∃ a, x = .ref a ∧ SqL c.K H a (ns.map V.int) := by
  cases e : lstD A d with
  | none => rw [e] at h; cases h
  | some ds =>
    rw [e] at h
    obtain ⟨a, vs, rfl, h1, q⟩ := lstD_rel ra rx e
    cases ints_ok q h
    exact ⟨a, rfl, h1⟩
theorem seq_ints {A : AH} {H : Hp} {d : D} {x : V} {ns : List Int} (ra : RelA c A H) (rx : RelD c.K H d x) (h : (seqD A d).bind intsD = some ns) : ∃ a, x = .ref a ∧ (SqL c.K H a (ns.map V.int) ∨ SqT c.K H a (ns.map V.int)) := by
  cases e : seqD A d with
  | none => rw [e] at h; cases h
  | some ds =>
    rw [e] at h
    obtain ⟨a, vs, rfl, h1, q⟩ := seq_ok ra rx e
    cases ints_ok q h
    exact ⟨a, rfl, h1⟩
theorem lst_bools {A : AH} {H : Hp} {d : D} {x : V} {ns : List Bool} (ra : RelA c A H) (rx : RelD c.K H d x) (h : (lstD A d).bind boolsD = some ns) : ∃ a, x = .ref a ∧ SqL c.K H a (ns.map V.bl) := by
  cases e : lstD A d with
  | none => rw [e] at h; cases h
  | some ds =>
    rw [e] at h
    obtain ⟨a, vs, rfl, h1, q⟩ := lstD_rel ra rx e
    cases bools_ok q h
    exact ⟨a, rfl, h1⟩
theorem getL_bools {A : AH} {H : Hp} {a : Addr} {ns : List Bool} (ra : RelA c A H) (h : (getL A a).bind boolsD = some ns) : SqL c.K H a (ns.map V.bl) := by
  cases e : getL A a with
  | none => rw [e] at h; cases h
  | some ds =>
    rw [e] at h
    obtain ⟨vs, h1, q⟩ := getL_rel ra e
    cases bools_ok q h
    exact .inl h1
theorem sortI_eq {ns ms : List Int} (h : ms.Perm ns) (s : ms.Pairwise (· ≤ ·)) : ms = sortI ns := by
  refine List.Perm.eq_of_pairwise (le := fun a b : Int => a ≤ b) (fun a b _ _ h1 h2 => Int.le_antisymm h1 h2) s ?_ (h.trans (List.mergeSort_perm _ _).symm)
  have q := List.pairwise_mergeSort (le := fun a b : Int => decide (a ≤ b)) (fun a b c h1 h2 => by simp at *; omega) (fun a b => by simp; omega) ns
  exact q.imp fun h => by simpa using h
theorem foldl_max {r : List Int} : ∀ {x : Int}, (r.foldl max x ∈ x :: r) ∧ ∀ y ∈ x :: r, y ≤ r.foldl max x := by
  induction r with
  | nil => intro x; simp
  | cons b r ih =>
    intro x
    obtain ⟨h1, h2⟩ := ih (x := max x b)
    rw [List.foldl_cons]
    refine ⟨?_, fun y hy => ?_⟩
    · rcases List.mem_cons.mp h1 with e | e
      · rw [e]
        rcases (by omega : max x b = x ∨ max x b = b) with q | q <;> rw [q] <;> simp
      · exact List.mem_cons_of_mem _ (List.mem_cons_of_mem _ e)
    · have h3 := h2 (max x b) List.mem_cons_self
      rcases List.mem_cons.mp hy with e | e
      · omega
      · rcases List.mem_cons.mp e with e | e
        · omega
        · exact h2 y (List.mem_cons_of_mem _ e)
theorem foldl_min {r : List Int} : ∀ {x : Int}, (r.foldl min x ∈ x :: r) ∧ ∀ y ∈ x :: r, r.foldl min x ≤ y := by
  induction r with
  | nil => intro x; simp
  | cons b r ih =>
    intro x
    obtain ⟨h1, h2⟩ := ih (x := min x b)
    rw [List.foldl_cons]
    refine ⟨?_, fun y hy => ?_⟩
    · rcases List.mem_cons.mp h1 with e | e
      · rw [e]
        rcases (by omega : min x b = x ∨ min x b = b) with q | q <;> rw [q] <;> simp
      · exact List.mem_cons_of_mem _ (List.mem_cons_of_mem _ e)
    · have h3 := h2 (min x b) List.mem_cons_self
      rcases List.mem_cons.mp hy with e | e
      · omega
      · rcases List.mem_cons.mp e with e | e
        · omega
        · exact h2 y (List.mem_cons_of_mem _ e)
theorem maxI_eq {ns : List Int} {m : Int} (h : m ∈ ns) (k : ∀ y ∈ ns, y ≤ m) : m = maxI ns := by
  cases ns with
  | nil => cases h
  | cons x r =>
    obtain ⟨h1, h2⟩ := foldl_max (r := r) (x := x)
    exact Int.le_antisymm (h2 m h) (k _ h1)
theorem minI_eq {ns : List Int} {m : Int} (h : m ∈ ns) (k : ∀ y ∈ ns, m ≤ y) : m = minI ns := by
  cases ns with
  | nil => cases h
  | cons x r =>
    obtain ⟨h1, h2⟩ := foldl_min (r := r) (x := x)
    exact Int.le_antisymm (k _ h1) (h2 m h)
theorem b_max (hc : X.calm = true) (hK : X.K = c.K) : CallR X (.builtin "max") (lRs c (rB .max)) := by
  refine CallR.imp (CallR.or (call_max2 hc) (cr_max hc)) fun xs H Q h => ?_
  obtain ⟨A, ds, Qd, ra, rx, r, f⟩ := h
  rcases ds with _ | ⟨d, _ | ⟨e, _ | _⟩⟩
  · exact r.elim
  · obtain ⟨v, rfl, rv⟩ := rx.one_of
    have r : (match (lstD A d).bind intsD with
      | some ns => 0 < ns.length ∧ Qd (.int (maxI ns)) A
      | none => False) := by cases d <;> exact r
    split at r
    · rename_i ns e
      obtain ⟨a, rfl, h⟩ := lst_ints ra rv e
      exact .inr ⟨_, ns, rfl, by rw [hK]; exact h, r.1, fun m h1 h2 => f.here r.2 ra (by rw [maxI_eq h1 h2]; rfl)⟩
    · exact r.elim
  · obtain ⟨v, w, rfl, rv, rw'⟩ := rx.two_of
    cases d <;> cases e <;> try exact r.elim
    cases rv
    cases rw'
    exact .inl ⟨_, _, rfl, f.here r ra rfl⟩
  · cases d <;> cases e <;> exact r.elim
theorem b_min (hc : X.calm = true) (hK : X.K = c.K) : CallR X (.builtin "min") (lRs c (rB .min)) := by
  refine CallR.imp (CallR.or (call_min2 hc) (cr_min hc)) fun xs H Q h => ?_
  obtain ⟨A, ds, Qd, ra, rx, r, f⟩ := h
  rcases ds with _ | ⟨d, _ | ⟨e, _ | _⟩⟩
  · exact r.elim
  · obtain ⟨v, rfl, rv⟩ := rx.one_of
    have r : (match (lstD A d).bind intsD with
      | some ns => 0 < ns.length ∧ Qd (.int (minI ns)) A
      | none => False) := by cases d <;> exact r
    split at r
    · rename_i ns e
      obtain ⟨a, rfl, h⟩ := lst_ints ra rv e
      exact .inr ⟨_, ns, rfl, by rw [hK]; exact h, r.1, fun m h1 h2 => f.here r.2 ra (by rw [minI_eq h1 h2]; rfl)⟩
    · exact r.elim
  · obtain ⟨v, w, rfl, rv, rw'⟩ := rx.two_of
    cases d <;> cases e <;> try exact r.elim
    cases rv
    cases rw'
    exact .inl ⟨_, _, rfl, f.here r ra rfl⟩
  · cases d <;> cases e <;> exact r.elim
theorem keys_ints : ∀ {kvs : List (Key × D)} {ns : List Int}, intsD (kvs.map fun p => keyD p.1) = some ns → kvs.map (·.1) = ns.map Sum.inl
  | [], ns, e => by cases e; rfl
  | (.inl i, d) :: r, ns, e => by
    have e : (intsD (r.map fun p => keyD p.1)).map (i :: ·) = some ns := e
    cases q : intsD (r.map fun p => keyD p.1) with
    | none => rw [q] at e; cases e
    | some ms =>
      rw [q] at e
      cases e
      rw [List.map_cons, keys_ints q]
      rfl
  | (.inr x, d) :: r, ns, e => by cases (show none = some ns from e)
theorem keysD_rel {K : PySem.W.Frag} {H : Hp} : ∀ ks : List Key, RelDs K H (ks.map keyD) (ks.map kV)
  | [] => rfl
  | k :: ks => ⟨_, _, rfl, keyD_rel k, keysD_rel ks⟩
/-- list(d) of a dict that is read -/
theorem call_listR (hc : X.calm = true) : CallR X (.type "list") (fun xs H Q => ∃ p kvs, xs = [.ref p] ∧ Rd H p (.dK kvs) ∧ ∀ q, H q = none → Q (.ref q) (upd H q (.lst (kvs.map fun kv => kV kv.1)))) := by
  intro pins s σ H xs us Q I r h
  obtain ⟨p, kvs, e, hk, q⟩ := h
  subst e
  obtain ⟨u, eu, rx⟩ := vals1 r
  subst eu
  obtain rfl : u = Value.ref p := rx
  obtain ⟨z, lo, vs, rk, hd⟩ := dk_rd I.hok hk
  obtain ⟨ep, hat⟩ := hd.dictAt
  have hl : kvs.length = vs.length := Paired.length rk
  refine PySem.W.kdl_call (PySem.W.kdl_dict (knd := mixKind X.prog X.w) (kvs := vs) (ep := ep) lo) (I.ok.hd hc) hat (by rw [← hl]; exact z) fun h' tk acc' c' hkeep hS hacc => ?_
  refine ⟨.ref s.heap.objs.size, upd H s.heap.objs.size (.lst (kvs.map fun kv => kV kv.1)), I.laid hkeep (Nat.le_refl _) (show ObjOk X.prog X.w _ _ _ (.lst (kvs.map fun kv => kV kv.1)) from ⟨?_, acc'.toList, c', ?_, ?_⟩), rfl, q _ (I.hok.fresh (Nat.le_refl _))⟩
  · rw [List.length_map]; exact z
  · have el : acc'.toList.length = acc'.size := by simp
    refine vals_of_at (by rw [List.length_map, el, hacc.1, hl]) fun j x w h1 h2 => ?_
    obtain ⟨k, y, hky, hi⟩ := hacc.2 j w (by rw [← Array.getElem?_toList]; exact h2)
    have e1 : (kvs.map (·.1))[j]? = some k := by
      rw [KV.keys rk, List.getElem?_map, hky] <;> rfl
    have e2 : (kvs.map fun kv => kV kv.1)[j]? = some (kV k) := by
      have e3 : (kvs.map fun kv => kV kv.1) = (kvs.map (·.1)).map kV := by rw [List.map_map] <;> rfl
      rw [e3, List.getElem?_map, e1] <;> rfl
    rw [e2] at h1
    cases h1
    exact keyIs_rel hi
  · rw [Array.toArray_toList]; exact hS
theorem b_sorted (hc : X.calm = true) (hK : X.K = c.K) : CallR X (.builtin "sorted") (lRs c (rB .sorted)) := by
  refine CallR.imp (CallR.or (CallR.fz cr_sortedI) (CallR.or (CallR.fz cr_sortedTN) (CallR.fz (call_sortedDI hc)))) fun xs H Q h => ?_
  obtain ⟨A, ds, Qd, ra, rx, r, f⟩ := h
  rcases ds with _ | ⟨d, _ | ⟨e, _⟩⟩ <;> try exact r.elim
  obtain ⟨v, rfl, rv⟩ := rx.one_of
  simp only [rB] at r
  split at r
  · rename_i kvs e
    split at r
    · rename_i ns en
      obtain ⟨a, ws, rfl, hr, rk⟩ := mapD_rel ra rv e
      have ek : ws.map (·.1) = ns.map Sum.inl := by
        rw [rk.keys]
        exact keys_ints en
      refine .inr (.inr ⟨a, ws, ns, rfl, hr, ek, r.1, fun ms p h1 h2 hp => ?_⟩)
      rw [sortI_eq h1 h2]
      exact f.lst r.2 ra (ints_rel _) p hp
    · exact r.elim
  · split at r
    · rename_i ns e
      obtain ⟨a, rfl, h⟩ := seq_ints ra rv e
      rcases h with h | h
      · refine .inl ⟨a, ns, rfl, by rw [hK]; exact h, fun ms p h1 h2 hp => ?_⟩
        rw [sortI_eq h1 h2]
        exact f.lst r ra (ints_rel _) p hp
      · refine .inr (.inl ⟨a, ns, rfl, by rw [hK]; exact h, fun ms p h1 h2 hp => ?_⟩)
        rw [sortI_eq h1 h2]
        exact f.lst r ra (ints_rel _) p hp
    · exact r.elim
theorem b_all (hc : X.calm = true) (hK : X.K = c.K) : CallR X (.builtin "all") (lRs c (rB .all)) := by
  refine CallR.imp (cr_all hc) fun xs H Q h => ?_
  obtain ⟨A, ds, Qd, ra, rx, r, f⟩ := h
  rcases ds with _ | ⟨d, _ | ⟨e, _⟩⟩ <;> try exact r.elim
  obtain ⟨v, rfl, rv⟩ := rx.one_of
  simp only [rB] at r
  split at r
  · rename_i bs e
    obtain ⟨a, rfl, h⟩ := lst_bools ra rv e
    exact ⟨_, bs, rfl, by rw [hK]; exact h, f.here r ra rfl⟩
  · exact r.elim
theorem b_any (hc : X.calm = true) (hK : X.K = c.K) : CallR X (.builtin "any") (lRs c (rB .any)) := by
  refine CallR.imp (cr_any hc) fun xs H Q h => ?_
  obtain ⟨A, ds, Qd, ra, rx, r, f⟩ := h
  rcases ds with _ | ⟨d, _ | ⟨e, _⟩⟩ <;> try exact r.elim
  obtain ⟨v, rfl, rv⟩ := rx.one_of
  simp only [rB] at r
  split at r
  · rename_i bs e
    obtain ⟨a, rfl, h⟩ := lst_bools ra rv e
    exact ⟨_, bs, rfl, by rw [hK]; exact h, f.here r ra rfl⟩
  · exact r.elim
theorem b_sum (hc : X.calm = true) (hK : X.K = c.K) : CallR X (.builtin "sum") (lRs c (rB .sum)) := by
  refine CallR.imp (cr_sum hc) fun xs H Q h => ?_
  obtain ⟨A, ds, Qd, ra, rx, r, f⟩ := h
  rcases ds with _ | ⟨d, _ | ⟨e, _⟩⟩ <;> try exact r.elim
  obtain ⟨v, rfl, rv⟩ := rx.one_of
  simp only [rB] at r
  split at r
  · rename_i bs e
    obtain ⟨a, rfl, h⟩ := lst_ints ra rv e
    exact ⟨_, bs, rfl, by rw [hK]; exact h, f.here r ra rfl⟩
  · exact r.elim
theorem b_tuple (hK : X.K = c.K) : CallR X (.type "tuple") (lRs c (rB .tuple)) := by
  refine CallR.imp call_tupleN fun xs H Q h => ?_
  obtain ⟨A, ds, Qd, ra, rx, r, f⟩ := h
  rcases ds with _ | ⟨d, _ | ⟨e, _⟩⟩
  · exact r.elim
  · obtain ⟨v, rfl, rv⟩ := rx.one_of
    cases d with
    | tup es =>
      obtain ⟨a, vs, rfl, h, q⟩ := rv
      exact ⟨a, vs, rfl, .inr ⟨by rw [hK]; exact h.sqt, f.here r ra ⟨a, vs, rfl, h, q⟩⟩⟩
    | _ =>
      simp only [rB] at r
      split at r
      · rename_i e
        obtain ⟨a, vs, rfl, h, q⟩ := lstD_rel ra rv e
        exact ⟨a, vs, rfl, .inl ⟨by rw [hK]; exact h, f.tup r ra q⟩⟩
      · exact r.elim
  · cases d <;> exact r.elim
theorem b_list (hc : X.calm = true) (hK : X.K = c.K) : CallR X (.type "list") (lRs c (rB .list)) := by
  refine CallR.imp (CallR.or (CallR.fz call_list_of) (CallR.fz (call_listR hc))) fun xs H Q h => ?_
  obtain ⟨A, ds, Qd, ra, rx, r, f⟩ := h
  rcases ds with _ | ⟨d, _ | ⟨e, _⟩⟩ <;> try exact r.elim
  obtain ⟨v, rfl, rv⟩ := rx.one_of
  simp only [rB] at r
  split at r
  · rename_i kvs e
    obtain ⟨a, ws, rfl, hr, rk⟩ := mapD_rel ra rv e
    refine .inr ⟨a, ws, rfl, hr, f.lst r ra ?_⟩
    have : (ws.map fun q => kV q.1) = (kvs.map (·.1)).map kV := by rw [← rk.keys, List.map_map]; rfl
    rw [this]
    have e3 : (kvs.map fun p => keyD p.1) = (kvs.map (·.1)).map keyD := by rw [List.map_map]; rfl
    rw [e3]
    exact keysD_rel _
  · split at r
    · rename_i e
      obtain ⟨a, vs, rfl, h, q⟩ := seq_ok ra rv e
      exact .inl ⟨a, vs, rfl, by rw [hK]; exact h, f.lst r ra q⟩
    · exact r.elim

/-! ### methods -/
theorem MtR.or {f : String} {r r' : V → List V → Hp → VK → Prop} (h : MtR X f r) (h' : MtR X f r') : MtR X f (fun o x H Q => r o x H Q ∨ r' o x H Q) := by
  intro pins s σ H o xs ov us Q I ro rx q
  rcases q with q | q
  · exact h pins s σ H o xs ov us Q I ro rx q
  · exact h' pins s σ H o xs ov us Q I ro rx q
theorem Mono.lst {H : Hp} {a : Addr} {vs : List V} {o : HO} (h : H a = some (.lst vs)) : Mono H (L2.upd H a o) := Mono.at h fun _ _ z => nomatch z
theorem Fol.wr {H : Hp} {Q : VK} {Qd : Dk} {A : AH} {d : D} {v : V} {a : Addr} {ds : List D} {vs ws : List V} (f : Fol c H Q Qd) (q : Qd d (put A a (.lst ds))) (ra : RelA c A H) (h : H a = some (.lst ws)) (rd : RelD c.K H d v) (r : RelDs c.K H ds vs) : Q v (upd H a (.lst vs)) :=
  have m := Mono.lst (o := .lst vs) h
  f d _ v _ q m (ra.put m ⟨vs, upd_same, r.mono m⟩) (RelD.mono m _ _ rd)
def lRl (c : RC) (r : Addr → List D → List D → AH → Dk → Prop) : V → List V → Hp → VK → Prop := fun x xs H Q => ∃ A a es ds Qd, RelA c A H ∧ x = .ref a ∧ A a = some (.lst es) ∧ RelDs c.K H ds xs ∧ r a es ds A Qd ∧ Fol c H Q Qd
def lRt (c : RC) (r : List D → List D → AH → Dk → Prop) : V → List V → Hp → VK → Prop := fun x xs H Q => ∃ A es ds Qd, RelA c A H ∧ RelD c.K H (.tup es) x ∧ RelDs c.K H ds xs ∧ r es ds A Qd ∧ Fol c H Q Qd
theorem m_append : MtR X "list.append" (lRl c (rML .append)) := by
  refine MtR.imp mt_append fun o xs H Q h => ?_
  obtain ⟨A, a, es, ds, Qd, ra, rfl, e, rx, r, f⟩ := h
  obtain ⟨vs, h, q⟩ := ra _ _ e
  rcases ds with _ | ⟨d, _ | ⟨e, _⟩⟩ <;> try exact r.elim
  obtain ⟨v, rfl, rv⟩ := rx.one_of
  exact ⟨_, vs, v, rfl, rfl, h, by rw [q.length]; exact r.1, f.wr (d := .non) r.2 ra h rfl (q.app (.one rv))⟩
theorem dropLast_ok {K : PySem.W.Frag} {H : Hp} {ds : List D} {vs : List V} (r : RelDs K H ds vs) : RelDs K H ds.dropLast vs.dropLast := by
  rw [List.dropLast_eq_take, List.dropLast_eq_take, r.length]
  exact r.take _
theorem m_pop : MtR X "list.pop" (lRl c (rML .pop)) := by
  refine MtR.imp (MtR.or mt_pop mt_popAt) fun o xs H Q h => ?_
  obtain ⟨A, a, es, ds, Qd, ra, rfl, e, rx, r, f⟩ := h
  obtain ⟨vs, h, q⟩ := ra _ _ e
  rcases ds with _ | ⟨d, _ | ⟨e, _⟩⟩
  · cases rx.nil_of
    simp only [rML] at r
    split at r
    · rename_i d e2
      obtain ⟨v, hv, rv⟩ := q.get e2
      exact .inl ⟨_, vs, v, rfl, rfl, h, by rw [q.length]; exact hv, f.wr r ra h rv (dropLast_ok q)⟩
    · exact r.elim
  · obtain ⟨v, rfl, rv⟩ := rx.one_of
    cases d <;> try exact r.elim
    cases rv
    rename_i i
    simp only [rML] at r
    obtain ⟨h0, h1, r⟩ := r
    split at r
    · rename_i d e2
      obtain ⟨v, hv, rv⟩ := q.get e2
      have hl : i.toNat < vs.length := (List.getElem?_eq_some_iff.mp hv).1
      exact .inr ⟨_, vs, i, i.toNat, v, rfl, rfl, h, by omega, by omega, PySem.StrLaws.seqIndex_nonneg h0 (by omega), hv, f.wr r ra h rv (q.erase _)⟩
    · exact r.elim
  · cases d <;> exact r.elim
/-- xs.extend(t), t a tuple locked as its object -/
theorem mt_extendT : MtR X "list.extend" (fun x vs H Q => ∃ l b xs zs o, x = .ref l ∧ vs = [.ref b] ∧ H l = some (.lst xs) ∧ ((H b = some (.frz o (.tup zs)) ∧ o.dict = none ∧ o.slots = #[]) ∨ ∃ (its : Array Value) (n : Nat), X.K.lookup b = some o ∧ o.cls = .type "tuple" ∧ (o.dict = none ∧ o.slots = #[]) ∧ o.data = .seq its n ∧ its.size ≤ sizeLine ∧ Vals zs its.toList) ∧ xs.length + zs.length ≤ sizeLine ∧ Q .non (upd H l (.lst (xs ++ zs)))) := by
  intro pins s σ H x vs v us Q I rx rv h
  obtain ⟨l, b, xs, zs, o, rfl, rfl, hH, hB, hz, q⟩ := h
  cases rx
  obtain ⟨u, rfl, ru⟩ := vals1 rv
  cases ru
  obtain ⟨z, its, n, r, hl, e⟩ := I.lstM hH
  obtain ⟨its2, n2, r2, e2⟩ : ∃ (its2 : List Value) (n2 : Nat), Vals zs its2 ∧ s.heap.get? b = some { cls := .type "tuple", dict := none, data := .seq its2.toArray n2, slots := #[] } := by
    rcases hB with ⟨hB, d1, d2⟩ | ⟨ar, n2, k1, k2, ⟨d1, d2⟩, k3, k4, k5⟩
    · obtain ⟨g1, g2, its2, r2, o', g3, g4, n2, g5⟩ := I.hok b _ hB
      rw [g1] at g3
      cases g3
      refine ⟨its2, n2, r2, ?_⟩
      rw [g1]
      obtain ⟨c1, c2, c3, c4⟩ := o
      subst d1 d2 g4 g5
      rfl
    · refine ⟨ar.toList, n2, k5, ?_⟩
      rw [I.kIn b o k1]
      obtain ⟨c1, c2, c3, c4⟩ := o
      subst d1 d2 k2 k3
      simp
  have hl1 := r.length
  have hl2 := r2.length
  have hsz : its.toArray.size + its2.toArray.size ≤ sizeLine := by rw [List.size_toArray, List.size_toArray]; omega
  have hlong : ¬ (!its.toArray.isEmpty && Builtin.List.listTooLong (its.toArray.size + its2.toArray.size)) = true := by
    rw [notLongL hsz, Bool.and_false]
    exact Bool.false_ne_true
  refine call_meets F.slot_list_extend ⟨_, e, rfl⟩ F.entry_list_extend (F.args_list_extend_2 _ _)
    (AutoSeq1.list_extend_list_tuple_0 l its.toArray n b its2.toArray n2 hlong (by rw [List.size_toArray]; omega) (by omega)) ⟨e, e2, ?_⟩
  refine ⟨.non, _, I.lset (its' := its ++ its2) hH e (by simp) (r.append r2) ?_, rfl, q⟩
  rw [List.length_append]
  omega
theorem mt_extendL : MtR X "list.extend" (fun x vs H Q => ∃ l b xs zs, x = .ref l ∧ vs = [.ref b] ∧ H l = some (.lst xs) ∧ (Rd H b (.lst zs) ∨ FlAt X.K H b zs) ∧ xs.length + zs.length ≤ sizeLine ∧ Q .non (upd H l (.lst (xs ++ zs)))) := by
  intro pins s σ H x vs v us Q I rx rv h
  obtain ⟨l, b, xs, zs, rfl, rfl, hH, hB, hz, q⟩ := h
  cases rx
  obtain ⟨u, rfl, ru⟩ := vals1 rv
  cases ru
  obtain ⟨z, its, n, r, hl, e⟩ := I.lstM hH
  obtain ⟨z2, its2, n2, r2, e2⟩ : ∃ (z2 : True) (its2 : List Value) (n2 : Nat), Vals zs its2 ∧ s.heap.get? b = some { cls := .type "list", data := .seq its2.toArray n2 } := by
    rcases hB with hB | ⟨o, hB⟩ | ⟨o, its2, n2, k1, k2, k3, k4, k5, k6, k7⟩
    · obtain ⟨_, its2, n2, r2, e2⟩ := hB.ok I.hok
      exact ⟨trivial, its2, n2, r2, e2⟩
    · obtain ⟨_, its2, n2, r2, e2⟩ := (Rd.ok (.inr ⟨o, hB⟩) I.hok : ObjOk X.prog X.w H s.heap b (.lst zs))
      exact ⟨trivial, its2, n2, r2, e2⟩
    · refine ⟨trivial, its2.toList, n2, k6, ?_⟩
      rw [I.kIn b o k1]
      obtain ⟨c1, c2, c3, c4⟩ := o
      subst k2 k3 k4 k7
      simp
  have hl1 := r.length
  have hl2 := r2.length
  have hsz : its.toArray.size + its2.toArray.size ≤ sizeLine := by rw [List.size_toArray, List.size_toArray]; omega
  have hlong : ¬ (!its.toArray.isEmpty && Builtin.List.listTooLong (its.toArray.size + its2.toArray.size)) = true := by
    rw [notLongL hsz, Bool.and_false]
    exact Bool.false_ne_true
  refine call_meets F.slot_list_extend ⟨_, e, rfl⟩ F.entry_list_extend (F.args_list_extend_2 _ _)
    (AutoSeq1.list_extend_list_list_0 l its.toArray n b its2.toArray n2 hlong (by rw [List.size_toArray]; omega) (by omega)) ⟨e, e2, ?_⟩
  refine ⟨.non, _, I.lset (its' := its ++ its2) hH e (by simp) (r.append r2) ?_, rfl, q⟩
  rw [List.length_append]
  omega
theorem m_extend (hK : X.K = c.K) : MtR X "list.extend" (lRl c (rML .extend)) := by
  refine MtR.imp (MtR.or mt_extendL mt_extendT) fun o xs H Q h => ?_
  obtain ⟨A, a, es, ds, Qd, ra, rfl, e, rx, r, f⟩ := h
  obtain ⟨vs, h, q⟩ := ra _ _ e
  rcases ds with _ | ⟨d, _ | ⟨e, _⟩⟩ <;> try exact r.elim
  · obtain ⟨v, rfl, rv⟩ := rx.one_of
    cases d with
    | tup es =>
      obtain ⟨b, ws, rfl, h2, q2⟩ := rv
      rcases h2 with ⟨ob, h2⟩ | ⟨ob, h2⟩
      · exact .inr ⟨a, b, vs, ws, ob, rfl, rfl, h, .inl h2, by rw [q.length, q2.length]; exact r.1, f.wr (d := .non) r.2 ra h rfl (q.app q2)⟩
      · exact .inr ⟨a, b, vs, ws, ob, rfl, rfl, h, .inr (by rw [hK]; exact h2), by rw [q.length, q2.length]; exact r.1, f.wr (d := .non) r.2 ra h rfl (q.app q2)⟩
    | ref b =>
      cases rv
      simp only [rML, lstD] at r
      split at r
      · rename_i e2
        obtain ⟨ws, h2, q2⟩ := getL_rel ra e2
        exact .inl ⟨_, _, vs, ws, rfl, rfl, h, .inl h2, by rw [q.length, q2.length]; exact r.1, f.wr (d := .non) r.2 ra h rfl (q.app q2)⟩
      · exact r.elim
    | fl es =>
      obtain ⟨b, ws, rfl, h2, q2⟩ := rv
      exact .inl ⟨a, b, vs, ws, rfl, rfl, h, .inr (by rw [hK]; exact h2), by rw [q.length, q2.length]; exact r.1, f.wr (d := .non) r.2 ra h rfl (q.app q2)⟩
    | _ => exact r.elim
  · cases d <;> exact r.elim
theorem m_insert : MtR X "list.insert" (lRl c (rML .insert)) := by
  refine MtR.imp mt_insert fun o xs H Q h => ?_
  obtain ⟨A, a, es, ds, Qd, ra, rfl, e, rx, r, f⟩ := h
  obtain ⟨vs, h, q⟩ := ra _ _ e
  rcases ds with _ | ⟨d, _ | ⟨e, _ | _⟩⟩ <;> try exact r.elim
  · cases d <;> exact r.elim
  · obtain ⟨v, w, rfl, rv, rw'⟩ := rx.two_of
    cases d <;> try exact r.elim
    cases rv
    exact ⟨_, vs, _, w, rfl, rfl, h, by rw [q.length]; exact r.1, r.2.1, by have := r.2.2.1; omega, f.wr (d := .non) r.2.2.2 ra h rfl (((q.take _).app (.one rw')).app (q.drop _))⟩
  · cases d <;> exact r.elim
theorem m_index (hK : X.K = c.K) : MtR X "list.index" (lRl c (rML .index)) := by
  intro pins s σ H x xs v us Q I rx rxs h
  obtain ⟨A, a, es, ds, Qd, ra, rfl, e, rd, r, f⟩ := h
  obtain ⟨vs, h, q⟩ := ra _ _ e
  rcases ds with _ | ⟨d, _ | ⟨e, _⟩⟩ <;> try exact r.elim
  · obtain ⟨w, rfl, rv⟩ := rd.one_of
    cases d <;> try exact r.elim
    cases rv
    cases rx
    obtain ⟨u, rfl, t, rfl⟩ := vals1 rxs
    simp only [rML] at r
    split at r
    · rename_i ns e2
      cases ints_ok q e2
      obtain ⟨its, r', pl, hz⟩ := I.list (SqL.of (K := X.K) h)
      have hlen := r'.length
      exact SeqAt.list_index_ints pl.isList (intsAre_of r') (by rw [List.length_map] at hz; exact hz) r.1 ⟨.int _, H, I.tok _, ⟨_, rfl⟩, f.here r.2 ra rfl⟩
    · exact r.elim
  · cases d <;> exact r.elim
def lRf (c : RC) (r : List D → List D → AH → Dk → Prop) : V → List V → Hp → VK → Prop := fun x xs H Q => ∃ A es ds Qd, RelA c A H ∧ RelD c.K H (.fl es) x ∧ RelDs c.K H ds xs ∧ r es ds A Qd ∧ Fol c H Q Qd
theorem m_findex (hK : X.K = c.K) : MtR X "list.index" (lRf c (rMF .index)) := by
  intro pins s σ H x xs v us Q I rx rxs h
  obtain ⟨A, es, ds, Qd, ra, ⟨a, vs, rfl, h, q⟩, rd, r, f⟩ := h
  rcases ds with _ | ⟨d, _ | ⟨e, _⟩⟩ <;> try exact r.elim
  · obtain ⟨w, rfl, rv⟩ := rd.one_of
    cases d <;> try exact r.elim
    cases rv
    cases rx
    obtain ⟨u, rfl, t, rfl⟩ := vals1 rxs
    simp only [rMF] at r
    split at r
    · rename_i ns e2
      cases ints_ok q e2
      obtain ⟨its, r', pl, hz⟩ := I.list (by rw [hK]; exact h.sql)
      have hlen := r'.length
      exact SeqAt.list_index_ints pl.isList (intsAre_of r') (by rw [List.length_map] at hz; exact hz) r.1 ⟨.int _, H, I.tok _, ⟨_, rfl⟩, f.here r.2 ra rfl⟩
    · exact r.elim
  · cases d <;> exact r.elim
theorem m_fcount (hK : X.K = c.K) : MtR X "list.count" (lRf c (rMF .count)) := by
  refine MtR.imp mt_lcount fun o xs H Q h => ?_
  obtain ⟨A, es, ds, Qd, ra, ⟨a, vs, rfl, h, q⟩, rd, r, f⟩ := h
  rcases ds with _ | ⟨d, _ | ⟨e, _⟩⟩ <;> try exact r.elim
  · obtain ⟨w, rfl, rv⟩ := rd.one_of
    cases d <;> try exact r.elim
    cases rv
    simp only [rMF] at r
    split at r
    · rename_i ns e2
      cases ints_ok q e2
      exact ⟨a, ns, _, rfl, rfl, by rw [hK]; exact h.sql, f.here r ra rfl⟩
    · exact r.elim
  · cases d <;> exact r.elim
theorem m_count (hK : X.K = c.K) : MtR X "list.count" (lRl c (rML .count)) := by
  refine MtR.imp mt_lcount fun o xs H Q h => ?_
  obtain ⟨A, a, es, ds, Qd, ra, rfl, e, rd, r, f⟩ := h
  obtain ⟨vs, h, q⟩ := ra _ _ e
  rcases ds with _ | ⟨d, _ | ⟨e, _⟩⟩ <;> try exact r.elim
  · obtain ⟨w, rfl, rv⟩ := rd.one_of
    cases d <;> try exact r.elim
    cases rv
    simp only [rML] at r
    split at r
    · rename_i ns e2
      cases ints_ok q e2
      exact ⟨a, ns, _, rfl, rfl, SqL.of h, f.here r ra rfl⟩
    · exact r.elim
  · cases d <;> exact r.elim
/-- d.get(k), d.get(k, x) -/
def lRg (c : RC) : V → List V → Hp → VK → Prop := fun x xs H Q => ∃ A d kvs ds Qd, RelA c A H ∧ RelD c.K H d x ∧ mapD A d = some kvs ∧ RelDs c.K H ds xs ∧ rMD .get kvs ds A Qd ∧ Fol c H Q Qd
theorem m_get (hu : X.A.units + 1 < cLine) : MtR X "dict.get" (lRg c) := by
  intro pins s σ H x xs v us Q I rx rxs h
  obtain ⟨A, d, kvs, ds, Qd, ra, rd, em, rds, r, f⟩ := h
  rcases ds with _ | ⟨y, _ | ⟨z, _ | _⟩⟩ <;> try exact r.elim
  · obtain ⟨w, rfl, ry⟩ := rds.one_of
    obtain ⟨u, rfl, ru⟩ := vals1 rxs
    simp only [rMD] at r
    split at r
    · rename_i k ek
      obtain ⟨a, o, rfl, g, zz⟩ := dget_of ra rd ry em ek
      cases rx
      refine d_get1 hu I g ru fun w' s' I' rw' => ⟨_, H, I', rw', ?_⟩
      rcases zz with ⟨z1, rfl⟩ | ⟨e, v, z1, rfl, rv⟩
      · rw [z1] at r
        exact f.here r ra rfl
      · rw [z1] at r
        exact f.here r ra rv
    · exact r.elim
  · obtain ⟨w, w2, rfl, ry, rz⟩ := rds.two_of
    obtain ⟨u, u2, rfl, ru, ru2⟩ := vals2 rxs
    simp only [rMD] at r
    split at r
    · rename_i k ek
      obtain ⟨a, o, rfl, g, zz⟩ := dget_of ra rd ry em ek
      cases rx
      refine d_get2 hu I g ru ru2 fun w' s' I' rw' => ⟨_, H, I', rw', ?_⟩
      rcases zz with ⟨z1, rfl⟩ | ⟨e, v, z1, rfl, rv⟩
      · rw [z1] at r
        exact f.here r ra rz
      · rw [z1] at r
        exact f.here r ra rv
    · exact r.elim
theorem m_tindex (hK : X.K = c.K) : MtR X "tuple.index" (lRt c (rMT .index)) := by
  intro pins s σ H x xs v us Q I rx rxs h
  obtain ⟨A, es, ds, Qd, ra, ⟨a, vs, rfl, h, q⟩, rd, r, f⟩ := h
  rcases ds with _ | ⟨d, _ | ⟨e, _⟩⟩ <;> try exact r.elim
  · obtain ⟨w, rfl, rv⟩ := rd.one_of
    cases d <;> try exact r.elim
    cases rv
    cases rx
    obtain ⟨u, rfl, t, rfl⟩ := vals1 rxs
    simp only [rMT] at r
    split at r
    · rename_i ns e2
      cases ints_ok q e2
      obtain ⟨its, r', pl, hz⟩ := I.tuple (by rw [hK]; exact h.sqt)
      exact SeqAt.tuple_index_ints pl (intsAre_of r') r.1 ⟨.int _, H, I.tok _, ⟨_, rfl⟩, f.here r.2 ra rfl⟩
    · exact r.elim
  · cases d <;> exact r.elim
theorem idxOf_first {ns : List Int} {k : Int} (h : k ∈ ns) : ns[ns.idxOf k]? = some k ∧ ∀ m : Nat, m < ns.idxOf k → ns[m]? ≠ some k := by
  induction ns with
  | nil => simp at h
  | cons a r ih =>
    by_cases e : a = k
    · subst e
      simp
    · have hk : k ∈ r := by
        rcases List.mem_cons.mp h with z | z
        · exact absurd z.symm e
        · exact z
      obtain ⟨i1, i2⟩ := ih hk
      have hb : (a == k) = false := beq_eq_false_iff_ne.mpr e
      rw [List.idxOf_cons, hb]
      refine ⟨by simpa using i1, fun m hm => ?_⟩
      cases m with
      | zero => simpa using e
      | succ m => simpa using i2 m (by simpa using hm)
theorem m_remove : MtR X "list.remove" (lRl c (rML .remove)) := by
  refine MtR.imp mt_remove fun o xs H Q h => ?_
  obtain ⟨A, a, es, ds, Qd, ra, rfl, e, rx, r, f⟩ := h
  obtain ⟨vs, h, q⟩ := ra _ _ e
  rcases ds with _ | ⟨d, _ | ⟨e, _⟩⟩ <;> try exact r.elim
  · obtain ⟨v, rfl, rv⟩ := rx.one_of
    cases d <;> try exact r.elim
    cases rv
    rename_i k
    simp only [rML] at r
    split at r
    · rename_i ns e2
      cases ints_ok q e2
      obtain ⟨h1, h2⟩ := idxOf_first r.1
      refine ⟨_, ns, k, ns.idxOf k, rfl, rfl, h, h1, h2, ?_⟩
      have := f.wr (d := .non) (v := .non) (vs := (ns.map V.int).eraseIdx (ns.idxOf k)) r.2 ra h rfl (q.erase _)
      rwa [erase_mapI] at this
    · exact r.elim
  · cases d <;> exact r.elim
end
end Py

namespace Py
open PySem PySem.Spec PyProof.Rows L2
section
variable (c : RC)
/-- what is wished of an exception, told of the layer's -/
def FolW (H : Hp) (W : Value → Option Addr → Hp → Prop) (Xd : Dx) : Prop := ∀ n A' C H', Xd n A' → c.cl n = some C → Mono H H' → RelA c A' H' → W (.ref C) none H'
def lE (t : DE) (W : WX) : TE := fun σ H Q => ∃ σd A Xd Qd, RelS c.K H σd σ ∧ RelA c A H ∧ t σd A Xd Qd ∧ Fol c H Q Qd ∧ FolW c H (fun cl d H' => W cl d σ H') Xd
def FolB (H : Hp) (Q : Bool → Hp → Prop) (Qd : Bool → AH → Prop) : Prop := ∀ b A' H', Qd b A' → Mono H H' → RelA c A' H' → Q b H'
def FolA (H : Hp) (Q : List V → Hp → Prop) (Qd : List D → AH → Prop) : Prop := ∀ ds A' vs H', Qd ds A' → Mono H H' → RelA c A' H' → RelDs c.K H' ds vs → Q vs H'
def lT (t : DE' Bool) (W : WX) : TT := fun σ H Q => ∃ σd A Xd Qd, RelS c.K H σd σ ∧ RelA c A H ∧ t σd A Xd Qd ∧ FolB c H Q Qd ∧ FolW c H (fun cl d H' => W cl d σ H') Xd
def lA (t : DE' (List D)) (W : WX) : TA := fun σ H Q => ∃ σd A Xd Qd, RelS c.K H σd σ ∧ RelA c A H ∧ t σd A Xd Qd ∧ FolA c H Q Qd ∧ FolW c H (fun cl d H' => W cl d σ H') Xd
/-- what a def promises -/
def lSp (t : List D → AH → Dx → Dk → Prop) : Sp := fun vs H Q E => ∃ A ds Xd Qd, RelA c A H ∧ RelDs c.K H ds vs ∧ t ds A Xd Qd ∧ Fol c H Q Qd ∧ FolW c H E Xd
end
section
variable {c : RC} {X : Cx} {W : WX}
theorem Fol.from {H H1 : Hp} {Q : VK} {Qd : Dk} (f : Fol c H Q Qd) (m : Mono H H1) : Fol c H1 Q Qd := fun d A v H' q m' ra r => f d A v H' q (m.trans m') ra r
theorem FolB.from {H H1 : Hp} {Q : Bool → Hp → Prop} {Qd : Bool → AH → Prop} (f : FolB c H Q Qd) (m : Mono H H1) : FolB c H1 Q Qd := fun d A H' q m' ra => f d A H' q (m.trans m') ra
theorem FolA.from {H H1 : Hp} {Q : List V → Hp → Prop} {Qd : List D → AH → Prop} (f : FolA c H Q Qd) (m : Mono H H1) : FolA c H1 Q Qd := fun d A v H' q m' ra r => f d A v H' q (m.trans m') ra r
theorem FolW.from {H H1 : Hp} {W : Value → Option Addr → Hp → Prop} {Xd : Dx} (f : FolW c H W Xd) (m : Mono H H1) : FolW c H1 W Xd := fun n A C H' q cl m' ra => f n A C H' q cl (m.trans m') ra
/-- go on with another reading -/
theorem lE_go {t : DE} {σ : L2.St} {H H1 : Hp} {σd : DSt} {A : AH} {Xd : Dx} {Q : VK} {Qd : Dk} (rs : RelS c.K H σd σ) (m : Mono H H1) (ra : RelA c A H1) (fw : FolW c H (fun cl d H' => W cl d σ H') Xd) (h : t σd A Xd Qd) (f : Fol c H1 Q Qd) : lE c t W σ H1 Q :=
  ⟨σd, A, Xd, Qd, rs.mono m, ra, h, f, fw.from m⟩
theorem lT_go {t : DE' Bool} {σ : L2.St} {H H1 : Hp} {σd : DSt} {A : AH} {Xd : Dx} {Q : Bool → Hp → Prop} {Qd : Bool → AH → Prop} (rs : RelS c.K H σd σ) (m : Mono H H1) (ra : RelA c A H1) (fw : FolW c H (fun cl d H' => W cl d σ H') Xd) (h : t σd A Xd Qd) (f : FolB c H1 Q Qd) : lT c t W σ H1 Q :=
  ⟨σd, A, Xd, Qd, rs.mono m, ra, h, f, fw.from m⟩
theorem lA_go {t : DE' (List D)} {σ : L2.St} {H H1 : Hp} {σd : DSt} {A : AH} {Xd : Dx} {Q : List V → Hp → Prop} {Qd : List D → AH → Prop} (rs : RelS c.K H σd σ) (m : Mono H H1) (ra : RelA c A H1) (fw : FolW c H (fun cl d H' => W cl d σ H') Xd) (h : t σd A Xd Qd) (f : FolA c H1 Q Qd) : lA c t W σ H1 Q :=
  ⟨σd, A, Xd, Qd, rs.mono m, ra, h, f, fw.from m⟩

/-- two expressions and an operation on their values -/
theorem two_lift {ta tb : DE} {r : D → D → AH → Dk → Prop} {σ : L2.St} {H : Hp} {Q : VK} (h : lE c (fun σ A X Q => ta σ A X fun x A1 => tb σ A1 X fun y A2 => r x y A2 Q) W σ H Q) : tOp (lR2 c r) (lE c ta W) (lE c tb W) σ H Q := by
  obtain ⟨σd, A, Xd, Qd, rs, ra, t, f, fw⟩ := h
  refine lE_go rs .refl ra fw t fun x A1 v H1 q1 m1 ra1 rx => ?_
  refine lE_go rs m1 ra1 fw q1 fun y A2 w H2 q2 m2 ra2 ry => ?_
  exact ⟨A2, x, y, Qd, ra2, RelD.mono m2 _ _ rx, ry, q2, f.from (m1.trans m2)⟩
theorem s_var {i : Nat} {x : Str} {pos : Pos} (hN : X.N[i]? = some x) (hv : Vis X.env.scope x) (hd : (x == ("__debug__" : Str)) = false) (hcd : (x == ("__classdict__" : Str)) = false) (G : GEnv) : PE X (.Name x pos) (lE c (ev G (.var i x)) W) := by
  refine PE.imp (pe_var hN hv hd hcd) fun σ H Q h => ?_
  obtain ⟨σd, A, Xd, Qd, rs, ra, t, f, fw⟩ := h
  simp only [ev, ev2, wT] at t
  split at t
  · rename_i d e
    obtain ⟨v, ev, rv⟩ := rs.2 i d e
    exact ⟨v, ev, f.here t ra rv⟩
  · exact t.elim
theorem s_gv {x : Str} {pos : Pos} {G : GEnv} (hg : Gl X x) (hd : (x == ("__debug__" : Str)) = false) (hc : ∀ d, G.con x = some d → ∃ u v, X.mg x = some u ∧ RelV v u ∧ ∀ H, RelD c.K H d v) : PE X (.Name x pos) (lE c (ev G (.gv x)) W) := by
  cases e : G.con x with
  | none =>
    refine ⟨fun _ _ σ H Q _ h => ?_⟩
    obtain ⟨σd, A, Xd, Qd, rs, ra, t, f, fw⟩ := h
    simp only [ev, ev2, wT, e] at t
  | some d =>
    obtain ⟨u, v, hm, rv, rd⟩ := hc d e
    refine PE.imp (pe_glob hg hm rv hd) fun σ H Q h => ?_
    obtain ⟨σd, A, Xd, Qd, rs, ra, t, f, fw⟩ := h
    simp only [ev, ev2, wT, e] at t
    exact f.here t ra (rd H)
def cstIs : Const → D → Bool
  | .none, .non => true
  | .bool a, .bl b => a == b
  | .int i, .int j => i == j
  | .str x, .str y => x == y
  | _, _ => false
theorem s_cst {k : Const} {d : D} {j : Nat} {pos : Pos} {G : GEnv} (h : cstIs k d = true) : PE X (.Constant k j pos) (lE c (ev G (.cst d)) W) := by
  have fin : ∀ {v : V} {σ : L2.St} {H : Hp} {Q : VK}, lE c (ev G (.cst d)) W σ H Q → (∀ H, RelD c.K H d v) → Q v H := fun {v σ H Q} h rd => by
    obtain ⟨σd, A, Xd, Qd, rs, ra, t, f, fw⟩ := h
    have t' : Qd d A := t
    exact f.here t' ra (rd H)
  cases k <;> cases d <;> first | (cases h; done) | skip
  · exact PE.imp pe_non fun σ H Q q => fin q fun _ => rfl
  · exact PE.imp pe_bl fun σ H Q q => fin q fun _ => by simp only [cstIs, beq_iff_eq] at h; subst h; rfl
  · exact PE.imp pe_int fun σ H Q q => fin q fun _ => by simp only [cstIs, beq_iff_eq] at h; subst h; rfl
  · exact PE.imp pe_str fun σ H Q q => fin q fun _ => by simp only [cstIs, beq_iff_eq] at h; subst h; rfl
variable {G : GEnv} {a b e : Expr} {ea eb : E} {pos : Pos}
theorem s_bin (hK : X.K = c.K) {o : BOp} (ha : PE X a (lE c (ev G ea) W)) (hb : PE X b (lE c (ev G eb) W)) : PE X (.BinOp a (bopOp o) b pos) (lE c (ev G (.bin o ea eb)) W) :=
  PE.imp (pe_op (d_bin hK o) ha hb) fun σ H Q h => two_lift (ta := ev G ea) (tb := ev G eb) (r := rBin o) h
theorem s_neg (ha : PE X a (lE c (ev G ea) W)) : PE X (.UnaryOp .USub a pos) (lE c (ev G (.neg ea)) W) := by
  refine PE.imp (pe_un un_neg ha) fun σ H Q h => ?_
  obtain ⟨σd, A, Xd, Qd, rs, ra, t, f, fw⟩ := h
  refine lE_go rs .refl ra fw t fun x A1 v H1 q1 m1 ra1 rx => ?_
  cases x <;> try exact q1.elim
  exact ⟨_, rx, (f.from m1).here q1 ra1 rfl⟩
theorem s_cmp (hK : X.K = c.K) (hu : X.A.units + 64 < cLine) {o : COp} (ha : PE X a (lE c (ev G ea) W)) (hb : PE X b (lE c (ev G eb) W)) (hm : behindInMarks (copOp o) b = false) : PE X (.Compare a [copOp o] [b] pos) (lE c (ev G (.cmp o ea eb)) W) :=
  PE.imp (pe_cmpR (d_cmp hK hu o) ha hb hm) fun σ H Q h => two_lift (ta := ev G ea) (tb := ev G eb) (r := rCmp o) h
/-- what comes out of a comparison, as a test -/
theorem two_liftT {ta tb : DE} {r : D → D → AH → Dk → Prop} {σ : L2.St} {H : Hp} {Q : Bool → Hp → Prop} (h : lT c (fun σ A X Q => ta σ A X fun x A1 => tb σ A1 X fun y A2 => r x y A2 fun z A3 => match z with | .bl k => Q k A3 | _ => False) W σ H Q) : tTest (tOp (lR2 c r) (lE c ta W) (lE c tb W)) σ H Q := by
  obtain ⟨σd, A, Xd, Qd, rs, ra, t, f, fw⟩ := h
  refine lE_go rs .refl ra fw t fun x A1 v H1 q1 m1 ra1 rx => ?_
  refine lE_go rs m1 ra1 fw q1 fun y A2 w H2 q2 m2 ra2 ry => ?_
  refine ⟨A2, x, y, _, ra2, RelD.mono m2 _ _ rx, ry, q2, fun z A3 u H3 q3 m3 ra3 rz => ?_⟩
  cases z <;> try exact q3.elim
  exact ⟨_, rz, f _ _ _ q3 ((m1.trans m2).trans m3) ra3⟩
theorem t_cmp (hK : X.K = c.K) (hu : X.A.units + 64 < cLine) {o : COp} (ha : PE X a (lE c (ev G ea) W)) (hb : PE X b (lE c (ev G eb) W)) (hm : behindInMarks (copOp o) b = false) : PT X (.Compare a [copOp o] [b] pos) (lT c (evT G (.cmp o ea eb)) W) :=
  PT.imp (pt_cmpR (d_cmp hK hu o) ha hb hm) fun σ H Q h => two_liftT (ta := ev G ea) (tb := ev G eb) (r := rCmp o) h
theorem s_chain (hK : X.K = c.K) (hu : X.A.units + 64 < cLine) {o o' : COp} {d : Expr} {ed : E} (ha : PE X a (lE c (ev G ea) W)) (hb : PE X b (lE c (ev G eb) W)) (hd : PE X d (lE c (ev G ed) W)) (hm : lastMarks [copOp o, copOp o'] [b, d] = false) :
    PE X (.Compare a [copOp o, copOp o'] [b, d] pos) (lE c (ev G (.chain o o' ea eb ed)) W) := by
  refine PE.imp (pe_chain (d_cmp hK hu o) (d_cmp hK hu o') ha hb hd hm) fun σ H Q h => ?_
  obtain ⟨σd, A, Xd, Qd, rs, ra, t, f, fw⟩ := h
  refine lE_go rs .refl ra fw t fun x A1 v H1 q1 m1 ra1 rx => ?_
  refine lE_go rs m1 ra1 fw q1 fun y A2 w H2 q2 m2 ra2 ry => ?_
  refine ⟨A2, x, y, _, ra2, RelD.mono m2 _ _ rx, ry, q2, fun z A3 u H3 q3 m3 ra3 rz => ?_⟩
  cases z <;> try exact q3.elim
  rename_i k
  refine ⟨k, rz, ?_⟩
  have m13 := (m1.trans m2).trans m3
  cases k with
  | true =>
    refine lE_go rs m13 ra3 fw q3 fun w' A4 v4 H4 q4 m4 ra4 r4 => ?_
    exact ⟨A4, y, w', Qd, ra4, RelD.mono (m3.trans m4) _ _ ry, r4, q4, f.from (m13.trans m4)⟩
  | false => exact (f.from m13).here q3 ra3 rfl
theorem t_chain (hK : X.K = c.K) (hu : X.A.units + 64 < cLine) {o o' : COp} {d : Expr} {ed : E} (ha : PE X a (lE c (ev G ea) W)) (hb : PE X b (lE c (ev G eb) W)) (hd : PE X d (lE c (ev G ed) W)) (hm : lastMarks [copOp o, copOp o'] [b, d] = false) :
    PT X (.Compare a [copOp o, copOp o'] [b, d] pos) (lT c (evT G (.chain o o' ea eb ed)) W) := by
  refine PT.imp (pt_chain (d_cmp hK hu o) (d_cmp hK hu o') ha hb hd hm) fun σ H Q h => ?_
  obtain ⟨σd, A, Xd, Qd, rs, ra, t, f, fw⟩ := h
  refine lE_go rs .refl ra fw t fun x A1 v H1 q1 m1 ra1 rx => ?_
  refine lE_go rs m1 ra1 fw q1 fun y A2 w H2 q2 m2 ra2 ry => ?_
  refine ⟨A2, x, y, _, ra2, RelD.mono m2 _ _ rx, ry, q2, fun z A3 u H3 q3 m3 ra3 rz => ?_⟩
  cases z <;> try exact q3.elim
  rename_i k
  refine ⟨k, rz, ?_⟩
  have m13 := (m1.trans m2).trans m3
  cases k with
  | true =>
    refine lE_go rs m13 ra3 fw q3 fun w' A4 v4 H4 q4 m4 ra4 r4 => ?_
    refine ⟨A4, y, w', _, ra4, RelD.mono (m3.trans m4) _ _ ry, r4, q4, fun z A5 u H5 q5 m5 ra5 r5 => ?_⟩
    cases z <;> try exact q5.elim
    exact ⟨_, r5, f _ _ _ q5 ((m13.trans m4).trans m5) ra5⟩
  | false => exact ⟨false, rfl, f _ _ _ q3 m13 ra3⟩
theorem tru_of {A : AH} {H : Hp} {d : D} {x : V} {b : Bool} (hK : X.K = c.K) (ra : RelA c A H) (r : RelD c.K H d x) (e : truD A d = some b) : TruV X.K x H b := by
  cases d <;> simp only [truD] at e
  · cases r; cases e; rfl
  · cases r; cases e; rfl
  · cases r; cases e; rfl
  · cases r
    split at e
    · rename_i h
      cases e
      exact ⟨h, rfl⟩
    · cases e
  · obtain ⟨a, vs, rfl, h, q⟩ := r
    cases e
    refine .inr (.inl ⟨vs, by rw [hK]; exact h.sqt, ?_⟩)
    have ne : ∀ {α β : Type} {l : List α} {m : List β}, l.length = m.length → (!m.isEmpty) = !l.isEmpty := fun {α β l m} h => by cases l <;> cases m <;> simp_all
    exact ne q.length
  · cases r
    have ne : ∀ {α β : Type} {l : List α} {m : List β}, l.length = m.length → (!m.isEmpty) = !l.isEmpty := fun {α β l m} h => by cases l <;> cases m <;> simp_all
    split at e
    · rename_i g
      cases e
      obtain ⟨vs, h, q⟩ := ra _ _ g
      exact .inl ⟨vs, SqL.of h, ne q.length⟩
    · rename_i g
      cases e
      obtain ⟨vs, h, q⟩ := ra _ _ g
      exact .inr (.inr ⟨vs, h, ne (RelKv.length q)⟩)
    · cases e
  · obtain ⟨a, vs, rfl, h, q⟩ := r
    cases e
    have ne : ∀ {α β : Type} {l : List α} {m : List β}, l.length = m.length → (!m.isEmpty) = !l.isEmpty := fun {α β l m} h => by cases l <;> cases m <;> simp_all
    exact .inl ⟨vs, by rw [hK]; exact h.sql, ne q.length⟩
  · cases e
theorem s_not (hK : X.K = c.K) (ha : PE X a (lE c (ev G ea) W)) : PE X (.UnaryOp .Not a pos) (lE c (ev G (.not ea)) W) := by
  refine ⟨fun pins s σ H Q I h => ?_⟩
  obtain ⟨σd, A, Xd, Qd, rs, ra, t, f, fw⟩ := h
  refine UnaryOp_ (thn (ha.run pins s σ H (fun x H1 => ∃ k, TruV X.K x H1 k ∧ Q (.bl (!k)) H1) I (lE_go rs .refl ra fw t fun x A1 v H1 q1 m1 ra1 rx => ?_)) fun v s1 ⟨x, H1, I1, r1, k, q1, q2⟩ => ?_)
  · split at q1
    · rename_i b e
      exact ⟨b, tru_of hK ra1 rx e, (f.from m1).here q1 ra1 rfl⟩
    · exact q1.elim
  · exact not_of (thn (tru_ok pins s1 σ H1 x v (fun k' H' => Q (.bl (!k')) H') I1 r1 ⟨k, q1, q2⟩) fun k' s2 ⟨H2, I2, q3⟩ => ⟨.bl (!k'), H2, I2, rfl, q3⟩)
theorem t_val (hK : X.K = c.K) (ha : PE X a (lE c (ev G ea) W)) (he : ∀ whole, isTrue a X.env whole = (do let v ← whole; standAt a.pos; holding [v] (truthy v))) : PT X a (lT c (valT (ev G ea)) W) := by
  refine PT.imp (pt_truth ha he) fun σ H Q h => ?_
  obtain ⟨σd, A, Xd, Qd, rs, ra, t, f, fw⟩ := h
  refine lE_go rs .refl ra fw t fun x A1 v H1 q1 m1 ra1 rx => ?_
  split at q1
  · rename_i b e
    exact ⟨b, tru_of hK ra1 rx e, f _ _ _ q1 m1 ra1⟩
  · exact q1.elim
theorem t_ite {d : Expr} {ed : E} (hd : PT X d (lT c (evT G ed) W)) (ha : PT X a (lT c (evT G ea) W)) (hb : PT X b (lT c (evT G eb) W)) : PT X (.IfExp d a b pos) (lT c (evT G (.ite ed ea eb)) W) := by
  refine ⟨fun pins s σ H Q I h => ?_⟩
  obtain ⟨σd, A, Xd, Qd, rs, ra, t, f, fw⟩ := h
  rw [arm_isTrue_IfExp]
  refine wpAny_bind (thn (hd.run pins s σ H (fun k H1 => if k = true then lT c (evT G ea) W σ H1 Q else lT c (evT G eb) W σ H1 Q) I (lT_go rs .refl ra fw t fun k A1 H1 q1 m1 ra1 => ?_)) fun k s1 ⟨H1, I1, q1⟩ => ?_)
  · cases k with
    | true => exact lT_go rs m1 ra1 fw q1 (f.from m1)
    | false => exact lT_go rs m1 ra1 fw q1 (f.from m1)
  · cases k with
    | true => exact ha.run pins s1 σ H1 Q I1 q1
    | false => exact hb.run pins s1 σ H1 Q I1 q1
theorem t_not (ha : PT X a (lT c (evT G ea) W)) : PT X (.UnaryOp .Not a pos) (lT c (evT G (.not ea)) W) := by
  refine PT.imp (pt_not ha) fun σ H Q h => ?_
  obtain ⟨σd, A, Xd, Qd, rs, ra, t, f, fw⟩ := h
  exact lT_go rs .refl ra fw t fun b A1 H1 q1 m1 ra1 => f _ _ _ q1 m1 ra1
theorem s_ite {d : Expr} {ed : E} (hd : PT X d (lT c (evT G ed) W)) (ha : PE X a (lE c (ev G ea) W)) (hb : PE X b (lE c (ev G eb) W)) : PE X (.IfExp d a b pos) (lE c (ev G (.ite ed ea eb)) W) := by
  refine PE.imp (pe_ifExp hd ha hb) fun σ H Q h => ?_
  obtain ⟨σd, A, Xd, Qd, rs, ra, t, f, fw⟩ := h
  refine lT_go rs .refl ra fw t fun k A1 H1 q1 m1 ra1 => ?_
  cases k with
  | true => exact lE_go rs m1 ra1 fw q1 (f.from m1)
  | false => exact lE_go rs m1 ra1 fw q1 (f.from m1)
end
end Py

namespace Py
open PySem PySem.Spec PyProof.Rows L2
section
variable {c : RC} {X : Cx} {W : WX} {G : GEnv} {a b e : Expr} {ea eb : E} {es : List Expr} {ees : Es} {pos : Pos}
/-! ### and, or -/
theorem s_bop1 {op : BoolOp} {k : Bool} (ha : PE X a (lE c (ev G ea) W)) : PE X (.BoolOp op [a] pos) (lE c (evB2 G k (.cons ea .nil)).1 W) := pe_one ha
theorem s_and {r : Expr} {rs : List Expr} {eb : E} {ers : Es} (ha : PE X a (lE c (ev G ea) W)) (hb : PE X (.BoolOp .And (r :: rs) pos) (lE c (evB2 G true (.cons eb ers)).1 W)) : PE X (.BoolOp .And (a :: r :: rs) pos) (lE c (evB2 G true (.cons ea (.cons eb ers))).1 W) := by
  refine PE.imp (pe_and ha hb) fun σ H Q h => ?_
  obtain ⟨σd, A, Xd, Qd, rs, ra, t, f, fw⟩ := h
  refine lE_go rs .refl ra fw t fun x A1 v H1 q1 m1 ra1 rx => ?_
  cases x <;> try exact q1.elim
  rename_i k
  refine ⟨k, rx, ?_⟩
  cases k with
  | true => exact lE_go rs m1 ra1 fw q1 (f.from m1)
  | false => exact (f.from m1).here q1 ra1 rfl
theorem s_or {r : Expr} {rs : List Expr} {eb : E} {ers : Es} (ha : PE X a (lE c (ev G ea) W)) (hb : PE X (.BoolOp .Or (r :: rs) pos) (lE c (evB2 G false (.cons eb ers)).1 W)) : PE X (.BoolOp .Or (a :: r :: rs) pos) (lE c (evB2 G false (.cons ea (.cons eb ers))).1 W) := by
  refine PE.imp (pe_or ha hb) fun σ H Q h => ?_
  obtain ⟨σd, A, Xd, Qd, rs, ra, t, f, fw⟩ := h
  refine lE_go rs .refl ra fw t fun x A1 v H1 q1 m1 ra1 rx => ?_
  cases x <;> try exact q1.elim
  rename_i k
  refine ⟨k, rx, ?_⟩
  cases k with
  | false => exact lE_go rs m1 ra1 fw q1 (f.from m1)
  | true => exact (f.from m1).here q1 ra1 rfl
theorem t_and1 {k : Bool} (ha : PT X a (lT c (evT G ea) W)) : PW X (.BoolOp .And [a] pos) (lT c (evB2 G k (.cons ea .nil)).2 W) := pw_and1 ha
theorem t_or1 {k : Bool} (ha : PT X a (lT c (evT G ea) W)) : PW X (.BoolOp .Or [a] pos) (lT c (evB2 G k (.cons ea .nil)).2 W) := pw_or1 ha
theorem PW.imp {e : Expr} {t t' : TT} (h : PW X e t) (i : ∀ σ H Q, t' σ H Q → t σ H Q) : PW X e t' := ⟨fun wh pins s σ H Q I q => h.run wh pins s σ H Q I (i _ _ _ q)⟩
theorem t_and {r : Expr} {rs : List Expr} {eb : E} {ers : Es} (ha : PT X a (lT c (evT G ea) W)) (hb : PW X (.BoolOp .And (r :: rs) pos) (lT c (evB2 G true (.cons eb ers)).2 W)) : PW X (.BoolOp .And (a :: r :: rs) pos) (lT c (evB2 G true (.cons ea (.cons eb ers))).2 W) := by
  refine PW.imp (pw_and ha hb) fun σ H Q h => ?_
  obtain ⟨σd, A, Xd, Qd, rs, ra, t, f, fw⟩ := h
  refine lT_go rs .refl ra fw t fun k A1 H1 q1 m1 ra1 => ?_
  cases k with
  | true => exact lT_go rs m1 ra1 fw q1 (f.from m1)
  | false => exact f _ _ _ q1 m1 ra1
theorem t_or {r : Expr} {rs : List Expr} {eb : E} {ers : Es} (ha : PT X a (lT c (evT G ea) W)) (hb : PW X (.BoolOp .Or (r :: rs) pos) (lT c (evB2 G false (.cons eb ers)).2 W)) : PW X (.BoolOp .Or (a :: r :: rs) pos) (lT c (evB2 G false (.cons ea (.cons eb ers))).2 W) := by
  refine PW.imp (pw_or ha hb) fun σ H Q h => ?_
  obtain ⟨σd, A, Xd, Qd, rs, ra, t, f, fw⟩ := h
  refine lT_go rs .refl ra fw t fun k A1 H1 q1 m1 ra1 => ?_
  cases k with
  | false => exact lT_go rs m1 ra1 fw q1 (f.from m1)
  | true => exact f _ _ _ q1 m1 ra1

/-! ### lists of expressions, displays -/
def noStar : Expr → Bool
  | .Starred .. => false
  | _ => true
theorem starEach_cons {env : Env} (h : noStar e = true) : starEach (e :: es) env = (false, eval e env) :: starEach es env := by
  cases e <;> first | rfl | cases h
theorem starEach_plain {env : Env} {pos : Pos} : ∀ {es : List Expr}, es.all noStar = true → (backTo pos (starEach es env)).any (·.1) = false
  | [], _ => rfl
  | e :: es, h => by
    rw [List.all_cons, Bool.and_eq_true] at h
    rw [starEach_cons h.1]
    show (false || (backTo pos (starEach es env)).any (·.1)) = false
    rw [starEach_plain h.2]
    rfl
theorem a_nil : PA X [] (lA c (evs G .nil) W) := by
  refine PA.imp pa_nil fun σ H Q h => ?_
  obtain ⟨σd, A, Xd, Qd, rs, ra, t, f, fw⟩ := h
  exact f [] A [] H t .refl ra rfl
theorem a_cons (he : PE X e (lE c (ev G ea) W)) (hs : PA X es (lA c (evs G ees) W)) (hn : noStar e = true) : PA X (e :: es) (lA c (evs G (.cons ea ees)) W) := by
  refine PA.imp (pa_cons he hs (starEach_cons hn)) fun σ H Q h => ?_
  obtain ⟨σd, A, Xd, Qd, rs, ra, t, f, fw⟩ := h
  refine lE_go rs .refl ra fw t fun x A1 v H1 q1 m1 ra1 rx => ?_
  refine lA_go rs m1 ra1 fw q1 fun ds A2 vs H2 q2 m2 ra2 r2 => ?_
  exact f _ _ _ _ q2 (m1.trans m2) ra2 ⟨v, vs, rfl, RelD.mono m2 _ _ rx, r2⟩
def tTupN (t : TA) : TE := fun σ H Q => t σ H fun xs H1 => xs.length ≤ sizeLine ∧ newT xs H1 Q
theorem pe_tupN {t : TA} {x1} (h : PA X es t) : PE X (.Tuple es x1 pos) (tTupN t) := by
  refine ⟨fun pins s σ H Q I hq => ?_⟩
  refine wpAny_Tuple_spliced (thn (h.run pos pins s σ H _ I hq) fun us s1 ⟨xs, H1, I1, r, z, q⟩ => ⟨by rw [← r.length]; exact z, ?_⟩)
  exact laidT (h := s1.heap) (t := s1.toks) I1 r z q
theorem s_tup {k : Nat} (h : PA X es (lA c (evs G ees) W)) : PE X (.Tuple es k pos) (lE c (ev G (.tup ees)) W) := by
  refine PE.imp (pe_tupN h) fun σ H Q h => ?_
  obtain ⟨σd, A, Xd, Qd, rs, ra, t, f, fw⟩ := h
  refine lA_go rs .refl ra fw t fun ds A1 vs H1 q1 m1 ra1 r1 => ?_
  exact ⟨by rw [r1.length]; exact q1.1, (f.from m1).tup q1.2 ra1 r1⟩
theorem s_lst (h : PA X es (lA c (evs G ees) W)) : PE X (.List es pos) (lE c (ev G (.lst ees)) W) := by
  refine PE.imp (PE.fz (pe_lst h)) fun σ H Q h => ?_
  obtain ⟨σd, A, Xd, Qd, rs, ra, t, f, fw⟩ := h
  refine lA_go rs .refl ra fw t fun ds A1 vs H1 q1 m1 ra1 r1 => ?_
  exact ⟨by rw [r1.length]; exact q1.1, (f.from m1).lst q1.2 ra1 r1⟩

/-! ### subscripts -/
def notSlice : Expr → Bool
  | .Slice .. => false
  | _ => true
theorem plainIx (h : notSlice b = true) : PlainIx b := fun o i => by
  cases b <;> first | rfl | cases h
theorem s_idx (hK : X.K = c.K) (hu : X.A.units + 1 < cLine) (ha : PE X a (lE c (ev G ea) W)) (hb : PE X b (lE c (ev G eb) W)) (hn : notSlice b = true) : PE X (.Subscript a b pos) (lE c (ev G (.idx ea eb)) W) :=
  PE.imp (pe_ix (d_idx hK hu) ha hb (plainIx hn)) fun σ H Q h => two_lift (ta := ev G ea) (tb := ev G eb) (r := rIdx) h
abbrev TO := L2.St → Hp → (Option Int → Hp → Prop) → Prop
def FolO (c : RC) (H : Hp) (Q : Option Int → Hp → Prop) (Qd : Option Int → AH → Prop) : Prop := ∀ b A' H', Qd b A' → Mono H H' → RelA c A' H' → Q b H'
def lO (c : RC) (t : DE' (Option Int)) (W : WX) : TO := fun σ H Q => ∃ σd A Xd Qd, RelS c.K H σd σ ∧ RelA c A H ∧ t σd A Xd Qd ∧ FolO c H Q Qd ∧ FolW c H (fun cl d H' => W cl d σ H') Xd
theorem PO.imp {e : Option Expr} {t t' : TO} (h : PO X e t) (i : ∀ σ H Q, t' σ H Q → t σ H Q) : PO X e t' := ⟨fun pins s σ H Q I q => h.run pins s σ H Q I (i _ _ _ q)⟩
theorem o_no : PO X none (lO c (evo G .no) W) := by
  refine PO.imp po_none fun σ H Q h => ?_
  obtain ⟨σd, A, Xd, Qd, rs, ra, t, f, fw⟩ := h
  exact f none A H t .refl ra
theorem o_yes (he : PE X e (lE c (ev G ea) W)) : PO X (some e) (lO c (evo G (.yes ea)) W) := by
  refine PO.imp (po_some he) fun σ H Q h => ?_
  obtain ⟨σd, A, Xd, Qd, rs, ra, t, f, fw⟩ := h
  refine lE_go rs .refl ra fw t fun x A1 v H1 q1 m1 ra1 rx => ?_
  cases x <;> try exact q1.elim
  exact ⟨_, rx, f _ _ _ q1 m1 ra1⟩
theorem s_slc (hK : X.K = c.K) {lo hi : Option Expr} {el eh : Oe} {p2 : Pos} (ha : PE X a (lE c (ev G ea) W)) (hl : PO X lo (lO c (evo G el) W)) (hh : PO X hi (lO c (evo G eh) W)) : PE X (.Subscript a (.Slice lo hi none p2) pos) (lE c (ev G (.slc ea el eh)) W) := by
  refine PE.imp (pe_slice (d_slc hK) ha hl hh) fun σ H Q h => ?_
  obtain ⟨σd, A, Xd, Qd, rs, ra, t, f, fw⟩ := h
  refine lE_go rs .refl ra fw t fun x A1 v H1 q1 m1 ra1 rx => ?_
  refine ⟨σd, A1, Xd, _, rs.mono m1, ra1, q1, fun l A2 H2 q2 m2 ra2 => ?_, fw.from m1⟩
  refine ⟨σd, A2, Xd, _, rs.mono (m1.trans m2), ra2, q2, fun h A3 H3 q3 m3 ra3 => ?_, fw.from (m1.trans m2)⟩
  exact ⟨A3, x, Qd, ra3, RelD.mono (m2.trans m3) _ _ rx, q3, f.from ((m1.trans m2).trans m3)⟩

/-! ### calls -/
theorem glob_name {env : Env} {x : Str} (h : env.scope.names.lookup x = some .globalImplicit) : env.kindOf x = some .globalImplicit := h
theorem a_len {n : Nat} : ∀ {ees : Es} {ds : List D} {k : Nat}, True := fun {_ _ _} => trivial
theorem s_bifB (bf : BF) {id : String} {x : Str} {p : Pos} (hc : CallR X (.builtin id) (lRs c (rB bf))) (hg : Gl X x) (hm : X.mg x = none) (hv : bootBuiltins x = some (.builtin id)) (hn : x ≠ "__name__") (hdb : (x == ("__debug__" : Str)) = false)
    (ha : PA X (e :: es) (lA c (evs G ees) W)) (h1 : noStar e = true) (h2 : es.all noStar = true) : PE X (.Call (.Name x p) (e :: es) [] pos) (lE c (ev G (.bif bf ees)) W) := by
  refine PE.imp (pe_callB hc hg hm hv ha hn hdb (starEach_cons h1) (starEach_plain h2)) fun σ H Q h => ?_
  obtain ⟨σd, A, Xd, Qd, rs, ra, t, f, fw⟩ := h
  refine lA_go rs .refl ra fw t fun ds A1 vs H1 q1 m1 ra1 r1 => ?_
  exact ⟨A1, ds, Qd, ra1, r1, q1, f.from m1⟩
theorem s_bifT (bf : BF) {T : String} {x : Str} {p : Pos} (hc : CallR X (.type T) (lRs c (rB bf))) (hg : Gl X x) (hm : X.mg x = none) (hv : bootBuiltins x = some (.type T)) (hn : x ≠ "__name__") (hdb : (x == ("__debug__" : Str)) = false)
    (ha : PA X (e :: es) (lA c (evs G ees) W)) (h1 : noStar e = true) (h2 : es.all noStar = true) : PE X (.Call (.Name x p) (e :: es) [] pos) (lE c (ev G (.bif bf ees)) W) := by
  refine PE.imp (pe_callTy hc hg hm hv ha hn hdb (starEach_cons h1) (starEach_plain h2)) fun σ H Q h => ?_
  obtain ⟨σd, A, Xd, Qd, rs, ra, t, f, fw⟩ := h
  refine lA_go rs .refl ra fw t fun ds A1 vs H1 q1 m1 ra1 r1 => ?_
  exact ⟨A1, ds, Qd, ra1, r1, q1, f.from m1⟩
/-- a def of the text stands and keeps the plain promise -/
structure DefOk (c : RC) (P : Program) (w : World) (K : PySem.W.Frag) (mg : Str → Option Value) (base : Heap) (k : Nat) (cal : Cal) (f : Str) : Prop where
  ex : ∃ (fa : Addr) (fd : FuncData) (ps : List Str), mg f = some (.ref fa) ∧ PySem.W.keepIn K (.ref fa) = true ∧ Binds K fd ps [] ∧ FnG P w K mg base (L2.CX P w) k fa fd ps (lSp c (cal f))
theorem s_call (tk : Takes X W) {k : Nat} {x : Str} {p : Pos} (D : DefOk c X.prog X.w X.K X.mg X.base k G.cal x) (hr : Room k X.A) (hgd : X.A.guards = some []) (hg : Gl X x) (hdb : (x == ("__debug__" : Str)) = false)
    (ha : PA X (e :: es) (lA c (evs G ees) W)) (h1 : noStar e = true) (h2 : es.all noStar = true) : PE X (.Call (.Name x p) (e :: es) [] pos) (lE c (ev G (.call x ees)) W) := by
  obtain ⟨fa, fd, ps, hm, hk, hb, F⟩ := D.ex
  refine PE.imp (pe_G F hr hgd hg hm hk hb (fun σ => passAt tk σ) ha hdb (starEach_cons h1) (starEach_plain h2)) fun σ H Q h => ?_
  obtain ⟨σd, A, Xd, Qd, rs, ra, t, f, fw⟩ := h
  refine lA_go rs .refl ra fw t fun ds A1 vs H1 q1 m1 ra1 r1 => ?_
  exact ⟨A1, ds, Xd, Qd, ra1, r1, q1, f.from m1, fw.from m1⟩
theorem s_call0 (tk : Takes X W) {k : Nat} {x : Str} {p : Pos} (D : DefOk c X.prog X.w X.K X.mg X.base k G.cal x) (hr : Room k X.A) (hgd : X.A.guards = some []) (hg : Gl X x) (hdb : (x == ("__debug__" : Str)) = false) :
    PE X (.Call (.Name x p) [] [] pos) (lE c (ev G (.call x .nil)) W) := by
  obtain ⟨fa, fd, ps, hm, hk, hb, F⟩ := D.ex
  refine PE.imp (pe_G0 F hr hgd hg hm hk hb (fun σ => passAt tk σ) hdb) fun σ H Q h => ?_
  obtain ⟨σd, A, Xd, Qd, rs, ra, t, f, fw⟩ := h
  exact ⟨A, [], Xd, Qd, ra, rfl, t, f, fw⟩

/-! ### isinstance of a built-in type -/
def clT : Cl → Option String | .int => some "int" | .bool => some "bool" | .str => some "str" | .tuple => some "tuple" | .list => some "list" | .dict => some "dict" | .own _ => none
theorem kit_all {K : PySem.W.Frag} : ∀ (a : String) (cl : Cl) (T : String), a ∈ ["NoneType", "bool", "int", "str", "tuple", "list", "dict"] → clT cl = some T →
    PySem.W.kitOne K (.type a) (.type T) = some ((a == T) || (a == "bool" && T == "int")) := by
  intro a cl T ha hT
  simp only [List.mem_cons, List.not_mem_nil, or_false] at ha
  rcases ha with rfl | rfl | rfl | rfl | rfl | rfl | rfl <;> cases cl <;> first | (cases hT; done) | (cases hT; exact kit_ty (by decide +kernel))
theorem tyx_of {A : AH} {H : Hp} {d : D} {x : V} {cl : Cl} {T : String} {b : Bool} {sub : Str → Str → Bool} (hK : X.K = c.K) (ra : RelA c A H) (r : RelD c.K H d x) (hT : clT cl = some T) (e : isiD sub A d cl = some b) :
    ∃ t, TyX X.K H x t ∧ PySem.W.kitOne X.K t (.type T) = some b := by
  have fin : ∀ a, a ∈ ["NoneType", "bool", "int", "str", "tuple", "list", "dict"] → TyX X.K H x (.type a) → ((a == T) || (a == "bool" && T == "int")) = b → ∃ t, TyX X.K H x t ∧ PySem.W.kitOne X.K t (.type T) = some b := fun a ha ht hb => ⟨_, ht, by rw [kit_all a cl T ha hT, hb]⟩
  cases d <;> simp only [isiD] at e
  · cases r; cases e; exact fin "NoneType" (by decide) (.base .non) (by cases cl <;> cases hT <;> decide +kernel)
  · cases r; cases e; exact fin "bool" (by decide) (.base (.bl _)) (by cases cl <;> cases hT <;> decide +kernel)
  · cases r; cases e; exact fin "int" (by decide) (.base (.int _)) (by cases cl <;> cases hT <;> decide +kernel)
  · cases r; cases e; exact fin "str" (by decide) (.base (.str _)) (by cases cl <;> cases hT <;> decide +kernel)
  · obtain ⟨a, vs, rfl, h, q⟩ := r
    cases e
    refine fin "tuple" (by decide) ?_ (by cases cl <;> cases hT <;> decide +kernel)
    rcases h with ⟨o, h, _⟩ | ⟨o, its, n, h1, h2, _⟩
    · exact .fTuple h
    · rw [← hK] at h1
      exact .kTuple h1 h2
  · cases r
    split at e
    · rename_i g
      cases e
      obtain ⟨vs, h, q⟩ := ra _ _ g
      exact fin "list" (by decide) (.base (.lst h)) (by cases cl <;> cases hT <;> decide +kernel)
    · rename_i g
      cases e
      obtain ⟨vs, h, q⟩ := ra _ _ g
      exact fin "dict" (by decide) (.base (.dK h)) (by cases cl <;> cases hT <;> decide +kernel)
    · cases e
  · obtain ⟨a, vs, rfl, h, q⟩ := r
    cases e
    refine fin "list" (by decide) ?_ (by cases cl <;> cases hT <;> decide +kernel)
    rcases h with ⟨o, h⟩ | ⟨o, its, n, h1, h2, _⟩
    · exact .base (.frz h)
    · rw [← hK] at h1
      exact .kList h1 h2
  · obtain ⟨a, ws, rfl, ⟨o, h⟩, ek, q⟩ := r
    cases e
    exact fin "dict" (by decide) (.fDict h) (by cases cl <;> cases hT <;> decide +kernel)
theorem s_isi (hK : X.K = c.K) {cl : Cl} {T : String} {x : Str} {px p : Pos} (hT : clT cl = some T) (ha : PE X e (lE c (ev G ea) W)) (hn : noStar e = true) (hg : Gl X "isinstance") (hm : X.mg "isinstance" = none) (hgT : Gl X x) (hmT : X.mg x = none) (hv : bootBuiltins x = some (.type T)) (hnn : x ≠ "__name__") (hdb : (x == ("__debug__" : Str)) = false) :
    PE X (.Call (.Name "isinstance" p) [e, .Name x px] [] pos) (lE c (ev G (.isi ea cl)) W) := by
  refine PE.imp (pe_callB call_isi hg hm (by decide +kernel) (pa_cons ha (pa_cons (pe_bltn (v := .ty T) hgT hmT hv rfl hnn hdb) pa_nil) (starEach_cons hn)) (by decide) (by decide) (starEach_cons hn) (starEach_plain (by rfl))) fun σ H Q h => ?_
  obtain ⟨σd, A, Xd, Qd, rs, ra, t, f, fw⟩ := h
  refine lE_go rs .refl ra fw t fun d A1 v H1 q1 m1 ra1 rx => ?_
  split at q1
  · rename_i b eb
    obtain ⟨ty, h1, h2⟩ := tyx_of hK ra1 rx hT eb
    exact ⟨v, .ty T, ty, .type T, b, rfl, .ty T, h1, h2, (f.from m1).here q1 ra1 rfl⟩
  · exact q1.elim
end
end Py

namespace Py
open PySem PySem.Spec PyProof.Rows L2
section
variable {c : RC} {X : Cx} {W : WX} {G : GEnv} {a b e : Expr} {ea eb : E} {es : List Expr} {ees : Es} {pos : Pos}
/-! ### methods of built-in types -/
def mName : MT → Str
  | .append => "append" | .pop => "pop" | .index => "index" | .extend => "extend" | .insert => "insert" | .remove => "remove" | .get => "get" | .items => "items" | .values => "values" | .join => "join" | .split => "split"
  | .partition => "partition" | .count => "count" | .upper => "upper" | .clear => "clear" | .strip => "strip" | .replace => "replace" | .setdefault => "setdefault"
/-- the value is of that built-in type and has no dict of its own -/
def tyW (K : PySem.W.Frag) (T : String) (x : V) (H : Hp) : Prop := tyV K T x H ∨ (T = "tuple" ∧ ∃ p vs, x = .ref p ∧ TupAt K H p vs) ∨ (T = "dict" ∧ ∃ p kvs, x = .ref p ∧ Rd H p (.dK kvs))
theorem tyW_is {pins : List (Addr × Obj)} {σ : L2.St} {H : Hp} {s : Shared} {T : String} {x : V} {v : Value} (I : Inv X pins σ H s) (r : RelV x v) (ty : tyW X.K T x H) :
    s.TypeIs v T ∧ ∀ a, v = .ref a → ∃ ob, s.heap.get? a = some ob ∧ ob.dict = none := by
  rcases ty with ty | ⟨rfl, p, vs, rfl, h⟩ | ⟨rfl, p, kvs, rfl, h⟩
  · exact tyV_is I r ty
  · cases r
    rcases h with ⟨o, h, d, _⟩ | ⟨o, its, n, h1, h2, ⟨d, _⟩, _⟩
    · obtain ⟨g1, g2, its2, r2, o', g3, g4, n2, g5⟩ := I.hok p _ h
      rw [g1] at g3
      cases g3
      exact ⟨⟨_, g1, g4⟩, fun a e => by cases e; exact ⟨_, g1, d⟩⟩
    · exact ⟨⟨_, I.kIn p o h1, h2⟩, fun a e => by cases e; exact ⟨_, I.kIn p o h1, d⟩⟩
  · cases r
    obtain ⟨_, _, vs, _, dd⟩ := dk_rd I.hok h
    refine ⟨dd.typeIs, fun b q => ?_⟩
    cases q
    obtain ⟨ob, _, _, h1, h2, _⟩ := dd
    exact ⟨ob, h1, h2.2.1⟩
/-- a method: its type's, its rule -/
def MInfo (X : Cx) (T : String) (name : Str) (r : V → List V → Hp → VK → Prop) : Prop :=
  PlainAttrs T ∧ ∃ id, Slot T name id ∧ typeOf (.builtin id) = pure (.type "method_descriptor") ∧ MtR X id r
def tBX (X : Cx) (name : Str) (to : TE) (t : TA) : TE := fun σ H Q => to σ H fun x H1 => ∃ T r, MInfo X T name r ∧ tyW X.K T x H1 ∧ t σ H1 fun xs H2 => r x xs H2 Q
theorem backTo_few {env : Env} {pos : Pos} : ∀ {es : List Expr}, es.all noStar = true → (backTo pos (starEach es env)).all (fun x => !x.1) = true
  | [], _ => rfl
  | e :: es, h => by
    rw [List.all_cons, Bool.and_eq_true] at h
    rw [starEach_cons h.1]
    show (true && (backTo pos (starEach es env)).all (fun x => !x.1)) = true
    rw [backTo_few h.2]
    rfl
def tBX0 (X : Cx) (name : Str) (to : TE) : TE := fun σ H Q => to σ H fun x H1 => ∃ T r, MInfo X T name r ∧ tyW X.K T x H1 ∧ r x [] H1 Q
theorem pe_bmX0 {o : Expr} {to : TE} {name : Str} {apos cpos : Pos} (ho : PE X o to) (hbase : attributeBase o name X.env (eval o X.env) = eval o X.env)
    (hline : (apos.endLine == cpos.line) = true) : PE X (.Call (.Attribute o name apos) [] [] cpos) (tBX0 X name to) := by
  refine ⟨fun pins s σ H Q I h => ?_⟩
  refine wpAny_Call_method0_late hbase hline (thn (ho.run pins s σ H _ I h) fun v s1 ⟨x, H1, I1, r1, T, r, ⟨pa, id, slot, hty, hm⟩, ty, q1⟩ => ?_)
  obtain ⟨h1, h2⟩ := tyW_is I1 r1 ty
  exact ⟨T, id, pa, slot, hty, h1, h2, Calls.callWith_builtin rfl (PySem.evalArgs_none (hm pins s1 σ H1 x [] v [] Q I1 r1 .nil q1))⟩
theorem pe_bmX {o : Expr} {to : TE} {t : TA} {name : Str} {apos cpos : Pos} (ho : PE X o to) (ha : PA X (e :: es) t) (hbase : attributeBase o name X.env (eval o X.env) = eval o X.env) (h2 : (e :: es).all noStar = true) (hl : (e :: es).length < 30)
    (hline : (apos.endLine == cpos.line) = true) : PE X (.Call (.Attribute o name apos) (e :: es) [] cpos) (tBX X name to t) := by
  have hfew : ((backTo cpos (starEach (e :: es) X.env)).all (fun x => !x.1) && (backToKw cpos (keywordEach [] X.env)).all (fun x => x.1.isSome)
      && decide ((e :: es).length + ([] : List Keyword).length + (if ([] : List Keyword).isEmpty then 0 else 1) < 30)) = true := by
    rw [backTo_few h2]
    simpa [keywordEach, backToKw] using hl
  refine ⟨fun pins s σ H Q I h => ?_⟩
  refine wpAny_Call_method_late hbase hfew hline rfl (thn (ho.run pins s σ H _ I h) fun v s1 ⟨x, H1, I1, r1, T, r, ⟨pa, id, slot, hty, hm⟩, ty, q1⟩ => ?_)
  obtain ⟨k1, k2⟩ := tyW_is I1 r1 ty
  refine ⟨T, id, pa, slot, hty, k1, k2, ?_⟩
  have hA := ha.run cpos pins s1 σ H1 _ I1 q1
  have h3 : noStar e = true ∧ es.all noStar = true := by rw [List.all_cons, Bool.and_eq_true] at h2; exact h2
  rw [starEach_cons h3.1] at hA ⊢
  refine Calls.callWith_builtin (by have := starEach_plain (env := X.env) (pos := cpos) h2; rw [starEach_cons h3.1] at this; exact this) (Calls.evalArgs_plain ?_)
  exact thn hA fun us s2 ⟨vs, H2, I2, r2, q2⟩ => hm pins s2 σ H2 x vs v us Q I2 r1 r2 q2
theorem minfo_list (hK : X.K = c.K) : ∀ m, listM m = true → MInfo X "list" (mName m) (lRl c (rML m))
  | .append, _ => ⟨PySem.F.plainAttrs_list, _, PySem.F.slot_list_append, PySem.F.type_list_append, m_append⟩
  | .pop, _ => ⟨PySem.F.plainAttrs_list, _, PySem.F.slot_list_pop, PySem.F.type_list_pop, m_pop⟩
  | .extend, _ => ⟨PySem.F.plainAttrs_list, _, PySem.F.slot_list_extend, PySem.F.type_list_extend, m_extend hK⟩
  | .insert, _ => ⟨PySem.F.plainAttrs_list, _, PySem.F.slot_list_insert, PySem.F.type_list_insert, m_insert⟩
  | .index, _ => ⟨PySem.F.plainAttrs_list, _, PySem.F.slot_list_index, PySem.F.type_list_index, m_index hK⟩
  | .remove, _ => ⟨PySem.F.plainAttrs_list, _, PySem.F.slot_list_remove, PySem.F.type_list_remove, m_remove⟩
  | .count, _ => ⟨PySem.F.plainAttrs_list, _, PySem.F.slot_list_count, PySem.F.type_list_count, m_count hK⟩
theorem minfo_fl (hK : X.K = c.K) : ∀ m, m = .index ∨ m = .count → MInfo X "list" (mName m) (lRf c (rMF m))
  | _, .inl rfl => ⟨PySem.F.plainAttrs_list, _, PySem.F.slot_list_index, PySem.F.type_list_index, m_findex hK⟩
  | _, .inr rfl => ⟨PySem.F.plainAttrs_list, _, PySem.F.slot_list_count, PySem.F.type_list_count, m_fcount hK⟩
theorem minfo_get (hu : X.A.units + 1 < cLine) : MInfo X "dict" (mName .get) (lRg c) := ⟨PySem.F.plainAttrs_dict, _, PySem.F.slot_dict_get, PySem.F.type_dict_get, m_get hu⟩
theorem minfo_tup (hK : X.K = c.K) : MInfo X "tuple" (mName .index) (lRt c (rMT .index)) := ⟨PySem.F.plainAttrs_tuple, _, PySem.F.slot_tuple_index, PySem.F.type_tuple_index, m_tindex hK⟩
/-- what the receiver's kind gives -/
theorem meth_kind (hK : X.K = c.K) (hu : X.A.units + 1 < cLine) {m : MT} {A1 : AH} {H1 : Hp} {x : D} {v : V} {k : RK} (ra : RelA c A1 H1) (rx : RelD c.K H1 x v) (e : recv A1 x = some k)
    (hk : okRK k m = true) : ∃ T r, MInfo X T (mName m) r ∧ tyW X.K T v H1 ∧ ∀ H2 A2 xs ds Q Qd, Mono H1 H2 → RelA c A2 H2 → RelDs c.K H2 ds xs → rM k m x ds A2 Qd → Fol c H2 Q Qd → r v xs H2 Q := by
  cases x <;> simp only [recv] at e <;> try (cases e; done)
  · cases e; cases m <;> cases hk
  · cases e
    obtain ⟨a, vs, rfl, h, q⟩ := rx
    have em : m = .index := by
      cases m <;> first | rfl | cases hk
    subst em
    exact ⟨"tuple", _, minfo_tup hK, .inr (.inl ⟨rfl, a, vs, rfl, by rw [hK]; exact h⟩), fun H2 A2 xs ds Q Qd m2 ra2 rd r f => ⟨A2, _, ds, Qd, ra2, ⟨a, vs, rfl, m2.tup h, RelDs.mono m2 _ _ q⟩, rd, r, f⟩⟩
  · cases rx
    split at e <;> cases e
    · rename_i e1
      obtain ⟨vs, h, q⟩ := ra _ _ e1
      refine ⟨"list", _, minfo_list hK m hk, .inl (.inl ⟨rfl, vs, SqL.of h⟩), fun H2 A2 xs ds Q Qd m2 ra2 rd r f => ?_⟩
      simp only [rM] at r
      split at r
      · rename_i e2
        exact ⟨A2, _, _, ds, Qd, ra2, rfl, e2, rd, r, f⟩
      · exact r.elim
    · rename_i e1
      obtain ⟨ws, h, q⟩ := ra _ _ e1
      have em : m = .get := by cases m <;> first | rfl | cases hk
      subst em
      refine ⟨"dict", lRg c, minfo_get hu, .inr (.inr ⟨rfl, _, ws, rfl, .inl h⟩), fun H2 A2 xs ds Q Qd m2 ra2 rd r f => ?_⟩
      simp only [rM] at r
      split at r
      · rename_i e2
        exact ⟨A2, .ref _, _, ds, Qd, ra2, rfl, e2, rd, r, f⟩
      · exact r.elim
  · cases e
    obtain ⟨a, vs, rfl, h, q⟩ := rx
    have em : m = .index ∨ m = .count ∨ ∀ ds xs A Q, rMF m ds xs A Q → False := by
      cases m <;> first | exact .inl rfl | exact .inr (.inl rfl) | exact .inr (.inr fun _ _ _ _ z => z)
    rcases em with em | em | em
    · refine ⟨"list", _, minfo_fl hK m (.inl em), .inl (.inl ⟨rfl, vs, by rw [hK]; exact h.sql⟩), fun H2 A2 xs ds Q Qd m2 ra2 rd r f => ⟨A2, _, ds, Qd, ra2, ⟨a, vs, rfl, m2.fl h, RelDs.mono m2 _ _ q⟩, rd, r, f⟩⟩
    · refine ⟨"list", _, minfo_fl hK m (.inr em), .inl (.inl ⟨rfl, vs, by rw [hK]; exact h.sql⟩), fun H2 A2 xs ds Q Qd m2 ra2 rd r f => ⟨A2, _, ds, Qd, ra2, ⟨a, vs, rfl, m2.fl h, RelDs.mono m2 _ _ q⟩, rd, r, f⟩⟩
    · exact ⟨"list", _, minfo_list hK m hk, .inl (.inl ⟨rfl, vs, by rw [hK]; exact h.sql⟩), fun H2 A2 xs ds Q Qd m2 ra2 rd r f => (em _ _ _ _ r).elim⟩
  · cases e
    have em : m = .get := by cases m <;> first | rfl | cases hk
    subst em
    obtain ⟨a, ws, rfl, ⟨o, h⟩, ek, q⟩ := rx
    refine ⟨"dict", lRg c, minfo_get hu, .inr (.inr ⟨rfl, a, ws, rfl, .inr ⟨o, h⟩⟩), fun H2 A2 xs ds Q Qd m2 ra2 rd r f => ?_⟩
    exact ⟨A2, .fd _ _, _, ds, Qd, ra2, ⟨a, ws, rfl, ⟨o, m2 a o _ trivial h⟩, ek, RelDs.mono m2 _ _ q⟩, rfl, rd, r, f⟩
theorem s_mth (hK : X.K = c.K) (hu : X.A.units + 1 < cLine) {m : MT} {o : Expr} {eo : E} {apos cpos : Pos} (ho : PE X o (lE c (ev G eo) W)) (ha : PA X (e :: es) (lA c (evs G ees) W)) (hbase : attributeBase o (mName m) X.env (eval o X.env) = eval o X.env) (h2 : (e :: es).all noStar = true) (hl : (e :: es).length < 30)
    (hline : (apos.endLine == cpos.line) = true) : PE X (.Call (.Attribute o (mName m) apos) (e :: es) [] cpos) (lE c (ev G (.mth m eo ees)) W) := by
  refine PE.imp (pe_bmX ho ha hbase h2 hl hline) fun σ H Q h => ?_
  obtain ⟨σd, A, Xd, Qd, rs, ra, t, f, fw⟩ := h
  refine lE_go rs .refl ra fw t fun x A1 v H1 q1 m1 ra1 rx => ?_
  split at q1
  · rename_i k ek
    obtain ⟨T, r, mi, ty, go⟩ := meth_kind (X := X) hK hu ra1 rx ek q1.1
    exact ⟨T, r, mi, ty, lA_go rs m1 ra1 fw q1.2 fun ds A2 vs H2 q2 m2 ra2 r2 => go H2 A2 vs ds Q Qd m2 ra2 r2 q2 (f.from (m1.trans m2))⟩
  · exact q1.elim
theorem s_mth0 (hK : X.K = c.K) (hu : X.A.units + 1 < cLine) {m : MT} {o : Expr} {eo : E} {apos cpos : Pos} (ho : PE X o (lE c (ev G eo) W)) (hbase : attributeBase o (mName m) X.env (eval o X.env) = eval o X.env)
    (hline : (apos.endLine == cpos.line) = true) : PE X (.Call (.Attribute o (mName m) apos) [] [] cpos) (lE c (ev G (.mth m eo .nil)) W) := by
  refine PE.imp (pe_bmX0 ho hbase hline) fun σ H Q h => ?_
  obtain ⟨σd, A, Xd, Qd, rs, ra, t, f, fw⟩ := h
  refine lE_go rs .refl ra fw t fun x A1 v H1 q1 m1 ra1 rx => ?_
  split at q1
  · rename_i k ek
    obtain ⟨T, r, mi, ty, go⟩ := meth_kind (X := X) hK hu ra1 rx ek q1.1
    exact ⟨T, r, mi, ty, go H1 A1 [] [] Q Qd .refl ra1 rfl q1.2 (f.from m1)⟩
  · exact q1.elim

/-! ### what is walked -/
/-- the items that come, the objects that must stand meanwhile -/
def lIx (c : RC) (tup : Bool) (H0 : Hp) (J : It) (ds : List D) (Gd : Gd) : Prop := ∀ (i : Nat) H A, Mono H0 H → RelA c A H → holds Gd A →
  (∀ d, ds[i]? = some d → J.go i H ∧ ∀ x H', J.yld i H x H' → Mono H H' ∧ RelA c A H' ∧ ((tup = false ∧ RelD c.K H' d x) ∨ (tup = true ∧ ∃ es a vs, d = .tup es ∧ x = .ref a ∧ SqT c.K H' a vs ∧ RelDs c.K H' es vs))) ∧
  (ds.length = i → J.stop i H)
def FolI (c : RC) (tup : Bool) (H : Hp) (R : It → Hp → Prop) (Rd : List D → Gd → AH → Prop) : Prop := ∀ ds Gd A' J H', Rd ds Gd A' → Mono H H' → RelA c A' H' → lIx c tup H' J ds Gd → R J H'
def lI (c : RC) (tup : Bool) (t : DSt → AH → Dx → (List D → Gd → AH → Prop) → Prop) (W : WX) : TI := fun σ H R => ∃ σd A Xd Rd, RelS c.K H σd σ ∧ RelA c A H ∧ t σd A Xd Rd ∧ FolI c tup H R Rd ∧ FolW c H (fun cl d H' => W cl d σ H') Xd
/-- a list or a tuple, as it comes -/
theorem pi_seq {tg l : Expr} {tl : TE} (hl : PE X l tl) : PI X tg l (fun σ H R => tl σ H fun x H1 => (∃ a, x = .ref a ∧ (∃ xs, SqL X.K H1 a xs) ∧ R (Itl X.K a) H1) ∨ (∃ a, x = .ref a ∧ (∃ xs, SqT X.K H1 a xs) ∧ R (Itt X.K a) H1)) := by
  refine ⟨fun pins s σ H R I h => ?_⟩
  refine thn (hl.run pins s σ H _ I h) fun v s1 ⟨x, H1, I1, r1, q1⟩ => ?_
  rcases q1 with ⟨a, e, ⟨xs, hq⟩, q⟩ | ⟨a, e, ⟨xs, hq⟩, q⟩
  · subst e
    cases r1
    obtain ⟨its, rv, p, hz⟩ := I1.list hq
    refine wpAny_pyIter_list p.isList ?_
    refine ⟨s1.heap.objs.size, [s1.heap.objs.size], _, _, H1, rfl, I1.kept (t' := s1.toks) fun b o e => Heap.get?_push_of_some _ e, turn_list a _, ⟨_, Heap.get?_push_size _ rfl, rfl, rfl⟩, fun b hb => ?_, q⟩
    have e : b = s1.heap.objs.size := by simpa using hb
    subst e
    exact I1.fpOk (Nat.le_refl _) (I1.hok.fresh (Nat.le_refl _))
  · subst e
    cases r1
    obtain ⟨its, rv, p, hz⟩ := I1.tuple hq
    refine wpAny_pyIter_tuple (show s1.heap.IsTuple a its.toArray from p) ?_
    refine ⟨s1.heap.objs.size, [s1.heap.objs.size], _, _, H1, rfl, I1.kept (t' := s1.toks) fun b o e => Heap.get?_push_of_some _ e, turn_tuple a _, ⟨_, Heap.get?_push_size _ rfl, rfl, rfl⟩, fun b hb => ?_, q⟩
    have e : b = s1.heap.objs.size := by simpa using hb
    subst e
    exact I1.fpOk (Nat.le_refl _) (I1.hok.fresh (Nat.le_refl _))
theorem ix_tup_ok {H : Hp} {a : Addr} {vs : List V} {ds : List D} (h : TupAt c.K H a vs) (r : RelDs c.K H ds vs) : lIx c false H (Itt c.K a) ds [] := fun i H1 A m ra _ => by
  have h1 : SqT c.K H1 a vs := (m.tup h).sqt
  refine ⟨fun d e => ?_, fun hi => ⟨vs, h1, by rw [r.length]; exact Nat.le_of_eq hi⟩⟩
  obtain ⟨v, hv, rv⟩ := r.get e
  refine ⟨⟨vs, v, h1, hv⟩, fun x H' ⟨e1, e2⟩ => ?_⟩
  subst e1
  have e3 := e2 vs h1
  rw [hv] at e3
  cases e3
  exact ⟨.refl, ra, .inl ⟨rfl, RelD.mono m _ _ rv⟩⟩
theorem ix_fl_ok {H : Hp} {a : Addr} {vs : List V} {ds : List D} (h : FlAt c.K H a vs) (r : RelDs c.K H ds vs) : lIx c false H (Itl c.K a) ds [] := fun i H1 A m ra _ => by
  have h1 : SqL c.K H1 a vs := (m.fl h).sql
  refine ⟨fun d e => ?_, fun hi => ⟨vs, h1, by rw [r.length]; exact Nat.le_of_eq hi⟩⟩
  obtain ⟨v, hv, rv⟩ := r.get e
  refine ⟨⟨vs, v, h1, hv⟩, fun x H' ⟨e1, e2⟩ => ?_⟩
  subst e1
  have e3 := e2 vs h1
  rw [hv] at e3
  cases e3
  exact ⟨.refl, ra, .inl ⟨rfl, RelD.mono m _ _ rv⟩⟩
theorem ix_lst_ok {H : Hp} {a : Addr} {ds : List D} : lIx c false H (Itl c.K a) ds [(a, .lst ds)] := fun i H1 A m ra hg => by
  have e := hg (a, .lst ds) (by simp)
  obtain ⟨vs, h1, r⟩ := ra _ _ e
  have h1 : Rd H1 a (.lst vs) := .inl h1
  refine ⟨fun d e => ?_, fun hi => ⟨vs, .inl h1, by rw [r.length]; exact Nat.le_of_eq hi⟩⟩
  obtain ⟨v, hv, rv⟩ := r.get e
  refine ⟨⟨vs, v, .inl h1, hv⟩, fun x H' ⟨e1, e2⟩ => ?_⟩
  subst e1
  have e3 := e2 vs (.inl h1)
  rw [hv] at e3
  cases e3
  exact ⟨.refl, ra, .inl ⟨rfl, rv⟩⟩
theorem ix_keys_ok {H : Hp} {a : Addr} {o : Obj} {ws : List (Key × V)} (h : H a = some (.frz o (.dK ws))) : lIx c false H (Itk a o ws) ((ws.map (·.1)).map keyD) [] := fun i H1 A m ra _ => by
  have h1 : H1 a = some (.frz o (.dK ws)) := m a o _ trivial h
  refine ⟨fun d e => ?_, fun hi => ⟨h1, by simpa using Nat.le_of_eq hi⟩⟩
  rw [List.map_map, List.getElem?_map] at e
  cases ew : ws[i]? with
  | none => rw [ew] at e; cases e
  | some p =>
    rw [ew] at e
    cases e
    refine ⟨⟨h1, (List.getElem?_eq_some_iff.mp ew).1⟩, fun x H' z => ?_⟩
    obtain ⟨e1, k, v, e2, e3⟩ := z
    rw [ew] at e2
    cases e2
    subst e1 e3
    exact ⟨.refl, ra, .inl ⟨rfl, keyD_rel _⟩⟩
theorem ix_vals_ok {H : Hp} {a : Addr} {o : Obj} {ws : List (Key × V)} {ds : List D} (h : H a = some (.frz o (.dK ws))) (r : RelDs c.K H ds (ws.map (·.2))) : lIx c false H (Itd a o ws) ds [] := fun i H1 A m ra _ => by
  have h1 : H1 a = some (.frz o (.dK ws)) := m a o _ trivial h
  have hl := r.length
  rw [List.length_map] at hl
  refine ⟨fun d e => ?_, fun hi => ⟨h1, by omega⟩⟩
  obtain ⟨v, hv, rv⟩ := r.get e
  rw [List.getElem?_map] at hv
  cases ew : ws[i]? with
  | none => rw [ew] at hv; cases hv
  | some p =>
    rw [ew] at hv
    cases hv
    refine ⟨⟨h1, (List.getElem?_eq_some_iff.mp ew).1⟩, fun x H' z => ?_⟩
    obtain ⟨e1, k, e2⟩ := z
    rw [ew] at e2
    cases e2
    subst e1
    exact ⟨.refl, ra, .inl ⟨rfl, RelD.mono m _ _ rv⟩⟩
theorem itemsD_get {ks : List Key} {ds : List D} {i : Nat} {d : D} (h : (itemsD ks ds)[i]? = some d) : ∃ k e, ks[i]? = some k ∧ ds[i]? = some e ∧ d = .tup [keyD k, e] := by
  unfold itemsD at h
  rw [List.getElem?_zipWith] at h
  cases q : ks[i]? with
  | none => rw [q] at h; cases h
  | some x =>
    rw [q] at h
    cases q2 : ds[i]? with
    | none => rw [q2] at h; cases h
    | some y => rw [q2] at h; cases h; exact ⟨x, y, rfl, rfl, rfl⟩
theorem ix_items_ok {H : Hp} {a : Addr} {o : Obj} {ws : List (Key × V)} {ds : List D} (h : H a = some (.frz o (.dK ws))) (r : RelDs c.K H ds (ws.map (·.2))) : lIx c true H (Iti a o ws) (itemsD (ws.map (·.1)) ds) [] := fun i H1 A m ra _ => by
  have h1 : H1 a = some (.frz o (.dK ws)) := m a o _ trivial h
  have hl := r.length
  rw [List.length_map] at hl
  refine ⟨fun d e => ?_, fun hi => ⟨h1, by unfold itemsD at hi; rw [List.length_zipWith, List.length_map] at hi; omega⟩⟩
  obtain ⟨k, y, ek, ey, rfl⟩ := itemsD_get e
  obtain ⟨v, hv, rv⟩ := r.get ey
  rw [List.getElem?_map] at hv ek
  cases ew : ws[i]? with
  | none => rw [ew] at hv; cases hv
  | some p =>
    rw [ew] at hv ek
    cases hv
    cases ek
    refine ⟨⟨h1, (List.getElem?_eq_some_iff.mp ew).1⟩, ?_⟩
    rintro x H' ⟨T, k, v, e2, rfl, hT, rfl⟩
    rw [ew] at e2
    cases e2
    exact ⟨Mono.fresh hT, ra.aside hT, .inr ⟨rfl, _, T, _, rfl, rfl, .inl (.inl upd_same), _, _, rfl, keyD_rel _, _, _, rfl, RelD.mono (Mono.fresh hT) _ _ (RelD.mono m _ _ rv), rfl⟩⟩
theorem i_items {elts : List Expr} {kk : Nat} {tpos apos cpos : Pos} (he : PE X e (lE c (ev G ea) W)) (hbase : attributeBase e "items" X.env (eval e X.env) = eval e X.env) (hline : (apos.endLine == cpos.line) = true) :
    PI X (.Tuple elts kk tpos) (.Call (.Attribute e "items" apos) [] [] cpos) (lI c true (evI G (.items ea)) W) := by
  refine PI.imp (pi_items he hbase hline) fun σ H R h => ?_
  obtain ⟨σd, A, Xd, Rd, rs, ra, t, f, fw⟩ := h
  refine lE_go rs .refl ra fw t fun x A1 v H1 q1 m1 ra1 rx => ?_
  cases x <;> try exact q1.elim
  obtain ⟨a, ws, rfl, ⟨o, h⟩, ek, q⟩ := rx
  subst ek
  exact ⟨a, o, ws, rfl, h, f _ _ _ _ _ q1 m1 ra1 (ix_items_ok h q)⟩
theorem i_values {tg : Expr} {apos cpos : Pos} (he : PE X e (lE c (ev G ea) W)) (hbase : attributeBase e "values" X.env (eval e X.env) = eval e X.env) (hline : (apos.endLine == cpos.line) = true) :
    PI X tg (.Call (.Attribute e "values" apos) [] [] cpos) (lI c false (evI G (.values ea)) W) := by
  refine PI.imp (pi_values he hbase hline) fun σ H R h => ?_
  obtain ⟨σd, A, Xd, Rd, rs, ra, t, f, fw⟩ := h
  refine lE_go rs .refl ra fw t fun x A1 v H1 q1 m1 ra1 rx => ?_
  cases x <;> try exact q1.elim
  obtain ⟨a, ws, rfl, ⟨o, h⟩, ek, q⟩ := rx
  exact ⟨a, o, ws, rfl, h, f _ _ _ _ _ q1 m1 ra1 (ix_vals_ok h q)⟩
/-- what is walked as it comes: a list, a tuple, a dict that stands still, a text -/
theorem pi_seqD {tg l : Expr} {tl : TE} (hl : PE X l tl) : PI X tg l (fun σ H R => tl σ H fun x H1 => ((∃ a, x = .ref a ∧ (∃ xs, SqL X.K H1 a xs) ∧ R (Itl X.K a) H1) ∨ (∃ a, x = .ref a ∧ (∃ xs, SqT X.K H1 a xs) ∧ R (Itt X.K a) H1)) ∨ ∃ d o kvs, x = .ref d ∧ H1 d = some (.frz o (.dK kvs)) ∧ R (Itk d o kvs) H1) := by
  refine ⟨fun pins s σ H R I h => ?_⟩
  have hE : PE X l (fun σ H Q => tl σ H Q) := hl
  refine thn (hl.run pins s σ H _ I h) fun v s1 ⟨x, H1, I1, r1, q1⟩ => ?_
  rcases q1 with q1 | ⟨d, o, kvs, rfl, hd, q⟩
  · rcases q1 with ⟨a, e, ⟨xs, hq⟩, q⟩ | ⟨a, e, ⟨xs, hq⟩, q⟩
    · subst e
      cases r1
      obtain ⟨its, rv, p, hz⟩ := I1.list hq
      refine wpAny_pyIter_list p.isList ?_
      refine ⟨s1.heap.objs.size, [s1.heap.objs.size], _, _, H1, rfl, I1.kept (t' := s1.toks) fun b o e => Heap.get?_push_of_some _ e, turn_list a _, ⟨_, Heap.get?_push_size _ rfl, rfl, rfl⟩, fun b hb => ?_, q⟩
      have e : b = s1.heap.objs.size := by simpa using hb
      subst e
      exact I1.fpOk (Nat.le_refl _) (I1.hok.fresh (Nat.le_refl _))
    · subst e
      cases r1
      obtain ⟨its, rv, p, hz⟩ := I1.tuple hq
      refine wpAny_pyIter_tuple (show s1.heap.IsTuple a its.toArray from p) ?_
      refine ⟨s1.heap.objs.size, [s1.heap.objs.size], _, _, H1, rfl, I1.kept (t' := s1.toks) fun b o e => Heap.get?_push_of_some _ e, turn_tuple a _, ⟨_, Heap.get?_push_size _ rfl, rfl, rfl⟩, fun b hb => ?_, q⟩
      have e : b = s1.heap.objs.size := by simpa using hb
      subst e
      exact I1.fpOk (Nat.le_refl _) (I1.hok.fresh (Nat.le_refl _))
  · obtain rfl : v = Value.ref d := r1
    obtain ⟨hs, hgd, hx, es, ep, vs, hdt, hsz, kv, hm⟩ := I1.frzK hd
    refine iter_keys hs hgd hx hdt (pi_one (tk := s1.toks) I1 _ (turn_keys _ hdt) ⟨_, Heap.get?_push_size _ rfl, rfl, ?_⟩ q)
    rw [hsz] <;> rfl
theorem i_seq (hK : X.K = c.K) {tg : Expr} (he : PE X e (lE c (ev G ea) W)) : PI X tg e (lI c false (evI G (.seq ea)) W) := by
  refine PI.imp (pi_seqD he) fun σ H R h => ?_
  obtain ⟨σd, A, Xd, Rd, rs, ra, t, f, fw⟩ := h
  refine lE_go rs .refl ra fw t fun x A1 v H1 q1 m1 ra1 rx => ?_
  cases x <;> try exact q1.elim
  · obtain ⟨a, vs, rfl, h, q⟩ := rx
    exact .inl (.inr ⟨a, rfl, ⟨vs, by rw [hK]; exact h.sqt⟩, by rw [hK]; exact f _ _ _ _ _ q1 m1 ra1 (ix_tup_ok h q)⟩)
  · cases rx
    dsimp only at q1
    split at q1
    · rename_i e1
      obtain ⟨vs, h, q⟩ := ra1 _ _ e1
      exact .inl (.inl ⟨_, rfl, ⟨vs, SqL.of h⟩, by rw [hK]; exact f _ _ _ _ _ q1 m1 ra1 ix_lst_ok⟩)
    · exact q1.elim
  · obtain ⟨a, vs, rfl, h, q⟩ := rx
    exact .inl (.inl ⟨a, rfl, ⟨vs, by rw [hK]; exact h.sql⟩, by rw [hK]; exact f _ _ _ _ _ q1 m1 ra1 (ix_fl_ok h q)⟩)
  · obtain ⟨a, ws, rfl, ⟨o, h⟩, ek, q⟩ := rx
    subst ek
    exact .inr ⟨a, o, ws, rfl, h, f _ _ _ _ _ q1 m1 ra1 (ix_keys_ok h)⟩
theorem rng_get {lo : Int} {n i : Nat} {d : D} (h : (rngD lo n)[i]? = some d) : i < n ∧ d = .int (lo + (i : Nat)) := by
  unfold rngD at h
  rw [List.getElem?_map] at h
  by_cases hi : i < n
  · rw [List.getElem?_range hi] at h
    cases h
    exact ⟨hi, rfl⟩
  · rw [List.getElem?_eq_none (by simpa using hi)] at h
    cases h
theorem ix_rng_ok {H : Hp} {lo : Int} {n : Nat} : lIx c false H (Itr lo n) (rngD lo n) [] := fun i H1 A m ra _ => by
  refine ⟨fun d e => ?_, fun hi => ?_⟩
  · obtain ⟨hi, rfl⟩ := rng_get e
    exact ⟨hi, fun x H' ⟨e1, e2⟩ => by subst e1 e2; exact ⟨.refl, ra, .inl ⟨rfl, rfl⟩⟩⟩
  · have : (rngD lo n).length = n := by simp [rngD]
    rw [this] at hi
    exact Nat.le_of_eq hi
theorem i_rng1 {tg : Expr} {p : Pos} (hg : Gl X "range") (hm : X.mg "range" = none) (ha : PE X a (lE c (ev G ea) W)) (hn : noStar a = true) : PI X tg (.Call (.Name "range" p) [a] [] pos) (lI c false (evI G (.rng1 ea)) W) := by
  refine PI.imp (pi_range1 hg hm (pa_cons ha pa_nil (starEach_cons hn)) (starEach_cons hn)) fun σ H R h => ?_
  obtain ⟨σd, A, Xd, Rd, rs, ra, t, f, fw⟩ := h
  refine lE_go rs .refl ra fw t fun x A1 v H1 q1 m1 ra1 rx => ?_
  cases x <;> try exact q1.elim
  cases rx
  exact ⟨_, rfl, q1.1, q1.2.1, f _ _ _ _ _ q1.2.2 m1 ra1 ix_rng_ok⟩
theorem i_rng2 {tg : Expr} {p : Pos} (hg : Gl X "range") (hm : X.mg "range" = none) (ha : PE X a (lE c (ev G ea) W)) (hb : PE X b (lE c (ev G eb) W)) (hn : noStar a = true) (hn2 : noStar b = true) : PI X tg (.Call (.Name "range" p) [a, b] [] pos) (lI c false (evI G (.rng2 ea eb)) W) := by
  refine PI.imp (pi_range2 hg hm (pa_cons ha (pa_cons hb pa_nil (starEach_cons hn2)) (starEach_cons hn)) (by rw [starEach_cons hn, starEach_cons hn2]; rfl) (starEach_cons hn2)) fun σ H R h => ?_
  obtain ⟨σd, A, Xd, Rd, rs, ra, t, f, fw⟩ := h
  refine lE_go rs .refl ra fw t fun x A1 v H1 q1 m1 ra1 rx => ?_
  refine lE_go rs m1 ra1 fw q1 fun y A2 w H2 q2 m2 ra2 ry => ?_
  cases x <;> cases y <;> try exact q2.elim
  cases rx
  cases ry
  exact ⟨_, _, rfl, q2.1, f _ _ _ _ _ q2.2 (m1.trans m2) ra2 ix_rng_ok⟩
end
end Py

namespace Py
open PySem PySem.Spec PyProof.Rows L2
section
variable {c : RC} {X : Cx} {W : WX} {G : GEnv} {a b e : Expr} {ea eb : E} {es : List Expr} {ees : Es} {pos : Pos}
/-! ### targets -/
def gNs : List (Nat × Str) → TGs
  | [] => gNil
  | p :: r => gCons (gName p.1) (gNs r)
def gOf (K : PySem.W.Frag) : Tg → TG
  | .name i _ => gName i
  | .tup xs => gTup K xs.length (gNs xs)
def Tg.ixs : Tg → List Nat
  | .name i _ => [i]
  | .tup xs => xs.map (·.1)
theorem wipe_set {σ : L2.St} {i : Nat} {v : Option V} : ∀ {vs : List Nat}, i ∈ vs → wipe (σ.set i v) vs = wipe σ vs
  | j :: vs, h => by
    show (wipe (σ.set i v) vs).set j none = (wipe σ vs).set j none
    by_cases hi : i ∈ vs
    · rw [wipe_set hi]
    · have e : i = j := by
        rcases List.mem_cons.mp h with e | e
        · exact e
        · exact absurd e hi
      subst e
      have gen : ∀ (ws : List Nat) (τ : L2.St), i ∉ ws → (wipe (τ.set i v) ws).set i none = (wipe τ ws).set i none := fun ws => by
        induction ws with
        | nil => intro τ _; show (τ.set i v).set i none = τ.set i none; rw [List.set_set]
        | cons w ws ih =>
          intro τ hw
          have h1 : i ≠ w := fun e => hw (by simp [e])
          have h2 : i ∉ ws := fun e => hw (by simp [e])
          show ((wipe (τ.set i v) ws).set w none).set i none = ((wipe τ ws).set w none).set i none
          rw [List.set_comm _ _ h1.symm, ih τ h2, List.set_comm _ _ h1]
      exact gen vs σ hi
theorem wipe_wipe {σ : L2.St} : ∀ vs : List Nat, wipe (wipe σ vs) vs = wipe σ vs := fun vs => by
  have gen : ∀ (ws : List Nat), (∀ w ∈ ws, w ∈ vs) → wipe (wipe σ ws) vs = wipe σ vs := fun ws => by
    induction ws with
    | nil => intro _; rfl
    | cons w ws ih =>
      intro h
      show wipe ((wipe σ ws).set w none) vs = wipe σ vs
      rw [wipe_set (h w (by simp)), ih fun u hu => h u (by simp [hu])]
  exact gen vs fun _ h => h
theorem gNs_go {H : Hp} : ∀ {xs : List (Nat × Str)} {ds : List D} {vs : List V} {σd : DSt} {σ : L2.St} {Q : L2.St → Hp → Prop}, ds.length = xs.length → RelDs c.K H ds vs → RelS c.K H σd σ →
    (∀ σ', RelS c.K H ((xs.zip ds).foldl (fun σ p => σ.set p.1.1 (some p.2)) σd) σ' → (∀ ws : List Nat, (∀ p ∈ xs, p.1 ∈ ws) → wipe σ' ws = wipe σ ws) → Q σ' H) → gNs xs vs σ H Q
  | [], [], _, σd, σ, Q, _, r, rs, k => by
    cases r.nil_of
    exact ⟨rfl, k σ rs fun _ _ => rfl⟩
  | p :: xs, d :: ds, _, σd, σ, Q, hl, ⟨v, w, e, h, r⟩, rs, k => by
    subst e
    refine ⟨v, w, rfl, ?_⟩
    refine gNs_go (xs := xs) (ds := ds) (by simpa using hl) r (rs.set h) fun σ' r' hw => k σ' r' fun ws hm => ?_
    rw [hw ws fun q hq => hm q (by simp [hq]), wipe_set (hm p (by simp))]
  | [], _ :: _, _, _, _, _, hl, _, _, _ => by simp at hl
  | _ :: _, [], _, _, _, _, hl, _, _, _ => by simp at hl
/-- a value comes to a target -/
theorem gOf_go {tg : Tg} {d : D} {v : V} {H : Hp} {σd : DSt} {σ : L2.St} {k : DSt → Prop} {Q : L2.St → Hp → Prop} {tup : Bool}
    (rd : (tup = false ∧ RelD c.K H d v) ∨ (tup = true ∧ ∃ es a vs, d = .tup es ∧ v = .ref a ∧ SqT c.K H a vs ∧ RelDs c.K H es vs)) (ht : tup = true → ∃ xs, tg = .tup xs) (rs : RelS c.K H σd σ) (b : bindT tg d σd k)
    (q : ∀ σd' σ', k σd' → RelS c.K H σd' σ' → (∀ ws : List Nat, (∀ i ∈ tg.ixs, i ∈ ws) → wipe σ' ws = wipe σ ws) → Q σ' H) : gOf c.K tg v σ H Q := by
  cases tg with
  | name i x =>
    rcases rd with ⟨_, rd⟩ | ⟨e, _⟩
    · exact q _ _ b (rs.set rd) fun ws hm => wipe_set (hm i (by simp [Tg.ixs]))
    · obtain ⟨xs, z⟩ := ht e
      cases z
  | tup xs =>
    obtain ⟨es, a, vs, rfl, rfl, h, r⟩ : ∃ es a vs, d = .tup es ∧ v = .ref a ∧ SqT c.K H a vs ∧ RelDs c.K H es vs := by
      rcases rd with ⟨_, rd⟩ | ⟨_, h⟩
      · cases d <;> try exact b.elim
        obtain ⟨a, vs, e, h, r⟩ := rd
        exact ⟨_, a, vs, rfl, e, h.sqt, r⟩
      · exact h
    obtain ⟨hl, b⟩ := b
    refine ⟨a, vs, rfl, h, by rw [r.length]; exact hl, ?_⟩
    exact gNs_go hl r rs fun σ' r' hw => q _ _ b r' fun ws hm => hw ws fun p hp => hm p.1 (List.mem_map.mpr ⟨p, hp, rfl⟩)
theorem names_each {env : Env} : ∀ {es : List Expr}, (∀ e ∈ es, ∃ x p, e = .Name x p) → (assignEach es env).length = es.length ∧ (assignEach es env).findIdx? (·.1) = none
  | [], _ => ⟨rfl, rfl⟩
  | e :: es, h => by
    obtain ⟨x, p, rfl⟩ := h e (by simp)
    obtain ⟨h1, h2⟩ := names_each (env := env) (es := es) fun e he => h e (by simp [he])
    have e1 : assignEach (.Name x p :: es) env = (false, assign (.Name x p) env) :: assignEach es env := rfl
    rw [e1]
    refine ⟨by simp [h1], ?_⟩
    rw [List.findIdx?_cons]
    simp [h2]
/-- where names may be stored -/
def StoreOk (X : Cx) (i : Nat) (x : Str) : Prop := X.N[i]? = some x ∧ Loc X.env.scope x ∧ (X.fn x = true ∨ X.env.scope.names.lookup x = some .local)
inductive NamesAre (X : Cx) : List (Nat × Str) → List Expr → Prop where
  | nil : NamesAre X [] []
  | cons {i : Nat} {x : Str} {p : Pos} {xs : List (Nat × Str)} {es : List Expr} (h : StoreOk X i x) (r : NamesAre X xs es) : NamesAre X ((i, x) :: xs) (.Name x p :: es)
theorem NamesAre.pgs (hN : X.N.Nodup) : ∀ {xs : List (Nat × Str)} {es : List Expr}, NamesAre X xs es → PGs X es (gNs xs)
  | _, _, .nil => pgs_nil
  | _, _, .cons h r => pgs_cons (pg_name hN h.1 h.2.1 h.2.2) (NamesAre.pgs hN r) rfl
theorem NamesAre.names : ∀ {xs : List (Nat × Str)} {es : List Expr}, NamesAre X xs es → (∀ e ∈ es, ∃ x p, e = .Name x p) ∧ es.length = xs.length
  | _, _, .nil => ⟨by simp, rfl⟩
  | _, _, .cons h r => by
    obtain ⟨h1, h2⟩ := NamesAre.names r
    exact ⟨fun e he => (List.mem_cons.mp he).elim (fun z => ⟨_, _, z⟩) (h1 e), by simp [h2]⟩
inductive TgIs (X : Cx) : Tg → Expr → Prop where
  | name {i : Nat} {x : Str} {p : Pos} (h : StoreOk X i x) : TgIs X (.name i x) (.Name x p)
  | tup {xs : List (Nat × Str)} {es : List Expr} {k : Nat} {p : Pos} (h : NamesAre X xs es) : TgIs X (.tup xs) (.Tuple es k p)
theorem TgIs.pg (hc : X.calm = true) (hN : X.N.Nodup) {tg : Tg} {e : Expr} (h : TgIs X tg e) : PG X e (gOf X.K tg) := by
  cases h with
  | name h => exact pg_name hN h.1 h.2.1 h.2.2
  | tup h =>
    obtain ⟨h1, h2⟩ := h.names
    obtain ⟨h3, h4⟩ := names_each (env := X.env) h1
    exact pg_tup hc (h.pgs hN) (by rw [h3, h2]) h4

theorem RelA.lst {A : AH} {H : Hp} {a : Addr} {ds : List D} {vs : List V} (r : RelA c A H) (m : Mono H (L2.upd H a (.lst vs))) (h : RelDs c.K (L2.upd H a (.lst vs)) ds vs) : RelA c (Py.put A a (.lst ds)) (L2.upd H a (.lst vs)) := r.put m ⟨vs, upd_same, h⟩
/-! ### list comprehensions -/
def notSet : Expr → Bool
  | .Set .. => false
  | _ => true
theorem noFold {env : Env} (h : notSet e = true) (x : Value) : foldedSetIterable e env x = pure x := by
  cases e <;> first | rfl | cases h
theorem pts_of {X : Cx} {cs : List Expr} {ecs : Es} (h : (cs = [] ∧ ecs = .nil) ∨ ∃ e ec, cs = [e] ∧ ecs = .cons ec .nil ∧ PT X e (lT c (evT G ec) W)) : PTs X cs (lT c (evC G ecs) W) := by
  rcases h with ⟨rfl, rfl⟩ | ⟨e, ec, rfl, rfl, h⟩
  · refine ⟨fun pins s σ H Q I q => pts_nil.run pins s σ H Q I ?_⟩
    obtain ⟨σd, A, Xd, Qd, rs, ra, t, f, fw⟩ := q
    exact f true A H t .refl ra
  · exact ⟨fun pins s σ H Q I q => (pts_one h).run pins s σ H Q I q⟩
def noW : WX := fun _ _ _ _ => False
theorem noW_fol {H : Hp} {σ : L2.St} : FolW c H (fun cl d H' => noW cl d σ H') noX := fun n A' C H' h _ _ _ => h.elim
inductive FzN (Q : L2.St → Hp → Prop) : L2.St → Hp → Prop
  | here {σ : L2.St} {H : Hp} : Q σ H → FzN Q σ H
  | step {σ : L2.St} {H : Hp} {p : Addr} {u : HO} : Mut (some u) → H p = some u → (∀ o, FzN Q σ (L2.upd H p (.frz o u))) → FzN Q σ H
theorem FzN.of {Q : L2.St → Hp → Prop} {σ : L2.St} {i : Nat} {v : V} {H : Hp} (h : FzS (fun x H1 => Q (σ.set i (some x)) H1) v H) : FzN Q (σ.set i (some v)) H := by
  induction h with
  | here q => exact .here q
  | step mu e _ ih => exact .step mu e ih
theorem PS.fzN {X : Cx} {st : Stmt} {t : TS} (h : PS X st t) : PS X st (fun D σ H => t { D with nx := FzN D.nx } σ H) := ⟨fun pins s σ H D I q => thn (h.run pins s σ H _ I q) fun f s' z => by
  cases f with
  | next =>
    obtain ⟨σ', H', I', q⟩ := z
    show ∃ σ' H', _
    induction q with
    | here q => exact ⟨_, _, I', q⟩
    | step mu e _ ih =>
      obtain ⟨o, I2⟩ := I'.lock e mu
      exact ih o I2
  | _ => exact z⟩
theorem rem_same {A : AH} {a : Addr} : rem A a a = none := by unfold rem; simp
theorem rem_sub {A : AH} {a : Addr} : Sub (rem A a) A := fun b o e => by
  unfold rem at e
  split at e
  · cases e
  · exact e
theorem Fol.outL {H : Hp} {Q : VK} {Qd : Dk} {A : AH} {L : Addr} (f : Fol c H Q Qd) (q : outL L A Qd) (ra : RelA c A H) : FzS Q (.ref L) H := by
  rw [outL_eq] at q
  rcases q with q | ⟨ds, e, q⟩
  · exact .here (f.here q ra rfl)
  · obtain ⟨vs, h, r⟩ := ra _ _ e
    refine .step (u := .lst vs) trivial h fun o => .here ?_
    have m : Mono H (L2.upd H L (.frz o (.lst vs))) := Mono.frz h trivial
    exact f (.fl ds) (rem A L) _ _ q m (frz_rel (rem_sub.rel ra) rem_same m) ⟨L, vs, rfl, .inl ⟨o, upd_same⟩, r.mono m⟩
theorem Fol.outD {H : Hp} {Q : VK} {Qd : Dk} {A : AH} {L : Addr} (f : Fol c H Q Qd) (q : outD L A Qd) (ra : RelA c A H) : FzS Q (.ref L) H := by
  rw [outD_eq] at q
  rcases q with q | ⟨kvs, e, q⟩
  · exact .here (f.here q ra rfl)
  · obtain ⟨ws, h, r⟩ := ra _ _ e
    refine .step (u := .dK ws) trivial h fun o => .here ?_
    have m : Mono H (L2.upd H L (.frz o (.dK ws))) := Mono.frz h trivial
    exact f (.fd _ _) (rem A L) _ _ q m (frz_rel (rem_sub.rel ra) rem_same m) ⟨L, ws, rfl, ⟨o, upd_same⟩, r.keys, (r.mono m).vals⟩
theorem lc_lift (hK : X.K = c.K) {tg : Tg} {it : I} {elt : E} {cs : Es} {own : List (Str × Nat)} {tup : Bool} (ht : tup = true → ∃ xs, tg = .tup xs) (hown : ∀ i ∈ tg.ixs, i ∈ own.map (·.2)) {σ : L2.St} {H : Hp} {Q Q' : VK} (hQ : ∀ v H, FzS Q v H → Q' v H) (h : lE c (ev G (.lc elt tg it cs own)) W σ H Q) :
    tLc (lI c tup (evI G it) W) (gOf X.K tg) (lT c (evC G cs) noW) (lE c (ev G elt) noW) (own.map (·.2)) σ H Q' := by
  obtain ⟨σd, A, Xd, Qd, rs, ra, t, f, fw⟩ := h
  refine ⟨σd, A, Xd, _, rs, ra, t, fun ds Gd A1 J H1 q1 m1 ra1 ix L hL => ?_, fw⟩
  have q2 := q1 L (RelA_none ra1 hL)
  have mL := Mono.fresh (o := .lst []) hL
  refine ⟨fun i m H2 => m = ds.length - i ∧ i ≤ ds.length ∧ ∃ A2, Mono H1 H2 ∧ RelA c A2 H2 ∧ lcR Gd tg (fun σ' A' R => evC G cs σ' A' noX R) (fun σ' A' R => (ev2 G elt).1 σ' A' noX R) (wipeD σd own) L (fun A2 => outL L A2 Qd) (ds.drop i) A2,
    ⟨ds.length, by simp, Nat.zero_le _, _, mL, RelA.lst (ds := []) ra1 mL rfl, q2⟩, ?_⟩
  rintro i m H2 ⟨rfl, hi, A2, m2, ra2, q⟩
  by_cases hlt : i < ds.length
  · obtain ⟨d, ed⟩ : ∃ d, ds[i]? = some d := ⟨_, List.getElem?_eq_getElem hlt⟩
    have e1 : ds.drop i = d :: ds.drop (i + 1) := by
      rw [List.drop_eq_getElem_cons hlt]
      rw [List.getElem?_eq_getElem hlt] at ed
      cases ed
      rfl
    rw [e1, lcR_cons] at q
    obtain ⟨hg, q⟩ := q
    obtain ⟨go, yl⟩ := (ix i H2 A2 m2 ra2 hg).1 d ed
    refine .inr ⟨go, fun H' => ∃ A2, Mono H1 H' ∧ RelA c A2 H' ∧ lcR Gd tg (fun σ' A' R => evC G cs σ' A' noX R) (fun σ' A' R => (ev2 G elt).1 σ' A' noX R) (wipeD σd own) L (fun A2 => outL L A2 Qd) (ds.drop (i + 1)) A2,
      fun H' p => ⟨ds.length - (i + 1), by omega, rfl, hlt, p⟩, fun x H3 y => ?_⟩
    obtain ⟨m3, ra3, rd⟩ := yl x H3 y
    have m13 := m1.trans (m2.trans m3)
    rw [hK]
    refine gOf_go rd ht ((rs.mono m13).wipe own) q fun σd' σ' k r' hw => ⟨?_, ?_⟩
    · rw [hw _ hown, wipe_wipe]
    · refine ⟨σd', A2, noX, _, r', ra3, k, fun bb A4 H4 q4 m4 ra4 => ?_, noW_fol⟩
      cases bb with
      | true =>
        rw [if_pos rfl]
        refine ⟨σd', A4, noX, _, r'.mono m4, ra4, q4, fun y A5 w H5 q5 m5 ra5 rw' => ?_, noW_fol⟩
        dsimp only at q5
        split at q5
        · rename_i acc e5
          obtain ⟨ws, h5, r5⟩ := ra5 _ _ e5
          have m6 := Mono.lst (o := .lst (ws ++ [w])) h5
          refine ⟨ws, h5, by rw [r5.length]; exact q5.1, _, ((((m2.trans m3).trans m4).trans m5).trans m6), RelA.lst ra5 m6 ((r5.app (.one rw')).mono m6), q5.2⟩
        · exact q5.elim
      | false =>
        rw [if_neg Bool.false_ne_true]
        exact ⟨A4, (m2.trans m3).trans m4, ra4, q4⟩
  · have e1 : i = ds.length := by omega
    subst e1
    rw [List.drop_length, lcR_nil] at q
    exact .inl ⟨(ix _ H2 A2 m2 ra2 q.1).2 rfl, hQ _ _ ((f.from (m1.trans m2)).outL q.2 ra2)⟩
theorem s_lc (hK : X.K = c.K) (hc : X.calm = true) (hN : X.N.Nodup) {tg iter elt : Expr} {cs : List Expr} {scope : Scope} {etg : Tg} {eit : I} {eelt : E} {ecs : Es} {own : List (Str × Nat)} {tup : Bool} (ht : tup = true → ∃ xs, etg = .tup xs) (hown : ∀ i ∈ etg.ixs, i ∈ own.map (·.2))
    (hi : PI X tg iter (lI c tup (evI G eit) W)) (ok : BlkOk X.N X.env.scope scope own)
    (hg : ∀ (s : Shared) (H : Hp) (C : Addr) (cl : List (Str × Addr)) (fp : List Addr), TgIs (X.blk s H scope (compEnvC scope cl C X.env) fp) etg tg)
    (hcs : ∀ (s : Shared) (H : Hp) (C : Addr) (cl : List (Str × Addr)) (fp : List Addr), PTs (X.blk s H scope (compEnvC scope cl C X.env) fp) cs (lT c (evC G ecs) noW))
    (he : ∀ (s : Shared) (H : Hp) (C : Addr) (cl : List (Str × Addr)) (fp : List Addr), PE (X.blk s H scope (compEnvC scope cl C X.env) fp) elt (lE c (ev G eelt) noW)) (hs : notSet iter = true) :
    PE X (.ListComp elt [⟨tg, iter, cs, 0⟩] scope pos) (lE c (ev G (.lc eelt etg eit ecs own)) W) :=
  PE.imp (PE.fz (pe_lc hc hN hi ok (fun s H C cl fp => TgIs.pg (X := X.blk s H scope (compEnvC scope cl C X.env) fp) hc hN (hg s H C cl fp)) hcs he (noFold hs))) fun _ _ _ h => lc_lift hK ht hown (fun _ _ q => q) h
/-- name = [..] on one line -/
theorem s_setLc (hK : X.K = c.K) (hc : X.calm = true) (hN : X.N.Nodup) {i : Nat} {y : Str} {py spos : Pos} (hy : X.N[i]? = some y) (hyl : X.env.scope.names.lookup y = some .local) {tg iter elt : Expr} {cs : List Expr} {scope : Scope} {etg : Tg} {eit : I} {eelt : E} {ecs : Es} {own : List (Str × Nat)} {tup : Bool}
    (hsw : swapsWith (.ListComp elt [⟨tg, iter, cs, 0⟩] scope pos) (some (.Name y py)) spos.line X.env = pure true) (ht : tup = true → ∃ xs, etg = .tup xs) (hown : ∀ i ∈ etg.ixs, i ∈ own.map (·.2))
    (hi : PI X tg iter (lI c tup (evI G eit) W)) (ok : BlkOk X.N X.env.scope scope own)
    (hg : ∀ (s : Shared) (H : Hp) (C : Addr) (cl : List (Str × Addr)) (fp : List Addr), TgIs (X.blk s H scope (compEnvC scope cl C X.env) fp) etg tg)
    (hcs : ∀ (s : Shared) (H : Hp) (C : Addr) (cl : List (Str × Addr)) (fp : List Addr), PTs (X.blk s H scope (compEnvC scope cl C X.env) fp) cs (lT c (evC G ecs) noW))
    (he : ∀ (s : Shared) (H : Hp) (C : Addr) (cl : List (Str × Addr)) (fp : List Addr), PE (X.blk s H scope (compEnvC scope cl C X.env) fp) elt (lE c (ev G eelt) noW)) (hs : notSet iter = true) :
    PS X (.Assign [.Name y py] (.ListComp elt [⟨tg, iter, cs, 0⟩] scope pos) spos) (tAsg (lE c (ev G (.lc eelt etg eit ecs own)) W) (gName i)) :=
  PS.imp (PS.fzN (ps_setLc hc hN hy hyl hsw hi ok (fun s H C cl fp => TgIs.pg (X := X.blk s H scope (compEnvC scope cl C X.env) fp) hc hN (hg s H C cl fp)) hcs he (noFold hs))) fun D σ H h => lc_lift hK ht hown (Q' := fun x H1 => FzN D.nx (σ.set i (some x)) H1) (fun v H q => FzN.of q) h

/-! ### list(range ..), tuple(range ..) -/
theorem rg_rel {K : PySem.W.Frag} {H : Hp} {lo : Int} {n : Nat} : RelDs K H (rngD lo n) ((List.range n).map fun i => V.int (lo + (i : Nat))) := by
  refine RelDs.mk (by simp [rngD]) fun i d v e1 e2 => ?_
  obtain ⟨hi, rfl⟩ := rng_get e1
  rw [List.getElem?_map, List.getElem?_range hi] at e2
  cases e2
  rfl
/-! ### statements -/
def FolS (c : RC) (H : Hp) (Q : L2.St → Hp → Prop) (Qd : DSt → AH → Prop) : Prop := ∀ σd A' σ' H', Qd σd A' → Mono H H' → RelA c A' H' → RelS c.K H' σd σ' → Q σ' H'
def FolE (c : RC) (H : Hp) (W : WX) (Xd : DSt → Str → AH → Prop) : Prop := ∀ σd n A' C σ' H', Xd σd n A' → c.cl n = some C → Mono H H' → RelA c A' H' → RelS c.K H' σd σ' → W (.ref C) none σ' H'
def lS (c : RC) (t : DEnds → DSt → AH → Prop) (W : WX) : TS := fun D σ H => ∃ σd A Z, RelS c.K H σd σ ∧ RelA c A H ∧ t Z σd A ∧ FolS c H D.nx Z.nx ∧ Fol c H D.rt Z.rt ∧ FolS c H D.bk Z.bk ∧ FolS c H D.ct Z.ct ∧ FolE c H W Z.ex
theorem FolS.from {H H1 : Hp} {Q : L2.St → Hp → Prop} {Qd : DSt → AH → Prop} (f : FolS c H Q Qd) (m : Mono H H1) : FolS c H1 Q Qd := fun d A v H' q m' ra r => f d A v H' q (m.trans m') ra r
theorem FolE.from {H H1 : Hp} {Xd : DSt → Str → AH → Prop} (f : FolE c H W Xd) (m : Mono H H1) : FolE c H1 W Xd := fun d n A C v H' q cl m' ra r => f d n A C v H' q cl (m.trans m') ra r
theorem FolE.at {H : Hp} {Xd : DSt → Str → AH → Prop} {σd : DSt} {σ : L2.St} (f : FolE c H W Xd) (rs : RelS c.K H σd σ) : FolW c H (fun cl d H' => W cl d σ H') (Xd σd) := fun n A C H' q cl m ra => f σd n A C σ H' q cl m ra (rs.mono m)
theorem st_asg {i : Nat} {x : Str} {p : Pos} (hN : X.N.Nodup) (h : StoreOk X i x) (he : PE X e (lE c (ev G ea) W)) (hs : swapsWith e (some (.Name x p)) pos.line X.env = pure false) : PS X (.Assign [.Name x p] e pos) (lS c (evS G (.asg i x ea)) W) := by
  refine PS.imp (ps_set (i := i) hN h.1 h.2.1 he hs h.2.2) fun D σ H h => ?_
  obtain ⟨σd, A, Z, rs, ra, t, n, r, b, k, fe⟩ := h
  exact lE_go rs .refl ra (fe.at rs) t fun d A1 v H1 q1 m1 ra1 rd => n _ _ _ _ q1 m1 ra1 ((rs.mono m1).set rd)
/-- the same where the list comes by a comprehension -/
theorem st_asgLc {i : Nat} {x : Str} {s : Stmt} (h : PS X s (tAsg (lE c (ev G ea) W) (gName i))) : PS X s (lS c (evS G (.asg i x ea)) W) := by
  refine PS.imp h fun D σ H h => ?_
  obtain ⟨σd, A, Z, rs, ra, t, n, r, b, k, fe⟩ := h
  exact lE_go rs .refl ra (fe.at rs) t fun d A1 v H1 q1 m1 ra1 rd => n _ _ _ _ q1 m1 ra1 ((rs.mono m1).set rd)
theorem st_exp (he : PE X e (lE c (ev G ea) W)) (hs : swapsWith e none pos.line X.env = pure false) : PS X (.Expr e pos) (lS c (evS G (.exp ea)) W) := by
  refine PS.imp (ps_expr he hs) fun D σ H h => ?_
  obtain ⟨σd, A, Z, rs, ra, t, n, r, b, k, fe⟩ := h
  exact lE_go rs .refl ra (fe.at rs) t fun d A1 v H1 q1 m1 ra1 rd => n _ _ _ _ q1 m1 ra1 (rs.mono m1)
theorem st_ret (he : PE X e (lE c (ev G ea) W)) : PS X (.Return (some e) pos) (lS c (evS G (.ret ea)) W) := by
  refine PS.imp (ps_ret he) fun D σ H h => ?_
  obtain ⟨σd, A, Z, rs, ra, t, n, r, b, k, fe⟩ := h
  exact lE_go rs .refl ra (fe.at rs) t r
theorem st_ret0 : PS X (.Return none pos) (lS c (evS G .ret0) W) := by
  refine PS.imp ps_retN fun D σ H h => ?_
  obtain ⟨σd, A, Z, rs, ra, t, n, r, b, k, fe⟩ := h
  exact r.here t ra rfl
theorem st_pass : PS X (.Pass pos) (lS c (evS G .pass) W) := by
  refine PS.imp ps_pass fun D σ H h => ?_
  obtain ⟨σd, A, Z, rs, ra, t, n, r, b, k, fe⟩ := h
  exact n _ _ _ _ t .refl ra rs
theorem st_brk : PS X (.Break pos) (lS c (evS G .brk) W) := by
  refine PS.imp ps_break fun D σ H h => ?_
  obtain ⟨σd, A, Z, rs, ra, t, n, r, b, k, fe⟩ := h
  exact b _ _ _ _ t .refl ra rs
theorem st_cnt : PS X (.Continue pos) (lS c (evS G .cnt) W) := by
  refine PS.imp ps_continue fun D σ H h => ?_
  obtain ⟨σd, A, Z, rs, ra, t, n, r, b, k, fe⟩ := h
  exact k _ _ _ _ t .refl ra rs
theorem lS_go {t : DEnds → DSt → AH → Prop} {D : Ends} {σ : L2.St} {H H1 : Hp} {σd : DSt} {A : AH} {Z : DEnds} (rs : RelS c.K H1 σd σ) (m : Mono H H1) (ra : RelA c A H1) (h : t Z σd A) (n : FolS c H1 D.nx Z.nx) (r : Fol c H1 D.rt Z.rt) (b : FolS c H1 D.bk Z.bk) (k : FolS c H1 D.ct Z.ct) (fe : FolE c H1 W Z.ex) : lS c t W D σ H1 :=
  ⟨σd, A, Z, rs, ra, h, n, r, b, k, fe⟩
/-- what is said of the plain state alone -/
theorem ss_wipe {ws : List Nat} {ss : List Stmt} {ess : Ss} (h2 : PSs X ss (lS c (evSs G ess) W)) : PSs X ss (lS c (evSs G (.cons (.wipe ws) ess)) W) := by
  refine PSs.imp h2 fun D σ H h => ?_
  obtain ⟨σd, A, Z, rs, ra, t, n, r, b, k, fe⟩ := h
  exact ⟨_, A, Z, RelS.wipN ws rs, ra, t, n, r, b, k, fe⟩
theorem ss_frz {i : Nat} {ss : List Stmt} {ess : Ss} (h2 : PSs X ss (lS c (evSs G ess) W)) : PSs X ss (lS c (evSs G (.cons (.frz i) ess)) W) := by
  refine ⟨fun pins s σ H DD I h => ?_⟩
  obtain ⟨σd, A, Z, rs, ra, t, n, r, b, k, fe⟩ := h
  have t : evS G (.frz i) (Z.then_ fun σ A => evSs G ess Z σ A) σd A := t
  simp only [evS] at t
  split at t
  · rename_i p ep
    obtain ⟨v, ev, rv⟩ := rs.2 i _ ep
    cases rv
    have go : ∀ (u : HO) (d : D), Mut (some u) → H p = some u → (∀ (o : Obj), Mono H (L2.upd H p (.frz o u)) → RelD c.K (L2.upd H p (.frz o u)) d (.ref p)) → evSs G ess Z (σd.set i (some d)) (rem A p) → wpAny (model X.prog X.w) X.A (execs ss X.env) (SP X pins DD) X.xe s := fun u d mu hu hr t => by
      obtain ⟨o, I2⟩ := I.lock hu mu
      have m := Mono.frz (o := o) hu mu
      refine h2.run pins s σ _ DD I2 ⟨σd.set i (some d), rem A p, Z, ?_, frz_rel (rem_sub.rel ra) rem_same m, t, n.from m, r.from m, b.from m, k.from m, fe.from m⟩
      have q := (rs.mono m).set (i := i) (hr o m)
      have e2 : σ.set i (some (.ref p)) = σ := by
        apply List.ext_getElem?
        intro j
        by_cases hj : i = j
        · subst hj
          have hl := (List.getElem?_eq_some_iff.mp ev).1
          rw [List.getElem?_set_self hl, ev]
        · rw [List.getElem?_set_ne hj]
      rwa [e2] at q
    split at t
    · rename_i ds e
      obtain ⟨vs, h, q⟩ := ra _ _ e
      exact go (.lst vs) (.fl ds) trivial h (fun o m => ⟨p, vs, rfl, .inl ⟨o, upd_same⟩, q.mono m⟩) t
    · rename_i kvs e
      obtain ⟨ws, h, q⟩ := ra _ _ e
      exact go (.dK ws) (.fd _ _) trivial h (fun o m => ⟨p, ws, rfl, ⟨o, upd_same⟩, q.keys, (q.mono m).vals⟩) t
    · exact t.elim
  · exact t.elim
theorem ss_nil : PSs X [] (lS c (evSs G .nil) W) := by
  refine PSs.imp pss_nil fun D σ H h => ?_
  obtain ⟨σd, A, Z, rs, ra, t, n, r, b, k, fe⟩ := h
  exact n _ _ _ _ t .refl ra rs
theorem ss_cons {s : Stmt} {ss : List Stmt} {es : S} {ess : Ss} (h1 : PS X s (lS c (evS G es) W)) (h2 : PSs X ss (lS c (evSs G ess) W)) : PSs X (s :: ss) (lS c (evSs G (.cons es ess)) W) := by
  refine PSs.imp (pss_cons h1 h2) fun D σ H h => ?_
  obtain ⟨σd, A, Z, rs, ra, t, n, r, b, k, fe⟩ := h
  refine ⟨σd, A, _, rs, ra, t, fun σd' A' σ' H' q m ra' rs' => ?_, r, b, k, fe⟩
  exact ⟨σd', A', Z, rs', ra', q, n.from m, r.from m, b.from m, k.from m, fe.from m⟩
theorem st_if {d : Expr} {ed : E} {aa bb : List Stmt} {ea eb : Ss} (hd : PT X d (lT c (evT G ed) W)) (ha : PSs X aa (lS c (evSs G ea) W)) (hb : PSs X bb (lS c (evSs G eb) W)) : PS X (.If d aa bb pos) (lS c (evS G (.if_ ed ea eb)) W) := by
  refine PS.imp (ps_if hd ha hb) fun D σ H h => ?_
  obtain ⟨σd, A, Z, rs, ra, t, n, r, b, k, fe⟩ := h
  refine lT_go rs .refl ra (fe.at rs) t fun bt A1 H1 q1 m1 ra1 => ?_
  cases bt with
  | true => exact ⟨σd, A1, Z, rs.mono m1, ra1, q1, n.from m1, r.from m1, b.from m1, k.from m1, fe.from m1⟩
  | false => exact ⟨σd, A1, Z, rs.mono m1, ra1, q1, n.from m1, r.from m1, b.from m1, k.from m1, fe.from m1⟩
theorem st_whl {ws : List Nat} {d : Expr} {ed : E} {bb : List Stmt} {eb : Ss} (hp : PassesOwn (model X.prog X.w) X.A X.env X.xe) (hd : PT X d (lT c (evT G ed) W)) (hb : PSs X bb (lS c (evSs G eb) W)) : PS X (.While d bb [] pos) (lS c (evS G (.whl ed eb ws)) W) := by
  refine PS.imp (ps_while hp hd hb) fun D σ H h => ?_
  obtain ⟨σd, A, Z, rs, ra, ⟨n0, t⟩, n, r, b, k, fe⟩ := h
  refine ⟨fun m σ1 H1 => ∃ σd1 A1, Mono H H1 ∧ RelS c.K H1 σd1 σ1 ∧ RelA c A1 H1 ∧ whlR (fun σ A X Q => evT G ed σ A X Q) ws (fun Z σ A => evSs G eb Z σ A) Z m σd1 A1, ⟨n0, σd, A, .refl, rs, ra, t⟩, ?_⟩
  rintro m σ1 H1 ⟨σd1, A1, m1, rs1, ra1, t1⟩
  cases m with
  | zero =>
    rw [whlR_zero] at t1
    exact t1.elim
  | succ m =>
    rw [whlR_succ] at t1
    have rs1 := RelS.wipN ws rs1
    refine lT_go rs1 .refl ra1 ((fe.from m1).at rs1) t1 fun bt A2 H2 q2 m2 ra2 => ?_
    cases bt with
    | true =>
      rw [if_pos rfl]
      refine ⟨fun σ3 H3 => ∃ σd1 A1, Mono H H3 ∧ RelS c.K H3 σd1 σ3 ∧ RelA c A1 H3 ∧ whlR (fun σ A X Q => evT G ed σ A X Q) ws (fun Z σ A => evSs G eb Z σ A) Z m σd1 A1, fun σ3 H3 q => ⟨m, Nat.lt_succ_self _, q⟩, ?_⟩
      have m12 := m1.trans m2
      exact ⟨_, A2, _, rs1.mono m2, ra2, q2, fun σd3 A3 σ3 H3 q3 m3 ra3 rs3 => ⟨σd3, A3, m12.trans m3, rs3, ra3, q3⟩, r.from m12, n.from m12, fun σd3 A3 σ3 H3 q3 m3 ra3 rs3 => ⟨σd3, A3, m12.trans m3, rs3, ra3, q3⟩, fe.from m12⟩
    | false =>
      rw [if_neg Bool.false_ne_true]
      exact n _ _ _ _ q2 (m1.trans m2) ra2 (rs1.mono m2)
theorem st_for {ws : List Nat} (hK : X.K = c.K) (hc : X.calm = true) (hN : X.N.Nodup) {tg iter : Expr} {bb : List Stmt} {etg : Tg} {eit : I} {eb : Ss} {tup : Bool} (ht : tup = true → ∃ xs, etg = .tup xs) (hp : PassesOwn (model X.prog X.w) X.A X.env X.xe) (hi : PI X tg iter (lI c tup (evI G eit) W)) (hg : TgIs X etg tg) (hb : PSs X bb (lS c (evSs G eb) W)) (hs : notSet iter = true) :
    PS X (.For tg iter bb [] pos) (lS c (evS G (.for_ etg eit eb ws)) W) := by
  refine PS.imp (ps_for hp hc hi (hg.pg hc hN) hb (noFold hs)) fun D σ H h => ?_
  obtain ⟨σd, A, Z, rs, ra, t, n, r, b, k, fe⟩ := h
  refine ⟨σd, A, _, _, rs, ra, t, fun ds Gd A1 J H1 q1 m1 ra1 ix => ?_, fe.at rs⟩
  refine ⟨fun i m σ2 H2 => m = ds.length - i ∧ i ≤ ds.length ∧ ∃ σd2 A2, Mono H1 H2 ∧ RelS c.K H2 σd2 σ2 ∧ RelA c A2 H2 ∧ forR Gd etg ws (fun Z σ A => evSs G eb Z σ A) Z (ds.drop i) σd2 A2,
    ⟨ds.length, by simp, Nat.zero_le _, σd, A1, .refl, rs.mono m1, ra1, q1⟩, ?_⟩
  rintro i m σ2 H2 ⟨rfl, hi, σd2, A2, m2, rs2, ra2, q⟩
  by_cases hlt : i < ds.length
  · obtain ⟨d, ed⟩ : ∃ d, ds[i]? = some d := ⟨_, List.getElem?_eq_getElem hlt⟩
    have e1 : ds.drop i = d :: ds.drop (i + 1) := by
      rw [List.drop_eq_getElem_cons hlt]
      rw [List.getElem?_eq_getElem hlt] at ed
      cases ed
      rfl
    rw [e1, forR_cons] at q
    obtain ⟨hg', q⟩ := q
    obtain ⟨go, yl⟩ := (ix i H2 A2 m2 ra2 hg').1 d ed
    refine .inr ⟨go, fun σ3 H3 => ∃ σd2 A2, Mono H1 H3 ∧ RelS c.K H3 σd2 σ3 ∧ RelA c A2 H3 ∧ forR Gd etg ws (fun Z σ A => evSs G eb Z σ A) Z (ds.drop (i + 1)) σd2 A2,
      fun σ3 H3 p => ⟨ds.length - (i + 1), by omega, rfl, hlt, p⟩, fun x H3 y => ?_⟩
    obtain ⟨m3, ra3, rd⟩ := yl x H3 y
    have m13 := m1.trans (m2.trans m3)
    rw [hK]
    refine gOf_go rd ht (RelS.wipN ws (rs2.mono m3)) q fun σd' σ' k' r' hw => ?_
    exact ⟨σd', A2, _, r', ra3, k', fun σd4 A4 σ4 H4 q4 m4 ra4 rs4 => ⟨σd4, A4, (m2.trans m3).trans m4, rs4, ra4, q4⟩, r.from m13, n.from m13, fun σd4 A4 σ4 H4 q4 m4 ra4 rs4 => ⟨σd4, A4, (m2.trans m3).trans m4, rs4, ra4, q4⟩, fe.from m13⟩
  · have e1 : i = ds.length := by omega
    subst e1
    rw [List.drop_length, forR_nil] at q
    exact .inl ⟨(ix _ H2 A2 m2 ra2 q.1).2 rfl, n _ _ _ _ q.2 (m1.trans m2) ra2 (RelS.wipN ws rs2)⟩
theorem st_raise (hc : X.calm = true) (tk : Takes X W) {x m : Str} {j : Nat} {p p2 pos' : Pos} {C : Addr} {bmB : List Value} {B newId initId : String} (F : ExcBaseFacts B newId initId bmB) (q : PySem.W.excIn X.K C bmB newId = true) (gC : X.mg x = some (.ref C)) (kC : PySem.W.keepIn X.K (.ref C) = true) (r : Raises X (.ref C)) (hg : Gl X x)
    (hdb : (x == ("__debug__" : Str)) = false) (hcl : c.cl x = some C) : PS X (.Raise (some (.Call (.Name x p) [.Constant (.str m) j p2] [] pos')) none pos) (lS c (evS G (.raise x)) W) := by
  refine PS.imp (ps_raise hc tk (pmk_own F q gC kC r hg hdb)) fun D σ H h => ?_
  obtain ⟨σd, A, Z, rs, ra, t, n, r, b, k, fe⟩ := h
  exact fe _ _ _ _ _ _ t hcl .refl ra rs
end
end Py

namespace Py
open PySem PySem.Spec PyProof.Rows L2
theorem noI_tuple_add : typeLookup (.type "tuple") (dunderI "add") = pure none := by rw [typeLookup_type, builtinLookup_eq_fast]; kernel_rfl
section
variable {c : RC} {X : Cx} {W : WX} {G : GEnv} {a b e : Expr} {ea eb : E} {es : List Expr} {ees : Es} {pos : Pos}
open HT in
theorem iop_catN : OpR X (inplaceOp .Add) (rCatN X.K) := by
  intro pins s σ H x y v u Q I rx ry h
  obtain ⟨a, b, xs, ys, rfl, rfl, ha, hb, hz, q0, q1, q2⟩ := h
  cases rx
  cases ry
  obtain ⟨its, r1, p1, _⟩ := I.tuple ha
  obtain ⟨its2, r2, p2, _⟩ := I.tuple hb
  have hl1 := r1.length
  have hl2 := r2.length
  obtain ⟨⟨cls, dd, data, sl⟩, ho, hc, n, hd⟩ := id p1
  obtain ⟨⟨cls2, dd2, data2, sl2⟩, ho2, hc2, n2, hd2⟩ := id p2
  simp only at hc hd hc2 hd2
  subst hc hd hc2 hd2
  refine wpAny_inplaceOp_concat ⟨_, ho, rfl⟩ ⟨_, ho2, rfl⟩ noI_tuple_add noFill_tuple_add seq_tuple_add ?_
  by_cases hx : its = []
  · subst hx
    have hx' : xs = [] := by cases r1; rfl
    exact call_meets PySem.F.slot_tuple_add ⟨_, ho, rfl⟩ PySem.F.entry_tuple_add (PySem.F.args_tuple_add_2 _ _)
      (tuple_addW0 a b ([] : List Value).toArray its2.toArray n n2 dd dd2 sl sl2 (by simp)) ⟨ho, ho2, .ref b, H, I, rfl, q0 hx'⟩
  · have hx' : xs ≠ [] := fun z => hx (r1.nil_iff.mpr z)
    have e : its.toArray ++ its2.toArray = (its ++ its2).toArray := by simp
    by_cases hw : its2 = []
    · exact call_meets PySem.F.slot_tuple_add ⟨_, ho, rfl⟩ PySem.F.entry_tuple_add (PySem.F.args_tuple_add_2 _ _)
        (tuple_addW1 a b its.toArray its2.toArray n n2 dd dd2 sl sl2 (by simpa using hx) (by simp [hw])) ⟨ho, ho2, .ref a, H, I, rfl, q1 hx' (r2.nil_iff.mp hw)⟩
    · refine call_meets PySem.F.slot_tuple_add ⟨_, ho, rfl⟩ PySem.F.entry_tuple_add (PySem.F.args_tuple_add_2 _ _)
        (tuple_addW2 a b its.toArray its2.toArray n n2 dd dd2 sl sl2 (by simpa using hx) (by simpa using hw) (by rw [List.size_toArray, List.size_toArray]; omega)) ⟨ho, ho2, ?_⟩
      rw [e]
      exact laidT (h := s.heap) (t := s.toks) I (r1.append r2) (by rw [List.length_append]; exact hz) (q2 hx' fun z => hw (r2.nil_iff.mpr z))
/-- what += and its like may be on: no lists -/
def augOk (o : BOp) : Bool := match o with | .pow => false | _ => true
theorem i_add (hK : X.K = c.K) : OpR X (inplaceOp .Add) (lR2 c (rAug .add)) := by
  refine OpR.imp (iop_add.or (iop_add_str.or iop_catN)) fun x y H Q h => ?_
  obtain ⟨A, dx, dy, Qd, ra, rx, ry, r, f⟩ := h
  cases dx <;> cases dy <;> try exact r.elim
  · exact .inl ⟨_, _, rx, ry, f.here r ra rfl⟩
  · exact .inr (.inl ⟨_, _, rx, ry, r.1, f.here r.2 ra rfl⟩)
  · rename_i xs ys
    obtain ⟨a, vs, rfl, h1, r1⟩ := rx
    obtain ⟨b, ws, rfl, h2, r2⟩ := ry
    refine .inr (.inr ⟨a, b, vs, ws, rfl, rfl, by rw [hK]; exact h1.sqt, by rw [hK]; exact h2.sqt, by rw [r1.length, r2.length]; exact r.1, fun e => ?_, fun e1 e2 => ?_, fun e1 e2 => ?_⟩)
    · subst e
      have e1 : xs = [] := by have := r1.length; exact List.length_eq_zero_iff.mp (by simpa using this.symm)
      subst e1
      exact f.here (d := .tup ([] ++ ys)) r.2 ra ⟨b, ws, rfl, h2, r2⟩
    · subst e2
      have e3 : ys = [] := by have := r2.length; exact List.length_eq_zero_iff.mp (by simpa using this.symm)
      subst e3
      exact f.here (d := .tup (xs ++ [])) r.2 ra ⟨a, vs, rfl, h1, by rw [List.append_nil]; exact r1⟩
    · exact f.tup r.2 ra (r1.app r2)
theorem iop_mulW : OpR X (inplaceOp .Mult) (rI CMulW fun i j => .int (i * j)) := opI fun _ _ _ _ _ _ _ hc q => imul_int q hc.ok
theorem iop_fdivW : OpR X (inplaceOp .FloorDiv) (rI CDivW fun i j => .int (i / j)) := opI fun i j _ _ _ _ _ hc q => by
  have h1 : (0 : Int) < j := hc.1
  exact ifloordiv_int (by omega) (by rw [Int.fdiv_eq_ediv_of_nonneg i (by omega)]; exact q) (.inl (PyProof.noPylong_of_log2 hc.2))
theorem i_sub : OpR X (inplaceOp .Sub) (lR2 c (rAug .sub)) := by
  refine OpR.imp iop_sub fun x y H Q h => ?_
  obtain ⟨A, dx, dy, Qd, ra, rx, ry, r, f⟩ := h
  cases dx <;> cases dy <;> try exact r.elim
  exact ⟨_, _, rx, ry, f.here r ra rfl⟩
theorem i_mul : OpR X (inplaceOp .Mult) (lR2 c (rAug .mul)) := by
  refine OpR.imp iop_mulW fun x y H Q h => ?_
  obtain ⟨A, dx, dy, Qd, ra, rx, ry, r, f⟩ := h
  cases dx <;> cases dy <;> try exact r.elim
  exact ⟨_, _, rx, ry, r.1, f.here r.2 ra rfl⟩
theorem i_fdiv : OpR X (inplaceOp .FloorDiv) (lR2 c (rAug .fdiv)) := by
  refine OpR.imp iop_fdivW fun x y H Q h => ?_
  obtain ⟨A, dx, dy, Qd, ra, rx, ry, r, f⟩ := h
  cases dx <;> cases dy <;> try exact r.elim
  exact ⟨_, _, rx, ry, r.1, f.here r.2 ra rfl⟩
theorem i_mod : OpR X (inplaceOp .Mod) (lR2 c (rAug .mod)) := by
  refine OpR.imp iop_mod fun x y H Q h => ?_
  obtain ⟨A, dx, dy, Qd, ra, rx, ry, r, f⟩ := h
  cases dx <;> cases dy <;> try exact r.elim
  exact ⟨_, _, rx, ry, r.1, f.here r.2 ra rfl⟩
theorem i_op (hK : X.K = c.K) : ∀ o : BOp, augOk o = true → OpR X (inplaceOp (bopOp o)) (lR2 c (rAug o))
  | .add, _ => i_add hK | .sub, _ => i_sub | .mul, _ => i_mul | .fdiv, _ => i_fdiv | .mod, _ => i_mod
theorem st_aug (hK : X.K = c.K) {o : BOp} {i : Nat} {x : Str} {p : Pos} (hN : X.N.Nodup) (h : StoreOk X i x) (ho : augOk o = true) (he : PE X e (lE c (ev G ea) W)) : PS X (.AugAssign (.Name x p) (bopOp o) e pos) (lS c (evS G (.aug i x o ea)) W) := by
  refine PS.imp (ps_aug (i := i) hN h.1 h.2.1 he (ti := lR2 c (rAug o)) (i_op hK o ho) h.2.2) fun D σ H h => ?_
  obtain ⟨σd, A, Z, rs, ra, t, n, r, b, k, fe⟩ := h
  simp only [evS] at t
  split at t
  · rename_i d e1
    obtain ⟨v, ev, rv⟩ := rs.2 i d e1
    refine ⟨v, ev, ?_⟩
    refine lE_go rs .refl ra (fe.at rs) t fun y A1 w H1 q1 m1 ra1 ry => ?_
    refine ⟨A1, d, y, _, ra1, RelD.mono m1 _ _ rv, ry, ?_, fun z A2 u H2 q2 m2 ra2 rz => n _ _ _ _ q2 (m1.trans m2) ra2 ((rs.mono (m1.trans m2)).set rz)⟩
    exact q1
  · exact t.elim
theorem PSet.or {t t' : TSet} (h : PSet X t) (h' : PSet X t') : PSet X (fun o i v H Q => t o i v H Q ∨ t' o i v H Q) := by
  intro pins s σ H o i v ov iv u Q I ro ri rv q
  rcases q with q | q
  · exact h pins s σ H o i v ov iv u Q I ro ri rv q
  · exact h' pins s σ H o i v ov iv u Q I ro ri rv q
theorem subAssign {o i : Expr} {env : Env} {v : Value} (h : notSlice i = true) : assign (.Subscript o i pos) env v = (do
      let ov ← holding [v] (eval o env)
      let iv ← holding [v, ov] (eval i env)
      standAt pos
      holding [v, ov, iv] (setItem ov iv v)
      release [v, ov, iv] []) := by
  cases i <;> first | rfl | cases h
theorem st_sto (hu : X.A.units + 1 < cLine) {o i : Expr} {eo ei : E} {p : Pos} (ho : PE X o (lE c (ev G eo) W)) (hi : PE X i (lE c (ev G ei) W)) (he : PE X e (lE c (ev G ea) W)) (hn : notSlice i = true) (hs : swapsWithSole [.Subscript o i p] e pos.line X.env = pure false) (hw : swappedStores [.Subscript o i p] e X.env = pure none) :
    PS X (.Assign [.Subscript o i p] e pos) (lS c (evS G (.sto eo ei ea)) W) := by
  refine PS.imp (ps_asg he (pg_sub ho hi (PSet.or set_list (set_dict hu)) fun v => subAssign hn) hs hw rfl) fun D σ H h => ?_
  obtain ⟨σd, A, Z, rs, ra, t, n, r, b, k, fe⟩ := h
  refine lE_go rs .refl ra (fe.at rs) t fun d A1 v H1 q1 m1 ra1 rd => ?_
  refine lE_go rs m1 ra1 (fe.at rs) q1 fun x A2 w H2 q2 m2 ra2 rx => ?_
  refine lE_go rs (m1.trans m2) ra2 (fe.at rs) q2 fun kk A3 u H3 q3 m3 ra3 rk => ?_
  cases x <;> try exact q3.elim
  cases rx
  have m123 := (m1.trans m2).trans m3
  dsimp only at q3
  split at q3
  · rename_i ds e1
    obtain ⟨vs, h, q⟩ := ra3 _ _ e1
    split at q3
    · rename_i ki
      cases rk
      split at q3
      · rename_i j e2
        have m4 := Mono.lst (o := .lst (vs.set j v)) h
        refine .inl ⟨_, vs, _, j, rfl, rfl, h, by rw [q.length]; exact e2, ?_⟩
        exact n _ _ _ _ q3 (m123.trans m4) (RelA.lst ra3 m4 ((q.set (RelD.mono (m2.trans m3) _ _ rd) j).mono m4)) (rs.mono (m123.trans m4))
      · exact q3.elim
    · exact q3.elim
  · rename_i kvs e1
    obtain ⟨ws, h, q⟩ := ra3 _ _ e1
    split at q3
    · rename_i y ey
      cases dkey_rel ey rk
      have m4 : Mono H3 (L2.upd H3 _ (.dK (putK ws y v))) := Mono.at h fun _ _ z => nomatch z
      refine .inr ⟨_, _, rfl, .inl ⟨ws, y, h, rfl, by rw [q.length]; exact q3.1, rfl⟩, ?_⟩
      exact n _ _ _ _ q3.2 (m123.trans m4) (ra3.put m4 ⟨_, upd_same, (q.set y (RelD.mono (m2.trans m3) _ _ rd)).mono m4⟩) (rs.mono (m123.trans m4))
    · exact q3.elim
  · exact q3.elim
/-- a, b = e: a tuple that comes -/
theorem st_unp (hc : X.calm = true) (hK : X.K = c.K) {xs : List (Nat × Str)} {k : Nat} {p : Pos} (hN : X.N.Nodup) (h : NamesAre X xs es) (he : PE X e (lE c (ev G ea) W)) (hs : swapsWithSole [.Tuple es k p] e pos.line X.env = pure false) (hw : swappedStores [.Tuple es k p] e X.env = pure none) :
    PS X (.Assign [.Tuple es k p] e pos) (lS c (evS G (.unp xs ea)) W) := by
  obtain ⟨h1, h2⟩ := h.names
  obtain ⟨h3, h4⟩ := names_each (env := X.env) h1
  refine PS.imp (ps_asg he (pg_tup hc (NamesAre.pgs hN h) (n := xs.length) (by rw [h3, h2]) h4) hs hw rfl) fun D σ H h => ?_
  obtain ⟨σd, A, Z, rs, ra, t, n, r, b, k, fe⟩ := h
  refine lE_go rs .refl ra (fe.at rs) t fun d A1 v H1 q1 m1 ra1 rd => ?_
  cases d <;> try exact q1.elim
  obtain ⟨a, vs, rfl, h, q⟩ := rd
  refine ⟨a, vs, rfl, by rw [hK]; exact h.sqt, by rw [q.length]; exact q1.1, ?_⟩
  exact gNs_go (c := c) q1.1 q (rs.mono m1) fun σ' rs' _ => n _ _ _ _ q1.2 m1 ra1 rs'
/-- a, b = e1, e2 -/
theorem st_par2 (hc : X.calm = true) {i j : Nat} {x y : Str} {px py pt : Pos} {kt k2 pt2} {ees : Es} (hN : X.N.Nodup) (hi : X.N[i]? = some x) (hj : X.N[j]? = some y) (hij : i ≠ j)
    (hx : X.env.scope.names.lookup x = some .local) (hy : X.env.scope.names.lookup y = some .local) (ha : PA X [a, b] (lA c (evs G ees) W))
    (hw : swappedStores [.Tuple [.Name x px, .Name y py] kt pt] (.Tuple [a, b] k2 pt2) X.env = pure (some [x, y])) :
    PS X (.Assign [.Tuple [.Name x px, .Name y py] kt pt] (.Tuple [a, b] k2 pt2) pos) (lS c (evS G (.par [(i, x), (j, y)] ees)) W) := by
  refine PS.imp (ps_par hc hN hi hj hij hx hy ha hw) fun D σ H h => ?_
  obtain ⟨σd, A, Z, rs, ra, t, n, r, b, k, fe⟩ := h
  refine lA_go rs .refl ra (fe.at rs) t fun ds A1 vs H1 q1 m1 ra1 rd => ?_
  obtain ⟨hl, q⟩ := q1
  rcases ds with _ | ⟨d, _ | ⟨d2, _ | _⟩⟩ <;> try (simp at hl; done)
  obtain ⟨v, w, rfl, r1, r2⟩ := rd.two_of
  exact ⟨v, w, rfl, n _ _ _ _ q m1 ra1 (((rs.mono m1).set r1).set r2)⟩
theorem st_par3 (hc : X.calm = true) {i j l : Nat} {x y z : Str} {a b d : Expr} {px py pz pt : Pos} {kt k2 pt2} {ees : Es} (hN : X.N.Nodup) (hi : X.N[i]? = some x) (hj : X.N[j]? = some y) (hl : X.N[l]? = some z) (hij : i ≠ j) (hil : i ≠ l) (hjl : j ≠ l)
    (hx : X.env.scope.names.lookup x = some .local) (hy : X.env.scope.names.lookup y = some .local) (hz : X.env.scope.names.lookup z = some .local) (ha : PA X [a, b, d] (lA c (evs G ees) W))
    (hw : swappedStores [.Tuple [.Name x px, .Name y py, .Name z pz] kt pt] (.Tuple [a, b, d] k2 pt2) X.env = pure (some [x, y, z])) :
    PS X (.Assign [.Tuple [.Name x px, .Name y py, .Name z pz] kt pt] (.Tuple [a, b, d] k2 pt2) pos) (lS c (evS G (.par [(i, x), (j, y), (l, z)] ees)) W) := by
  refine PS.imp (ps_par3 hc hN hi hj hl hij hil hjl hx hy hz ha hw) fun D σ H h => ?_
  obtain ⟨σd, A, Z, rs, ra, t, n, r, b, k, fe⟩ := h
  refine lA_go rs .refl ra (fe.at rs) t fun ds A1 vs H1 q1 m1 ra1 rd => ?_
  obtain ⟨hl', q⟩ := q1
  rcases ds with _ | ⟨d1, _ | ⟨d2, _ | ⟨d3, _ | _⟩⟩⟩ <;> try (simp at hl'; done)
  obtain ⟨v, w, e, r1, rr⟩ := rd
  obtain ⟨v2, v3, e2, r2, r3⟩ := rr.two_of
  subst e e2
  exact ⟨v, v2, v3, rfl, n _ _ _ _ q m1 ra1 ((((rs.mono m1).set r1).set r2).set r3)⟩
end
end Py

namespace Py
open PySem PySem.Spec PyProof.Rows L2
section
variable {c : RC} {X : Cx} {W : WX} {G : GEnv} {a b e : Expr} {ea eb : E} {pos : Pos}
/-! ### list(range ..), tuple(range ..) -/
/-- a range as an argument: its two ends -/
def lR (c : RC) (t : DSt → AH → Dx → (List D → Gd → AH → Prop) → Prop) (W : WX) : L2.St → Hp → (Int → Int → Hp → Prop) → Prop := fun σ H R => ∃ σd A Xd Rd, RelS c.K H σd σ ∧ RelA c A H ∧ t σd A Xd Rd ∧
  (∀ i j A' H', (-(2 ^ 62) ≤ i ∧ i < 2 ^ 62 ∧ -(2 ^ 62) ≤ j ∧ j < 2 ^ 62) → Rd (rngD i (j - i).toNat) [] A' → Mono H H' → RelA c A' H' → R i j H') ∧ FolW c H (fun cl d H' => W cl d σ H') Xd
theorem PRg.imp {t t' : L2.St → Hp → (Int → Int → Hp → Prop) → Prop} (h : PRg X e t) (i : ∀ σ H R, t' σ H R → t σ H R) : PRg X e t' := fun pins s σ H Q I q => h pins s σ H Q I (i _ _ _ q)
theorem r_1 {p : Pos} (hg : Gl X "range") (hm : X.mg "range" = none) (ha : PE X a (lE c (ev G ea) W)) (hn : noStar a = true) : PRg X (.Call (.Name "range" p) [a] [] pos) (lR c (evI G (.rng1 ea)) W) := by
  refine PRg.imp (prg_1 hg hm ha (starEach_cons hn)) fun σ H R h => ?_
  obtain ⟨σd, A, Xd, Rd, rs, ra, t, f, fw⟩ := h
  refine lE_go rs .refl ra fw t fun x A1 v H1 q1 m1 ra1 rx => ?_
  cases x <;> try exact q1.elim
  cases rx
  obtain ⟨h1, h2, h3⟩ := q1
  exact ⟨_, rfl, f _ _ _ _ ⟨by decide, by decide, h1, h2⟩ (by rw [Int.sub_zero]; exact h3) m1 ra1⟩
theorem r_2 {p : Pos} (hg : Gl X "range") (hm : X.mg "range" = none) (ha : PE X a (lE c (ev G ea) W)) (hb : PE X b (lE c (ev G eb) W)) (hn : noStar a = true) (hn2 : noStar b = true) : PRg X (.Call (.Name "range" p) [a, b] [] pos) (lR c (evI G (.rng2 ea eb)) W) := by
  refine PRg.imp (prg_2 hg hm ha hb (starEach_cons hn) (starEach_cons hn2) (by rw [starEach_cons hn2]; rfl)) fun σ H R h => ?_
  obtain ⟨σd, A, Xd, Rd, rs, ra, t, f, fw⟩ := h
  refine lE_go rs .refl ra fw t fun x A1 v H1 q1 m1 ra1 rx => ?_
  refine lE_go rs m1 ra1 fw q1 fun y A2 w H2 q2 m2 ra2 ry => ?_
  cases x <;> cases y <;> try exact q2.elim
  cases rx
  cases ry
  exact ⟨_, _, rfl, rfl, f _ _ _ _ q2.1 q2.2 (m1.trans m2) ra2⟩
theorem rgV_rel {K : PySem.W.Frag} {H : Hp} {i j : Int} : RelDs K H (rngD i (j - i).toNat) (rgV i j) := rg_rel
theorem s_lrg (hc : X.calm = true) (hg : Gl X "list") (hm : X.mg "list" = none) {p : Pos} {it : I} (hi : PRg X e (lR c (evI G it) W)) (hn : noStar e = true) : PE X (.Call (.Name "list" p) [e] [] pos) (lE c (ev G (.lrg it)) W) := by
  refine PE.imp (PE.fz (pe_listRg hc hg hm hi (starEach_cons hn))) fun σ H Q h => ?_
  obtain ⟨σd, A, Xd, Qd, rs, ra, t, f, fw⟩ := h
  refine ⟨σd, A, Xd, _, rs, ra, t, fun i j A' H' b q m ra' => ?_, fw⟩
  obtain ⟨q1, q2⟩ := q
  have e1 : (rngD i (j - i).toNat).length = (j - i).toNat := by simp [rngD]
  rw [e1] at q1
  exact ⟨⟨b.1, b.2.1, b.2.2.1, b.2.2.2, q1⟩, (f.from m).lst q2 ra' rgV_rel⟩
/-- the tuple is locked as its object -/
theorem pe_tupRgN {te : L2.St → Hp → (Int → Int → Hp → Prop) → Prop} {p : Pos} (hc : X.calm = true) (hg : Gl X "tuple") (hm : X.mg "tuple" = none) (he : PRg X e te) (na : starEach [e] X.env = (false, eval e X.env) :: starEach [] X.env) :
    PE X (.Call (.Name "tuple" p) [e] [] pos) (fun σ H Q => te σ H fun i j H1 => RgOk i j ∧ newT (rgV i j) H1 Q) := by
  constructor
  intro pins s σ H Q I h
  refine Call_ ?_
  apply ld_blt I hg hm boot_tuple
  apply PyProof.Rows.callWith_type1 (args_cons _ na) na
  apply thn (he pins s σ H _ I h)
  rintro x s1 ⟨r, i, j, t, u, v, H1, rfl, hr, I1, ok, q⟩
  apply args_nil
  have len : (rgV i j).length ≤ sizeLine := by
    rw [rgV_length, sizeLine_eq]
    exact ok.2.2.2.2
  apply call_tuple_range (n := (j - i).toNat) (I1.ok.hd hc) hr (small_one ok.1 ok.2.1 ok.2.2.1 ok.2.2.2.1) (rangeSize_nat i j) ok.2.2.2.2
  intro h' tk acc hk hi
  have I2 : Inv X pins σ H1 { s1 with heap := h', toks := tk } := I1.kept hk
  have := laidT (t := tk) (h := h') I2 (vals_rg hi) len q
  rwa [Array.toArray_toList] at this
theorem s_trg (hc : X.calm = true) (hg : Gl X "tuple") (hm : X.mg "tuple" = none) {p : Pos} {it : I} (hi : PRg X e (lR c (evI G it) W)) (hn : noStar e = true) : PE X (.Call (.Name "tuple" p) [e] [] pos) (lE c (ev G (.trg it)) W) := by
  refine PE.imp (pe_tupRgN hc hg hm hi (starEach_cons hn)) fun σ H Q h => ?_
  obtain ⟨σd, A, Xd, Qd, rs, ra, t, f, fw⟩ := h
  refine ⟨σd, A, Xd, _, rs, ra, t, fun i j A' H' b q m ra' => ?_, fw⟩
  obtain ⟨q1, q2⟩ := q
  have e1 : (rngD i (j - i).toNat).length = (j - i).toNat := by simp [rngD]
  rw [e1] at q1
  exact ⟨⟨b.1, b.2.1, b.2.2.1, b.2.2.2, q1⟩, (f.from m).tup q2 ra' rgV_rel⟩
/-! ### [::-1] of a list -/
theorem s_rev (hK : X.K = c.K) {k : Nat} {p1 p2 p3 : Pos} (ha : PE X a (lE c (ev G ea) W)) : PE X (.Subscript a (.Slice none none (some (.UnaryOp .USub (.Constant (.int 1) k p1) p2)) p3) pos) (lE c (ev G (.rev ea)) W) := by
  refine PE.imp (PE.fz (pe_revL ha)) fun σ H Q h => ?_
  obtain ⟨σd, A, Xd, Qd, rs, ra, t, f, fw⟩ := h
  refine lE_go rs .refl ra fw t fun x A1 v H1 q1 m1 ra1 rx => ?_
  cases x <;> try exact q1.elim
  · cases rx
    dsimp only [rRev] at q1
    split at q1
    · rename_i ds e1
      obtain ⟨vs, h, r⟩ := getL_rel ra1 e1
      exact ⟨_, vs, rfl, by rw [hK]; exact Rd_sql h, (f.from m1).lst q1 ra1 r.rev⟩
    · exact q1.elim
  · obtain ⟨a, vs, rfl, h, r⟩ := rx
    exact ⟨a, vs, rfl, by rw [hK]; exact h.sql, (f.from m1).lst q1 ra1 r.rev⟩
end
end Py
namespace Py
open PySem PySem.Spec PyProof.Rows L2
/-! ### len(set(..)) -/
theorem dd_mem {k : Int} : ∀ {ns acc : List Int}, k ∈ ns.foldl PyProof.Rows.step_dedup acc ↔ k ∈ acc ∨ k ∈ ns
  | [], acc => by simp
  | n :: ns, acc => by
    rw [List.foldl_cons, dd_mem, List.mem_cons]
    unfold PyProof.Rows.step_dedup
    by_cases h : acc.any (· == n) = true
    · rw [if_pos h]
      have : n ∈ acc := by simpa using h
      constructor
      · rintro (q | q)
        · exact .inl q
        · exact .inr (.inr q)
      · rintro (q | q | q)
        · exact .inl q
        · exact .inl (q ▸ this)
        · exact .inr q
    · rw [if_neg h]
      simp only [List.mem_append, List.mem_singleton]
      constructor
      · rintro ((q | q) | q)
        · exact .inl q
        · exact .inr (.inl q)
        · exact .inr (.inr q)
      · rintro (q | q | q)
        · exact .inl (.inl q)
        · exact .inl (.inr q)
        · exact .inr q
theorem dd_nodup : ∀ {ns acc : List Int}, acc.Nodup → (ns.foldl PyProof.Rows.step_dedup acc).Nodup
  | [], _, h => h
  | n :: ns, acc, h => by
    rw [List.foldl_cons]
    refine dd_nodup ?_
    unfold PyProof.Rows.step_dedup
    by_cases q : acc.any (· == n) = true
    · rw [if_pos q]; exact h
    · rw [if_neg q]
      have : n ∉ acc := fun z => q (by simpa using z)
      rw [List.nodup_append]
      refine ⟨h, by simp, fun a ha b hb => ?_⟩
      cases List.mem_singleton.mp hb
      exact fun e => this (e ▸ ha)
theorem ddI_mem {ns : List Int} {k : Int} : k ∈ ddI ns ↔ k ∈ ns := by unfold ddI; rw [dd_mem]; simp
theorem ddI_nodup {ns : List Int} : (ddI ns).Nodup := dd_nodup List.nodup_nil
theorem nodup_len {l m : List Int} (hl : l.Nodup) (hm : m.Nodup) (h : ∀ k, k ∈ l ↔ k ∈ m) : l.length = m.length := ((List.perm_ext_iff_of_nodup hl hm).mpr h).length_eq
theorem firstMet_dd (ns : List Int) : PyProof.Rows.firstMet (fun i => ns.getD i 0) ns.length = ddI ns := by
  unfold PyProof.Rows.firstMet ddI
  congr 1
  apply List.ext_getElem
  · simp
  · intro i h1 h2
    simp [List.getD_eq_getElem?_getD, List.getElem?_eq_getElem h2]
section
variable {c : RC} {X : Cx} {W : WX} {G : GEnv} {a : Expr} {ea : E} {pos : Pos}
/-- a list or a tuple of whole numbers, not too many -/
def IntsOf (K : PySem.W.Frag) (H : Hp) (x : V) (ns : List Int) : Prop := ∃ l, x = .ref l ∧ (SqL K H l (ns.map V.int) ∨ SqT K H l (ns.map V.int))
theorem vals_intsAre : ∀ {ns : List Int} {us : List Value}, Vals (ns.map V.int) us → PyProof.Rows.IntsAre us ns
  | [], _, .nil => .nil
  | n :: _, _, .cons ⟨t, e⟩ r => by subst e; exact .cons n t (vals_intsAre r)
theorem pe_lenSetN {ta : TE} {p p2 q : Pos} (hc : X.calm = true) (hg : Gl X "len") (hm : X.mg "len" = none) (hg2 : Gl X "set") (hm2 : X.mg "set" = none) (ha : PE X a ta) (na : starEach [a] X.env = (false, eval a X.env) :: starEach [] X.env) :
    PE X (.Call (.Name "len" p) [.Call (.Name "set" p2) [a] [] q] [] pos) (fun σ H Q => ta σ H fun x H1 => ∃ ns : List Int, IntsOf X.K H1 x ns ∧ ns.length ≤ 4000 ∧ Q (.int (ddI ns).length) H1) := by
  constructor
  intro pins s σ H Q I h
  refine Call_ (ld_blt I hg hm PySem.boot_len (PyProof.Rows.callWith_builtin1 (PyProof.Rows.args_cons (Call_ (ld_blt I hg2 hm2 PyProof.Rows.boot_set (PyProof.Rows.callWith_type1 (PyProof.Rows.args_cons (thn (ha.run pins s σ H _ I h) ?_) na) na rfl))) rfl) rfl rfl))
  rintro v s1 ⟨x, H1, I1, r1, ns, ⟨l, rfl, hl⟩, hz, hQ⟩
  cases r1
  refine PyProof.Rows.args_nil ?_
  have fin : ∀ (h' : Heap) (tk : Nat) (o : Obj) (es : Array (Int × Value)) (ep : Nat) (t : SetTable), h'.get? s1.heap.objs.size = some o → o.ExactSet → o.data = .set es ep t → t.fits es.size = true → es.size = (ddI ns).length →
      (∀ b ob, s1.heap.get? b = some ob → h'.get? b = some ob) →
      wpAny (model X.prog X.w) X.A (call (.builtin "len") [.ref s1.heap.objs.size]) (EP X pins σ Q) X.xe { s1 with heap := h', toks := tk } := fun h' tk o es ep t g1 g2 g3 g4 g5 k => by
    have J : Inv X pins σ H1 { s1 with heap := h', toks := tk } := I1.kept k
    have le : (ddI ns).length ≤ ns.length := by
      rw [← firstMet_dd]
      exact PyProof.Rows.firstMet_length_le _ _
    exact call_len_set g1 g2 g3 g4 (by rw [g5]; omega) ⟨.int (ddI ns).length, H1, J.tok _, ⟨_, by rw [g5]⟩, hQ⟩
  rcases hl with hl | hl
  · obtain ⟨its, r, pl, _⟩ := I1.list hl
    have len : its.toArray.size = ns.length := by
      have := r.length
      simp at this ⊢
      omega
    refine call_set_list (ns := ns) (I1.ok.hd hc) pl.isList (by simpa using vals_intsAre r) (by rw [len]; unfold scanBound; omega) fun h' tk hS k => PyProof.Rows.args_nil ?_
    rw [len, firstMet_dd] at hS
    obtain ⟨o, es, ep, t, g1, g2, g3, _, _, _, g4, g5⟩ := hS
    exact fin h' tk o es ep t g1 g2 g3 g4 g5 fun b ob e => k b ob (Heap.lt_size e) e
  · obtain ⟨its, r, pl, _⟩ := I1.tuple hl
    have len : its.length = ns.length := by
      have := r.length
      simp at this
      omega
    refine call_set_tupI ns (I1.ok.hd hc) (items := its.toArray) pl (by simpa using vals_intsAre r) (by unfold scanBound; omega) fun h' tk n hS _ k => PyProof.Rows.args_nil ?_
    obtain ⟨o, es, ep, t, g1, g2, g3, _, nd, mm, _, g4, g5, _⟩ := hS
    refine fin h' tk o es ep t g1 g2 g3 g4 ?_ k
    have := nodup_len nd (ddI_nodup (ns := ns)) fun j => by rw [← mm j, ddI_mem]; simp
    rw [List.length_map, Array.length_toList] at this
    exact this
theorem s_lset (hK : X.K = c.K) (hc : X.calm = true) (hg : Gl X "len") (hm : X.mg "len" = none) (hg2 : Gl X "set") (hm2 : X.mg "set" = none) {p p2 q : Pos} (ha : PE X a (lE c (ev G ea) W)) (hn : noStar a = true) :
    PE X (.Call (.Name "len" p) [.Call (.Name "set" p2) [a] [] q] [] pos) (lE c (ev G (.lset ea)) W) := by
  refine PE.imp (pe_lenSetN hc hg hm hg2 hm2 ha (starEach_cons hn)) fun σ H Q h => ?_
  obtain ⟨σd, A, Xd, Qd, rs, ra, t, f, fw⟩ := h
  refine lE_go rs .refl ra fw t fun x A1 v H1 q1 m1 ra1 rx => ?_
  split at q1
  · rename_i ns e
    obtain ⟨hz, q2⟩ := q1
    cases es : seqD A1 x with
    | none => rw [es] at e; cases e
    | some ds =>
      rw [es] at e
      obtain ⟨l, vs, rfl, hl, r⟩ := seq_ok ra1 rx es
      cases ints_ok r e
      exact ⟨ns, ⟨l, rfl, by rw [hK]; exact hl⟩, hz, (f.from m1).here q2 ra1 rfl⟩
  · exact q1.elim
end
end Py

namespace Py
open PySem PySem.Spec PyProof.Rows L2 PySem.Calls
/-! ### set(xs) of a list of whole numbers, its table led -/
/-- an empty set as set.__new__ leaves it -/
abbrev set0 (w : World) : Obj := { cls := .type "set", dict := none, data := .set #[] 0 (.fresh 0 0 (!w.params.followText "set-order")) }
section
variable {P : Program} {w : World} {A : Around} {E : Value → Shared → Prop} {s : Shared}
set_option maxHeartbeats 3200000 in
theorem call_set_lstR {l : Addr} {its : Array Value} (ns : List Int) {Q : Value → Shared → Prop} (hh : A.handled = none) (hl : s.heap.IsList l its) (hit : PyProof.Rows.IntsAre its.toList ns) (hb : ns.length + 1 < scanBound)
    (hQ : ∀ (h' : Heap) (tk c : Nat), SetR w h' s.heap.objs.size (fun j => decide (j ∈ ns)) c → (∀ b o, s.heap.get? b = some o → h'.get? b = some o) → Q (.ref s.heap.objs.size) { s with heap := h', toks := tk }) :
    wpAny (model P w) A (call (.type "set") [.ref l]) Q E s := by
  have len : its.size = ns.length := by
    have z := PyProof.Rows.IntsAre.length hit
    simpa using z
  obtain ⟨c, tl, m0⟩ := F.called_set.mro
  have m1 := F.called_set.made
  have m2 := F.called_set.sub
  apply wpAny_call
  apply codeAny_of_tree
  show wpAny _ _ (callAny (.type "set") _) _ _ _
  apply wpAny_pure
  refine ⟨Code.quiet_builtin _ (by decide +kernel), codeAny_builtin F.entry_type_call ?_⟩
  rw [Around.under_plain (weight_type_call_type "set" [.ref l] []) rfl]
  have m3 := F.called_set.notType
  have m4 := F.called_set.canCreate
  have m5 := F.typeCall_set_1 (.ref l)
  repeat (any_goals (first | assumption | wp_step))
  apply codeAny_mono (code_set_led1 (.ref l) (E := E) (Q₁ := fun ob s1 => ob = .ref s.heap.objs.size ∧ s1 = { s with heap := s.heap.push (set0 w) }) ⟨rfl, rfl⟩)
  intro r s1 hr
  cases r with
  | error e => exact hr
  | ok fl =>
    cases fl with
    | ret ob =>
      obtain ⟨rfl, rfl⟩ := hr
      have at0 : (s.heap.push (set0 w)).get? s.heap.objs.size = some (set0 w) := Heap.get?_push_size _ rfl
      have ty0 : Shared.TypeIs { s with heap := s.heap.push (set0 w) } (.ref s.heap.objs.size) "set" := ⟨_, at0, rfl⟩
      have m6 := F.called_set.init.lookup
      have m7 := F.called_set.init.bind (.ref s.heap.objs.size)
      repeat (any_goals (first | assumption | wp_step))
      let Good : Value → Shared → Prop := fun r s2 => r = .none ∧ ∃ h' tk c, s2 = { s with heap := h', toks := tk } ∧ SetR w h' s.heap.objs.size (fun j => decide (j ∈ ns)) c ∧ ∀ b o, s.heap.get? b = some o → h'.get? b = some o
      apply codeAny_mono (codeAny_call_builtin (R := wants Good E) F.called_set.init.plain F.entry_set_init (check_set_init_1 ty0 ?_))
      · intro r2 s2 h2
        cases r2 with
        | error e => exact h2
        | ok f2 =>
          cases f2 with
          | ret r =>
            obtain ⟨rfl, h', tk, c', rfl, g1, g2⟩ := h2
            repeat (any_goals (first | assumption | wp_step))
            exact hQ _ _ _ g1 g2
          | _ => exact h2.elim
      · obtain ⟨ob, o1, o2, nn, o3⟩ := hl
        obtain ⟨oc, od, oda, osl⟩ := ob
        simp only at o2 o3
        subst o2 o3
        have lt0 : l < s.heap.objs.size := Heap.lt_size o1
        have o4 : (s.heap.push (set0 w)).get? l = some { cls := .type "list", dict := od, data := .seq its nn, slots := osl } := Heap.get?_push_of_some _ o1
        have l1 : (s.heap.push (set0 w)).IsList l its := ⟨_, o4, rfl, nn, rfl⟩
        have d1 := PySem.F.sub_list_set
        have d2 := PySem.F.sub_list_frozenset
        have d3 : (Value.type "list" == Value.type "dict") = false := by decide
        unfold Builtin.«set.__init__» noKeywords Builtin.Frozenset.updateFrom
        generalize hP : pyIter = PI
        wp_walk
        subst hP
        apply wpAny_pyIter_list l1
        apply wpAny_bind
        apply wpAny_runValue
        have sz : (s.heap.push (set0 w)).objs.size = s.heap.objs.size + 1 := Heap.size_push ..
        have e3 : A.in1.in1.in1.handled = none := by simp [hh]
        have n1 : l ≠ (s.heap.push (set0 w)).objs.size := Nat.ne_of_lt (by rw [sz]; exact Nat.lt_succ_of_lt lt0)
        have n2 : s.heap.objs.size ∉ [(s.heap.push (set0 w)).objs.size, l] := by
          simp only [List.mem_cons, List.not_mem_nil, or_false, not_or]
          exact ⟨Nat.ne_of_lt (by rw [sz]; exact Nat.lt_succ_self _), Nat.ne_of_gt lt0⟩
        have vv : ∀ (i : Nat) (v : Value), its[i]? = some v → ∃ k t, ns[i]? = some k ∧ v = .int k t := fun i v hv => by
          have hi : i < ns.length := by rw [← len]; exact (Array.getElem?_eq_some_iff.mp hv).1
          obtain ⟨t, e⟩ := PyProof.Rows.IntsAre.int_at hit i v (by rw [Array.getElem?_toList]; exact hv)
          exact ⟨ns[i], t, List.getElem?_eq_getElem hi, by rw [e]; simp [hi]⟩
        apply set_update_ints ((Walks.list e3 _ l n1 its).toS) s.heap.objs.size n2 ns len hb vv (its.size - 0) 0 _ (by omega) (Nat.zero_le _) ⟨⟨_, Heap.get?_push_size _ rfl, rfl, rfl⟩, l1.push _⟩
        · have q : ((s.heap.push (set0 w)).push { cls := .type "list_iterator", data := .fields #[.ref l, .int 0 0] }).get? s.heap.objs.size = some (set0 w) := Heap.get?_push_of_some _ at0
          exact ⟨0, Nat.le_refl 0, setR_new_at q⟩
        · rintro ⟨h', g2, d', tk', os'⟩ c' mv _ good
          have e1 : g2 = s.gens := mv.gens
          have e2 : d' = s.drawn := mv.drawn
          have e4 : os' = s.os := mv.os
          subst e1 e2 e4
          apply wpAny_pure
          show wpAny _ _ (ret Value.none) _ _ _
          refine wpAny_pure ⟨rfl, h', tk', c', rfl, good, fun b o e => ?_⟩
          have b1 : b < s.heap.objs.size := Heap.lt_size e
          refine mv.heap b o ?_ (Heap.get?_push_of_some _ (Heap.get?_push_of_some _ e))
          simp only [List.mem_cons, List.not_mem_nil, or_false, not_or]
          exact ⟨Nat.ne_of_lt b1, Nat.ne_of_lt (by rw [sz]; exact Nat.lt_succ_of_lt b1)⟩
    | _ => exact hr.elim
end
section
variable {c : RC} {X : Cx} {W : WX} {G : GEnv} {a : Expr} {ea : E} {pos : Pos}
/-- set(xs): a new set of these -/
theorem pe_setN {ta : TE} {p2 q : Pos} (hc : X.calm = true) (hg2 : Gl X "set") (hm2 : X.mg "set" = none) (ha : PE X a ta) (na : starEach [a] X.env = (false, eval a X.env) :: starEach [] X.env) :
    PE X (.Call (.Name "set" p2) [a] [] q) (fun σ H Q => ta σ H fun x H1 => ∃ ns : List Int, IntsOf X.K H1 x ns ∧ ns.length ≤ 4000 ∧ ∀ b n, n = (ddI ns).length → H1 b = none → Q (.ref b) (upd H1 b (SetO X.w b (fun j => decide (j ∈ ns)) n))) := by
  constructor
  intro pins s σ H Q I h
  refine Call_ (ld_blt I hg2 hm2 PyProof.Rows.boot_set (PyProof.Rows.callWith_type1 (PyProof.Rows.args_cons (thn (ha.run pins s σ H _ I h) ?_) na) na rfl))
  rintro v s1 ⟨x, H1, I1, r1, ns, ⟨l, rfl, hl⟩, hz, hQ⟩
  cases r1
  refine PyProof.Rows.args_nil ?_
  have fin : ∀ (h' : Heap) (tk n : Nat), SetR X.w h' s1.heap.objs.size (fun j => decide (j ∈ ns)) n → (∀ b ob, s1.heap.get? b = some ob → h'.get? b = some ob) → EP X pins σ Q (.ref s1.heap.objs.size) { s1 with heap := h', toks := tk } := fun h' tk n R k => by
    have e : n = (ddI ns).length := by
      obtain ⟨o, es, ep, t, g1, g2, g3, _, nd, mm, _, g4, g5, _⟩ := id R
      have := nodup_len nd (ddI_nodup (ns := ns)) fun j => by rw [← mm j, ddI_mem]; simp
      rw [List.length_map, Array.length_toList] at this
      rw [← g5]
      exact this
    exact ⟨.ref s1.heap.objs.size, _, I1.laid (t' := tk) k (Nat.le_refl _) (setO_new (P := X.prog) R), rfl, hQ _ _ e (I1.hok.fresh (Nat.le_refl _))⟩
  rcases hl with hl | hl
  · obtain ⟨its, r, pl, _⟩ := I1.list hl
    exact call_set_lstR ns (I1.ok.hd hc) pl.isList (by simpa using vals_intsAre r) (by unfold scanBound; omega) fun h' tk n R k => fin h' tk n R k
  · obtain ⟨its, r, pl, _⟩ := I1.tuple hl
    exact call_set_tupI ns (I1.ok.hd hc) (items := its.toArray) pl (by simpa using vals_intsAre r) (by unfold scanBound; omega) fun h' tk n R _ k => fin h' tk n R k
theorem sorted_dd {ns ms : List Int} (h : ms.Pairwise (· < ·)) (m : ∀ k, k ∈ ms ↔ k ∈ ns) : ms = sortI (ddI ns) := by
  refine sortI_eq ?_ (h.imp fun h => Int.le_of_lt h)
  refine (List.perm_ext_iff_of_nodup (h.imp fun h => Int.ne_of_lt h) ddI_nodup).mpr fun k => ?_
  rw [m, ddI_mem]
theorem s_sset (hK : X.K = c.K) (hc : X.calm = true) (hg : Gl X "sorted") (hm : X.mg "sorted" = none) (hg2 : Gl X "set") (hm2 : X.mg "set" = none) {p p2 q : Pos} (ha : PE X a (lE c (ev G ea) W)) (hn : noStar a = true) :
    PE X (.Call (.Name "sorted" p) [.Call (.Name "set" p2) [a] [] q] [] pos) (lE c (ev G (.sset ea)) W) := by
  have ps := pe_setN (p2 := p2) (q := q) hc hg2 hm2 ha (starEach_cons hn)
  refine PE.imp (PE.fz (pe_callB (cr_sortedSet hc) hg hm (by decide +kernel) (pa_cons ps pa_nil) (by decide) (by decide))) fun σ H Q h => ?_
  obtain ⟨σd, A, Xd, Qd, rs, ra, t, f, fw⟩ := h
  refine lE_go rs .refl ra fw t fun x A1 v H1 q1 m1 ra1 rx => ?_
  split at q1
  · rename_i ns e
    obtain ⟨hz, h64, q2⟩ := q1
    cases es : seqD A1 x with
    | none => rw [es] at e; cases e
    | some ds =>
      rw [es] at e
      obtain ⟨l, vs, rfl, hl, r⟩ := seq_ok ra1 rx es
      cases ints_ok r e
      refine ⟨ns, ⟨l, rfl, by rw [hK]; exact hl⟩, hz, fun b n en hb => ⟨_, _, _, rfl, upd_same, by omega, fun ms p s1 s2 _ hp => ?_⟩⟩
      have e1 : ms = sortI (ddI ns) := sorted_dd s1 fun k => by rw [s2 k]; simp
      rw [e1]
      have m2 := Mono.fresh (o := SetO X.w b (fun j => decide (j ∈ ns)) n) hb
      exact (f.from (m1.trans m2)).lst q2 (ra1.aside hb) (ints_rel _) p hp
  · exact q1.elim
end
end Py

namespace Py
open PySem PySem.Spec PyProof.Rows L2
/-! ### enumerate(t), t a tuple -/
abbrev enm (a : Addr) : Obj := { cls := .type "enumerate", data := .fields #[.none, .bool false, .ref a, rawInt 0, .none, .none] }
set_option maxHeartbeats 1000000 in
theorem meets_enum1 {v : Value} {o : Obj} {H : Heap → Prop} (B : Begins v o H) :
    Meets (Builtin.«enumerate.__new__» ⟨[.type "enumerate", v], []⟩) (fun _ R s => H s.heap ∧ R (.ok (.ret (.ref (s.heap.push o).objs.size))) { s with heap := (s.heap.push o).push (enm s.heap.objs.size) }) :=
  .of_wp fun prog w A R s ⟨h1, h⟩ => by
    obtain ⟨hp, g, d, tk, os⟩ := s
    have z := sub_enumerate
    have go : ∀ {A' : Around} {E : Value → Shared → Prop} {Q : Value → Shared → Prop}, Q (.ref hp.objs.size) ⟨hp.push o, g, d, tk, os⟩ → wpAny (model prog w) A' (pyIter v) Q E ⟨hp, g, d, tk, os⟩ := fun q => B.iter prog w _ _ ⟨hp, g, d, tk, os⟩ _ h1 q
    wp_walk using go
    apply wpAny_stack_any
    intro st
    apply wpAny_pure
    split
    · rename_i c _ _ _ _ _
      cases (c == Value.type "enumerate") <;> (wp_walk using go; exact ⟨_, rfl, h⟩)
    · wp_walk using go
      exact ⟨_, rfl, h⟩
section
variable {prog : Program} {w : World} {A : Around} {E : Value → Shared → Prop} {s : Shared}
theorem call_enum1 {v : Value} {o : Obj} {H : Heap → Prop} {Q : Value → Shared → Prop} (B : Begins v o H) (h1 : H s.heap)
    (h : ∀ h', IsEnum h' (s.heap.objs.size + 1) s.heap.objs.size 0 .none → h'.get? s.heap.objs.size = some o → (∀ b ob, s.heap.get? b = some ob → h'.get? b = some ob) → Q (.ref (s.heap.objs.size + 1)) { s with heap := h' }) :
    wpAny (model prog w) A (call (.type "enumerate") [v]) Q E s := by
  have z : (s.heap.push o).objs.size = s.heap.objs.size + 1 := Heap.size_push ..
  have e : IsEnum ((s.heap.push o).push (enm s.heap.objs.size)) (s.heap.objs.size + 1) s.heap.objs.size 0 .none := by
    have q := Heap.get?_push_size (s.heap.push o) (o := enm s.heap.objs.size) rfl
    rwa [z] at q
  apply callType_new F.called_enumerate (by decide) (F.typeCall_enumerate_1 _) (F.newCall_enumerate_1 _) (fun ob => F.args_object_init_2 ob _) F.entry_enumerate_new (meets_enum1 B)
  refine ⟨h1, ?_⟩
  rw [z]
  exact ⟨⟨_, e, rfl⟩, h _ e (Heap.get?_push_of_some _ (Heap.get?_push_size _ B.free)) fun b ob x => Heap.get?_push_of_some _ (Heap.get?_push_of_some _ x)⟩
end
/-- the tuple at a, each item in a new pair -/
def ItN (K : PySem.W.Frag) (a : Addr) : It where
  go := fun i H => ∃ (xs : List V) (x : V), SqT K H a xs ∧ xs[i]? = some x
  yld := fun i H v H' => ∃ T x, v = .ref T ∧ H T = none ∧ H' = upd H T (.tup [.int (i : Nat), x]) ∧ ∀ xs, SqT K H a xs → xs[i]? = some x
  stop := fun i H => ∃ xs : List V, SqT K H a xs ∧ xs.length = i
theorem turn_enumN {P : Program} {w : World} {K : PySem.W.Frag} {elts : List Expr} {kk : Nat} {tpos : Pos} (a e it : Addr) (hae : a ≠ e) (hai : a ≠ it) :
    Turn P w K (.Tuple elts kk tpos) (ItN K a) [e, it] e (fun i h => (∃ old, IsEnum h e it ((i : Nat) : Int) old) ∧ h.IsTupleIter it a i ∧ e ≠ it) where
  mem := by simp
  obj := by
    rintro i h ⟨⟨old, he⟩, ⟨o, ho, hc, hd⟩, _⟩ b hb
    rcases (by simpa using hb : b = e ∨ b = it) with rfl | rfl
    · exact ⟨_, he, fun v q => nomatch q⟩
    · exact ⟨o, ho, fun v q => by rw [hd] at q; cases q⟩
  keep := by
    rintro i h h' ⟨⟨old, he⟩, hi, hne⟩ k
    exact ⟨⟨old, k e (by simp) _ he⟩, hi.at fun o q => k it (by simp) o q, hne⟩
  item := by
    rintro X rfl rfl rfl hc i pins s σ H E I hf ⟨⟨old, he⟩, hit, hne⟩ ⟨xs, x, hq, hx⟩
    obtain ⟨its, rv, p, hz⟩ := I.tuple hq
    obtain ⟨u, hu, ru⟩ := rv.get hx
    have le : e < s.heap.objs.size := Heap.lt_size he
    have li : it < s.heap.objs.size := by obtain ⟨_, q, _⟩ := hit; exact Heap.lt_size q
    have hu' : its.toArray[i]? = some u := by simpa using hu
    have lt : i < its.toArray.size := (Array.getElem?_eq_some_iff.mp hu').1
    have D := Draws.tuple (prog := X.prog) (w := X.w) (A := X.A.in1) (by simp [I.ok.hd hc]) it a hai its.toArray
    refine wpAny_pyNext_enum_itemC D he ⟨hit, p⟩ lt hne (by simp [hne, Ne.symm hae]) fun y h' tk hy ho st' hT sz k => ?_
    have hy : its.toArray[i]? = some y := hy
    rw [hu'] at hy
    cases hy
    refine ⟨_, rfl, wpAny_letOwnedTupleGo_enum (s := { s with heap := h', toks := tk + 1 }) ho fun h2 he2 sb => ?_⟩
    have T2 : h2.get? s.heap.objs.size = some { cls := .type "tuple", data := .seq #[.int i tk, u] } := (sb.2 _ (Nat.ne_of_gt le)).trans hT
    have new : ObjOk X.prog X.w (upd H s.heap.objs.size (.tup [.int (i : Nat), x])) h2 s.heap.objs.size (.tup [.int (i : Nat), x]) := by
      refine ⟨?_, [.int i tk, u], .cons ⟨_, rfl⟩ (.cons ru .nil), ⟨_, T2, rfl, _, rfl⟩⟩
      show 2 ≤ sizeLine
      decide
    have fr : H s.heap.objs.size = none := I.hok.fresh (Nat.le_refl _)
    have J : Inv X pins σ (upd H s.heap.objs.size (.tup [.int (i : Nat), x])) { s with heap := h2, toks := tk + 1 } :=
      I.turnedNew (ch := [e, it]) (fun b ob hb q => (sb.2 b (fun z => hb (by simp [z]))).trans (k b ob (fun z => hb (by simp [z])) (fun z => hb (by simp [z])) q)) hf (Nat.le_refl _) new
    refine ⟨.ref s.heap.objs.size, _, J, rfl, ⟨_, x, rfl, fr, rfl, fun ys hy => ?_⟩, ⟨⟨u, ?_⟩, st'.1.at fun o q => (sb.2 it (Ne.symm hne)).trans q, hne⟩, fun b hb => ?_⟩
    · rw [I.tuple_inj hy hq]
      exact hx
    · rw [show ((i + 1 : Nat) : Int) = (i : Int) + 1 by omega]
      exact he2
    · have lb : b < s.heap.objs.size := by
        rcases (by simpa using hb : b = e ∨ b = it) with rfl | rfl
        · exact le
        · exact li
      rw [upd_ne (Nat.ne_of_lt lb)]
      exact (hf b hb).1
  done := by
    rintro X rfl rfl rfl hc i pins s σ H E I hf ⟨⟨old, he⟩, hit, hne⟩ ⟨xs, hq, hx⟩
    obtain ⟨its, rv, p, hz⟩ := I.tuple hq
    obtain ⟨f0, f1, f2, f3, f4, f5⟩ := hf it (by simp)
    have len : its.toArray.size = i := by
      have := rv.length
      simp
      omega
    have D := Draws.tuple (prog := X.prog) (w := X.w) (A := X.A.in1) (by simp [I.ok.hd hc]) it a hai its.toArray
    exact wpAny_pyNext_enum_endD D he (by rw [len]; exact ⟨hit, p⟩) fun h' eb => ⟨rfl, I.turned (t' := s.toks) (fun b o hb q => eb b o hb q) f0 f1 f3 f4 f5⟩
  self := by
    rintro A i s Q E ⟨⟨_, he⟩, _⟩ h
    exact wpAny_pyIter_enum he h
theorem pi_enumN {X : Cx} {e : Expr} {te : TE} {p pos tpos : Pos} {elts : List Expr} {kk : Nat} (hg : Gl X "enumerate") (hm : X.mg "enumerate" = none) (he : PE X e te) (na : starEach [e] X.env = (false, eval e X.env) :: starEach [] X.env) :
    PI X (.Tuple elts kk tpos) (.Call (.Name "enumerate" p) [e] [] pos) (fun σ H R => te σ H fun x H1 => (∃ a xs, x = .ref a ∧ SqL X.K H1 a xs ∧ R (Ite X.K a) H1) ∨ (∃ a xs, x = .ref a ∧ SqT X.K H1 a xs ∧ R (ItN X.K a) H1)) := by
  constructor
  intro pins s σ H R I h
  refine Call_ (ld_blt I hg hm boot_enumerate (PyProof.Rows.callWith_type1 (PyProof.Rows.args_cons (thn (he.run pins s σ H _ I h) ?_) na) na))
  rintro v s1 ⟨x, H1, I1, r1, q⟩
  refine PyProof.Rows.args_nil ?_
  have two : ∀ b, b ∈ [s1.heap.objs.size + 1, s1.heap.objs.size] → FpOk X pins H1 b := fun b hb => by
    have le : s1.heap.objs.size ≤ b := by
      rcases (by simpa using hb : b = s1.heap.objs.size + 1 ∨ b = s1.heap.objs.size) with rfl | rfl
      · exact Nat.le_succ _
      · exact Nat.le_refl _
    exact I1.fpOk le (I1.hok.fresh le)
  rcases q with ⟨a, xs, rfl, hq, q⟩ | ⟨a, xs, rfl, hq, q⟩
  · cases r1
    obtain ⟨its, rv, pl, hz⟩ := I1.list hq
    refine call_enumerate_list pl.isList fun h' he hit hsz hk => wpAny_pyIter_enum he ?_
    exact ⟨s1.heap.objs.size + 1, _, _, _, H1, rfl, I1.kept (t' := s1.toks) hk, turn_enum a _ _, ⟨⟨.none, he⟩, hit, Nat.succ_ne_self _⟩, two, q⟩
  · cases r1
    obtain ⟨its, rv, pl, hz⟩ := I1.tuple hq
    have lt : a < s1.heap.objs.size := by obtain ⟨_, z, _⟩ := id pl; exact Heap.lt_size z
    refine call_enum1 (begins_tuple a its.toArray) pl fun h' he hit hk => wpAny_pyIter_enum he ?_
    exact ⟨s1.heap.objs.size + 1, _, _, _, H1, rfl, I1.kept (t' := s1.toks) hk, turn_enumN a _ _ (Nat.ne_of_lt (Nat.lt_succ_of_lt lt)) (Nat.ne_of_lt lt), ⟨⟨.none, he⟩, ⟨_, hit, rfl, rfl⟩, Nat.succ_ne_self _⟩, two, q⟩
section
variable {c : RC} {X : Cx} {W : WX} {G : GEnv} {e : Expr} {ea : E} {pos : Pos}
theorem enumD_get {ds : List D} {i : Nat} {d : D} (h : (enumD ds)[i]? = some d) : ∃ x, ds[i]? = some x ∧ d = .tup [.int (i : Nat), x] := by
  unfold enumD at h
  rw [List.getElem?_mapIdx] at h
  cases q : ds[i]? with
  | none => rw [q] at h; cases h
  | some x => rw [q] at h; cases h; exact ⟨x, rfl, rfl⟩
theorem enumD_len {ds : List D} : (enumD ds).length = ds.length := by simp [enumD]
theorem pair_yld {K : PySem.W.Frag} {H : Hp} {T : Addr} {i : Nat} {x : V} {d : D} (n : H T = none) (r : RelD K H d x) :
    SqT K (L2.upd H T (.tup [.int (i : Nat), x])) T [.int (i : Nat), x] ∧ RelDs K (L2.upd H T (.tup [.int (i : Nat), x])) [.int (i : Nat), d] [.int (i : Nat), x] :=
  ⟨.inl (.inl upd_same), _, _, rfl, rfl, _, _, rfl, RelD.mono (Mono.fresh n) _ _ r, rfl⟩
theorem ix_enumN {H : Hp} {a : Addr} {vs : List V} {ds : List D} (h : TupAt c.K H a vs) (r : RelDs c.K H ds vs) : lIx c true H (ItN c.K a) (enumD ds) [] := fun i H1 A m ra _ => by
  have h1 : SqT c.K H1 a vs := (m.tup h).sqt
  refine ⟨fun d e => ?_, fun hi => ⟨vs, h1, by rw [r.length, ← hi, enumD_len]⟩⟩
  obtain ⟨y, hy, rfl⟩ := enumD_get e
  obtain ⟨v, hv, rv⟩ := r.get hy
  refine ⟨⟨vs, v, h1, hv⟩, ?_⟩
  rintro x H' ⟨T, u, rfl, hT, rfl, hu⟩
  have := hu vs h1
  rw [hv] at this
  cases this
  obtain ⟨s1, s2⟩ := pair_yld (i := i) hT (RelD.mono m _ _ rv)
  exact ⟨Mono.fresh hT, ra.aside hT, .inr ⟨rfl, _, T, _, rfl, rfl, s1, s2⟩⟩
theorem ix_enumF {H : Hp} {a : Addr} {vs : List V} {ds : List D} (h : FlAt c.K H a vs) (r : RelDs c.K H ds vs) : lIx c true H (Ite c.K a) (enumD ds) [] := fun i H1 A m ra _ => by
  have h1 : SqL c.K H1 a vs := (m.fl h).sql
  refine ⟨fun d e => ?_, fun hi => ⟨vs, h1, by rw [r.length, ← hi, enumD_len]; exact Nat.le_refl _⟩⟩
  obtain ⟨y, hy, rfl⟩ := enumD_get e
  obtain ⟨v, hv, rv⟩ := r.get hy
  refine ⟨⟨vs, v, h1, hv⟩, ?_⟩
  rintro x H' ⟨T, u, rfl, hT, rfl, hu⟩
  have := hu vs h1
  rw [hv] at this
  cases this
  obtain ⟨s1, s2⟩ := pair_yld (i := i) hT (RelD.mono m _ _ rv)
  exact ⟨Mono.fresh hT, ra.aside hT, .inr ⟨rfl, _, T, _, rfl, rfl, s1, s2⟩⟩
theorem ix_enumL {H : Hp} {a : Addr} {ds : List D} : lIx c true H (Ite c.K a) (enumD ds) [(a, .lst ds)] := fun i H1 A m ra hg => by
  obtain ⟨vs, h0, r⟩ := ra _ _ (hg (a, .lst ds) (by simp))
  have h1 : SqL c.K H1 a vs := SqL.of h0
  refine ⟨fun d e => ?_, fun hi => ⟨vs, h1, by rw [r.length, ← hi, enumD_len]; exact Nat.le_refl _⟩⟩
  obtain ⟨y, hy, rfl⟩ := enumD_get e
  obtain ⟨v, hv, rv⟩ := r.get hy
  refine ⟨⟨vs, v, h1, hv⟩, ?_⟩
  rintro x H' ⟨T, u, rfl, hT, rfl, hu⟩
  have := hu vs h1
  rw [hv] at this
  cases this
  obtain ⟨s1, s2⟩ := pair_yld (i := i) hT rv
  exact ⟨Mono.fresh hT, ra.aside hT, .inr ⟨rfl, _, T, _, rfl, rfl, s1, s2⟩⟩
theorem i_enum (hK : X.K = c.K) {elts : List Expr} {kk : Nat} {tpos p : Pos} (hg : Gl X "enumerate") (hm : X.mg "enumerate" = none) (he : PE X e (lE c (ev G ea) W)) (hn : noStar e = true) :
    PI X (.Tuple elts kk tpos) (.Call (.Name "enumerate" p) [e] [] pos) (lI c true (evI G (.enum ea)) W) := by
  refine PI.imp (pi_enumN hg hm he (starEach_cons hn)) fun σ H R h => ?_
  obtain ⟨σd, A, Xd, Rd, rs, ra, t, f, fw⟩ := h
  refine lE_go rs .refl ra fw t fun x A1 v H1 q1 m1 ra1 rx => ?_
  cases x <;> try exact q1.elim
  · obtain ⟨a, vs, rfl, h, q⟩ := rx
    exact .inr ⟨a, vs, rfl, by rw [hK]; exact h.sqt, by rw [hK]; exact f _ _ _ _ _ q1 m1 ra1 (ix_enumN h q)⟩
  · cases rx
    dsimp only at q1
    split at q1
    · rename_i e1
      obtain ⟨vs, h, q⟩ := ra1 _ _ e1
      exact .inl ⟨_, vs, rfl, SqL.of h, by rw [hK]; exact f _ _ _ _ _ q1 m1 ra1 ix_enumL⟩
    · exact q1.elim
  · obtain ⟨a, vs, rfl, h, q⟩ := rx
    exact .inl ⟨a, vs, rfl, by rw [hK]; exact h.sql, by rw [hK]; exact f _ _ _ _ _ q1 m1 ra1 (ix_enumF h q)⟩
end
section
variable {c : RC} {X : Cx} {W : WX} {G : GEnv} {a b : Expr} {ea eb : E} {pos : Pos}
/-- a list | a tuple that is walked: where it lies as long as what must stand stands -/
def SrcL (c : RC) (H0 : Hp) (p : Addr) (ds : List D) (Gd : Gd) : Prop := ∀ H A, Mono H0 H → RelA c A H → holds Gd A → ∃ vs, SqL c.K H p vs ∧ RelDs c.K H ds vs
def SrcT (c : RC) (H0 : Hp) (p : Addr) (ds : List D) (Gd : Gd) : Prop := ∀ H A, Mono H0 H → RelA c A H → holds Gd A → ∃ vs, SqT c.K H p vs ∧ RelDs c.K H ds vs
theorem src_ok {A : AH} {H : Hp} {d : D} {x : V} {k : Bool} {ds : List D} {Gd : Gd} (rx : RelD c.K H d x) (h : srcD A d = some (k, ds, Gd)) : ∃ p, x = .ref p ∧ ((k = false ∧ SrcL c H p ds Gd) ∨ (k = true ∧ SrcT c H p ds Gd)) := by
  cases d <;> simp only [srcD] at h <;> try (cases h; done)
  · cases h
    obtain ⟨p, vs, rfl, h, q⟩ := rx
    exact ⟨p, rfl, .inr ⟨rfl, fun H1 A1 m _ _ => ⟨vs, (m.tup h).sqt, RelDs.mono m _ _ q⟩⟩⟩
  · cases rx
    split at h
    · cases h
      refine ⟨_, rfl, .inl ⟨rfl, fun H1 A1 m ra hg => ?_⟩⟩
      have z := hg _ (List.mem_singleton.mpr rfl)
      obtain ⟨vs, h0, r⟩ := ra _ _ z
      exact ⟨vs, SqL.of h0, r⟩
    · cases h
  · cases h
    obtain ⟨p, vs, rfl, h, q⟩ := rx
    exact ⟨p, rfl, .inl ⟨rfl, fun H1 A1 m _ _ => ⟨vs, (m.fl h).sql, RelDs.mono m _ _ q⟩⟩⟩
theorem src_holds {A : AH} {d : D} {k : Bool} {ds : List D} {Gd : Gd} (h : srcD A d = some (k, ds, Gd)) : holds Gd A := by
  cases d <;> simp only [srcD] at h <;> try (cases h; done)
  · cases h; exact fun _ z => nomatch z
  · split at h
    · rename_i e
      cases h
      intro p hp
      cases List.mem_singleton.mp hp
      exact e
    · cases h
  · cases h; exact fun _ z => nomatch z
theorem zipD_get {ds es : List D} {i : Nat} {d : D} (h : (zipD ds es)[i]? = some d) : ∃ x y, ds[i]? = some x ∧ es[i]? = some y ∧ d = .tup [x, y] := by
  unfold zipD at h
  rw [List.getElem?_zipWith] at h
  cases q1 : ds[i]? with
  | none => rw [q1] at h; simp at h
  | some x =>
    cases q2 : es[i]? with
    | none => rw [q1, q2] at h; simp at h
    | some y => rw [q1, q2] at h; simp at h; exact ⟨x, y, rfl, rfl, h.symm⟩
theorem pair2 {K : PySem.W.Frag} {H : Hp} {T : Addr} {x y : V} {d e : D} (n : H T = none) (r : RelD K H d x) (q : RelD K H e y) :
    SqT K (L2.upd H T (.tup [x, y])) T [x, y] ∧ RelDs K (L2.upd H T (.tup [x, y])) [d, e] [x, y] :=
  ⟨.inl (.inl upd_same), _, _, rfl, RelD.mono (Mono.fresh n) _ _ r, _, _, rfl, RelD.mono (Mono.fresh n) _ _ q, rfl⟩
theorem holds_app {G1 G2 : Gd} {A : AH} (h : holds (G1 ++ G2) A) : holds G1 A ∧ holds G2 A := ⟨fun p q => h p (List.mem_append_left _ q), fun p q => h p (List.mem_append_right _ q)⟩
theorem ix_zipL {H : Hp} {p q : Addr} {ds es : List D} {G1 G2 : Gd} (h : SrcL c H p ds G1) (k : SrcL c H q es G2) : lIx c true H (Itz c.K p q) (zipD ds es) (G1 ++ G2) := fun i H1 A m ra hg => by
  obtain ⟨vs, s1, r1⟩ := h H1 A m ra (holds_app hg).1
  obtain ⟨ws, s2, r2⟩ := k H1 A m ra (holds_app hg).2
  refine ⟨fun d e => ?_, fun hi => ⟨vs, ws, s1, s2, ?_⟩⟩
  · obtain ⟨x, y, hx, hy, rfl⟩ := zipD_get e
    obtain ⟨u, hu, ru⟩ := r1.get hx
    obtain ⟨v, hv, rv⟩ := r2.get hy
    refine ⟨⟨vs, ws, u, v, s1, s2, hu, hv⟩, ?_⟩
    rintro z H' ⟨T, u', v', rfl, hT, rfl, g1, g2⟩
    have e1 := g1 vs s1
    have e2 := g2 ws s2
    rw [hu] at e1
    rw [hv] at e2
    cases e1
    cases e2
    obtain ⟨t1, t2⟩ := pair2 hT ru rv
    exact ⟨Mono.fresh hT, ra.aside hT, .inr ⟨rfl, _, T, _, rfl, rfl, t1, t2⟩⟩
  · unfold zipD at hi
    rw [List.length_zipWith] at hi
    rw [r1.length, r2.length]
    omega
theorem ix_zipT {H : Hp} {p q : Addr} {ds es : List D} {G1 G2 : Gd} (h : SrcT c H p ds G1) (k : SrcT c H q es G2) : lIx c true H (RZ.ItzT c.K p q) (zipD ds es) (G1 ++ G2) := fun i H1 A m ra hg => by
  obtain ⟨vs, s1, r1⟩ := h H1 A m ra (holds_app hg).1
  obtain ⟨ws, s2, r2⟩ := k H1 A m ra (holds_app hg).2
  refine ⟨fun d e => ?_, fun hi => ⟨vs, ws, s1, s2, ?_⟩⟩
  · obtain ⟨x, y, hx, hy, rfl⟩ := zipD_get e
    obtain ⟨u, hu, ru⟩ := r1.get hx
    obtain ⟨v, hv, rv⟩ := r2.get hy
    refine ⟨⟨vs, ws, u, v, s1, s2, hu, hv⟩, ?_⟩
    rintro z H' ⟨T, u', v', rfl, hT, rfl, g1, g2⟩
    have e1 := g1 vs s1
    have e2 := g2 ws s2
    rw [hu] at e1
    rw [hv] at e2
    cases e1
    cases e2
    obtain ⟨t1, t2⟩ := pair2 hT ru rv
    exact ⟨Mono.fresh hT, ra.aside hT, .inr ⟨rfl, _, T, _, rfl, rfl, t1, t2⟩⟩
  · unfold zipD at hi
    rw [List.length_zipWith] at hi
    rw [r1.length, r2.length]
    omega
theorem i_zip (hK : X.K = c.K) {elts : List Expr} {kk : Nat} {tpos p : Pos} (hg : Gl X "zip") (hm : X.mg "zip" = none) (ha : PE X a (lE c (ev G ea) W)) (hb : PE X b (lE c (ev G eb) W)) (hn : noStar a = true) (hn2 : noStar b = true) :
    PI X (.Tuple elts kk tpos) (.Call (.Name "zip" p) [a, b] [] pos) (lI c true (evI G (.zip ea eb)) W) := by
  refine PI.imp (RZ.pi_zipA hg hm (pa_cons ha (pa_cons hb pa_nil (starEach_cons hn2)) (starEach_cons hn)) (starEach_cons hn) (by rw [starEach_cons hn2]; rfl)) fun σ H R h => ?_
  obtain ⟨σd, A, Xd, Rd, rs, ra, t, f, fw⟩ := h
  refine lE_go rs .refl ra fw t fun x A1 v H1 q1 m1 ra1 rx => ?_
  refine lE_go rs m1 ra1 fw q1 fun y A2 w H2 q2 m2 ra2 ry => ?_
  split at q2
  · rename_i k1 ds G1 k2 es G2 e1 e2
    obtain ⟨rfl, q3⟩ := q2
    obtain ⟨p, rfl, o1⟩ := src_ok (RelD.mono m2 _ _ rx) e1
    obtain ⟨q, rfl, o2⟩ := src_ok ry e2
    rcases o1 with ⟨rfl, s1⟩ | ⟨rfl, s1⟩
    · rcases o2 with ⟨_, s2⟩ | ⟨z, _⟩
      · obtain ⟨vs, u1, _⟩ := s1 H2 A2 .refl ra2 (src_holds e1)
        obtain ⟨ws, u2, _⟩ := s2 H2 A2 .refl ra2 (src_holds e2)
        exact ⟨p, q, vs, ws, rfl, .inl ⟨by rw [hK]; exact u1, by rw [hK]; exact u2, by rw [hK]; exact f _ _ _ _ _ q3 (m1.trans m2) ra2 (ix_zipL s1 s2)⟩⟩
      · cases z
    · rcases o2 with ⟨z, _⟩ | ⟨_, s2⟩
      · cases z
      · obtain ⟨vs, u1, _⟩ := s1 H2 A2 .refl ra2 (src_holds e1)
        obtain ⟨ws, u2, _⟩ := s2 H2 A2 .refl ra2 (src_holds e2)
        exact ⟨p, q, vs, ws, rfl, .inr ⟨by rw [hK]; exact u1, by rw [hK]; exact u2, by rw [hK]; exact f _ _ _ _ _ q3 (m1.trans m2) ra2 (ix_zipT s1 s2)⟩⟩
  · exact q2.elim
end
end Py

namespace Py
open PySem PySem.Spec PyProof.Rows L2
/-! ### keywords and defaults -/
/-- one form of a call: m values by place, keywords ks; what the defaults (dv) leave -/
structure Form (K : PySem.W.Frag) (fd : FuncData) (ps : List Str) (m : Nat) (ks : List Str) (dv : List Value) : Prop where
  to : ∀ (s : Shared) (us ws : List Value), K.In s.heap → us.length = m → ws.length = ks.length → BindsTo s fd ⟨us, ks.zip ws⟩ (ps.zip (us ++ ws ++ dv))
  len : m + ks.length + dv.length = ps.length
section
variable {X : Cx} {CX : CXT} {k : Nat} {f : Addr} {fd : FuncData} {ps ks : List Str} {sp : Sp} {E : L2.St → XK} {x : Str} {p pos : Pos} {e : Expr} {es : List Expr} {kws : List Keyword} {t tk : TA} {dv : List Value} {dV : List V} {m : Nat}
theorem run_GK {pins : List (Addr × Obj)} {σ : L2.St} {H : Hp} {s : Shared} {Q : VK} {us ws : List Value} {vs zs : List V} (F : FnG X.prog X.w X.K X.mg X.base CX k f fd ps sp) (hr : Room k X.A) (hg : X.A.guards = some []) (hb : Form X.K fd ps m ks dv) (hd : Vals dV dv) (hx : PassesAt CX X σ (E σ))
    (I : Inv X pins σ H s) (r : Vals vs us) (rz : Vals zs ws) (n1 : us.length = m) (n2 : ws.length = ks.length) (h : sp (vs ++ zs ++ dV) H Q (E σ)) : wpAny (model X.prog X.w) X.A (call (.ref f) us (ks.zip ws)) (EP X pins σ Q) X.xe s := by
  apply wpAny_call
  apply codeAny_mono (F.run X.A X.stack s H ⟨us, ks.zip ws⟩ (us ++ ws ++ dv) (vs ++ zs ++ dV) Q (E σ) hr hg I.env0 (hb.to s us ws I.kIn n1 n2) ((r.append rz).append hd) h)
  intro r s' hq
  cases r with
  | error e => exact hx pins H s e s' I hq
  | ok fl => cases fl with
    | ret u => exact I.after hq
    | _ => exact hq.elim
/-- f(e, .., k = v, ..) -/
theorem pe_GK (F : FnG X.prog X.w X.K X.mg X.base CX k f fd ps sp) (hr : Room k X.A) (hgd : X.A.guards = some []) (hg : Gl X x) (hm : X.mg x = some (.ref f)) (hk : PySem.W.keepIn X.K (.ref f) = true) (hb : Form X.K fd ps m ks dv) (hd : Vals dV dv) (hx : ∀ σ, PassesAt CX X σ (E σ))
    (ha : PA X (e :: es) t) (hkw : PK X kws tk) (hall : (backToKw pos (keywordEach kws X.env)).all (·.1.isSome) = true) (hks : (backToKw pos (keywordEach kws X.env)).filterMap (·.1) = ks) (hdb : (x == ("__debug__" : Str)) = false)
    (he : starEach (e :: es) X.env = (false, eval e X.env) :: starEach es X.env) (hpl : ((backTo pos (starEach (e :: es) X.env)).any (·.1) || (backToKw pos (keywordEach kws X.env)).any (·.1.isNone)) = false) :
    PE X (.Call (.Name x p) (e :: es) kws pos) (fun σ H Q => t σ H fun vs H1 => tk σ H1 fun zs H2 => vs.length = m ∧ zs.length = ks.length ∧ sp (vs ++ zs ++ dV) H2 Q (E σ)) := by
  constructor
  intro pins s σ H Q I h
  apply wpAny_Call_Name_kw
  apply ld_glob I hg hm _ hdb
  apply PySem.W.callWith_KW (h₀ := X.base) I.ok.mod.kin hk hall _ hpl he
  apply thn (ha.run pos pins s σ H _ I h)
  rintro us s1 ⟨vs, H1, I1, r, q⟩
  apply thn (hkw.run pos pins s1 σ H1 _ I1 q)
  rintro ws s2 ⟨zs, H2, I2, rz, n1, n2, q2⟩
  refine ⟨I2.kIn, ?_⟩
  rw [hks]
  exact run_GK (us := us) F hr hgd hb hd (hx σ) I2 r rz (r.length.symm.trans n1) (rz.length.symm.trans n2) q2
/-- f(e, ..), the last parameters by their defaults -/
theorem pe_GD (F : FnG X.prog X.w X.K X.mg X.base CX k f fd ps sp) (hr : Room k X.A) (hgd : X.A.guards = some []) (hg : Gl X x) (hm : X.mg x = some (.ref f)) (hk : PySem.W.keepIn X.K (.ref f) = true) (hb : Form X.K fd ps m [] dv) (hd : Vals dV dv) (hx : ∀ σ, PassesAt CX X σ (E σ))
    (ha : PA X (e :: es) t) (hdb : (x == ("__debug__" : Str)) = false) (he : starEach (e :: es) X.env = (false, eval e X.env) :: starEach es X.env) (hpl : (backTo pos (starEach es X.env)).any (·.1) = false) :
    PE X (.Call (.Name x p) (e :: es) [] pos) (fun σ H Q => t σ H fun vs H1 => vs.length = m ∧ sp (vs ++ dV) H1 Q (E σ)) := by
  constructor
  intro pins s σ H Q I h
  apply wpAny_Call_Name_kw
  apply ld_glob I hg hm _ hdb
  apply PySem.W.callWith_K (h₀ := X.base) I.ok.mod.kin hk _ he hpl
  apply thn (ha.run pos pins s σ H _ I h)
  rintro us s1 ⟨vs, H1, I1, r, n1, q⟩
  refine ⟨I1.kIn, ?_⟩
  exact run_GK (us := us) (ws := []) (zs := []) F hr hgd hb hd (hx σ) I1 r .nil (by rw [← r.length]; exact n1) rfl (by rw [List.append_nil]; exact q)
end
end Py

namespace Py
open PySem PySem.Spec PyProof.Rows L2
section
variable {c : RC} {X : Cx} {W : WX} {G : GEnv} {a b e : Expr} {ea eb : E} {es : List Expr} {ees : Es} {pos : Pos}
/-! ### {} -/
theorem s_dnil : PE X (.Dict [] [] pos) (lE c (ev G .dnil) W) := by
  refine PE.imp (PE.fz pe_dnewK) fun σ H Q h => ?_
  obtain ⟨σd, A, Xd, Qd, rs, ra, t, f, fw⟩ := h
  exact f.dct t ra rfl
/-! ### {k: v, ..} -/
def FolKV (c : RC) (H : Hp) (Q : List (V × V) → Hp → Prop) (Qd : List (Key × D) → AH → Prop) : Prop := ∀ kvs A' ws H', Qd kvs A' → Mono H H' → RelA c A' H' → RelKv c.K H' kvs ws → Q (ws.map fun p => (kV p.1, p.2)) H'
/-- the pairs' expressions, their readings -/
inductive PsOk (c : RC) (G : GEnv) (X : Cx) (W : WX) : Ps → List (Option Expr) → List Expr → List (TE × TE) → Prop
  | nil : PsOk c G X W .nil [] [] []
  | cons {k v : Expr} {ek ev' : E} {ps : Ps} {ks : List (Option Expr)} {vs : List Expr} {trs : List (TE × TE)} (hk : PE X k (lE c (ev G ek) W)) (hv : PE X v (lE c (ev G ev') W)) (h : PsOk c G X W ps ks vs trs) :
      PsOk c G X W (.cons ek ev' ps) (some k :: ks) (v :: vs) ((lE c (ev G ek) W, lE c (ev G ev') W) :: trs)
theorem PsOk.pps : ∀ {ps : Ps} {ks : List (Option Expr)} {vs : List Expr} {trs : List (TE × TE)}, PsOk c G X W ps ks vs trs → PPs X pos ks vs trs
  | _, _, _, _, .nil => pps_nil
  | _, _, _, _, .cons hk hv h => pps_cons hk hv h.pps
theorem PsOk.all : ∀ {ps : Ps} {ks : List (Option Expr)} {vs : List Expr} {trs : List (TE × TE)}, PsOk c G X W ps ks vs trs → ks.all (·.isSome) = true ∧ ks.length = vs.length
  | _, _, _, _, .nil => ⟨rfl, rfl⟩
  | _, _, _, _, .cons _ _ h => ⟨by simp [h.all.1], by simp [h.all.2]⟩
theorem PsOk.go : ∀ {ps : Ps} {ks : List (Option Expr)} {vs : List Expr} {trs : List (TE × TE)} (_ : PsOk c G X W ps ks vs trs) {σ : L2.St} {H H1 : Hp} {σd : DSt} {A : AH} {Xd : Dx} {Q : List (V × V) → Hp → Prop} {Qd : List (Key × D) → AH → Prop},
    RelS c.K H σd σ → Mono H H1 → RelA c A H1 → FolW c H (fun cl d H' => W cl d σ H') Xd → evKV G ps σd A Xd Qd → FolKV c H1 Q Qd → tPairs trs σ H1 Q
  | _, _, _, _, .nil, σ, H, H1, σd, A, Xd, Q, Qd, rs, m, ra, fw, t, f => f [] A [] H1 t .refl ra rfl
  | _, _, _, _, .cons hk hv h, σ, H, H1, σd, A, Xd, Q, Qd, rs, m, ra, fw, t, f => by
    refine lE_go rs m ra fw t fun x A2 v H2 q2 m2 ra2 rx => ?_
    refine lE_go rs (m.trans m2) ra2 fw q2 fun y A3 w H3 q3 m3 ra3 ry => ?_
    refine h.go rs ((m.trans m2).trans m3) ra3 fw q3 fun kvs A4 ws H4 q4 m4 ra4 r4 => ?_
    split at q4
    · rename_i k ek
      have e1 := dkey_rel ek rx
      subst e1
      exact f _ A4 ((k, w) :: ws) H4 q4 ((m2.trans m3).trans m4) ra4 ⟨w, ws, rfl, RelD.mono m4 _ _ ry, r4⟩
    · exact q4.elim
theorem s_dsp {ps : Ps} {ks : List (Option Expr)} {vs : List Expr} {trs : List (TE × TE)} (h : PsOk c G X W ps ks vs trs) (h0 : ks ≠ []) (h15 : ks.length ≤ 15) : PE X (.Dict ks vs pos) (lE c (ev G (.dsp ps)) W) := by
  refine PE.imp (PE.fz (pe_disp h.pps h.all.1 h.all.2 h0 h15)) fun σ H Q hh => ?_
  obtain ⟨σd, A, Xd, Qd, rs, ra, t, f, fw⟩ := hh
  intro p hp
  have m := Mono.fresh (o := .dK []) hp
  have ra1 : RelA c (put A p (.dct [])) (L2.upd H p (.dK [])) := ra.put m ⟨[], upd_same, rfl⟩
  refine h.go rs m ra1 fw (t p (RelA_none ra hp)) fun kvs A3 ws H3 q3 m3 ra3 r3 => ?_
  obtain ⟨q3, q4, q5⟩ := q3
  obtain ⟨w0, e0, r0⟩ := ra3 _ _ q3
  have r0' : w0 = [] := r0
  subst r0'
  refine ⟨e0, ws, rfl, by rw [r3.length]; exact q4, ?_⟩
  have m4 : Mono H3 (L2.upd H3 p (.dK (mergeK [] ws))) := Mono.at e0 fun _ _ z => nomatch z
  exact ((f.from (m.trans (m3.trans m4))).outD q5 (ra3.put m4 ⟨_, upd_same, (RelKv.merge r3 (ds := []) (vs := []) rfl).mono m4⟩))
/-! ### dict(..) -/
theorem call_dictR : CallR X (.type "dict") (fun xs H Q => ∃ a kvs, xs = [.ref a] ∧ Rd H a (.dK kvs) ∧ ∀ p, H p = none → Q (.ref p) (upd H p (.dK kvs))) := by
  intro pins s σ H xs us Q I r h
  obtain ⟨a, kvs, rfl, hr, q⟩ := h
  obtain ⟨u, rfl, rx⟩ := vals1 r
  cases rx
  exact d_copyOf I hr fun p s' hp I' => ⟨.ref p, _, I', rfl, q p hp⟩
theorem pairs_ok {K : PySem.W.Frag} {H : Hp} : ∀ {ds : List D} {vs : List V} {kvs : List (Key × D)}, RelDs K H ds vs → pairsD ds = some kvs → ∃ (ps : List Addr) (ws : List (Key × V)), vs = ps.map V.ref ∧ Paired (fun p kv => SqT K H p [kV kv.1, kv.2]) ps ws ∧ RelKv K H kvs ws
  | [], _, _, r, e => by cases (show _ = [] from r); cases e; exact ⟨[], [], rfl, .nil, rfl⟩
  | d :: ds, _, kvs, ⟨v, w, ev, h, r⟩, e => by
    subst ev
    cases d <;> try (simp only [pairsD] at e; cases e; done)
    rename_i els
    rcases els with _ | ⟨x, _ | ⟨y, _ | _⟩⟩ <;> try (simp only [pairsD] at e; cases e; done)
    have e : (match dkey x with | some k => (pairsD ds).map ((k, y) :: ·) | none => none) = some kvs := e
    split at e
    · rename_i k ek
      cases q : pairsD ds with
      | none => rw [q] at e; cases e
      | some kr =>
        rw [q] at e
        cases e
        obtain ⟨ps, ws, e1, e2, e3⟩ := pairs_ok r q
        obtain ⟨a, vs, rfl, ht, rr⟩ := h
        obtain ⟨u1, u2, rfl, r1, r2⟩ := rr.two_of
        have := dkey_rel ek r1
        subst this
        exact ⟨a :: ps, (k, u2) :: ws, by rw [e1]; rfl, .cons ht.sqt e2, u2, ws, rfl, r2, e3⟩
    · cases e
theorem b_dict (hc : X.calm = true) (hK : X.K = c.K) : CallR X (.type "dict") (lRs c (rB .dict)) := by
  refine CallR.imp (CallR.or (CallR.fz call_dictR) (CallR.fz (call_dictP hc))) fun xs H Q h => ?_
  obtain ⟨A, ds, Qd, ra, rx, r, f⟩ := h
  rcases ds with _ | ⟨d, _ | ⟨e, _⟩⟩ <;> try exact r.elim
  obtain ⟨v, rfl, rv⟩ := rx.one_of
  simp only [rB] at r
  split at r
  · rename_i kvs e
    obtain ⟨a, ws, rfl, hr, rk⟩ := mapD_rel ra rv e
    exact .inl ⟨a, ws, rfl, hr, f.dct r ra rk⟩
  · split at r
    · rename_i kvs e
      cases e2 : lstD A d with
      | none => rw [e2] at e; cases e
      | some ds =>
        rw [e2] at e
        obtain ⟨a, vs, rfl, h1, q⟩ := lstD_rel ra rv e2
        obtain ⟨ps, ws, rfl, pp, rk⟩ := pairs_ok q e
        exact .inr ⟨a, ps, ws, rfl, by rw [hK]; exact h1, by rw [hK]; exact pp, f.dct r.2 ra (RelKv.merge rk (ds := []) (vs := []) rfl)⟩
    · exact r.elim
/-! ### list(d.items()) -/
def itF (H : Hp) (S : Addr) (as : List Addr) (kvs : List (Key × V)) (h' : Heap) : Hp := fun b => if b = S then some (.lst (as.map V.ref)) else if b ∈ as then
  (match h'.get? b, kvs[as.idxOf b]? with | some ob, some p => some (.frz ob (.tup [kV p.1, p.2])) | _, _ => none) else H b
theorem idxOf_nodup : ∀ {as : List Addr} {j : Nat} {b : Addr}, as.Nodup → as[j]? = some b → as.idxOf b = j
  | a :: as, 0, b, _, h => by
    cases h
    simp
  | a :: as, j + 1, b, nd, h => by
    have h : as[j]? = some b := by simpa using h
    have n := List.nodup_cons.mp nd
    have hne : a ≠ b := fun e => n.1 (e ▸ List.mem_of_getElem? h)
    rw [List.idxOf_cons, beq_eq_false_iff_ne.mpr hne]
    simp [idxOf_nodup n.2 h]
theorem items_laidF {pins : List (Addr × Obj)} {σ : L2.St} {H : Hp} {s : Shared} {h' : Heap} {tk : Nat} {kvs : List (Key × V)} {vs : List (Key × Value)} {acc : Array Value} {c : Nat} {as : List Addr} (I : Inv X pins σ H s) (hz : kvs.length ≤ sizeLine) (kv : KV kvs vs)
    (hk : ∀ b o, s.heap.get? b = some o → h'.get? b = some o) (hS : h'.get? s.heap.objs.size = some { cls := .type "list", dict := none, data := .seq acc c, slots := #[] }) (hl : as.length = vs.length) (hG : PySem.W.KdxG (mixKind X.prog X.w) vs s.heap.objs.size h' as) (hacc : acc.toList = as.map Value.ref) :
    ∃ H' : Hp, (∀ b o, H b = some o → H' b = some o) ∧ H s.heap.objs.size = none ∧ H' s.heap.objs.size = some (.lst (as.map V.ref)) ∧ Paired (fun (t : Addr) (q : Key × V) => ∃ o : Obj, H' t = some (.frz o (.tup [kV q.1, q.2])) ∧ o.dict = none ∧ o.slots = #[]) as kvs ∧ s.heap.objs.size ∉ as ∧ Inv X pins σ H' { s with heap := h', toks := tk } := by
  have lk : kvs.length = vs.length := Paired.length kv
  have hSn : s.heap.objs.size ∉ as := fun z => Nat.lt_irrefl _ (hG.above _ z)
  have nd : as.Nodup := List.Pairwise.imp (fun {a b} (h : a < b) => Nat.ne_of_lt h) hG.rise
  have new : ∀ t ∈ as, H t = none := fun t ht => I.hok.fresh (Nat.le_of_lt (hG.above t ht))
  have newS : H s.heap.objs.size = none := I.hok.fresh (Nat.le_refl _)
  have low : ∀ b o, s.heap.get? b = some o → b ∉ as ∧ b ≠ s.heap.objs.size := fun b o e => ⟨fun z => absurd (Heap.lt_size e) (Nat.not_lt.mpr (Nat.le_of_lt (hG.above b z))), Nat.ne_of_lt (Heap.lt_size e)⟩
  have off : ∀ b, b ∉ as → b ≠ s.heap.objs.size → itF H s.heap.objs.size as kvs h' b = H b := fun b h1 h2 => by unfold itF; rw [if_neg h2, if_neg h1]
  have kp : ∀ b u, H b = some u → (itF H s.heap.objs.size as kvs h') b = some u := fun b u e => by
    rw [off b (fun z => by rw [new b z] at e; cases e) (fun z => by rw [z, newS] at e; cases e)]
    exact e
  have eS : itF H s.heap.objs.size as kvs h' s.heap.objs.size = some (.lst (as.map V.ref)) := by unfold itF; rw [if_pos rfl]
  have at_ : ∀ (j : Nat) (b : Addr) (pk : Key × V), as[j]? = some b → kvs[j]? = some pk → ∃ (ob : Obj) (key x : Value), h'.get? b = some ob ∧ ob.dict = none ∧ ob.slots = #[] ∧ itF H s.heap.objs.size as kvs h' b = some (.frz ob (.tup [kV pk.1, pk.2])) ∧ Vals [kV pk.1, pk.2] [key, x] ∧ ob.cls = .type "tuple" ∧ ∃ n, ob.data = .seq #[key, x] n := fun j b pk e1 e2 => by
    have hb : b ∈ as := List.mem_of_getElem? e1
    obtain ⟨key, k, x, f1, f2, f3⟩ := hG.pairs j b e1
    obtain ⟨qv, g1, g2, g3⟩ := LiI.paired_get kv e2
    rw [f1] at g1
    cases g1
    have rk : RelV (kV pk.1) key := by
      rw [g2]
      exact relV_key (show keyIs k key = true from f2)
    refine ⟨_, key, x, f3, rfl, rfl, ?_, .cons rk (.cons g3 .nil), rfl, _, rfl⟩
    unfold itF
    have hne : b ≠ s.heap.objs.size := fun z => hSn (by rw [← z]; exact hb)
    rw [if_neg hne, if_pos hb, f3, idxOf_nodup nd e1, e2]
  have atP : ∀ (as2 : List Addr) (kvs2 : List (Key × V)), as2.length = kvs2.length → (∀ (j : Nat) (b : Addr) (pk : Key × V), as2[j]? = some b → kvs2[j]? = some pk → ∃ o : Obj, itF H s.heap.objs.size as kvs h' b = some (.frz o (.tup [kV pk.1, pk.2])) ∧ o.dict = none ∧ o.slots = #[]) →
      Paired (fun (t : Addr) (q : Key × V) => ∃ o : Obj, itF H s.heap.objs.size as kvs h' t = some (.frz o (.tup [kV q.1, q.2])) ∧ o.dict = none ∧ o.slots = #[]) as2 kvs2 := fun as2 => by
    induction as2 with
    | nil => intro kvs2 h _; cases kvs2 with | nil => exact .nil | cons _ _ => simp at h
    | cons a r ih => intro kvs2 h q; cases kvs2 with | nil => simp at h | cons p t => exact .cons (q 0 a p rfl rfl) (ih t (by simpa using h) fun j b pk e1 e2 => q (j + 1) b pk (by simpa using e1) (by simpa using e2))
  refine ⟨itF H s.heap.objs.size as kvs h', kp, newS, eS, atP as kvs (by omega) fun j b pk e1 e2 => let ⟨ob, _, _, _, d1, d2, e3, _⟩ := at_ j b pk e1 e2; ⟨ob, e3, d1, d2⟩, hSn, ?_⟩
  refine I.call' (ch := []) rfl ⟨fun b o q _ _ _ => hk b o q, fun b o q _ _ _ => ⟨o.slots, hk b o q⟩, fun b o q n _ => ?_, fun b o q _ => ⟨o, hk b o q⟩, fun b xs q => kp b _ q, fun b o u q => kp b _ q, fun b ps q => ⟨#[], by rw [kp b _ q]; simp⟩⟩ (fun b u q => ?_) I.bare fun b z => by simp at z
  · obtain ⟨z1, z2⟩ := low b o q
    rw [off b z1 z2]
    exact n
  · by_cases hb : b ∈ as
    · obtain ⟨j, e1⟩ := List.mem_iff_getElem?.mp hb
      have hj : j < kvs.length := by
        have := (List.getElem?_eq_some_iff.mp e1).1
        omega
      obtain ⟨ob, key, x, g1, g2, g3, g4, g5, g6, n, g7⟩ := at_ j b _ e1 (List.getElem?_eq_getElem hj)
      rw [g4] at q
      cases q
      exact ⟨g1, by show 2 ≤ sizeLine; decide, [key, x], g5, ob, g1, g6, n, g7⟩
    · by_cases hb2 : b = s.heap.objs.size
      · rw [hb2] at q ⊢
        rw [eS] at q
        cases q
        refine ⟨by rw [List.length_map]; omega, acc.toList, c, by rw [hacc]; exact LiI.vals_refs as, ?_⟩
        rw [Array.toArray_toList]
        exact hS
      · rw [off b hb hb2] at q
        exact (I.hok b u q).stay (fun d v _ y => hk d v y) (fun d y => kp d _ y) fun d xs y => kp d _ y
def tLItems (te : TE) : TE := fun σ H Q => te σ H fun x H1 => ∃ (d : Addr) (kvs : List (Key × V)), x = .ref d ∧ Rd H1 d (.dK kvs) ∧
  ∀ (H' : Hp) (p : Addr) (ts : List Addr), (∀ b o, H1 b = some o → H' b = some o) → H1 p = none → H' p = some (.lst (ts.map V.ref)) → Paired (fun (t : Addr) (q : Key × V) => ∃ o : Obj, H' t = some (.frz o (.tup [kV q.1, q.2])) ∧ o.dict = none ∧ o.slots = #[]) ts kvs → p ∉ ts → Q (.ref p) H'
theorem pe_lItems {te : TE} {p apos cpos : Pos} (hc : X.calm = true) (he : PE X e te) (hg : Gl X "list") (hm : X.mg "list" = none) (hbase : attributeBase e "items" X.env (eval e X.env) = eval e X.env) (hline : (apos.endLine == cpos.line) = true) :
    PE X (.Call (.Name "list" p) [.Call (.Attribute e "items" apos) [] [] cpos] [] pos) (tLItems te) := by
  have hs : starEach [.Call (.Attribute e "items" apos) [] [] cpos] X.env = (false, eval (.Call (.Attribute e "items" apos) [] [] cpos) X.env) :: starEach [] X.env := rfl
  refine ⟨fun pins s σ H Q I hq => ?_⟩
  refine wpAny_Call_Name_kw (ld_blt I hg hm (show bootBuiltins "list" = some (.type "list") by decide +kernel) ?_)
  refine PyProof.Rows.callWith_type1 ?_ hs rfl
  rw [hs]
  show wpAny _ _ (spliced ((false, eval (.Call (.Attribute e "items" apos) [] [] cpos) X.env) :: backTo pos (starEach [] X.env))) _ _ s
  refine Calls.spliced_cons ?_
  refine wpAny_Call_method (T := "dict") (id := "dict.items") hbase rfl hline F.plainAttrs_dict F.slot_dict_items F.type_dict_items (thn (he.run pins s σ H _ I hq) fun u s1 ⟨x, H1, I1, rx, d, kvs, ex, hd, q⟩ => ?_)
  subst ex
  obtain rfl : u = Value.ref d := rx
  obtain ⟨hz, hs0, vs, kv, hdo⟩ := dk_rd I1.hok hd
  obtain ⟨ep, hat⟩ := hdo.dictAt
  have lk : kvs.length = vs.length := Paired.length kv
  have I2 : Inv X pins σ H1 { s1 with heap := s1.heap.push { cls := .type "dict_items", data := .fields #[.ref d] } } := I1.kept (t' := s1.toks) fun b ob q => Heap.get?_push_of_some _ q
  refine ⟨hdo.typeIs, hdo.mapOf.noDict, ?_⟩
  show wpAny _ _ (callWith cpos (.builtin "dict.items") [.ref d] [] []) _ X.xe s1
  refine method_meetsIn F.slot_dict_items F.entry_dict_items rfl (PySem.evalArgs_none ⟨rfl, hdo.typeIs, F.args_dict_items_1 _, _, meets_dict_items (mixKind X.prog X.w) d hs0, ⟨vs, hdo⟩, ?_⟩)
  refine Calls.spliced_nil ?_
  refine PySem.W.kdx_call (knd := mixKind X.prog X.w) (kvs := vs) (ep := ep) (I1.ok.hd hc) ⟨_, Heap.get?_push_size _ rfl, rfl, rfl⟩ (hat.push _) (by omega) fun h' tk acc c as hk hS hl hG hacc => ?_
  obtain ⟨H', k1, k2, k5, k6, k7, J⟩ := items_laidF (tk := tk) I2 hz kv hk hS hl hG hacc
  exact ⟨.ref _, H', J, rfl, q H' _ as k1 k2 k5 k6 k7⟩
theorem items_rel {K : PySem.W.Frag} {H H' : Hp} (m : Mono H H') : ∀ {kvs : List (Key × D)} {ws : List (Key × V)} {ts : List Addr}, RelKv K H kvs ws → Paired (fun (t : Addr) (q : Key × V) => ∃ o : Obj, H' t = some (.frz o (.tup [kV q.1, q.2])) ∧ o.dict = none ∧ o.slots = #[]) ts ws →
    RelDs K H' (kvs.map fun p => .tup [keyD p.1, p.2]) (ts.map V.ref)
  | [], _, _, r, q => by
    cases (show _ = [] from r)
    cases q
    exact rfl
  | p :: kvs, _, _, ⟨v, t, e, h, r⟩, q => by
    subst e
    cases q with
    | cons q1 q2 =>
      obtain ⟨o, e1, e2⟩ := q1
      exact ⟨_, _, rfl, ⟨_, _, rfl, .inl ⟨o, e1, e2⟩, _, _, rfl, keyD_rel _, _, _, rfl, RelD.mono m _ _ h, rfl⟩, items_rel m r q2⟩
theorem s_litems {p apos cpos : Pos} (hc : X.calm = true) (he : PE X e (lE c (ev G ea) W)) (hg : Gl X "list") (hm : X.mg "list" = none) (hbase : attributeBase e "items" X.env (eval e X.env) = eval e X.env) (hline : (apos.endLine == cpos.line) = true) :
    PE X (.Call (.Name "list" p) [.Call (.Attribute e "items" apos) [] [] cpos] [] pos) (lE c (ev G (.litems ea)) W) := by
  refine PE.imp (PE.fz (pe_lItems hc he hg hm hbase hline)) fun σ H Q h => ?_
  obtain ⟨σd, A, Xd, Qd, rs, ra, t, f, fw⟩ := h
  refine lE_go rs .refl ra fw t fun x A1 v H1 q1 m1 ra1 rx => ?_
  split at q1
  · rename_i kvs e
    obtain ⟨a, ws, rfl, hr, rk⟩ := mapD_rel ra1 rx e
    refine ⟨a, ws, rfl, hr, fun H' p ts k1 k2 k3 k4 k5 => ?_⟩
    have m2 : Mono H1 H' := fun b o u _ z => k1 _ _ z
    have r2 := items_rel m2 rk k4
    rw [allocL_eq] at q1
    have old : ∀ b o, A1 b = some o → b ≠ p ∧ H' b = H1 b := fun b o z => by
      obtain ⟨u, hu⟩ := RelO_some (ra1 b o z)
      refine ⟨fun w => ?_, ?_⟩
      · rw [w, k2] at hu
        cases hu
      · rw [hu]
        exact k1 _ _ hu
    rcases q1 with q1 | q1
    · refine .step (u := .lst (ts.map V.ref)) trivial k3 fun o => .here ?_
      have m3 : Mono H' (L2.upd H' p (.frz o (.lst (ts.map V.ref)))) := Mono.frz k3 trivial
      refine (f.from m1) (.fl _) A1 _ _ q1 (m2.trans m3) (fun b o z => ?_) ⟨p, _, rfl, .inl ⟨o, upd_same⟩, r2.mono m3⟩
      obtain ⟨z1, z2⟩ := old b o z
      exact (ra1 b o z).keep (m2.trans m3) (by rw [upd_ne z1]; exact z2)
    · refine .here ((f.from m1) (.ref p) (put A1 p (.lst _)) _ H' (q1 p (RelA_none ra1 k2)) m2 (fun b o z => ?_) rfl)
      unfold Py.put at z
      by_cases hb : b = p
      · subst hb
        rw [if_pos rfl] at z
        cases z
        exact ⟨_, k3, r2⟩
      · rw [if_neg hb] at z
        exact (ra1 b o z).keep m2 (old b o z).2
  · exact q1.elim
/-! ### {k: v for ..} -/
theorem dc_lift (hK : X.K = c.K) {tg : Tg} {it : I} {kx elt : E} {cs : Es} {own : List (Str × Nat)} {tup : Bool} (ht : tup = true → ∃ xs, tg = .tup xs) (hown : ∀ i ∈ tg.ixs, i ∈ own.map (·.2)) {σ : L2.St} {H : Hp} {Q Q' : VK} (hQ : ∀ v H, FzS Q v H → Q' v H) (h : lE c (ev G (.dc kx elt tg it cs own)) W σ H Q) :
    tDc (lI c tup (evI G it) W) (gOf X.K tg) (lT c (evC G cs) noW) (lE c (ev G kx) noW) (lE c (ev G elt) noW) (own.map (·.2)) σ H Q' := by
  obtain ⟨σd, A, Xd, Qd, rs, ra, t, f, fw⟩ := h
  refine ⟨σd, A, Xd, _, rs, ra, t, fun ds Gd A1 J H1 q1 m1 ra1 ix L hL => ?_, fw⟩
  have q2 := q1 L (RelA_none ra1 hL)
  have mL := Mono.fresh (o := .dK []) hL
  let R := fun ds A2 => dcR Gd tg (fun σ' A' R => evC G cs σ' A' noX R) (fun σ' A' R => (ev2 G kx).1 σ' A' noX R) (fun σ' A' R => (ev2 G elt).1 σ' A' noX R) (wipeD σd own) L (fun A2 => outD L A2 Qd) ds A2
  refine ⟨fun i m H2 => m = ds.length - i ∧ i ≤ ds.length ∧ ∃ A2, Mono H1 H2 ∧ RelA c A2 H2 ∧ R (ds.drop i) A2,
    ⟨ds.length, by simp, Nat.zero_le _, _, mL, ra1.put (o := .dct []) mL ⟨[], upd_same, rfl⟩, q2⟩, ?_⟩
  rintro i m H2 ⟨rfl, hi, A2, m2, ra2, q⟩
  by_cases hlt : i < ds.length
  · obtain ⟨d, ed⟩ : ∃ d, ds[i]? = some d := ⟨_, List.getElem?_eq_getElem hlt⟩
    have e1 : ds.drop i = d :: ds.drop (i + 1) := by
      rw [List.drop_eq_getElem_cons hlt]
      rw [List.getElem?_eq_getElem hlt] at ed
      cases ed
      rfl
    have q : dcR Gd tg _ _ _ _ L _ (ds.drop i) A2 := q
    rw [e1, dcR_cons] at q
    obtain ⟨hg, q⟩ := q
    obtain ⟨go, yl⟩ := (ix i H2 A2 m2 ra2 hg).1 d ed
    refine .inr ⟨go, fun H' => ∃ A2, Mono H1 H' ∧ RelA c A2 H' ∧ R (ds.drop (i + 1)) A2,
      fun H' p => ⟨ds.length - (i + 1), by omega, rfl, hlt, p⟩, fun x H3 y => ?_⟩
    obtain ⟨m3, ra3, rd⟩ := yl x H3 y
    have m13 := m1.trans (m2.trans m3)
    rw [hK]
    refine gOf_go rd ht ((rs.mono m13).wipe own) q fun σd' σ' k r' hw => ⟨?_, ?_⟩
    · rw [hw _ hown, wipe_wipe]
    · refine ⟨σd', A2, noX, _, r', ra3, k, fun bb A4 H4 q4 m4 ra4 => ?_, noW_fol⟩
      cases bb with
      | true =>
        rw [if_pos rfl]
        refine ⟨σd', A4, noX, _, r'.mono m4, ra4, q4, fun y A5 w H5 q5 m5 ra5 rw' => ?_, noW_fol⟩
        refine ⟨σd', A5, noX, _, r'.mono (m4.trans m5), ra5, q5, fun z A6 u H6 q6 m6 ra6 ru => ?_, noW_fol⟩
        dsimp only at q6
        split at q6
        · rename_i acc kk e5 ek
          obtain ⟨ws, h5, r5⟩ := ra6 _ _ e5
          have m7 : Mono H6 (L2.upd H6 L (.dK (putK ws kk u))) := Mono.at h5 fun _ _ z => nomatch z
          refine ⟨ws, kk, dkey_rel ek (RelD.mono m6 _ _ rw'), h5, by rw [r5.length]; exact q6.1, _, (((((m2.trans m3).trans m4).trans m5).trans m6).trans m7), ra6.put (o := .dct (setK acc kk z)) m7 ⟨_, upd_same, (r5.set kk ru).mono m7⟩, q6.2⟩
        · exact q6.elim
      | false =>
        rw [if_neg Bool.false_ne_true]
        exact ⟨A4, (m2.trans m3).trans m4, ra4, q4⟩
  · have e1 : i = ds.length := by omega
    subst e1
    have q : dcR Gd tg _ _ _ _ L _ (ds.drop ds.length) A2 := q
    rw [List.drop_length, dcR_nil] at q
    exact .inl ⟨(ix _ H2 A2 m2 ra2 q.1).2 rfl, hQ _ _ ((f.from (m1.trans m2)).outD q.2 ra2)⟩
theorem s_dc (hK : X.K = c.K) (hc : X.calm = true) (hN : X.N.Nodup) {tg iter kx elt : Expr} {cs : List Expr} {scope : Scope} {etg : Tg} {eit : I} {ekx eelt : E} {ecs : Es} {own : List (Str × Nat)} {tup : Bool} (ht : tup = true → ∃ xs, etg = .tup xs) (hown : ∀ i ∈ etg.ixs, i ∈ own.map (·.2))
    (hi : PI X tg iter (lI c tup (evI G eit) W)) (ok : BlkOk X.N X.env.scope scope own)
    (hg : ∀ (s : Shared) (H : Hp) (C : Addr) (cl : List (Str × Addr)) (fp : List Addr), TgIs (X.blk s H scope (compEnvC scope cl C X.env) fp) etg tg)
    (hcs : ∀ (s : Shared) (H : Hp) (C : Addr) (cl : List (Str × Addr)) (fp : List Addr), PTs (X.blk s H scope (compEnvC scope cl C X.env) fp) cs (lT c (evC G ecs) noW))
    (hk : ∀ (s : Shared) (H : Hp) (C : Addr) (cl : List (Str × Addr)) (fp : List Addr), PE (X.blk s H scope (compEnvC scope cl C X.env) fp) kx (lE c (ev G ekx) noW))
    (he : ∀ (s : Shared) (H : Hp) (C : Addr) (cl : List (Str × Addr)) (fp : List Addr), PE (X.blk s H scope (compEnvC scope cl C X.env) fp) elt (lE c (ev G eelt) noW)) (hs : notSet iter = true) :
    PE X (.DictComp kx elt [⟨tg, iter, cs, 0⟩] scope pos) (lE c (ev G (.dc ekx eelt etg eit ecs own)) W) :=
  PE.imp (PE.fz (pe_dc hc hN hi ok (fun s H C cl fp => TgIs.pg (X := X.blk s H scope (compEnvC scope cl C X.env) fp) hc hN (hg s H C cl fp)) hcs hk he (noFold hs))) fun _ _ _ h => dc_lift hK ht hown (fun _ _ q => q) h
/-- what stands in a comprehension's block, whatever heap and frame it begins with -/
abbrev InBlk (X : Cx) (scope : Scope) (p : Cx → Prop) : Prop := ∀ (s : Shared) (H : Hp) (C : Addr) (cl : List (Str × Addr)) (fp : List Addr), p (X.blk s H scope (compEnvC scope cl C X.env) fp)
/-- name = {..} on one line -/
theorem ps_setDc {i : Nat} {y : Str} {py spos : Pos} {kx elt tg iter : Expr} {ifs : List Expr} {scope : Scope} {own : List (Str × Nat)} {pos : Pos} {wi : TI} {g : TG} {tt : TT} {tk te : TE} (calm : X.calm = true) (nd : X.N.Nodup) (place : X.N[i]? = some y) (isLoc : X.env.scope.names.lookup y = some .local)
    (turned : swapsWith (.DictComp kx elt [⟨tg, iter, ifs, 0⟩] scope pos) (some (.Name y py)) spos.line X.env = pure true) (source : L2.PI X tg iter wi) (blk : BlkOk X.N X.env.scope scope own)
    (target : InBlk X scope fun Y => PG Y tg g) (tests : InBlk X scope fun Y => PTs Y ifs tt) (key : InBlk X scope fun Y => PE Y kx tk) (val : InBlk X scope fun Y => PE Y elt te) (fold : ∀ x, foldedSetIterable iter X.env x = pure x) :
    PS X (.Assign [.Name y py] (.DictComp kx elt [⟨tg, iter, ifs, 0⟩] scope pos) spos) (tAsg (tDc wi g tt tk te (own.map (·.2))) (gName i)) := by
  constructor
  intro pins st σ H Z inv hyp
  have hyp : tDc wi g tt tk te (own.map (·.2)) σ H (fun x H1 => gName i x σ H1 Z.nx) := hyp
  have core := dc_core (X := X) (pins := pins) (pos := pos) (pos' := firstIterPos [⟨tg, iter, ifs, 0⟩] pos) (use := some (assign (.Name y py) X.env)) (Qf := fun _ t => SP X pins Z .next t) calm nd inv source blk target tests key val fold hyp (by
    intro D C t m H' J q frame away
    refine wpAny_assign_Name (store_ok2 (x := y) (v := V.ref D) (hf := .inr isLoc) J nd place (.inl isLoc) rfl ?_)
    rintro t2 J2 ⟨b, same, at_⟩
    obtain ⟨n0, n1, n2, n3, n4, n5⟩ := away
    have apart : C ≠ b := by
      rcases at_ with z | z
      · exact z ▸ n1
      · exact Ne.symm (n4 y b z)
    exact ⟨m, frame.sameBut same apart, fun h3 sb3 => ⟨_, H', J2.turned (t' := t2.toks) (fun c o hc e => (sb3.2 c hc).trans e) n0 n1 n3 n4 n5, q⟩⟩)
  rw [exec_Assign_Name_used _ _ _ _ turned]
  apply wpAny_bind
  apply wpAny_standAt
  apply wpAny_bind
  apply wpAny_bind
  exact thn core fun _ t done => wpAny_pure (wpAny_pure done)
theorem s_setDc (hK : X.K = c.K) (hc : X.calm = true) (hN : X.N.Nodup) {i : Nat} {y : Str} {py spos : Pos} (hy : X.N[i]? = some y) (hyl : X.env.scope.names.lookup y = some .local) {tg iter kx elt : Expr} {cs : List Expr} {scope : Scope} {etg : Tg} {eit : I} {ekx eelt : E} {ecs : Es} {own : List (Str × Nat)} {tup : Bool}
    (hsw : swapsWith (.DictComp kx elt [⟨tg, iter, cs, 0⟩] scope pos) (some (.Name y py)) spos.line X.env = pure true) (ht : tup = true → ∃ xs, etg = .tup xs) (hown : ∀ i ∈ etg.ixs, i ∈ own.map (·.2))
    (hi : PI X tg iter (lI c tup (evI G eit) W)) (ok : BlkOk X.N X.env.scope scope own)
    (hg : ∀ (s : Shared) (H : Hp) (C : Addr) (cl : List (Str × Addr)) (fp : List Addr), TgIs (X.blk s H scope (compEnvC scope cl C X.env) fp) etg tg)
    (hcs : ∀ (s : Shared) (H : Hp) (C : Addr) (cl : List (Str × Addr)) (fp : List Addr), PTs (X.blk s H scope (compEnvC scope cl C X.env) fp) cs (lT c (evC G ecs) noW))
    (hk : ∀ (s : Shared) (H : Hp) (C : Addr) (cl : List (Str × Addr)) (fp : List Addr), PE (X.blk s H scope (compEnvC scope cl C X.env) fp) kx (lE c (ev G ekx) noW))
    (he : ∀ (s : Shared) (H : Hp) (C : Addr) (cl : List (Str × Addr)) (fp : List Addr), PE (X.blk s H scope (compEnvC scope cl C X.env) fp) elt (lE c (ev G eelt) noW)) (hs : notSet iter = true) :
    PS X (.Assign [.Name y py] (.DictComp kx elt [⟨tg, iter, cs, 0⟩] scope pos) spos) (tAsg (lE c (ev G (.dc ekx eelt etg eit ecs own)) W) (gName i)) :=
  PS.imp (PS.fzN (ps_setDc hc hN hy hyl hsw hi ok (fun s H C cl fp => TgIs.pg (X := X.blk s H scope (compEnvC scope cl C X.env) fp) hc hN (hg s H C cl fp)) hcs hk he (noFold hs))) fun D σ H h => dc_lift hK ht hown (Q' := fun x H1 => FzN D.nx (σ.set i (some x)) H1) (fun v H q => FzN.of q) h
/-! ### calls by keyword, by default -/
/-- a def that is called so -/
def KwOk (c : RC) (P : Program) (w : World) (K : PySem.W.Frag) (mg : Str → Option Value) (base : Heap) (k : Nat) (cal : Cal) (f : Str) (m : Nat) (ks : List Str) (dd : List D) : Prop :=
  ∃ (fa : Addr) (fd : FuncData) (ps : List Str) (dv : List Value) (dV : List V), mg f = some (.ref fa) ∧ PySem.W.keepIn K (.ref fa) = true ∧ Form K fd ps m ks dv ∧ Vals dV dv ∧ (∀ H, RelDs c.K H dd dV) ∧ FnG P w K mg base (L2.CX P w) k fa fd ps (lSp c (cal f))
theorem s_callk (tk : Takes X W) {k m : Nat} {x : Str} {p : Pos} {ns : List Str} {ews : Es} {dv : List D} {kws : List Keyword} (D : KwOk c X.prog X.w X.K X.mg X.base k G.cal x m ns dv) (hr : Room k X.A) (hgd : X.A.guards = some []) (hg : Gl X x) (hdb : (x == ("__debug__" : Str)) = false)
    (ha : PA X (e :: es) (lA c (evs G ees) W)) (hkw : PK X kws (lA c (evs G ews) W)) (h1 : noStar e = true) (h2 : es.all noStar = true) (hm : (e :: es).length = m)
    (hks : (backToKw pos (keywordEach kws X.env)).filterMap (·.1) = ns) (hall : (backToKw pos (keywordEach kws X.env)).all (·.1.isSome) = true) :
    PE X (.Call (.Name x p) (e :: es) kws pos) (lE c (ev G (.callk x ees ns ews dv)) W) := by
  obtain ⟨fa, fd, ps, vv, dV, hmg, hk, hb, hd, hrd, F⟩ := D
  have hpl : ((backTo pos (starEach (e :: es) X.env)).any (·.1) || (backToKw pos (keywordEach kws X.env)).any (·.1.isNone)) = false := by
    rw [starEach_plain (by rw [List.all_cons, h1, h2]; rfl), Bool.false_or]
    rw [List.any_eq_false]
    intro z hz
    have := List.all_eq_true.mp hall z hz
    cases q : z.1 <;> simp_all
  refine PE.imp (pe_GK F hr hgd hg hmg hk hb hd (fun σ => passAt tk σ) ha hkw hall hks hdb (starEach_cons h1) hpl) fun σ H Q h => ?_
  obtain ⟨σd, A, Xd, Qd, rs, ra, t, f, fw⟩ := h
  refine lA_go rs .refl ra fw t fun ds A1 vs H1 q1 m1 ra1 r1 => ?_
  refine lA_go rs m1 ra1 fw q1 fun zs A2 ws H2 q2 m2 ra2 r2 => ?_
  have fin : lSp c (G.cal x) (vs ++ ws ++ dV) H2 Q (fun cl d H' => W cl d σ H') := ⟨A2, _, Xd, Qd, ra2, ((r1.mono m2).app r2).app (hrd H2), q2.2, f.from (m1.trans m2), fw.from (m1.trans m2)⟩
  have e1 := F.len _ _ _ _ fin
  have e2 := hb.len
  have e3 := Paired.length hd
  have e4 : ws.length = ns.length := by rw [r2.length]; exact q2.1
  simp only [List.length_append] at e1
  exact ⟨by omega, e4, fin⟩
theorem PK.imp {kws : List Keyword} {t t' : TA} (h : PK X kws t) (i : ∀ σ H Q, t' σ H Q → t σ H Q) : PK X kws t' := ⟨fun pos pins s σ H Q I q => h.run pos pins s σ H Q I (i _ _ _ q)⟩
theorem k_nil : PK X [] (lA c (evs G .nil) W) := by
  refine PK.imp pk_nil fun σ H Q h => ?_
  obtain ⟨σd, A, Xd, Qd, rs, ra, t, f, fw⟩ := h
  exact f [] A [] H t .refl ra rfl
theorem k_one {nm : Option Str} {kpos : Pos} (he : PE X e (lE c (ev G ea) W)) : PK X [⟨nm, e, kpos⟩] (lA c (evs G (.cons ea .nil)) W) := by
  refine PK.imp (pk_cons he (k_nil (c := c) (G := G) (W := W))) fun σ H Q h => ?_
  obtain ⟨σd, A, Xd, Qd, rs, ra, t, f, fw⟩ := h
  refine lE_go rs .refl ra fw t fun x A1 v H1 q1 m1 ra1 rx => ?_
  refine lA_go rs m1 ra1 fw q1 fun ds A2 vs H2 q2 m2 ra2 r2 => ?_
  exact f _ _ _ _ q2 (m1.trans m2) ra2 ⟨v, vs, rfl, RelD.mono m2 _ _ rx, r2⟩
end
end Py

namespace Py
open PySem PySem.Spec PyProof.Rows L2
/-! ### does the tree say what the text says? -/
/-- a form of a call by keyword: the def, values by place, the keyword; by a default: the def, values by place, the default -/
structure Names where
  defs : List Str
  cons : List Str
  excs : List Str
  kws : List (Str × Nat × Str)
  dfl : List (Str × Nat × Int)
def glB (sc : Scope) (x : Str) : Bool := decide (sc.names.lookup x = some .globalImplicit) && !(x == ("__debug__" : Str))
def visB (sc : Scope) (x : Str) : Bool := decide (sc.names.lookup x = some .local) || (decide (sc.names.lookup x = some .cell) || decide (sc.names.lookup x = some .free))
def locB (sc : Scope) (x : Str) : Bool := decide (sc.names.lookup x = some .local) || decide (sc.names.lookup x = some .cell)
/-- a built-in's name; is it a type; its id -/
def bfOf : BF → Option (Str × Bool × String)
  | .len => some ("len", false, "len") | .int => some ("int", true, "int") | .str => some ("str", true, "str") | .repr => some ("repr", false, "repr") | .sorted => some ("sorted", false, "sorted")
  | .min => some ("min", false, "min") | .max => some ("max", false, "max") | .all => some ("all", false, "all") | .any => some ("any", false, "any") | .sum => some ("sum", false, "sum")
  | .tuple => some ("tuple", true, "tuple") | .list => some ("list", true, "list") | .dict => some ("dict", true, "dict")
  | _ => none
def bltAll : List Str := ["len", "int", "str", "repr", "sorted", "min", "max", "all", "any", "sum", "tuple", "list", "dict", "set", "range", "isinstance", "bool", "enumerate", "zip"]
def clName : Cl → Str | .int => "int" | .bool => "bool" | .str => "str" | .tuple => "tuple" | .list => "list" | .dict => "dict" | .own x => x
def baseOk : Expr → Bool
  | .Call _ (_ :: _) _ _ => true
  | .Call _ [] _ _ => false
  | _ => true
theorem baseOk_eq {o : Expr} {m : Str} {env : Env} (h : baseOk o = true) (w : Sem Value) : attributeBase o m env w = w := by
  cases o with
  | Call f args kws pos =>
    cases args with
    | nil => cases h
    | cons a as => cases f <;> rfl
  | _ => rfl
def noComp : Expr → Bool
  | .ListComp .. => false
  | .SetComp .. => false
  | .DictComp .. => false
  | _ => true
theorem noComp_eq {e : Expr} {t : Option Expr} {l : Nat} {env : Env} (h : noComp e = true) : swapsWith e t l env = pure false := by
  cases e <;> first | rfl | cases h
def chNames (N : List Str) (sc : Scope) : List (Nat × Str) → List Expr → Bool
  | [], [] => true
  | (i, x) :: xs, .Name y _ :: es => x == y && decide (N[i]? = some x) && locB sc x && chNames N sc xs es
  | _, _ => false
def tupI : I → Bool
  | .enum _ => true
  | .zip _ _ => true
  | .items _ => true
  | _ => false
def isTupE : Expr → Bool
  | .Tuple .. => true
  | _ => false
def tupOk (it : I) (t : Expr) : Bool := !tupI it || isTupE t
theorem tupOk_ex {it : I} {t : Expr} (h : tupOk it t = true) (q : tupI it = true) : ∃ es kk p, t = .Tuple es kk p := by
  unfold tupOk at h
  rw [q] at h
  cases t <;> first | exact ⟨_, _, _, rfl⟩ | (simp [isTupE] at h)
def chTg (N : List Str) (sc : Scope) : Tg → Expr → Bool
  | .name i x, .Name y _ => x == y && decide (N[i]? = some x) && locB sc x
  | .tup xs, .Tuple es _ _ => chNames N sc xs es
  | _, _ => false
variable (n : Names) (N : List Str)
mutual
def chE : Scope → E → Expr → Bool
  | sc, .var i x, .Name y _ => x == y && decide (N[i]? = some x) && visB sc x && !(x == ("__debug__" : Str)) && !(x == ("__classdict__" : Str))
  | sc, .gv x, .Name y _ => x == y && glB sc x && n.cons.contains x
  | _, .cst d, .Constant k _ _ => cstIs k d
  | sc, .bin o a b, .BinOp x op y _ => decide (bopOp o = op) && chE sc a x && chE sc b y
  | sc, .neg a, .UnaryOp .USub x _ => chE sc a x
  | sc, .cmp o a b, .Compare x [op] [y] _ => decide (copOp o = op) && chE sc a x && chE sc b y && !(behindInMarks op y)
  | sc, .chain o o' a b c, .Compare x [op, op'] [y, z] _ => decide (copOp o = op) && decide (copOp o' = op') && chE sc a x && chE sc b y && chE sc c z && !(lastMarks [op, op'] [y, z])
  | sc, .bop k es, .BoolOp op (x :: xs) _ => (match k, op with | true, .And => true | false, .Or => true | _, _ => false) && chEs sc es (x :: xs)
  | sc, .not a, .UnaryOp .Not x _ => chE sc a x
  | sc, .ite c a b, .IfExp z x y _ => chE sc c z && chE sc a x && chE sc b y
  | sc, .tup es, .Tuple xs _ _ => chEs sc es xs
  | sc, .lst es, .List xs _ => chEs sc es xs
  | sc, .idx a i, .Subscript x y _ => chE sc a x && chE sc i y && notSlice y
  | sc, .slc a lo hi, .Subscript x (.Slice l h none _) _ => chE sc a x && chO sc lo l && chO sc hi h
  | sc, .rev a, .Subscript x (.Slice none none (some (.UnaryOp .USub (.Constant (.int i) _ _) _)) _) _ => decide (i = 1) && chE sc a x
  | sc, .sset a, .Call (.Name y _) [.Call (.Name z _) [x] [] _] [] _ => y == ("sorted" : Str) && z == ("set" : Str) && glB sc "sorted" && glB sc "set" && chE sc a x && noStar x
  | sc, .lset a, .Call (.Name y _) [.Call (.Name z _) [x] [] _] [] _ => y == ("len" : Str) && z == ("set" : Str) && glB sc "len" && glB sc "set" && chE sc a x && noStar x
  | sc, .lrg it, .Call (.Name y _) [x] [] _ => y == ("list" : Str) && glB sc "list" && chR sc it x && noStar x
  | sc, .trg it, .Call (.Name y _) [x] [] _ => y == ("tuple" : Str) && glB sc "tuple" && chR sc it x && noStar x
  | sc, .callk f es ns ws dv, .Call (.Name y _) (x :: xs) kws _ => f == y && glB sc f && chEs sc es (x :: xs) && (match ns, ws, dv, kws with
      | [k], .cons w .nil, [], [⟨kn, v, _⟩] => kn == some k && n.kws.contains (f, xs.length + 1, k) && chE sc w v
      | [], .nil, [.int i], [] => n.dfl.contains (f, xs.length + 1, i)
      | _, _, _, _ => false)
  | _, .dnil, .Dict [] [] _ => true
  | sc, .dsp ps, .Dict (k :: ks) vs _ => chPs sc ps (k :: ks) vs && decide (ks.length < 15)
  | sc, .litems a, .Call (.Name y _) [.Call (.Attribute x m apos) [] [] cpos] [] _ => y == ("list" : Str) && m == ("items" : Str) && glB sc "list" && chE sc a x && baseOk x && (apos.endLine == cpos.line)
  | sc, .dc kx elt tg it cs own, .DictComp x v gens scope _ => (match gens with
      | [⟨t, iter, ifs, 0⟩] => chI sc it iter && blkC N sc scope own && chTg N scope tg t && tg.ixs.all (fun i => decide (i ∈ own.map (·.2))) && chC (relS scope sc) cs ifs && chE (relS scope sc) kx x && chE (relS scope sc) elt v && notSet iter && tupOk it t
      | _ => false)
  | sc, .call f es, .Call (.Name y _) xs [] _ => f == y && glB sc f && n.defs.contains f && chEs sc es xs
  | sc, .bif f es, .Call (.Name y _) (x :: xs) [] _ => (match bfOf f with | some (m, _, _) => m == y && glB sc m | none => false) && chEs sc es (x :: xs)
  | sc, .mth m o es, .Call (.Attribute z y apos) xs [] cpos => mName m == y && chE sc o z && chEs sc es xs && baseOk z && (apos.endLine == cpos.line) && decide (xs.length < 30)
  | sc, .isi a cl, .Call (.Name f _) [x, .Name y _] [] _ => f == ("isinstance" : Str) && glB sc "isinstance" && (clT cl).isSome && clName cl == y && glB sc y && chE sc a x && noStar x
  | sc, .lc elt tg it cs own, .ListComp x gens scope _ => (match gens with
      | [⟨t, iter, ifs, 0⟩] => chI sc it iter && blkC N sc scope own && chTg N scope tg t && tg.ixs.all (fun i => decide (i ∈ own.map (·.2))) && chC (relS scope sc) cs ifs && chE (relS scope sc) elt x && notSet iter && tupOk it t
      | _ => false)
  | _, _, _ => false
def chPs : Scope → Ps → List (Option Expr) → List Expr → Bool
  | _, .nil, [], [] => true
  | sc, .cons a b ps, some x :: ks, y :: vs => chE sc a x && chE sc b y && chPs sc ps ks vs
  | _, _, _, _ => false
def chEs : Scope → Es → List Expr → Bool
  | _, .nil, [] => true
  | sc, .cons e es, x :: xs => chE sc e x && noStar x && chEs sc es xs
  | _, _, _ => false
def chC : Scope → Es → List Expr → Bool
  | _, .nil, [] => true
  | sc, .cons e .nil, [x] => chE sc e x
  | _, _, _ => false
def chO : Scope → Oe → Option Expr → Bool
  | _, .no, none => true
  | sc, .yes e, some x => chE sc e x
  | _, _, _ => false
def chR : Scope → I → Expr → Bool
  | sc, .rng1 a, .Call (.Name f _) [x] [] _ => f == ("range" : Str) && glB sc "range" && chE sc a x && noStar x
  | sc, .rng2 a b, .Call (.Name f _) [x, y] [] _ => f == ("range" : Str) && glB sc "range" && chE sc a x && chE sc b y && noStar x && noStar y
  | _, _, _ => false
def chI : Scope → I → Expr → Bool
  | sc, .seq e, x => chE sc e x
  | sc, .rng1 a, .Call (.Name f _) [x] [] _ => f == ("range" : Str) && glB sc "range" && chE sc a x && noStar x
  | sc, .rng2 a b, .Call (.Name f _) [x, y] [] _ => f == ("range" : Str) && glB sc "range" && chE sc a x && chE sc b y && noStar x && noStar y
  | sc, .items a, .Call (.Attribute x m apos) [] [] cpos => m == ("items" : Str) && chE sc a x && baseOk x && (apos.endLine == cpos.line)
  | sc, .values a, .Call (.Attribute x m apos) [] [] cpos => m == ("values" : Str) && chE sc a x && baseOk x && (apos.endLine == cpos.line)
  | sc, .zip a b, .Call (.Name f _) [x, y] [] _ => f == ("zip" : Str) && glB sc "zip" && chE sc a x && chE sc b y && noStar x && noStar y
  | sc, .enum a, .Call (.Name f _) [x] [] _ => f == ("enumerate" : Str) && glB sc "enumerate" && chE sc a x && noStar x
  | _, _, _ => false
end
end Py

set_option maxHeartbeats 8000000
namespace Py
open PySem PySem.Spec PyProof.Rows L2
/-- an exception's class of the text -/
def ExcOk (c : RC) (K : PySem.W.Frag) (mg : Str → Option Value) (x : Str) : Prop := ∃ C, c.cl x = some C ∧ mg x = some (.ref C) ∧
  PySem.W.excIn K C [.type "ValueError", .type "Exception", .type "BaseException", .type "object"] "ValueError.__new__" = true ∧ PySem.W.keepIn K (.ref C) = true ∧
  PySem.W.subIn K (.ref C) (.type "BaseException") = some true ∧ PySem.W.typeIn K (.ref C) = some (.type "type")
structure XOk (c : RC) (G : GEnv) (n : Names) (k : Nat) (N : List Str) (sc : Scope) (X : Cx) : Prop where
  hK : X.K = c.K
  calm : X.calm = true
  hN : X.N = N
  nd : X.N.Nodup
  hsc : X.env.scope = sc
  room : Room k X.A
  gd : X.A.guards = some []
  blt : ∀ x ∈ bltAll, X.mg x = none
  defs : ∀ f ∈ n.defs, DefOk c X.prog X.w X.K X.mg X.base k G.cal f
  con : ∀ x d, G.con x = some d → x ∈ n.cons → ∃ u v, X.mg x = some u ∧ RelV v u ∧ ∀ H, RelD c.K H d v
  exc : ∀ x ∈ n.excs, ExcOk c X.K X.mg x
  kws : ∀ f m kn, (f, m, kn) ∈ n.kws → KwOk c X.prog X.w X.K X.mg X.base k G.cal f m [kn] []
  dfl : ∀ f m i, (f, m, i) ∈ n.dfl → KwOk c X.prog X.w X.K X.mg X.base k G.cal f m [] [.int i]
section
variable {c : RC} {G : GEnv} {n : Names} {k : Nat} {N : List Str}
theorem glB_gl {sc : Scope} {X : Cx} {x : Str} (hsc : X.env.scope = sc) (h : glB sc x = true) : Gl X x ∧ (x == ("__debug__" : Str)) = false := by
  unfold glB at h
  simp only [Bool.and_eq_true, decide_eq_true_eq, Bool.not_eq_true'] at h
  refine ⟨?_, h.2⟩
  show X.env.scope.names.lookup x = _
  rw [hsc]
  exact h.1
theorem visB_vis {sc : Scope} {X : Cx} {x : Str} (hsc : X.env.scope = sc) (h : visB sc x = true) : Vis X.env.scope x := by
  unfold visB at h
  simp only [Bool.or_eq_true, decide_eq_true_eq] at h
  unfold Vis
  rw [hsc]
  exact h
theorem XOk.blk {sc : Scope} {X : Cx} (O : XOk c G n k N sc X) (s : Shared) (H : Hp) (scope : Scope) (C : Addr) (cl : List (Str × Addr)) (fp : List Addr) : XOk c G n k N (relS scope sc) (X.blk s H scope (compEnvC scope cl C X.env) fp) where
  hK := O.hK
  calm := O.calm
  hN := O.hN
  nd := O.nd
  hsc := by
    show relabel scope X.env = relS scope sc
    rw [← O.hsc]
    rfl
  room := O.room
  gd := O.gd
  blt := O.blt
  defs := O.defs
  con := O.con
  exc := O.exc
  kws := O.kws
  dfl := O.dfl
theorem blk_store {sc scope : Scope} {X : Cx} {x : Str} {i : Nat} (O : XOk c G n k N sc X) (h : locB scope x = true) (hi : N[i]? = some x) (s : Shared) (H : Hp) (C : Addr) (cl : List (Str × Addr)) (fp : List Addr) : StoreOk (X.blk s H scope (compEnvC scope cl C X.env) fp) i x := by
  have e : (X.blk s H scope (compEnvC scope cl C X.env) fp).env.scope = relS scope sc := (O.blk s H scope C cl fp).hsc
  unfold locB at h
  simp only [Bool.or_eq_true, decide_eq_true_eq] at h
  refine ⟨by rw [← O.hN] at hi; exact hi, ?_, ?_⟩
  · unfold L2.Loc
    rw [e]
    rcases h with h | h
    · exact .inl (lookup_relS_keep (by decide) h)
    · exact .inr (lookup_relS_keep (by decide) h)
  · rcases h with h | h
    · right
      rw [e]
      exact lookup_relS_keep (by decide) h
    · left
      show (scope.names.lookup x == some .cell) = true
      rw [h]
      rfl
theorem blk_names {sc scope : Scope} {X : Cx} (O : XOk c G n k N sc X) (s : Shared) (H : Hp) (C : Addr) (cl : List (Str × Addr)) (fp : List Addr) : ∀ {xs : List (Nat × Str)} {es : List Expr}, chNames N scope xs es = true → NamesAre (X.blk s H scope (compEnvC scope cl C X.env) fp) xs es
  | [], [], _ => .nil
  | (i, x) :: xs, e :: es, h => by
    cases e <;> simp only [chNames] at h <;> try (cases h; done)
    simp only [Bool.and_eq_true, beq_iff_eq, decide_eq_true_eq] at h
    obtain ⟨⟨⟨rfl, h1⟩, h2⟩, h3⟩ := h
    exact .cons (blk_store O h2 h1 s H C cl fp) (blk_names O s H C cl fp h3)
  | [], _ :: _, h => by simp [chNames] at h
  | (_, _) :: _, [], h => by simp [chNames] at h
theorem blk_tg {sc scope : Scope} {X : Cx} (O : XOk c G n k N sc X) {tg : Tg} {e : Expr} (h : chTg N scope tg e = true) (s : Shared) (H : Hp) (C : Addr) (cl : List (Str × Addr)) (fp : List Addr) : TgIs (X.blk s H scope (compEnvC scope cl C X.env) fp) tg e := by
  cases tg <;> cases e <;> simp only [chTg] at h <;> try (cases h; done)
  · simp only [Bool.and_eq_true, beq_iff_eq, decide_eq_true_eq] at h
    obtain ⟨⟨rfl, h1⟩, h2⟩ := h
    exact .name (blk_store O h2 h1 s H C cl fp)
  · exact .tup (blk_names O s H C cl fp h)
/-- what a list comprehension is made of -/
structure LcOk (c : RC) (G : GEnv) (X : Cx) (W : WX) (elt : Expr) (gens : List Comprehension) (scope : Scope) (eelt : E) (etg : Tg) (eit : I) (ecs : Es) (own : List (Str × Nat)) : Prop where
  ex : ∃ tg iter cs, gens = [⟨tg, iter, cs, 0⟩] ∧ (∀ i ∈ etg.ixs, i ∈ own.map (·.2)) ∧ (∃ tup, (tup = true → ∃ xs, etg = .tup xs) ∧ PI X tg iter (lI c tup (evI G eit) W)) ∧ BlkOk X.N X.env.scope scope own ∧
    (∀ (s : Shared) (H : Hp) (C : Addr) (cl : List (Str × Addr)) (fp : List Addr), TgIs (X.blk s H scope (compEnvC scope cl C X.env) fp) etg tg) ∧
    (∀ (s : Shared) (H : Hp) (C : Addr) (cl : List (Str × Addr)) (fp : List Addr), PTs (X.blk s H scope (compEnvC scope cl C X.env) fp) cs (lT c (evC G ecs) noW)) ∧
    (∀ (s : Shared) (H : Hp) (C : Addr) (cl : List (Str × Addr)) (fp : List Addr), PE (X.blk s H scope (compEnvC scope cl C X.env) fp) elt (lE c (ev G eelt) noW)) ∧ notSet iter = true
structure DcOk (c : RC) (G : GEnv) (X : Cx) (W : WX) (kx elt : Expr) (gens : List Comprehension) (scope : Scope) (ekx eelt : E) (etg : Tg) (eit : I) (ecs : Es) (own : List (Str × Nat)) : Prop where
  ex : ∃ tg iter cs, gens = [⟨tg, iter, cs, 0⟩] ∧ (∀ i ∈ etg.ixs, i ∈ own.map (·.2)) ∧ (∃ tup, (tup = true → ∃ xs, etg = .tup xs) ∧ PI X tg iter (lI c tup (evI G eit) W)) ∧ BlkOk X.N X.env.scope scope own ∧
    (∀ (s : Shared) (H : Hp) (C : Addr) (cl : List (Str × Addr)) (fp : List Addr), TgIs (X.blk s H scope (compEnvC scope cl C X.env) fp) etg tg) ∧
    (∀ (s : Shared) (H : Hp) (C : Addr) (cl : List (Str × Addr)) (fp : List Addr), PTs (X.blk s H scope (compEnvC scope cl C X.env) fp) cs (lT c (evC G ecs) noW)) ∧
    (∀ (s : Shared) (H : Hp) (C : Addr) (cl : List (Str × Addr)) (fp : List Addr), PE (X.blk s H scope (compEnvC scope cl C X.env) fp) kx (lE c (ev G ekx) noW)) ∧
    (∀ (s : Shared) (H : Hp) (C : Addr) (cl : List (Str × Addr)) (fp : List Addr), PE (X.blk s H scope (compEnvC scope cl C X.env) fp) elt (lE c (ev G eelt) noW)) ∧ notSet iter = true
theorem takes_no {X : Cx} : Takes X noW := fun u s' h => by
  obtain ⟨_, _, _, _, _, _, _, _, _, _, _, _, _, _, _, _, w⟩ := h
  exact w.elim
def bfRule {X : Cx} (hc : X.calm = true) (hK : X.K = c.K) (hg : X.A.guards = some []) (hu : X.A.units + 66 < cLine) : ∀ {f : BF} {m : Str} {id : String}, bfOf f = some (m, false, id) → CallR X (.builtin id) (lRs c (rB f)) ∧ bootBuiltins m = some (.builtin id) ∧ m ≠ "__name__" ∧ m ∈ bltAll := by
  intro f m id h
  cases f <;> simp only [bfOf] at h <;> try (cases h; done)
  · cases h; exact ⟨b_len hK, by decide +kernel, by decide, by decide⟩
  · cases h; exact ⟨b_repr hK hg hu, by decide +kernel, by decide, by decide⟩
  · cases h; exact ⟨b_sorted hc hK, by decide +kernel, by decide, by decide⟩
  · cases h; exact ⟨b_min hc hK, by decide +kernel, by decide, by decide⟩
  · cases h; exact ⟨b_max hc hK, by decide +kernel, by decide, by decide⟩
  · cases h; exact ⟨b_all hc hK, by decide +kernel, by decide, by decide⟩
  · cases h; exact ⟨b_any hc hK, by decide +kernel, by decide, by decide⟩
  · cases h; exact ⟨b_sum hc hK, by decide +kernel, by decide, by decide⟩
def bfRuleT {X : Cx} (hc : X.calm = true) (hK : X.K = c.K) : ∀ {f : BF} {m : Str} {id : String}, bfOf f = some (m, true, id) → CallR X (.type id) (lRs c (rB f)) ∧ bootBuiltins m = some (.type id) ∧ m ≠ "__name__" ∧ m ∈ bltAll := by
  intro f m id h
  cases f <;> simp only [bfOf] at h <;> try (cases h; done)
  · cases h; exact ⟨b_int, by decide +kernel, by decide, by decide⟩
  · cases h; exact ⟨b_str, by decide +kernel, by decide, by decide⟩
  · cases h; exact ⟨b_tuple hK, by decide +kernel, by decide, by decide⟩
  · cases h; exact ⟨b_list hc hK, by decide +kernel, by decide, by decide⟩
  · cases h; exact ⟨b_dict hc hK, by decide +kernel, by decide, by decide⟩
theorem cl_boot {cl : Cl} {T : String} (h : clT cl = some T) : bootBuiltins (clName cl) = some (.type T) ∧ clName cl ≠ "__name__" ∧ clName cl ∈ bltAll := by
  cases cl <;> cases h <;> exact ⟨by decide +kernel, by decide, by decide⟩
theorem es_ne {ees : Es} {x : Expr} {xs : List Expr} {sc : Scope} (h : chEs n N sc ees (x :: xs) = true) : noStar x = true ∧ xs.all noStar = true := by
  have gen : ∀ (ees : Es) (xs : List Expr), chEs n N sc ees xs = true → xs.all noStar = true := fun ees => by
    intro xs
    induction xs generalizing ees with
    | nil => intro _; rfl
    | cons y ys ih =>
      intro h
      cases ees with
      | nil => simp [chEs] at h
      | cons e es =>
        simp only [chEs, Bool.and_eq_true] at h
        rw [List.all_cons, h.1.2, ih es h.2]
        rfl
  have := gen ees (x :: xs) h
  rw [List.all_cons, Bool.and_eq_true] at this
  exact this
theorem tup_tg {N : List Str} {sc : Scope} {tg : Tg} {t : Expr} (h : chTg N sc tg t = true) (q : ∃ es kk p, t = .Tuple es kk p) : ∃ xs, tg = .tup xs := by
  obtain ⟨es, kk, p, rfl⟩ := q
  cases tg with
  | name i x => exact Bool.noConfusion (show false = true from h)
  | tup xs => exact ⟨xs, rfl⟩
theorem lcOk_mk {elt : E} {tg : Tg} {it : I} {cs : Es} {own : List (Str × Nat)} {sc : Scope} {x : Expr} {gens : List Comprehension} {scope : Scope} {pos : Pos} {X : Cx} {W : WX} (h : chE n N sc (.lc elt tg it cs own) (.ListComp x gens scope pos) = true) (O : XOk c G n k N sc X)
    (hI : ∀ (e t : Expr), chI n N sc it e = true → (tupI it = true → ∃ es kk p, t = .Tuple es kk p) → PI X t e (lI c (tupI it) (evI G it) W)) (hC : ∀ (sc : Scope) (es : List Expr) (X : Cx), chC n N sc cs es = true → XOk c G n k N sc X → PTs X es (lT c (evC G cs) noW))
    (hE : ∀ (sc : Scope) (e : Expr) (X : Cx), chE n N sc elt e = true → XOk c G n k N sc X → PE X e (lE c (ev G elt) noW)) : LcOk c G X W x gens scope elt tg it cs own := by
  rcases gens with _ | ⟨⟨t, iter, ifs, as⟩, _ | ⟨_, _⟩⟩ <;> try (simp [chE] at h; done)
  by_cases ha : as = 0
  · subst ha
    simp only [chE, Bool.and_eq_true, List.all_eq_true, decide_eq_true_eq] at h
    obtain ⟨⟨⟨⟨⟨⟨⟨h1, h2⟩, h3⟩, h4⟩, h5⟩, h6⟩, h7⟩, h8⟩ := h
    exact ⟨t, iter, ifs, rfl, h4, ⟨tupI it, ⟨fun z => tup_tg h3 (tupOk_ex h8 z), hI _ t h1 (tupOk_ex h8)⟩⟩, by rw [O.hN, O.hsc]; exact blkOk_by h2, blk_tg O h3, fun s H C cl fp => hC _ _ _ h5 (O.blk s H scope C cl fp), fun s H C cl fp => hE _ _ _ h6 (O.blk s H scope C cl fp), h7⟩
  · unfold chE at h
    split at h <;> simp_all
mutual
theorem okE : ∀ (ir : E) (sc : Scope) (e : Expr) (X : Cx) (W : WX), chE n N sc ir e = true → XOk c G n k N sc X → Takes X W → PE X e (lE c (ev G ir) W) ∧ PT X e (lT c (evT G ir) W)
  | .var i x, sc, e, X, W, h, O, tk => by
    cases e <;> simp only [chE] at h <;> try (cases h; done)
    simp only [Bool.and_eq_true, beq_iff_eq, decide_eq_true_eq, Bool.not_eq_true'] at h
    obtain ⟨⟨⟨⟨rfl, h1⟩, h2⟩, h3⟩, h4⟩ := h
    have p := s_var (c := c) (W := W) (pos := by assumption) (by rw [O.hN]; exact h1) (visB_vis O.hsc h2) h3 h4 G
    exact ⟨p, t_val O.hK p fun _ => rfl⟩
  | .gv x, sc, e, X, W, h, O, tk => by
    cases e <;> simp only [chE] at h <;> try (cases h; done)
    simp only [Bool.and_eq_true, beq_iff_eq] at h
    obtain ⟨⟨rfl, h1⟩, h2⟩ := h
    obtain ⟨g1, g2⟩ := glB_gl O.hsc h1
    have p := s_gv (c := c) (W := W) (pos := by assumption) g1 g2 fun d e => O.con _ d e (by simpa using h2)
    exact ⟨p, t_val O.hK p fun _ => rfl⟩
  | .cst d, sc, e, X, W, h, O, tk => by
    cases e <;> simp only [chE] at h <;> try (cases h; done)
    have p := s_cst (c := c) (X := X) (W := W) (G := G) (pos := by assumption) (j := by assumption) h
    exact ⟨p, t_val O.hK p fun _ => rfl⟩
  | .bin o a b, sc, e, X, W, h, O, tk => by
    cases e <;> simp only [chE] at h <;> try (cases h; done)
    simp only [Bool.and_eq_true, decide_eq_true_eq] at h
    obtain ⟨⟨rfl, h1⟩, h2⟩ := h
    have p := s_bin (pos := by assumption) O.hK (o := o) (okE a sc _ X W h1 O tk).1 (okE b sc _ X W h2 O tk).1
    exact ⟨p, t_val O.hK p fun _ => rfl⟩
  | .neg a, sc, e, X, W, h, O, tk => by
    cases e with
    | UnaryOp op x pos =>
      cases op <;> simp only [chE] at h <;> try (cases h; done)
      have p := s_neg (pos := pos) (okE a sc _ X W h O tk).1
      exact ⟨p, t_val O.hK p fun _ => rfl⟩
    | _ => simp [chE] at h
  | .cmp o a b, sc, e, X, W, h, O, tk => by
    cases e with
    | Compare x ops ys pos =>
      rcases ops with _ | ⟨op, _ | ⟨_, _⟩⟩ <;> rcases ys with _ | ⟨y, _ | ⟨_, _⟩⟩ <;> try (simp [chE] at h; done)
      simp only [chE, Bool.and_eq_true, decide_eq_true_eq, Bool.not_eq_true'] at h
      obtain ⟨⟨⟨rfl, h1⟩, h2⟩, h3⟩ := h
      have pa := (okE a sc _ X W h1 O tk).1
      have pb := (okE b sc _ X W h2 O tk).1
      exact ⟨s_cmp O.hK O.room.units pa pb h3, t_cmp O.hK O.room.units pa pb h3⟩
    | _ => simp [chE] at h
  | .chain o o' a b d, sc, e, X, W, h, O, tk => by
    cases e with
    | Compare x ops ys pos =>
      rcases ops with _ | ⟨op, _ | ⟨op2, _ | ⟨_, _⟩⟩⟩ <;> rcases ys with _ | ⟨y, _ | ⟨z, _ | ⟨_, _⟩⟩⟩ <;> try (simp [chE] at h; done)
      simp only [chE, Bool.and_eq_true, decide_eq_true_eq, Bool.not_eq_true'] at h
      obtain ⟨⟨⟨⟨⟨rfl, rfl⟩, h1⟩, h2⟩, h3⟩, h4⟩ := h
      have pa := (okE a sc _ X W h1 O tk).1
      have pb := (okE b sc _ X W h2 O tk).1
      have pd := (okE d sc _ X W h3 O tk).1
      exact ⟨s_chain O.hK O.room.units pa pb pd h4, t_chain O.hK O.room.units pa pb pd h4⟩
    | _ => simp [chE] at h
  | .bop kk es, sc, e, X, W, h, O, tk => by
    cases e with
    | BoolOp op xs pos =>
      rcases xs with _ | ⟨x, xs⟩ <;> try (simp [chE] at h; done)
      simp only [chE, Bool.and_eq_true] at h
      cases kk <;> cases op <;> try (simp at h; done)
      · have p := okBo es sc x xs pos X W h.2 O tk
        exact ⟨p.1, p.2.pt⟩
      · have p := okBa es sc x xs pos X W h.2 O tk
        exact ⟨p.1, p.2.pt⟩
    | _ => simp [chE] at h
  | .not a, sc, e, X, W, h, O, tk => by
    cases e with
    | UnaryOp op x pos =>
      cases op <;> simp only [chE] at h <;> try (cases h; done)
      have p := okE a sc _ X W h O tk
      exact ⟨s_not O.hK p.1, t_not p.2⟩
    | _ => simp [chE] at h
  | .ite d a b, sc, e, X, W, h, O, tk => by
    cases e <;> simp only [chE] at h <;> try (cases h; done)
    simp only [Bool.and_eq_true] at h
    have pd := okE d sc _ X W h.1.1 O tk
    have pa := okE a sc _ X W h.1.2 O tk
    have pb := okE b sc _ X W h.2 O tk
    exact ⟨s_ite pd.2 pa.1 pb.1, t_ite pd.2 pa.2 pb.2⟩
  | .tup es, sc, e, X, W, h, O, tk => by
    cases e <;> simp only [chE] at h <;> try (cases h; done)
    have p := s_tup (pos := by assumption) (k := by assumption) (okEs es sc _ X W h O tk)
    exact ⟨p, t_val O.hK p fun _ => rfl⟩
  | .lst es, sc, e, X, W, h, O, tk => by
    cases e <;> simp only [chE] at h <;> try (cases h; done)
    have p := s_lst (pos := by assumption) (okEs es sc _ X W h O tk)
    exact ⟨p, t_val O.hK p fun _ => rfl⟩
  | .idx a i, sc, e, X, W, h, O, tk => by
    cases e <;> simp only [chE] at h <;> try (cases h; done)
    simp only [Bool.and_eq_true] at h
    have p := s_idx (pos := by assumption) O.hK (by have := O.room.units; omega) (okE a sc _ X W h.1.1 O tk).1 (okE i sc _ X W h.1.2 O tk).1 h.2
    exact ⟨p, t_val O.hK p fun _ => rfl⟩
  | .slc a lo hi, sc, e, X, W, h, O, tk => by
    cases e with
    | Subscript x y pos =>
      cases y with
      | Slice l hh st p2 =>
        cases st <;> simp only [chE] at h <;> try (cases h; done)
        simp only [Bool.and_eq_true] at h
        have p := s_slc (pos := pos) (p2 := p2) O.hK (okE a sc _ X W h.1.1 O tk).1 (okO lo sc _ X W h.1.2 O tk) (okO hi sc _ X W h.2 O tk)
        exact ⟨p, t_val O.hK p fun _ => rfl⟩
      | _ => simp [chE] at h
    | _ => simp [chE] at h
  | .rev a, sc, e, X, W, h, O, tk => by
    cases e with
    | Subscript x y pos =>
      cases y with
      | Slice l hh st p2 =>
        cases l <;> cases hh <;> cases st <;> try exact Bool.noConfusion (show false = true from h)
        rename_i st
        cases st with
        | UnaryOp op v p3 =>
          cases op <;> cases v <;> try exact Bool.noConfusion (show false = true from h)
          rename_i kk _ _
          cases kk <;> try exact Bool.noConfusion (show false = true from h)
          simp only [chE, Bool.and_eq_true, decide_eq_true_eq] at h
          obtain ⟨rfl, h⟩ := h
          exact ⟨s_rev O.hK (okE a sc _ X W h O tk).1, t_val O.hK (s_rev O.hK (okE a sc _ X W h O tk).1) fun _ => rfl⟩
        | _ => exact Bool.noConfusion (show false = true from h)
      | _ => exact Bool.noConfusion (show false = true from h)
    | _ => exact Bool.noConfusion (show false = true from h)
  | .call f es, sc, e, X, W, h, O, tk => by
    cases e with
    | Call g xs kws pos =>
      cases g with
      | Name y p =>
        cases kws <;> simp only [chE] at h <;> try (cases h; done)
        simp only [Bool.and_eq_true, beq_iff_eq] at h
        obtain ⟨⟨⟨rfl, h1⟩, h2⟩, h3⟩ := h
        obtain ⟨g1, g2⟩ := glB_gl O.hsc h1
        have D := O.defs f (by simpa using h2)
        cases xs with
        | nil =>
          cases es with
          | nil =>
            have p := s_call0 (pos := pos) (p := p) tk D O.room O.gd g1 g2
            exact ⟨p, t_val O.hK p fun _ => rfl⟩
          | cons _ _ => simp [chEs] at h3
        | cons x xs =>
          obtain ⟨n1, n2⟩ := es_ne h3
          have p := s_call (pos := pos) (p := p) tk D O.room O.gd g1 g2 (okEs es sc _ X W h3 O tk) n1 n2
          exact ⟨p, t_val O.hK p fun _ => rfl⟩
      | _ => simp [chE] at h
    | _ => simp [chE] at h
  | .bif f es, sc, e, X, W, h, O, tk => by
    cases e with
    | Call g xs kws pos =>
      cases g with
      | Name y p =>
        rcases xs with _ | ⟨x, xs⟩ <;> cases kws <;> simp only [chE] at h <;> try (cases h; done)
        simp only [Bool.and_eq_true] at h
        obtain ⟨h1, h3⟩ := h
        obtain ⟨n1, n2⟩ := es_ne h3
        cases eb : bfOf f with
        | none => rw [eb] at h1; cases h1
        | some q =>
          obtain ⟨m, ty, id⟩ := q
          rw [eb] at h1
          simp only [Bool.and_eq_true, beq_iff_eq] at h1
          obtain ⟨rfl, h1⟩ := h1
          obtain ⟨g1, g2⟩ := glB_gl O.hsc h1
          cases ty with
          | false =>
            obtain ⟨r1, r2, r3, r4⟩ := bfRule (c := c) O.calm O.hK O.gd (by have := O.room.un; omega) eb
            have p := s_bifB (pos := pos) (p := p) f r1 g1 (O.blt _ r4) r2 r3 g2 (okEs es sc _ X W h3 O tk) n1 n2
            exact ⟨p, t_val O.hK p fun _ => rfl⟩
          | true =>
            obtain ⟨r1, r2, r3, r4⟩ := bfRuleT (c := c) (X := X) O.calm O.hK eb
            have p := s_bifT (pos := pos) (p := p) f r1 g1 (O.blt _ r4) r2 r3 g2 (okEs es sc _ X W h3 O tk) n1 n2
            exact ⟨p, t_val O.hK p fun _ => rfl⟩
      | _ => cases xs <;> simp [chE] at h
    | _ => simp [chE] at h
  | .mth m o es, sc, e, X, W, h, O, tk => by
    cases e with
    | Call g xs kws cpos =>
      cases g with
      | Attribute z y apos =>
        cases kws <;> simp only [chE] at h <;> try (cases h; done)
        simp only [Bool.and_eq_true, beq_iff_eq, decide_eq_true_eq] at h
        obtain ⟨⟨⟨⟨⟨rfl, h1⟩, h2⟩, h3⟩, h4⟩, h5⟩ := h
        have po := (okE o sc _ X W h1 O tk).1
        have hline : (apos.endLine == cpos.line) = true := by simpa using h4
        cases xs with
        | nil =>
          cases es with
          | nil =>
            have p := s_mth0 (m := m) (apos := apos) (cpos := cpos) O.hK (by have := O.room.units; omega) po (baseOk_eq h3 _) hline
            exact ⟨p, t_val O.hK p fun _ => rfl⟩
          | cons _ _ => simp [chEs] at h2
        | cons x xs =>
          obtain ⟨n1, n2⟩ := es_ne h2
          have p := s_mth (m := m) (apos := apos) (cpos := cpos) O.hK (by have := O.room.units; omega) po (okEs es sc _ X W h2 O tk) (baseOk_eq h3 _) (by rw [List.all_cons, n1, n2]; rfl) h5 hline
          exact ⟨p, t_val O.hK p fun _ => rfl⟩
      | _ => simp [chE] at h
    | _ => simp [chE] at h
  | .isi a cl, sc, e, X, W, h, O, tk => by
    cases e with
    | Call g xs kws pos =>
      cases g with
      | Name f p =>
        rcases xs with _ | ⟨x, _ | ⟨y, _ | ⟨_, _⟩⟩⟩ <;> try (simp [chE] at h; done)
        cases y <;> try (simp [chE] at h; done)
        rename_i y py
        cases kws <;> simp only [chE] at h <;> try (cases h; done)
        simp only [Bool.and_eq_true, beq_iff_eq] at h
        obtain ⟨⟨⟨⟨⟨⟨rfl, h1⟩, h2⟩, rfl⟩, h4⟩, h5⟩, h6⟩ := h
        obtain ⟨g1, g2⟩ := glB_gl O.hsc h1
        obtain ⟨g3, g4⟩ := glB_gl O.hsc h4
        cases eT : clT cl with
        | none => rw [eT] at h2; cases h2
        | some T =>
          obtain ⟨b1, b2, b3⟩ := cl_boot eT
          have p := s_isi (pos := pos) (px := py) (p := p) O.hK eT (okE a sc _ X W h5 O tk).1 h6 g1 (O.blt _ (by decide)) g3 (O.blt _ b3) b1 b2 g4
          exact ⟨p, t_val O.hK p fun _ => rfl⟩
      | _ => simp [chE] at h
    | _ => simp [chE] at h
  | .lc elt tg it cs own, sc, e, X, W, h, O, tk => by
    cases e with
    | ListComp x gens scope pos =>
      obtain ⟨t, iter, ifs, rfl, h1, ⟨tup, h2, h3⟩, h4, h5, h6, h7, h8⟩ := (lcOk_mk h O (W := W) (fun e t h' q => okI it sc e t X W h' O tk q) (fun sc' es' X' h' O' => okC cs sc' es' X' noW h' O' takes_no) (fun sc' e' X' h' O' => (okE elt sc' e' X' noW h' O' takes_no).1)).ex
      have p := s_lc (pos := pos) O.hK O.calm O.nd h2 h1 h3 h4 h5 h6 h7 h8
      exact ⟨p, t_val O.hK p fun _ => rfl⟩
    | _ => simp [chE] at h
  | .dnil, sc, e, X, W, h, O, tk => by
    cases e with
    | Dict ks vs pos =>
      cases ks <;> cases vs <;> try exact Bool.noConfusion (show false = true from h)
      exact ⟨s_dnil, t_val O.hK (s_dnil (G := G)) fun _ => rfl⟩
    | _ => exact Bool.noConfusion (show false = true from h)
  | .dsp ps, sc, e, X, W, h, O, tk => by
    cases e with
    | Dict ks vs pos =>
      cases ks with
      | nil => exact Bool.noConfusion (show false = true from h)
      | cons k ks =>
        simp only [chE, Bool.and_eq_true, decide_eq_true_eq] at h
        obtain ⟨trs, hp⟩ := okPs ps sc (k :: ks) vs X W h.1 O tk
        have p := s_dsp (pos := pos) hp (by simp) (by have := h.2; simp only [List.length_cons]; omega)
        exact ⟨p, t_val O.hK p fun _ => rfl⟩
    | _ => exact Bool.noConfusion (show false = true from h)
  | .litems a, sc, e, X, W, h, O, tk => by
    cases e with
    | Call g xs kws pos =>
      cases g with
      | Name f p =>
        rcases xs with _ | ⟨x, xr⟩
        · exact Bool.noConfusion (show false = true from h)
        · cases x with
          | Call g2 ys kw2 pos2 =>
            cases g2 with
            | Attribute x m apos =>
              cases ys <;> cases kw2 <;> cases xr <;> cases kws <;> try exact Bool.noConfusion (show false = true from h)
              simp only [chE, Bool.and_eq_true, beq_iff_eq] at h
              obtain ⟨⟨⟨⟨⟨rfl, rfl⟩, h1⟩, h2⟩, h3⟩, h4⟩ := h
              have hl : (apos.endLine == pos2.line) = true := by simpa using h4
              have p := s_litems (pos := pos) (p := p) (apos := apos) (cpos := pos2) O.calm (okE a sc _ X W h2 O tk).1 (glB_gl O.hsc h1).1 (O.blt _ (by decide)) (baseOk_eq h3 _) hl
              exact ⟨p, t_val O.hK p fun _ => rfl⟩
            | _ => exact Bool.noConfusion (show false = true from h)
          | _ => exact Bool.noConfusion (show false = true from h)
      | _ => exact Bool.noConfusion (show false = true from h)
    | _ => exact Bool.noConfusion (show false = true from h)
  | .dc kx elt tg it cs own, sc, e, X, W, h, O, tk => by
    cases e with
    | DictComp x v gens scope pos =>
      rcases gens with _ | ⟨⟨t, iter, ifs, as⟩, _ | ⟨_, _⟩⟩ <;> try (simp [chE] at h; done)
      by_cases ha : as = 0
      · subst ha
        simp only [chE, Bool.and_eq_true, List.all_eq_true, decide_eq_true_eq] at h
        obtain ⟨⟨⟨⟨⟨⟨⟨⟨h1, h2⟩, h3⟩, h4⟩, h5⟩, h6⟩, h6'⟩, h7⟩, h8⟩ := h
        have p := s_dc (pos := pos) O.hK O.calm O.nd (tup := tupI it) (fun z => tup_tg h3 (tupOk_ex h8 z)) h4 (okI it sc _ t X W h1 O tk (tupOk_ex h8)) (by rw [O.hN, O.hsc]; exact blkOk_by h2) (blk_tg O h3) (fun s H C cl fp => okC cs _ _ _ noW h5 (O.blk s H scope C cl fp) takes_no) (fun s H C cl fp => (okE kx _ _ _ noW h6 (O.blk s H scope C cl fp) takes_no).1) (fun s H C cl fp => (okE elt _ _ _ noW h6' (O.blk s H scope C cl fp) takes_no).1) h7
        exact ⟨p, t_val O.hK p fun _ => rfl⟩
      · unfold chE at h
        split at h <;> simp_all
    | _ => simp [chE] at h
  | .callk f es ns ws dv, sc, e, X, W, h, O, tk => by
    cases e with
    | Call g xs kws pos =>
      cases g with
      | Name y p =>
        cases xs with
        | nil => exact Bool.noConfusion (show false = true from h)
        | cons x xs =>
          unfold chE at h
          simp only [Bool.and_eq_true, beq_iff_eq] at h
          obtain ⟨⟨⟨rfl, h1⟩, h2⟩, h3⟩ := h
          obtain ⟨g1, g2⟩ := glB_gl O.hsc h1
          obtain ⟨n1, n2⟩ := es_ne h2
          have pa := okEs es sc _ X W h2 O tk
          split at h3
          · rename_i k0 w0 kn v0 kp0
            simp only [Bool.and_eq_true, beq_iff_eq] at h3
            obtain ⟨⟨rfl, h4⟩, h5⟩ := h3
            have D := O.kws _ _ _ (by simpa using h4)
            have pk : PK X [⟨some k0, v0, kp0⟩] (lA c (evs G (.cons w0 .nil)) W) := k_one (okE w0 sc _ X W h5 O tk).1
            have p := s_callk (pos := pos) (p := p) tk D O.room O.gd g1 g2 pa pk n1 n2 rfl rfl rfl
            exact ⟨p, t_val O.hK p fun _ => rfl⟩
          · rename_i i0
            have D := O.dfl _ _ _ (by simpa using h3)
            have pk : PK X [] (lA c (evs G .nil) W) := k_nil
            have p := s_callk (pos := pos) (p := p) tk D O.room O.gd g1 g2 pa pk n1 n2 rfl rfl rfl
            exact ⟨p, t_val O.hK p fun _ => rfl⟩
          · cases h3
      | _ => cases xs <;> exact Bool.noConfusion (show false = true from h)
    | _ => exact Bool.noConfusion (show false = true from h)
  | .lrg it, sc, e, X, W, h, O, tk => by
    cases e with
    | Call g xs kws pos =>
      cases g with
      | Name f p =>
        rcases xs with _ | ⟨x, _ | ⟨_, _⟩⟩ <;> cases kws <;> try exact Bool.noConfusion (show false = true from h)
        simp only [chE, Bool.and_eq_true, beq_iff_eq] at h
        obtain ⟨⟨⟨rfl, h1⟩, h2⟩, h3⟩ := h
        have p := s_lrg (pos := pos) (p := p) O.calm (glB_gl O.hsc h1).1 (O.blt _ (by decide)) (okR it sc _ X W h2 O tk) h3
        exact ⟨p, t_val O.hK p fun _ => rfl⟩
      | _ => exact Bool.noConfusion (show false = true from h)
    | _ => exact Bool.noConfusion (show false = true from h)
  | .trg it, sc, e, X, W, h, O, tk => by
    cases e with
    | Call g xs kws pos =>
      cases g with
      | Name f p =>
        rcases xs with _ | ⟨x, _ | ⟨_, _⟩⟩ <;> cases kws <;> try exact Bool.noConfusion (show false = true from h)
        simp only [chE, Bool.and_eq_true, beq_iff_eq] at h
        obtain ⟨⟨⟨rfl, h1⟩, h2⟩, h3⟩ := h
        have p := s_trg (pos := pos) (p := p) O.calm (glB_gl O.hsc h1).1 (O.blt _ (by decide)) (okR it sc _ X W h2 O tk) h3
        exact ⟨p, t_val O.hK p fun _ => rfl⟩
      | _ => exact Bool.noConfusion (show false = true from h)
    | _ => exact Bool.noConfusion (show false = true from h)
  | .lset a, sc, e, X, W, h, O, tk => by
    cases e with
    | Call g xs kws pos =>
      cases g with
      | Name f p =>
        rcases xs with _ | ⟨x, xr⟩
        · exact Bool.noConfusion (show false = true from h)
        · cases x with
          | Call g2 ys kw2 pos2 =>
            cases g2 with
            | Name f2 p2 =>
              rcases ys with _ | ⟨y, _ | ⟨_, _⟩⟩ <;> cases kw2 <;> cases xr <;> cases kws <;> try exact Bool.noConfusion (show false = true from h)
              simp only [chE, Bool.and_eq_true, beq_iff_eq] at h
              obtain ⟨⟨⟨⟨⟨rfl, rfl⟩, h1⟩, h2⟩, h3⟩, h4⟩ := h
              have p := s_lset (pos := pos) (p := p) (p2 := p2) (q := pos2) O.hK O.calm (glB_gl O.hsc h1).1 (O.blt _ (by decide)) (glB_gl O.hsc h2).1 (O.blt _ (by decide)) (okE a sc _ X W h3 O tk).1 h4
              exact ⟨p, t_val O.hK p fun _ => rfl⟩
            | _ => exact Bool.noConfusion (show false = true from h)
          | _ => exact Bool.noConfusion (show false = true from h)
      | _ => exact Bool.noConfusion (show false = true from h)
    | _ => exact Bool.noConfusion (show false = true from h)
  | .sset a, sc, e, X, W, h, O, tk => by
    cases e with
    | Call g xs kws pos =>
      cases g with
      | Name f p =>
        rcases xs with _ | ⟨x, xr⟩
        · exact Bool.noConfusion (show false = true from h)
        · cases x with
          | Call g2 ys kw2 pos2 =>
            cases g2 with
            | Name f2 p2 =>
              rcases ys with _ | ⟨y, _ | ⟨_, _⟩⟩ <;> cases kw2 <;> cases xr <;> cases kws <;> try exact Bool.noConfusion (show false = true from h)
              simp only [chE, Bool.and_eq_true, beq_iff_eq] at h
              obtain ⟨⟨⟨⟨⟨rfl, rfl⟩, h1⟩, h2⟩, h3⟩, h4⟩ := h
              have p := s_sset (pos := pos) (p := p) (p2 := p2) (q := pos2) O.hK O.calm (glB_gl O.hsc h1).1 (O.blt _ (by decide)) (glB_gl O.hsc h2).1 (O.blt _ (by decide)) (okE a sc _ X W h3 O tk).1 h4
              exact ⟨p, t_val O.hK p fun _ => rfl⟩
            | _ => exact Bool.noConfusion (show false = true from h)
          | _ => exact Bool.noConfusion (show false = true from h)
      | _ => exact Bool.noConfusion (show false = true from h)
    | _ => exact Bool.noConfusion (show false = true from h)
theorem okC : ∀ (ees : Es) (sc : Scope) (es : List Expr) (X : Cx) (W : WX), chC n N sc ees es = true → XOk c G n k N sc X → Takes X W → PTs X es (lT c (evC G ees) W)
  | .nil, sc, es, X, W, h, O, tk => by
    cases es with
    | nil => exact pts_of (.inl ⟨rfl, rfl⟩)
    | cons _ _ => simp [chC] at h
  | .cons e .nil, sc, es, X, W, h, O, tk => by
    rcases es with _ | ⟨x, _ | ⟨_, _⟩⟩ <;> try (simp [chC] at h; done)
    simp only [chC] at h
    exact pts_of (.inr ⟨x, e, rfl, rfl, (okE e sc _ X W h O tk).2⟩)
  | .cons e (.cons _ _), sc, es, X, W, h, O, tk => by simp [chC] at h
theorem okPs : ∀ (ps : Ps) (sc : Scope) (ks : List (Option Expr)) (vs : List Expr) (X : Cx) (W : WX), chPs n N sc ps ks vs = true → XOk c G n k N sc X → Takes X W → ∃ trs, PsOk c G X W ps ks vs trs
  | .nil, sc, ks, vs, X, W, h, O, tk => by
    cases ks <;> cases vs <;> try exact Bool.noConfusion (show false = true from h)
    exact ⟨_, .nil⟩
  | .cons a b ps, sc, ks, vs, X, W, h, O, tk => by
    rcases ks with _ | ⟨k, ks⟩
    · exact Bool.noConfusion (show false = true from h)
    · cases k with
      | none => exact Bool.noConfusion (show false = true from h)
      | some x =>
        rcases vs with _ | ⟨y, vs⟩
        · exact Bool.noConfusion (show false = true from h)
        · simp only [chPs, Bool.and_eq_true] at h
          obtain ⟨trs, q⟩ := okPs ps sc ks vs X W h.2 O tk
          exact ⟨_, .cons (okE a sc _ X W h.1.1 O tk).1 (okE b sc _ X W h.1.2 O tk).1 q⟩
theorem okEs : ∀ (ees : Es) (sc : Scope) (es : List Expr) (X : Cx) (W : WX), chEs n N sc ees es = true → XOk c G n k N sc X → Takes X W → PA X es (lA c (evs G ees) W)
  | .nil, sc, es, X, W, h, O, tk => by
    cases es with
    | nil => exact a_nil
    | cons _ _ => simp [chEs] at h
  | .cons e es, sc, xs, X, W, h, O, tk => by
    cases xs with
    | nil => simp [chEs] at h
    | cons x xs =>
      simp only [chEs, Bool.and_eq_true] at h
      exact a_cons (okE e sc _ X W h.1.1 O tk).1 (okEs es sc _ X W h.2 O tk) h.1.2
theorem okBa : ∀ (ees : Es) (sc : Scope) (x : Expr) (xs : List Expr) (pos : Pos) (X : Cx) (W : WX), chEs n N sc ees (x :: xs) = true → XOk c G n k N sc X → Takes X W →
    PE X (.BoolOp .And (x :: xs) pos) (lE c (evB2 G true ees).1 W) ∧ PW X (.BoolOp .And (x :: xs) pos) (lT c (evB2 G true ees).2 W)
  | .nil, _, _, _, _, _, _, h, _, _ => by simp [chEs] at h
  | .cons e .nil, sc, x, xs, pos, X, W, h, O, tk => by
    simp only [chEs, Bool.and_eq_true] at h
    cases xs with
    | nil =>
      have p := okE e sc _ X W h.1.1 O tk
      exact ⟨s_bop1 p.1, t_and1 p.2⟩
    | cons _ _ => simp [chEs] at h
  | .cons e (.cons e2 es), sc, x, xs, pos, X, W, h, O, tk => by
    rw [chEs, Bool.and_eq_true, Bool.and_eq_true] at h
    cases xs with
    | nil => simp [chEs] at h
    | cons y ys =>
      have p := okE e sc _ X W h.1.1 O tk
      have q := okBa (.cons e2 es) sc y ys pos X W h.2 O tk
      exact ⟨s_and p.1 q.1, t_and p.2 q.2⟩
theorem okBo : ∀ (ees : Es) (sc : Scope) (x : Expr) (xs : List Expr) (pos : Pos) (X : Cx) (W : WX), chEs n N sc ees (x :: xs) = true → XOk c G n k N sc X → Takes X W →
    PE X (.BoolOp .Or (x :: xs) pos) (lE c (evB2 G false ees).1 W) ∧ PW X (.BoolOp .Or (x :: xs) pos) (lT c (evB2 G false ees).2 W)
  | .nil, _, _, _, _, _, _, h, _, _ => by simp [chEs] at h
  | .cons e .nil, sc, x, xs, pos, X, W, h, O, tk => by
    simp only [chEs, Bool.and_eq_true] at h
    cases xs with
    | nil =>
      have p := okE e sc _ X W h.1.1 O tk
      exact ⟨s_bop1 p.1, t_or1 p.2⟩
    | cons _ _ => simp [chEs] at h
  | .cons e (.cons e2 es), sc, x, xs, pos, X, W, h, O, tk => by
    rw [chEs, Bool.and_eq_true, Bool.and_eq_true] at h
    cases xs with
    | nil => simp [chEs] at h
    | cons y ys =>
      have p := okE e sc _ X W h.1.1 O tk
      have q := okBo (.cons e2 es) sc y ys pos X W h.2 O tk
      exact ⟨s_or p.1 q.1, t_or p.2 q.2⟩
theorem okO : ∀ (eo : Oe) (sc : Scope) (e : Option Expr) (X : Cx) (W : WX), chO n N sc eo e = true → XOk c G n k N sc X → Takes X W → PO X e (lO c (evo G eo) W)
  | .no, sc, e, X, W, h, O, tk => by
    cases e with
    | none => exact o_no
    | some _ => simp [chO] at h
  | .yes a, sc, e, X, W, h, O, tk => by
    cases e with
    | none => simp [chO] at h
    | some x =>
      simp only [chO] at h
      exact o_yes (okE a sc _ X W h O tk).1
theorem okR : ∀ (it : I) (sc : Scope) (e : Expr) (X : Cx) (W : WX), chR n N sc it e = true → XOk c G n k N sc X → Takes X W → PRg X e (lR c (evI G it) W)
  | .seq a, sc, e, X, W, h, O, tk => Bool.noConfusion (show false = true from h)
  | .enum a, sc, e, X, W, h, O, tk => Bool.noConfusion (show false = true from h)
  | .zip a b, sc, e, X, W, h, O, tk => Bool.noConfusion (show false = true from h)
  | .items a, sc, e, X, W, h, O, tk => Bool.noConfusion (show false = true from h)
  | .values a, sc, e, X, W, h, O, tk => Bool.noConfusion (show false = true from h)
  | .rng1 a, sc, e, X, W, h, O, tk => by
    cases e with
    | Call g xs kws pos =>
      cases g with
      | Name f p =>
        rcases xs with _ | ⟨x, _ | ⟨_, _⟩⟩ <;> cases kws <;> try exact Bool.noConfusion (show false = true from h)
        simp only [chR, Bool.and_eq_true, beq_iff_eq] at h
        obtain ⟨⟨⟨rfl, h1⟩, h2⟩, h3⟩ := h
        exact r_1 (glB_gl O.hsc h1).1 (O.blt _ (by decide)) (okE a sc _ X W h2 O tk).1 h3
      | _ => exact Bool.noConfusion (show false = true from h)
    | _ => exact Bool.noConfusion (show false = true from h)
  | .rng2 a b, sc, e, X, W, h, O, tk => by
    cases e with
    | Call g xs kws pos =>
      cases g with
      | Name f p =>
        rcases xs with _ | ⟨x, _ | ⟨y, _ | ⟨_, _⟩⟩⟩ <;> cases kws <;> try exact Bool.noConfusion (show false = true from h)
        simp only [chR, Bool.and_eq_true, beq_iff_eq] at h
        obtain ⟨⟨⟨⟨⟨rfl, h1⟩, h2⟩, h3⟩, h4⟩, h5⟩ := h
        exact r_2 (glB_gl O.hsc h1).1 (O.blt _ (by decide)) (okE a sc _ X W h2 O tk).1 (okE b sc _ X W h3 O tk).1 h4 h5
      | _ => exact Bool.noConfusion (show false = true from h)
    | _ => exact Bool.noConfusion (show false = true from h)
theorem okI : ∀ (it : I) (sc : Scope) (e : Expr) (tg : Expr) (X : Cx) (W : WX), chI n N sc it e = true → XOk c G n k N sc X → Takes X W → (tupI it = true → ∃ es kk p, tg = .Tuple es kk p) → PI X tg e (lI c (tupI it) (evI G it) W)
  | .seq a, sc, e, tg, X, W, h, O, tk, ht => by
    simp only [chI] at h
    exact i_seq O.hK (okE a sc _ X W h O tk).1
  | .enum a, sc, e, tg, X, W, h, O, tk, ht => by
    obtain ⟨els, kk, tp, rfl⟩ := ht rfl
    cases e with
    | Call g xs kws pos =>
      cases g with
      | Name f p =>
        rcases xs with _ | ⟨x, _ | ⟨_, _⟩⟩ <;> cases kws <;> try exact Bool.noConfusion (show false = true from h)
        simp only [chI, Bool.and_eq_true, beq_iff_eq] at h
        obtain ⟨⟨⟨rfl, h1⟩, h2⟩, h3⟩ := h
        exact i_enum O.hK (glB_gl O.hsc h1).1 (O.blt _ (by decide)) (okE a sc _ X W h2 O tk).1 h3
      | _ => exact Bool.noConfusion (show false = true from h)
    | _ => exact Bool.noConfusion (show false = true from h)
  | .items a, sc, e, tg, X, W, h, O, tk, ht => by
    obtain ⟨els, kk, tp, rfl⟩ := ht rfl
    cases e with
    | Call g xs kws pos =>
      cases g with
      | Attribute x m apos =>
        cases xs <;> cases kws <;> try exact Bool.noConfusion (show false = true from h)
        simp only [chI, Bool.and_eq_true, beq_iff_eq] at h
        obtain ⟨⟨⟨rfl, h2⟩, h3⟩, h4⟩ := h
        exact i_items (okE a sc _ X W h2 O tk).1 (baseOk_eq h3 _) (by simpa using h4)
      | _ => exact Bool.noConfusion (show false = true from h)
    | _ => exact Bool.noConfusion (show false = true from h)
  | .values a, sc, e, tg, X, W, h, O, tk, ht => by
    cases e with
    | Call g xs kws pos =>
      cases g with
      | Attribute x m apos =>
        cases xs <;> cases kws <;> try exact Bool.noConfusion (show false = true from h)
        simp only [chI, Bool.and_eq_true, beq_iff_eq] at h
        obtain ⟨⟨⟨rfl, h2⟩, h3⟩, h4⟩ := h
        exact i_values (okE a sc _ X W h2 O tk).1 (baseOk_eq h3 _) (by simpa using h4)
      | _ => exact Bool.noConfusion (show false = true from h)
    | _ => exact Bool.noConfusion (show false = true from h)
  | .zip a b, sc, e, tg, X, W, h, O, tk, ht => by
    obtain ⟨els, kk, tp, rfl⟩ := ht rfl
    cases e with
    | Call g xs kws pos =>
      cases g with
      | Name f p =>
        rcases xs with _ | ⟨x, _ | ⟨y, _ | ⟨_, _⟩⟩⟩ <;> cases kws <;> try exact Bool.noConfusion (show false = true from h)
        simp only [chI, Bool.and_eq_true, beq_iff_eq] at h
        obtain ⟨⟨⟨⟨⟨rfl, h1⟩, h2⟩, h3⟩, h4⟩, h5⟩ := h
        exact i_zip O.hK (glB_gl O.hsc h1).1 (O.blt _ (by decide)) (okE a sc _ X W h2 O tk).1 (okE b sc _ X W h3 O tk).1 h4 h5
      | _ => exact Bool.noConfusion (show false = true from h)
    | _ => exact Bool.noConfusion (show false = true from h)
  | .rng1 a, sc, e, tg, X, W, h, O, tk, ht => by
    cases e with
    | Call g xs kws pos =>
      cases g with
      | Name f p =>
        rcases xs with _ | ⟨x, _ | ⟨_, _⟩⟩ <;> cases kws <;> try (simp [chI] at h; done)
        simp only [chI, Bool.and_eq_true, beq_iff_eq] at h
        obtain ⟨⟨⟨rfl, h1⟩, h2⟩, h3⟩ := h
        exact i_rng1 (glB_gl O.hsc h1).1 (O.blt _ (by decide)) (okE a sc _ X W h2 O tk).1 h3
      | _ => simp [chI] at h
    | _ => simp [chI] at h
  | .rng2 a b, sc, e, tg, X, W, h, O, tk, ht => by
    cases e with
    | Call g xs kws pos =>
      cases g with
      | Name f p =>
        rcases xs with _ | ⟨x, _ | ⟨y, _ | ⟨_, _⟩⟩⟩ <;> cases kws <;> try (simp [chI] at h; done)
        simp only [chI, Bool.and_eq_true, beq_iff_eq] at h
        obtain ⟨⟨⟨⟨⟨rfl, h1⟩, h2⟩, h3⟩, h4⟩, h5⟩ := h
        exact i_rng2 (glB_gl O.hsc h1).1 (O.blt _ (by decide)) (okE a sc _ X W h2 O tk).1 (okE b sc _ X W h3 O tk).1 h4 h5
      | _ => simp [chI] at h
    | _ => simp [chI] at h
end
theorem okLc {elt : E} {tg : Tg} {it : I} {cs : Es} {own : List (Str × Nat)} {sc : Scope} {x : Expr} {gens : List Comprehension} {scope : Scope} {pos : Pos} {X : Cx} {W : WX} (h : chE n N sc (.lc elt tg it cs own) (.ListComp x gens scope pos) = true) (O : XOk c G n k N sc X) (tk : Takes X W) : LcOk c G X W x gens scope elt tg it cs own :=
  lcOk_mk h O (fun e t h' q => okI it sc e t X W h' O tk q) (fun sc' es' X' h' O' => okC cs sc' es' X' noW h' O' takes_no) (fun sc' e' X' h' O' => (okE elt sc' e' X' noW h' O' takes_no).1)
theorem okDc {kx elt : E} {tg : Tg} {it : I} {cs : Es} {own : List (Str × Nat)} {sc : Scope} {x v : Expr} {gens : List Comprehension} {scope : Scope} {pos : Pos} {X : Cx} {W : WX} (h : chE n N sc (.dc kx elt tg it cs own) (.DictComp x v gens scope pos) = true) (O : XOk c G n k N sc X) (tk : Takes X W) : DcOk c G X W x v gens scope kx elt tg it cs own := by
  rcases gens with _ | ⟨⟨t, iter, ifs, as⟩, _ | ⟨_, _⟩⟩ <;> try (simp [chE] at h; done)
  by_cases ha : as = 0
  · subst ha
    simp only [chE, Bool.and_eq_true, List.all_eq_true, decide_eq_true_eq] at h
    obtain ⟨⟨⟨⟨⟨⟨⟨⟨h1, h2⟩, h3⟩, h4⟩, h5⟩, h6⟩, h6'⟩, h7⟩, h8⟩ := h
    exact ⟨t, iter, ifs, rfl, h4, ⟨tupI it, ⟨fun z => tup_tg h3 (tupOk_ex h8 z), okI it sc _ t X W h1 O tk (tupOk_ex h8)⟩⟩, by rw [O.hN, O.hsc]; exact blkOk_by h2, blk_tg O h3, fun s H C cl fp => okC cs _ _ _ noW h5 (O.blk s H scope C cl fp) takes_no, fun s H C cl fp => (okE kx _ _ _ noW h6 (O.blk s H scope C cl fp) takes_no).1, fun s H C cl fp => (okE elt _ _ _ noW h6' (O.blk s H scope C cl fp) takes_no).1, h7⟩
  · unfold chE at h
    split at h <;> simp_all
end
end Py

set_option maxHeartbeats 8000000
namespace Py
open PySem PySem.Spec PyProof.Rows L2
/-! ### stores that the compiler turns about -/
def swS (sc : Scope) (ts vs : List Expr) : Option (Option (List Str)) :=
  if (!(ts.length == 2 || ts.length == 3) || vs.length != ts.length) = true then some none
  else if (vs.any fun | .Starred .. => true | _ => false) = true then some none
  else
    let line := (ts.head?.map (·.pos.line)).getD 0
    let names := ts.filterMap fun
      | .Name id pos => if (sc.names.lookup id == some .local && pos.line == line) = true then some id else none
      | _ => none
    if (names.length != ts.length || names.eraseDups.length != names.length) = true then some none
    else if vs.all (foldedForSure 8) = true then some none
    else if vs.all (constantsAlone 8) = true then none
    else some (some names)
theorem swS_eq {env : Env} {sc : Scope} (hsc : env.scope = sc) (hk : sc.kind = .function) {ts vs : List Expr} {k k2 : Nat} {p p2 : Pos} {r : Option (List Str)} (h : swS sc ts vs = some r) : swappedStores [.Tuple ts k p] (.Tuple vs k2 p2) env = pure r := by
  have hb : (env.blockKind != .function) = false := by unfold Env.blockKind; rw [hsc, hk]; rfl
  have hkd : ∀ id, env.kindOf id = sc.names.lookup id := fun id => by unfold Env.kindOf; rw [hsc]
  unfold swS at h
  unfold swappedStores
  simp only [hb, hkd, Bool.or_false]
  split at h
  · rename_i h1
    cases h
    exact (if_pos h1).trans rfl
  · rename_i h1
    refine (if_neg h1).trans ?_
    split at h
    · rename_i h2
      cases h
      exact (if_pos h2).trans rfl
    · rename_i h2
      refine (if_neg h2).trans ?_
      dsimp only at h
      split at h
      · rename_i h3
        cases h
        exact (if_pos h3).trans rfl
      · rename_i h3
        refine (if_neg h3).trans ?_
        split at h
        · rename_i h4
          cases h
          exact (if_pos h4).trans rfl
        · rename_i h4
          refine (if_neg h4).trans ?_
          split at h
          · cases h
          · rename_i h5
            cases h
            refine (if_neg h5).trans ?_
            rfl
def notTup : Expr → Bool
  | .Tuple .. => false
  | _ => true
theorem noSwap {t e : Expr} {env : Env} (h : notTup e = true) : swappedStores [t] e env = pure none := by
  cases e <;> first | (cases h; done) | (cases t <;> rfl)
theorem noSwapSub {o i e : Expr} {p : Pos} {env : Env} : swappedStores [.Subscript o i p] e env = pure none := by
  cases e <;> rfl
/-- name = [..]: are the list's block and the store turned about -/
def swB (sc scope : Scope) (y : Str) (py lpos : Pos) : Bool := sc.names.lookup y == some .local && py.line == lpos.line && !(scope.names.any fun (n, k) => n == y && (k == .local || k == .cell))
theorem swB_eq {env : Env} {sc : Scope} (hsc : env.scope = sc) (hk : sc.kind = .function) {elt : Expr} {gens : List Comprehension} {scope : Scope} {lpos py : Pos} {y : Str} {l : Nat} : swapsWith (.ListComp elt gens scope lpos) (some (.Name y py)) l env = pure (swB sc scope y py lpos) := by
  have hb : (env.blockKind == .function) = true := by unfold Env.blockKind; rw [hsc, hk]; rfl
  have hkd : env.kindOf y = sc.names.lookup y := by unfold Env.kindOf; rw [hsc]
  unfold swapsWith swB
  simp only [hb, hkd, Expr.pos, Bool.true_and]
theorem swB_eqD {env : Env} {sc : Scope} (hsc : env.scope = sc) (hk : sc.kind = .function) {kx elt : Expr} {gens : List Comprehension} {scope : Scope} {lpos py : Pos} {y : Str} {l : Nat} : swapsWith (.DictComp kx elt gens scope lpos) (some (.Name y py)) l env = pure (swB sc scope y py lpos) := by
  have hb : (env.blockKind == .function) = true := by unfold Env.blockKind; rw [hsc, hk]; rfl
  have hkd : env.kindOf y = sc.names.lookup y := by unfold Env.kindOf; rw [hsc]
  unfold swapsWith swB
  simp only [hb, hkd, Expr.pos, Bool.true_and]
theorem soleNo {t e : Expr} {l : Nat} {env : Env} (h : noComp e = true) : swapsWithSole [t] e l env = pure false := by
  cases e <;> first | (cases h; done) | rfl
/-- no code stands behind it -/
def ghost : S → Bool
  | .frz _ => true
  | .wipe _ => true
  | _ => false
variable (n : Names) (N : List Str)
def chPar (sc : Scope) : List (Nat × Str) → Bool
  | [(i, x), (j, y)] => decide (i ≠ j) && decide (sc.names.lookup x = some .local) && decide (sc.names.lookup y = some .local)
  | [(i, x), (j, y), (l, z)] => decide (i ≠ j) && decide (i ≠ l) && decide (j ≠ l) && decide (sc.names.lookup x = some .local) && decide (sc.names.lookup y = some .local) && decide (sc.names.lookup z = some .local)
  | _ => false
def chRaise (sc : Scope) (x : Str) : Expr → Bool
  | .Call (.Name y _) [.Constant (.str _) _ _] [] _ => x == y && glB sc x && n.excs.contains x
  | _ => false
mutual
def chS (sc : Scope) : S → Stmt → Bool
  | .asg i x e, .Assign [.Name y p] v pos => x == y && decide (N[i]? = some x) && locB sc x && chE n N sc e v && (noComp v || (match v with | .ListComp .. => true | .DictComp .. => true | _ => false))
  | .unp xs e, .Assign [.Tuple ts _ _] v _ => chNames N sc xs ts && chE n N sc e v && noComp v && (notTup v || (match v with | .Tuple vs _ _ => decide (swS sc ts vs = some none) | _ => false))
  | .par xs es, .Assign [.Tuple ts _ _] (.Tuple vs _ _) _ => chNames N sc xs ts && chPar sc xs && decide (vs.length = xs.length) && chEs n N sc es vs && decide (swS sc ts vs = some (some (xs.map (·.2))))
  | .sto o i e, .Assign [.Subscript x k _] v _ => chE n N sc o x && chE n N sc i k && chE n N sc e v && notSlice k && noComp v
  | .aug i x o e, .AugAssign (.Name y _) op v _ => x == y && decide (N[i]? = some x) && locB sc x && decide (bopOp o = op) && augOk o && chE n N sc e v
  | .exp e, .Expr v _ => chE n N sc e v && noComp v
  | .ret e, .Return (some v) _ => chE n N sc e v
  | .ret0, .Return none _ => true
  | .if_ c a b, .If t x y _ => chE n N sc c t && chSs sc a x && chSs sc b y
  | .whl c b _, .While t x [] _ => chE n N sc c t && chSs sc b x
  | .for_ tg it b _, .For t iter x [] _ => chTg N sc tg t && chI n N sc it iter && chSs sc b x && notSet iter && tupOk it t
  | .raise x, .Raise (some e) none _ => chRaise n sc x e
  | .pass, .Pass _ => true
  | .brk, .Break _ => true
  | .cnt, .Continue _ => true
  | _, _ => false
def chSs (sc : Scope) : Ss → List Stmt → Bool
  | .nil, xs => xs.isEmpty
  | .cons s ss, xs => match ghost s with
    | true => chSs sc ss xs
    | false => match xs with
      | x :: xs => chS sc s x && chSs sc ss xs
      | [] => false
end

/-- where statements stand: a def's body -/
structure StOk (X : Cx) : Prop where
  fn : ∀ x, X.fn x = true
  pass : PassesOwn (model X.prog X.w) X.A X.env X.xe
section
variable {c : RC} {G : GEnv} {n : Names} {k : Nat} {N : List Str}
theorem st_store {sc : Scope} {X : Cx} {x : Str} {i : Nat} (O : XOk c G n k N sc X) (F : StOk X) (h : locB sc x = true) (hi : N[i]? = some x) : StoreOk X i x := by
  unfold locB at h
  simp only [Bool.or_eq_true, decide_eq_true_eq] at h
  refine ⟨by rw [O.hN]; exact hi, ?_, .inl (F.fn x)⟩
  unfold L2.Loc
  rw [O.hsc]
  exact h
theorem st_names {sc : Scope} {X : Cx} (O : XOk c G n k N sc X) (F : StOk X) : ∀ {xs : List (Nat × Str)} {es : List Expr}, chNames N sc xs es = true → NamesAre X xs es
  | [], [], _ => .nil
  | (i, x) :: xs, e :: es, h => by
    cases e <;> simp only [chNames] at h <;> try (cases h; done)
    simp only [Bool.and_eq_true, beq_iff_eq, decide_eq_true_eq] at h
    obtain ⟨⟨⟨rfl, h1⟩, h2⟩, h3⟩ := h
    exact .cons (st_store O F h2 h1) (st_names O F h3)
  | [], _ :: _, h => by simp [chNames] at h
  | (_, _) :: _, [], h => by simp [chNames] at h
theorem st_tg {sc : Scope} {X : Cx} (O : XOk c G n k N sc X) (F : StOk X) {tg : Tg} {e : Expr} (h : chTg N sc tg e = true) : TgIs X tg e := by
  cases tg <;> cases e <;> simp only [chTg] at h <;> try (cases h; done)
  · simp only [Bool.and_eq_true, beq_iff_eq, decide_eq_true_eq] at h
    obtain ⟨⟨rfl, h1⟩, h2⟩ := h
    exact .name (st_store O F h2 h1)
  · exact .tup (st_names O F h)
theorem ok_asg {sc : Scope} (hk : sc.kind = .function) {i : Nat} {x y : Str} {e : E} {p pos : Pos} {v : Expr} {X : Cx} {W : WX} (h : chS n N sc (.asg i x e) (.Assign [.Name y p] v pos) = true) (O : XOk c G n k N sc X) (tk : Takes X W) (F : StOk X) : PS X (.Assign [.Name y p] v pos) (lS c (evS G (.asg i x e)) W) := by
  simp only [chS, Bool.and_eq_true, beq_iff_eq, decide_eq_true_eq] at h
  obtain ⟨⟨⟨⟨rfl, h1⟩, h2⟩, h3⟩, h4⟩ := h
  have S := st_store O F h2 h1
  have pe := (okE e sc _ X W h3 O tk).1
  by_cases hv : noComp v = true
  · exact st_asg O.nd S pe (noComp_eq hv)
  · rw [Bool.or_eq_true] at h4
    have h4 := h4.resolve_left hv
    cases v <;> simp only at h4 <;> try (cases h4; done)
    case ListComp elt gens scope lpos _ =>
      cases hb : swB sc scope x p lpos with
      | false => exact st_asg O.nd S pe (by rw [swB_eq O.hsc hk, hb])
      | true =>
        cases e <;> try (simp [chE] at h3; done)
        rename_i eelt tg it cs own
        obtain ⟨t, iter, ifs, rfl, k1, ⟨tup, k2, k3⟩, k4, k5, k6, k7, k8⟩ := (okLc h3 O tk).ex
        have hl : X.env.scope.names.lookup x = some .local := by
          rw [O.hsc]
          unfold swB at hb
          simp only [Bool.and_eq_true, beq_iff_eq] at hb
          exact hb.1.1
        exact st_asgLc (s_setLc O.hK O.calm O.nd S.1 hl (by rw [swB_eq O.hsc hk, hb]) k2 k1 k3 k4 k5 k6 k7 k8)
    case DictComp kx elt gens scope lpos _ =>
      cases hb : swB sc scope x p lpos with
      | false => exact st_asg O.nd S pe (by rw [swB_eqD O.hsc hk, hb])
      | true =>
        cases e <;> try (simp [chE] at h3; done)
        rename_i ekx eelt tg it cs own
        obtain ⟨t, iter, ifs, rfl, k1, ⟨tup, k2, k3⟩, k4, k5, k6, k6', k7, k8⟩ := (okDc h3 O tk).ex
        have hl : X.env.scope.names.lookup x = some .local := by
          rw [O.hsc]
          unfold swB at hb
          simp only [Bool.and_eq_true, beq_iff_eq] at hb
          exact hb.1.1
        exact st_asgLc (s_setDc O.hK O.calm O.nd S.1 hl (by rw [swB_eqD O.hsc hk, hb]) k2 k1 k3 k4 k5 k6 k6' k7 k8)
theorem ok_par {sc : Scope} (hk : sc.kind = .function) {xs : List (Nat × Str)} {es : Es} {us vs : List Expr} {kk k2 : Nat} {p p2 pos : Pos} {X : Cx} {W : WX} (h1 : chNames N sc xs us = true) (h2 : chPar sc xs = true) (h3 : vs.length = xs.length) (h4 : chEs n N sc es vs = true) (h5 : swS sc us vs = some (some (xs.map (·.2)))) (O : XOk c G n k N sc X) (tk : Takes X W) (F : StOk X) :
    PS X (.Assign [.Tuple us kk p] (.Tuple vs k2 p2) pos) (lS c (evS G (.par xs es)) W) := by
  have lk : ∀ {x}, sc.names.lookup x = some .local → X.env.scope.names.lookup x = some .local := fun {x} q => by rw [O.hsc]; exact q
  have A := st_names O F h1
  have pa := okEs es sc _ X W h4 O tk
  have sw := swS_eq (k := kk) (k2 := k2) (p := p) (p2 := p2) O.hsc hk h5
  unfold chPar at h2
  split at h2
  · simp only [Bool.and_eq_true, decide_eq_true_eq] at h2
    obtain ⟨⟨g1, g2⟩, g3⟩ := h2
    cases A with
    | cons a1 A =>
      cases A with
      | cons a2 A =>
        cases A
        rcases vs with _ | ⟨a, _ | ⟨b, _ | _⟩⟩ <;> try (simp at h3; done)
        exact st_par2 O.calm O.nd a1.1 a2.1 g1 (lk g2) (lk g3) pa sw
  · simp only [Bool.and_eq_true, decide_eq_true_eq] at h2
    obtain ⟨⟨⟨⟨⟨g1, g2⟩, g3⟩, g4⟩, g5⟩, g6⟩ := h2
    cases A with
    | cons a1 A =>
      cases A with
      | cons a2 A =>
        cases A with
        | cons a3 A =>
          cases A
          rcases vs with _ | ⟨a, _ | ⟨b, _ | ⟨d, _ | _⟩⟩⟩ <;> try (simp at h3; done)
          exact st_par3 O.calm O.nd a1.1 a2.1 a3.1 g1 g2 g3 (lk g4) (lk g5) (lk g6) pa sw
  · cases h2
theorem ok_raise {sc : Scope} {x : Str} {e : Expr} {pos : Pos} {X : Cx} {W : WX} (h : chRaise n sc x e = true) (O : XOk c G n k N sc X) (tk : Takes X W) : PS X (.Raise (some e) none pos) (lS c (evS G (.raise x)) W) := by
  unfold chRaise at h
  split at h
  · simp only [Bool.and_eq_true, beq_iff_eq] at h
    obtain ⟨⟨rfl, h1⟩, h2⟩ := h
    obtain ⟨g1, g2⟩ := glB_gl O.hsc h1
    obtain ⟨C, e1, e2, e3, e4, e5, e6⟩ := O.exc x (by simpa using h2)
    exact st_raise O.calm tk PySem.F.excBase_ValueError e3 e2 e4 (raises_own e5 e6) g1 g2 e1
  · cases h
mutual
theorem okS (sc : Scope) (hk : sc.kind = .function) : ∀ (s : S) (st : Stmt) (X : Cx) (W : WX), chS n N sc s st = true → XOk c G n k N sc X → Takes X W → StOk X → PS X st (lS c (evS G s) W)
  | .asg i x e, st, X, W, h, O, tk, F => by
    cases st with
    | Assign ts v pos =>
      rcases ts with _ | ⟨t, _ | ⟨_, _⟩⟩ <;> try exact Bool.noConfusion (show false = true from h)
      rotate_left
      · cases t <;> exact Bool.noConfusion (show false = true from h)
      · cases t <;> try exact Bool.noConfusion (show false = true from h)
        exact ok_asg hk h O tk F
    | _ => exact Bool.noConfusion (show false = true from h)
  | .unp xs e, st, X, W, h, O, tk, F => by
    cases st with
    | Assign ts v pos =>
      rcases ts with _ | ⟨t, _ | ⟨_, _⟩⟩ <;> try exact Bool.noConfusion (show false = true from h)
      rotate_left
      · cases t <;> exact Bool.noConfusion (show false = true from h)
      · cases t <;> try exact Bool.noConfusion (show false = true from h)
        simp only [chS, Bool.and_eq_true] at h
        obtain ⟨⟨⟨h1, h2⟩, h3⟩, h4⟩ := h
        refine st_unp O.calm O.hK O.nd (st_names O F h1) (okE e sc _ X W h2 O tk).1 (soleNo h3) ?_
        by_cases hv : notTup v = true
        · exact noSwap hv
        · rw [Bool.or_eq_true] at h4
          have h4 := h4.resolve_left hv
          cases v <;> simp only at h4 <;> try (cases h4; done)
          exact swS_eq O.hsc hk (by simpa using h4)
    | _ => exact Bool.noConfusion (show false = true from h)
  | .par xs es, st, X, W, h, O, tk, F => by
    cases st with
    | Assign ts v pos =>
      rcases ts with _ | ⟨t, _ | ⟨_, _⟩⟩ <;> try exact Bool.noConfusion (show false = true from h)
      rotate_left
      · cases t <;> exact Bool.noConfusion (show false = true from h)
      · cases t <;> try exact Bool.noConfusion (show false = true from h)
        cases v <;> try exact Bool.noConfusion (show false = true from h)
        simp only [chS, Bool.and_eq_true, decide_eq_true_eq] at h
        obtain ⟨⟨⟨⟨h1, h2⟩, h3⟩, h4⟩, h5⟩ := h
        exact ok_par hk h1 h2 h3 h4 h5 O tk F
    | _ => exact Bool.noConfusion (show false = true from h)
  | .sto o i e, st, X, W, h, O, tk, F => by
    cases st with
    | Assign ts v pos =>
      rcases ts with _ | ⟨t, _ | ⟨_, _⟩⟩ <;> try exact Bool.noConfusion (show false = true from h)
      rotate_left
      · cases t <;> exact Bool.noConfusion (show false = true from h)
      · cases t <;> try exact Bool.noConfusion (show false = true from h)
        simp only [chS, Bool.and_eq_true] at h
        obtain ⟨⟨⟨⟨h1, h2⟩, h3⟩, h4⟩, h5⟩ := h
        exact st_sto (by have := O.room.units; omega) (okE o sc _ X W h1 O tk).1 (okE i sc _ X W h2 O tk).1 (okE e sc _ X W h3 O tk).1 h4 (soleNo h5) noSwapSub
    | _ => exact Bool.noConfusion (show false = true from h)
  | .aug i x o e, st, X, W, h, O, tk, F => by
    cases st with
    | AugAssign t op v pos =>
      cases t <;> try exact Bool.noConfusion (show false = true from h)
      simp only [chS, Bool.and_eq_true, beq_iff_eq, decide_eq_true_eq] at h
      obtain ⟨⟨⟨⟨⟨rfl, h1⟩, h2⟩, rfl⟩, h4⟩, h5⟩ := h
      exact st_aug O.hK O.nd (st_store O F h2 h1) h4 (okE e sc _ X W h5 O tk).1
    | _ => exact Bool.noConfusion (show false = true from h)
  | .exp e, st, X, W, h, O, tk, F => by
    cases st with
    | Expr v pos =>
      simp only [chS, Bool.and_eq_true] at h
      exact st_exp (okE e sc _ X W h.1 O tk).1 (noComp_eq h.2)
    | _ => exact Bool.noConfusion (show false = true from h)
  | .ret e, st, X, W, h, O, tk, F => by
    cases st with
    | Return v pos =>
      cases v with
      | none => exact Bool.noConfusion (show false = true from h)
      | some v =>
        simp only [chS] at h
        exact st_ret (okE e sc _ X W h O tk).1
    | _ => exact Bool.noConfusion (show false = true from h)
  | .ret0, st, X, W, h, O, tk, F => by
    cases st with
    | Return v pos =>
      cases v with
      | none => exact st_ret0
      | some v => exact Bool.noConfusion (show false = true from h)
    | _ => exact Bool.noConfusion (show false = true from h)
  | .if_ d a b, st, X, W, h, O, tk, F => by
    cases st with
    | If t x y pos =>
      simp only [chS, Bool.and_eq_true] at h
      exact st_if (okE d sc _ X W h.1.1 O tk).2 (okSs sc hk a x X W h.1.2 O tk F) (okSs sc hk b y X W h.2 O tk F)
    | _ => exact Bool.noConfusion (show false = true from h)
  | .whl d b _, st, X, W, h, O, tk, F => by
    cases st with
    | While t x y pos =>
      cases y with
      | nil =>
        simp only [chS, Bool.and_eq_true] at h
        exact st_whl F.pass (okE d sc _ X W h.1 O tk).2 (okSs sc hk b x X W h.2 O tk F)
      | cons _ _ => exact Bool.noConfusion (show false = true from h)
    | _ => exact Bool.noConfusion (show false = true from h)
  | .for_ tg it b _, st, X, W, h, O, tk, F => by
    cases st with
    | For t iter x y pos =>
      cases y with
      | nil =>
        simp only [chS, Bool.and_eq_true] at h
        obtain ⟨⟨⟨⟨h1, h2⟩, h3⟩, h4⟩, h5⟩ := h
        exact st_for O.hK O.calm O.nd (tup := tupI it) (fun z => tup_tg h1 (tupOk_ex h5 z)) F.pass (okI it sc _ t X W h2 O tk (tupOk_ex h5)) (st_tg O F h1) (okSs sc hk b x X W h3 O tk F) h4
      | cons _ _ => exact Bool.noConfusion (show false = true from h)
    | _ => exact Bool.noConfusion (show false = true from h)
  | .frz _, st, X, W, h, O, tk, F => Bool.noConfusion (show false = true from h)
  | .wipe _, st, X, W, h, O, tk, F => Bool.noConfusion (show false = true from h)
  | .raise x, st, X, W, h, O, tk, F => by
    cases st with
    | Raise e cc pos =>
      cases e <;> cases cc <;> try exact Bool.noConfusion (show false = true from h)
      simp only [chS] at h
      exact ok_raise h O tk
    | _ => exact Bool.noConfusion (show false = true from h)
  | .pass, st, X, W, h, O, tk, F => by
    cases st with
    | Pass pos => exact st_pass
    | _ => exact Bool.noConfusion (show false = true from h)
  | .brk, st, X, W, h, O, tk, F => by
    cases st with
    | Break pos => exact st_brk
    | _ => exact Bool.noConfusion (show false = true from h)
  | .cnt, st, X, W, h, O, tk, F => by
    cases st with
    | Continue pos => exact st_cnt
    | _ => exact Bool.noConfusion (show false = true from h)
theorem okSs (sc : Scope) (hk : sc.kind = .function) : ∀ (s : Ss) (st : List Stmt) (X : Cx) (W : WX), chSs n N sc s st = true → XOk c G n k N sc X → Takes X W → StOk X → PSs X st (lS c (evSs G s) W)
  | .nil, st, X, W, h, O, tk, F => by
    cases st with
    | nil => exact ss_nil
    | cons _ _ => exact Bool.noConfusion (show false = true from h)
  | .cons s ss, st, X, W, h, O, tk, F => by
    unfold chSs at h
    cases g : ghost s with
    | true =>
      rw [g] at h
      have p := okSs sc hk ss st X W h O tk F
      cases s <;> first | (cases g; done) | exact ss_frz p | exact ss_wipe p
    | false =>
      rw [g] at h
      cases st with
      | nil => exact Bool.noConfusion (show false = true from h)
      | cons x xs =>
        have h : (chS n N sc s x && chSs n N sc ss xs) = true := h
        rw [Bool.and_eq_true] at h
        exact ss_cons (okS sc hk s x X W h.1 O tk F) (okSs sc hk ss xs X W h.2 O tk F)
end
end
end Py

namespace Py
open PySem PySem.Spec PyProof.Rows L2
/-! ### a table of defs; calls by levels -/
structure Fd where
  ar : Nat
  n : Nat
  body : Ss
def calN0 (T : Str → Option Fd) (con : Str → Option D) (sub : Str → Str → Bool) : Nat → Cal
  | 0, _, _, _, _, _ => False
  | k + 1, f, ds, A, X, Q => match T f with
    | some d => ds.length = d.ar ∧ runD ⟨calN0 T con sub k, con, sub⟩ d.n d.body ds A X Q
    | none => False
@[irreducible] def calN : (Str → Option Fd) → (Str → Option D) → (Str → Str → Bool) → Nat → Cal := calN0
theorem calN_eq0 : calN = calN0 := by unfold calN; rfl
section
variable {T : Str → Option Fd} {con : Str → Option D} {sub : Str → Str → Bool} {k : Nat} {f : Str} {ds : List D} {A : AH} {X : Dx} {Q : Dk}
theorem calN_zero : calN T con sub 0 f ds A X Q = False := by rw [calN_eq0]; rfl
theorem calN_succ : calN T con sub (k + 1) f ds A X Q = (match T f with
    | some d => ds.length = d.ar ∧ runD ⟨calN T con sub k, con, sub⟩ d.n d.body ds A X Q
    | none => False) := by rw [calN_eq0]; rfl
end
/-- the base of the defs: what holds of every world that stands behind the top -/
structure Base (c : RC) (n : Names) (con : Str → Option D) (P : Program) (w : World) (K : PySem.W.Frag) (mg : Str → Option Value) : Prop where
  hK : K = c.K
  blt : ∀ x ∈ bltAll, mg x = none
  con : ∀ x ∈ n.cons, ∃ d u v, con x = some d ∧ mg x = some u ∧ RelV v u ∧ ∀ H, RelD c.K H d v
  exc : ∀ x ∈ n.excs, ExcOk c K mg x
/-! ### a def's end -/
section
variable {c : RC} {A : AH} {H0 : Hp}
/-- some of the changing things are frozen -/
def FzTo (ps : List Addr) (H0 H : Hp) : Prop := ∀ b, H b = H0 b ∨ (b ∈ ps ∧ ∃ o u, H0 b = some u ∧ Mut (some u) ∧ H b = some (.frz o u))
theorem FzTo.mono {ps : List Addr} {H : Hp} (z : FzTo ps H0 H) : Mono H0 H := fun a o u _ e => by
  rcases z a with q | ⟨_, o', u', q, mu, _⟩
  · rw [q]; exact e
  · rw [e] at q
    cases q
    exact mu.elim
theorem frz_all {all : List Addr} {Q : VK} {v : V} : ∀ (ps : List Addr) (H : Hp), (∀ p ∈ ps, p ∈ all ∧ ∃ u, H0 p = some u ∧ Mut (some u)) → FzTo all H0 H →
    (∀ H', FzTo all H0 H' → (∀ p ∈ ps, ∃ o u, H0 p = some u ∧ H' p = some (.frz o u)) → (∀ b o u, H b = some (.frz o u) → H' b = some (.frz o u)) → FzS Q v H') → FzS Q v H
  | [], H, _, z, k => k H z (fun _ h => nomatch h) fun _ _ _ h => h
  | p :: ps, H, hp, z, k => by
    obtain ⟨pin, u, hu, mu⟩ := hp p List.mem_cons_self
    have go : ∀ H1, FzTo all H0 H1 → (∃ o, H1 p = some (.frz o u)) → (∀ b o u, H b = some (.frz o u) → H1 b = some (.frz o u)) → FzS Q v H1 := fun H1 z1 ⟨o, e1⟩ kp => by
      refine frz_all ps H1 (fun q hq => hp q (List.mem_cons_of_mem _ hq)) z1 fun H' z' a' kp' => k H' z' (fun q hq => ?_) fun b o u h => kp' b o u (kp b o u h)
      rcases List.mem_cons.mp hq with rfl | hq
      · exact ⟨o, u, hu, kp' _ _ _ e1⟩
      · exact a' q hq
    rcases z p with q | ⟨_, o, u', q1, mu', q2⟩
    · refine .step mu (q.trans hu) fun o => ?_
      refine go _ (fun b => ?_) ⟨o, upd_same⟩ fun b o' u' h => ?_
      · by_cases hb : b = p
        · subst hb
          exact .inr ⟨pin, o, u, hu, mu, upd_same⟩
        · rw [upd_ne hb]
          exact z b
      · have hb : b ≠ p := fun w => by
          rw [w, q, hu] at h
          cases h
          exact mu
        rw [upd_ne hb]
        exact h
    · rw [hu] at q1
      cases q1
      exact go H z ⟨o, q2⟩ fun _ _ _ h => h
mutual
theorem Thaw.rel {H : Hp} (ra : RelA c A H0) (m : Mono H0 H) : ∀ {d e : D} {ps : List Addr} {v : V}, Thaw A d e ps → (∀ p ∈ ps, ∃ o u, H0 p = some u ∧ H p = some (.frz o u)) → RelD c.K H0 d v → RelD c.K H e v
  | _, _, _, _, .same d, _, r => RelD.mono m _ _ r
  | _, _, _, _, .lst (p := p) e t, f, r => by
    cases r
    obtain ⟨vs, h, q⟩ := ra _ _ e
    obtain ⟨o, u, h1, h2⟩ := f p List.mem_cons_self
    rw [h] at h1
    cases h1
    exact ⟨p, vs, rfl, .inl ⟨o, h2⟩, Thaws.rel ra m t (fun q hq => f q (List.mem_cons_of_mem _ hq)) q⟩
  | _, _, _, _, .dct (p := p) e t, f, r => by
    cases r
    obtain ⟨ws, h, q⟩ := ra _ _ e
    obtain ⟨o, u, h1, h2⟩ := f p List.mem_cons_self
    rw [h] at h1
    cases h1
    exact ⟨p, ws, rfl, ⟨o, h2⟩, q.keys, Thaws.rel ra m t (fun q hq => f q (List.mem_cons_of_mem _ hq)) q.vals⟩
  | _, _, _, _, .tup t, f, r => by
    obtain ⟨a, vs, e, h, q⟩ := r
    exact ⟨a, vs, e, m.tup h, Thaws.rel ra m t f q⟩
theorem Thaws.rel {H : Hp} (ra : RelA c A H0) (m : Mono H0 H) : ∀ {ds es : List D} {ps : List Addr} {vs : List V}, Thaws A ds es ps → (∀ p ∈ ps, ∃ o u, H0 p = some u ∧ H p = some (.frz o u)) → RelDs c.K H0 ds vs → RelDs c.K H es vs
  | _, _, _, _, .same ds, _, r => RelDs.mono m _ _ r
  | _, _, _, _, .cons t ts, f, ⟨v, r, e, h, q⟩ => ⟨v, r, e, Thaw.rel ra m t (fun p hp => f p (List.mem_append_left _ hp)) h, Thaws.rel ra m ts (fun p hp => f p (List.mem_append_right _ hp)) q⟩
end
mutual
theorem Thaw.mut (ra : RelA c A H0) : ∀ {d e : D} {ps : List Addr}, Thaw A d e ps → ∀ p ∈ ps, ∃ u, H0 p = some u ∧ Mut (some u)
  | _, _, _, .same d, p, hp => nomatch hp
  | _, _, _, .lst e t, p, hp => by
    rcases List.mem_cons.mp hp with rfl | hp
    · obtain ⟨vs, h, q⟩ := ra _ _ e
      exact ⟨.lst vs, h, trivial⟩
    · exact Thaws.mut ra t p hp
  | _, _, _, .dct e t, p, hp => by
    rcases List.mem_cons.mp hp with rfl | hp
    · obtain ⟨ws, h, q⟩ := ra _ _ e
      exact ⟨.dK ws, h, trivial⟩
    · exact Thaws.mut ra t p hp
  | _, _, _, .tup t, p, hp => Thaws.mut ra t p hp
theorem Thaws.mut (ra : RelA c A H0) : ∀ {ds es : List D} {ps : List Addr}, Thaws A ds es ps → ∀ p ∈ ps, ∃ u, H0 p = some u ∧ Mut (some u)
  | _, _, _, .same ds, p, hp => nomatch hp
  | _, _, _, .cons t ts, p, hp => by
    rcases List.mem_append.mp hp with hp | hp
    · exact Thaw.mut ra t p hp
    · exact Thaws.mut ra ts p hp
end
theorem EndOk.fz {d : D} {v : V} {Qd : Dk} {Q : VK} (h : EndOk A d Qd) (ra : RelA c A H0) (r : RelD c.K H0 d v) (k : ∀ d2 A2 H, Qd d2 A2 → Mono H0 H → RelA c A2 H → RelD c.K H d2 v → Q v H) : FzS Q v H0 := by
  rw [EndOk_eq] at h
  obtain ⟨A2, d2, ps, t, sb, hn, q⟩ := h
  refine frz_all (all := ps) ps H0 (fun p hp => ⟨hp, t.mut ra p hp⟩) (fun b => .inl rfl) fun H z f _ => .here (k d2 A2 H q z.mono (fun b o e => ?_) (t.rel ra z.mono f r))
  have e2 := sb b o e
  rcases z b with w | ⟨w, _⟩
  · exact (ra b o e2).keep z.mono w
  · rw [hn b w] at e
    cases e
end
/-- a def of the table stands in the written part -/
structure StandsAt (n : Names) (d : Fd) (K : PySem.W.Frag) (mg : Str → Option Value) (x : Str) (f : Addr) (fd : FuncData) (ps : List Str) : Prop where
  hm : mg x = some (.ref f)
  ex : ∃ (qual : Str) (st : Stmt) (N : List Str), Fun K x qual st f fd ∧ FnScope N ps (defScope st) ∧
    d.ar = ps.length ∧ d.n = N.length ∧ chSs n N (defScope st) d.body (defBody st) = true
def Stands (n : Names) (d : Fd) (K : PySem.W.Frag) (mg : Str → Option Value) (x : Str) : Prop := ∃ (f : Addr) (fd : FuncData) (ps : List Str), StandsAt n d K mg x f fd ps ∧ Binds K fd ps []
/-- the same, called by a keyword, or by a default -/
def StandsF (n : Names) (d : Fd) (K : PySem.W.Frag) (mg : Str → Option Value) (x : Str) (m : Nat) (ks : List Str) (is : List Int) : Prop := ∃ (f : Addr) (fd : FuncData) (ps : List Str) (dv : List Value), StandsAt n d K mg x f fd ps ∧ Form K fd ps m ks dv ∧ Vals (is.map V.int) dv
structure Table (n : Names) (T : Str → Option Fd) (K : PySem.W.Frag) (mg : Str → Option Value) : Prop where
  defs : ∀ x ∈ n.defs, ∃ d, T x = some d ∧ Stands n d K mg x
  kws : ∀ q ∈ n.kws, ∃ d, T q.1 = some d ∧ StandsF n d K mg q.1 q.2.1 [q.2.2] []
  dfl : ∀ q ∈ n.dfl, ∃ d, T q.1 = some d ∧ StandsF n d K mg q.1 q.2.1 [] [q.2.2]
section
variable {c : RC} {P : Program} {w : World} {K : PySem.W.Frag} {mg : Str → Option Value} {base : Heap} {n : Names} {T : Str → Option Fd} {con : Str → Option D} {sub : Str → Str → Bool}
theorem fn_ok (B : Base c n con P w K mg) (hT : Table n T K mg) : ∀ (k : Nat) (x : Str) (d : Fd) (f : Addr) (fd : FuncData) (ps : List Str), T x = some d → StandsAt n d K mg x f fd ps →
    FnG P w K mg base (L2.CX P w) k f fd ps (lSp c (calN T con sub k x))
  | 0, x, d, f, fd, ps, hd, hx => by
    refine ⟨fun vs H Q E h => ?_, fun A outer s H args us vs Q E _ _ _ _ _ h => ?_⟩
    · obtain ⟨_, _, _, _, _, _, z, _⟩ := h
      exact (cast calN_zero z).elim
    · obtain ⟨_, _, _, _, _, _, z, _⟩ := h
      exact (cast calN_zero z).elim
  | k + 1, x, d, f, fd, ps, hd, ⟨_, qual, st, N, F, S, e1, e2, ch⟩ => by
    refine fn_G F S (fun vs H Q E h => ?_) fun cdv A outer s H vs Q E hr hg h => ?_
    · obtain ⟨A, ds, Xd, Qd, ra, rd, z, _⟩ := h
      have z : calN T con sub (k + 1) x ds A Xd Qd := z
      rw [calN_succ] at z
      rw [hd] at z
      rw [rd.length, z.1, e1]
    · obtain ⟨A0, ds, Xd, Qd, ra, rd, z, fq, fw⟩ := h
      have z : calN T con sub (k + 1) x ds A0 Xd Qd := z
      rw [calN_succ] at z
      rw [hd] at z
      obtain ⟨z1, z2⟩ := z
      have O : XOk c ⟨calN T con sub k, con, sub⟩ n k N (defScope st) (cxOf (L2.CX P w) P w K mg base N qual (defScope st) f cdv A outer s H E) :=
        { hK := B.hK, calm := rfl, hN := rfl, nd := S.nd, hsc := rfl, room := hr, gd := hg, blt := B.blt, defs := fun y hy => let ⟨d1, hd1, f1, fd1, ps1, S1, bd⟩ := hT.defs y hy; let ⟨_, _, _, F1, _⟩ := S1.ex; ⟨f1, fd1, ps1, S1.hm, F1.kp, bd, fn_ok B hT k y d1 f1 fd1 ps1 hd1 S1⟩,
          kws := fun y m kn hy => let ⟨d1, hd1, f1, fd1, ps1, dv, S1, bd, hv⟩ := hT.kws (y, m, kn) hy; let ⟨_, _, _, F1, _⟩ := S1.ex; ⟨f1, fd1, ps1, dv, _, S1.hm, F1.kp, bd, hv, fun _ => rfl, fn_ok B hT k y d1 f1 fd1 ps1 hd1 S1⟩,
          dfl := fun y m i hy => let ⟨d1, hd1, f1, fd1, ps1, dv, S1, bd, hv⟩ := hT.dfl (y, m, i) hy; let ⟨_, _, _, F1, _⟩ := S1.ex; ⟨f1, fd1, ps1, dv, _, S1.hm, F1.kp, bd, hv, fun _ => ⟨_, _, rfl, rfl, rfl⟩, fn_ok B hT k y d1 f1 fd1 ps1 hd1 S1⟩, con := fun x d e hx => (by obtain ⟨d', u, v, e', r⟩ := B.con x hx; cases (show con x = some d from e).symm.trans e'; exact ⟨u, v, r⟩), exc := B.exc }
      refine ⟨_, okSs (defScope st) S.kind d.body (defBody st) _ _ ch O (takes_of rfl rfl rfl rfl) ⟨fun _ => rfl, passes_of rfl⟩, ?_⟩
      refine ⟨ds.map some ++ List.replicate (d.n - ds.length) none, A0, _, ?_, ra, z2, ?_⟩
      · have rl := rd.length
        refine ⟨by simp [L2.start, rl, e2], fun i dd q => ?_⟩
        unfold L2.start
        by_cases hi : i < ds.length
        · rw [List.getElem?_append_left (by simpa using hi), List.getElem?_map] at q
          cases q1 : ds[i]? with
          | none => rw [q1] at q; cases q
          | some y =>
            rw [q1] at q
            cases q
            obtain ⟨v, e3, e4⟩ := (by rw [← B.hK] at rd; exact rd : RelDs K H ds vs).get q1
            refine ⟨v, ?_, by rw [← B.hK]; exact e4⟩
            rw [List.getElem?_append_left (by simpa [rl] using hi), List.getElem?_map, e3]
            rfl
        · rw [List.getElem?_append_right (by simpa using hi)] at q
          rw [List.getElem?_replicate] at q
          split at q <;> cases q
      · refine ⟨fun σd A' σ H' q m' ra' rs' => ?_, fun dd A' v H' q m' ra' rv => ?_, fun σd A' σ H' q => q.elim, fun σd A' σ H' q => q.elim, fun σd y A' C σ H' q cl m' ra' rs' => ?_⟩
        · exact EndOk.fz (c := c) q ra' (v := .non) rfl fun d2 A2 H q m2 ra2 r2 => fq d2 A2 .non H q (m'.trans m2) ra2 r2
        · exact EndOk.fz (c := c) q ra' rv fun d2 A2 H q m2 ra2 r2 => fq d2 A2 v H q (m'.trans m2) ra2 r2
        · obtain ⟨A2, sb, q⟩ := q
          exact fw y A2 C H' q cl m' (sb.rel ra')
end
end Py

namespace Py
open PySem PySem.Spec PyProof.Rows L2
/-! ### the law is called from without: no __repr__ is under way -/
/-- the script, as it is tracked: frozen, or not at all where it is an object of the module -/
def scriptH (K : PySem.W.Frag) (a : Addr) (o : Obj) (vs : List V) : Hp := fun b => if b = a ∧ K.lookup a = none then some (.frz o (.lst vs)) else none
section
variable {P : Program} {w : World} {K : PySem.W.Frag} {mg mb : Str → Option Value} {CX : CXT} {k : Nat} {fa a : Addr} {fd : FuncData} {x : Str} {sp : Sp} {s : Shared} {vs : List Value} {ns : List Int}
theorem law_G (KX : K.In s.heap) (g1 : s.heap.Ns mainGlobals mg) (g2 : s.heap.Ns builtinsNs mb) (g3 : ∀ x : Str, x ≠ "__name__" → mb x = bootBuiltins x) (g4 : s.heap.NoLimit) (g5 : s.gens = #[])
    (ha : s.heap.get? a = some { cls := .type "list", data := .seq vs.toArray }) (hi : IntsAre vs ns) (hl : ns.length ≤ sizeLine) (hr : Room k callerA)
    (F : ∀ base : Heap, K.In base → base.Ns mainGlobals mg → FnG P w K mg base CX k fa fd [x] sp) (hb : ∀ (s : Shared) (u : Value), BindsTo s fd ⟨[u], []⟩ [(x, u)])
    (hsp : ∀ H : Hp, FlAt K H a (ns.map V.int) → sp [.ref a] H (fun v _ => v = .bl true) fun _ _ _ => False) (hCX : ∀ H e s', CX [] H s (fun _ _ _ => False) e s' → False) :
    codeAny (model P w) callerA (.call (.ref fa) ⟨[.ref a], []⟩) (fun r s' => r = .ok (.ret (.bool true)) ∧ OldK s.heap s'.heap ∧ s'.os = s.os ∧ AllBare s'.gens) s := by
  have rv := vals_ints hi
  have n1 := hi.length
  let ob : Obj := { cls := .type "list", data := .seq vs.toArray }
  let H := scriptH K a ob (ns.map V.int)
  have at_ : ∀ b u, H b = some u → b = a ∧ K.lookup a = none ∧ u = .frz ob (.lst (ns.map V.int)) := fun b u z => by
    have z : (if b = a ∧ K.lookup a = none then some (HO.frz ob (.lst (ns.map V.int))) else none) = some u := z
    by_cases q : b = a ∧ K.lookup a = none
    · rw [if_pos q] at z
      cases z
      exact ⟨q.1, q.2, rfl⟩
    · rw [if_neg q] at z
      cases z
  have fl : FlAt K H a (ns.map V.int) := by
    cases q : K.lookup a with
    | none => exact .inl ⟨ob, if_pos ⟨rfl, q⟩⟩
    | some o =>
      have e := KX a o q
      rw [ha] at e
      cases e
      exact .inr ⟨_, vs.toArray, _, q, rfl, rfl, rfl, by rw [List.size_toArray, n1]; exact hl, by simpa using rv, rfl⟩
  have ok : HOk P w H s.heap := fun b u z => by
    obtain ⟨rfl, _, rfl⟩ := at_ b u z
    exact ⟨ha, by rw [List.length_map]; exact hl, vs, _, rv, ha⟩
  have none_of : ∀ {b : Addr} {o : Obj}, s.heap.get? b = some o → (b = a → K.lookup a = none → False) → H b = none := fun {b o} e n => by
    cases q : H b with
    | none => rfl
    | some u => obtain ⟨h1, h2, _⟩ := at_ b u q; exact (n h1 h2).elim
  have nsB : ∀ {b : Addr} {m : Str → Option Value}, s.heap.Ns b m → (hidT s.heap H).Ns b m := fun {b m} ⟨o, es, ep, e, d, r⟩ => by
    refine ⟨o, es, ep, hidT_get e (none_of e fun z _ => ?_), d, r⟩
    rw [z, ha] at e
    cases e
    have d' : Data.seq vs.toArray _ = Data.dict es ep := d
    cases d'
  have inB : K.In (hidT s.heap H) := fun b o e => hidT_get (KX b o e) (none_of (KX b o e) fun z q => by rw [z, q] at e; cases e)
  have md : Mod K mg (hidT s.heap H) := ⟨inB, nsB g1, ⟨mb, nsB g2, g3⟩, let ⟨mc, h1, h2⟩ := g4; ⟨mc, nsB h1, h2⟩⟩
  have e0 : Env0 P w K mg (hidT s.heap H) callerA [] s H := ⟨rfl, md, fun b o e => of_hidT e, Nat.le_of_eq (hidT_size _ _), trivial, fun b hb => absurd (show b ∈ ([] : List Addr) from hb) (by simp), ok, .of_eq g5⟩
  apply codeAny_mono ((F _ inB (nsB g1)).run callerA [] s H ⟨[.ref a], []⟩ [.ref a] [.ref a] _ _ hr rfl e0 (hb s (.ref a)) (.cons rfl .nil) (hsp H fl))
  intro r s' h
  cases r with
  | error e => exact (hCX H e s' h).elim
  | ok f =>
    cases f with
    | ret u =>
      obtain ⟨v, H', os, bare, un, ok', r', q⟩ := h
      cases (show v = .bl true from q)
      cases (show u = Value.bool true from r')
      refine ⟨rfl, OldK.of_keep fun b o e => ?_, os, bare⟩
      cases z : H b with
      | none => exact un.keep b o e z (by intro z; exact absurd (show b ∈ ([] : List Addr) from z) (by simp)) (by simp)
      | some t =>
        obtain ⟨h1, h2, rfl⟩ := at_ b t z
        obtain ⟨e1, _⟩ := ok b _ z
        obtain ⟨e2, _⟩ := ok' b _ (un.frzs b ob _ z)
        rw [e] at e1
        cases e1
        exact e2
    | _ => exact h.elim
end
theorem walk_G {l : PySem.W.OpenLaw} {n k : Nat} {q : Program} {loose : List Str} {XP : (Str → Option Value) → Heap → Prop} {YP : World → Heap → Prop} {d : DefRec} {K : Params → PySem.W.Frag} {CX : World → CXT} {sp : World → Sp} {x : Str}
    (hn : l.most = some n) (hn2 : n ≤ sizeLine) (hdf : d.params.defaults = []) (hr : Room k callerA) (hY : ∀ (w : World) (h : Heap), YP w h → (K w.params).In h)
    (F : ∀ (w : World) (mg : Str → Option Value) (fa : Addr) (h : Heap), (K w.params).In h → h.Ns mainGlobals mg → mg d.name = some (.ref fa) →
      ∃ fd : FuncData, (∀ (s : Shared) (u : Value), BindsTo s fd ⟨[u], []⟩ [(x, u)]) ∧ ∀ base : Heap, (K w.params).In base → base.Ns mainGlobals mg → FnG l.prog w (K w.params) mg base (CX w) k fa fd [x] (sp w))
    (hsp : ∀ (w : World) (H : Hp) (a : Addr) (ns : List Int), ns.length ≤ n → (∀ z ∈ ns, Builtin.Int.intBits z ≤ 1048576) → FlAt (K w.params) H a (ns.map V.int) → sp w [.ref a] H (fun v _ => v = .bl true) fun _ _ _ => False)
    (hCX : ∀ (w : World) (H : Hp) (s : Shared) (e : Value) (s' : Shared), CX w [] H s (fun _ _ _ => False) e s' → False) :
    PySem.W.WalkO q loose XP YP l.row.toRowW d [] (fun f vs => PySem.call f vs) :=
  Att.attach_callB hn hdf fun w s₀ s₁ mg mb fa o pm cd doc a vs ns G Y ho hd hcd hmg hobj hints hlen hbits hg =>
    have KX := hY w _ Y
    let ⟨fd, hb, hF⟩ := F w mg fa _ KX G.T.g hmg
    law_G KX G.T.g G.T.b G.T.builtins G.T.nolimit hg hobj hints (Nat.le_trans hlen hn2) hr hF hb (fun H hS => hsp w H a ns hlen hbits hS) fun H e s' => hCX w H s₁ e s'
end Py

namespace Py
open PySem PySem.Spec PyProof.Rows L2
/-- nothing that the script holds is great -/
def Small (ns : List Int) : Prop := ns.length ≤ 63 ∧ ∀ z ∈ ns, Builtin.Int.intBits z ≤ 1048576
abbrev A0 : AH := fun _ => none
/-- what a law says, plain: at every script its def answers True -/
def LawIs (cal : Cal) (law : Str) : Prop := ∀ ns : List Int, Small ns → cal law [.fl (ns.map .int)] A0 noX (fun d _ => d = .bl true)
/-- behind the top: the base, the table's defs, the law's own object -/
def Behind (l : PySem.W.OpenLaw) (n : Names) (con : Str → Option D) (T : Str → Option Fd) (law : Str) (w : World) (K : PySem.W.Frag) (mg : Str → Option Value) (fa : Addr) : Prop :=
  ∃ cl : Str → Option Addr, Base ⟨K, cl⟩ n con l.prog w K mg ∧ Table n T K mg ∧
    ∃ (d : Fd) (fd : FuncData), T law = some d ∧ StandsAt n d K mg law fa fd ["script"] ∧ ∀ (s : Shared) (u : Value), BindsTo s fd ⟨[u], []⟩ [("script", u)]
theorem walk_py {l : PySem.W.OpenLaw} {q : Program} {loose : List Str} {XP : (Str → Option Value) → Heap → Prop} {YP : World → Heap → Prop} {d : DefRec} {K : Params → PySem.W.Frag}
    {n : Names} {con : Str → Option D} {sub : Str → Str → Bool} {T : Str → Option Fd} {law : Str} (k : Nat) (hk : k ≤ 200) (hn : l.most = some 63) (hdf : d.params.defaults = [])
    (hY : ∀ (w : World) (h : Heap), YP w h → (K w.params).In h)
    (F : ∀ (w : World) (mg : Str → Option Value) (fa : Addr) (h : Heap), (K w.params).In h → h.Ns mainGlobals mg → mg d.name = some (.ref fa) → Behind l n con T law w (K w.params) mg fa)
    (spec : LawIs (calN T con sub k) law) :
    PySem.W.WalkO q loose XP YP l.row.toRowW d [] (fun f vs => PySem.call f vs) := by
  refine walk_G (n := 63) (k := k) (x := "script") (K := K) (CX := fun w => L2.CX l.prog w) (sp := fun w => fun vs H Q E => ∀ cl, lSp ⟨K w.params, cl⟩ (calN T con sub k law) vs H Q E) hn (by decide) hdf ?_ hY ?_ ?_ ?_
  · exact ⟨rfl, Nat.lt_of_le_of_lt (Nat.add_le_add_right (Nat.add_le_add_left (Nat.mul_le_mul_left 3 hk) _) 5) (by decide), Nat.lt_of_le_of_lt (Nat.add_le_add_right (Nat.add_le_add_left (Nat.mul_le_mul_left 16 hk) _) 200) (by decide)⟩
  · intro w mg fa h KX G hmg
    obtain ⟨cl, B, hT, d, fd, hd, S, hb⟩ := F w mg fa h KX G hmg
    exact ⟨fd, hb, fun base _ _ => (fn_ok B hT k law d fa fd ["script"] hd S).weaken fun vs H Q E z => z cl⟩
  · intro w H a ns hl hb hS cl
    refine ⟨A0, [.fl (ns.map .int)], noX, fun d _ => d = .bl true, (fun b o z => by cases z), ⟨.ref a, [], rfl, ⟨a, ns.map V.int, rfl, hS, ?_⟩, rfl⟩, spec ns ⟨hl, hb⟩, fun d A' v H' q _ _ r => ?_, fun y A' C H' q => q.elim⟩
    · refine RelDs.mk (by simp) fun i d v e1 e2 => ?_
      rw [List.getElem?_map] at e1 e2
      cases e : ns[i]? with
      | none => rw [e] at e1; cases e1
      | some z => rw [e] at e1 e2; cases e1; cases e2; rfl
    · subst q
      exact r
  · intro w H s e s' h
    obtain ⟨_, _, _, _, _, _, _, _, _, _, _, _, z⟩ := h
    exact z.elim

/-! ### words for what the written part says -/
theorem al_nil {α : Type} {p : α → Prop} : ∀ x ∈ ([] : List α), p x := fun _ h => nomatch h
theorem al_cons {α : Type} {p : α → Prop} {a : α} {l : List α} (h : p a) (t : ∀ x ∈ l, p x) : ∀ x ∈ a :: l, p x := fun x hx => by
  rcases List.mem_cons.mp hx with rfl | hx
  · exact h
  · exact t x hx
section
variable {K : PySem.W.Frag} {h : Heap} {mg : Str → Option Value} {n : Names} {d : Fd} {x : Str} {f : Addr} {st : Stmt} {N ps : List Str}
theorem stands_mk {oc kV dc pm cd ct : Value} {od an : Option Addr} {sl : Array (Option Value)} (X : K.In h) (G : h.Ns mainGlobals mg) (S : FnScope N ps (defScope st))
    (b : ∀ (kV doc pm : Value) (an : Option Addr) (cdv ct : Value) (us : List Value), us.length = ps.length → bindArgs (PySem.W.fnOf x x (defArgs st) (defBody st) (defScope st) .none kV doc pm an cdv ct) ⟨us, []⟩ = pure (ps.zip us))
    (e1 : d.ar = ps.length) (e2 : d.n = N.length) (ch : chSs n N (defScope st) d.body (defBody st) = true)
    (a : PySem.W.nsIn K mainGlobals x = some (some (.ref f))) (l : K.lookup f = some ⟨oc, od, .func (PySem.W.fnOf x x (defArgs st) (defBody st) (defScope st) .none kV dc pm an cd ct), sl⟩)
    (c : PySem.W.codeIn K cd x = true) (k : PySem.W.keepIn K (.ref f) = true) :
    ∃ fd : FuncData, StandsAt n d K mg x f fd ps ∧ Binds K fd ps [] ∧ ∀ (s : Shared) (us : List Value), us.length = ps.length → BindsTo s fd ⟨us, []⟩ (ps.zip us) := by
  have F := fun_mk (st := st) l c k
  exact ⟨_, ⟨PySem.W.mg_of X G a, x, st, N, F, S, e1, e2, ch⟩, F.binds b, fun s us hu => .of_eq (b _ _ _ _ _ _ us hu)⟩
def clOf (mg : Str → Option Value) (x : Str) : Option Addr := match mg x with
  | some (.ref C) => some C
  | _ => none
theorem exc_mk (X : K.In h) (G : h.Ns mainGlobals mg) (a : PySem.W.nsIn K mainGlobals x = some (some (.ref f))) (q : PySem.W.excIn K f [.type "ValueError", .type "Exception", .type "BaseException", .type "object"] "ValueError.__new__" = true)
    (k : PySem.W.keepIn K (.ref f) = true) (s : PySem.W.subIn K (.ref f) (.type "BaseException") = some true) (t : PySem.W.typeIn K (.ref f) = some (.type "type")) : ExcOk ⟨K, clOf mg⟩ K mg x :=
  ⟨f, by show clOf mg x = _; unfold clOf; rw [PySem.W.mg_of X G a], PySem.W.mg_of X G a, q, k, s, t⟩
theorem con_int {i : Int} {t : Nat} {con : Str → Option D} (X : K.In h) (G : h.Ns mainGlobals mg) (e : con x = some (.int i)) (a : PySem.W.nsIn K mainGlobals x = some (some (.int i t))) : ∃ d u v, con x = some d ∧ mg x = some u ∧ RelV v u ∧ ∀ H, RelD K H d v :=
  ⟨_, _, .int i, e, PySem.W.mg_of X G a, ⟨t, rfl⟩, fun _ => rfl⟩
theorem stands_kw {q : Str} {D : Addr} {m : Nat} {i : Int} {tk : Nat} {oc dc pm cd ct : Value} {od an : Option Addr} {sl : Array (Option Value)} (X : K.In h) (G : h.Ns mainGlobals mg) (S : FnScope N ps (defScope st))
    (b1 : ∀ (doc pm : Value) (an : Option Addr) (cdv ct : Value) (us : List Value) (w : Value), us.length = m → bindArgs (PySem.W.fnOf x x (defArgs st) (defBody st) (defScope st) .none (.ref D) doc pm an cdv ct) ⟨us, [(q, w)]⟩ = pure (ps.zip (us ++ [w])))
    (b2 : ∀ (doc pm : Value) (an : Option Addr) (cdv ct : Value) (us : List Value) (w : Value), us.length = m → KwChain D [(q, w)] (bindArgs (PySem.W.fnOf x x (defArgs st) (defBody st) (defScope st) .none (.ref D) doc pm an cdv ct) ⟨us, []⟩) (ps.zip (us ++ [w])))
    (hl : m + 1 = ps.length) (e1 : d.ar = ps.length) (e2 : d.n = N.length) (ch : chSs n N (defScope st) d.body (defBody st) = true)
    (a : PySem.W.nsIn K mainGlobals x = some (some (.ref f))) (l : K.lookup f = some ⟨oc, od, .func (PySem.W.fnOf x x (defArgs st) (defBody st) (defScope st) .none (.ref D) dc pm an cd ct), sl⟩)
    (c : PySem.W.codeIn K cd x = true) (k : PySem.W.keepIn K (.ref f) = true) (g : PySem.W.nsIn K D q = some (some (.int i tk))) :
    StandsF n d K mg x m [q] [] ∧ StandsF n d K mg x m [] [i] := by
  have F := fun_mk (st := st) l c k
  have A : StandsAt n d K mg x f _ ps := ⟨PySem.W.mg_of X G a, x, st, N, F, S, e1, e2, ch⟩
  refine ⟨⟨f, _, ps, [], A, ⟨fun s us ws X2 n1 n2 => ?_, by simpa using hl⟩, .nil⟩, ⟨f, _, ps, [.int i tk], A, ⟨fun s us ws X2 n1 n2 => ?_, by simpa using hl⟩, .cons ⟨tk, rfl⟩ .nil⟩⟩
  · match ws, n2 with
    | [w], _ => exact .of_eq (by rw [List.append_nil]; exact b1 _ _ _ _ _ us w n1)
  · match ws, n2 with
    | [], _ =>
      rw [List.append_nil]
      refine BindsTo.of_looks fun M => KwChain.looks X2 (l := [(q, .int i tk)]) (fun p hp => ?_) (b2 _ _ _ _ _ us (.int i tk) n1)
      cases List.mem_singleton.mp hp
      exact g
theorem con_strs {l : List Str} {T : Addr} {its : Array Value} {m : Nat} {con : Str → Option D} (X : K.In h) (G : h.Ns mainGlobals mg) (e : con x = some (.tup (l.map .str))) (a : PySem.W.nsIn K mainGlobals x = some (some (.ref T)))
    (lk : K.lookup T = some ⟨.type "tuple", none, .seq its m, #[]⟩) (hs : its.size ≤ sizeLine) (hv : Vals (l.map V.str) its.toList) : ∃ d u v, con x = some d ∧ mg x = some u ∧ RelV v u ∧ ∀ H, RelD K H d v := by
  refine ⟨_, _, .ref T, e, PySem.W.mg_of X G a, rfl, fun H => ⟨T, l.map V.str, rfl, .inr ⟨_, its, m, lk, rfl, ⟨rfl, rfl⟩, rfl, hs, hv⟩, ?_⟩⟩
  have go : ∀ l : List Str, RelDs K H (l.map .str) (l.map V.str) := fun l => by
    induction l with
    | nil => rfl
    | cons s l ih => exact ⟨_, _, rfl, rfl, ih⟩
  exact go l
end
end Py

namespace Py
open PySem PySem.Spec PyProof.Rows L2
/-- a table of defs and constants -/
structure Tb where
  T : Str → Option Fd
  C : Str → Option D
abbrev tp (x : Str) (d : Fd) : Str × Fd := (x, d)
abbrev cp (x : Str) (d : D) : Str × D := (x, d)
def noSub : Str → Str → Bool := fun _ _ => false
abbrev cal (t : Tb) (k : Nat) : Cal := calN t.T t.C noSub k
theorem put_same {A : AH} {a : Addr} {o : AO} : put A a o a = some o := by unfold put; simp
theorem put_ne {A : AH} {a b : Addr} {o : AO} (h : b ≠ a) : put A a o b = A b := by unfold put; simp [h]
theorem put_old {A : AH} {p a : Addr} {o o' : AO} (hp : A p = none) (ha : A a = some o) : put A p o' a = some o := by
  rw [put_ne (fun e => by rw [e, hp] at ha; cases ha)]
  exact ha
theorem put_ne1 {A : AH} {p a : Addr} {o' : AO} {v : Option AO} (hn : a ≠ p) (ha : A a = v) : put A p o' a = v := by rw [put_ne hn]; exact ha
theorem put_ne2 {A : AH} {p a : Addr} {o' : AO} {v : Option AO} (hn : p ≠ a) (ha : A a = v) : put A p o' a = v := by rw [put_ne (Ne.symm hn)]; exact ha
theorem put_none {A : AH} {p a : Addr} {o : AO} (hp : A p = none) (h : put A a o p = none → False) : p = a := by
  apply Classical.byContradiction
  intro e
  exact h (by rw [put_ne e]; exact hp)
theorem put_put {A : AH} {a : Addr} {o o' : AO} : put (put A a o) a o' = put A a o' := by
  funext b
  unfold put
  by_cases h : b = a
  · simp [h]
  · simp [h]
theorem put_id {A : AH} {a : Addr} {o : AO} (h : A a = some o) : put A a o = A := by
  funext b
  unfold put
  by_cases e : b = a
  · simp [e, h]
  · simp [e]
theorem put_comm {A : AH} {a b : Addr} {o u : AO} (h : a ≠ b) : put (put A a o) b u = put (put A b u) a o := by
  funext x
  unfold put
  by_cases h1 : x = a
  · by_cases h2 : x = b
    · exact absurd (h1.symm.trans h2) h
    · simp [h1, h]
  · simp [h1]
theorem rem_put {A : AH} {p : Addr} {o : AO} (h : A p = none) : rem (put A p o) p = A := by
  funext b
  unfold rem put
  by_cases e : b = p
  · simp [e, h]
  · simp [e]
theorem ne_of_at {A : AH} {a p : Addr} {o : AO} (h : A a = some o) (hp : A p = none) : a ≠ p := fun e => by rw [e, hp] at h; cases h
theorem outL.fz {L : Addr} {A : AH} {ds : List D} {Q : Dk} (h : A L = some (.lst ds)) (q : Q (.fl ds) (rem A L)) : outL L A Q := by rw [outL_eq]; exact .inr ⟨ds, h, q⟩
theorem outL.keep {L : Addr} {A : AH} {Q : Dk} (q : Q (.ref L) A) : outL L A Q := by rw [outL_eq]; exact .inl q
theorem outD.fz {L : Addr} {A : AH} {kvs : List (Key × D)} {Q : Dk} (h : A L = some (.dct kvs)) (q : Q (.fd (kvs.map (·.1)) (kvs.map (·.2))) (rem A L)) : outD L A Q := by rw [outD_eq]; exact .inr ⟨kvs, h, q⟩
theorem outD.keep {L : Addr} {A : AH} {Q : Dk} (q : Q (.ref L) A) : outD L A Q := by rw [outD_eq]; exact .inl q
theorem Sub.refl {A : AH} : Sub A A := fun _ _ h => h
theorem Sub.trans {A B C : AH} (h : Sub A B) (k : Sub B C) : Sub A C := fun a o e => k a o (h a o e)
theorem Sub.fresh {A : AH} {p : Addr} {o : AO} (h : A p = none) : Sub A (put A p o) := fun a o' e => put_old h e
/-! a def's end -/
theorem EndOk.of {A A' : AH} {d : D} {Q : Dk} (h : Sub A A') (q : Q d A) : EndOk A' d Q := by rw [EndOk_eq]; exact ⟨A, d, [], .same d, h, (by simp), q⟩
theorem EndOk.id {A : AH} {d : D} {Q : Dk} (q : Q d A) : EndOk A d Q := .of .refl q
/-- a list comes out, no more changed -/
theorem EndOk.lst {A A' : AH} {p : Addr} {ds : List D} {Q : Dk} (h : A' p = some (.lst ds)) (hs : Sub A A') (hn : A p = none) (q : Q (.fl ds) A) : EndOk A' (.ref p) Q := by
  rw [EndOk_eq]
  exact ⟨A, .fl ds, [p], .lst h (.same ds), hs, fun x hx => by cases List.mem_singleton.mp hx; exact hn, q⟩
theorem EndOk.dct {A A' : AH} {p : Addr} {kvs : List (Key × D)} {Q : Dk} (h : A' p = some (.dct kvs)) (hs : Sub A A') (hn : A p = none) (q : Q (.fd (kvs.map (·.1)) (kvs.map (·.2))) A) : EndOk A' (.ref p) Q := by
  rw [EndOk_eq]
  exact ⟨A, _, [p], .dct h (.same _), hs, fun x hx => by cases List.mem_singleton.mp hx; exact hn, q⟩
/-! ### what the head waits for -/
theorem rd_of {A : AH} {a : Addr} {o : AO} (h : A a = some o) : rd A a = some o := h
theorem seqD_lst {A : AH} {a : Addr} {ds : List D} (h : A a = some (.lst ds)) : seqD A (.ref a) = some ds := by simp only [seqD, getL, h]
theorem lstD_lst {A : AH} {a : Addr} {ds : List D} (h : A a = some (.lst ds)) : lstD A (.ref a) = some ds := by simp only [lstD, getL, h]
theorem mapD_lst {A : AH} {a : Addr} {ds : List D} (h : A a = some (.lst ds)) : mapD A (.ref a) = none := by simp only [mapD, h]
theorem mapD_dct {A : AH} {a : Addr} {kvs : List (Key × D)} (h : A a = some (.dct kvs)) : mapD A (.ref a) = some kvs := by simp only [mapD, h]
theorem zip_unzip {α β : Type} : ∀ l : List (α × β), (l.map (·.1)).zip (l.map (·.2)) = l
  | [] => rfl
  | p :: l => by simp [zip_unzip l]
/-- a dict that stands still, by its pairs -/
abbrev fdD (kvs : List (Key × D)) : D := .fd (kvs.map (·.1)) (kvs.map (·.2))
theorem mapD_fdD {A : AH} {kvs : List (Key × D)} : mapD A (fdD kvs) = some kvs := by simp only [mapD, fdD, zip_unzip]
theorem mapD_fd {A : AH} {kvs : List (Key × D)} : mapD A (.fd (kvs.map (·.1)) (kvs.map (·.2))) = some kvs := mapD_fdD
theorem getL_lst {A : AH} {a : Addr} {ds : List D} (h : A a = some (.lst ds)) : getL A a = some ds := by simp only [getL, h]
theorem recv_lst {A : AH} {a : Addr} {ds : List D} (h : A a = some (.lst ds)) : recv A (.ref a) = some .list := by simp only [recv, h]
theorem recv_dct {A : AH} {a : Addr} {ds : List (Key × D)} (h : A a = some (.dct ds)) : recv A (.ref a) = some .dict := by simp only [recv, h]
theorem truD_lst {A : AH} {a : Addr} {ds : List D} (h : A a = some (.lst ds)) : truD A (.ref a) = some (!ds.isEmpty) := by simp only [truD, h]
theorem intsD_map : ∀ (ns : List Int), intsD (ns.map D.int) = some ns
  | [] => rfl
  | n :: ns => by rw [List.map_cons, intsD, intsD_map ns]; rfl
theorem boolsD_map {α : Type} (f : α → Bool) : ∀ (ns : List α), boolsD (ns.map fun x => D.bl (f x)) = some (ns.map f)
  | [] => rfl
  | n :: ns => by rw [List.map_cons, boolsD, boolsD_map f ns]; rfl
theorem intsD_mapf {α : Type} (f : α → Int) (ns : List α) : intsD (ns.map fun x => D.int (f x)) = some (ns.map f) := by
  have := intsD_map (ns.map f)
  rwa [List.map_map] at this
theorem calN_eq {t : Tb} {k : Nat} {f : Str} {d : Fd} {ds : List D} {A : AH} {X : Dx} {Q : Dk} (h : t.T f = some d) (hl : ds.length = d.ar)
    (hr : runD ⟨cal t k, t.C, noSub⟩ d.n d.body ds A X Q) : cal t (k + 1) f ds A X Q := by
  show calN t.T t.C noSub (k + 1) f ds A X Q
  rw [calN_succ, h]
  exact ⟨hl, hr⟩
theorem log2_of {n k : Nat} (h : n < 2 ^ k) (hk : 0 < k) : n.log2 < k := by
  by_cases h0 : n = 0
  · subst h0
    simpa using hk
  · exact (Nat.log2_lt h0).mpr h
theorem cmulw {i j : Int} (a b : Nat) (h1 : i.natAbs < 2 ^ a) (h2 : j.natAbs < 2 ^ b) (ha : 0 < a) (hb : 0 < b) (h : a + b ≤ 1000000) : CMulW i j := by
  have e1 := log2_of h1 ha
  have e2 := log2_of h2 hb
  show i.natAbs.log2 + j.natAbs.log2 < 1000000
  omega
theorem cpoww {i j : Int} (a : Nat) (h1 : i.natAbs < 2 ^ a) (ha : 0 < a) (h : a ≤ 10000) (h2 : 0 ≤ j) (h3 : j ≤ 1000) : CPowW i j := ⟨h2, h3, Nat.lt_of_lt_of_le (log2_of h1 ha) h⟩
theorem cdivw {i j : Int} (a : Nat) (h0 : 0 < j) (h1 : j.natAbs < 2 ^ a) (ha : 0 < a) (h : a ≤ 9000) : CDivW i j := ⟨h0, Nat.lt_of_lt_of_le (log2_of h1 ha) h⟩
/-! ### loops -/
theorem holds_nil {A : AH} : holds [] A := fun _ h => nomatch h
theorem holds_one {A : AH} {a : Addr} {o : AO} (h : A a = some o) : holds [(a, o)] A := fun p hp => by
  cases List.mem_singleton.mp hp
  exact h
/-- by an invariant over the turn's number -/
theorem for_inv {G : Gd} {tg : Tg} {ws : List Nat} {tb : DEnds → DSt → AH → Prop} {Z : DEnds} (I : Nat → DSt → AH → Prop) : ∀ {ds : List D} {σ : DSt} {A : AH}, I 0 (wipN σ ws) A → (∀ j σ A, j ≤ ds.length → I j σ A → holds G A) →
    (∀ j d σ A nx, ds[j]? = some d → I j σ A → (∀ σ' A', I (j + 1) (wipN σ' ws) A' → nx σ' A') → bindT tg d σ fun σ' => tb (Z.loop nx) σ' A) → (∀ σ A, I ds.length σ A → Z.nx σ A) → forR G tg ws tb Z ds σ A
  | [], σ, A, h0, hG, _, hE => by rw [forR_nil]; exact ⟨hG 0 _ A (Nat.zero_le _) h0, hE _ A h0⟩
  | d :: ds, σ, A, h0, hG, hS, hE => by rw [forR_cons]; exact ⟨hG 0 _ A (Nat.zero_le _) h0, hS 0 d _ A _ rfl h0 fun σ' A' h1 =>
      for_inv (fun j => I (j + 1)) h1 (fun j σ A hj => hG (j + 1) σ A (by simpa using hj)) (fun j d σ A nx e h k => hS (j + 1) d σ A nx (by simpa using e) h k) hE⟩
/-- by a state of one's own, item by item; the source is a list of something -/
theorem for_st {α β : Type} {G : Gd} {tg : Tg} {ws : List Nat} {tb : DEnds → DSt → AH → Prop} {Z : DEnds} (e : α → D) (I : β → List α → DSt → AH → Prop) (f : β → α → β) : ∀ (xs : List α) {b : β} {σ : DSt} {A : AH}, I b xs (wipN σ ws) A → (∀ b r σ A, I b r σ A → holds G A) →
    (∀ b x r σ A nx, x ∈ xs → I b (x :: r) σ A → (∀ σ' A', I (f b x) r (wipN σ' ws) A' → nx σ' A') → bindT tg (e x) σ fun σ' => tb (Z.loop nx) σ' A) → (∀ σ A, I (xs.foldl f b) [] σ A → Z.nx σ A) → forR G tg ws tb Z (xs.map e) σ A
  | [], b, σ, A, h0, hG, _, hE => by rw [List.map_nil, forR_nil]; exact ⟨hG _ _ _ A h0, hE _ A h0⟩
  | x :: xs, b, σ, A, h0, hG, hS, hE => by
    rw [List.map_cons, forR_cons]
    exact ⟨hG _ _ _ A h0, hS _ _ _ _ _ _ List.mem_cons_self h0 fun σ' A' h1 => for_st e I f xs h1 hG (fun b x r σ A nx hx => hS b x r σ A nx (List.mem_cons_of_mem _ hx)) hE⟩
/-- the state is told by b alone, the heap stays -/
theorem for_fold {α β : Type} {tg : Tg} {ws : List Nat} {tb : DEnds → DSt → AH → Prop} {Z : DEnds} (e : α → D) (st : β → DSt) (f : β → α → β) : ∀ (xs : List α) {b : β} {σ : DSt} {A : AH}, wipN σ ws = st b →
    (∀ b x (nx : DSt → AH → Prop), x ∈ xs → (∀ σ', wipN σ' ws = st (f b x) → nx σ' A) → bindT tg (e x) (st b) fun σ' => tb (Z.loop nx) σ' A) → Z.nx (st (xs.foldl f b)) A → forR [] tg ws tb Z (xs.map e) σ A
  | [], b, σ, A, h0, _, hE => by rw [List.map_nil, forR_nil, h0]; exact ⟨holds_nil, hE⟩
  | x :: xs, b, σ, A, h0, hS, hE => by
    rw [List.map_cons, forR_cons, h0]
    exact ⟨holds_nil, hS _ _ _ List.mem_cons_self fun σ' h1 => for_fold e st f xs h1 (fun b x nx hx => hS b x nx (List.mem_cons_of_mem _ hx)) hE⟩
theorem rng_eq {lo : Int} {n : Nat} : rngD lo n = (List.range n).map fun k : Nat => D.int (lo + (k : Nat)) := rfl
theorem rngD_len {lo : Int} {n : Nat} : (rngD lo n).length = n := by simp [rngD]
/-- over a range -/
theorem for_rng {tg : Tg} {ws : List Nat} {tb : DEnds → DSt → AH → Prop} {Z : DEnds} {lo : Int} {n : Nat} {σ : DSt} {A : AH} (I : Nat → DSt → AH → Prop) (h0 : I 0 (wipN σ ws) A)
    (step : ∀ j σ A nx, j < n → I j σ A → (∀ σ' A', I (j + 1) (wipN σ' ws) A' → nx σ' A') → bindT tg (.int (lo + (j : Nat))) σ fun σ' => tb (Z.loop nx) σ' A) (hE : ∀ σ A, I n σ A → Z.nx σ A) : forR [] tg ws tb Z (rngD lo n) σ A :=
  for_inv I h0 (fun _ _ _ _ _ => holds_nil) (fun j d σ A nx e h k => by
    obtain ⟨hj, rfl⟩ := rng_get e
    exact step j σ A nx hj h k) (by rw [rngD_len]; exact hE)
/-- a while by a measure -/
theorem whl_by {c : DSt → AH → Dx → (Bool → AH → Prop) → Prop} {ws : List Nat} {tb : DEnds → DSt → AH → Prop} {Z : DEnds} (I : Nat → DSt → AH → Prop)
    (step : ∀ m σ A (nx : DSt → AH → Prop), I m σ A → (∀ m' σ' A', m = m' + 1 → I m' (wipN σ' ws) A' → nx σ' A') → c σ A (Z.ex σ) fun b A1 => match b with
      | true => tb (Z.loop nx) σ A1
      | false => Z.nx σ A1) : ∀ (m : Nat) {σ : DSt} {A : AH}, I m (wipN σ ws) A → ∃ n, whlR c ws tb Z n σ A := by
  have go : ∀ (m : Nat) {σ : DSt} {A : AH}, I m (wipN σ ws) A → whlR c ws tb Z (m + 1) σ A := fun m => by
    induction m with
    | zero => intro σ A h; rw [whlR_succ]; exact step 0 _ A _ h fun m' _ _ e _ => by omega
    | succ m ih => intro σ A h; rw [whlR_succ]; exact step (m + 1) _ A _ h fun m' σ' A' e h' => by cases e; exact ih h'
  exact fun m σ A h => ⟨m + 1, go m h⟩
/-! ### comprehensions -/
/-- tests and elements that only read; the list comes out frozen -/
theorem lc_map {α : Type} {G : Gd} {tg : Tg} {tt : DSt → AH → (Bool → AH → Prop) → Prop} {te : DSt → AH → Dk → Prop} {σ : DSt} {L : Addr} {A : AH} {Q : Dk} (e : α → D) (p : α → Bool) (g : α → D) (hL : A L = none) (xs : List α) (hz : xs.length ≤ sizeLine) (hG : ∀ acc, holds G (put A L (.lst acc)))
    (hS : ∀ x ∈ xs, ∃ σ', (∀ k : DSt → Prop, k σ' → bindT tg (e x) σ k) ∧ (∀ A' R, R (p x) A' → Sub A A' → tt σ' A' R) ∧ (p x = true → ∀ A' R, R (g x) A' → Sub A A' → te σ' A' R))
    (hQ : Q (.fl ((xs.filter p).map g)) A) : lcR G tg tt te σ L (fun A2 => outL L A2 Q) (xs.map e) (put A L (.lst [])) := by
  have go : ∀ (ys : List α) (acc : List D), acc.length + ys.length ≤ sizeLine → (∀ y ∈ ys, y ∈ xs) → (outL L (put A L (.lst (acc ++ (ys.filter p).map g))) Q) → lcR G tg tt te σ L (fun A2 => outL L A2 Q) (ys.map e) (put A L (.lst acc)) := fun ys => by
    induction ys with
    | nil => intro acc _ _ h; rw [List.map_nil, lcR_nil]; exact ⟨hG acc, by simpa using h⟩
    | cons y ys ih =>
      intro acc hl hy h
      obtain ⟨σ', h1, h2, h3⟩ := hS y (hy y List.mem_cons_self)
      have hl' : acc.length + (ys.length + 1) ≤ sizeLine := by simpa using hl
      rw [List.map_cons, lcR_cons]
      refine ⟨hG acc, h1 _ (h2 _ _ ?_ (Sub.fresh hL))⟩
      cases ep : p y with
      | true =>
        refine h3 ep _ _ ?_ (Sub.fresh hL)
        rw [rd_of put_same]
        refine ⟨by omega, ?_⟩
        rw [put_put]
        refine ih _ (by simp; omega) (fun z hz => hy z (List.mem_cons_of_mem _ hz)) ?_
        simpa [ep] using h
      | false =>
        refine ih _ (by omega) (fun z hz => hy z (List.mem_cons_of_mem _ hz)) ?_
        simpa [ep] using h
  refine go xs [] (by simpa using hz) (fun _ h => h) ?_
  refine outL.fz put_same ?_
  rw [rem_put hL]
  simpa using hQ
/-- by an invariant over what has come and the heap -/
theorem lc_inv {α : Type} {G : Gd} {tg : Tg} {tt : DSt → AH → (Bool → AH → Prop) → Prop} {te : DSt → AH → Dk → Prop} {σ : DSt} {L : Addr} {Q : AH → Prop} (e : α → D) (I : List α → List D → AH → Prop) : ∀ (xs : List α) (acc : List D) {A : AH}, I xs acc A → (∀ r acc A, I r acc A → holds G A) →
    (∀ x r acc A (nx : AH → Prop), x ∈ xs → I (x :: r) acc A → (∀ acc' A', I r acc' A' → nx A') → bindT tg (e x) σ fun σ' => tt σ' A fun b A1 => match b with
      | true => te σ' A1 fun y A2 => match rd A2 L with
        | some (.lst acc) => acc.length < sizeLine ∧ nx (put A2 L (.lst (acc ++ [y])))
        | _ => False
      | false => nx A1) →
    (∀ acc A, I [] acc A → Q A) → lcR G tg tt te σ L Q (xs.map e) A
  | [], acc, A, h0, hG, _, hE => by rw [List.map_nil, lcR_nil]; exact ⟨hG _ _ _ h0, hE _ _ h0⟩
  | x :: xs, acc, A, h0, hG, hS, hE => by
    rw [List.map_cons, lcR_cons]
    exact ⟨hG _ _ _ h0, hS x xs acc A _ List.mem_cons_self h0 fun acc' A' h => lc_inv e I xs acc' h hG (fun y r acc A nx hy => hS y r acc A nx (List.mem_cons_of_mem _ hy)) hE⟩
/-- a dict comprehension that only reads; it comes out frozen -/
theorem dc_map {α : Type} {G : Gd} {tg : Tg} {tt : DSt → AH → (Bool → AH → Prop) → Prop} {tk te : DSt → AH → Dk → Prop} {σ : DSt} {L : Addr} {A : AH} {Q : Dk} (e : α → D) (p : α → Bool) (gk : α → Key) (g : α → D) (hL : A L = none) (xs : List α) (hz : xs.length ≤ sizeLine) (hG : ∀ acc, holds G (put A L (.dct acc)))
    (hS : ∀ x ∈ xs, ∃ σ', (∀ k : DSt → Prop, k σ' → bindT tg (e x) σ k) ∧ (∀ A' R, R (p x) A' → Sub A A' → tt σ' A' R) ∧ (p x = true → ∀ A' R, R (keyD (gk x)) A' → Sub A A' → tk σ' A' R) ∧ (p x = true → ∀ A' R, R (g x) A' → Sub A A' → te σ' A' R))
    (hQ : outD L (put A L (.dct (mergK [] ((xs.filter p).map fun x => (gk x, g x))))) Q) : dcR G tg tt tk te σ L (fun A2 => outD L A2 Q) (xs.map e) (put A L (.dct [])) := by
  have hset : ∀ (acc : List (Key × D)) k d, (setK acc k d).length ≤ acc.length + 1 := fun acc k d => by
    unfold setK
    split
    · simp
    · simp
  have hdk : ∀ k : Key, dkey (keyD k) = some k := fun k => by cases k <;> rfl
  have go : ∀ (ys : List α) (acc : List (Key × D)), acc.length + ys.length ≤ sizeLine → (∀ y ∈ ys, y ∈ xs) → (outD L (put A L (.dct (mergK acc ((ys.filter p).map fun x => (gk x, g x))))) Q) → dcR G tg tt tk te σ L (fun A2 => outD L A2 Q) (ys.map e) (put A L (.dct acc)) := fun ys => by
    induction ys with
    | nil => intro acc _ _ h; rw [List.map_nil, dcR_nil]; exact ⟨hG acc, by simpa [mergK] using h⟩
    | cons y ys ih =>
      intro acc hl hy h
      obtain ⟨σ', h1, h2, h3, h4⟩ := hS y (hy y List.mem_cons_self)
      have hl' : acc.length + (ys.length + 1) ≤ sizeLine := by simpa using hl
      rw [List.map_cons, dcR_cons]
      refine ⟨hG acc, h1 _ (h2 _ _ ?_ (Sub.fresh hL))⟩
      cases ep : p y with
      | true =>
        refine h3 ep _ _ (h4 ep _ _ ?_ (Sub.fresh hL)) (Sub.fresh hL)
        rw [rd_of put_same, hdk]
        refine ⟨by omega, ?_⟩
        rw [put_put]
        refine ih _ (by have := hset acc (gk y) (g y); omega) (fun z hz => hy z (List.mem_cons_of_mem _ hz)) ?_
        simpa [ep, mergK] using h
      | false =>
        refine ih _ (by omega) (fun z hz => hy z (List.mem_cons_of_mem _ hz)) ?_
        simpa [ep] using h
  exact go xs [] (by simpa using hz) (fun _ h => h) hQ
/-! ### dicts by pairs -/
theorem lookK_cons {p : Key × D} {l : List (Key × D)} {k : Key} : lookK (p :: l) k = if p.1 = k then some p.2 else lookK l k := by
  unfold lookK
  by_cases h : p.1 = k <;> simp [h]
theorem setK_new : ∀ {l : List (Key × D)} {k : Key} {d : D}, k ∉ l.map (·.1) → setK l k d = l ++ [(k, d)] := fun {l k d} h => by
  unfold setK
  rw [if_neg]
  intro q
  obtain ⟨p, hp, e⟩ := List.any_eq_true.mp q
  exact h (List.mem_map.mpr ⟨p, hp, by simpa using e⟩)
theorem setK_at {l1 l2 : List (Key × D)} {k : Key} {d d' : D} (h1 : k ∉ l1.map (·.1)) (h2 : k ∉ l2.map (·.1)) : setK (l1 ++ (k, d) :: l2) k d' = l1 ++ (k, d') :: l2 := by
  unfold setK
  rw [if_pos (by simp)]
  have same : ∀ l : List (Key × D), k ∉ l.map (·.1) → (l.map fun p => if p.1 = k then (p.1, d') else p) = l := fun l h => by
    induction l with
    | nil => rfl
    | cons p l ih =>
      have h3 : p.1 ≠ k := fun e => h (by simp [e])
      rw [List.map_cons, if_neg h3, ih fun z => h (by simp at z ⊢; exact .inr z)]
  rw [List.map_append, List.map_cons, same l1 h1, same l2 h2]
  simp
theorem mergK_new : ∀ (more acc : List (Key × D)), (acc.map (·.1) ++ more.map (·.1)).Nodup → mergK acc more = acc ++ more
  | [], acc, _ => by simp [mergK]
  | p :: more, acc, h => by
    have hp : p.1 ∉ acc.map (·.1) := fun z => by
      rw [List.nodup_append] at h
      exact h.2.2 _ z _ (by simp) rfl
    show mergK (setK acc p.1 p.2) more = _
    rw [setK_new hp, mergK_new more _ (by simpa using h)]
    simp
end Py
namespace Py
theorem all_true {α : Type} {f : α → Bool} {xs : List α} (h : ∀ x ∈ xs, f x = true) : (xs.map f).all id = true := by
  rw [List.all_eq_true]
  intro b hb
  obtain ⟨x, hx, rfl⟩ := List.mem_map.mp hb
  exact h x hx
theorem filter_yes {α : Type} {xs : List α} : xs.filter (fun _ => true) = xs := by simp
end Py
namespace Py
section
variable {α : Type} {A : AH} {ds : List D} {p : PySem.Addr} {f : List D → Option α}
theorem bl_fl : (lstD A (.fl ds)).bind f = f ds := rfl
theorem bl_ref (h : A p = some (.lst ds)) : (lstD A (.ref p)).bind f = f ds := by rw [lstD_lst h]; rfl
theorem bs_tup : (seqD A (.tup ds)).bind f = f ds := rfl
theorem bs_fl : (seqD A (.fl ds)).bind f = f ds := rfl
theorem bs_ref (h : A p = some (.lst ds)) : (seqD A (.ref p)).bind f = f ds := by rw [seqD_lst h]; rfl
end
end Py
namespace Py
open PySem
theorem lookup_apart {t u : List (Str × Fd)} (h : u.all (fun p => (t.lookup p.1).isNone) = true) {x : Str} {d : Fd} (e : u.lookup x = some d) : t.lookup x = none := by
  have mem : ∀ {l : List (Str × Fd)}, l.lookup x = some d → ∃ p ∈ l, p.1 = x := fun {l} => by
    induction l with
    | nil => intro e; cases e
    | cons a l ih =>
      intro e
      obtain ⟨y, z⟩ := a
      rw [List.lookup_cons] at e
      by_cases c : x = y
      · exact ⟨_, List.mem_cons_self, c.symm⟩
      · rw [beq_eq_false_iff_ne.mpr c] at e
        obtain ⟨p, hp, q⟩ := ih e
        exact ⟨p, List.mem_cons_of_mem _ hp, q⟩
  obtain ⟨p, hp, rfl⟩ := mem e
  have := List.all_eq_true.mp h p hp
  exact Option.isNone_iff_eq_none.mp this
end Py

namespace Py
open PySem PySem.Spec PyProof.Rows L2
/-! ### == on plain data -/
mutual
/-- no bools, no dicts -/
def nb : PyData → Bool
  | .none => true
  | .int _ => true
  | .str x => PyData.strOk x
  | .list xs => nbs xs
  | .tuple xs => nbs xs
  | .bool _ => false
  | .dict _ => false
def nbs : List PyData → Bool
  | [] => true
  | x :: xs => nb x && nbs xs
end
mutual
theorem canLay_nb : ∀ p : PyData, nb p = true → p.canLay0 = true
  | .none, _ => by simp only [PyData.canLay0]
  | .int _, _ => by simp only [PyData.canLay0]
  | .str x, h => by simpa only [PyData.canLay0, nb] using h
  | .list xs, h => by
    simp only [PyData.canLay0]
    exact canLays_nb xs (by simpa only [nb] using h)
  | .tuple xs, h => by
    simp only [PyData.canLay0]
    exact canLays_nb xs (by simpa only [nb] using h)
  | .bool _, h => by simp [nb] at h
  | .dict _, h => by simp [nb] at h
theorem canLays_nb : ∀ p : List PyData, nbs p = true → PyData.canLayAll0 p = true
  | [], _ => by simp only [PyData.canLayAll0]
  | x :: xs, h => by
    simp only [nbs, Bool.and_eq_true] at h
    simp only [PyData.canLayAll0, Bool.and_eq_true]
    exact ⟨canLay_nb x h.1, canLays_nb xs h.2⟩
end
mutual
theorem eqv_nb : ∀ p q : PyData, nb p = true → nb q = true → (PyData.eqv p q = true ↔ p = q)
  | .none, q, _, hq => by cases q <;> simp [PyData.eqv]
  | .int i, q, _, hq => by cases q <;> simp [PyData.eqv, nb] at hq ⊢
  | .str x, q, _, hq => by cases q <;> simp [PyData.eqv, nb] at hq ⊢
  | .list xs, q, hp, hq => by
    cases q with
    | list ys =>
      simp only [nb] at hp hq
      have := eqvs_nb xs ys hp hq
      simp [PyData.eqv, this]
    | _ => simp [PyData.eqv, nb] at hq ⊢
  | .tuple xs, q, hp, hq => by
    cases q with
    | tuple ys =>
      simp only [nb] at hp hq
      have := eqvs_nb xs ys hp hq
      simp [PyData.eqv, this]
    | _ => simp [PyData.eqv, nb] at hq ⊢
  | .bool _, _, h, _ => by simp [nb] at h
  | .dict _, _, h, _ => by simp [nb] at h
theorem eqvs_nb : ∀ p q : List PyData, nbs p = true → nbs q = true → (PyData.eqvAll p q = true ↔ p = q)
  | [], [], _, _ => by simp [PyData.eqvAll]
  | [], _ :: _, _, _ => by simp [PyData.eqvAll]
  | _ :: _, [], _, _ => by simp [PyData.eqvAll]
  | x :: xs, y :: ys, hp, hq => by
    simp only [nbs, Bool.and_eq_true] at hp hq
    have h1 := eqv_nb x y hp.1 hq.1
    have h2 := eqvs_nb xs ys hp.2 hq.2
    simp [PyData.eqvAll, h1, h2]
end
theorem shaped_nb {p : PyData} (h : nb p = true) (hd : p.depth ≤ 64) : SeqAt.shaped p = true := by
  unfold SeqAt.shaped
  rw [canLay_nb p h, decide_eq_true hd]
  rfl
theorem eqD_of {A : AH} {x y : D} {p q : PyData} (hs : isScal x = false ∨ isScal y = false) (hx : snap A 60 x = some p) (hy : snap A 60 y = some q) (np : nb p = true) (nq : nb q = true) (dp : p.depth ≤ 64) (dq : q.depth ≤ 64) [Decidable (p = q)] :
    eqD A x y = some (decide (p = q)) := by
  have e : eqD A x y = (match snap A 60 x, snap A 60 y with
    | some p, some q => if SeqAt.shaped p && SeqAt.shaped q then some (PyData.eqv p q) else none
    | _, _ => none) := by
    cases x <;> cases y <;> first | rfl | (rcases hs with h | h <;> cases h)
  rw [e, hx, hy]
  simp only [shaped_nb np dp, shaped_nb nq dq, Bool.and_self, if_true]
  congr 1
  have := eqv_nb p q np nq
  by_cases h : p = q
  · rw [decide_eq_true h]
    exact this.mpr h
  · rw [decide_eq_false h]
    cases e2 : PyData.eqv p q with
    | false => rfl
    | true => exact absurd (this.mp e2) h
/-! ### lists of ints -/
theorem allSome_map {α β : Type} {f : α → Option β} {g : α → β} : ∀ {l : List α}, (∀ x ∈ l, f x = some (g x)) → allSome (l.map f) = some (l.map g)
  | [], _ => rfl
  | x :: l, h => by
    have ih := allSome_map (l := l) fun y hy => h y (List.mem_cons_of_mem _ hy)
    simp only [List.map_cons, h x List.mem_cons_self, allSome, ih, Option.map_some]
theorem nbs_all : ∀ {l : List PyData}, (∀ x ∈ l, nb x = true) → nbs l = true
  | [], _ => by simp [nbs]
  | x :: l, h => by simp only [nbs, h x List.mem_cons_self, nbs_all (l := l) fun y hy => h y (List.mem_cons_of_mem _ hy), Bool.and_self]
theorem depths_le {n : Nat} : ∀ {l : List PyData}, (∀ x ∈ l, x.depth ≤ n) → PyData.depthAll l ≤ n
  | [], _ => by simp [PyData.depthAll]
  | x :: l, h => by
    have h1 := h x List.mem_cons_self
    have h2 := depths_le (l := l) fun y hy => h y (List.mem_cons_of_mem _ hy)
    simp only [PyData.depthAll]
    omega
theorem map_int_inj {ns ms : List Int} : ns.map PyData.int = ms.map PyData.int ↔ ns = ms := by
  constructor
  · intro h
    induction ns generalizing ms with
    | nil => cases ms with | nil => rfl | cons _ _ => simp at h
    | cons a l ih => cases ms with | nil => simp at h | cons b m => simp only [List.map_cons, List.cons.injEq, PyData.int.injEq] at h; rw [h.1, ih h.2]
  · rintro rfl; rfl
/-- lists of ints -/
theorem eqD_ints {A : AH} {a b : Addr} {ns ms : List Int} (ha : A a = some (.lst (ns.map .int))) (hb : A b = some (.lst (ms.map .int))) : eqD A (.ref a) (.ref b) = some (decide (ns = ms)) := by
  have sn : ∀ (c : Addr) (l : List Int), A c = some (.lst (l.map .int)) → snap A 60 (.ref c) = some (.list (l.map .int)) := fun c l h => by
    show (match getL A c with | some ds => _ | none => _) = _
    unfold getL
    rw [h]
    show (allSome ((l.map D.int).map (snap A 59))).map PyData.list = _
    rw [List.map_map]
    have q := allSome_map (f := snap A 59 ∘ D.int) (g := PyData.int) (l := l) fun x _ => rfl
    rw [q]
    rfl
  have nn : ∀ l : List Int, nb (.list (l.map .int)) = true := fun l => by
    simp only [nb]
    exact nbs_all fun x hx => by obtain ⟨i, _, rfl⟩ := List.mem_map.mp hx; simp [nb]
  have dd : ∀ l : List Int, (PyData.list (l.map .int)).depth ≤ 64 := fun l => by
    have := depths_le (n := 1) (l := l.map PyData.int) fun x hx => by obtain ⟨i, _, rfl⟩ := List.mem_map.mp hx; simp [PyData.depth]
    simp only [PyData.depth]
    omega
  haveI : Decidable (PyData.list (ns.map .int) = PyData.list (ms.map .int)) := decidable_of_iff (ns = ms) (by simp [map_int_inj])
  rw [eqD_of (.inl rfl) (sn a ns ha) (sn b ms hb) (nn _) (nn _) (dd _) (dd _)]
  congr 1
  simp [map_int_inj]

end Py

namespace Py
open PySem PySem.Spec PyProof.Rows L2
/-! ### plain values as data: what == and repr say of them -/
mutual
def toP : D → PyData
  | .non => .none
  | .bl b => .bool b
  | .int i => .int i
  | .str s => .str s
  | .tup ds => .tuple (toPs ds)
  | .fl ds => .list (toPs ds)
  | .ref _ => .none
  | .fd _ _ => .none
def toPs : List D → List PyData
  | [] => []
  | d :: ds => toP d :: toPs ds
end
mutual
/-- no objects that change, no dicts, no great ints; depth at most n; bulk at most b -/
inductive Good : Nat → Nat → D → Prop
  | non {n b} : Good n b .non
  | bl {n b k} : Good n b (.bl k)
  | int {n b i} : i.natAbs < 10 ^ 400 → Good n b (.int i)
  | str {n b s} : (s.cps.toList.all fun c => decide (c < 0x110000)) = true → s.cps.size ≤ b → Good n b (.str s)
  | tup {n b ds} : Goods n b ds → Good (n + 1) b (.tup ds)
  | fl {n b ds} : Goods n b ds → Good (n + 1) b (.fl ds)
inductive Goods : Nat → Nat → List D → Prop
  | nil {n b} : Goods n b []
  | cons {n b c e d ds} : Good n c d → Goods n e ds → c + 1 + e ≤ b → Goods n b (d :: ds)
end
mutual
theorem Good.mono : ∀ {n m b c : Nat} {d : D}, Good n b d → n ≤ m → b ≤ c → Good m c d
  | _, _, _, _, _, .non, _, _ => .non
  | _, _, _, _, _, .bl, _, _ => .bl
  | _, _, _, _, _, .int h, _, _ => .int h
  | _, _, _, _, _, .str h h2, _, k => .str h (Nat.le_trans h2 k)
  | _, m + 1, _, _, _, .tup h, j, k => .tup (Goods.mono h (by omega) k)
  | _, m + 1, _, _, _, .fl h, j, k => .fl (Goods.mono h (by omega) k)
  | _, 0, _, _, _, .tup h, j, k => by omega
  | _, 0, _, _, _, .fl h, j, k => by omega
theorem Goods.mono : ∀ {n m b c : Nat} {ds : List D}, Goods n b ds → n ≤ m → b ≤ c → Goods m c ds
  | _, _, _, _, _, .nil, _, _ => .nil
  | _, _, _, _, _, .cons h hs e, j, k => .cons (Good.mono h j (Nat.le_refl _)) (Goods.mono hs j (Nat.le_refl _)) (by omega)
end
theorem Goods.map {α : Type} {f : α → D} {n b : Nat} : ∀ {xs : List α}, (∀ x ∈ xs, Good n b (f x)) → Goods n ((b + 1) * xs.length) (xs.map f)
  | [], _ => .nil
  | x :: xs, h => .cons (h x List.mem_cons_self) (Goods.map (f := f) fun y hy => h y (List.mem_cons_of_mem _ hy)) (by rw [List.length_cons, Nat.mul_succ]; omega)
theorem Goods.of {n b : Nat} : ∀ {ds : List D}, (∀ x ∈ ds, Good n b x) → Goods n ((b + 1) * ds.length) ds := fun {ds} h => by
  have := Goods.map (f := fun d : D => d) h
  simpa using this
mutual
theorem Good.snap (A : AH) : ∀ {n b : Nat} {d : D}, Good n b d → ∀ m, n ≤ m → snap A m d = some (toP d)
  | _, _, _, .non, _, _ => by simp only [Py.snap, toP]
  | _, _, _, .bl, _, _ => by simp only [Py.snap, toP]
  | _, _, _, .int _, _, _ => by simp only [Py.snap, toP]
  | _, _, _, .str _ _, _, _ => by simp only [Py.snap, toP]
  | _, _, _, .tup h, m + 1, hm => by simp only [Py.snap, toP, Goods.snaps A h m (by omega)]; rfl
  | _, _, _, .fl h, m + 1, hm => by simp only [Py.snap, toP, Goods.snaps A h m (by omega)]; rfl
  | _, _, _, .tup h, 0, hm => by omega
  | _, _, _, .fl h, 0, hm => by omega
theorem Goods.snaps (A : AH) : ∀ {n b : Nat} {ds : List D}, Goods n b ds → ∀ m, n ≤ m → allSome (ds.map (Py.snap A m)) = some (toPs ds)
  | _, _, _, .nil, _, _ => by simp only [List.map_nil, allSome, toPs]
  | _, _, _, .cons h hs _, m, hm => by simp only [List.map_cons, Good.snap A h m hm, allSome, Goods.snaps A hs m hm, toPs]; rfl
end
theorem len_int {i : Int} (h : i.natAbs < 10 ^ 400) : (PyData.shown (.int i)).length ≤ 402 := by
  show (Str.ofString (toString i)).length ≤ 402
  have e : ∀ s : String, (Str.ofString s).length = s.toList.length := fun s => by rw [Str.ofString_eq_toList]; simp [Str.length]
  cases i with
  | ofNat m => exact Nat.le_trans (toString_length_le (by exact Int.ofNat_nonneg m) (k := 400) (by decide) (by have : m < 10 ^ 400 := h; show ((m : Nat) : Int) < _; exact_mod_cast this)) (by decide)
  | negSucc m =>
    have h' : m + 1 < 10 ^ 400 := h
    have e1 : (toString (Int.negSucc m)) = "-" ++ Nat.repr (m + 1) := rfl
    rw [e1, e, String.toList_append, List.length_append]
    have e2 : (Nat.repr (m + 1)).toList.length = (Nat.toDigits 10 (m + 1)).length := by unfold Nat.repr; simp
    have e3 := digits10_le (k := 400) (by decide) h'
    rw [e2]
    have e4 : ("-" : String).toList.length = 1 := by decide
    omega
mutual
theorem Good.show : ∀ {n b : Nat} {d : D}, Good n b d → (toP d).showable = true ∧ (toP d).hasDict = false ∧ (toP d).depth ≤ n ∧ (toP d).leavesShort 402 = true ∧ (toP d).bulk ≤ b
  | _, _, _, .non => by simp [toP, PyData.showable, PyData.hasDict, PyData.depth, PyData.leavesShort, PyData.bulk]
  | _, _, _, .bl => by simp [toP, PyData.showable, PyData.hasDict, PyData.depth, PyData.leavesShort, PyData.bulk]
  | _, _, _, .int h => by
    refine ⟨?_, rfl, Nat.zero_le _, ?_, Nat.zero_le _⟩
    · simp only [toP, PyData.showable, decide_eq_true_eq]
      exact log2_of (Nat.lt_of_lt_of_le h (by decide +kernel)) (by decide)
    · simp only [toP, PyData.leavesShort, decide_eq_true_eq]
      exact len_int h
  | _, _, _, .str h h2 => by
    refine ⟨rfl, rfl, Nat.zero_le _, ?_, h2⟩
    simp only [toP, PyData.leavesShort, List.all_eq_true, decide_eq_true_eq] at h ⊢
    exact fun c hc => Nat.lt_trans (h c hc) (by decide)
  | _, _, _, .tup h => by
    obtain ⟨h1, h2, h3, h4, h5⟩ := Goods.shows h
    simp only [toP, PyData.showable, PyData.hasDict, PyData.depth, PyData.leavesShort, PyData.bulk]
    exact ⟨h1, h2, by omega, h4, h5⟩
  | _, _, _, .fl h => by
    obtain ⟨h1, h2, h3, h4, h5⟩ := Goods.shows h
    simp only [toP, PyData.showable, PyData.hasDict, PyData.depth, PyData.leavesShort, PyData.bulk]
    exact ⟨h1, h2, by omega, h4, h5⟩
theorem Goods.shows : ∀ {n b : Nat} {ds : List D}, Goods n b ds → PyData.showableAll (toPs ds) = true ∧ PyData.hasDictAll (toPs ds) = false ∧ PyData.depthAll (toPs ds) ≤ n ∧ PyData.leavesShortAll 402 (toPs ds) = true ∧ PyData.bulkAll (toPs ds) ≤ b
  | _, _, _, .nil => by simp [toPs, PyData.showableAll, PyData.hasDictAll, PyData.depthAll, PyData.leavesShortAll, PyData.bulkAll]
  | _, _, _, .cons h hs e => by
    obtain ⟨h1, h2, h3, h4, h5⟩ := Good.show h
    obtain ⟨k1, k2, k3, k4, k5⟩ := Goods.shows hs
    simp only [toPs, PyData.showableAll, PyData.hasDictAll, PyData.depthAll, PyData.leavesShortAll, PyData.bulkAll, Bool.and_eq_true, Bool.or_eq_false_iff]
    exact ⟨⟨h1, k1⟩, ⟨h2, k2⟩, by omega, ⟨h4, k4⟩, by omega⟩
end
def shownD (d : D) : Str := (toP d).shown
/-- repr of a value -/
theorem repr_good {n b : Nat} {d : D} {A : AH} {Q : Dk} (h : Good n b d) (hn : n ≤ 60) (hb : b ≤ 40000) (hi : ∀ i, d ≠ .int i) (q : Q (.str (shownD d)) A) : rB .repr [d] A Q := by
  obtain ⟨h1, h2, h3, h4, h5⟩ := h.show
  have e : rB .repr [d] A Q = (match snap A 60 d with
    | some p => p.showable = true ∧ p.hasDict = false ∧ p.depth ≤ 64 ∧ p.shown.length ≤ sizeLine ∧ Q (.str p.shown) A
    | none => False) := by
    cases d <;> first | rfl | exact absurd rfl (hi _)
  rw [e, h.snap A 60 hn]
  have hs := PyData.shown_le_bulk 402 (by decide) (toP d) h4
  have : (402 + 2) * (toP d).bulk ≤ (402 + 2) * 40000 := Nat.mul_le_mul_left _ (by omega)
  exact ⟨h1, h2, by omega, by rw [sizeLine_eq]; omega, q⟩
mutual
/-- no objects that change, no dicts, no bools, no texts of odd signs; depth at most n -/
inductive GoodE : Nat → D → Prop
  | non {n} : GoodE n .non
  | int {n i} : GoodE n (.int i)
  | str {n s} : PyData.strOk s = true → GoodE n (.str s)
  | tup {n ds} : GoodEs n ds → GoodE (n + 1) (.tup ds)
  | fl {n ds} : GoodEs n ds → GoodE (n + 1) (.fl ds)
inductive GoodEs : Nat → List D → Prop
  | nil {n} : GoodEs n []
  | cons {n d ds} : GoodE n d → GoodEs n ds → GoodEs n (d :: ds)
end
theorem GoodEs.of {n : Nat} : ∀ {ds : List D}, (∀ x ∈ ds, GoodE n x) → GoodEs n ds
  | [], _ => .nil
  | d :: ds, h => .cons (h d List.mem_cons_self) (GoodEs.of fun x hx => h x (List.mem_cons_of_mem _ hx))
theorem GoodEs.map {α : Type} {f : α → D} {n : Nat} {xs : List α} (h : ∀ x ∈ xs, GoodE n (f x)) : GoodEs n (xs.map f) := GoodEs.of fun y hy => by
  obtain ⟨x, hx, rfl⟩ := List.mem_map.mp hy
  exact h x hx
mutual
theorem GoodE.snap (A : AH) : ∀ {n : Nat} {d : D}, GoodE n d → ∀ m, n ≤ m → snap A m d = some (toP d) ∧ nb (toP d) = true ∧ (toP d).depth ≤ n
  | _, _, .non, _, _ => by simp [Py.snap, toP, nb, PyData.depth]
  | _, _, .int, _, _ => by simp [Py.snap, toP, nb, PyData.depth]
  | _, _, .str h, _, _ => by simp [Py.snap, toP, nb, PyData.depth, h]
  | _, _, .tup h, m + 1, hm => by
    obtain ⟨h1, h2, h3⟩ := GoodEs.snaps A h m (by omega)
    simp only [Py.snap, toP, h1, nb, PyData.depth]
    exact ⟨rfl, h2, by omega⟩
  | _, _, .fl h, m + 1, hm => by
    obtain ⟨h1, h2, h3⟩ := GoodEs.snaps A h m (by omega)
    simp only [Py.snap, toP, h1, nb, PyData.depth]
    exact ⟨rfl, h2, by omega⟩
  | _, _, .tup h, 0, hm => by omega
  | _, _, .fl h, 0, hm => by omega
theorem GoodEs.snaps (A : AH) : ∀ {n : Nat} {ds : List D}, GoodEs n ds → ∀ m, n ≤ m → allSome (ds.map (Py.snap A m)) = some (toPs ds) ∧ nbs (toPs ds) = true ∧ PyData.depthAll (toPs ds) ≤ n
  | _, _, .nil, _, _ => by simp [allSome, toPs, nbs, PyData.depthAll]
  | _, _, .cons h hs, m, hm => by
    obtain ⟨h1, h2, h3⟩ := GoodE.snap A h m hm
    obtain ⟨k1, k2, k3⟩ := GoodEs.snaps A hs m hm
    simp only [List.map_cons, h1, allSome, k1, toPs, nbs, h2, k2, PyData.depthAll]
    exact ⟨rfl, rfl, by omega⟩
end
mutual
theorem GoodE.inj : ∀ {n m : Nat} {d e : D}, GoodE n d → GoodE m e → toP d = toP e → d = e
  | _, _, _, _, .non, k, h => by cases k <;> simp [toP] at h ⊢
  | _, _, _, _, .int, k, h => by cases k <;> simp [toP] at h ⊢; exact h
  | _, _, _, _, .str _, k, h => by cases k <;> simp [toP] at h ⊢; exact h
  | _, _, _, _, .tup g, k, h => by
    cases k <;> simp only [toP] at h <;> try (cases h; done)
    rename_i k
    rw [GoodEs.injs g k (by simpa using h)]
  | _, _, _, _, .fl g, k, h => by
    cases k <;> simp only [toP] at h <;> try (cases h; done)
    rename_i k
    rw [GoodEs.injs g k (by simpa using h)]
theorem GoodEs.injs : ∀ {n m : Nat} {ds es : List D}, GoodEs n ds → GoodEs m es → toPs ds = toPs es → ds = es
  | _, _, _, _, .nil, k, h => by cases k <;> simp [toPs] at h ⊢
  | _, _, _, _, .cons g gs, k, h => by
    cases k with
    | nil => simp [toPs] at h
    | cons k ks =>
      simp only [toPs, List.cons.injEq] at h
      rw [GoodE.inj g k h.1, GoodEs.injs gs ks h.2]
end
/-- == of values -/
theorem eqD_good {n m : Nat} {x y : D} {A : AH} (hx : GoodE n x) (hy : GoodE m y) (hn : n ≤ 60) (hm : m ≤ 60) (b : Bool) (hb : b = true ↔ x = y) : eqD A x y = some b := by
  have gen : (match snap A 60 x, snap A 60 y with
    | some p, some q => if SeqAt.shaped p && SeqAt.shaped q then some (PyData.eqv p q) else none
    | _, _ => none) = some b := by
    obtain ⟨h1, h2, h3⟩ := hx.snap A 60 hn
    obtain ⟨k1, k2, k3⟩ := hy.snap A 60 hm
    rw [h1, k1]
    simp only [shaped_nb h2 (by omega : (toP x).depth ≤ 64), shaped_nb k2 (by omega : (toP y).depth ≤ 64), Bool.and_self, if_true]
    congr 1
    have e := eqv_nb _ _ h2 k2
    have i : toP x = toP y ↔ x = y := ⟨fun h => hx.inj hy h, fun h => by rw [h]⟩
    rw [i, ← hb] at e
    cases h : PyData.eqv (toP x) (toP y) <;> cases b <;> simp_all
  cases hx with
  | int =>
    cases hy with
    | int =>
      simp only [eqD]
      congr 1
      cases b <;> simp_all
    | _ => exact gen
  | str h =>
    cases hy with
    | str k =>
      simp only [eqD]
      congr 1
      cases b <;> simp_all
    | _ => exact gen
  | _ => cases hy <;> exact gen
/-- a list that stands at p is what it holds -/
theorem eqD_refL {A : AH} {p : Addr} {ds : List D} {y : D} (h : A p = some (.lst ds)) : eqD A (.ref p) y = eqD A (.fl ds) y := by
  have e : snap A 60 (.ref p) = snap A 60 (.fl ds) := by
    show (match getL A p with | some ds => _ | none => _) = _
    unfold getL
    rw [h]
    rfl
  have l : ∀ y, eqD A (.ref p) y = (match snap A 60 (.ref p), snap A 60 y with
    | some p, some q => if SeqAt.shaped p && SeqAt.shaped q then some (PyData.eqv p q) else none
    | _, _ => none) := fun y => by cases y <;> rfl
  have r : ∀ y, eqD A (.fl ds) y = (match snap A 60 (.fl ds), snap A 60 y with
    | some p, some q => if SeqAt.shaped p && SeqAt.shaped q then some (PyData.eqv p q) else none
    | _, _ => none) := fun y => by cases y <;> rfl
  rw [l, r, e]
end Py

/-! Lines, commands, blocks: the plain functions. -/
namespace Mv
open PySem Py
abbrev Cmd := Bool × Int × Int
def wd (b : Bool) : Str := if b then "behind" else "before"
abbrev cmdD (c : Cmd) : D := .tup [.str (wd c.1), .int c.2.1, .int c.2.2]
abbrev linD (l : List Int) : D := .tup (l.map .int)
abbrev scrD (cs : List Cmd) : D := .tup (cs.map cmdD)
def VItem (i : Int) : Prop := 0 ≤ i ∧ i < 60
structure VLine (l : List Int) : Prop where
  ne : l ≠ []
  nd : l.Nodup
  it : ∀ i ∈ l, VItem i
def VCmd (c : Cmd) : Prop := VItem c.2.1 ∧ VItem c.2.2 ∧ c.2.1 ≠ c.2.2
structure VScr (cs : List Cmd) : Prop where
  pos : 1 ≤ cs.length
  len : cs.length ≤ 200
  it : ∀ c ∈ cs, VCmd c
theorem nodup_le : ∀ (n : Nat) (l : List Int), l.Nodup → (∀ i ∈ l, 0 ≤ i ∧ i < (n : Int)) → l.length ≤ n
  | 0, [], _, _ => Nat.le_refl _
  | 0, x :: l, _, h => by have := h x (by simp); omega
  | n + 1, l, nd, h => by
    have h1 := nodup_le n (l.erase n) (nd.erase _) fun i hi => by
      have h2 := h i (List.mem_of_mem_erase hi)
      have h3 : i ≠ (n : Int) := fun e => by
        rw [e] at hi
        exact nd.not_mem_erase hi
      omega
    have h4 : l.length ≤ (l.erase n).length + 1 := by
      by_cases hm : (n : Int) ∈ l
      · rw [List.length_erase_of_mem hm]; omega
      · rw [List.erase_of_not_mem hm]; omega
    omega
theorem items_len {l : List Int} (nd : l.Nodup) (it : ∀ i ∈ l, VItem i) : l.length ≤ 60 := nodup_le 60 l nd it
theorem VLine.len {l : List Int} (h : VLine l) : l.length ≤ 60 := items_len h.nd h.it
/-! ### the moves -/
def put1 (b : Bool) (i o : Int) (r : List Int) : List Int := r.take (r.idxOf o + (if b then 1 else 0)) ++ [i] ++ r.drop (r.idxOf o + (if b then 1 else 0))
def mvd (l : List Int) (c : Cmd) : List Int := put1 c.1 c.2.1 c.2.2 (l.erase c.2.1)
def mvs (l : List Int) (cs : List Cmd) : List Int := cs.foldl mvd l
/-! ### named items -/
def allN (cs : List Cmd) : List Int := (cs.map fun c => [c.2.1, c.2.2]).flatten
def named (cs : List Cmd) : List Int := sortI (ddI (allN cs))
/-! ### blocks -/
abbrev Bl := List (Int × List Int)
abbrev blkD (B : Bl) : D := fdD (B.map fun p => (Sum.inl p.1, linD p.2))
abbrev kvB (B : Bl) : List (L2.Key × D) := B.map fun p => (Sum.inl p.1, linD p.2)
def getB (B : Bl) (i : Int) : List Int := (B.lookup i).getD [i]
def takeB (i : Int) (B : Bl) : Bl := B.map fun p => (p.1, if i ∈ p.2 then p.2.erase i else p.2)
def giveB (b : Bool) (i o : Int) (B : Bl) : Bl := B.map fun p => (p.1, if o ∈ p.2 then put1 b i o p.2 else p.2)
def stepB (B : Bl) (c : Cmd) : Bl := giveB c.1 c.2.1 c.2.2 (takeB c.2.1 B)
def startB (ns : List Int) : Bl := ns.map fun i => (i, [i])
def blocks (cs : List Cmd) : Bl := cs.foldl stepB (startB (named cs))
/-- a row's items replaced by their blocks -/
def subst (B : Bl) (l : List Int) : List Int := (l.map (getB B)).flatten
def joinB (A B : Bl) : Bl := A.map fun p => (p.1, subst B p.2)
theorem lookK_kvB (B : Bl) (i : Int) : lookK (kvB B) (.inl i) = (B.lookup i).map linD := by
  induction B with
  | nil => rfl
  | cons p B ih =>
    obtain ⟨k, r⟩ := p
    show lookK ((Sum.inl k, linD r) :: kvB B) _ = _
    rw [lookK_cons, ih, List.lookup_cons]
    by_cases h : k = i
    · subst h; simp
    · have : (i == k) = false := by simp; exact fun e => h e.symm
      rw [this, if_neg (fun z => h (Sum.inl.inj z))]
theorem getD_kvB (B : Bl) (i : Int) : (lookK (kvB B) (.inl i)).getD (linD [i]) = linD (getB B i) := by
  rw [lookK_kvB]
  unfold getB
  cases B.lookup i <;> rfl
end Mv

namespace Pr
open PySem Py
def b_is_int : Ss := (.cons (.ret (.bop true (.cons (.isi (.var 0 "value") .int) (.cons (.not (.isi (.var 0 "value") .bool)) .nil)))) .nil)
def d_is_int : Fd := ⟨1, 1, b_is_int⟩
def b_in_range : Ss := (.cons (.ret (.bop true (.cons (.call "is_int" (.cons (.var 0 "value") .nil)) (.cons (.chain .le .le (.var 1 "low") (.var 0 "value") (.var 2 "high")) .nil)))) .nil)
def d_in_range : Fd := ⟨3, 3, b_in_range⟩
def b_is_item : Ss := (.cons (.ret (.call "in_range" (.cons (.var 0 "value") (.cons (.cst (.int 0)) (.cons (.bin .sub (.gv "ITEMS") (.cst (.int 1))) .nil))))) .nil)
def d_is_item : Fd := ⟨1, 1, b_is_item⟩
def b_is_line : Ss := (.cons (.if_ (.bop false (.cons (.not (.isi (.var 0 "value") .tuple)) (.cons (.cmp .eq (.var 0 "value") (.tup .nil)) (.cons (.not (.bif .all (.cons (.lc (.call "is_item" (.cons (.var 1 "item") .nil)) (.name 1 "item") (.seq (.var 0 "value")) .nil [("item", 1)]) .nil))) .nil)))) (.cons (.ret (.cst (.bl false))) .nil) .nil) (.cons (.ret (.cmp .eq (.lset (.var 0 "value")) (.bif .len (.cons (.var 0 "value") .nil)))) .nil))
def d_is_line : Fd := ⟨1, 2, b_is_line⟩
def b_is_command : Ss := (.cons (.if_ (.bop false (.cons (.not (.isi (.var 0 "value") .tuple)) (.cons (.cmp .ne (.bif .len (.cons (.var 0 "value") .nil)) (.cst (.int 3))) .nil))) (.cons (.ret (.cst (.bl false))) .nil) .nil) (.cons (.unp [(1, "word"), (2, "item"), (3, "other")] (.var 0 "value")) (.cons (.ret (.bop true (.cons (.isi (.var 1 "word") .str) (.cons (.cmp .in_ (.var 1 "word") (.gv "WORDS")) (.cons (.call "is_item" (.cons (.var 2 "item") .nil)) (.cons (.call "is_item" (.cons (.var 3 "other") .nil)) (.cons (.cmp .ne (.var 2 "item") (.var 3 "other")) .nil))))))) .nil)))
def d_is_command : Fd := ⟨1, 4, b_is_command⟩
def b_is_script : Ss := (.cons (.if_ (.bop false (.cons (.not (.isi (.var 0 "value") .tuple)) (.cons (.not (.chain .le .le (.cst (.int 1)) (.bif .len (.cons (.var 0 "value") .nil)) (.gv "MOST_COMMANDS"))) .nil))) (.cons (.ret (.cst (.bl false))) .nil) .nil) (.cons (.ret (.bif .all (.cons (.lc (.call "is_command" (.cons (.var 1 "command") .nil)) (.name 1 "command") (.seq (.var 0 "value")) .nil [("command", 1)]) .nil))) .nil))
def d_is_script : Fd := ⟨1, 2, b_is_script⟩
def b_require_script : Ss := (.cons (.if_ (.not (.call "is_script" (.cons (.var 0 "value") .nil))) (.cons (.raise "NoScript") .nil) .nil) .nil)
def d_require_script : Fd := ⟨1, 1, b_require_script⟩
def b_named_in : Ss := (.cons (.asg 1 "found" (.lst .nil)) (.cons (.for_ (.tup [(2, "word"), (3, "item"), (4, "other")]) (.seq (.var 0 "script")) (.cons (.exp (.mth .extend (.var 1 "found") (.cons (.lst (.cons (.var 3 "item") (.cons (.var 4 "other") .nil))) .nil))) .nil) [0, 2, 3, 4]) (.cons (.ret (.sset (.var 1 "found"))) .nil)))
def d_named_in : Fd := ⟨1, 5, b_named_in⟩
def b_items_of : Ss := (.cons (.exp (.call "require_script" (.cons (.var 0 "script") .nil))) (.cons (.ret (.call "named_in" (.cons (.var 0 "script") .nil))) .nil))
def d_items_of : Fd := ⟨1, 1, b_items_of⟩
def b_require_line : Ss := (.cons (.if_ (.not (.call "is_line" (.cons (.var 0 "value") .nil))) (.cons (.raise "NoLine") .nil) .nil) .nil)
def d_require_line : Fd := ⟨1, 1, b_require_line⟩
def b_require_command : Ss := (.cons (.if_ (.not (.call "is_command" (.cons (.var 0 "value") .nil))) (.cons (.raise "NoCommand") .nil) .nil) .nil)
def d_require_command : Fd := ⟨1, 1, b_require_command⟩
def b_require_there : Ss := (.cons (.if_ (.not (.bif .all (.cons (.lc (.cmp .in_ (.var 2 "item") (.var 0 "line")) (.name 2 "item") (.seq (.var 1 "items")) .nil [("item", 2)]) .nil))) (.cons (.raise "Missing") .nil) .nil) .nil)
def d_require_there : Fd := ⟨2, 3, b_require_there⟩
def b_require_pair : Ss := (.cons (.exp (.call "require_line" (.cons (.var 0 "line") .nil))) (.cons (.exp (.call "require_script" (.cons (.var 1 "script") .nil))) (.cons (.exp (.call "require_there" (.cons (.var 0 "line") (.cons (.call "named_in" (.cons (.var 1 "script") .nil)) .nil)))) .nil)))
def d_require_pair : Fd := ⟨2, 2, b_require_pair⟩
def b_moved_in : Ss := (.cons (.unp [(2, "word"), (3, "item"), (4, "other")] (.var 1 "command")) (.cons (.asg 5 "place" (.mth .index (.var 0 "line") (.cons (.var 3 "item") .nil))) (.cons (.asg 6 "rest" (.bin .add (.slc (.var 0 "line") .no (.yes (.var 5 "place"))) (.slc (.var 0 "line") (.yes (.bin .add (.var 5 "place") (.cst (.int 1)))) .no))) (.cons (.asg 5 "place" (.bin .add (.mth .index (.var 6 "rest") (.cons (.var 4 "other") .nil)) (.bif .int (.cons (.cmp .eq (.var 2 "word") (.cst (.str "behind"))) .nil)))) (.cons (.ret (.bin .add (.bin .add (.slc (.var 6 "rest") .no (.yes (.var 5 "place"))) (.tup (.cons (.var 3 "item") .nil))) (.slc (.var 6 "rest") (.yes (.var 5 "place")) .no))) .nil)))))
def d_moved_in : Fd := ⟨2, 7, b_moved_in⟩
def b_script_in : Ss := (.cons (.for_ (.name 2 "command") (.seq (.var 1 "script")) (.cons (.asg 0 "line" (.call "moved_in" (.cons (.var 0 "line") (.cons (.var 2 "command") .nil)))) .nil) [1, 2]) (.cons (.ret (.var 0 "line")) .nil))
def d_script_in : Fd := ⟨2, 3, b_script_in⟩
def b_moved : Ss := (.cons (.exp (.call "require_line" (.cons (.var 0 "line") .nil))) (.cons (.exp (.call "require_command" (.cons (.var 1 "command") .nil))) (.cons (.exp (.call "require_there" (.cons (.var 0 "line") (.cons (.slc (.var 1 "command") (.yes (.cst (.int 1))) .no) .nil)))) (.cons (.ret (.call "moved_in" (.cons (.var 0 "line") (.cons (.var 1 "command") .nil)))) .nil))))
def d_moved : Fd := ⟨2, 2, b_moved⟩
def b_after_script : Ss := (.cons (.exp (.call "require_pair" (.cons (.var 0 "line") (.cons (.var 1 "script") .nil)))) (.cons (.ret (.call "script_in" (.cons (.var 0 "line") (.cons (.var 1 "script") .nil)))) .nil))
def d_after_script : Fd := ⟨2, 2, b_after_script⟩
def b_require_item : Ss := (.cons (.if_ (.not (.call "is_item" (.cons (.var 0 "value") .nil))) (.cons (.raise "NoItem") .nil) .nil) .nil)
def d_require_item : Fd := ⟨1, 1, b_require_item⟩
def b_moved_in_block : Ss := (.cons (.asg 4 "place" (.bin .add (.mth .index (.var 0 "block") (.cons (.var 3 "other") .nil)) (.bif .int (.cons (.cmp .eq (.var 1 "word") (.cst (.str "behind"))) .nil)))) (.cons (.ret (.bin .add (.bin .add (.slc (.var 0 "block") .no (.yes (.var 4 "place"))) (.tup (.cons (.var 2 "item") .nil))) (.slc (.var 0 "block") (.yes (.var 4 "place")) .no))) .nil))
def d_moved_in_block : Fd := ⟨4, 5, b_moved_in_block⟩
def b_blocks_in : Ss := (.cons (.asg 1 "found" (.dc (.var 2 "item") (.tup (.cons (.var 2 "item") .nil)) (.name 2 "item") (.seq (.call "named_in" (.cons (.var 0 "script") .nil))) .nil [("item", 2)])) (.cons (.for_ (.tup [(3, "word"), (2, "item"), (4, "other")]) (.seq (.var 0 "script")) (.cons (.for_ (.tup [(5, "key"), (6, "block")]) (.seq (.litems (.var 1 "found"))) (.cons (.if_ (.cmp .in_ (.var 2 "item") (.var 6 "block")) (.cons (.asg 7 "place" (.mth .index (.var 6 "block") (.cons (.var 2 "item") .nil))) (.cons (.sto (.var 1 "found") (.var 5 "key") (.bin .add (.slc (.var 6 "block") .no (.yes (.var 7 "place"))) (.slc (.var 6 "block") (.yes (.bin .add (.var 7 "place") (.cst (.int 1)))) .no))) .nil)) .nil) .nil) [0, 5, 6, 7]) (.cons (.for_ (.tup [(5, "key"), (6, "block")]) (.seq (.litems (.var 1 "found"))) (.cons (.if_ (.cmp .in_ (.var 4 "other") (.var 6 "block")) (.cons (.sto (.var 1 "found") (.var 5 "key") (.call "moved_in_block" (.cons (.var 6 "block") (.cons (.var 3 "word") (.cons (.var 2 "item") (.cons (.var 4 "other") .nil)))))) .nil) .nil) .nil) [0, 5, 6, 7]) .nil)) [0, 2, 3, 4, 5, 6, 7]) (.cons (.ret (.var 1 "found")) .nil)))
def d_blocks_in : Fd := ⟨1, 8, b_blocks_in⟩
def b_block_in : Ss := (.cons (.ret (.mth .get (.var 0 "blocks") (.cons (.var 1 "item") (.cons (.tup (.cons (.var 1 "item") .nil)) .nil)))) .nil)
def d_block_in : Fd := ⟨2, 2, b_block_in⟩
def b_block_of : Ss := (.cons (.exp (.call "require_script" (.cons (.var 0 "script") .nil))) (.cons (.exp (.call "require_item" (.cons (.var 1 "item") .nil))) (.cons (.ret (.call "block_in" (.cons (.call "blocks_in" (.cons (.var 0 "script") .nil)) (.cons (.var 1 "item") .nil)))) .nil)))
def d_block_of : Fd := ⟨2, 2, b_block_of⟩
def b_source_of : Ss := (.cons (.exp (.call "require_script" (.cons (.var 0 "script") .nil))) (.cons (.exp (.call "require_item" (.cons (.var 1 "item") .nil))) (.cons (.ret (.mth .get (.call "sources_in" (.cons (.call "blocks_in" (.cons (.var 0 "script") .nil)) .nil)) (.cons (.var 1 "item") (.cons (.var 1 "item") .nil)))) .nil)))
def d_source_of : Fd := ⟨2, 2, b_source_of⟩
def b_blocks_of : Ss := (.cons (.exp (.call "require_script" (.cons (.var 0 "script") .nil))) (.cons (.ret (.call "blocks_in" (.cons (.var 0 "script") .nil))) .nil))
def d_blocks_of : Fd := ⟨1, 1, b_blocks_of⟩
def b_same_blocks : Ss := (.cons (.exp (.call "require_script" (.cons (.var 0 "script") .nil))) (.cons (.exp (.call "require_script" (.cons (.var 1 "other_script") .nil))) (.cons (.par [(2, "one"), (3, "two")] (.cons (.call "blocks_in" (.cons (.var 0 "script") .nil)) (.cons (.call "blocks_in" (.cons (.var 1 "other_script") .nil)) .nil))) (.cons (.ret (.bif .all (.cons (.lc (.cmp .eq (.call "block_in" (.cons (.var 2 "one") (.cons (.var 4 "item") .nil))) (.call "block_in" (.cons (.var 3 "two") (.cons (.var 4 "item") .nil)))) (.name 4 "item") (.rng1 (.gv "ITEMS")) .nil [("item", 4)]) .nil))) .nil))))
def d_same_blocks : Fd := ⟨2, 5, b_same_blocks⟩
def b_joined_in : Ss := (.cons (.asg 2 "found" (.dnil)) (.cons (.for_ (.name 3 "key") (.seq (.var 0 "blocks")) (.cons (.asg 4 "row" (.tup .nil)) (.cons (.for_ (.name 5 "item") (.seq (.idx (.var 0 "blocks") (.var 3 "key"))) (.cons (.aug 4 "row" .add (.call "block_in" (.cons (.var 1 "other") (.cons (.var 5 "item") .nil)))) .nil) [5]) (.cons (.sto (.var 2 "found") (.var 3 "key") (.var 4 "row")) .nil))) [3, 4, 5]) (.cons (.ret (.var 2 "found")) .nil)))
def d_joined_in : Fd := ⟨2, 6, b_joined_in⟩
def b_is_effect : Ss := (.cons (.if_ (.bop false (.cons (.not (.isi (.var 0 "value") .dict)) (.cons (.not (.chain .le .le (.cst (.int 1)) (.bif .len (.cons (.var 0 "value") .nil)) (.gv "ITEMS"))) (.cons (.not (.bif .all (.cons (.lc (.call "is_item" (.cons (.var 1 "key") .nil)) (.name 1 "key") (.seq (.var 0 "value")) .nil [("key", 1)]) .nil))) .nil)))) (.cons (.ret (.cst (.bl false))) .nil) .nil) (.cons (.asg 2 "items" (.lst .nil)) (.cons (.for_ (.name 3 "block") (.values (.var 0 "value")) (.cons (.if_ (.bop false (.cons (.not (.isi (.var 3 "block") .tuple)) (.cons (.not (.bif .all (.cons (.lc (.call "is_item" (.cons (.var 4 "item") .nil)) (.name 4 "item") (.seq (.var 3 "block")) .nil [("item", 4)]) .nil))) .nil))) (.cons (.ret (.cst (.bl false))) .nil) .nil) (.cons (.exp (.mth .extend (.var 2 "items") (.cons (.var 3 "block") .nil))) .nil)) [1, 3, 4]) (.cons (.ret (.cmp .eq (.bif .sorted (.cons (.var 2 "items") .nil)) (.bif .sorted (.cons (.var 0 "value") .nil)))) .nil))))
def d_is_effect : Fd := ⟨1, 5, b_is_effect⟩
def b_require_effect : Ss := (.cons (.if_ (.not (.call "is_effect" (.cons (.var 0 "value") .nil))) (.cons (.raise "NoEffect") .nil) .nil) .nil)
def d_require_effect : Fd := ⟨1, 1, b_require_effect⟩
def b_in_order : Ss := (.cons (.ret (.dc (.var 1 "key") (.idx (.var 0 "effect") (.var 1 "key")) (.name 1 "key") (.seq (.bif .sorted (.cons (.var 0 "effect") .nil))) .nil [("key", 1)])) .nil)
def d_in_order : Fd := ⟨1, 2, b_in_order⟩
def b_joined : Ss := (.cons (.exp (.call "require_effect" (.cons (.var 0 "effect") .nil))) (.cons (.exp (.call "require_effect" (.cons (.var 1 "other_effect") .nil))) (.cons (.if_ (.cmp .ne (.bif .sorted (.cons (.var 0 "effect") .nil)) (.bif .sorted (.cons (.var 1 "other_effect") .nil))) (.cons (.raise "NotAlike") .nil) .nil) (.cons (.ret (.call "in_order" (.cons (.call "joined_in" (.cons (.var 0 "effect") (.cons (.var 1 "other_effect") .nil))) .nil))) .nil))))
def d_joined : Fd := ⟨2, 2, b_joined⟩
def b_require_times : Ss := (.cons (.if_ (.not (.call "in_range" (.cons (.var 0 "value") (.cons (.var 1 "low") (.cons (.var 2 "high") .nil))))) (.cons (.raise "NoTimes") .nil) .nil) .nil)
def d_require_times : Fd := ⟨3, 3, b_require_times⟩
def b_line_by : Ss := (.cons (.asg 2 "found" (.tup .nil)) (.cons (.for_ (.name 3 "item") (.seq (.var 0 "line")) (.cons (.aug 2 "found" .add (.call "block_in" (.cons (.var 1 "blocks") (.cons (.var 3 "item") .nil)))) .nil) [0, 3]) (.cons (.ret (.var 2 "found")) .nil)))
def d_line_by : Fd := ⟨2, 4, b_line_by⟩
def b_powers : Ss := (.cons (.asg 2 "found" (.dc (.var 3 "item") (.tup (.cons (.var 3 "item") .nil)) (.name 3 "item") (.seq (.var 0 "blocks")) .nil [("item", 3)])) (.cons (.whl (.cmp .gt (.var 1 "times") (.cst (.int 0))) (.cons (.if_ (.cmp .eq (.bin .mod (.var 1 "times") (.cst (.int 2))) (.cst (.int 1))) (.cons (.asg 2 "found" (.call "joined_in" (.cons (.var 2 "found") (.cons (.var 0 "blocks") .nil)))) .nil) .nil) (.cons (.aug 1 "times" .fdiv (.cst (.int 2))) (.cons (.if_ (.cmp .gt (.var 1 "times") (.cst (.int 0))) (.cons (.asg 0 "blocks" (.call "joined_in" (.cons (.var 0 "blocks") (.cons (.var 0 "blocks") .nil)))) .nil) .nil) .nil))) [3]) (.cons (.ret (.var 2 "found")) .nil)))
def d_powers : Fd := ⟨2, 4, b_powers⟩
def b_after_times : Ss := (.cons (.exp (.call "require_line" (.cons (.var 0 "line") .nil))) (.cons (.exp (.call "require_script" (.cons (.var 1 "script") .nil))) (.cons (.exp (.call "require_times" (.cons (.var 2 "times") (.cons (.cst (.int 0)) (.cons (.gv "MOST_TIMES") .nil))))) (.cons (.exp (.call "require_there" (.cons (.var 0 "line") (.cons (.call "named_in" (.cons (.var 1 "script") .nil)) .nil)))) (.cons (.ret (.call "line_by" (.cons (.var 0 "line") (.cons (.call "powers" (.cons (.call "blocks_in" (.cons (.var 1 "script") .nil)) (.cons (.var 2 "times") .nil))) .nil)))) .nil)))))
def d_after_times : Fd := ⟨3, 3, b_after_times⟩
def b_blocks_after : Ss := (.cons (.exp (.call "require_script" (.cons (.var 0 "script") .nil))) (.cons (.exp (.call "require_times" (.cons (.var 1 "times") (.cons (.cst (.int 0)) (.cons (.gv "MOST_TIMES") .nil))))) (.cons (.ret (.call "powers" (.cons (.call "blocks_in" (.cons (.var 0 "script") .nil)) (.cons (.var 1 "times") .nil)))) .nil)))
def d_blocks_after : Fd := ⟨2, 2, b_blocks_after⟩
def b_rings_in : Ss := (.cons (.asg 1 "sources" (.call "sources_in" (.cons (.var 0 "blocks") .nil))) (.cons (.asg 2 "seen" (.dnil)) (.cons (.asg 3 "found" (.lst .nil)) (.cons (.for_ (.name 4 "start") (.seq (.bif .sorted (.cons (.var 0 "blocks") .nil))) (.cons (.asg 5 "way" (.lst .nil)) (.cons (.asg 6 "item" (.var 4 "start")) (.cons (.whl (.cmp .nin (.var 6 "item") (.var 2 "seen")) (.cons (.sto (.var 2 "seen") (.var 6 "item") (.var 4 "start")) (.cons (.exp (.mth .append (.var 5 "way") (.cons (.var 6 "item") .nil))) (.cons (.asg 6 "item" (.idx (.var 1 "sources") (.var 6 "item"))) .nil))) [0, 7, 8]) (.cons (.if_ (.bop true (.cons (.cmp .eq (.idx (.var 2 "seen") (.var 6 "item")) (.var 4 "start")) (.cons (.cmp .ne (.var 5 "way") (.lst .nil)) .nil))) (.cons (.asg 7 "ring" (.slc (.var 5 "way") (.yes (.mth .index (.var 5 "way") (.cons (.var 6 "item") .nil))) .no)) (.cons (.asg 8 "least" (.mth .index (.var 7 "ring") (.cons (.bif .min (.cons (.var 7 "ring") .nil)) .nil))) (.cons (.exp (.mth .append (.var 3 "found") (.cons (.bin .add (.slc (.var 7 "ring") (.yes (.var 8 "least")) .no) (.slc (.var 7 "ring") .no (.yes (.var 8 "least")))) .nil))) .nil))) .nil) .nil)))) [0, 4, 5, 6, 7, 8]) (.cons (.ret (.bif .sorted (.cons (.var 3 "found") .nil))) .nil)))))
def d_rings_in : Fd := ⟨1, 9, b_rings_in⟩
def b_settled_after : Ss := (.cons (.exp (.call "require_script" (.cons (.var 0 "script") .nil))) (.cons (.ret (.call "settled_in" (.cons (.call "blocks_in" (.cons (.var 0 "script") .nil)) .nil))) .nil))
def d_settled_after : Fd := ⟨1, 1, b_settled_after⟩
def b_final_blocks : Ss := (.cons (.exp (.call "require_script" (.cons (.var 0 "script") .nil))) (.cons (.asg 1 "blocks" (.call "blocks_in" (.cons (.var 0 "script") .nil))) (.cons (.ret (.bif .sorted (.cons (.lc (.var 2 "block") (.name 2 "block") (.values (.call "powers" (.cons (.var 1 "blocks") (.cons (.call "settled_in" (.cons (.var 1 "blocks") .nil)) .nil)))) (.cons (.cmp .ne (.var 2 "block") (.tup .nil)) .nil) [("block", 2)]) .nil))) .nil)))
def d_final_blocks : Fd := ⟨1, 3, b_final_blocks⟩
def b_greatest_divisor : Ss := (.cons (.whl (.cmp .gt (.var 1 "other") (.cst (.int 0))) (.cons (.par [(0, "one"), (1, "other")] (.cons (.var 1 "other") (.cons (.bin .mod (.var 0 "one") (.var 1 "other")) .nil))) .nil) []) (.cons (.ret (.var 0 "one")) .nil))
def d_greatest_divisor : Fd := ⟨2, 2, b_greatest_divisor⟩
def b_lcm_of : Ss := (.cons (.asg 1 "found" (.cst (.int 1))) (.cons (.for_ (.name 2 "number") (.seq (.var 0 "numbers")) (.cons (.asg 1 "found" (.bin .fdiv (.bin .mul (.var 1 "found") (.var 2 "number")) (.call "greatest_divisor" (.cons (.var 1 "found") (.cons (.var 2 "number") .nil))))) .nil) [0, 2]) (.cons (.ret (.var 1 "found")) .nil)))
def d_lcm_of : Fd := ⟨1, 3, b_lcm_of⟩
def b_rings_of : Ss := (.cons (.exp (.call "require_script" (.cons (.var 0 "script") .nil))) (.cons (.ret (.call "rings_in" (.cons (.call "blocks_in" (.cons (.var 0 "script") .nil)) .nil))) .nil))
def d_rings_of : Fd := ⟨1, 1, b_rings_of⟩
def b_period : Ss := (.cons (.exp (.call "require_script" (.cons (.var 0 "script") .nil))) (.cons (.ret (.call "lcm_of" (.cons (.lc (.bif .len (.cons (.var 1 "ring") .nil)) (.name 1 "ring") (.seq (.call "rings_in" (.cons (.call "blocks_in" (.cons (.var 0 "script") .nil)) .nil))) .nil [("ring", 1)]) .nil))) .nil))
def d_period : Fd := ⟨1, 2, b_period⟩
def b_sources_of : Ss := (.cons (.asg 3 "sources" (.call "sources_in" (.cons (.var 0 "blocks") .nil))) (.cons (.ret (.tup (.cons (.mth .get (.var 3 "sources") (.cons (.var 1 "item") (.cons (.var 1 "item") .nil))) (.cons (.mth .get (.var 3 "sources") (.cons (.var 2 "other") (.cons (.var 2 "other") .nil))) .nil)))) .nil))
def d_sources_of : Fd := ⟨3, 4, b_sources_of⟩
def b_relation_in : Ss := (.cons (.unp [(3, "one"), (4, "two")] (.call "sources_of" (.cons (.var 0 "blocks") (.cons (.var 1 "item") (.cons (.var 2 "other") .nil))))) (.cons (.if_ (.cmp .ne (.var 3 "one") (.var 4 "two")) (.cons (.ret (.gv "OPEN")) .nil) .nil) (.cons (.asg 5 "block" (.call "block_in" (.cons (.var 0 "blocks") (.cons (.var 3 "one") .nil)))) (.cons (.ret (.ite (.cmp .lt (.mth .index (.var 5 "block") (.cons (.var 1 "item") .nil)) (.mth .index (.var 5 "block") (.cons (.var 2 "other") .nil))) (.gv "AHEAD") (.gv "BEHIND"))) .nil))))
def d_relation_in : Fd := ⟨3, 6, b_relation_in⟩
def b_require_two : Ss := (.cons (.exp (.call "require_item" (.cons (.var 0 "item") .nil))) (.cons (.exp (.call "require_item" (.cons (.var 1 "other") .nil))) (.cons (.if_ (.cmp .eq (.var 0 "item") (.var 1 "other")) (.cons (.raise "NoItem") .nil) .nil) .nil)))
def d_require_two : Fd := ⟨2, 2, b_require_two⟩
def b_relation : Ss := (.cons (.exp (.call "require_script" (.cons (.var 0 "script") .nil))) (.cons (.exp (.call "require_two" (.cons (.var 1 "item") (.cons (.var 2 "other") .nil)))) (.cons (.exp (.call "require_times" (.cons (.var 3 "times") (.cons (.cst (.int 0)) (.cons (.gv "MOST_TIMES") .nil))))) (.cons (.ret (.call "relation_in" (.cons (.call "powers" (.cons (.call "blocks_in" (.cons (.var 0 "script") .nil)) (.cons (.var 3 "times") .nil))) (.cons (.var 1 "item") (.cons (.var 2 "other") .nil))))) .nil))))
def d_relation : Fd := ⟨4, 4, b_relation⟩
def b_deciding : Ss := (.cons (.exp (.call "require_script" (.cons (.var 0 "script") .nil))) (.cons (.exp (.call "require_two" (.cons (.var 1 "item") (.cons (.var 2 "other") .nil)))) (.cons (.exp (.call "require_times" (.cons (.var 3 "times") (.cons (.cst (.int 0)) (.cons (.gv "MOST_TIMES") .nil))))) (.cons (.unp [(4, "one"), (5, "two")] (.call "sources_of" (.cons (.call "powers" (.cons (.call "blocks_in" (.cons (.var 0 "script") .nil)) (.cons (.var 3 "times") .nil))) (.cons (.var 1 "item") (.cons (.var 2 "other") .nil))))) (.cons (.ret (.ite (.cmp .ne (.var 4 "one") (.var 5 "two")) (.tup (.cons (.var 4 "one") (.cons (.var 5 "two") .nil))) (.cst .non))) .nil)))))
def d_deciding : Fd := ⟨4, 6, b_deciding⟩
def b_is_pair : Ss := (.cons (.if_ (.bop false (.cons (.not (.isi (.var 0 "value") .tuple)) (.cons (.cmp .ne (.bif .len (.cons (.var 0 "value") .nil)) (.cst (.int 2))) (.cons (.not (.bif .all (.cons (.lc (.call "is_item" (.cons (.var 1 "item") .nil)) (.name 1 "item") (.seq (.var 0 "value")) .nil [("item", 1)]) .nil))) .nil)))) (.cons (.ret (.cst (.bl false))) .nil) .nil) (.cons (.ret (.cmp .ne (.idx (.var 0 "value") (.cst (.int 0))) (.idx (.var 0 "value") (.cst (.int 1))))) .nil))
def d_is_pair : Fd := ⟨1, 2, b_is_pair⟩
def b_require_pairs : Ss := (.cons (.if_ (.bop false (.cons (.not (.isi (.var 0 "value") .tuple)) (.cons (.not (.bif .all (.cons (.lc (.call "is_pair" (.cons (.var 1 "pair") .nil)) (.name 1 "pair") (.seq (.var 0 "value")) .nil [("pair", 1)]) .nil))) .nil))) (.cons (.raise "NoPairs") .nil) .nil) (.cons (.if_ (.bif .any (.cons (.lc (.cmp .in_ (.var 2 "item") (.var 3 "reached")) (.tup [(2, "item"), (3, "reached")]) (.items (.call "followers" (.cons (.var 0 "value") .nil))) .nil [("item", 2), ("reached", 3)]) .nil)) (.cons (.raise "NoPairs") .nil) .nil) .nil))
def d_require_pairs : Fd := ⟨1, 4, b_require_pairs⟩
def b_relation_with : Ss := (.cons (.exp (.call "require_script" (.cons (.var 0 "script") .nil))) (.cons (.exp (.call "require_two" (.cons (.var 1 "item") (.cons (.var 2 "other") .nil)))) (.cons (.exp (.call "require_pairs" (.cons (.var 3 "known") .nil))) (.cons (.exp (.call "require_times" (.cons (.var 4 "times") (.cons (.cst (.int 0)) (.cons (.gv "MOST_TIMES") .nil))))) (.cons (.asg 5 "blocks" (.call "powers" (.cons (.call "blocks_in" (.cons (.var 0 "script") .nil)) (.cons (.var 4 "times") .nil)))) (.cons (.unp [(6, "one"), (7, "two")] (.call "sources_of" (.cons (.var 5 "blocks") (.cons (.var 1 "item") (.cons (.var 2 "other") .nil))))) (.cons (.if_ (.cmp .eq (.var 6 "one") (.var 7 "two")) (.cons (.ret (.call "relation_in" (.cons (.var 5 "blocks") (.cons (.var 1 "item") (.cons (.var 2 "other") .nil))))) .nil) .nil) (.cons (.asg 8 "behind" (.call "followers" (.cons (.var 3 "known") .nil))) (.cons (.if_ (.cmp .in_ (.var 7 "two") (.mth .get (.var 8 "behind") (.cons (.var 6 "one") (.cons (.lst .nil) .nil)))) (.cons (.ret (.gv "AHEAD")) .nil) .nil) (.cons (.ret (.ite (.cmp .in_ (.var 6 "one") (.mth .get (.var 8 "behind") (.cons (.var 7 "two") (.cons (.lst .nil) .nil)))) (.gv "BEHIND") (.gv "OPEN"))) .nil))))))))))
def d_relation_with : Fd := ⟨5, 9, b_relation_with⟩
def b_ways : Ss := (.cons (.asg 2 "found" (.cst (.int 1))) (.cons (.for_ (.name 3 "factor") (.rng2 (.bin .add (.var 1 "sources") (.cst (.int 1))) (.bin .add (.bin .add (.var 1 "sources") (.var 0 "others")) (.cst (.int 1)))) (.cons (.aug 2 "found" .mul (.var 3 "factor")) .nil) [0, 1, 3]) (.cons (.ret (.var 2 "found")) .nil)))
def d_ways : Fd := ⟨2, 4, b_ways⟩
def b_pieces_in : Ss := (.cons (.asg 2 "heads" (.dc (.idx (.call "block_in" (.cons (.var 1 "blocks") (.cons (.var 3 "item") .nil))) (.cst (.int 0))) (.var 3 "item") (.name 3 "item") (.seq (.var 0 "line")) (.cons (.cmp .ne (.call "block_in" (.cons (.var 1 "blocks") (.cons (.var 3 "item") .nil))) (.tup .nil)) .nil) [("item", 3)])) (.cons (.asg 4 "found" (.lst .nil)) (.cons (.asg 5 "place" (.cst (.int 0))) (.cons (.whl (.cmp .lt (.var 5 "place") (.bif .len (.cons (.var 0 "line") .nil))) (.cons (.asg 3 "item" (.mth .get (.var 2 "heads") (.cons (.idx (.var 0 "line") (.var 5 "place")) .nil))) (.cons (.if_ (.bop false (.cons (.cmp .is_ (.var 3 "item") (.cst .non)) (.cons (.cmp .ne (.slc (.var 0 "line") (.yes (.var 5 "place")) (.yes (.bin .add (.var 5 "place") (.bif .len (.cons (.call "block_in" (.cons (.var 1 "blocks") (.cons (.var 3 "item") .nil))) .nil))))) (.call "block_in" (.cons (.var 1 "blocks") (.cons (.var 3 "item") .nil)))) .nil))) (.cons (.ret (.cst .non)) .nil) .nil) (.cons (.exp (.mth .append (.var 4 "found") (.cons (.var 3 "item") .nil))) (.cons (.aug 5 "place" .add (.bif .len (.cons (.call "block_in" (.cons (.var 1 "blocks") (.cons (.var 3 "item") .nil))) .nil))) .nil)))) [3]) (.cons (.ret (.var 4 "found")) .nil)))))
def d_pieces_in : Fd := ⟨2, 6, b_pieces_in⟩
def b_require_run : Ss := (.cons (.exp (.call "require_line" (.cons (.var 0 "line") .nil))) (.cons (.exp (.call "require_script" (.cons (.var 1 "script") .nil))) (.cons (.exp (.call "require_times" (.cons (.var 2 "times") (.cons (.cst (.int 0)) (.cons (.gv "MOST_TIMES") .nil))))) (.cons (.exp (.call "require_there" (.cons (.var 0 "line") (.cons (.call "named_in" (.cons (.var 1 "script") .nil)) .nil)))) .nil))))
def d_require_run : Fd := ⟨3, 3, b_require_run⟩
def b_count_in : Ss := (.cons (.asg 2 "pieces" (.call "pieces_in" (.cons (.var 0 "line") (.cons (.var 1 "blocks") .nil)))) (.cons (.ret (.ite (.cmp .is_ (.var 2 "pieces") (.cst .non)) (.cst (.int 0)) (.call "ways" (.cons (.bin .sub (.bif .len (.cons (.var 0 "line") .nil)) (.bif .len (.cons (.var 2 "pieces") .nil))) (.cons (.bif .len (.cons (.var 2 "pieces") .nil)) .nil))))) .nil))
def d_count_in : Fd := ⟨2, 3, b_count_in⟩
def b_count_ends : Ss := (.cons (.exp (.call "require_script" (.cons (.var 0 "script") .nil))) (.cons (.exp (.call "require_times" (.cons (.var 1 "times") (.cons (.cst (.int 0)) (.cons (.gv "MOST_TIMES") .nil))))) (.cons (.ret (.call "ways" (.cons (.bif .len (.cons (.lc (.var 2 "block") (.name 2 "block") (.values (.call "powers" (.cons (.call "blocks_in" (.cons (.var 0 "script") .nil)) (.cons (.var 1 "times") .nil)))) (.cons (.cmp .ne (.var 2 "block") (.tup .nil)) .nil) [("block", 2)]) .nil)) (.cons (.cst (.int 0)) .nil)))) .nil)))
def d_count_ends : Fd := ⟨2, 3, b_count_ends⟩
def b_count_starts : Ss := (.cons (.exp (.call "require_run" (.cons (.var 0 "line") (.cons (.var 1 "script") (.cons (.var 2 "times") .nil))))) (.cons (.ret (.call "count_in" (.cons (.var 0 "line") (.cons (.call "powers" (.cons (.call "blocks_in" (.cons (.var 1 "script") .nil)) (.cons (.var 2 "times") .nil))) .nil)))) .nil))
def d_count_starts : Fd := ⟨3, 3, b_count_starts⟩
def b_nth_start : Ss := (.cons (.exp (.call "require_run" (.cons (.var 0 "line") (.cons (.var 1 "script") (.cons (.var 3 "times") .nil))))) (.cons (.asg 4 "blocks" (.call "powers" (.cons (.call "blocks_in" (.cons (.var 1 "script") .nil)) (.cons (.var 3 "times") .nil)))) (.cons (.if_ (.not (.call "in_range" (.cons (.var 2 "number") (.cons (.cst (.int 0)) (.cons (.bin .sub (.call "count_in" (.cons (.var 0 "line") (.cons (.var 4 "blocks") .nil))) (.cst (.int 1))) .nil))))) (.cons (.raise "NoNumber") .nil) .nil) (.cons (.asg 5 "pieces" (.call "pieces_in" (.cons (.var 0 "line") (.cons (.var 4 "blocks") .nil)))) (.cons (.asg 6 "others" (.bif .sorted (.cons (.lc (.var 7 "item") (.name 7 "item") (.seq (.var 0 "line")) (.cons (.cmp .nin (.var 7 "item") (.var 5 "pieces")) .nil) [("item", 7)]) .nil))) (.cons (.asg 8 "found" (.lst .nil)) (.cons (.whl (.bop false (.cons (.cmp .ne (.var 5 "pieces") (.lst .nil)) (.cons (.cmp .ne (.var 6 "others") (.lst .nil)) .nil))) (.cons (.for_ (.name 7 "item") (.seq (.bif .sorted (.cons (.bin .add (.var 6 "others") (.slc (.var 5 "pieces") .no (.yes (.cst (.int 1))))) .nil))) (.cons (.asg 9 "is_piece" (.cmp .nin (.var 7 "item") (.var 6 "others"))) (.cons (.asg 10 "many" (.call "ways" (.cons (.bin .sub (.bif .len (.cons (.var 6 "others") .nil)) (.bif .int (.cons (.not (.var 9 "is_piece")) .nil))) (.cons (.bin .sub (.bif .len (.cons (.var 5 "pieces") .nil)) (.bif .int (.cons (.var 9 "is_piece") .nil))) .nil)))) (.cons (.if_ (.cmp .lt (.var 2 "number") (.var 10 "many")) (.cons (.brk) .nil) .nil) (.cons (.aug 2 "number" .sub (.var 10 "many")) .nil)))) [0, 1, 3, 4, 10]) (.cons (.wipe [0, 1, 3, 4, 10]) (.cons (.exp (.mth .append (.var 8 "found") (.cons (.var 7 "item") .nil))) (.cons (.if_ (.var 9 "is_piece") (.cons (.asg 5 "pieces" (.slc (.var 5 "pieces") (.yes (.cst (.int 1))) .no)) .nil) (.cons (.exp (.mth .remove (.var 6 "others") (.cons (.var 7 "item") .nil))) .nil)) .nil)))) [0, 1, 3, 4, 10]) (.cons (.wipe [0, 1, 3, 4, 10]) (.cons (.ret (.bif .tuple (.cons (.var 8 "found") .nil))) .nil)))))))))
def d_nth_start : Fd := ⟨4, 11, b_nth_start⟩
def b_start_number : Ss := (.cons (.exp (.call "require_run" (.cons (.var 0 "line") (.cons (.var 1 "script") (.cons (.var 2 "times") .nil))))) (.cons (.asg 3 "blocks" (.call "powers" (.cons (.call "blocks_in" (.cons (.var 1 "script") .nil)) (.cons (.var 2 "times") .nil)))) (.cons (.asg 4 "kept" (.lc (.var 5 "key") (.name 5 "key") (.seq (.var 0 "line")) (.cons (.cmp .ne (.call "block_in" (.cons (.var 3 "blocks") (.cons (.var 5 "key") .nil))) (.tup .nil)) .nil) [("key", 5)])) (.cons (.asg 6 "others" (.lc (.var 7 "item") (.name 7 "item") (.seq (.var 0 "line")) (.cons (.cmp .nin (.var 7 "item") (.var 4 "kept")) .nil) [("item", 7)])) (.cons (.asg 8 "found" (.cst (.int 0))) (.cons (.for_ (.name 7 "item") (.seq (.var 0 "line")) (.cons (.for_ (.name 9 "lesser") (.seq (.bin .add (.var 6 "others") (.slc (.var 4 "kept") .no (.yes (.cst (.int 1)))))) (.cons (.if_ (.cmp .lt (.var 9 "lesser") (.var 7 "item")) (.cons (.asg 10 "is_piece" (.cmp .nin (.var 9 "lesser") (.var 6 "others"))) (.cons (.aug 8 "found" .add (.call "ways" (.cons (.bin .sub (.bif .len (.cons (.var 6 "others") .nil)) (.bif .int (.cons (.not (.var 10 "is_piece")) .nil))) (.cons (.bin .sub (.bif .len (.cons (.var 4 "kept") .nil)) (.bif .int (.cons (.var 10 "is_piece") .nil))) .nil)))) .nil)) .nil) .nil) [0, 1, 2, 3, 5, 9, 10]) (.cons (.if_ (.cmp .in_ (.var 7 "item") (.var 6 "others")) (.cons (.exp (.mth .remove (.var 6 "others") (.cons (.var 7 "item") .nil))) .nil) (.cons (.asg 4 "kept" (.slc (.var 4 "kept") (.yes (.cst (.int 1))) .no)) .nil)) .nil)) [0, 1, 2, 3, 5, 7, 9, 10]) (.cons (.ret (.var 8 "found")) .nil)))))))
def d_start_number : Fd := ⟨3, 11, b_start_number⟩
def b_bare_rings : Ss := (.cons (.asg 1 "sources" (.call "sources_in" (.cons (.var 0 "effect") .nil))) (.cons (.asg 2 "found" (.lst .nil)) (.cons (.asg 3 "seen" (.dnil)) (.cons (.for_ (.name 4 "start") (.seq (.bif .sorted (.cons (.var 0 "effect") .nil))) (.cons (.asg 5 "ring" (.lst .nil)) (.cons (.asg 6 "item" (.var 4 "start")) (.cons (.whl (.bop true (.cons (.cmp .nin (.var 6 "item") (.var 3 "seen")) (.cons (.cmp .ne (.idx (.var 0 "effect") (.var 6 "item")) (.tup (.cons (.var 6 "item") .nil))) (.cons (.cmp .eq (.bif .len (.cons (.idx (.var 0 "effect") (.var 6 "item")) .nil)) (.cst (.int 1))) .nil)))) (.cons (.sto (.var 3 "seen") (.var 6 "item") (.cst (.bl true))) (.cons (.exp (.mth .append (.var 5 "ring") (.cons (.var 6 "item") .nil))) (.cons (.asg 6 "item" (.idx (.var 1 "sources") (.var 6 "item"))) .nil))) []) (.cons (.if_ (.bop true (.cons (.cmp .ne (.var 5 "ring") (.lst .nil)) (.cons (.cmp .eq (.var 6 "item") (.var 4 "start")) .nil))) (.cons (.exp (.mth .append (.var 2 "found") (.cons (.var 5 "ring") .nil))) .nil) .nil) .nil)))) [4, 5, 6]) (.cons (.ret (.var 2 "found")) .nil)))))
def d_bare_rings : Fd := ⟨1, 7, b_bare_rings⟩
def b_is_possible : Ss := (.cons (.exp (.call "require_effect" (.cons (.var 0 "effect") .nil))) (.cons (.ret (.call "possible_in" (.cons (.var 0 "effect") .nil))) .nil))
def d_is_possible : Fd := ⟨1, 1, b_is_possible⟩
def b_require_possible : Ss := (.cons (.exp (.call "require_effect" (.cons (.var 0 "effect") .nil))) (.cons (.if_ (.not (.call "possible_in" (.cons (.var 0 "effect") .nil))) (.cons (.raise "Impossible") .nil) .nil) .nil))
def d_require_possible : Fd := ⟨1, 1, b_require_possible⟩
def b_fewest_commands : Ss := (.cons (.exp (.call "require_possible" (.cons (.var 0 "effect") .nil))) (.cons (.ret (.bif .len (.cons (.call "plan_in" (.cons (.var 0 "effect") .nil)) .nil))) .nil))
def d_fewest_commands : Fd := ⟨1, 1, b_fewest_commands⟩
def b_plan_for : Ss := (.cons (.exp (.call "require_possible" (.cons (.var 0 "effect") .nil))) (.cons (.ret (.call "plan_in" (.cons (.var 0 "effect") .nil))) .nil))
def d_plan_for : Fd := ⟨1, 1, b_plan_for⟩
def b_has_effect : Ss := (.cons (.exp (.call "require_script" (.cons (.var 0 "script") .nil))) (.cons (.exp (.call "require_effect" (.cons (.var 1 "effect") .nil))) (.cons (.if_ (.not (.bif .all (.cons (.lc (.cmp .in_ (.var 2 "item") (.var 1 "effect")) (.name 2 "item") (.seq (.call "named_in" (.cons (.var 0 "script") .nil))) .nil [("item", 2)]) .nil))) (.cons (.ret (.cst (.bl false))) .nil) .nil) (.cons (.asg 3 "blocks" (.call "blocks_in" (.cons (.var 0 "script") .nil))) (.cons (.ret (.bif .all (.cons (.lc (.cmp .eq (.call "block_in" (.cons (.var 3 "blocks") (.cons (.var 2 "item") .nil))) (.var 4 "block")) (.tup [(2, "item"), (4, "block")]) (.items (.var 1 "effect")) .nil [("item", 2), ("block", 4)]) .nil))) .nil)))))
def d_has_effect : Fd := ⟨2, 5, b_has_effect⟩
def b_count_effects : Ss := (.cons (.if_ (.not (.call "in_range" (.cons (.var 0 "size") (.cons (.cst (.int 1)) (.cons (.gv "ITEMS") .nil))))) (.cons (.raise "NoSize") .nil) .nil) (.cons (.unp [(1, "arrangements"), (2, "permutations")] (.tup (.cons (.cst (.int 1)) (.cons (.cst (.int 1)) .nil)))) (.cons (.for_ (.name 3 "factor") (.rng2 (.var 0 "size") (.bin .mul (.cst (.int 2)) (.var 0 "size"))) (.cons (.aug 1 "arrangements" .mul (.var 3 "factor")) .nil) [3]) (.cons (.for_ (.name 3 "factor") (.rng2 (.cst (.int 2)) (.bin .add (.var 0 "size") (.cst (.int 1)))) (.cons (.aug 2 "permutations" .mul (.var 3 "factor")) .nil) [0, 3]) (.cons (.ret (.bin .add (.bin .sub (.var 1 "arrangements") (.var 2 "permutations")) (.cst (.int 1)))) .nil)))))
def d_count_effects : Fd := ⟨1, 4, b_count_effects⟩
def b_require_alike : Ss := (.cons (.exp (.call "require_line" (.cons (.var 0 "line") .nil))) (.cons (.exp (.call "require_line" (.cons (.var 1 "target") .nil))) (.cons (.if_ (.cmp .ne (.bif .sorted (.cons (.var 0 "line") .nil)) (.bif .sorted (.cons (.var 1 "target") .nil))) (.cons (.raise "NotAlike") .nil) .nil) .nil)))
def d_require_alike : Fd := ⟨2, 2, b_require_alike⟩
def b_fewest_moves : Ss := (.cons (.exp (.call "require_alike" (.cons (.var 0 "line") (.cons (.var 1 "target") .nil)))) (.cons (.ret (.bin .sub (.bif .len (.cons (.var 0 "line") .nil)) (.bif .len (.cons (.call "longest_kept" (.cons (.var 0 "line") (.cons (.var 1 "target") .nil))) .nil)))) .nil))
def d_fewest_moves : Fd := ⟨2, 2, b_fewest_moves⟩
def b_moves_for : Ss := (.cons (.exp (.call "require_alike" (.cons (.var 0 "line") (.cons (.var 1 "target") .nil)))) (.cons (.asg 2 "kept" (.call "longest_kept" (.cons (.var 0 "line") (.cons (.var 1 "target") .nil)))) (.cons (.asg 3 "found" (.lst .nil)) (.cons (.for_ (.tup [(4, "place"), (5, "item")]) (.enum (.var 1 "target")) (.cons (.if_ (.cmp .nin (.var 5 "item") (.var 2 "kept")) (.cons (.exp (.mth .append (.var 3 "found") (.cons (.ite (.cmp .gt (.var 4 "place") (.cst (.int 0))) (.tup (.cons (.cst (.str "behind")) (.cons (.var 5 "item") (.cons (.idx (.var 1 "target") (.bin .sub (.var 4 "place") (.cst (.int 1)))) .nil)))) (.tup (.cons (.cst (.str "before")) (.cons (.var 5 "item") (.cons (.idx (.var 2 "kept") (.cst (.int 0))) .nil))))) .nil))) .nil) .nil) .nil) [0, 4, 5]) (.cons (.ret (.bif .tuple (.cons (.var 3 "found") .nil))) .nil)))))
def d_moves_for : Fd := ⟨2, 6, b_moves_for⟩
def b_is_friends : Ss := (.cons (.if_ (.bop false (.cons (.not (.isi (.var 0 "value") .dict)) (.cons (.not (.chain .le .le (.cst (.int 1)) (.bif .len (.cons (.var 0 "value") .nil)) (.gv "MOST_KEYS"))) (.cons (.not (.bif .all (.cons (.lc (.call "is_item" (.cons (.var 1 "item") .nil)) (.name 1 "item") (.seq (.var 0 "value")) .nil [("item", 1)]) .nil))) .nil)))) (.cons (.ret (.cst (.bl false))) .nil) .nil) (.cons (.for_ (.tup [(1, "item"), (2, "friend")]) (.items (.var 0 "value")) (.cons (.if_ (.bop true (.cons (.cmp .isn (.var 2 "friend") (.cst .non)) (.cons (.bop false (.cons (.not (.call "is_item" (.cons (.var 2 "friend") .nil))) (.cons (.cmp .nin (.var 2 "friend") (.var 0 "value")) (.cons (.cmp .eq (.var 2 "friend") (.var 1 "item")) .nil)))) .nil))) (.cons (.ret (.cst (.bl false))) .nil) .nil) .nil) [1, 2]) (.cons (.ret (.cst (.bl true))) .nil)))
def d_is_friends : Fd := ⟨1, 3, b_is_friends⟩
def b_require_friends : Ss := (.cons (.if_ (.not (.call "is_friends" (.cons (.var 0 "value") .nil))) (.cons (.raise "NoFriends") .nil) .nil) .nil)
def d_require_friends : Fd := ⟨1, 1, b_require_friends⟩
def b_commands_of : Ss := (.cons (.ret (.bif .tuple (.cons (.lc (.tup (.cons (.cst (.str "behind")) (.cons (.var 1 "item") (.cons (.idx (.var 0 "friends") (.var 1 "item")) .nil)))) (.name 1 "item") (.seq (.bif .sorted (.cons (.var 0 "friends") .nil))) (.cons (.cmp .isn (.idx (.var 0 "friends") (.var 1 "item")) (.cst .non)) .nil) [("item", 1)]) .nil))) .nil)
def d_commands_of : Fd := ⟨1, 2, b_commands_of⟩
def b_day_script : Ss := (.cons (.exp (.call "require_friends" (.cons (.var 0 "friends") .nil))) (.cons (.ret (.call "commands_of" (.cons (.var 0 "friends") .nil))) .nil))
def d_day_script : Fd := ⟨1, 1, b_day_script⟩
def b_after_days : Ss := (.cons (.exp (.call "require_line" (.cons (.var 0 "line") .nil))) (.cons (.exp (.call "require_friends" (.cons (.var 1 "friends") .nil))) (.cons (.exp (.call "require_times" (.cons (.var 2 "days") (.cons (.cst (.int 0)) (.cons (.gv "MOST_TIMES") .nil))))) (.cons (.exp (.call "require_there" (.cons (.var 0 "line") (.cons (.bif .list (.cons (.var 1 "friends") .nil)) .nil)))) (.cons (.ret (.call "line_by" (.cons (.var 0 "line") (.cons (.call "powers" (.cons (.call "blocks_in" (.cons (.call "commands_of" (.cons (.var 1 "friends") .nil)) .nil)) (.cons (.var 2 "days") .nil))) .nil)))) .nil)))))
def d_after_days : Fd := ⟨3, 3, b_after_days⟩
def b_count_final : Ss := (.cons (.exp (.call "require_friends" (.cons (.var 0 "friends") .nil))) (.cons (.asg 1 "found" (.cst (.int 0))) (.cons (.for_ (.tup [(2, "item"), (3, "friend")]) (.items (.var 0 "friends")) (.cons (.asg 4 "here" (.var 3 "friend")) (.cons (.for_ (.name 5 "turn") (.rng1 (.bif .len (.cons (.var 0 "friends") .nil))) (.cons (.if_ (.bop true (.cons (.cmp .isn (.var 4 "here") (.cst .non)) (.cons (.cmp .ne (.var 4 "here") (.var 2 "item")) .nil))) (.cons (.asg 4 "here" (.idx (.var 0 "friends") (.var 4 "here"))) .nil) .nil) .nil) [5]) (.cons (.if_ (.bop false (.cons (.cmp .is_ (.var 3 "friend") (.cst .non)) (.cons (.bop true (.cons (.cmp .eq (.var 4 "here") (.var 2 "item")) (.cons (.cmp .gt (.var 3 "friend") (.var 2 "item")) .nil))) .nil))) (.cons (.aug 1 "found" .add (.cst (.int 1))) .nil) .nil) .nil))) [2, 3, 4, 5]) (.cons (.ret (.var 1 "found")) .nil))))
def d_count_final : Fd := ⟨1, 6, b_count_final⟩
def b_days_needed : Ss := (.cons (.exp (.call "require_friends" (.cons (.var 0 "friends") .nil))) (.cons (.ret (.call "settled_in" (.cons (.call "blocks_in" (.cons (.call "commands_of" (.cons (.var 0 "friends") .nil)) .nil)) .nil))) .nil))
def d_days_needed : Fd := ⟨1, 1, b_days_needed⟩
def b_day_period : Ss := (.cons (.exp (.call "require_friends" (.cons (.var 0 "friends") .nil))) (.cons (.ret (.call "lcm_of" (.cons (.lc (.bif .len (.cons (.var 1 "ring") .nil)) (.name 1 "ring") (.seq (.call "rings_in" (.cons (.call "blocks_in" (.cons (.call "commands_of" (.cons (.var 0 "friends") .nil)) .nil)) .nil))) .nil [("ring", 1)]) .nil))) .nil))
def d_day_period : Fd := ⟨1, 2, b_day_period⟩
def b__wall : Ss := (.cons (.whl (.cst (.bl true)) (.cons (.pass) .nil) [0]) .nil)
def d__wall : Fd := ⟨1, 1, b__wall⟩
def b_is_operation : Ss := (.cons (.if_ (.bop false (.cons (.not (.isi (.var 0 "value") .tuple)) (.cons (.cmp .eq (.var 0 "value") (.tup .nil)) (.cons (.not (.isi (.idx (.var 0 "value") (.cst (.int 0))) .str)) .nil)))) (.cons (.ret (.cst (.bl false))) .nil) .nil) (.cons (.ret (.bop true (.cons (.cmp .in_ (.idx (.var 0 "value") (.cst (.int 0))) (.gv "ITEMS_OF")) (.cons (.cmp .eq (.bif .len (.cons (.var 0 "value") .nil)) (.bin .add (.cst (.int 1)) (.idx (.gv "ITEMS_OF") (.idx (.var 0 "value") (.cst (.int 0)))))) .nil)))) .nil))
def d_is_operation : Fd := ⟨1, 1, b_is_operation⟩
def b_parse_number : Ss := (.cons (.if_ (.bop false (.cons (.not (.chain .le .le (.cst (.int 1)) (.bif .len (.cons (.var 0 "digits") .nil)) (.gv "MOST_DIGITS"))) (.cons (.not (.bif .all (.cons (.lc (.cmp .in_ (.var 1 "digit") (.gv "DIGITS")) (.name 1 "digit") (.seq (.var 0 "digits")) .nil [("digit", 1)]) .nil))) .nil))) (.cons (.ret (.cst .non)) .nil) .nil) (.cons (.ret (.ite (.bop false (.cons (.cmp .eq (.var 0 "digits") (.cst (.str "0"))) (.cons (.cmp .ne (.idx (.var 0 "digits") (.cst (.int 0))) (.cst (.str "0"))) .nil))) (.bif .int (.cons (.var 0 "digits") .nil)) (.cst .non))) .nil))
def d_parse_number : Fd := ⟨1, 2, b_parse_number⟩
def b_need_text : Ss := (.cons (.if_ (.not (.isi (.var 0 "value") .str)) (.cons (.raise "NoText") .nil) .nil) .nil)
def d_need_text : Fd := ⟨1, 1, b_need_text⟩
def b_read_command : Ss := (.cons (.asg 1 "command" (.call "parse_command" (.cons (.var 0 "text") .nil))) (.cons (.if_ (.cmp .is_ (.var 1 "command") (.cst .non)) (.cons (.raise "NoText") .nil) .nil) (.cons (.ret (.var 1 "command")) .nil)))
def d_read_command : Fd := ⟨1, 2, b_read_command⟩
def table : List (Str × Fd) := [tp "is_int" d_is_int, tp "in_range" d_in_range, tp "is_item" d_is_item, tp "is_line" d_is_line, tp "is_command" d_is_command, tp "is_script" d_is_script, tp "require_script" d_require_script, tp "named_in" d_named_in, tp "items_of" d_items_of, tp "require_line" d_require_line, tp "require_command" d_require_command, tp "require_there" d_require_there, tp "require_pair" d_require_pair, tp "moved_in" d_moved_in, tp "script_in" d_script_in, tp "moved" d_moved, tp "after_script" d_after_script, tp "require_item" d_require_item, tp "moved_in_block" d_moved_in_block, tp "blocks_in" d_blocks_in, tp "block_in" d_block_in, tp "block_of" d_block_of, tp "source_of" d_source_of, tp "blocks_of" d_blocks_of, tp "same_blocks" d_same_blocks, tp "joined_in" d_joined_in, tp "is_effect" d_is_effect, tp "require_effect" d_require_effect, tp "in_order" d_in_order, tp "joined" d_joined, tp "require_times" d_require_times, tp "line_by" d_line_by, tp "powers" d_powers, tp "after_times" d_after_times, tp "blocks_after" d_blocks_after, tp "rings_in" d_rings_in, tp "settled_after" d_settled_after, tp "final_blocks" d_final_blocks, tp "greatest_divisor" d_greatest_divisor, tp "lcm_of" d_lcm_of, tp "rings_of" d_rings_of, tp "period" d_period, tp "sources_of" d_sources_of, tp "relation_in" d_relation_in, tp "require_two" d_require_two, tp "relation" d_relation, tp "deciding" d_deciding, tp "is_pair" d_is_pair, tp "require_pairs" d_require_pairs, tp "relation_with" d_relation_with, tp "ways" d_ways, tp "pieces_in" d_pieces_in, tp "require_run" d_require_run, tp "count_in" d_count_in, tp "count_ends" d_count_ends, tp "count_starts" d_count_starts, tp "nth_start" d_nth_start, tp "start_number" d_start_number, tp "bare_rings" d_bare_rings, tp "is_possible" d_is_possible, tp "require_possible" d_require_possible, tp "fewest_commands" d_fewest_commands, tp "plan_for" d_plan_for, tp "has_effect" d_has_effect, tp "count_effects" d_count_effects, tp "require_alike" d_require_alike, tp "fewest_moves" d_fewest_moves, tp "moves_for" d_moves_for, tp "is_friends" d_is_friends, tp "require_friends" d_require_friends, tp "commands_of" d_commands_of, tp "day_script" d_day_script, tp "after_days" d_after_days, tp "count_final" d_count_final, tp "days_needed" d_days_needed, tp "day_period" d_day_period, tp "_wall" d__wall, tp "is_operation" d_is_operation, tp "parse_number" d_parse_number, tp "need_text" d_need_text, tp "read_command" d_read_command]
def cons : List (Str × D) := [cp "ITEMS" (.int 60), cp "MOST_COMMANDS" (.int 200), cp "WORDS" (.tup [.str "behind", .str "before"]), cp "MOST_TIMES" (.int 1000000000000000000000000000000), cp "AHEAD" (.str "ahead"), cp "BEHIND" (.str "behind"), cp "OPEN" (.str "open"), cp "MOST_KEYS" (.int 60), cp "MOST_TIMES_repeats" (.int 1000000000000000000000000000000), cp "MOST_TIMES_friends" (.int 1000000000000000000000000000000), cp "ITEMS_OF" (.fd [.inr "behind", .inr "before", .inr "run", .inr "put", .inr "take"] [.int 2, .int 2, .int 2, .int 1, .int 1]), cp "MOST_TIMES_live" (.int 1000000000000000000000000000000), cp "DIGITS" (.str "0123456789"), cp "MOST_DIGITS" (.int 31), cp "SIGNS" (.fd [.inr "behind", .inr "before"] [.str ">", .str "<"]), cp "EMPTY" (.str "-"), cp "WITH_TEXT" (.tup [.str "line", .str "script", .str "move"]), cp "FORMS" (.fd [.inr "run", .inr "put", .inr "take", .inr "undo", .inr "show", .inr "after", .inr "block", .inr "relation", .inr "settled", .inr "period", .inr "starts"] [.int 1, .int 1, .int 1, .int 0, .int 0, .int 1, .int 1, .int 2, .int 0, .int 0, .int 0]), cp "WITH_LINE" (.tup [.str "move", .str "run", .str "put", .str "take", .str "undo", .str "show", .str "after", .str "starts"]), cp "WITH_SCRIPT" (.tup [.str "run", .str "after", .str "block", .str "relation", .str "settled", .str "period", .str "starts"])]
/-- a table that holds these -/
class Has (t : Tb) : Prop where
  h : ∀ x d, table.lookup x = some d → t.T x = some d
  c : ∀ x d, cons.lookup x = some d → t.C x = some d
theorem c_ITEMS {t : Tb} [h : Has t] : t.C "ITEMS" = some (.int 60) := h.c _ _ (by rfl)
theorem g_ITEMS {t : Tb} {cal : Cal} {sub : Str → Str → Bool} [h : Has t] : GEnv.con ⟨cal, t.C, sub⟩ "ITEMS" = some (.int 60) := c_ITEMS
theorem c_MOST_COMMANDS {t : Tb} [h : Has t] : t.C "MOST_COMMANDS" = some (.int 200) := h.c _ _ (by rfl)
theorem g_MOST_COMMANDS {t : Tb} {cal : Cal} {sub : Str → Str → Bool} [h : Has t] : GEnv.con ⟨cal, t.C, sub⟩ "MOST_COMMANDS" = some (.int 200) := c_MOST_COMMANDS
theorem c_WORDS {t : Tb} [h : Has t] : t.C "WORDS" = some (.tup [.str "behind", .str "before"]) := h.c _ _ (by rfl)
theorem g_WORDS {t : Tb} {cal : Cal} {sub : Str → Str → Bool} [h : Has t] : GEnv.con ⟨cal, t.C, sub⟩ "WORDS" = some (.tup [.str "behind", .str "before"]) := c_WORDS
theorem c_MOST_TIMES {t : Tb} [h : Has t] : t.C "MOST_TIMES" = some (.int 1000000000000000000000000000000) := h.c _ _ (by rfl)
theorem g_MOST_TIMES {t : Tb} {cal : Cal} {sub : Str → Str → Bool} [h : Has t] : GEnv.con ⟨cal, t.C, sub⟩ "MOST_TIMES" = some (.int 1000000000000000000000000000000) := c_MOST_TIMES
theorem c_AHEAD {t : Tb} [h : Has t] : t.C "AHEAD" = some (.str "ahead") := h.c _ _ (by rfl)
theorem g_AHEAD {t : Tb} {cal : Cal} {sub : Str → Str → Bool} [h : Has t] : GEnv.con ⟨cal, t.C, sub⟩ "AHEAD" = some (.str "ahead") := c_AHEAD
theorem c_BEHIND {t : Tb} [h : Has t] : t.C "BEHIND" = some (.str "behind") := h.c _ _ (by rfl)
theorem g_BEHIND {t : Tb} {cal : Cal} {sub : Str → Str → Bool} [h : Has t] : GEnv.con ⟨cal, t.C, sub⟩ "BEHIND" = some (.str "behind") := c_BEHIND
theorem c_OPEN {t : Tb} [h : Has t] : t.C "OPEN" = some (.str "open") := h.c _ _ (by rfl)
theorem g_OPEN {t : Tb} {cal : Cal} {sub : Str → Str → Bool} [h : Has t] : GEnv.con ⟨cal, t.C, sub⟩ "OPEN" = some (.str "open") := c_OPEN
theorem c_MOST_KEYS {t : Tb} [h : Has t] : t.C "MOST_KEYS" = some (.int 60) := h.c _ _ (by rfl)
theorem g_MOST_KEYS {t : Tb} {cal : Cal} {sub : Str → Str → Bool} [h : Has t] : GEnv.con ⟨cal, t.C, sub⟩ "MOST_KEYS" = some (.int 60) := c_MOST_KEYS
theorem c_MOST_TIMES_repeats {t : Tb} [h : Has t] : t.C "MOST_TIMES_repeats" = some (.int 1000000000000000000000000000000) := h.c _ _ (by rfl)
theorem g_MOST_TIMES_repeats {t : Tb} {cal : Cal} {sub : Str → Str → Bool} [h : Has t] : GEnv.con ⟨cal, t.C, sub⟩ "MOST_TIMES_repeats" = some (.int 1000000000000000000000000000000) := c_MOST_TIMES_repeats
theorem c_MOST_TIMES_friends {t : Tb} [h : Has t] : t.C "MOST_TIMES_friends" = some (.int 1000000000000000000000000000000) := h.c _ _ (by rfl)
theorem g_MOST_TIMES_friends {t : Tb} {cal : Cal} {sub : Str → Str → Bool} [h : Has t] : GEnv.con ⟨cal, t.C, sub⟩ "MOST_TIMES_friends" = some (.int 1000000000000000000000000000000) := c_MOST_TIMES_friends
theorem c_ITEMS_OF {t : Tb} [h : Has t] : t.C "ITEMS_OF" = some (.fd [.inr "behind", .inr "before", .inr "run", .inr "put", .inr "take"] [.int 2, .int 2, .int 2, .int 1, .int 1]) := h.c _ _ (by rfl)
theorem g_ITEMS_OF {t : Tb} {cal : Cal} {sub : Str → Str → Bool} [h : Has t] : GEnv.con ⟨cal, t.C, sub⟩ "ITEMS_OF" = some (.fd [.inr "behind", .inr "before", .inr "run", .inr "put", .inr "take"] [.int 2, .int 2, .int 2, .int 1, .int 1]) := c_ITEMS_OF
theorem c_MOST_TIMES_live {t : Tb} [h : Has t] : t.C "MOST_TIMES_live" = some (.int 1000000000000000000000000000000) := h.c _ _ (by rfl)
theorem g_MOST_TIMES_live {t : Tb} {cal : Cal} {sub : Str → Str → Bool} [h : Has t] : GEnv.con ⟨cal, t.C, sub⟩ "MOST_TIMES_live" = some (.int 1000000000000000000000000000000) := c_MOST_TIMES_live
theorem c_DIGITS {t : Tb} [h : Has t] : t.C "DIGITS" = some (.str "0123456789") := h.c _ _ (by rfl)
theorem g_DIGITS {t : Tb} {cal : Cal} {sub : Str → Str → Bool} [h : Has t] : GEnv.con ⟨cal, t.C, sub⟩ "DIGITS" = some (.str "0123456789") := c_DIGITS
theorem c_MOST_DIGITS {t : Tb} [h : Has t] : t.C "MOST_DIGITS" = some (.int 31) := h.c _ _ (by rfl)
theorem g_MOST_DIGITS {t : Tb} {cal : Cal} {sub : Str → Str → Bool} [h : Has t] : GEnv.con ⟨cal, t.C, sub⟩ "MOST_DIGITS" = some (.int 31) := c_MOST_DIGITS
theorem c_SIGNS {t : Tb} [h : Has t] : t.C "SIGNS" = some (.fd [.inr "behind", .inr "before"] [.str ">", .str "<"]) := h.c _ _ (by rfl)
theorem g_SIGNS {t : Tb} {cal : Cal} {sub : Str → Str → Bool} [h : Has t] : GEnv.con ⟨cal, t.C, sub⟩ "SIGNS" = some (.fd [.inr "behind", .inr "before"] [.str ">", .str "<"]) := c_SIGNS
theorem c_EMPTY {t : Tb} [h : Has t] : t.C "EMPTY" = some (.str "-") := h.c _ _ (by rfl)
theorem g_EMPTY {t : Tb} {cal : Cal} {sub : Str → Str → Bool} [h : Has t] : GEnv.con ⟨cal, t.C, sub⟩ "EMPTY" = some (.str "-") := c_EMPTY
theorem c_WITH_TEXT {t : Tb} [h : Has t] : t.C "WITH_TEXT" = some (.tup [.str "line", .str "script", .str "move"]) := h.c _ _ (by rfl)
theorem g_WITH_TEXT {t : Tb} {cal : Cal} {sub : Str → Str → Bool} [h : Has t] : GEnv.con ⟨cal, t.C, sub⟩ "WITH_TEXT" = some (.tup [.str "line", .str "script", .str "move"]) := c_WITH_TEXT
theorem c_FORMS {t : Tb} [h : Has t] : t.C "FORMS" = some (.fd [.inr "run", .inr "put", .inr "take", .inr "undo", .inr "show", .inr "after", .inr "block", .inr "relation", .inr "settled", .inr "period", .inr "starts"] [.int 1, .int 1, .int 1, .int 0, .int 0, .int 1, .int 1, .int 2, .int 0, .int 0, .int 0]) := h.c _ _ (by rfl)
theorem g_FORMS {t : Tb} {cal : Cal} {sub : Str → Str → Bool} [h : Has t] : GEnv.con ⟨cal, t.C, sub⟩ "FORMS" = some (.fd [.inr "run", .inr "put", .inr "take", .inr "undo", .inr "show", .inr "after", .inr "block", .inr "relation", .inr "settled", .inr "period", .inr "starts"] [.int 1, .int 1, .int 1, .int 0, .int 0, .int 1, .int 1, .int 2, .int 0, .int 0, .int 0]) := c_FORMS
theorem c_WITH_LINE {t : Tb} [h : Has t] : t.C "WITH_LINE" = some (.tup [.str "move", .str "run", .str "put", .str "take", .str "undo", .str "show", .str "after", .str "starts"]) := h.c _ _ (by rfl)
theorem g_WITH_LINE {t : Tb} {cal : Cal} {sub : Str → Str → Bool} [h : Has t] : GEnv.con ⟨cal, t.C, sub⟩ "WITH_LINE" = some (.tup [.str "move", .str "run", .str "put", .str "take", .str "undo", .str "show", .str "after", .str "starts"]) := c_WITH_LINE
theorem c_WITH_SCRIPT {t : Tb} [h : Has t] : t.C "WITH_SCRIPT" = some (.tup [.str "run", .str "after", .str "block", .str "relation", .str "settled", .str "period", .str "starts"]) := h.c _ _ (by rfl)
theorem g_WITH_SCRIPT {t : Tb} {cal : Cal} {sub : Str → Str → Bool} [h : Has t] : GEnv.con ⟨cal, t.C, sub⟩ "WITH_SCRIPT" = some (.tup [.str "run", .str "after", .str "block", .str "relation", .str "settled", .str "period", .str "starts"]) := c_WITH_SCRIPT
theorem t_is_int {t : Tb} [h : Has t] : t.T "is_int" = some d_is_int := h.h _ _ (by rfl)
theorem t_in_range {t : Tb} [h : Has t] : t.T "in_range" = some d_in_range := h.h _ _ (by rfl)
theorem t_is_item {t : Tb} [h : Has t] : t.T "is_item" = some d_is_item := h.h _ _ (by rfl)
theorem t_is_line {t : Tb} [h : Has t] : t.T "is_line" = some d_is_line := h.h _ _ (by rfl)
theorem t_is_command {t : Tb} [h : Has t] : t.T "is_command" = some d_is_command := h.h _ _ (by rfl)
theorem t_is_script {t : Tb} [h : Has t] : t.T "is_script" = some d_is_script := h.h _ _ (by rfl)
theorem t_require_script {t : Tb} [h : Has t] : t.T "require_script" = some d_require_script := h.h _ _ (by rfl)
theorem t_named_in {t : Tb} [h : Has t] : t.T "named_in" = some d_named_in := h.h _ _ (by rfl)
theorem t_items_of {t : Tb} [h : Has t] : t.T "items_of" = some d_items_of := h.h _ _ (by rfl)
theorem t_require_line {t : Tb} [h : Has t] : t.T "require_line" = some d_require_line := h.h _ _ (by rfl)
theorem t_require_command {t : Tb} [h : Has t] : t.T "require_command" = some d_require_command := h.h _ _ (by rfl)
theorem t_require_there {t : Tb} [h : Has t] : t.T "require_there" = some d_require_there := h.h _ _ (by rfl)
theorem t_require_pair {t : Tb} [h : Has t] : t.T "require_pair" = some d_require_pair := h.h _ _ (by rfl)
theorem t_moved_in {t : Tb} [h : Has t] : t.T "moved_in" = some d_moved_in := h.h _ _ (by rfl)
theorem t_script_in {t : Tb} [h : Has t] : t.T "script_in" = some d_script_in := h.h _ _ (by rfl)
theorem t_moved {t : Tb} [h : Has t] : t.T "moved" = some d_moved := h.h _ _ (by rfl)
theorem t_after_script {t : Tb} [h : Has t] : t.T "after_script" = some d_after_script := h.h _ _ (by rfl)
theorem t_require_item {t : Tb} [h : Has t] : t.T "require_item" = some d_require_item := h.h _ _ (by rfl)
theorem t_moved_in_block {t : Tb} [h : Has t] : t.T "moved_in_block" = some d_moved_in_block := h.h _ _ (by rfl)
theorem t_blocks_in {t : Tb} [h : Has t] : t.T "blocks_in" = some d_blocks_in := h.h _ _ (by rfl)
theorem t_block_in {t : Tb} [h : Has t] : t.T "block_in" = some d_block_in := h.h _ _ (by rfl)
theorem t_block_of {t : Tb} [h : Has t] : t.T "block_of" = some d_block_of := h.h _ _ (by rfl)
theorem t_source_of {t : Tb} [h : Has t] : t.T "source_of" = some d_source_of := h.h _ _ (by rfl)
theorem t_blocks_of {t : Tb} [h : Has t] : t.T "blocks_of" = some d_blocks_of := h.h _ _ (by rfl)
theorem t_same_blocks {t : Tb} [h : Has t] : t.T "same_blocks" = some d_same_blocks := h.h _ _ (by rfl)
theorem t_joined_in {t : Tb} [h : Has t] : t.T "joined_in" = some d_joined_in := h.h _ _ (by rfl)
theorem t_is_effect {t : Tb} [h : Has t] : t.T "is_effect" = some d_is_effect := h.h _ _ (by rfl)
theorem t_require_effect {t : Tb} [h : Has t] : t.T "require_effect" = some d_require_effect := h.h _ _ (by rfl)
theorem t_in_order {t : Tb} [h : Has t] : t.T "in_order" = some d_in_order := h.h _ _ (by rfl)
theorem t_joined {t : Tb} [h : Has t] : t.T "joined" = some d_joined := h.h _ _ (by rfl)
theorem t_require_times {t : Tb} [h : Has t] : t.T "require_times" = some d_require_times := h.h _ _ (by rfl)
theorem t_line_by {t : Tb} [h : Has t] : t.T "line_by" = some d_line_by := h.h _ _ (by rfl)
theorem t_powers {t : Tb} [h : Has t] : t.T "powers" = some d_powers := h.h _ _ (by rfl)
theorem t_after_times {t : Tb} [h : Has t] : t.T "after_times" = some d_after_times := h.h _ _ (by rfl)
theorem t_blocks_after {t : Tb} [h : Has t] : t.T "blocks_after" = some d_blocks_after := h.h _ _ (by rfl)
theorem t_rings_in {t : Tb} [h : Has t] : t.T "rings_in" = some d_rings_in := h.h _ _ (by rfl)
theorem t_settled_after {t : Tb} [h : Has t] : t.T "settled_after" = some d_settled_after := h.h _ _ (by rfl)
theorem t_final_blocks {t : Tb} [h : Has t] : t.T "final_blocks" = some d_final_blocks := h.h _ _ (by rfl)
theorem t_greatest_divisor {t : Tb} [h : Has t] : t.T "greatest_divisor" = some d_greatest_divisor := h.h _ _ (by rfl)
theorem t_lcm_of {t : Tb} [h : Has t] : t.T "lcm_of" = some d_lcm_of := h.h _ _ (by rfl)
theorem t_rings_of {t : Tb} [h : Has t] : t.T "rings_of" = some d_rings_of := h.h _ _ (by rfl)
theorem t_period {t : Tb} [h : Has t] : t.T "period" = some d_period := h.h _ _ (by rfl)
theorem t_sources_of {t : Tb} [h : Has t] : t.T "sources_of" = some d_sources_of := h.h _ _ (by rfl)
theorem t_relation_in {t : Tb} [h : Has t] : t.T "relation_in" = some d_relation_in := h.h _ _ (by rfl)
theorem t_require_two {t : Tb} [h : Has t] : t.T "require_two" = some d_require_two := h.h _ _ (by rfl)
theorem t_relation {t : Tb} [h : Has t] : t.T "relation" = some d_relation := h.h _ _ (by rfl)
theorem t_deciding {t : Tb} [h : Has t] : t.T "deciding" = some d_deciding := h.h _ _ (by rfl)
theorem t_is_pair {t : Tb} [h : Has t] : t.T "is_pair" = some d_is_pair := h.h _ _ (by rfl)
theorem t_require_pairs {t : Tb} [h : Has t] : t.T "require_pairs" = some d_require_pairs := h.h _ _ (by rfl)
theorem t_relation_with {t : Tb} [h : Has t] : t.T "relation_with" = some d_relation_with := h.h _ _ (by rfl)
theorem t_ways {t : Tb} [h : Has t] : t.T "ways" = some d_ways := h.h _ _ (by rfl)
theorem t_pieces_in {t : Tb} [h : Has t] : t.T "pieces_in" = some d_pieces_in := h.h _ _ (by rfl)
theorem t_require_run {t : Tb} [h : Has t] : t.T "require_run" = some d_require_run := h.h _ _ (by rfl)
theorem t_count_in {t : Tb} [h : Has t] : t.T "count_in" = some d_count_in := h.h _ _ (by rfl)
theorem t_count_ends {t : Tb} [h : Has t] : t.T "count_ends" = some d_count_ends := h.h _ _ (by rfl)
theorem t_count_starts {t : Tb} [h : Has t] : t.T "count_starts" = some d_count_starts := h.h _ _ (by rfl)
theorem t_nth_start {t : Tb} [h : Has t] : t.T "nth_start" = some d_nth_start := h.h _ _ (by rfl)
theorem t_start_number {t : Tb} [h : Has t] : t.T "start_number" = some d_start_number := h.h _ _ (by rfl)
theorem t_bare_rings {t : Tb} [h : Has t] : t.T "bare_rings" = some d_bare_rings := h.h _ _ (by rfl)
theorem t_is_possible {t : Tb} [h : Has t] : t.T "is_possible" = some d_is_possible := h.h _ _ (by rfl)
theorem t_require_possible {t : Tb} [h : Has t] : t.T "require_possible" = some d_require_possible := h.h _ _ (by rfl)
theorem t_fewest_commands {t : Tb} [h : Has t] : t.T "fewest_commands" = some d_fewest_commands := h.h _ _ (by rfl)
theorem t_plan_for {t : Tb} [h : Has t] : t.T "plan_for" = some d_plan_for := h.h _ _ (by rfl)
theorem t_has_effect {t : Tb} [h : Has t] : t.T "has_effect" = some d_has_effect := h.h _ _ (by rfl)
theorem t_count_effects {t : Tb} [h : Has t] : t.T "count_effects" = some d_count_effects := h.h _ _ (by rfl)
theorem t_require_alike {t : Tb} [h : Has t] : t.T "require_alike" = some d_require_alike := h.h _ _ (by rfl)
theorem t_fewest_moves {t : Tb} [h : Has t] : t.T "fewest_moves" = some d_fewest_moves := h.h _ _ (by rfl)
theorem t_moves_for {t : Tb} [h : Has t] : t.T "moves_for" = some d_moves_for := h.h _ _ (by rfl)
theorem t_is_friends {t : Tb} [h : Has t] : t.T "is_friends" = some d_is_friends := h.h _ _ (by rfl)
theorem t_require_friends {t : Tb} [h : Has t] : t.T "require_friends" = some d_require_friends := h.h _ _ (by rfl)
theorem t_commands_of {t : Tb} [h : Has t] : t.T "commands_of" = some d_commands_of := h.h _ _ (by rfl)
theorem t_day_script {t : Tb} [h : Has t] : t.T "day_script" = some d_day_script := h.h _ _ (by rfl)
theorem t_after_days {t : Tb} [h : Has t] : t.T "after_days" = some d_after_days := h.h _ _ (by rfl)
theorem t_count_final {t : Tb} [h : Has t] : t.T "count_final" = some d_count_final := h.h _ _ (by rfl)
theorem t_days_needed {t : Tb} [h : Has t] : t.T "days_needed" = some d_days_needed := h.h _ _ (by rfl)
theorem t_day_period {t : Tb} [h : Has t] : t.T "day_period" = some d_day_period := h.h _ _ (by rfl)
theorem t__wall {t : Tb} [h : Has t] : t.T "_wall" = some d__wall := h.h _ _ (by rfl)
theorem t_is_operation {t : Tb} [h : Has t] : t.T "is_operation" = some d_is_operation := h.h _ _ (by rfl)
theorem t_parse_number {t : Tb} [h : Has t] : t.T "parse_number" = some d_parse_number := h.h _ _ (by rfl)
theorem t_need_text {t : Tb} [h : Has t] : t.T "need_text" = some d_need_text := h.h _ _ (by rfl)
theorem t_read_command {t : Tb} [h : Has t] : t.T "read_command" = some d_read_command := h.h _ _ (by rfl)
end Pr

local macro_rules | `(tactic| walk_at "con") => `(tactic| first | rw [Pr.g_ITEMS] | rw [Pr.g_MOST_COMMANDS] | rw [Pr.g_WORDS] | rw [Pr.g_MOST_TIMES])

/-! short words for what is done again and again (they stand for this text alone) -/
local macro_rules | `(tactic| walk_at "look") => `(tactic| first | with_reducible assumption | with_reducible exact Py.put_same | (with_reducible refine Py.put_old ?k1 ?k2; (case k1 => with_reducible assumption); (case k2 => walk_at "look")) | (with_reducible refine Py.put_ne1 ?k1 ?k2; (case k1 => with_reducible assumption); (case k2 => walk_at "look")) | (with_reducible refine Py.put_ne2 ?k1 ?k2; (case k1 => with_reducible assumption); (case k2 => walk_at "look")) | fail "look")
local macro_rules | `(tactic| walk_at "lit") => `(tactic| first | with_reducible assumption | omega | exact ⟨by decide, by decide, by decide +kernel⟩ | exact ⟨by decide, by decide +kernel⟩ | rfl | exact Nat.le_of_ble_eq_true rfl | decide +kernel)
local macro_rules | `(tactic| walk_at "wait") => `(tactic| first
  | rw [decide_eq_true (by with_reducible assumption)]
  | rw [decide_eq_false (by with_reducible assumption)]
  | rw [Py.rd_of (by walk_at "look")]
  | rw [Py.seqD_lst (by walk_at "look")]
  | rw [Py.lstD_lst (by walk_at "look")]
  | rw [Py.mapD_lst (by walk_at "look")]
  | rw [Py.mapD_dct (by walk_at "look")]
  | rw [Py.mapD_fdD]
  | rw [Py.mapD_fd]
  | rw [Py.getL_lst (by walk_at "look")]
  | rw [Py.recv_lst (by walk_at "look")]
  | rw [Py.recv_dct (by walk_at "look")]
  | rw [Py.truD_lst (by walk_at "look")]
  | rw [Py.zip_unzip]
  | rw [Py.bl_fl]
  | rw [Option.bind_some]
  | rw [Py.bs_tup]
  | rw [Py.bs_fl]
  | rw [Py.bl_ref (by walk_at "look")]
  | rw [Py.bs_ref (by walk_at "look")]
  | rw [Py.intsD_map]
  | rw [Py.boolsD_map]
  | rw [decide_eq_true (rfl : _ = _)]
  | rw [‹L2.atI _ _ = some _›]
  | rw [Py.put_same]
  | rw [Py.put_old (by with_reducible assumption) (by walk_at "look")]
  | walk_at "con")
local macro_rules | `(tactic| walk_at "hd") => `(tactic| ((conv => whnf); repeat (walk_at "wait"; conv => whnf)))
local macro_rules | `(tactic| walk_at "run") => `(tactic| ((conv => whnf); repeat (first | (refine And.intro (by walk_at "lit") ?_; conv => whnf) | (walk_at "wait"; conv => whnf))))
local macro_rules | `(tactic| walk_at "runz") => `(tactic| ((conv => whnf); repeat (first | (refine And.intro (by walk_at "lit") ?_; conv => whnf) | (walk_at "wait"; conv => whnf) | (refine Py.allocL.fz ?_; conv => whnf) | (refine Py.allocD.fz ?_; conv => whnf))))

namespace Pr
open PySem Py Mv
variable {t : Tb} [Has t] {k : Nat} {A : AH} {X : Dx} {Q : Dk}
theorem sp_is_int {i : Int} (h : Q (.bl true) A) : cal t (k + 1) "is_int" [.int i] A X Q := by
  refine calN_eq t_is_int rfl ?_
  walk_at "run"
  exact .id h
theorem sp_in_range {i lo hi : Int} (h : Q (.bl (decide (lo ≤ i) && decide (i ≤ hi))) A) : cal t (k + 2) "in_range" [.int i, .int lo, .int hi] A X Q := by
  refine calN_eq t_in_range rfl ?_
  walk_at "run"
  refine sp_is_int ?_
  walk_at "run"
  by_cases e : lo ≤ i
  · walk_at "run"
    exact .id (by simpa [e] using h)
  · walk_at "run"
    exact .id (by simpa [e] using h)
theorem sp_is_item {i : Int} (hi : VItem i) (h : Q (.bl true) A) : cal t (k + 3) "is_item" [.int i] A X Q := by
  refine calN_eq t_is_item rfl ?_
  walk_at "run"
  refine sp_in_range ?_
  have h1 : decide ((0 : Int) ≤ i) = true := decide_eq_true hi.1
  have h2 : decide (i ≤ 60 - 1) = true := decide_eq_true (by have := hi.2; omega)
  rw [h1, h2]
  exact .id h
theorem goodLin {l : List Int} (n : Nat) : GoodE (n + 1) (linD l) := .tup (GoodEs.map fun _ _ => .int)
theorem ddI_nd : ∀ {l : List Int}, l.Nodup → ddI l = l := fun {l} nd => by
  have go : ∀ (m acc : List Int), (acc ++ m).Nodup → m.foldl PyProof.Rows.step_dedup acc = acc ++ m := fun m => by
    induction m with
    | nil => intro acc _; simp
    | cons a m ih =>
      intro acc h
      rw [List.foldl_cons]
      have h1 : a ∉ acc := fun z => by
        rw [List.nodup_append] at h
        exact h.2.2 a z a (by simp) rfl
      have : PyProof.Rows.step_dedup acc a = acc ++ [a] := by
        unfold PyProof.Rows.step_dedup
        rw [if_neg]
        intro z
        exact h1 (by simpa using z)
      rw [this, ih _ (by simpa using h)]
      simp
  simpa [ddI] using go l [] (by simpa using nd)
theorem sp_is_line {l : List Int} (v : VLine l) (h : Q (.bl true) A) : cal t (k + 4) "is_line" [linD l] A X Q := by
  refine calN_eq t_is_line rfl ?_
  walk_at "run"
  rw [eqD_good (goodLin (l := l) 0) (.tup .nil : GoodE 1 (.tup [])) (by decide) (by decide) false (by
    have := v.ne
    cases l <;> simp [linD] at *)]
  walk_at "run"
  intro L hL
  refine lc_map (e := D.int) (p := fun _ => true) (g := fun _ => .bl true) hL l (by have := v.len; rw [PySem.sizeLine_eq]; omega) (fun _ => holds_nil) ?_ ?_
  · intro x hx
    exact ⟨_, fun k h => h, fun A' R h _ => h, fun _ A' R h _ => sp_is_item (v.it x hx) h⟩
  rw [filter_yes]
  walk_at "run"
  rw [all_true (by simp)]
  walk_at "run"
  refine ⟨by have := v.len; omega, ?_⟩
  walk_at "run"
  rw [ddI_nd v.nd]
  have e : decide (((l.length : Nat) : Int) = (((l.map D.int).length : Nat) : Int)) = true := by simp
  rw [e]
  exact .id h
theorem good_str {s : Str} (h : PyData.strOk s = true) (n : Nat) : GoodE n (.str s) := .str h
theorem wd_ok (b : Bool) : PyData.strOk (wd b) = true := by cases b <;> decide +kernel
theorem sp_is_command {c : Cmd} (v : VCmd c) (h : Q (.bl true) A) : cal t (k + 4) "is_command" [cmdD c] A X Q := by
  refine calN_eq t_is_command rfl ?_
  obtain ⟨b, i, o⟩ := c
  obtain ⟨v1, v2, v3⟩ := v
  walk_at "run"
  have e : inF (.str (wd b)) [.str "behind", .str "before"] = true := by cases b <;> decide +kernel
  rw [e]
  walk_at "run"
  refine sp_is_item v1 ?_
  walk_at "run"
  refine sp_is_item v2 ?_
  have e2 : decide (i = o) = false := decide_eq_false v3
  walk_at "run"
  exact .id h
theorem sp_is_script {cs : List Cmd} (v : VScr cs) (h : Q (.bl true) A) : cal t (k + 5) "is_script" [scrD cs] A X Q := by
  refine calN_eq t_is_script rfl ?_
  walk_at "run"
  have e1 : (1 : Int) ≤ ((cs.map cmdD).length : Nat) := by have := v.pos; rw [List.length_map]; omega
  walk_at "run"
  have e2 : (((cs.map cmdD).length : Nat) : Int) ≤ 200 := by have := v.len; rw [List.length_map]; omega
  walk_at "run"
  intro L hL
  refine lc_map (e := cmdD) (p := fun _ => true) (g := fun _ => .bl true) hL cs (by have := v.len; rw [PySem.sizeLine_eq]; omega) (fun _ => holds_nil) ?_ ?_
  · intro x hx
    exact ⟨_, fun k h => h, fun A' R h _ => h, fun _ A' R h _ => sp_is_command (v.it x hx) h⟩
  rw [filter_yes]
  walk_at "run"
  rw [all_true (by simp)]
  exact .id h
theorem sp_require_line {l : List Int} (v : VLine l) (h : Q .non A) : cal t (k + 5) "require_line" [linD l] A X Q := by
  refine calN_eq t_require_line rfl ?_
  walk_at "run"
  refine sp_is_line v ?_
  walk_at "run"
  exact .id h
theorem sp_require_script {cs : List Cmd} (v : VScr cs) (h : Q .non A) : cal t (k + 6) "require_script" [scrD cs] A X Q := by
  refine calN_eq t_require_script rfl ?_
  walk_at "run"
  refine sp_is_script v ?_
  walk_at "run"
  exact .id h
theorem sp_require_item {i : Int} (v : VItem i) (h : Q .non A) : cal t (k + 4) "require_item" [.int i] A X Q := by
  refine calN_eq t_require_item rfl ?_
  walk_at "run"
  refine sp_is_item v ?_
  walk_at "run"
  exact .id h
theorem sp_require_times {i lo hi : Int} (h1 : lo ≤ i) (h2 : i ≤ hi) (h : Q .non A) : cal t (k + 3) "require_times" [.int i, .int lo, .int hi] A X Q := by
  refine calN_eq t_require_times rfl ?_
  walk_at "run"
  refine sp_in_range ?_
  rw [decide_eq_true h1, decide_eq_true h2]
  walk_at "run"
  exact .id h
theorem inF_int {i : Int} {l : List Int} : inF (.int i) (l.map D.int) = decide (i ∈ l) := by
  unfold inF
  rw [List.any_map]
  have : (fun y => eqF y (.int i)) ∘ D.int = fun y => y == i := rfl
  rw [this]
  by_cases h : i ∈ l
  · rw [decide_eq_true h, List.any_eq_true]; exact ⟨i, h, by simp⟩
  · rw [decide_eq_false h, List.any_eq_false]; intro y hy z; simp at z; exact h (z ▸ hy)
theorem flat_ints {l : List Int} : (l.map D.int).all flatD = true := by rw [List.all_map]; simp [Function.comp_def, flatD]
theorem sp_require_there {l : List Int} {ns : List Int} (v : ∀ i ∈ ns, i ∈ l) (hn : ns.length ≤ 1000) (h : Q .non A) : cal t (k + 1) "require_there" [linD l, .fl (ns.map .int)] A X Q := by
  refine calN_eq t_require_there rfl ?_
  walk_at "run"
  intro L hL
  refine lc_map (e := D.int) (p := fun _ => true) (g := fun _ => .bl true) hL ns (by rw [PySem.sizeLine_eq]; omega) (fun _ => holds_nil) ?_ ?_
  · intro x hx
    refine ⟨_, fun k h => h, fun A' R h _ => h, fun _ A' R h _ => ?_⟩
    walk_at "run"
    refine ⟨flat_ints, ?_⟩
    rw [inF_int, decide_eq_true (v x hx)]
    exact h
  rw [filter_yes]
  walk_at "run"
  rw [all_true (by simp)]
  walk_at "run"
  exact .id h
theorem named_ok {cs : List Cmd} (it : ∀ c ∈ cs, VCmd c) : (∀ i ∈ allN cs, VItem i) := fun i hi => by
  obtain ⟨l, hl, hi⟩ := List.mem_flatten.mp hi
  obtain ⟨c, hc, rfl⟩ := List.mem_map.mp hl
  have := it c hc
  rcases List.mem_cons.mp hi with rfl | hi
  · exact this.1
  · cases List.mem_singleton.mp hi
    exact this.2.1
theorem sortI_mem {l : List Int} {i : Int} : i ∈ sortI l ↔ i ∈ l := List.mem_mergeSort
theorem sortI_len {l : List Int} : (sortI l).length = l.length := List.length_mergeSort _
theorem sortI_nd {l : List Int} (h : l.Nodup) : (sortI l).Nodup := (List.mergeSort_perm l _).nodup_iff.mpr h
theorem mem_named {cs : List Cmd} {i : Int} : i ∈ named cs ↔ i ∈ allN cs := by unfold named; rw [sortI_mem, ddI_mem]
theorem named_nd {cs : List Cmd} : (named cs).Nodup := sortI_nd ddI_nodup
theorem named_it {cs : List Cmd} (it : ∀ c ∈ cs, VCmd c) : ∀ i ∈ named cs, VItem i := fun i hi => named_ok it i (mem_named.mp hi)
theorem allN_len (cs : List Cmd) : (allN cs).length = 2 * cs.length := by
  unfold allN
  induction cs with
  | nil => rfl
  | cons c cs ih => rw [List.map_cons, List.flatten_cons, List.length_append, ih, List.length_cons]; simp; omega
theorem sp_named_in {cs : List Cmd} (v : VScr cs) (h : Q (.fl ((named cs).map .int)) A) : cal t (k + 1) "named_in" [scrD cs] A X Q := by
  refine calN_eq t_named_in rfl ?_
  walk_at "run"
  refine .new fun p hp => ?_
  walk_at "run"
  refine for_st (β := List Int) (e := cmdD) (fun b r σ A' => A' = put A p (.lst (b.map .int)) ∧ σ = [none, some (.ref p), none, none, none] ∧ b.length + 2 * r.length ≤ 400) (fun b c => b ++ [c.2.1, c.2.2]) cs ⟨rfl, rfl, by have := v.len; rw [List.length_nil]; omega⟩ (fun _ _ _ _ _ => holds_nil) ?_ ?_
  · rintro b c r σ A' nx hc ⟨rfl, rfl, hz⟩ hk
    walk_at "runz"
    have hz' : b.length + 2 * (r.length + 1) ≤ 400 := by simpa using hz
    refine ⟨by simp; rw [PySem.sizeLine_eq]; omega, ?_⟩
    refine hk _ _ ⟨?_, rfl, by simp; omega⟩
    rw [put_put]
    simp
  · rintro σ A' ⟨rfl, rfl, hz⟩
    have e : ∀ (cs : List Cmd) (b : List Int), cs.foldl (fun b c => b ++ [c.2.1, c.2.2]) b = b ++ allN cs := fun cs => by
      induction cs with
      | nil => intro b; simp [allN]
      | cons c cs ih => intro b; rw [List.foldl_cons, ih]; simp [allN]
    rw [e] at *
    rw [List.nil_append] at *
    have h1 := allN_len cs
    have h2 := v.len
    have h3 : (ddI (allN cs)).length < 64 := by
      have := items_len (l := ddI (allN cs)) ddI_nodup fun i hi => named_ok v.it i (ddI_mem.mp hi)
      omega
    walk_at "runz"
    exact .of (Sub.fresh hp) h
theorem cut_hi {α : Type} (xs : List α) (k : Nat) : cutD xs none (some (k : Int)) = xs.take k := by
  unfold cutD
  rw [HT.sIx_nat, HT.sIx_none]
  simp [List.take_eq_take_iff]
theorem cut_lo {α : Type} (xs : List α) (k : Nat) : cutD xs (some (k : Int)) none = xs.drop k := by
  unfold cutD
  rw [HT.sIx_nat, HT.sIx_none]
  by_cases h : k ≤ xs.length
  · rw [Nat.min_eq_left h, List.take_of_length_le (by simp)]
  · rw [Nat.min_eq_right (by omega)]
    simp
    omega
theorem cut_lo1 {α : Type} (xs : List α) (k : Nat) : cutD xs (some ((k : Int) + 1)) none = xs.drop (k + 1) := cut_lo xs (k + 1)
theorem mem_erase_ne {l : List Int} {i o : Int} (h : o ∈ l) (hn : i ≠ o) : o ∈ l.erase i := (List.mem_erase_of_ne (fun e => hn e.symm)).mpr h
theorem erase_take {l : List Int} {i : Int} (h : i ∈ l) : l.take (l.idxOf i) ++ l.drop (l.idxOf i + 1) = l.erase i := by
  rw [← List.eraseIdx_eq_take_drop_succ, List.erase_eq_eraseIdx_of_idxOf]
  rfl
theorem int_beh (b : Bool) (n : Nat) : ((n : Int) + (if decide (wd b = "behind") = true then 1 else 0)) = ((n + (if b then 1 else 0) : Nat) : Int) := by
  cases b
  · have : decide (wd false = "behind") = false := by decide +kernel
    rw [this]; simp
  · have : decide (wd true = "behind") = true := by decide +kernel
    rw [this]; simp
theorem sp_moved_in {l : List Int} {c : Cmd} (hz : l.length ≤ 1000) (h1 : c.2.1 ∈ l) (h2 : c.2.2 ∈ l) (hn : c.2.1 ≠ c.2.2) (h : Q (linD (mvd l c)) A) : cal t (k + 1) "moved_in" [linD l, cmdD c] A X Q := by
  obtain ⟨b, i, o⟩ := c
  replace h1 : i ∈ l := h1
  replace h2 : o ∈ l := h2
  replace hn : i ≠ o := hn
  show cal t (k + 1) "moved_in" [linD l, .tup [.str (wd b), .int i, .int o]] A X Q
  refine calN_eq t_moved_in rfl ?_
  walk_at "run"
  rw [cut_hi, cut_lo1]
  refine ⟨by simp; rw [PySem.sizeLine_eq]; omega, ?_⟩
  have e : (l.map D.int).take (l.idxOf i) ++ (l.map D.int).drop (l.idxOf i + 1) = (l.erase i).map D.int := by rw [← erase_take h1]; simp
  rw [e]
  walk_at "run"
  refine ⟨mem_erase_ne h2 hn, ?_⟩
  walk_at "run"
  have e2 := int_beh b ((l.erase i).idxOf o)
  have hl : (l.erase i).length ≤ l.length := List.length_erase_le
  rw [e2, cut_hi]
  refine ⟨by simp; rw [PySem.sizeLine_eq]; omega, ?_⟩
  walk_at "run"
  rw [cut_lo]
  refine ⟨by simp; rw [PySem.sizeLine_eq]; omega, ?_⟩
  have e3 : (((l.erase i).map D.int).take ((l.erase i).idxOf o + (if b then 1 else 0)) ++ [D.int i]) ++ ((l.erase i).map D.int).drop ((l.erase i).idxOf o + (if b then 1 else 0)) = (mvd l (b, i, o)).map D.int := by
    unfold mvd put1
    simp
  rw [e3]
  walk_at "run"
  exact .id h
theorem mem_put1 {b : Bool} {i o x : Int} {r : List Int} : x ∈ put1 b i o r ↔ x = i ∨ x ∈ r := by
  unfold put1
  rw [List.mem_append, List.mem_append, List.mem_singleton]
  have : x ∈ r ↔ x ∈ r.take (r.idxOf o + (if b then 1 else 0)) ∨ x ∈ r.drop (r.idxOf o + (if b then 1 else 0)) := by
    rw [← List.mem_append, List.take_append_drop]
  rw [this]
  constructor
  · rintro ((h | h) | h)
    · exact .inr (.inl h)
    · exact .inl h
    · exact .inr (.inr h)
  · rintro (h | h | h)
    · exact .inl (.inr h)
    · exact .inl (.inl h)
    · exact .inr h
theorem put1_perm {b : Bool} {i o : Int} {r : List Int} : (put1 b i o r).Perm (i :: r) := by
  unfold put1
  rw [List.append_assoc]
  exact (List.perm_middle (l₁ := r.take (r.idxOf o + (if b then 1 else 0))) (l₂ := r.drop (r.idxOf o + (if b then 1 else 0))) (a := i)).trans (.cons _ (by rw [List.take_append_drop]))
theorem mvd_perm {l : List Int} {c : Cmd} (h : c.2.1 ∈ l) : (mvd l c).Perm l := put1_perm.trans (List.perm_cons_erase h).symm
theorem sp_script_in : ∀ {cs : List Cmd} {l : List Int}, l.length ≤ 1000 → cs.length ≤ 10000 → (∀ c ∈ cs, c.2.1 ∈ l ∧ c.2.2 ∈ l ∧ c.2.1 ≠ c.2.2) → Q (linD (mvs l cs)) A → cal t (k + 2) "script_in" [linD l, scrD cs] A X Q := fun {cs l} hz hc hv h => by
  refine calN_eq t_script_in rfl ?_
  walk_at "run"
  refine for_st (β := List Int) (e := cmdD) (fun b r σ A' => A' = A ∧ σ = [some (linD b), none, none] ∧ b.Perm l) mvd cs ⟨rfl, rfl, .refl _⟩ (fun _ _ _ _ _ => holds_nil) ?_ ?_
  · rintro b c r σ A' nx hcs ⟨rfl, rfl, hp⟩ hk
    obtain ⟨v1, v2, v3⟩ := hv c hcs
    walk_at "run"
    refine sp_moved_in (by rw [hp.length_eq]; exact hz) (hp.mem_iff.mpr v1) (hp.mem_iff.mpr v2) v3 ?_
    walk_at "run"
    exact hk _ _ ⟨rfl, rfl, (mvd_perm (hp.mem_iff.mpr v1)).trans hp⟩
  · rintro σ A' ⟨rfl, rfl, _⟩
    walk_at "run"
    exact .id h
end Pr

/-! Blocks: what they say of lines; their joining. -/
namespace Mv
open PySem Py Pr
/-! ### taking out, putting in, in one piece of many -/
theorem flat_erase {i : Int} : ∀ {L : List (List Int)}, L.flatten.Nodup → L.flatten.erase i = (L.map fun p => if i ∈ p then p.erase i else p).flatten
  | [], _ => rfl
  | p :: L, nd => by
    rw [List.flatten_cons, List.nodup_append] at nd
    obtain ⟨n1, n2, n3⟩ := nd
    rw [List.flatten_cons, List.map_cons, List.flatten_cons]
    by_cases h : i ∈ p
    · rw [List.erase_append_left _ h, if_pos h]
      congr 1
      have hi : i ∉ L.flatten := fun z => n3 i h i z rfl
      have : L.map (fun p => if i ∈ p then p.erase i else p) = L := by
        refine (List.map_congr_left fun q hq => ?_).trans (List.map_id L)
        rw [if_neg fun z => hi (List.mem_flatten.mpr ⟨q, hq, z⟩)]
        rfl
      rw [this]
    · rw [List.erase_append_right _ h, if_neg h, flat_erase n2]
theorem put1_left {b : Bool} {i o : Int} {p r : List Int} (h : o ∈ p) : put1 b i o (p ++ r) = put1 b i o p ++ r := by
  have hl : p.idxOf o + (if b then 1 else 0) ≤ p.length := by
    have := List.idxOf_lt_length_of_mem h
    split <;> omega
  unfold put1
  rw [List.idxOf_append, if_pos h, List.take_append_of_le_length hl, List.drop_append_of_le_length hl]
  simp
theorem put1_right {b : Bool} {i o : Int} {p r : List Int} (h : o ∉ p) : put1 b i o (p ++ r) = p ++ put1 b i o r := by
  unfold put1
  rw [List.idxOf_append, if_neg h, Nat.add_comm (r.idxOf o) p.length, Nat.add_assoc, List.take_length_add_append, List.drop_length_add_append]
  simp
theorem flat_put {b : Bool} {i o : Int} : ∀ {L : List (List Int)}, L.flatten.Nodup → o ∈ L.flatten → put1 b i o L.flatten = (L.map fun p => if o ∈ p then put1 b i o p else p).flatten
  | [], _, h => by simp at h
  | p :: L, nd, ho => by
    rw [List.flatten_cons, List.nodup_append] at nd
    obtain ⟨n1, n2, n3⟩ := nd
    rw [List.flatten_cons, List.map_cons, List.flatten_cons]
    by_cases h : o ∈ p
    · rw [put1_left h, if_pos h]
      congr 1
      have hi : o ∉ L.flatten := fun z => n3 o h o z rfl
      have : L.map (fun p => if o ∈ p then put1 b i o p else p) = L := by
        refine (List.map_congr_left fun q hq => ?_).trans (List.map_id L)
        rw [if_neg fun z => hi (List.mem_flatten.mpr ⟨q, hq, z⟩)]
        rfl
      rw [this]
    · rw [put1_right h, if_neg h, flat_put n2 ((List.mem_append.mp ho).resolve_left h)]
/-- a command on the pieces of a line -/
def stepP (c : Cmd) (p : List Int) : List Int :=
  let q := if c.2.1 ∈ p then p.erase c.2.1 else p
  if c.2.2 ∈ q then put1 c.1 c.2.1 c.2.2 q else q
theorem mvd_flat {c : Cmd} {L : List (List Int)} (nd : L.flatten.Nodup) (ho : c.2.2 ∈ L.flatten) (hn : c.2.1 ≠ c.2.2) : mvd L.flatten c = (L.map (stepP c)).flatten := by
  unfold mvd
  have e1 := flat_erase (i := c.2.1) nd
  have n2 : (L.map fun p => if c.2.1 ∈ p then p.erase c.2.1 else p).flatten.Nodup := e1 ▸ nd.erase _
  have h2 : c.2.2 ∈ (L.map fun p => if c.2.1 ∈ p then p.erase c.2.1 else p).flatten := e1 ▸ mem_erase_ne ho hn
  rw [e1, flat_put n2 h2, List.map_map]
  rfl
/-! ### keys, lookups -/
def keys (B : Bl) : List Int := B.map (·.1)
def rows (B : Bl) : List Int := (B.map (·.2)).flatten
theorem lookup_map {f : List Int → List Int} {i : Int} : ∀ {B : Bl}, (B.map fun p => (p.1, f p.2)).lookup i = (B.lookup i).map f
  | [] => rfl
  | (k, r) :: B => by
    rw [List.map_cons, List.lookup_cons, List.lookup_cons]
    by_cases h : (i == k) = true
    · simp [h]
    · simp [h, lookup_map (B := B)]
theorem lookup_none {i : Int} : ∀ {B : Bl}, i ∉ keys B → B.lookup i = none
  | [], _ => rfl
  | (k, r) :: B, h => by
    have h1 : i ≠ k := fun e => h (by simp [keys, e])
    rw [List.lookup_cons, beq_eq_false_iff_ne.mpr h1]
    exact lookup_none fun z => h (by simp [keys] at z ⊢; exact .inr z)
theorem lookup_some {i : Int} : ∀ {B : Bl}, i ∈ keys B → ∃ r, B.lookup i = some r ∧ (i, r) ∈ B
  | [], h => by simp [keys] at h
  | (k, r) :: B, h => by
    by_cases h1 : i = k
    · subst h1
      exact ⟨r, by simp, by simp⟩
    · obtain ⟨r', e, m⟩ := lookup_some (B := B) (i := i) (by simp [keys, h1] at h ⊢; exact h)
      exact ⟨r', by rw [List.lookup_cons, beq_eq_false_iff_ne.mpr h1]; exact e, List.mem_cons_of_mem _ m⟩
theorem stepB_map (B : Bl) (c : Cmd) : stepB B c = B.map fun p => (p.1, stepP c p.2) := by
  unfold stepB giveB takeB
  rw [List.map_map]
  rfl
theorem keys_map {f : List Int → List Int} {B : Bl} : keys (B.map fun p => (p.1, f p.2)) = keys B := by
  unfold keys
  rw [List.map_map]
  rfl
theorem getB_not {B : Bl} {i : Int} (h : i ∉ keys B) : getB B i = [i] := by unfold getB; rw [lookup_none h]; rfl
theorem getB_step {B : Bl} {c : Cmd} {i : Int} (h1 : c.2.1 ∈ keys B) (h2 : c.2.2 ∈ keys B) : getB (stepB B c) i = stepP c (getB B i) := by
  rw [stepB_map]
  by_cases h : i ∈ keys B
  · obtain ⟨r, e, _⟩ := lookup_some h
    unfold getB
    rw [lookup_map, e]
    rfl
  · rw [getB_not h, getB_not (by rw [keys_map]; exact h)]
    have e1 : c.2.1 ≠ i := fun e => h (e ▸ h1)
    have e2 : c.2.2 ≠ i := fun e => h (e ▸ h2)
    unfold stepP
    simp [e1, e2]
theorem subst_step {B : Bl} {c : Cmd} (h1 : c.2.1 ∈ keys B) (h2 : c.2.2 ∈ keys B) (l : List Int) (nd : (subst B l).Nodup) (ho : c.2.2 ∈ subst B l) (hn : c.2.1 ≠ c.2.2) : subst (stepB B c) l = mvd (subst B l) c := by
  unfold subst at *
  rw [mvd_flat nd ho hn, List.map_map]
  congr 1
  exact List.map_congr_left fun i _ => getB_step h1 h2
theorem subst_start {ns l : List Int} : subst (startB ns) l = l := by
  have e : ∀ i, getB (startB ns) i = [i] := fun i => by
    unfold getB startB
    induction ns with
    | nil => rfl
    | cons n ns ih =>
      rw [List.map_cons, List.lookup_cons]
      by_cases h : i = n
      · subst h; simp
      · rw [beq_eq_false_iff_ne.mpr h]; exact ih
  unfold subst
  rw [List.map_congr_left fun i _ => e i]
  induction l with
  | nil => rfl
  | cons x l ih => simp [ih]
theorem keys_start {ns : List Int} : keys (startB ns) = ns := by unfold keys startB; rw [List.map_map]; exact List.map_id ns
/-- THE LAW OF BLOCKS: the line by the blocks is the line command by command -/
theorem subst_blocks {cs : List Cmd} (it : ∀ c ∈ cs, c.2.1 ≠ c.2.2) {l : List Int} (nd : l.Nodup) (hl : ∀ i ∈ named cs, i ∈ l) : subst (blocks cs) l = mvs l cs := by
  have go : ∀ (ds : List Cmd) (B : Bl) (l' : List Int), (∀ c ∈ ds, c ∈ cs) → keys B = named cs → subst B l = l' → l'.Perm l → subst (ds.foldl stepB B) l = mvs l' ds := fun ds => by
    induction ds with
    | nil => intro B l' _ _ e _; exact e
    | cons c ds ih =>
      intro B l' hc hk e hp
      have hcc := hc c List.mem_cons_self
      have m1 : c.2.1 ∈ named cs := mem_named.mpr (List.mem_flatten.mpr ⟨_, List.mem_map.mpr ⟨c, hcc, rfl⟩, by simp⟩)
      have m2 : c.2.2 ∈ named cs := mem_named.mpr (List.mem_flatten.mpr ⟨_, List.mem_map.mpr ⟨c, hcc, rfl⟩, by simp⟩)
      rw [List.foldl_cons]
      refine ih _ (mvd l' c) (fun x hx => hc x (List.mem_cons_of_mem _ hx)) (by rw [stepB_map, keys_map, hk]) ?_ ((mvd_perm (hp.mem_iff.mpr (hl _ m1))).trans hp)
      rw [subst_step (by rw [hk]; exact m1) (by rw [hk]; exact m2) l (by rw [e]; exact hp.nodup_iff.mpr nd) (by rw [e]; exact hp.mem_iff.mpr (hl _ m2)) (it c hcc), e]
  exact go cs _ l (fun _ h => h) keys_start subst_start (.refl _)
theorem keys_blocks {cs : List Cmd} : keys (blocks cs) = named cs := by
  have go : ∀ (ds : List Cmd) (B : Bl), keys (ds.foldl stepB B) = keys B := fun ds => by
    induction ds with
    | nil => intro B; rfl
    | cons c ds ih => intro B; rw [List.foldl_cons, ih, stepB_map, keys_map]
  unfold blocks
  rw [go, keys_start]
/-! ### effects: each item of the keys stands once -/
structure Eff (N : List Int) (B : Bl) : Prop where
  ks : keys B = N
  nd : N.Nodup
  pm : (rows B).Perm N
theorem rows_subst {B : Bl} (nd : (keys B).Nodup) : subst B (keys B) = rows B := by
  unfold subst rows keys at *
  rw [List.map_map]
  congr 1
  refine List.map_congr_left fun p hp => ?_
  show getB B p.1 = p.2
  unfold getB
  have : ∀ B : Bl, (B.map (·.1)).Nodup → p ∈ B → B.lookup p.1 = some p.2 := fun B => by
    induction B with
    | nil => intro _ h; cases h
    | cons q B ih =>
      intro nd hp
      obtain ⟨k, r⟩ := q
      rw [List.map_cons, List.nodup_cons] at nd
      rw [List.lookup_cons]
      rcases List.mem_cons.mp hp with rfl | hp
      · simp
      · have : p.1 ≠ k := fun e => nd.1 (e ▸ List.mem_map.mpr ⟨p, hp, rfl⟩)
        rw [beq_eq_false_iff_ne.mpr this]
        exact ih nd.2 hp
  rw [this B nd hp]
  rfl
theorem eff_blocks {cs : List Cmd} (it : ∀ c ∈ cs, c.2.1 ≠ c.2.2) : Eff (named cs) (blocks cs) := by
  refine ⟨keys_blocks, named_nd, ?_⟩
  have h := subst_blocks it named_nd (l := named cs) fun _ h => h
  rw [← rows_subst (by rw [keys_blocks]; exact named_nd), keys_blocks, h]
  have go : ∀ (ds : List Cmd) (l : List Int), (∀ c ∈ ds, c.2.1 ∈ l) → (mvs l ds).Perm l := fun ds => by
    induction ds with
    | nil => intro l _; exact .refl _
    | cons c ds ih =>
      intro l hc
      have p := mvd_perm (hc c List.mem_cons_self)
      exact (ih _ fun x hx => p.mem_iff.mpr (hc x (List.mem_cons_of_mem _ hx))).trans p
  exact go cs _ fun c hc => mem_named.mpr (List.mem_flatten.mpr ⟨_, List.mem_map.mpr ⟨c, hc, rfl⟩, by simp⟩)
theorem subst_app {B : Bl} {l m : List Int} : subst B (l ++ m) = subst B l ++ subst B m := by unfold subst; simp
theorem subst_flat {B : Bl} : ∀ {L : List (List Int)}, subst B L.flatten = (L.map (subst B)).flatten
  | [] => rfl
  | p :: L => by rw [List.flatten_cons, subst_app, subst_flat]; rfl
theorem subst_perm {B : Bl} {l m : List Int} (h : l.Perm m) : (subst B l).Perm (subst B m) := by
  unfold subst
  exact (h.map _).flatten
theorem keys_join {A B : Bl} : keys (joinB A B) = keys A := keys_map
theorem getB_join {A B : Bl} (hk : keys A = keys B) (i : Int) : getB (joinB A B) i = subst B (getB A i) := by
  by_cases h : i ∈ keys A
  · obtain ⟨r, e, _⟩ := lookup_some h
    unfold getB joinB
    rw [lookup_map, e]
    rfl
  · rw [getB_not h, getB_not (by rw [keys_join]; exact h)]
    unfold subst
    simp [getB_not (B := B) (hk ▸ h)]
theorem subst_join {A B : Bl} (hk : keys A = keys B) (l : List Int) : subst (joinB A B) l = subst B (subst A l) := by
  unfold subst
  rw [List.map_congr_left fun i _ => getB_join hk i]
  rw [show (l.map fun i => subst B (getB A i)) = (l.map (getB A)).map (subst B) by rw [List.map_map]; rfl, ← subst_flat]
  rfl
theorem join_assoc {A B C : Bl} (hk : keys B = keys C) : joinB (joinB A B) C = joinB A (joinB B C) := by
  unfold joinB
  rw [List.map_map]
  refine List.map_congr_left fun p _ => ?_
  show (p.1, subst C (subst B p.2)) = (p.1, subst (joinB B C) p.2)
  rw [subst_join hk]
theorem join_start {A : Bl} {N : List Int} : joinB A (startB N) = A := by
  unfold joinB
  refine (List.map_congr_left fun p _ => ?_).trans (List.map_id A)
  rw [subst_start]
  rfl
theorem Eff.join {N : List Int} {A B : Bl} (a : Eff N A) (b : Eff N B) : Eff N (joinB A B) := by
  refine ⟨keys_join.trans a.ks, a.nd, ?_⟩
  have e : rows (joinB A B) = subst B (rows A) := by
    unfold rows joinB
    rw [List.map_map, subst_flat, List.map_map]
    rfl
  rw [e]
  refine (subst_perm a.pm).trans ?_
  rw [← b.ks, rows_subst (by rw [b.ks]; exact b.nd), b.ks]
  exact b.pm
theorem eff_start {N : List Int} (h : N.Nodup) : Eff N (startB N) := by
  refine ⟨keys_start, h, ?_⟩
  have : rows (startB N) = N := by
    rw [← rows_subst (by rw [keys_start]; exact h), subst_start, keys_start]
  rw [this]
/-- n times -/
def powB (N : List Int) (B : Bl) : Nat → Bl
  | 0 => startB N
  | n + 1 => joinB (powB N B n) B
theorem eff_pow {N : List Int} {B : Bl} (b : Eff N B) : ∀ n, Eff N (powB N B n)
  | 0 => eff_start b.nd
  | n + 1 => (eff_pow b n).join b
theorem start_join {N : List Int} {B : Bl} (b : Eff N B) : joinB (startB N) B = B := by
  have nd := b.nd
  have h : ∀ (N' : List Int) (B' : Bl), keys B' = N' → (∀ p ∈ B', getB B p.1 = p.2) → joinB (startB N') B = B' := fun N' B' => by
    induction B' generalizing N' with
    | nil => intro e _; subst e; rfl
    | cons p B' ih =>
      intro e hp
      subst e
      show ((p.1, subst B [p.1]) :: joinB (startB (keys B')) B) = _
      rw [ih _ rfl fun q hq => hp q (List.mem_cons_of_mem _ hq)]
      have : subst B [p.1] = p.2 := by
        unfold subst
        simp [hp p List.mem_cons_self]
      rw [this]
  refine h N B b.ks fun p hp => ?_
  have e := rows_subst (B := B) (by rw [b.ks]; exact b.nd)
  -- the lookup of its own key
  have look : ∀ B : Bl, (B.map (·.1)).Nodup → p ∈ B → B.lookup p.1 = some p.2 := fun B => by
    induction B with
    | nil => intro _ h; cases h
    | cons q B ih =>
      intro nd hp
      obtain ⟨k, r⟩ := q
      rw [List.map_cons, List.nodup_cons] at nd
      rw [List.lookup_cons]
      rcases List.mem_cons.mp hp with rfl | hp
      · simp
      · have : p.1 ≠ k := fun e => nd.1 (e ▸ List.mem_map.mpr ⟨p, hp, rfl⟩)
        rw [beq_eq_false_iff_ne.mpr this]
        exact ih nd.2 hp
  unfold getB
  rw [look B (by have := b.nd; rw [← b.ks] at this; exact this) hp]
  rfl
theorem pow_add {N : List Int} {B : Bl} (b : Eff N B) (m : Nat) : ∀ n, joinB (powB N B m) (powB N B n) = powB N B (m + n)
  | 0 => join_start
  | n + 1 => by
    show joinB (powB N B m) (joinB (powB N B n) B) = joinB (powB N B (m + n)) B
    rw [← join_assoc (by rw [(eff_pow b n).ks, b.ks]), pow_add b m n]
theorem pow_one {N : List Int} {B : Bl} (b : Eff N B) : powB N B 1 = B := start_join b
theorem pow_two {N : List Int} {B : Bl} (b : Eff N B) (n : Nat) : joinB (powB N B n) (powB N B n) = powB N B (2 * n) := by rw [pow_add b, Nat.two_mul]
end Mv

namespace Pr
open PySem Py Mv
variable {t : Tb} [Has t] {k : Nat} {A : AH} {X : Dx} {Q : Dk}
theorem sp_block_in {B : Bl} {i : Int} (h : Q (linD (getB B i)) A) : cal t (k + 1) "block_in" [blkD B, .int i] A X Q := by
  refine calN_eq t_block_in rfl ?_
  walk_at "run"
  have e : (lookK (kvB B) (.inl i)).getD (.tup [.int i]) = linD (getB B i) := getD_kvB B i
  rw [e]
  exact .id h
theorem keys_kv (B : Bl) : ((kvB B).map (·.1)).map keyD = B.map fun p => D.int p.1 := by rw [List.map_map, List.map_map]; rfl
theorem look_at : ∀ {B : Bl} {p : Int × List Int}, (keys B).Nodup → p ∈ B → B.lookup p.1 = some p.2
  | [], _, _, h => by cases h
  | (k, r) :: B, p, nd, hp => by
    unfold keys at nd
    rw [List.map_cons, List.nodup_cons] at nd
    rw [List.lookup_cons]
    rcases List.mem_cons.mp hp with rfl | hp
    · simp
    · have : p.1 ≠ k := fun e => nd.1 (e ▸ List.mem_map.mpr ⟨p, hp, rfl⟩)
      rw [beq_eq_false_iff_ne.mpr this]
      exact look_at nd.2 hp
theorem kv_put {B : Bl} {i : Int} {r : List Int} (h : i ∉ keys B) : setK (kvB B) (.inl i) (linD r) = kvB (B ++ [(i, r)]) := by
  rw [setK_new]
  · simp [kvB]
  · intro z
    obtain ⟨p, hp, e⟩ := List.mem_map.mp z
    obtain ⟨q, hq, rfl⟩ := List.mem_map.mp hp
    exact h (Sum.inl.inj e ▸ List.mem_map.mpr ⟨q, hq, rfl⟩)
theorem foldl_app {α : Type} (f : α → List Int) : ∀ (l : List α) (acc : List Int), l.foldl (fun acc i => acc ++ f i) acc = acc ++ (l.map f).flatten
  | [], acc => by simp
  | x :: l, acc => by rw [List.foldl_cons, foldl_app f l]; simp
theorem sp_joined_in {B O : Bl} (nd : (keys B).Nodup) (hl : B.length ≤ 1000) (hB : ∀ p ∈ B, p.2.length ≤ 1000) (hO : ∀ i, (getB O i).length ≤ 1000) (h : Q (blkD (joinB B O)) A) : cal t (k + 2) "joined_in" [blkD B, blkD O] A X Q := by
  refine calN_eq t_joined_in rfl ?_
  walk_at "run"
  refine .new fun p hp => ?_
  walk_at "run"
  rw [keys_kv]
  refine for_st (β := Bl) (b := []) (e := fun p : Int × List Int => D.int p.1) (fun b r σ A' => A' = put A p (.dct (kvB (joinB b O))) ∧ σ = [some (blkD B), some (blkD O), some (.ref p), none, none, none] ∧ b ++ r = B) (fun b p => b ++ [p]) B ⟨rfl, rfl, rfl⟩ (fun _ _ _ _ _ => holds_nil) ?_ ?_
  · rintro b ⟨i, row⟩ r σ A' nx hx ⟨rfl, rfl, hbr⟩ hk
    walk_at "run"
    have el : lookK (kvB B) (.inl i) = some (linD row) := by rw [lookK_kvB, look_at nd hx]; rfl
    rw [el]
    walk_at "run"
    refine for_st (β := List Int) (b := []) (e := D.int) (fun acc r σ A' => A' = put A p (.dct (kvB (joinB b O))) ∧ σ = [some (blkD B), some (blkD O), some (.ref p), some (.int i), some (linD acc), none] ∧ acc.length + 1000 * r.length ≤ 1000000) (fun acc j => acc ++ getB O j) row ⟨rfl, rfl, by have h9 : row.length ≤ 1000 := hB _ hx; rw [List.length_nil]; omega⟩ (fun _ _ _ _ _ => holds_nil) ?_ ?_
    · rintro acc j r σ A' nx hj ⟨rfl, rfl, hz⟩ hk
      walk_at "run"
      refine sp_block_in ?_
      have h1 := hO j
      have h2 : acc.length + 1000 * (r.length + 1) ≤ 1000000 := by simpa using hz
      walk_at "run"
      refine ⟨by simp; rw [PySem.sizeLine_eq]; omega, ?_⟩
      have e2 : acc.map D.int ++ (getB O j).map D.int = (acc ++ getB O j).map D.int := by simp
      rw [e2]
      exact hk _ _ ⟨rfl, rfl, by simp; omega⟩
    · rintro σ A' ⟨rfl, rfl, _⟩
      rw [foldl_app, List.nil_append]
      walk_at "run"
      have hn : i ∉ keys (joinB b O) := fun z => by
        rw [keys_join] at z
        rw [← hbr] at nd
        unfold keys at nd z
        rw [List.map_append, List.nodup_append] at nd
        exact nd.2.2 i z i (by simp) rfl
      refine ⟨?_, ?_⟩
      · have : b.length ≤ B.length := by rw [← hbr]; simp
        unfold joinB
        simp
        rw [PySem.sizeLine_eq]
        omega
      · refine hk _ _ ⟨?_, rfl, by simpa using hbr⟩
        rw [put_put, kv_put hn]
        simp [joinB, subst]
  · rintro σ A' ⟨rfl, rfl, hb⟩
    rw [List.append_nil] at hb
    rw [hb]
    walk_at "run"
    exact .dct put_same (Sub.fresh hp) hp h
theorem sp_line_by {B : Bl} {l : List Int} (hl : l.length ≤ 1000) (hB : ∀ i, (getB B i).length ≤ 1000) (h : Q (linD (subst B l)) A) : cal t (k + 2) "line_by" [linD l, blkD B] A X Q := by
  refine calN_eq t_line_by rfl ?_
  walk_at "run"
  refine for_st (β := List Int) (b := []) (e := D.int) (fun acc r σ A' => A' = A ∧ σ = [none, some (blkD B), some (linD acc), none] ∧ acc.length + 1000 * r.length ≤ 1000000) (fun acc j => acc ++ getB B j) l ⟨rfl, rfl, by rw [List.length_nil]; omega⟩ (fun _ _ _ _ _ => holds_nil) ?_ ?_
  · rintro acc j r σ A' nx hj ⟨rfl, rfl, hz⟩ hk
    walk_at "run"
    refine sp_block_in ?_
    have h1 := hB j
    have h2 : acc.length + 1000 * (r.length + 1) ≤ 1000000 := by simpa using hz
    walk_at "run"
    refine ⟨by simp; rw [PySem.sizeLine_eq]; omega, ?_⟩
    have e2 : acc.map D.int ++ (getB B j).map D.int = (acc ++ getB B j).map D.int := by simp
    rw [e2]
    exact hk _ _ ⟨rfl, rfl, by simp; omega⟩
  · rintro σ A' ⟨rfl, rfl, _⟩
    rw [foldl_app, List.nil_append]
    walk_at "run"
    exact .id h
theorem sp_moved_in_block {b : Bool} {i o : Int} {l : List Int} (hz : l.length ≤ 1000) (h1 : o ∈ l) (h : Q (linD (put1 b i o l)) A) : cal t (k + 1) "moved_in_block" [linD l, .str (wd b), .int i, .int o] A X Q := by
  refine calN_eq t_moved_in_block rfl ?_
  walk_at "run"
  rw [int_beh b (l.idxOf o), cut_hi]
  refine ⟨by simp; rw [PySem.sizeLine_eq]; omega, ?_⟩
  walk_at "run"
  rw [cut_lo]
  refine ⟨by simp; rw [PySem.sizeLine_eq]; omega, ?_⟩
  have e3 : ((l.map D.int).take (l.idxOf o + (if b then 1 else 0)) ++ [D.int i]) ++ (l.map D.int).drop (l.idxOf o + (if b then 1 else 0)) = (put1 b i o l).map D.int := by
    unfold put1
    simp
  rw [e3]
  walk_at "run"
  exact .id h
/-- an entry of a dict is changed as the loop over its items comes to it -/
theorem kv_set {a b : Bl} {i : Int} {r r' : List Int} (nd : (keys (a ++ (i, r) :: b)).Nodup) : setK (kvB (a ++ (i, r) :: b)) (.inl i) (linD r') = kvB (a ++ (i, r') :: b) := by
  have e : ∀ x : List Int, kvB (a ++ (i, x) :: b) = kvB a ++ (.inl i, linD x) :: kvB b := fun x => by simp [kvB]
  rw [e, e]
  unfold keys at nd
  rw [List.map_append, List.map_cons, List.nodup_append, List.nodup_cons] at nd
  refine setK_at (fun z => ?_) fun z => ?_
  · obtain ⟨p, hp, e⟩ := List.mem_map.mp z
    obtain ⟨q, hq, rfl⟩ := List.mem_map.mp hp
    exact nd.2.2 i (Sum.inl.inj e ▸ List.mem_map.mpr ⟨q, hq, rfl⟩) i (by simp) rfl
  · obtain ⟨p, hp, e⟩ := List.mem_map.mp z
    obtain ⟨q, hq, rfl⟩ := List.mem_map.mp hp
    exact nd.2.1.1 (Sum.inl.inj e ▸ List.mem_map.mpr ⟨q, hq, rfl⟩)
theorem items_kv (B : Bl) : (kvB B).map (fun p => D.tup [keyD p.1, p.2]) = B.map fun p => D.tup [.int p.1, linD p.2] := by rw [List.map_map]; rfl
theorem erase_cut {l : List Int} {i : Int} (h : i ∈ l) : (l.map D.int).take (l.idxOf i) ++ (l.map D.int).drop (l.idxOf i + 1) = (l.erase i).map D.int := by rw [← erase_take h]; simp
set_option maxHeartbeats 4000000 in
theorem sp_blocks_in {cs : List Cmd} (v : VScr cs) (h : Q (blkD (blocks cs)) A) : cal t (k + 2) "blocks_in" [scrD cs] A X Q := by
  refine calN_eq t_blocks_in rfl ?_
  walk_at "run"
  refine sp_named_in v ?_
  walk_at "run"
  intro L hL
  have hnl : (named cs).length ≤ 60 := items_len named_nd (named_it v.it)
  refine dc_map (e := D.int) (p := fun _ => true) (gk := Sum.inl) (g := fun i => linD [i]) hL (named cs) (by rw [PySem.sizeLine_eq]; omega) (fun _ => holds_nil) ?_ ?_
  · intro x hx
    refine ⟨_, fun k h => h, fun A' R h _ => h, fun _ A' R h _ => h, fun _ A' R h _ => ?_⟩
    walk_at "run"
    exact h
  refine .keep ?_
  rw [filter_yes, mergK_new _ _ (by
    rw [List.map_map]
    simp only [List.map_nil, List.nil_append]
    exact List.Pairwise.map _ (fun a b h e => h (Sum.inl.inj e)) (named_nd (cs := cs)))]
  walk_at "run"
  have es : [] ++ (named cs).map (fun x => ((Sum.inl x : L2.Key), linD [x])) = kvB (startB (named cs)) := by unfold startB; show _ = List.map _ (List.map _ _); rw [List.map_map]; rfl
  rw [es]
  refine for_st (β := Bl) (e := cmdD) (fun B r σ A' => A' = put A L (.dct (kvB B)) ∧ σ = [none, some (.ref L), none, none, none, none, none, none] ∧ keys B = named cs ∧ ∀ p ∈ B, p.2.length + r.length ≤ 201) stepB cs ⟨rfl, rfl, keys_start, fun p hp => ?_⟩ (fun _ _ _ _ _ => holds_nil) ?_ ?_
  · obtain ⟨x, _, rfl⟩ := List.mem_map.mp hp
    have := v.len
    show 1 + cs.length ≤ 201
    omega
  · rintro B ⟨b, i, o⟩ r σ A' nx hc ⟨rfl, rfl, hk, hz⟩ hnx
    have nd : (keys B).Nodup := by rw [hk]; exact named_nd
    have hz' : ∀ p ∈ B, p.2.length + r.length ≤ 200 := fun p hp => by have := hz p hp; rw [List.length_cons] at this; omega
    show bindT _ (.tup [.str (wd b), .int i, .int o]) _ _
    walk_at "runz"
    rw [items_kv]
    refine for_st (β := Bl) (b := []) (e := fun p : Int × List Int => D.tup [.int p.1, linD p.2]) (fun d r' σ A' => A' = put A L (.dct (kvB (d ++ r'))) ∧ σ = [none, some (.ref L), some (.int i), some (.str (wd b)), some (.int o), none, none, none] ∧ keys (d ++ r') = named cs) (fun d p => d ++ [(p.1, if i ∈ p.2 then p.2.erase i else p.2)]) B ⟨rfl, rfl, hk⟩ (fun _ _ _ _ _ => holds_nil) ?_ ?_
    · rintro d ⟨key, row⟩ r' σ A' nx2 hp ⟨rfl, rfl, kk⟩ hk2
      have nd2 : (keys (d ++ (key, row) :: r')).Nodup := by rw [kk]; exact named_nd
      have hr : row.length + r.length ≤ 200 := hz' _ hp
      walk_at "run"
      refine ⟨flat_ints, ?_⟩
      rw [inF_int]
      have nd3 : ∀ x : List Int, keys (d ++ [(key, x)] ++ r') = keys (d ++ (key, row) :: r') := fun x => by simp [keys]
      by_cases hi : i ∈ row
      · walk_at "run"
        rw [cut_hi, cut_lo1]
        refine ⟨by simp; rw [PySem.sizeLine_eq]; omega, ?_⟩
        rw [erase_cut hi]
        walk_at "run"
        have hlen : (d ++ (key, row) :: r').length ≤ 60 := by
          have : (keys (d ++ (key, row) :: r')).length ≤ 60 := by rw [kk]; exact hnl
          unfold keys at this
          rwa [List.length_map] at this
        refine ⟨by have : (kvB (d ++ (key, row) :: r')).length = (d ++ (key, row) :: r').length := List.length_map _; rw [PySem.sizeLine_eq]; omega, ?_⟩
        have e5 : (row.erase i).map D.int = (row.erase i).map D.int := rfl
        refine hk2 _ _ ⟨?_, rfl, ?_⟩
        · rw [put_put, kv_set nd2]
          simp [hi]
        · rw [nd3]; exact kk
      · walk_at "run"
        refine hk2 _ _ ⟨?_, rfl, ?_⟩
        · simp [hi]
        · rw [nd3]; exact kk
    rintro σ A' ⟨rfl, rfl, _⟩
    have ef : ∀ (f : List Int → List Int) (B d : Bl), B.foldl (fun d p => d ++ [(p.1, f p.2)]) d = d ++ B.map fun p => (p.1, f p.2) := fun f B => by
      induction B with
      | nil => intro d; simp
      | cons p B ih => intro d; rw [List.foldl_cons, ih]; simp
    rw [ef (fun r => if i ∈ r then r.erase i else r), List.nil_append, List.append_nil]
    have e6 : (B.map fun p => (p.1, if i ∈ p.2 then p.2.erase i else p.2)) = takeB i B := rfl
    rw [e6]
    have kT : keys (takeB i B) = named cs := (keys_map (f := fun r => if i ∈ r then r.erase i else r) (B := B)).trans hk
    have hzT : ∀ p ∈ takeB i B, p.2.length + r.length ≤ 200 := fun p hp => by
      obtain ⟨q, hq, rfl⟩ := List.mem_map.mp hp
      have := hz' q hq
      show (if i ∈ q.2 then q.2.erase i else q.2).length + r.length ≤ 200
      split
      · have := List.length_erase_le (a := i) (l := q.2); omega
      · exact this
    walk_at "runz"
    rw [items_kv]
    refine for_st (β := Bl) (b := []) (e := fun p : Int × List Int => D.tup [.int p.1, linD p.2]) (fun d r' σ A' => A' = put A L (.dct (kvB (d ++ r'))) ∧ σ = [none, some (.ref L), some (.int i), some (.str (wd b)), some (.int o), none, none, none] ∧ keys (d ++ r') = named cs) (fun d p => d ++ [(p.1, if o ∈ p.2 then put1 b i o p.2 else p.2)]) (takeB i B) ⟨rfl, rfl, kT⟩ (fun _ _ _ _ _ => holds_nil) ?_ ?_
    · rintro d ⟨key, row⟩ r' σ A' nx2 hp ⟨rfl, rfl, kk⟩ hk2
      have nd2 : (keys (d ++ (key, row) :: r')).Nodup := by rw [kk]; exact named_nd
      have hr : row.length + r.length ≤ 200 := hzT _ hp
      walk_at "run"
      refine ⟨flat_ints, ?_⟩
      rw [inF_int]
      have nd3 : ∀ x : List Int, keys (d ++ [(key, x)] ++ r') = keys (d ++ (key, row) :: r') := fun x => by simp [keys]
      by_cases hi : o ∈ row
      · walk_at "run"
        refine sp_moved_in_block (l := row) (by omega) hi ?_
        walk_at "run"
        have hlen : (d ++ (key, row) :: r').length ≤ 60 := by
          have : (keys (d ++ (key, row) :: r')).length ≤ 60 := by rw [kk]; exact hnl
          unfold keys at this
          rwa [List.length_map] at this
        refine ⟨by have : (kvB (d ++ (key, row) :: r')).length = (d ++ (key, row) :: r').length := List.length_map _; rw [PySem.sizeLine_eq]; omega, ?_⟩
        refine hk2 _ _ ⟨?_, rfl, ?_⟩
        · rw [put_put, kv_set nd2]
          simp [hi]
        · rw [nd3]; exact kk
      · walk_at "run"
        refine hk2 _ _ ⟨?_, rfl, ?_⟩
        · simp [hi]
        · rw [nd3]; exact kk
    rintro σ A' ⟨rfl, rfl, _⟩
    rw [ef (fun r => if o ∈ r then put1 b i o r else r), List.nil_append, List.append_nil]
    have e7 : ((takeB i B).map fun p => (p.1, if o ∈ p.2 then put1 b i o p.2 else p.2)) = stepB B (b, i, o) := rfl
    rw [e7]
    walk_at "run"
    refine hnx _ _ ⟨rfl, rfl, ?_, fun p hp => ?_⟩
    · exact (keys_map (f := fun r => if o ∈ r then put1 b i o r else r) (B := takeB i B)).trans kT
    · rw [← e7] at hp
      obtain ⟨q, hq, rfl⟩ := List.mem_map.mp hp
      have := hzT q hq
      show (if o ∈ q.2 then put1 b i o q.2 else q.2).length + r.length ≤ 201
      split
      · have := (put1_perm (b := b) (i := i) (o := o) (r := q.2)).length_eq
        rw [List.length_cons] at this
        omega
      · omega
  · rintro σ A' ⟨rfl, rfl, _⟩
    walk_at "run"
    refine .dct put_same (Sub.fresh hL) hL ?_
    exact h
theorem Eff.get_len {N : List Int} {B : Bl} (e : Eff N B) (hN : N.length ≤ 60) (i : Int) : (getB B i).length ≤ 60 := by
  by_cases h : i ∈ keys B
  · obtain ⟨r, e1, hm⟩ := lookup_some h
    have h2 : r.length ≤ (rows B).length := by
      have : r ∈ B.map (·.2) := List.mem_map.mpr ⟨_, hm, rfl⟩
      unfold rows
      exact (List.sublist_flatten_of_mem this).length_le
    have h3 := e.pm.length_eq
    unfold getB
    rw [e1]
    show r.length ≤ 60
    omega
  · rw [getB_not h]
    simp
theorem Eff.row_len {N : List Int} {B : Bl} (e : Eff N B) (hN : N.length ≤ 60) : ∀ p ∈ B, p.2.length ≤ 60 := fun p hm => by
  have : p.2 ∈ B.map (·.2) := List.mem_map.mpr ⟨_, hm, rfl⟩
  have h2 := (List.sublist_flatten_of_mem this).length_le
  have h3 := e.pm.length_eq
  unfold rows at h3
  omega
theorem Eff.len {N : List Int} {B : Bl} (e : Eff N B) : B.length = N.length := by rw [← e.ks]; unfold keys; rw [List.length_map]
theorem sp_joined {N : List Int} {B O : Bl} (a : Eff N B) (b : Eff N O) (hN : N.length ≤ 60) (h : Q (blkD (joinB B O)) A) : cal t (k + 2) "joined_in" [blkD B, blkD O] A X Q :=
  sp_joined_in (by rw [a.ks]; exact a.nd) (by have := Eff.len a; omega) (fun p hp => by have := Eff.row_len a hN p hp; omega) (fun i => by have := Eff.get_len b hN i; omega) h
set_option maxHeartbeats 2000000 in
theorem sp_powers {N : List Int} {B : Bl} {n : Nat} (b : Eff N B) (hN : N.length ≤ 60) (hn : n < 2 ^ 200) (h : Q (blkD (powB N B n)) A) : cal t (k + 3) "powers" [blkD B, .int n] A X Q := by
  refine calN_eq t_powers rfl ?_
  walk_at "run"
  intro L hL
  rw [keys_kv]
  refine dc_map (e := fun p : Int × List Int => D.int p.1) (p := fun _ => true) (gk := fun p => Sum.inl p.1) (g := fun p => linD [p.1]) hL B (by have := Eff.len b; rw [PySem.sizeLine_eq]; omega) (fun _ => holds_nil) ?_ ?_
  · intro x hx
    refine ⟨_, fun k h => h, fun A' R h _ => h, fun _ A' R h _ => h, fun _ A' R h _ => ?_⟩
    walk_at "run"
    exact h
  refine .fz put_same ?_
  rw [rem_put hL, filter_yes, mergK_new _ _ (by
    rw [List.map_map]
    simp only [List.map_nil, List.nil_append]
    have nd : (keys B).Nodup := by rw [b.ks]; exact b.nd
    unfold keys at nd
    exact List.Pairwise.map (f := Sum.inl) (S := (· ≠ ·)) (fun a b h e => h (Sum.inl.inj e)) nd |> fun z => by rwa [List.map_map] at z)]
  have es : [] ++ B.map (fun p => ((Sum.inl p.1 : L2.Key), linD [p.1])) = kvB (startB N) := by
    rw [← b.ks]
    unfold startB keys
    show _ = List.map _ (List.map _ _)
    rw [List.map_map, List.map_map]
    rfl
  rw [es]
  have ebit : ∀ m : Nat, m % 2 + 2 * (m / 2) = m := fun m => by omega
  walk_at "run"
  refine whl_by (fun m σ A' => A' = A ∧ ∃ (r a j : Nat), r < 2 ^ m ∧ a + j * r = n ∧ σ = [some (blkD (powB N B j)), some (.int r), some (blkD (powB N B a)), none]) ?_ 200 ?_
  · rintro m σ A' nx ⟨rfl, r, a, j, hr, he, rfl⟩ hk
    walk_at "run"
    by_cases h0 : (0 : Int) < (r : Int)
    · walk_at "run"
      have e2 : ((r : Int) % 2 = 1) ↔ r % 2 = 1 := by omega
      have e3 : ((r : Int) / 2) = ((r / 2 : Nat) : Int) := by omega
      obtain ⟨m, rfl⟩ : ∃ m', m = m' + 1 := by
        cases m with
        | zero => simp at hr; omega
        | succ m => exact ⟨m, rfl⟩
      have hr2 : r / 2 < 2 ^ m := by rw [Nat.pow_succ] at hr; omega
      have hd := ebit r
      by_cases h1 : (r : Int) % 2 = 1
      · walk_at "run"
        refine sp_joined (eff_pow b a) (eff_pow b j) hN ?_
        rw [pow_add b]
        walk_at "run"
        rw [e3]
        by_cases h2 : (0 : Int) < ((r / 2 : Nat) : Int)
        · walk_at "run"
          refine sp_joined (eff_pow b j) (eff_pow b j) hN ?_
          rw [pow_two b]
          walk_at "run"
          refine hk m _ _ rfl ⟨rfl, r / 2, a + j, 2 * j, hr2, ?_, rfl⟩
          have : r = 1 + 2 * (r / 2) := by have := e2.mp h1; omega
          have h9 : j * r = j * (1 + 2 * (r / 2)) := by rw [← this]
          rw [Nat.mul_add, Nat.mul_one] at h9
          have h10 : j * (2 * (r / 2)) = 2 * j * (r / 2) := by rw [← Nat.mul_assoc, Nat.mul_comm j 2]
          omega
        · walk_at "run"
          refine hk m _ _ rfl ⟨rfl, r / 2, a + j, j, hr2, ?_, rfl⟩
          have h3 : r / 2 = 0 := by omega
          have : r = 1 := by have := e2.mp h1; omega
          rw [h3]
          subst this
          omega
      · walk_at "run"
        rw [e3]
        have h2 : (0 : Int) < ((r / 2 : Nat) : Int) := by omega
        walk_at "run"
        refine sp_joined (eff_pow b j) (eff_pow b j) hN ?_
        rw [pow_two b]
        walk_at "run"
        refine hk m _ _ rfl ⟨rfl, r / 2, a, 2 * j, hr2, ?_, rfl⟩
        have : r = 2 * (r / 2) := by omega
        have h9 : j * r = j * (2 * (r / 2)) := by rw [← this]
        have h10 : j * (2 * (r / 2)) = 2 * j * (r / 2) := by rw [← Nat.mul_assoc, Nat.mul_comm j 2]
        omega
    · walk_at "run"
      have : r = 0 := by omega
      subst this
      have : a = n := by omega
      subst this
      exact .id h
  · refine ⟨rfl, n, 0, 1, hn, by omega, ?_⟩
    rw [pow_one b]
    rfl
set_option maxHeartbeats 1000000 in
theorem sp_after_times {l : List Int} {cs : List Cmd} {n : Nat} (vl : VLine l) (v : VScr cs) (hl : ∀ i ∈ named cs, i ∈ l) (hn : n ≤ 10 ^ 30) (h : Q (linD (subst (powB (named cs) (blocks cs) n) l)) A) : cal t (k + 7) "after_times" [linD l, scrD cs, .int n] A X Q := by
  have vi : ∀ c ∈ cs, c.2.1 ≠ c.2.2 := fun c hc => (v.it c hc).2.2
  have hN : (named cs).length ≤ 60 := items_len named_nd (named_it v.it)
  have ef := eff_pow (eff_blocks vi) n
  refine calN_eq t_after_times rfl ?_
  walk_at "run"
  refine sp_require_line vl ?_
  walk_at "run"
  refine sp_require_script v ?_
  walk_at "run"
  refine sp_require_times (by omega) (by omega) ?_
  walk_at "run"
  refine sp_named_in v ?_
  walk_at "run"
  refine sp_require_there hl (by omega) ?_
  walk_at "run"
  refine sp_blocks_in v ?_
  walk_at "run"
  refine sp_powers (eff_blocks vi) hN (Nat.lt_of_le_of_lt hn (by decide)) ?_
  walk_at "run"
  refine sp_line_by (by have := vl.len; omega) (fun i => by have := Eff.get_len ef hN i; omega) ?_
  walk_at "run"
  exact .id h
theorem sp_blocks_after {cs : List Cmd} {n : Nat} (v : VScr cs) (hn : n ≤ 10 ^ 30) (h : Q (blkD (powB (named cs) (blocks cs) n)) A) : cal t (k + 7) "blocks_after" [scrD cs, .int n] A X Q := by
  have vi : ∀ c ∈ cs, c.2.1 ≠ c.2.2 := fun c hc => (v.it c hc).2.2
  have hN : (named cs).length ≤ 60 := items_len named_nd (named_it v.it)
  refine calN_eq t_blocks_after rfl ?_
  walk_at "run"
  refine sp_require_script v ?_
  walk_at "run"
  refine sp_require_times (by omega) (by omega) ?_
  walk_at "run"
  refine sp_blocks_in v ?_
  walk_at "run"
  refine sp_powers (eff_blocks vi) hN (Nat.lt_of_le_of_lt hn (by decide)) ?_
  walk_at "run"
  exact .id h
end Pr

namespace FB
open PySem Py
def b__law_well : Ss := (.cons (.asg 2 "cell" (.cst (.int 0))) (.cons (.if_ (.cmp .lt (.var 1 "k") (.bif .len (.cons (.var 0 "script") .nil))) (.cons (.asg 2 "cell" (.idx (.var 0 "script") (.var 1 "k"))) .nil) .nil) (.cons (.ret (.lst (.cons (.bif .max (.cons (.cst (.int 0)) (.cons (.bin .sub (.var 2 "cell") (.bin .pow (.cst (.int 10)) (.cst (.int 18)))) .nil))) (.cons (.bin .add (.bin .add (.bin .mod (.var 2 "cell") (.bin .add (.bin .pow (.cst (.int 10)) (.cst (.int 38))) (.cst (.int 133)))) (.bin .mul (.cst (.int 50021)) (.var 1 "k"))) (.cst (.int 61))) (.cons (.cst (.int 0)) .nil))))) .nil)))
def d__law_well : Fd := ⟨2, 3, b__law_well⟩
def b__law_pail : Ss := (.cons (.if_ (.cmp .gt (.idx (.var 0 "well") (.cst (.int 0))) (.cst (.int 0))) (.cons (.asg 2 "found" (.bin .mod (.idx (.var 0 "well") (.cst (.int 0))) (.var 1 "bound"))) (.cons (.sto (.var 0 "well") (.cst (.int 0)) (.bin .fdiv (.idx (.var 0 "well") (.cst (.int 0))) (.var 1 "bound"))) (.cons (.ret (.var 2 "found")) .nil))) .nil) (.cons (.sto (.var 0 "well") (.cst (.int 2)) (.bin .add (.idx (.var 0 "well") (.cst (.int 2))) (.cst (.int 1)))) (.cons (.asg 3 "mixed" (.bin .mod (.bin .pow (.bin .add (.idx (.var 0 "well") (.cst (.int 1))) (.bin .mul (.cst (.int 49979693)) (.idx (.var 0 "well") (.cst (.int 2))))) (.cst (.int 3))) (.bin .add (.bin .pow (.cst (.int 10)) (.cst (.int 41))) (.cst (.int 37))))) (.cons (.asg 3 "mixed" (.bin .mod (.bin .pow (.bin .add (.var 3 "mixed") (.bin .mul (.cst (.int 15485867)) (.idx (.var 0 "well") (.cst (.int 2))))) (.cst (.int 3))) (.bin .add (.bin .pow (.cst (.int 10)) (.cst (.int 40))) (.cst (.int 121))))) (.cons (.ret (.bin .mod (.bin .fdiv (.var 3 "mixed") (.cst (.int 917503))) (.var 1 "bound"))) .nil)))))
def d__law_pail : Fd := ⟨2, 4, b__law_pail⟩
def b__law_mixed : Ss := (.cons (.asg 2 "left" (.bif .list (.cons (.var 1 "things") .nil))) (.cons (.ret (.lc (.mth .pop (.var 2 "left") (.cons (.call "_law_pail" (.cons (.var 0 "well") (.cons (.bif .len (.cons (.var 2 "left") .nil)) .nil))) .nil)) (.name 3 "k") (.rng1 (.bif .len (.cons (.var 1 "things") .nil))) .nil [("k", 3)])) .nil))
def d__law_mixed : Fd := ⟨2, 4, b__law_mixed⟩
def b__law_commands : Ss := (.cons (.asg 3 "items" (.slc (.call "_law_mixed" (.cons (.var 0 "well") (.cons (.lrg (.rng1 (.cst (.int 60)))) .nil))) .no (.yes (.bif .max (.cons (.cst (.int 2)) (.cons (.bif .min (.cons (.var 2 "most") (.cons (.idx (.lst (.cons (.bin .add (.cst (.int 2)) (.call "_law_pail" (.cons (.var 0 "well") (.cons (.var 2 "most") .nil)))) (.cons (.var 2 "most") .nil))) (.call "_law_pail" (.cons (.var 0 "well") (.cons (.cst (.int 2)) .nil)))) .nil))) .nil)))))) (.cons (.asg 4 "count" (.idx (.lst (.cons (.bin .add (.cst (.int 1)) (.call "_law_pail" (.cons (.var 0 "well") (.cons (.var 1 "many") .nil)))) (.cons (.var 1 "many") (.cons (.bin .add (.cst (.int 1)) (.call "_law_pail" (.cons (.var 0 "well") (.cons (.bif .min (.cons (.var 1 "many") (.cons (.cst (.int 5)) .nil))) .nil)))) .nil)))) (.call "_law_pail" (.cons (.var 0 "well") (.cons (.cst (.int 3)) .nil))))) (.cons (.par [(5, "way"), (6, "found")] (.cons (.call "_law_pail" (.cons (.var 0 "well") (.cons (.cst (.int 6)) .nil))) (.cons (.lst .nil) .nil))) (.cons (.for_ (.name 7 "turn") (.rng1 (.var 4 "count")) (.cons (.asg 8 "at" (.lst (.cons (.call "_law_pail" (.cons (.var 0 "well") (.cons (.bif .len (.cons (.var 3 "items") .nil)) .nil))) (.cons (.bin .mod (.var 7 "turn") (.bif .len (.cons (.var 3 "items") .nil))) (.cons (.bin .mod (.var 7 "turn") (.bif .len (.cons (.var 3 "items") .nil))) (.cons (.bin .mod (.var 7 "turn") (.bif .len (.cons (.var 3 "items") .nil))) .nil)))))) (.cons (.asg 8 "at" (.idx (.bin .add (.var 8 "at") (.lst (.cons (.call "_law_pail" (.cons (.var 0 "well") (.cons (.bif .min (.cons (.cst (.int 3)) (.cons (.bif .len (.cons (.var 3 "items") .nil)) .nil))) .nil))) (.cons (.bin .sub (.bin .sub (.bif .len (.cons (.var 3 "items") .nil)) (.cst (.int 1))) (.bin .mod (.var 7 "turn") (.bif .len (.cons (.var 3 "items") .nil)))) .nil)))) (.var 5 "way"))) (.cons (.asg 9 "step" (.lst (.cons (.bin .add (.cst (.int 1)) (.call "_law_pail" (.cons (.var 0 "well") (.cons (.bin .sub (.bif .len (.cons (.var 3 "items") .nil)) (.cst (.int 1))) .nil)))) (.cons (.cst (.int 1)) (.cons (.bin .sub (.bif .len (.cons (.var 3 "items") .nil)) (.bin .mod (.var 8 "at") (.bif .len (.cons (.var 3 "items") .nil)))) (.cons (.bin .add (.cst (.int 1)) (.bin .mod (.var 7 "turn") (.bif .max (.cons (.cst (.int 1)) (.cons (.bin .sub (.bif .len (.cons (.var 3 "items") .nil)) (.cst (.int 1))) .nil))))) .nil)))))) (.cons (.asg 10 "to" (.bin .mod (.bin .add (.var 8 "at") (.idx (.bin .add (.var 9 "step") (.lst (.cons (.bin .add (.cst (.int 1)) (.call "_law_pail" (.cons (.var 0 "well") (.cons (.bin .sub (.bif .len (.cons (.var 3 "items") .nil)) (.cst (.int 1))) .nil)))) (.cons (.cst (.int 1)) .nil)))) (.var 5 "way"))) (.bif .len (.cons (.var 3 "items") .nil)))) (.cons (.if_ (.cmp .eq (.var 10 "to") (.var 8 "at")) (.cons (.asg 10 "to" (.bin .mod (.bin .add (.var 8 "at") (.cst (.int 1))) (.bif .len (.cons (.var 3 "items") .nil)))) .nil) .nil) (.cons (.asg 11 "word" (.idx (.lst (.cons (.cst (.str "behind")) (.cons (.cst (.str "before")) .nil))) (.idx (.lst (.cons (.call "_law_pail" (.cons (.var 0 "well") (.cons (.cst (.int 2)) .nil))) (.cons (.cst (.int 0)) (.cons (.cst (.int 0)) (.cons (.cst (.int 1)) .nil))))) (.call "_law_pail" (.cons (.var 0 "well") (.cons (.cst (.int 4)) .nil)))))) (.cons (.exp (.mth .append (.var 6 "found") (.cons (.tup (.cons (.var 11 "word") (.cons (.idx (.var 3 "items") (.var 8 "at")) (.cons (.idx (.var 3 "items") (.var 10 "to")) .nil)))) .nil))) .nil))))))) [1, 2, 4, 7, 8, 9, 10, 11]) (.cons (.ret (.bif .tuple (.cons (.var 6 "found") .nil))) .nil)))))
def d__law_commands : Fd := ⟨3, 12, b__law_commands⟩
def b__law_named : Ss := (.cons (.asg 1 "found" (.dnil)) (.cons (.for_ (.tup [(2, "word"), (3, "item"), (4, "other")]) (.seq (.var 0 "commands")) (.cons (.sto (.var 1 "found") (.var 3 "item") (.cst (.bl true))) (.cons (.sto (.var 1 "found") (.var 4 "other") (.cst (.bl true))) .nil)) [0, 2, 3, 4]) (.cons (.ret (.bif .sorted (.cons (.var 1 "found") .nil))) .nil)))
def d__law_named : Fd := ⟨1, 5, b__law_named⟩
def b__law_line : Ss := (.cons (.asg 2 "others" (.lc (.var 3 "item") (.name 3 "item") (.rng1 (.cst (.int 60))) (.cons (.cmp .nin (.var 3 "item") (.var 1 "own")) .nil) [("item", 3)])) (.cons (.asg 4 "few" (.slc (.call "_law_mixed" (.cons (.var 0 "well") (.cons (.var 2 "others") .nil))) .no (.yes (.idx (.lst (.cons (.cst (.int 0)) (.cons (.call "_law_pail" (.cons (.var 0 "well") (.cons (.cst (.int 4)) .nil))) (.cons (.call "_law_pail" (.cons (.var 0 "well") (.cons (.bin .add (.bif .len (.cons (.var 2 "others") .nil)) (.cst (.int 1))) .nil))) .nil)))) (.call "_law_pail" (.cons (.var 0 "well") (.cons (.cst (.int 3)) .nil))))))) (.cons (.ret (.bif .tuple (.cons (.call "_law_mixed" (.cons (.var 0 "well") (.cons (.bin .add (.bif .list (.cons (.var 1 "own") .nil)) (.var 4 "few")) .nil))) .nil))) .nil)))
def d__law_line : Fd := ⟨2, 5, b__law_line⟩
def b__law_shifted : Ss := (.cons (.asg 2 "found" (.bif .list (.cons (.var 0 "line_here") .nil))) (.cons (.for_ (.tup [(3, "word"), (4, "item"), (5, "other")]) (.seq (.var 1 "commands")) (.cons (.exp (.mth .remove (.var 2 "found") (.cons (.var 4 "item") .nil))) (.cons (.exp (.mth .insert (.var 2 "found") (.cons (.bin .add (.mth .index (.var 2 "found") (.cons (.var 5 "other") .nil)) (.bif .int (.cons (.cmp .eq (.var 3 "word") (.cst (.str "behind"))) .nil))) (.cons (.var 4 "item") .nil)))) .nil)) [0, 1, 3, 4, 5]) (.cons (.ret (.bif .tuple (.cons (.var 2 "found") .nil))) .nil)))
def d__law_shifted : Fd := ⟨2, 6, b__law_shifted⟩
def b__law_split : Ss := (.cons (.asg 1 "found" (.dnil)) (.cons (.for_ (.name 2 "item") (.seq (.call "_law_named" (.cons (.var 0 "commands") .nil))) (.cons (.sto (.var 1 "found") (.var 2 "item") (.lst (.cons (.var 2 "item") .nil))) .nil) [2, 3, 4, 5, 6, 7, 8]) (.cons (.frz 1) (.cons (.for_ (.tup [(3, "word"), (2, "item"), (4, "other")]) (.seq (.var 0 "commands")) (.cons (.asg 5 "home" (.idx (.lc (.var 6 "start") (.name 6 "start") (.seq (.var 1 "found")) (.cons (.cmp .in_ (.var 2 "item") (.idx (.var 1 "found") (.var 6 "start"))) .nil) [("start", 6)]) (.cst (.int 0)))) (.cons (.asg 7 "row" (.idx (.var 1 "found") (.var 5 "home"))) (.cons (.exp (.mth .remove (.var 7 "row") (.cons (.var 2 "item") .nil))) (.cons (.asg 8 "goal" (.idx (.lc (.var 6 "start") (.name 6 "start") (.seq (.var 1 "found")) (.cons (.cmp .in_ (.var 4 "other") (.idx (.var 1 "found") (.var 6 "start"))) .nil) [("start", 6)]) (.cst (.int 0)))) (.cons (.asg 7 "row" (.idx (.var 1 "found") (.var 8 "goal"))) (.cons (.exp (.mth .insert (.var 7 "row") (.cons (.bin .add (.mth .index (.var 7 "row") (.cons (.var 4 "other") .nil)) (.bif .int (.cons (.cmp .eq (.var 3 "word") (.cst (.str "behind"))) .nil))) (.cons (.var 2 "item") .nil)))) .nil)))))) [0, 2, 3, 4, 5, 6, 7, 8]) (.cons (.ret (.bif .dict (.cons (.lc (.tup (.cons (.var 6 "start") (.cons (.bif .tuple (.cons (.idx (.var 1 "found") (.var 6 "start")) .nil)) .nil))) (.name 6 "start") (.seq (.var 1 "found")) .nil [("start", 6)]) .nil))) .nil)))))
def d__law_split : Fd := ⟨1, 9, b__law_split⟩
def b__law_goes : Ss := (.cons (.asg 1 "found" (.dnil)) (.cons (.for_ (.name 2 "start") (.seq (.var 0 "split_here")) (.cons (.for_ (.name 3 "item") (.seq (.idx (.var 0 "split_here") (.var 2 "start"))) (.cons (.sto (.var 1 "found") (.var 3 "item") (.var 2 "start")) .nil) [3]) .nil) [2, 3]) (.cons (.ret (.var 1 "found")) .nil)))
def d__law_goes : Fd := ⟨1, 4, b__law_goes⟩
def b__law_again : Ss := (.cons (.asg 2 "found" (.dnil)) (.cons (.for_ (.name 3 "start") (.seq (.var 0 "one")) (.cons (.asg 4 "row" (.tup .nil)) (.cons (.for_ (.name 5 "item") (.seq (.idx (.var 0 "one") (.var 3 "start"))) (.cons (.asg 4 "row" (.bin .add (.var 4 "row") (.idx (.var 1 "two") (.var 5 "item")))) .nil) [5]) (.cons (.sto (.var 2 "found") (.var 3 "start") (.var 4 "row")) .nil))) [3, 4, 5]) (.cons (.ret (.var 2 "found")) .nil)))
def d__law_again : Fd := ⟨2, 6, b__law_again⟩
def b__law_steps : Ss := (.cons (.par [(1, "goes"), (2, "ringed"), (3, "longest")] (.cons (.call "_law_goes" (.cons (.var 0 "split_here") .nil)) (.cons (.dnil) (.cons (.cst (.int 0)) .nil)))) (.cons (.for_ (.name 4 "item") (.seq (.var 1 "goes")) (.cons (.asg 5 "here" (.var 4 "item")) (.cons (.for_ (.name 6 "turn") (.rng1 (.bif .len (.cons (.var 1 "goes") .nil))) (.cons (.asg 5 "here" (.idx (.var 1 "goes") (.var 5 "here"))) .nil) [0, 4, 6, 7]) (.cons (.sto (.var 2 "ringed") (.var 5 "here") (.cst (.bl true))) .nil))) [0, 4, 5, 6, 7]) (.cons (.for_ (.name 4 "item") (.seq (.var 1 "goes")) (.cons (.par [(5, "here"), (7, "many")] (.cons (.var 4 "item") (.cons (.cst (.int 0)) .nil))) (.cons (.whl (.cmp .nin (.var 5 "here") (.var 2 "ringed")) (.cons (.par [(5, "here"), (7, "many")] (.cons (.idx (.var 1 "goes") (.var 5 "here")) (.cons (.bin .add (.var 7 "many") (.cst (.int 1))) .nil))) .nil) [0, 4, 6]) (.cons (.asg 3 "longest" (.bif .max (.cons (.var 3 "longest") (.cons (.var 7 "many") .nil)))) .nil))) [0, 4, 5, 6, 7]) (.cons (.ret (.lst (.cons (.var 3 "longest") (.cons (.var 2 "ringed") .nil)))) .nil))))
def d__law_steps : Fd := ⟨1, 8, b__law_steps⟩
def b__law_far : Ss := (.cons (.par [(2, "goes"), (3, "longest")] (.cons (.call "_law_goes" (.cons (.var 0 "split_here") .nil)) (.cons (.call "_law_steps" (.cons (.var 0 "split_here") .nil)) .nil))) (.cons (.asg 4 "found" (.bif .dict (.cons (.lc (.tup (.cons (.var 5 "item") (.cons (.tup (.cons (.var 5 "item") .nil)) .nil))) (.name 5 "item") (.seq (.var 0 "split_here")) .nil [("item", 5)]) .nil))) (.cons (.for_ (.name 6 "turn") (.rng1 (.bif .min (.cons (.var 1 "many") (.cons (.idx (.var 3 "longest") (.cst (.int 0))) .nil)))) (.cons (.asg 4 "found" (.call "_law_again" (.cons (.var 0 "split_here") (.cons (.var 4 "found") .nil)))) .nil) [5, 6, 7, 8, 9, 10]) (.cons (.if_ (.cmp .le (.var 1 "many") (.idx (.var 3 "longest") (.cst (.int 0)))) (.cons (.ret (.var 4 "found")) .nil) .nil) (.cons (.par [(7, "back"), (8, "later")] (.cons (.dnil) (.cons (.dnil) .nil))) (.cons (.for_ (.name 5 "item") (.seq (.idx (.var 3 "longest") (.cst (.int 1)))) (.cons (.sto (.var 7 "back") (.idx (.var 2 "goes") (.var 5 "item")) (.var 5 "item")) .nil) [5, 6, 9, 10]) (.cons (.for_ (.name 5 "item") (.seq (.var 0 "split_here")) (.cons (.sto (.var 8 "later") (.var 5 "item") (.tup .nil)) (.cons (.if_ (.cmp .in_ (.var 5 "item") (.var 7 "back")) (.cons (.par [(9, "ring"), (10, "here")] (.cons (.lst (.cons (.var 5 "item") .nil)) (.cons (.idx (.var 7 "back") (.var 5 "item")) .nil))) (.cons (.whl (.cmp .ne (.var 10 "here") (.var 5 "item")) (.cons (.exp (.mth .append (.var 9 "ring") (.cons (.var 10 "here") .nil))) (.cons (.asg 10 "here" (.idx (.var 7 "back") (.var 10 "here"))) .nil)) [0, 2, 6]) (.cons (.sto (.var 8 "later") (.var 5 "item") (.idx (.var 4 "found") (.idx (.var 9 "ring") (.bin .mod (.bin .sub (.var 1 "many") (.idx (.var 3 "longest") (.cst (.int 0)))) (.bif .len (.cons (.var 9 "ring") .nil)))))) .nil))) .nil) .nil)) [0, 2, 5, 6, 9, 10]) (.cons (.ret (.var 8 "later")) .nil))))))))
def d__law_far : Fd := ⟨2, 11, b__law_far⟩
def b__law_turning : Ss := (.cons (.par [(1, "items"), (2, "found")] (.cons (.call "_law_mixed" (.cons (.var 0 "well") (.cons (.lrg (.rng1 (.cst (.int 60)))) .nil))) (.cons (.lst .nil) .nil))) (.cons (.whl (.cmp .gt (.bif .len (.cons (.var 1 "items") .nil)) (.cst (.int 1))) (.cons (.asg 3 "size_here" (.bin .add (.cst (.int 2)) (.call "_law_pail" (.cons (.var 0 "well") (.cons (.bif .min (.cons (.idx (.lst (.cons (.cst (.int 13)) (.cons (.cst (.int 59)) .nil))) (.call "_law_pail" (.cons (.var 0 "well") (.cons (.cst (.int 2)) .nil)))) (.cons (.bin .sub (.bif .len (.cons (.var 1 "items") .nil)) (.cst (.int 1))) .nil))) .nil))))) (.cons (.par [(4, "group"), (1, "items")] (.cons (.slc (.var 1 "items") .no (.yes (.var 3 "size_here"))) (.cons (.slc (.var 1 "items") (.yes (.var 3 "size_here")) .no) .nil))) (.cons (.exp (.mth .extend (.var 2 "found") (.cons (.lc (.tup (.cons (.cst (.str "behind")) (.cons (.var 5 "one") (.cons (.var 6 "two") .nil)))) (.tup [(5, "one"), (6, "two")]) (.zip (.var 4 "group") (.bin .add (.slc (.var 4 "group") (.yes (.cst (.int 1))) .no) (.slc (.var 4 "group") .no (.yes (.cst (.int 1)))))) .nil [("one", 5), ("two", 6)]) .nil))) .nil))) [3, 4, 5, 6]) (.cons (.ret (.bif .tuple (.cons (.var 2 "found") .nil))) .nil)))
def d__law_turning : Fd := ⟨1, 7, b__law_turning⟩
def b__law_orders : Ss := (.cons (.asg 1 "found" (.lst (.cons (.tup .nil) .nil))) (.cons (.for_ (.name 2 "turn") (.rng1 (.bif .len (.cons (.var 0 "items") .nil))) (.cons (.asg 3 "longer" (.lst .nil)) (.cons (.for_ (.name 4 "row") (.seq (.var 1 "found")) (.cons (.exp (.mth .extend (.var 3 "longer") (.cons (.lc (.bin .add (.var 4 "row") (.tup (.cons (.var 5 "item") .nil))) (.name 5 "item") (.seq (.var 0 "items")) (.cons (.cmp .nin (.var 5 "item") (.var 4 "row")) .nil) [("item", 5)]) .nil))) .nil) [1, 2, 4, 5]) (.cons (.asg 1 "found" (.var 3 "longer")) .nil))) [2, 3, 4, 5]) (.cons (.ret (.var 1 "found")) .nil)))
def d__law_orders : Fd := ⟨1, 6, b__law_orders⟩
def b__law_ahead : Ss := (.cons (.ret (.cmp .lt (.mth .index (.var 0 "line_here") (.cons (.var 1 "one") .nil)) (.mth .index (.var 0 "line_here") (.cons (.var 2 "two") .nil)))) .nil)
def d__law_ahead : Fd := ⟨3, 3, b__law_ahead⟩
def table : List (Str × Fd) := [tp "_law_well" d__law_well, tp "_law_pail" d__law_pail, tp "_law_mixed" d__law_mixed, tp "_law_commands" d__law_commands, tp "_law_named" d__law_named, tp "_law_line" d__law_line, tp "_law_shifted" d__law_shifted, tp "_law_split" d__law_split, tp "_law_goes" d__law_goes, tp "_law_again" d__law_again, tp "_law_steps" d__law_steps, tp "_law_far" d__law_far, tp "_law_turning" d__law_turning, tp "_law_orders" d__law_orders, tp "_law_ahead" d__law_ahead]
/-- a table that holds these -/
class Has (t : Tb) : Prop where
  h : ∀ x d, table.lookup x = some d → t.T x = some d
theorem t__law_well {t : Tb} [h : Has t] : t.T "_law_well" = some d__law_well := h.h _ _ (by rfl)
theorem t__law_pail {t : Tb} [h : Has t] : t.T "_law_pail" = some d__law_pail := h.h _ _ (by rfl)
theorem t__law_mixed {t : Tb} [h : Has t] : t.T "_law_mixed" = some d__law_mixed := h.h _ _ (by rfl)
theorem t__law_commands {t : Tb} [h : Has t] : t.T "_law_commands" = some d__law_commands := h.h _ _ (by rfl)
theorem t__law_named {t : Tb} [h : Has t] : t.T "_law_named" = some d__law_named := h.h _ _ (by rfl)
theorem t__law_line {t : Tb} [h : Has t] : t.T "_law_line" = some d__law_line := h.h _ _ (by rfl)
theorem t__law_shifted {t : Tb} [h : Has t] : t.T "_law_shifted" = some d__law_shifted := h.h _ _ (by rfl)
theorem t__law_split {t : Tb} [h : Has t] : t.T "_law_split" = some d__law_split := h.h _ _ (by rfl)
theorem t__law_goes {t : Tb} [h : Has t] : t.T "_law_goes" = some d__law_goes := h.h _ _ (by rfl)
theorem t__law_again {t : Tb} [h : Has t] : t.T "_law_again" = some d__law_again := h.h _ _ (by rfl)
theorem t__law_steps {t : Tb} [h : Has t] : t.T "_law_steps" = some d__law_steps := h.h _ _ (by rfl)
theorem t__law_far {t : Tb} [h : Has t] : t.T "_law_far" = some d__law_far := h.h _ _ (by rfl)
theorem t__law_turning {t : Tb} [h : Has t] : t.T "_law_turning" = some d__law_turning := h.h _ _ (by rfl)
theorem t__law_orders {t : Tb} [h : Has t] : t.T "_law_orders" = some d__law_orders := h.h _ _ (by rfl)
theorem t__law_ahead {t : Tb} [h : Has t] : t.T "_law_ahead" = some d__law_ahead := h.h _ _ (by rfl)
end FB

namespace FB
open PySem Py Mv Pr
variable {t : Tb} [Has t] {k : Nat} {A B : AH} {X : Dx} {Q : Dk}
/-- the state of the draws at a, all else as in B; fewer than m draws so far -/
def Wel (B : AH) (a : PySem.Addr) (A : AH) (m : Nat) : Prop := ∃ x y z : Int, A = put B a (.lst [.int x, .int y, .int z]) ∧ 0 ≤ y ∧ y < 2 ^ 200 ∧ 0 ≤ z ∧ z ≤ m
theorem Wel.at {a : PySem.Addr} {m : Nat} (h : Wel B a A m) {p : PySem.Addr} (hp : p ≠ a) : A p = B p := by obtain ⟨x, y, z, rfl, _⟩ := h; exact put_ne hp
theorem Wel.some {a : PySem.Addr} {m : Nat} (h : Wel B a A m) : ∃ o, A a = some o := by obtain ⟨x, y, z, rfl, _⟩ := h; exact ⟨_, put_same⟩
theorem Wel.more {a : PySem.Addr} {m n : Nat} (h : Wel B a A m) (hn : m ≤ n) : Wel B a A n := by
  obtain ⟨x, y, z, e, b1, b2, b3, b4⟩ := h
  exact ⟨x, y, z, e, b1, b2, b3, by omega⟩
/-- with one more object -/
theorem Wel.put {a p : PySem.Addr} {m : Nat} {o : AO} (h : Wel B a A m) (hp : p ≠ a) : Wel (put B p o) a (put A p o) m := by
  obtain ⟨x, y, z, rfl, b⟩ := h
  exact ⟨x, y, z, by rw [put_comm (Ne.symm hp)], b⟩
theorem Wel.ne {a p : PySem.Addr} {m : Nat} (h : Wel B a A m) (hp : A p = none) : p ≠ a := fun e => by
  obtain ⟨o, ho⟩ := h.some
  rw [e, ho] at hp
  cases hp
theorem Wel.nil {a p : PySem.Addr} {m : Nat} (h : Wel B a A m) (hp : A p = none) : B p = none := by rw [← h.at (h.ne hp)]; exact hp
/-- an object taken away again -/
theorem Wel.rem {a p : PySem.Addr} {m : Nat} {o : AO} (h : Wel (Py.put B p o) a A m) (hp : p ≠ a) (hB : B p = none) : Wel B a (Py.rem A p) m := by
  obtain ⟨x, y, z, rfl, b⟩ := h
  refine ⟨x, y, z, ?_, b⟩
  rw [put_comm hp, rem_put (by rw [put_ne hp]; exact hB)]
theorem Wel.sub {a p : PySem.Addr} {m : Nat} {o : AO} (h : Wel (Py.put B p o) a A m) (hp : p ≠ a) (hB : B p = none) : ∃ A2, Wel B a A2 m ∧ Py.Sub A2 A ∧ A2 p = Option.none := by
  obtain ⟨x, y, z, rfl, b⟩ := h
  refine ⟨_, ⟨x, y, z, rfl, b⟩, ?_, by rw [put_ne hp]; exact hB⟩
  rw [put_comm hp]
  exact Sub.fresh (by rw [put_ne hp]; exact hB)
theorem sp_well {ns : List Int} {j : Nat} (hj : j < 2 ^ 60) (h : ∀ p A', A p = none → Wel A p A' 0 → Q (.ref p) A') : cal t (k + 1) "_law_well" [.fl (ns.map .int), .int j] A X Q := by
  refine calN_eq t__law_well rfl ?_
  have core : ∀ c : Int, ∀ p, A p = none → EndOk (put A p (.lst [.int (if c - 10 ^ Int.toNat 18 > 0 then c - 10 ^ Int.toNat 18 else 0), .int (c % (10 ^ Int.toNat 38 + 133) + 50021 * j + 61), .int 0])) (.ref p) Q := fun c p hp => by
    have x1 : 0 ≤ c % (10 ^ Int.toNat 38 + 133) := Int.emod_nonneg _ (by decide +kernel)
    have x2 : c % (10 ^ Int.toNat 38 + 133) < 2 ^ 150 := Int.lt_trans (Int.emod_lt_of_pos _ (by decide +kernel)) (by decide +kernel)
    generalize c % (10 ^ Int.toNat 38 + 133) = y at *
    exact .id (h p _ hp ⟨_, _, _, rfl, by omega, by omega, by omega, by omega⟩)
  walk_at "run"
  by_cases c : (j : Int) < (List.map D.int ns).length
  · have e : L2.atI (List.map D.int ns) (j : Int) = some (.int ns[j]!) := L2.atI_nat (by
      have : j < ns.length := by simpa using c
      simp [this])
    walk_at "run"
    have x1 : 0 ≤ ns[j]! % (10 ^ Int.toNat 38 + 133) := Int.emod_nonneg _ (by decide +kernel)
    refine ⟨cmulw 30 61 (by decide) (by omega) (by decide) (by decide) (by decide), ?_⟩
    walk_at "run"
    refine .new fun p hp => ?_
    exact core _ p hp
  · walk_at "run"
    refine ⟨cmulw 30 61 (by decide) (by omega) (by decide) (by decide) (by decide), ?_⟩
    walk_at "run"
    refine .new fun p hp => ?_
    exact core _ p hp
theorem sp_pail {a : PySem.Addr} {m : Nat} {many : Int} (w : Wel B a A m) (hm : m < 2 ^ 60) (h0 : 0 < many) (h1 : many < 2 ^ 200) (h : ∀ r A', 0 ≤ r → r < many → Wel B a A' (m + 1) → Q (.int r) A') : cal t (k + 1) "_law_pail" [.ref a, .int many] A X Q := by
  obtain ⟨x, y, z, rfl, b1, b2, b3, b4⟩ := w
  refine calN_eq t__law_pail rfl ?_
  walk_at "run"
  by_cases c : 0 < x
  · walk_at "run"
    refine ⟨cdivw 200 h0 (by omega) (by decide) (by decide), ?_⟩
    walk_at "run"
    rw [put_put]
    exact .id (h _ _ (Int.emod_nonneg _ (by omega)) (Int.emod_lt_of_pos _ h0) ⟨_, _, _, rfl, b1, b2, b3, by omega⟩)
  · walk_at "run"
    refine ⟨cmulw 30 61 (by decide) (by omega) (by decide) (by decide) (by decide), ?_⟩
    walk_at "run"
    refine ⟨cpoww 300 (by omega) (by decide) (by decide) (by decide) (by decide), ?_⟩
    walk_at "run"
    generalize hx : (y + 49979693 * (z + 1)) ^ Int.toNat 3 % (10 ^ Int.toNat 41 + 37) = x1
    have y1 : 0 ≤ x1 := by rw [← hx]; exact Int.emod_nonneg _ (by decide +kernel)
    have y2 : x1 < 10 ^ Int.toNat 41 + 37 := by rw [← hx]; exact Int.emod_lt_of_pos _ (by decide +kernel)
    have y3 : x1 < 2 ^ 200 := Int.lt_trans y2 (by decide +kernel)
    refine ⟨cmulw 30 61 (by decide) (by omega) (by decide) (by decide) (by decide), ?_⟩
    walk_at "run"
    refine ⟨cpoww 300 (by omega) (by decide) (by decide) (by decide) (by decide), ?_⟩
    walk_at "run"
    rw [put_put]
    exact .id (h _ _ (Int.emod_nonneg _ (by omega)) (Int.emod_lt_of_pos _ h0) ⟨_, _, _, rfl, b1, b2, by omega, by omega⟩)
theorem erase_perm {ds : List D} {i : Nat} {d : D} (h : ds[i]? = some d) : (d :: ds.eraseIdx i).Perm ds := by
  obtain ⟨hi, rfl⟩ := List.getElem?_eq_some_iff.mp h
  have e : ds = ds.take i ++ ds[i] :: ds.drop (i + 1) := by rw [List.getElem_cons_drop, List.take_append_drop]
  rw [List.eraseIdx_eq_take_drop_succ]
  exact (List.perm_middle (l₁ := ds.take i) (l₂ := ds.drop (i + 1)) (a := ds[i])).symm.trans (by rw [← e])
set_option maxHeartbeats 1000000 in
theorem sp_mixed {a : PySem.Addr} {m : Nat} {ds : List D} (w : Wel B a A m) (hm : m < 2 ^ 59) (hz : ds.length ≤ 1000) (h : ∀ es A', es.Perm ds → Wel B a A' (m + 1000) → Q (.fl es) A') : cal t (k + 2) "_law_mixed" [.ref a, .fl ds] A X Q := by
  refine calN_eq t__law_mixed rfl ?_
  walk_at "run"
  refine .new fun q hq => ?_
  walk_at "run"
  intro L hL
  have qa := w.ne hq
  have hBq := w.nil hq
  have w1 := w.put (o := .lst ds) qa
  have La := w1.ne hL
  have Lq : L ≠ q := fun e => by rw [e, put_same] at hL; cases hL
  have w2 := w1.put (o := .lst []) La
  have hBL : B L = none := by have := w1.nil hL; rwa [put_ne Lq] at this
  rw [rng_eq]
  refine lc_inv (e := fun k : Nat => D.int (0 + (k : Nat))) (fun r acc A' => ∃ rest : List D, Wel (put (put B q (.lst rest)) L (.lst acc)) a A' (m + acc.length) ∧ (acc ++ rest).Perm ds ∧ rest.length = r.length) _ [] ⟨ds, w2, .refl _, by simp⟩ (fun _ _ _ _ => holds_nil) ?_ ?_
  · rintro i r acc A' nx hi ⟨rest, wr, hp, hl⟩ hk
    have hq1 : A' q = some (.lst rest) := by rw [wr.at qa, put_ne (Ne.symm Lq), put_same]
    have hL1 : A' L = some (.lst acc) := by rw [wr.at La, put_same]
    have hlen := hp.length_eq
    rw [List.length_append] at hlen
    walk_at "run"
    refine sp_pail wr (by omega) (by rw [hl, List.length_cons]; omega) (by omega) ?_
    intro v A2 v0 v1 wv
    have hq2 : A2 q = some (.lst rest) := by rw [wv.at qa, put_ne (Ne.symm Lq), put_same]
    have hL2 : A2 L = some (.lst acc) := by rw [wv.at La, put_same]
    obtain ⟨d, hd⟩ : ∃ d, rest[v.toNat]? = some d := ⟨_, List.getElem?_eq_getElem (by omega)⟩
    walk_at "run"
    rw [hd]
    walk_at "run"
    have hz2 : acc.length < sizeLine := by rw [PySem.sizeLine_eq]; omega
    have hL3 : put A2 q (.lst (rest.eraseIdx v.toNat)) L = some (.lst acc) := by rw [put_ne Lq]; exact hL2
    walk_at "run"
    refine hk (acc ++ [d]) _ ⟨rest.eraseIdx v.toNat, ?_, ?_, ?_⟩
    · obtain ⟨x, y, z, rfl, b1, b2, b3, b4⟩ := wv
      refine ⟨x, y, z, ?_, b1, b2, b3, by simp; omega⟩
      funext b
      unfold Py.put
      by_cases e1 : b = L
      · have n1 : L ≠ a := La
        simp [e1, n1, Lq]
      · by_cases e2 : b = q
        · have n2 : q ≠ a := qa
          simp [e2, n2, Ne.symm Lq]
        · simp [e1, e2]
    · have := erase_perm hd
      rw [List.append_assoc]
      exact (List.Perm.append_left acc this).trans hp
    · have := (List.getElem?_eq_some_iff.mp hd).1
      rw [List.length_eraseIdx_of_lt this, hl, List.length_cons]
      omega
  · rintro acc A' ⟨rest, wr, hp, hl⟩
    have : rest = [] := List.length_eq_zero_iff.mp (by simpa using hl)
    subst this
    rw [List.append_nil] at hp
    obtain ⟨A2, w2, s2, n2⟩ := wr.sub La (by rw [put_ne Lq]; exact hBL)
    refine outL.keep ?_
    walk_at "run"
    have hL1 : A' L = some (.lst acc) := by rw [wr.at La, put_same]
    obtain ⟨A3, w3, s3, n3⟩ := w2.sub qa hBq
    have n4 : A3 L = none := by rw [w3.at La]; exact hBL
    refine .lst hL1 (s3.trans s2) n4 (h acc A3 hp (w3.more ?_))
    have := hp.length_eq
    omega
theorem perm_ints {ns : List Int} {es : List D} (h : es.Perm (ns.map .int)) : ∃ ms : List Int, es = ms.map .int ∧ ms.Perm ns := by
  have go : ∀ es : List D, (∀ x ∈ es, ∃ i, x = .int i) → ∃ ms : List Int, es = ms.map .int := fun es => by
    induction es with
    | nil => intro _; exact ⟨[], rfl⟩
    | cons e es ih =>
      intro h
      obtain ⟨i, rfl⟩ := h e List.mem_cons_self
      obtain ⟨ms, rfl⟩ := ih fun x hx => h x (List.mem_cons_of_mem _ hx)
      exact ⟨i :: ms, rfl⟩
  obtain ⟨ms, rfl⟩ := go es fun x hx => by
    obtain ⟨i, _, rfl⟩ := List.mem_map.mp (h.mem_iff.mp hx)
    exact ⟨i, rfl⟩
  refine ⟨ms, rfl, ?_⟩
  have g : ∀ l : List Int, (l.map D.int).filterMap (fun d => match d with | .int i => some i | _ => none) = l := fun l => by
    induction l with
    | nil => rfl
    | cons a l ih => simp [ih]
  have := h.filterMap (fun d => match d with | .int i => some i | _ => none)
  rwa [g, g] at this
theorem sp_mixedI {a : PySem.Addr} {m : Nat} {ns : List Int} (w : Wel B a A m) (hm : m < 2 ^ 59) (hz : ns.length ≤ 1000) (h : ∀ (ms : List Int) A', ms.Perm ns → Wel B a A' (m + 1000) → Q (.fl (ms.map .int)) A') : cal t (k + 2) "_law_mixed" [.ref a, .fl (ns.map .int)] A X Q := by
  refine sp_mixed w hm (by simpa using hz) fun es A' hp w' => ?_
  obtain ⟨ms, rfl, hp2⟩ := perm_ints hp
  exact h ms A' hp2 w'
theorem at_int {ns : List Int} {i : Int} (h0 : 0 ≤ i) (h1 : i < ns.length) : ∃ x, x ∈ ns ∧ L2.atI (ns.map D.int) i = some (.int x) := by
  obtain ⟨j, rfl⟩ : ∃ j : Nat, i = j := ⟨i.toNat, by omega⟩
  have hj : j < ns.length := by omega
  exact ⟨ns[j], List.getElem_mem hj, L2.atI_nat (by simp [hj])⟩
theorem at_nat {ns : List Int} {j : Nat} (h1 : j < ns.length) : L2.atI (ns.map D.int) (j : Int) = some (.int (ns[j]'h1)) := L2.atI_nat (by simp [h1])
def rng60 : List Int := (List.range 60).map fun k : Nat => (k : Int)
theorem rngD_map (n : Nat) : rngD 0 n = ((List.range n).map fun k : Nat => (k : Int)).map D.int := by
  rw [rng_eq, List.map_map]
  refine List.map_congr_left fun k _ => ?_
  show D.int (0 + (k : Int)) = D.int (k : Int)
  rw [Int.zero_add]
theorem rng60_nd : rng60.Nodup := by decide +kernel
theorem rng60_it : ∀ i ∈ rng60, VItem i := by
  have : ∀ i ∈ rng60, 0 ≤ i ∧ i < 60 := by decide +kernel
  exact this
set_option maxHeartbeats 4000000 in
theorem sp_commands {a : PySem.Addr} {m : Nat} {many most : Int} (w : Wel B a A m) (hm : m < 2 ^ 58) (h1 : 1 ≤ many) (h2 : many ≤ 200) (h3 : 2 ≤ most) (h4 : most ≤ 60) (h : ∀ cs A', VScr cs → Wel B a A' (m + 3000) → Q (scrD cs) A') : cal t (k + 3) "_law_commands" [.ref a, .int many, .int most] A X Q := by
  refine calN_eq t__law_commands rfl ?_
  walk_at "runz"
  rw [rngD_map]
  refine sp_mixedI (ns := rng60) w (by omega) (by decide) ?_
  intro its A1 hp w1
  walk_at "runz"
  refine sp_pail w1 (by omega) (by omega) (by omega) ?_
  intro r1 A2 r1a r1b w2
  walk_at "runz"
  refine sp_pail w2 (by omega) (by omega) (by omega) ?_
  intro r2 A3 r2a r2b w3
  obtain ⟨x, hx, e1⟩ := at_int (ns := [2 + r1, most]) r2a (by simpa using r2b)
  have e1 : L2.atI [D.int (2 + r1), D.int most] r2 = some (.int x) := e1
  have hx2 : 2 ≤ x := by
    simp only [List.mem_cons, List.not_mem_nil, or_false] at hx
    rcases hx with rfl | rfl <;> omega
  walk_at "runz"
  obtain ⟨n, hn, hn2, hn3⟩ : ∃ n : Nat, (if (if x < most then x else most) > 2 then (if x < most then x else most) else 2) = (n : Int) ∧ 2 ≤ n ∧ n ≤ 60 := by
    refine ⟨(if (if x < most then x else most) > 2 then (if x < most then x else most) else 2).toNat, ?_, ?_, ?_⟩ <;> (repeat' split) <;> omega
  rw [hn, cut_hi]
  have hil : its.length = 60 := hp.length_eq
  have et : (its.map D.int).take n = (its.take n).map D.int := by simp
  rw [et]
  generalize hi' : its.take n = items
  have il : items.length = n := by rw [← hi']; simp; omega
  have ind : items.Nodup := by rw [← hi']; exact (hp.nodup_iff.mpr rng60_nd).sublist (List.take_sublist _ _)
  have iit : ∀ i ∈ items, VItem i := fun i hi => rng60_it i (hp.mem_iff.mp (List.mem_of_mem_take (by rw [hi']; exact hi)))
  walk_at "runz"
  refine sp_pail w3 (by omega) (by omega) (by omega) ?_
  intro r3 A4 r3a r3b w4
  walk_at "runz"
  refine sp_pail w4 (by omega) (by split <;> omega) (by split <;> omega) ?_
  intro r4 A5 r4a r4b w5
  walk_at "runz"
  refine sp_pail w5 (by omega) (by omega) (by omega) ?_
  intro r5 A6 r5a r5b w6
  obtain ⟨cn, hcn, e2⟩ := at_int (ns := [1 + r3, many, 1 + r4]) r5a (by simpa using r5b)
  have e2 : L2.atI [D.int (1 + r3), D.int many, D.int (1 + r4)] r5 = some (.int cn) := e2
  have hcn2 : 1 ≤ cn ∧ cn ≤ 200 := by
    simp only [List.mem_cons, List.not_mem_nil, or_false] at hcn
    rcases hcn with rfl | rfl | rfl
    · omega
    · omega
    · split at r4b <;> omega
  walk_at "runz"
  refine sp_pail w6 (by omega) (by omega) (by omega) ?_
  intro way A7 wya wyb w7
  walk_at "run"
  refine .new fun p hp2 => ?_
  have pa := w7.ne hp2
  have hBp := w7.nil hp2
  have w8 := w7.put (o := .lst []) pa
  obtain ⟨c, rfl⟩ : ∃ c : Nat, cn = c := ⟨cn.toNat, by omega⟩
  walk_at "runz"
  have hL : (items.map D.int).length = n := by rw [List.length_map, il]
  refine for_rng (fun j σ A' => ∃ cs : List Cmd, Wel (put B p (.lst (cs.map cmdD))) a A' (m + 1100 + 6 * j) ∧ cs.length = j ∧ (∀ c ∈ cs, VCmd c) ∧ σ = [some (.ref a), none, none, some (.fl (items.map .int)), none, some (.int way), some (.ref p), none, none, none, none, none]) ⟨[], w8.more (by omega), rfl, by simp, rfl⟩ ?_ ?_
  · rintro j σ A' nx hj ⟨cs, w, hcl, hcv, rfl⟩ hk
    have hjc : j < 200 := by omega
    walk_at "runz"
    refine sp_pail w (by omega) (by omega) (by omega) ?_
    intro s1 B1 s1a s1b v1
    walk_at "runz"
    refine sp_pail v1 (by omega) (by split <;> omega) (by split <;> omega) ?_
    intro s2 B2 s2a s2b v2
    walk_at "runz"
    have hq0 : 0 ≤ (0 + (j : Int)) % ((items.map D.int).length : Nat) := Int.emod_nonneg _ (by omega)
    have hq1 : (0 + (j : Int)) % ((items.map D.int).length : Nat) < n := by have := Int.emod_lt_of_pos (0 + (j : Int)) (b := ((items.map D.int).length : Nat)) (by omega); omega
    obtain ⟨at', hat, e3⟩ := at_int (ns := [s1, (0 + (j : Int)) % ((items.map D.int).length : Nat), (0 + (j : Int)) % ((items.map D.int).length : Nat), (0 + (j : Int)) % ((items.map D.int).length : Nat), s2, ((items.map D.int).length : Nat) - 1 - (0 + (j : Int)) % ((items.map D.int).length : Nat)]) wya (by simpa using wyb)
    have e3 : L2.atI ([D.int s1, D.int ((0 + (j : Int)) % ((items.map D.int).length : Nat)), D.int ((0 + (j : Int)) % ((items.map D.int).length : Nat)), D.int ((0 + (j : Int)) % ((items.map D.int).length : Nat))] ++ [D.int s2, D.int (((items.map D.int).length : Nat) - 1 - (0 + (j : Int)) % ((items.map D.int).length : Nat))]) way = some (.int at') := e3
    have hat2 : 0 ≤ at' ∧ at' < n := by
      simp only [List.mem_cons, List.not_mem_nil, or_false] at hat
      rcases hat with rfl | rfl | rfl | rfl | rfl | rfl
      · omega
      · omega
      · omega
      · omega
      · split at s2b <;> omega
      · omega
    obtain ⟨at0, rfl⟩ : ∃ i : Nat, at' = i := ⟨at'.toNat, by omega⟩
    walk_at "runz"
    refine sp_pail v2 (by omega) (by omega) (by omega) ?_
    intro s3 B3 s3a s3b v3
    walk_at "runz"
    have hmx : (0 : Int) < (if ((items.map D.int).length : Nat) - (1 : Int) > 1 then ((items.map D.int).length : Nat) - (1 : Int) else 1) := by split <;> omega
    walk_at "runz"
    refine sp_pail v3 (by omega) (by omega) (by omega) ?_
    intro s4 B4 s4a s4b v4
    walk_at "runz"
    obtain ⟨st, _, e4⟩ := at_int (ns := [1 + s3, 1, ((items.map D.int).length : Nat) - (at0 : Int) % ((items.map D.int).length : Nat), 1 + (0 + (j : Int)) % (if ((items.map D.int).length : Nat) - (1 : Int) > 1 then ((items.map D.int).length : Nat) - (1 : Int) else 1), 1 + s4, 1]) wya (by simpa using wyb)
    have e4 : L2.atI ([D.int (1 + s3), D.int 1, D.int (((items.map D.int).length : Nat) - (at0 : Int) % ((items.map D.int).length : Nat)), D.int (1 + (0 + (j : Int)) % (if ((items.map D.int).length : Nat) - (1 : Int) > 1 then ((items.map D.int).length : Nat) - (1 : Int) else 1))] ++ [D.int (1 + s4), D.int 1]) way = some (.int st) := e4
    walk_at "runz"
    have ht0 : 0 ≤ ((at0 : Int) + st) % ((items.map D.int).length : Nat) := Int.emod_nonneg _ (by omega)
    have ht1 : ((at0 : Int) + st) % ((items.map D.int).length : Nat) < n := by have := Int.emod_lt_of_pos ((at0 : Int) + st) (b := ((items.map D.int).length : Nat)) (by omega); omega
    -- what is left, once the two places are known
    have fin : ∀ (to0 : Nat), to0 < n → to0 ≠ at0 → (∀ b : Bool, VCmd (b, items[at0]!, items[to0]!)) := fun to0 h1 h2 b => by
      have x1 : at0 < items.length := by omega
      have x2 : to0 < items.length := by omega
      refine ⟨?_, ?_, ?_⟩
      · show VItem items[at0]!
        rw [getElem!_pos items at0 x1]
        exact iit _ (List.getElem_mem x1)
      · show VItem items[to0]!
        rw [getElem!_pos items to0 x2]
        exact iit _ (List.getElem_mem x2)
      · show items[at0]! ≠ items[to0]!
        rw [getElem!_pos items at0 x1, getElem!_pos items to0 x2]
        intro z
        exact h2 ((List.getElem_inj ind).mp z).symm
    have ga : L2.atI (items.map D.int) (at0 : Int) = some (.int items[at0]!) := by
      have x1 : at0 < items.length := by omega
      rw [getElem!_pos items at0 x1]
      exact at_nat x1
    have hu0 : 0 ≤ ((at0 : Int) + 1) % ((items.map D.int).length : Nat) := Int.emod_nonneg _ (by omega)
    have hu1 : ((at0 : Int) + 1) % ((items.map D.int).length : Nat) < n := by have := Int.emod_lt_of_pos ((at0 : Int) + 1) (b := ((items.map D.int).length : Nat)) (by omega); omega
    by_cases hto : ((at0 : Int) + st) % ((items.map D.int).length : Nat) = (at0 : Int)
    · walk_at "runz"
      refine sp_pail v4 (by omega) (by omega) (by omega) ?_
      intro s5 B5 s5a s5b v5
      walk_at "runz"
      refine sp_pail v5 (by omega) (by omega) (by omega) ?_
      intro s6 B6 s6a s6b v6
      obtain ⟨wi, hwi, e5⟩ := at_int (ns := [s5, 0, 0, 1]) s6a (by simpa using s6b)
      have e5 : L2.atI [D.int s5, D.int 0, D.int 0, D.int 1] s6 = some (.int wi) := e5
      have hwi2 : 0 ≤ wi ∧ wi < 2 := by
        simp only [List.mem_cons, List.not_mem_nil, or_false] at hwi
        rcases hwi with rfl | rfl | rfl | rfl <;> omega
      obtain ⟨b, e6⟩ : ∃ b, L2.atI [D.str (Str.ofString "behind"), D.str (Str.ofString "before")] wi = some (.str (wd b)) := by
        rcases (by omega : wi = 0 ∨ wi = 1) with rfl | rfl
        · exact ⟨true, rfl⟩
        · exact ⟨false, rfl⟩
      obtain ⟨to0, hto0⟩ : ∃ i : Nat, ((at0 : Int) + 1) % ((items.map D.int).length : Nat) = (i : Int) := ⟨(((at0 : Int) + 1) % ((items.map D.int).length : Nat)).toNat, by omega⟩
      have x2 : to0 < items.length := by omega
      have gt : L2.atI (items.map D.int) (((at0 : Int) + 1) % ((items.map D.int).length : Nat)) = some (.int items[to0]!) := by
        rw [hto0, getElem!_pos items to0 x2]
        exact at_nat x2
      have hne : to0 ≠ at0 := by
        intro z
        rw [z] at hto0
        by_cases q : at0 + 1 < n
        · rw [Int.emod_eq_of_lt (by omega) (by omega)] at hto0
          omega
        · have : (at0 : Int) + 1 = ((items.map D.int).length : Nat) := by omega
          rw [this, Int.emod_self] at hto0
          omega
      have hv := fin to0 (by omega) hne b
      have hp6 : B6 p = some (.lst (cs.map cmdD)) := by rw [v6.at pa]; exact put_same
      walk_at "runz"
      refine ⟨by simp; rw [PySem.sizeLine_eq]; omega, ?_⟩
      refine hk _ _ ⟨cs ++ [(b, items[at0]!, items[to0]!)], ?_, by simp [hcl], fun c hc => ?_, rfl⟩
      · have := v6.put (o := .lst ((cs ++ [(b, items[at0]!, items[to0]!)]).map cmdD)) pa
        rw [put_put] at this
        have e7 : (cs ++ [(b, items[at0]!, items[to0]!)]).map cmdD = cs.map cmdD ++ [D.tup [D.str (wd b), D.int items[at0]!, D.int items[to0]!]] := by simp
        rw [e7] at this
        rw [e7]
        exact this.more (by omega)
      · rcases List.mem_append.mp hc with hc | hc
        · exact hcv c hc
        · cases List.mem_singleton.mp hc
          exact hv
    · walk_at "runz"
      refine sp_pail v4 (by omega) (by omega) (by omega) ?_
      intro s5 B5 s5a s5b v5
      walk_at "runz"
      refine sp_pail v5 (by omega) (by omega) (by omega) ?_
      intro s6 B6 s6a s6b v6
      obtain ⟨wi, hwi, e5⟩ := at_int (ns := [s5, 0, 0, 1]) s6a (by simpa using s6b)
      have e5 : L2.atI [D.int s5, D.int 0, D.int 0, D.int 1] s6 = some (.int wi) := e5
      have hwi2 : 0 ≤ wi ∧ wi < 2 := by
        simp only [List.mem_cons, List.not_mem_nil, or_false] at hwi
        rcases hwi with rfl | rfl | rfl | rfl <;> omega
      obtain ⟨b, e6⟩ : ∃ b, L2.atI [D.str (Str.ofString "behind"), D.str (Str.ofString "before")] wi = some (.str (wd b)) := by
        rcases (by omega : wi = 0 ∨ wi = 1) with rfl | rfl
        · exact ⟨true, rfl⟩
        · exact ⟨false, rfl⟩
      obtain ⟨to0, hto0⟩ : ∃ i : Nat, ((at0 : Int) + st) % ((items.map D.int).length : Nat) = (i : Int) := ⟨(((at0 : Int) + st) % ((items.map D.int).length : Nat)).toNat, by omega⟩
      have x2 : to0 < items.length := by omega
      have gt : L2.atI (items.map D.int) (((at0 : Int) + st) % ((items.map D.int).length : Nat)) = some (.int items[to0]!) := by
        rw [hto0, getElem!_pos items to0 x2]
        exact at_nat x2
      have hne : to0 ≠ at0 := by
        intro z
        exact hto (by rw [hto0, z])
      have hv := fin to0 (by omega) hne b
      have hp6 : B6 p = some (.lst (cs.map cmdD)) := by rw [v6.at pa]; exact put_same
      walk_at "runz"
      refine ⟨by simp; rw [PySem.sizeLine_eq]; omega, ?_⟩
      refine hk _ _ ⟨cs ++ [(b, items[at0]!, items[to0]!)], ?_, by simp [hcl], fun c hc => ?_, rfl⟩
      · have := v6.put (o := .lst ((cs ++ [(b, items[at0]!, items[to0]!)]).map cmdD)) pa
        rw [put_put] at this
        have e7 : (cs ++ [(b, items[at0]!, items[to0]!)]).map cmdD = cs.map cmdD ++ [D.tup [D.str (wd b), D.int items[at0]!, D.int items[to0]!]] := by simp
        rw [e7] at this
        rw [e7]
        exact this.more (by omega)
      · rcases List.mem_append.mp hc with hc | hc
        · exact hcv c hc
        · cases List.mem_singleton.mp hc
          exact hv
  · rintro σ A' ⟨cs, w, hcl, hcv, rfl⟩
    have hp6 : A' p = some (.lst (cs.map cmdD)) := by rw [w.at pa]; exact put_same
    walk_at "runz"
    obtain ⟨A2, w2, s2, n2⟩ := w.sub pa hBp
    exact .of s2 (h cs A2 ⟨by omega, by omega, hcv⟩ (w2.more (by omega)))
end FB

namespace FB
open PySem Py Mv Pr
variable {t : Tb} [Has t] {k : Nat} {A B : AH} {X : Dx} {Q : Dk}
/-- a dict of marks -/
def mkK (l : List Int) : List (L2.Key × D) := l.map fun i => (Sum.inl i, .bl true)
theorem mk_keys (l : List Int) : (mkK l).map (·.1) = l.map Sum.inl := by unfold mkK; rw [List.map_map]; rfl
theorem mk_step {l : List Int} {i : Int} : setK (mkK l) (.inl i) (.bl true) = mkK (PyProof.Rows.step_dedup l i) := by
  unfold PyProof.Rows.step_dedup
  by_cases h : i ∈ l
  · rw [if_pos (by simpa using h)]
    unfold setK
    rw [if_pos (by unfold mkK; rw [List.any_map, List.any_eq_true]; exact ⟨i, h, by simp⟩)]
    unfold mkK
    rw [List.map_map]
    refine List.map_congr_left fun x _ => ?_
    show (if (Sum.inl x : L2.Key) = Sum.inl i then (Sum.inl x, D.bl true) else (Sum.inl x, D.bl true)) = _
    split <;> rfl
  · rw [if_neg (by simpa using h), setK_new (by rw [mk_keys]; intro z; obtain ⟨y, hy, e⟩ := List.mem_map.mp z; exact h (Sum.inl.inj e ▸ hy))]
    simp [mkK]
theorem mk_len (l : List Int) : (mkK l).length = l.length := List.length_map _
theorem mk_look {l : List Int} {i : Int} : (lookK (mkK l) (.inl i)).isSome = decide (i ∈ l) := by
  unfold mkK
  induction l with
  | nil => rfl
  | cons a l ih =>
    rw [List.map_cons, lookK_cons]
    by_cases h : a = i
    · subst h; simp
    · rw [if_neg (fun z => h (Sum.inl.inj z)), ih]
      simp [Ne.symm h, show ¬ i = a from fun e => h e.symm]
theorem dd_len (l : List Int) (acc : List Int) : (l.foldl PyProof.Rows.step_dedup acc).length ≤ acc.length + l.length := by
  induction l generalizing acc with
  | nil => simp
  | cons a l ih =>
    rw [List.foldl_cons]
    have := ih (PyProof.Rows.step_dedup acc a)
    have h2 : (PyProof.Rows.step_dedup acc a).length ≤ acc.length + 1 := by unfold PyProof.Rows.step_dedup; split <;> simp
    rw [List.length_cons]
    omega
theorem sp_named {cs : List Cmd} (v : VScr cs) (h : Q (.fl ((named cs).map .int)) A) : cal t (k + 1) "_law_named" [scrD cs] A X Q := by
  refine calN_eq t__law_named rfl ?_
  walk_at "run"
  refine .new fun p hp => ?_
  walk_at "run"
  refine for_st (β := List Int) (b := []) (e := cmdD) (fun b r σ A' => A' = put A p (.dct (mkK b)) ∧ σ = [none, some (.ref p), none, none, none] ∧ b.length + 2 * r.length ≤ 400) (fun b c => PyProof.Rows.step_dedup (PyProof.Rows.step_dedup b c.2.1) c.2.2) cs ⟨rfl, rfl, by have := v.len; rw [List.length_nil]; omega⟩ (fun _ _ _ _ _ => holds_nil) ?_ ?_
  · rintro b ⟨w, i, o⟩ r σ A' nx hc ⟨rfl, rfl, hz⟩ hk
    have hz' : b.length + 2 * (r.length + 1) ≤ 400 := by simpa using hz
    show bindT _ (.tup [.str (wd w), .int i, .int o]) _ _
    have st : ∀ (l : List Int) (x : Int), (PyProof.Rows.step_dedup l x).length ≤ l.length + 1 := fun l x => by unfold PyProof.Rows.step_dedup; split <;> simp
    have s1 := st b i
    have s2 := st (PyProof.Rows.step_dedup b i) o
    walk_at "run"
    refine ⟨by rw [mk_len, PySem.sizeLine_eq]; omega, ?_⟩
    rw [mk_step]
    walk_at "run"
    refine ⟨by rw [mk_len, PySem.sizeLine_eq]; omega, ?_⟩
    rw [mk_step]
    refine hk _ _ ⟨?_, rfl, by show (PyProof.Rows.step_dedup (PyProof.Rows.step_dedup b i) o).length + _ ≤ _; omega⟩
    rw [put_put, put_put]
  · rintro σ A' ⟨rfl, rfl, _⟩
    have e : ∀ (cs : List Cmd) (b : List Int), cs.foldl (fun b c => PyProof.Rows.step_dedup (PyProof.Rows.step_dedup b c.2.1) c.2.2) b = (allN cs).foldl PyProof.Rows.step_dedup b := fun cs => by
      induction cs with
      | nil => intro b; rfl
      | cons c cs ih =>
        intro b
        have : allN (c :: cs) = c.2.1 :: c.2.2 :: allN cs := rfl
        rw [List.foldl_cons, ih, this, List.foldl_cons, List.foldl_cons]
    rw [e]
    have e2 : (allN cs).foldl PyProof.Rows.step_dedup [] = ddI (allN cs) := rfl
    rw [e2]
    walk_at "run"
    have e3 : (mkK (ddI (allN cs))).map (fun p => keyD p.1) = (ddI (allN cs)).map D.int := by unfold mkK; rw [List.map_map]; rfl
    rw [e3]
    have h3 : (ddI (allN cs)).length < 64 := by
      have := items_len (l := ddI (allN cs)) ddI_nodup fun i hi => named_ok v.it i (ddI_mem.mp hi)
      omega
    walk_at "runz"
    exact .of (Sub.fresh hp) h
theorem sp_shifted {l : List Int} {cs : List Cmd} (hz : l.length ≤ 1000) (hv : ∀ c ∈ cs, c.2.1 ∈ l ∧ c.2.2 ∈ l ∧ c.2.1 ≠ c.2.2) (h : Q (linD (mvs l cs)) A) : cal t (k + 1) "_law_shifted" [linD l, scrD cs] A X Q := by
  refine calN_eq t__law_shifted rfl ?_
  walk_at "run"
  refine .new fun p hp => ?_
  walk_at "run"
  refine for_st (β := List Int) (b := l) (e := cmdD) (fun b r σ A' => A' = put A p (.lst (b.map .int)) ∧ σ = [none, none, some (.ref p), none, none, none] ∧ b.Perm l) mvd cs ⟨rfl, rfl, .refl _⟩ (fun _ _ _ _ _ => holds_nil) ?_ ?_
  · rintro b ⟨w, i, o⟩ r σ A' nx hc ⟨rfl, rfl, hp2⟩ hk
    obtain ⟨v1, v2, v3⟩ := hv _ hc
    replace v1 : i ∈ b := hp2.mem_iff.mpr v1
    replace v2 : o ∈ b := hp2.mem_iff.mpr v2
    replace v3 : i ≠ o := v3
    have hbl := hp2.length_eq
    show bindT _ (.tup [.str (wd w), .int i, .int o]) _ _
    walk_at "run"
    have e1 : (b.map D.int).eraseIdx (b.idxOf i) = (b.erase i).map D.int := by rw [List.eraseIdx_eq_take_drop_succ, erase_cut v1]
    rw [e1, put_put]
    have el : (b.erase i).length ≤ b.length := List.length_erase_le
    walk_at "run"
    refine ⟨mem_erase_ne v2 v3, ?_⟩
    walk_at "run"
    rw [int_beh]
    have hlt := List.idxOf_lt_length_of_mem (mem_erase_ne v2 v3)
    refine ⟨by rw [List.length_map, PySem.sizeLine_eq]; omega, by omega, by split <;> omega, ?_⟩
    walk_at "run"
    refine hk _ _ ⟨?_, rfl, (mvd_perm (c := (w, i, o)) v1).trans hp2⟩
    rw [put_put]
    have en : ∀ z : Nat, ((z : Int)).toNat = z := Int.toNat_natCast
    unfold mvd put1
    cases w <;> simp only [Bool.false_eq_true, if_true, if_false, Int.add_zero] <;> (try rw [show ∀ z : Nat, (z : Int) + 1 = ((z + 1 : Nat) : Int) from fun _ => rfl]) <;> simp [en]
  · rintro σ A' ⟨rfl, rfl, _⟩
    walk_at "run"
    exact .of (Sub.fresh hp) h
theorem sp_again {N : List Int} {B O : Bl} (b : Eff N B) (o : Eff N O) (hN : N.length ≤ 60) (h : Q (blkD (joinB B O)) A) : cal t (k + 1) "_law_again" [blkD B, blkD O] A X Q := by
  refine calN_eq t__law_again rfl ?_
  have nd : (keys B).Nodup := by rw [b.ks]; exact b.nd
  have hB := Eff.row_len b hN
  have hO := Eff.get_len o hN
  have hBl := Eff.len b
  walk_at "run"
  refine .new fun p hp => ?_
  walk_at "run"
  rw [keys_kv]
  refine for_st (β := Bl) (b := []) (e := fun p : Int × List Int => D.int p.1) (fun b r σ A' => A' = put A p (.dct (kvB (joinB b O))) ∧ σ = [some (blkD B), some (blkD O), some (.ref p), none, none, none] ∧ b ++ r = B) (fun b p => b ++ [p]) B ⟨rfl, rfl, rfl⟩ (fun _ _ _ _ _ => holds_nil) ?_ ?_
  · rintro d ⟨i, row⟩ r σ A' nx hx ⟨rfl, rfl, hbr⟩ hk
    have h9 : row.length ≤ 60 := hB _ hx
    have hin : ∀ j ∈ row, j ∈ keys O := fun j hj => by
      rw [o.ks]
      refine b.pm.mem_iff.mp (List.mem_flatten.mpr ⟨row, List.mem_map.mpr ⟨_, hx, rfl⟩, hj⟩)
    walk_at "run"
    have el : lookK (kvB B) (.inl i) = some (linD row) := by rw [lookK_kvB, look_at nd hx]; rfl
    rw [el]
    walk_at "run"
    refine for_st (β := List Int) (b := []) (e := D.int) (fun acc r σ A' => A' = put A p (.dct (kvB (joinB d O))) ∧ σ = [some (blkD B), some (blkD O), some (.ref p), some (.int i), some (linD acc), none] ∧ acc.length + 1000 * r.length ≤ 1000000) (fun acc j => acc ++ getB O j) row ⟨rfl, rfl, by rw [List.length_nil]; omega⟩ (fun _ _ _ _ _ => holds_nil) ?_ ?_
    · rintro acc j r σ A' nx hj ⟨rfl, rfl, hz⟩ hk
      walk_at "run"
      obtain ⟨q, e1, _⟩ := lookup_some (hin j hj)
      have e2 : lookK (kvB O) (.inl j) = some (linD (getB O j)) := by rw [lookK_kvB]; unfold getB; rw [e1]; rfl
      rw [e2]
      have h1 := hO j
      have h2 : acc.length + 1000 * (r.length + 1) ≤ 1000000 := by simpa using hz
      walk_at "run"
      refine ⟨by simp; rw [PySem.sizeLine_eq]; omega, ?_⟩
      have e2 : acc.map D.int ++ (getB O j).map D.int = (acc ++ getB O j).map D.int := by simp
      rw [e2]
      exact hk _ _ ⟨rfl, rfl, by simp; omega⟩
    · rintro σ A' ⟨rfl, rfl, _⟩
      rw [foldl_app, List.nil_append]
      walk_at "run"
      have hn : i ∉ keys (joinB d O) := fun z => by
        rw [keys_join] at z
        rw [← hbr] at nd
        unfold keys at nd z
        rw [List.map_append, List.nodup_append] at nd
        exact nd.2.2 i z i (by simp) rfl
      refine ⟨?_, ?_⟩
      · have : d.length ≤ B.length := by rw [← hbr]; simp
        unfold joinB
        simp
        rw [PySem.sizeLine_eq]
        omega
      · refine hk _ _ ⟨?_, rfl, by simpa using hbr⟩
        rw [put_put, kv_put hn]
        simp [joinB, subst]
  · rintro σ A' ⟨rfl, rfl, hb⟩
    rw [List.append_nil] at hb
    rw [hb]
    walk_at "run"
    exact .dct put_same (Sub.fresh hp) hp h
end FB

/-! Sources, rings, turns: plain. -/
namespace Mv
open PySem Py Pr
theorem lookup_nd {β : Type} : ∀ {l : List (Int × β)} {a : Int} {b : β}, (l.map (·.1)).Nodup → (a, b) ∈ l → l.lookup a = some b
  | q :: l, a, b, nd, h => by
    obtain ⟨c, d⟩ := q
    rw [List.map_cons, List.nodup_cons] at nd
    rw [List.lookup_cons]
    rcases List.mem_cons.mp h with e | h
    · cases e; simp
    · have : a ≠ c := fun e => nd.1 (e ▸ List.mem_map.mpr ⟨_, h, rfl⟩)
      rw [beq_eq_false_iff_ne.mpr this]
      exact lookup_nd nd.2 h
theorem perm_of_sub : ∀ {l m : List Int}, l.Nodup → (∀ x ∈ l, x ∈ m) → m.length ≤ l.length → l.Perm m
  | [], m, _, _, h => by
    have : m = [] := List.length_eq_zero_iff.mp (by simpa using h)
    rw [this]
  | a :: l, m, nd, hs, h => by
    rw [List.nodup_cons] at nd
    have ha := hs a List.mem_cons_self
    have hne : ∀ x, x ∈ l → x ≠ a := fun x hx e => nd.1 (by rw [← e]; exact hx)
    have := perm_of_sub (m := m.erase a) nd.2 (fun x hx => (List.mem_erase_of_ne (hne x hx)).mpr (hs x (List.mem_cons_of_mem _ hx))) (by rw [List.length_erase_of_mem ha]; rw [List.length_cons] at h; omega)
    exact (List.Perm.cons a this).trans (List.perm_cons_erase ha).symm
theorem len_of_sub : ∀ {l m : List Int}, l.Nodup → (∀ x ∈ l, x ∈ m) → l.length ≤ m.length
  | [], _, _, _ => Nat.zero_le _
  | a :: l, m, nd, hs => by
    rw [List.nodup_cons] at nd
    have ha := hs a List.mem_cons_self
    have hne : ∀ x, x ∈ l → x ≠ a := fun x hx e => nd.1 (by rw [← e]; exact hx)
    have := len_of_sub (m := m.erase a) nd.2 fun x hx => (List.mem_erase_of_ne (hne x hx)).mpr (hs x (List.mem_cons_of_mem _ hx))
    have h2 := List.length_pos_of_mem ha
    rw [List.length_erase_of_mem ha] at this
    rw [List.length_cons]
    omega
/-- two equal among too many -/
theorem pigeon {N : List Int} {f : Nat → Int} (h : ∀ j, f j ∈ N) : ∃ a b, a < b ∧ b ≤ N.length ∧ f a = f b := by
  apply Classical.byContradiction
  intro hn
  have nd : ((List.range (N.length + 1)).map f).Nodup := by
    rw [List.nodup_iff_pairwise_ne, List.pairwise_map]
    refine List.Pairwise.imp_of_mem ?_ (List.pairwise_lt_range (n := N.length + 1))
    intro a b ha hb hlt e
    exact hn ⟨a, b, hlt, by have := List.mem_range.mp hb; omega, e⟩
  have := len_of_sub nd fun x hx => by
    obtain ⟨j, _, rfl⟩ := List.mem_map.mp hx
    exact h j
  simp at this
  omega
variable {N : List Int} {B P : Bl} {i j k : Int}
theorem Eff.nodK (e : Eff N B) : (keys B).Nodup := by rw [e.ks]; exact e.nd
theorem Eff.row (e : Eff N B) (h : k ∈ N) : (k, getB B k) ∈ B := by
  obtain ⟨r, e1, e2⟩ := lookup_some (B := B) (i := k) (by rw [e.ks]; exact h)
  unfold getB
  rw [e1]
  exact e2
theorem Eff.get_at (e : Eff N B) {p : Int × List Int} (h : p ∈ B) : getB B p.1 = p.2 := by
  unfold getB
  rw [look_at e.nodK h]
  rfl
theorem Eff.key (e : Eff N B) {p : Int × List Int} (h : p ∈ B) : p.1 ∈ N := by
  rw [← e.ks]
  exact List.mem_map.mpr ⟨p, h, rfl⟩
theorem Eff.sub (e : Eff N B) (h : k ∈ N) (hi : i ∈ getB B k) : i ∈ N := by
  refine e.pm.mem_iff.mp (List.mem_flatten.mpr ⟨getB B k, List.mem_map.mpr ⟨_, e.row h, rfl⟩, hi⟩)
theorem Eff.get_nd (e : Eff N B) (h : k ∈ N) : (getB B k).Nodup := by
  have nd : (rows B).Nodup := e.pm.nodup_iff.mpr e.nd
  exact (List.pairwise_flatten.mp nd).1 _ (List.mem_map.mpr ⟨_, e.row h, rfl⟩)
/-- for each item the key whose row holds it -/
def goL (B : Bl) : List (Int × Int) := (B.map fun p => p.2.map fun i => (i, p.1)).flatten
def src (B : Bl) (i : Int) : Int := ((goL B).lookup i).getD i
theorem goL_keys (B : Bl) : (goL B).map (·.1) = rows B := by
  unfold goL rows
  rw [List.map_flatten, List.map_map]
  congr 1
  refine List.map_congr_left fun p _ => ?_
  show (p.2.map fun i => (i, p.1)).map (·.1) = p.2
  rw [List.map_map]
  exact List.map_id _
theorem Eff.go_nd (e : Eff N B) : ((goL B).map (·.1)).Nodup := by rw [goL_keys]; exact e.pm.nodup_iff.mpr e.nd
theorem go_mem : (i, k) ∈ goL B ↔ ∃ r, (k, r) ∈ B ∧ i ∈ r := by
  unfold goL
  rw [List.mem_flatten]
  constructor
  · rintro ⟨l, hl, hi⟩
    obtain ⟨p, hp, rfl⟩ := List.mem_map.mp hl
    obtain ⟨j, hj, e⟩ := List.mem_map.mp hi
    cases e
    exact ⟨p.2, hp, hj⟩
  · rintro ⟨r, hr, hi⟩
    exact ⟨_, List.mem_map.mpr ⟨(k, r), hr, rfl⟩, List.mem_map.mpr ⟨i, hi, rfl⟩⟩
theorem Eff.look_go (e : Eff N B) (h : k ∈ N) (hi : i ∈ getB B k) : (goL B).lookup i = some k := lookup_nd e.go_nd (go_mem.mpr ⟨_, e.row h, hi⟩)
theorem Eff.src_of (e : Eff N B) (h : k ∈ N) (hi : i ∈ getB B k) : src B i = k := by unfold src; rw [e.look_go h hi]; rfl
theorem Eff.src_in (e : Eff N B) (h : i ∈ N) : src B i ∈ N ∧ i ∈ getB B (src B i) := by
  obtain ⟨r, hr, hi⟩ := List.mem_flatten.mp (e.pm.mem_iff.mpr h)
  obtain ⟨p, hp, rfl⟩ := List.mem_map.mp hr
  have h1 := e.get_at hp
  have h2 := e.key hp
  have h3 : i ∈ getB B p.1 := by rw [h1]; exact hi
  rw [e.src_of h2 h3]
  exact ⟨h2, h3⟩
theorem Eff.look_src (e : Eff N B) (h : i ∈ N) : (goL B).lookup i = some (src B i) := e.look_go (e.src_in h).1 (e.src_in h).2
theorem Eff.uniq (e : Eff N B) (h : k ∈ N) (h' : j ∈ N) (hi : i ∈ getB B k) (hj : i ∈ getB B j) : k = j := (e.src_of h hi).symm.trans (e.src_of h' hj)
theorem Eff.mem_get (e : Eff N B) (hi : i ∈ N) (h : k ∈ N) : i ∈ getB B k ↔ src B i = k := ⟨e.src_of h, fun q => q ▸ (e.src_in hi).2⟩
/-- the sources m commands' scripts back -/
def itB (B : Bl) : Nat → Int → Int
  | 0, i => i
  | m + 1, i => itB B m (src B i)
theorem it_src (B : Bl) : ∀ (m : Nat) (i : Int), itB B (m + 1) i = src B (itB B m i)
  | 0, _ => rfl
  | m + 1, i => it_src B m (src B i)
theorem it_add (B : Bl) (m : Nat) : ∀ (n : Nat) (i : Int), itB B (m + n) i = itB B m (itB B n i)
  | 0, _ => rfl
  | n + 1, i => it_add B m n (src B i)
theorem Eff.it_in (e : Eff N B) : ∀ (m : Nat) {i : Int}, i ∈ N → itB B m i ∈ N
  | 0, _, h => h
  | m + 1, _, h => e.it_in m (e.src_in h).1
theorem Eff.mem_pow (e : Eff N B) : ∀ (m : Nat) {i k : Int}, i ∈ N → k ∈ N → (i ∈ getB (powB N B m) k ↔ itB B m i = k)
  | 0, i, k, hi, hk => by
    have : getB (powB N B 0) k = [k] := by have := subst_start (ns := N) (l := [k]); unfold subst at this; rw [List.map_cons, List.map_nil, List.flatten_cons, List.flatten_nil, List.append_nil] at this; exact this
    rw [this, List.mem_singleton]
    rfl
  | m + 1, i, k, hi, hk => by
    have em := eff_pow e m
    show i ∈ getB (joinB (powB N B m) B) k ↔ itB B m (src B i) = k
    rw [getB_join (em.ks.trans e.ks.symm), ← e.mem_pow m (e.src_in hi).1 hk]
    unfold subst
    rw [List.mem_flatten]
    constructor
    · rintro ⟨l, hl, h⟩
      obtain ⟨x, hx, rfl⟩ := List.mem_map.mp hl
      rw [e.src_of (em.sub hk hx) h]
      exact hx
    · intro h
      exact ⟨_, List.mem_map.mpr ⟨_, h, rfl⟩, (e.src_in hi).2⟩
/-- the items on rings -/
def ringI (N : List Int) (B : Bl) : List Int := ddI ((rows B).map (itB B N.length))
theorem Eff.mem_ring (e : Eff N B) : k ∈ ringI N B ↔ ∃ i ∈ N, itB B N.length i = k := by
  unfold ringI
  rw [ddI_mem, List.mem_map]
  constructor
  · rintro ⟨i, hi, h⟩; exact ⟨i, e.pm.mem_iff.mp hi, h⟩
  · rintro ⟨i, hi, h⟩; exact ⟨i, e.pm.mem_iff.mpr hi, h⟩
theorem ring_nd : (ringI N B).Nodup := ddI_nodup
theorem Eff.ring_sub (e : Eff N B) (h : k ∈ ringI N B) : k ∈ N := by
  obtain ⟨i, hi, rfl⟩ := e.mem_ring.mp h
  exact e.it_in _ hi
theorem Eff.ring_len (e : Eff N B) : (ringI N B).length ≤ N.length := len_of_sub ring_nd fun _ h => e.ring_sub h
theorem Eff.ring_src (e : Eff N B) (h : k ∈ ringI N B) : src B k ∈ ringI N B := by
  obtain ⟨i, hi, rfl⟩ := e.mem_ring.mp h
  rw [← it_src]
  exact e.mem_ring.mpr ⟨src B i, (e.src_in hi).1, rfl⟩
theorem Eff.ring_it (e : Eff N B) : ∀ (m : Nat) {k : Int}, k ∈ ringI N B → itB B m k ∈ ringI N B
  | 0, _, h => h
  | m + 1, _, h => e.ring_it m (e.ring_src h)
theorem Eff.ring_onto (e : Eff N B) (h : k ∈ ringI N B) : ∃ j ∈ ringI N B, src B j = k := by
  obtain ⟨i, hi, rfl⟩ := e.mem_ring.mp h
  obtain ⟨a, b, hab, hb, eq⟩ := pigeon (N := N) (f := fun j => itB B j i) fun j => e.it_in j hi
  refine ⟨itB B N.length (itB B (b - a - 1) i), e.mem_ring.mpr ⟨_, e.it_in _ hi, rfl⟩, ?_⟩
  rw [← it_src, ← it_add]
  have e1 : N.length + 1 + (b - a - 1) = (N.length - a) + b := by omega
  have e2 : itB B N.length i = itB B ((N.length - a) + a) i := by congr 1; omega
  rw [e1, it_add, ← eq, ← it_add, ← e2]
theorem Eff.ring_inj (e : Eff N B) (h : k ∈ ringI N B) (h' : j ∈ ringI N B) (q : src B k = src B j) : k = j := by
  have pm := perm_of_sub (l := ringI N B) (m := (ringI N B).map (src B)) ring_nd (fun x hx => by
    obtain ⟨y, hy, ey⟩ := e.ring_onto hx
    exact List.mem_map.mpr ⟨y, hy, ey⟩) (by simp)
  have nd := pm.nodup_iff.mp (ring_nd (N := N) (B := B))
  have inj : ∀ {l : List Int}, (l.map (src B)).Nodup → ∀ {x y}, x ∈ l → y ∈ l → src B x = src B y → x = y := fun {l} => by
    induction l with
    | nil => intro _ x y hx; cases hx
    | cons a l ih =>
      intro nd x y hx hy q
      rw [List.map_cons, List.nodup_cons] at nd
      rcases List.mem_cons.mp hx with ex | hx
      · rcases List.mem_cons.mp hy with ey | hy
        · rw [ex, ey]
        · exact absurd (List.mem_map.mpr ⟨y, hy, by rw [← q, ex]⟩) nd.1
      · rcases List.mem_cons.mp hy with ey | hy
        · exact absurd (List.mem_map.mpr ⟨x, hx, by rw [q, ey]⟩) nd.1
        · exact ih nd.2 hx hy q
  exact inj nd h h' q
/-- one step forward on a ring -/
def bakL (N : List Int) (B : Bl) : List (Int × Int) := (ringI N B).map fun j => (src B j, j)
def bak (N : List Int) (B : Bl) (k : Int) : Int := ((bakL N B).lookup k).getD k
theorem Eff.bak_nd (e : Eff N B) : ((bakL N B).map (·.1)).Nodup := by
  unfold bakL
  rw [List.map_map, List.nodup_iff_pairwise_ne, List.pairwise_map]
  refine List.Pairwise.imp_of_mem ?_ (List.nodup_iff_pairwise_ne.mp (ring_nd (N := N) (B := B)))
  intro a b ha hb hn q
  exact hn (e.ring_inj ha hb q)
theorem Eff.bak_of (e : Eff N B) (h : j ∈ ringI N B) : (bakL N B).lookup (src B j) = some j := lookup_nd e.bak_nd (List.mem_map.mpr ⟨j, h, rfl⟩)
theorem Eff.bak_in (e : Eff N B) (h : k ∈ ringI N B) : bak N B k ∈ ringI N B ∧ src B (bak N B k) = k ∧ (bakL N B).lookup k = some (bak N B k) := by
  obtain ⟨j, hj, rfl⟩ := e.ring_onto h
  unfold bak
  rw [e.bak_of hj]
  exact ⟨hj, rfl, rfl⟩
theorem Eff.bak_keys (e : Eff N B) : k ∈ (bakL N B).map (·.1) ↔ k ∈ ringI N B := by
  constructor
  · intro h
    obtain ⟨p, hp, rfl⟩ := List.mem_map.mp h
    obtain ⟨j, hj, rfl⟩ := List.mem_map.mp hp
    exact e.ring_src hj
  · intro h
    obtain ⟨j, hj, rfl⟩ := e.ring_onto h
    exact List.mem_map.mpr ⟨_, List.mem_map.mpr ⟨j, hj, rfl⟩, rfl⟩
def bit (N : List Int) (B : Bl) : Nat → Int → Int
  | 0, k => k
  | m + 1, k => bit N B m (bak N B k)
theorem bit_bak (N : List Int) (B : Bl) : ∀ (m : Nat) (i : Int), bit N B (m + 1) i = bak N B (bit N B m i)
  | 0, _ => rfl
  | m + 1, i => bit_bak N B m (bak N B i)
theorem bit_add (N : List Int) (B : Bl) (m : Nat) : ∀ (n : Nat) (i : Int), bit N B (m + n) i = bit N B m (bit N B n i)
  | 0, _ => rfl
  | n + 1, i => bit_add N B m n (bak N B i)
theorem Eff.bit_in (e : Eff N B) : ∀ (m : Nat) {k : Int}, k ∈ ringI N B → bit N B m k ∈ ringI N B
  | 0, _, h => h
  | m + 1, _, h => e.bit_in m (e.bak_in h).1
theorem Eff.it_bit (e : Eff N B) : ∀ (m : Nat) {k : Int}, k ∈ ringI N B → itB B m (bit N B m k) = k
  | 0, _, _ => rfl
  | m + 1, k, h => by
    rw [it_src]
    show src B (itB B m (bit N B m (bak N B k))) = k
    rw [e.it_bit m (e.bak_in h).1, (e.bak_in h).2.1]
/-- a ring closes -/
theorem Eff.bit_back (e : Eff N B) (h : k ∈ ringI N B) : ∃ p, 1 ≤ p ∧ p ≤ N.length ∧ bit N B p k = k := by
  obtain ⟨a, b, hab, hb, eq⟩ := pigeon (N := ringI N B) (f := fun j => bit N B j k) fun j => e.bit_in j h
  refine ⟨b - a, by omega, by have := e.ring_len; omega, ?_⟩
  have h1 := e.it_bit a h
  have h2 : b = a + (b - a) := by omega
  have h3 : bit N B b k = bit N B a (bit N B (b - a) k) := by rw [← bit_add]; congr 1
  have h4 := e.it_bit a (e.bit_in (b - a) h)
  have eq' : bit N B a k = bit N B b k := eq
  rw [← h3, ← eq', h1] at h4
  exact h4.symm
theorem bit_mul {p : Nat} (h : bit N B p k = k) : ∀ q, bit N B (p * q) k = k
  | 0 => rfl
  | q + 1 => by rw [Nat.mul_succ, bit_add, h, bit_mul h q]
theorem bit_mod {p : Nat} (h : bit N B p k = k) (d : Nat) : bit N B d k = bit N B (d % p) k := by
  have e : d = d % p + p * (d / p) := (Nat.mod_add_div d p).symm
  rw [show bit N B d k = bit N B (d % p + p * (d / p)) k by rw [← e], bit_add, bit_mul h]
/-- all sources are on rings after T -/
def Onr (N : List Int) (B : Bl) (T : Nat) : Prop := ∀ i ∈ N, itB B T i ∈ ringI N B
theorem Eff.onr_more (e : Eff N B) {T m : Nat} (h : Onr N B T) (hm : T ≤ m) : Onr N B m := fun i hi => by
  have : m = (m - T) + T := by omega
  rw [this, it_add]
  exact e.ring_it _ (h i hi)
theorem Eff.onr_len (e : Eff N B) : Onr N B N.length := fun i hi => e.mem_ring.mpr ⟨i, hi, rfl⟩
theorem Eff.off_ring (e : Eff N B) {m : Nat} (h : Onr N B m) (hk : k ∈ N) (hn : k ∉ ringI N B) : getB (powB N B m) k = [] := by
  refine List.eq_nil_iff_forall_not_mem.mpr fun i hi => ?_
  have iN := (eff_pow e m).sub hk hi
  exact hn ((e.mem_pow m iN hk).mp hi ▸ h i iN)
theorem flat_one {f : Int → List Int} {x : Int} : ∀ {l : List Int}, l.Nodup → x ∈ l → (∀ y ∈ l, y ≠ x → f y = []) → (l.map f).flatten = f x
  | a :: l, nd, hx, h => by
    rw [List.nodup_cons] at nd
    rw [List.map_cons, List.flatten_cons]
    have nil : ∀ {m : List Int}, (∀ y ∈ m, f y = []) → (m.map f).flatten = [] := fun {m} hm => by
      induction m with
      | nil => rfl
      | cons b m ih => rw [List.map_cons, List.flatten_cons, hm b (by simp), ih fun y hy => hm y (by simp [hy])]; rfl
    rcases List.mem_cons.mp hx with rfl | hx
    · rw [nil fun y hy => h y (List.mem_cons_of_mem _ hy) fun e => nd.1 (e ▸ hy), List.append_nil]
    · rw [h a List.mem_cons_self fun e => nd.1 (e ▸ hx), flat_one nd.2 hx fun y hy => h y (List.mem_cons_of_mem _ hy)]
      rfl
theorem Eff.turn_one (e : Eff N B) {m : Nat} (h : Onr N B m) (hk : k ∈ ringI N B) : getB (powB N B (m + 1)) k = getB (powB N B m) (bak N B k) := by
  have hp : powB N B (m + 1) = joinB B (powB N B m) := by rw [Nat.add_comm, ← pow_add e 1 m, pow_one e]
  have kN := e.ring_sub hk
  obtain ⟨b1, b2, _⟩ := e.bak_in hk
  rw [hp, getB_join (e.ks.trans (eff_pow e m).ks.symm)]
  unfold subst
  refine flat_one (e.get_nd kN) ((e.mem_get (e.ring_sub b1) kN).mpr b2) fun y hy hn => ?_
  have yN := e.sub kN hy
  refine e.off_ring h yN fun yr => hn (e.ring_inj yr b1 ?_)
  rw [e.src_of kN hy, b2]
/-- round the rings -/
theorem Eff.turns (e : Eff N B) {m : Nat} (h : Onr N B m) : ∀ (d : Nat) {k : Int}, k ∈ ringI N B → getB (powB N B (m + d)) k = getB (powB N B m) (bit N B d k)
  | 0, _, _ => rfl
  | d + 1, k, hk => by
    show getB (powB N B (m + d + 1)) k = getB (powB N B m) (bit N B d (bak N B k))
    rw [e.turn_one (e.onr_more h (Nat.le_add_right m d)) hk, e.turns h d (e.bak_in hk).1]
/-- blocks by their keys -/
theorem Eff.tab (e : Eff N P) : P = N.map fun k => (k, getB P k) := by
  have : N.map (fun k => (k, getB P k)) = P.map fun p => p := by
    rw [← e.ks]
    unfold keys
    rw [List.map_map]
    refine List.map_congr_left fun p hp => ?_
    show (p.1, getB P p.1) = p
    rw [e.get_at hp]
  rw [this, List.map_id']
theorem kvB_tab (e : Eff N P) : kvB P = N.map fun k => (Sum.inl k, linD (getB P k)) := by
  conv => lhs; rw [e.tab]
  show (N.map fun k => (k, getB P k)).map (fun p : Int × List Int => ((Sum.inl p.1 : L2.Key), linD p.2)) = _
  rw [List.map_map]
  rfl
end Mv

namespace FB
open PySem Py Mv Pr
variable {t : Tb} [Has t] {k : Nat} {A B : AH} {X : Dx} {Q : Dk}
theorem sp_line {a : PySem.Addr} {m : Nat} {ns : List Int} (w : Wel B a A m) (hm : m < 2 ^ 58) (nd : ns.Nodup) (it : ∀ i ∈ ns, VItem i) (ne : ns ≠ []) (h : ∀ l A', VLine l → (∀ i ∈ ns, i ∈ l) → Wel B a A' (m + 3000) → Q (linD l) A') : cal t (k + 3) "_law_line" [.ref a, .fl (ns.map .int)] A X Q := by
  refine calN_eq t__law_line rfl ?_
  walk_at "run"
  intro L hL
  rw [show rngD 0 (Int.toNat 60) = rng60.map D.int from rngD_map 60]
  refine lc_map (e := D.int) (p := fun i => decide (i ∉ ns)) (g := D.int) hL rng60 (by decide) (fun _ => holds_nil) ?_ ?_
  · intro i hi
    refine ⟨[some (.ref a), some (.fl (ns.map .int)), none, some (.int i), none], fun k hk => hk, ?_, ?_⟩
    · intro A' R hR hs
      walk_at "run"
      refine ⟨flat_ints, ?_⟩
      rw [inF_int]
      have e : (!decide (i ∈ ns)) = decide (i ∉ ns) := by by_cases c : i ∈ ns <;> simp [c]
      rw [e]
      exact hR
    · intro hi2 A' R hR hs
      walk_at "run"
      exact hR
  walk_at "runz"
  generalize ho : rng60.filter (fun i => decide (i ∉ ns)) = others
  have ond : others.Nodup := by rw [← ho]; exact rng60_nd.sublist List.filter_sublist
  have oit : ∀ i ∈ others, VItem i ∧ i ∉ ns := fun i hi => by
    rw [← ho, List.mem_filter] at hi
    exact ⟨rng60_it i hi.1, by simpa using hi.2⟩
  have ol : others.length ≤ 60 := items_len ond fun i hi => (oit i hi).1
  have nl : ns.length ≤ 60 := items_len nd it
  refine sp_mixedI w (by omega) (by omega) ?_
  intro ms A1 hp w1
  walk_at "runz"
  refine sp_pail w1 (by omega) (by omega) (by omega) ?_
  intro r1 A2 r1a r1b w2
  walk_at "runz"
  have oll : (others.map D.int).length = others.length := List.length_map _
  refine sp_pail w2 (by omega) (by omega) (by omega) ?_
  intro r2 A3 r2a r2b w3
  walk_at "runz"
  refine sp_pail w3 (by omega) (by omega) (by omega) ?_
  intro r3 A4 r3a r3b w4
  obtain ⟨x, hx, e1⟩ := at_int (ns := [0, r1, r2]) r3a (by simpa using r3b)
  have e1 : L2.atI [D.int 0, D.int r1, D.int r2] r3 = some (.int x) := e1
  have hx2 : 0 ≤ x := by
    simp only [List.mem_cons, List.not_mem_nil, or_false] at hx
    rcases hx with rfl | rfl | rfl <;> omega
  obtain ⟨n, rfl⟩ : ∃ n : Nat, x = n := ⟨x.toNat, by omega⟩
  walk_at "runz"
  rw [cut_hi]
  have e2 : ns.map D.int ++ (ms.map D.int).take n = (ns ++ ms.take n).map D.int := by simp
  have ml := hp.length_eq
  rw [e2]
  refine ⟨by simp; rw [PySem.sizeLine_eq]; omega, ?_⟩
  have mt : ∀ i ∈ ms.take n, i ∈ others := fun i hi => hp.mem_iff.mp (List.mem_of_mem_take hi)
  have nd2 : (ns ++ ms.take n).Nodup := by
    rw [List.nodup_append]
    exact ⟨nd, (hp.nodup_iff.mpr ond).sublist (List.take_sublist _ _), fun x hx y hy e => (oit y (mt y hy)).2 (e ▸ hx)⟩
  have it2 : ∀ i ∈ ns ++ ms.take n, VItem i := fun i hi => by
    rcases List.mem_append.mp hi with hi | hi
    · exact it i hi
    · exact (oit i (mt i hi)).1
  have l2 := items_len nd2 it2
  walk_at "runz"
  refine sp_mixedI w4 (by omega) (by omega) ?_
  intro l A5 hl w5
  walk_at "runz"
  refine .id (h l A5 ⟨?_, hl.nodup_iff.mpr nd2, fun i hi => it2 i (hl.mem_iff.mp hi)⟩ (fun i hi => hl.mem_iff.mpr (List.mem_append_left _ hi)) (w5.more (by omega)))
  intro e
  rw [e] at hl
  have := hl.nil_eq
  exact ne (List.append_eq_nil_iff.mp this.symm).1
def kvI (l : List (Int × Int)) : List (L2.Key × D) := l.map fun p => (Sum.inl p.1, D.int p.2)
theorem kvI_keys (l : List (Int × Int)) : (kvI l).map (·.1) = (l.map (·.1)).map Sum.inl := by unfold kvI; rw [List.map_map, List.map_map]; rfl
theorem kvI_keyD (l : List (Int × Int)) : ((kvI l).map (·.1)).map keyD = (l.map (·.1)).map D.int := by unfold kvI; rw [List.map_map, List.map_map, List.map_map]; rfl
theorem kvI_len (l : List (Int × Int)) : (kvI l).length = l.length := List.length_map _
theorem kvI_put {l : List (Int × Int)} {j i : Int} (h : j ∉ l.map (·.1)) : setK (kvI l) (.inl j) (.int i) = kvI (l ++ [(j, i)]) := by
  rw [setK_new (by rw [kvI_keys]; intro z; obtain ⟨y, hy, e⟩ := List.mem_map.mp z; exact h (Sum.inl.inj e ▸ hy))]
  simp [kvI]
theorem kvI_look (l : List (Int × Int)) (j : Int) : lookK (kvI l) (.inl j) = (l.lookup j).map D.int := by
  induction l with
  | nil => rfl
  | cons p l ih =>
    obtain ⟨a, b⟩ := p
    show lookK ((Sum.inl a, D.int b) :: kvI l) _ = _
    rw [lookK_cons, ih, List.lookup_cons]
    by_cases h : a = j
    · subst h; simp
    · have : (j == a) = false := by simp; exact fun e => h e.symm
      rw [this, if_neg (fun z => h (Sum.inl.inj z))]
theorem goL_app (d : Bl) (i : Int) (row : List Int) : goL (d ++ [(i, row)]) = goL d ++ row.map fun j => (j, i) := by unfold goL; simp
theorem sp_goes {N : List Int} {B : Bl} (b : Eff N B) (hN : N.length ≤ 60) (h : Q (fdD (kvI (goL B))) A) : cal t (k + 1) "_law_goes" [blkD B] A X Q := by
  refine calN_eq t__law_goes rfl ?_
  walk_at "run"
  refine .new fun p hp => ?_
  walk_at "run"
  rw [keys_kv]
  refine for_st (β := Bl) (b := []) (e := fun p : Int × List Int => D.int p.1) (fun d r σ A' => A' = put A p (.dct (kvI (goL d))) ∧ σ = [some (blkD B), some (.ref p), none, none] ∧ d ++ r = B) (fun b p => b ++ [p]) B ⟨rfl, rfl, rfl⟩ (fun _ _ _ _ _ => holds_nil) ?_ ?_
  · rintro d ⟨i, row⟩ r σ A' nx hx ⟨rfl, rfl, hbr⟩ hk
    walk_at "run"
    have el : lookK (kvB B) (.inl i) = some (linD row) := by rw [lookK_kvB, look_at b.nodK hx]; rfl
    rw [el]
    have nd : ((goL d ++ row.map fun j => (j, i)).map (·.1)).Nodup := by
      have h1 := b.go_nd
      have h2 : B = (d ++ [(i, row)]) ++ r := by rw [← hbr]; simp
      have h3 : goL B = goL (d ++ [(i, row)]) ++ goL r := by rw [h2]; unfold goL; simp
      rw [h3, goL_app, List.map_append] at h1
      exact (List.nodup_append.mp h1).1
    have hlen : (goL d ++ row.map fun j => (j, i)).length ≤ 60 := by
      have h1 : ((goL d ++ row.map fun j => (j, i)).map (·.1)).length ≤ N.length := len_of_sub nd fun x hx2 => by
        refine b.pm.mem_iff.mp ?_
        rw [← goL_keys, ← hbr]
        have : goL (d ++ (i, row) :: r) = (goL d ++ row.map fun j => (j, i)) ++ goL r := by unfold goL; simp
        rw [this, List.map_append]
        exact List.mem_append_left _ hx2
      rw [List.length_map] at h1
      omega
    walk_at "run"
    refine for_st (β := List Int) (b := []) (e := D.int) (fun acc r σ A' => A' = put A p (.dct (kvI (goL d ++ acc.map fun j => (j, i)))) ∧ σ = [some (blkD B), some (.ref p), some (.int i), none] ∧ acc ++ r = row) (fun acc j => acc ++ [j]) row ⟨by simp, rfl, rfl⟩ (fun _ _ _ _ _ => holds_nil) ?_ ?_
    · rintro acc j r' σ A' nx hj ⟨rfl, rfl, hz⟩ hk
      walk_at "run"
      have hn : j ∉ (goL d ++ acc.map fun j => (j, i)).map (·.1) := fun z => by
        have e9 : goL d ++ row.map (fun j => (j, i)) = (goL d ++ acc.map fun j => (j, i)) ++ (j, i) :: r'.map fun j => (j, i) := by rw [← hz]; simp
        rw [e9, List.map_append, List.nodup_append] at nd
        exact nd.2.2 j z j (by simp) rfl
      refine ⟨?_, ?_⟩
      · rw [kvI_len, PySem.sizeLine_eq]
        rw [← hz] at hlen
        simp at hlen ⊢
        omega
      · rw [kvI_put hn]
        refine hk _ _ ⟨?_, rfl, by simpa using hz⟩
        rw [put_put]
        simp
    · rintro σ A' ⟨rfl, rfl, hz⟩
      rw [List.append_nil] at hz
      rw [hz]
      walk_at "run"
      refine hk _ _ ⟨?_, rfl, by simpa using hbr⟩
      rw [goL_app]
  · rintro σ A' ⟨rfl, rfl, hb⟩
    rw [List.append_nil] at hb
    rw [hb]
    walk_at "run"
    exact .dct put_same (Sub.fresh hp) hp h
end FB

namespace FB
open PySem Py Mv Pr
variable {t : Tb} [Has t] {k : Nat} {A B : AH} {X : Dx} {Q : Dk}
theorem eff_step {N : List Int} {B : Bl} {c : Cmd} (e : Eff N B) (h1 : c.2.1 ∈ N) (h2 : c.2.2 ∈ N) (hn : c.2.1 ≠ c.2.2) : Eff N (stepB B c) := by
  have ks : keys (stepB B c) = N := by rw [stepB_map, keys_map, e.ks]
  refine ⟨ks, e.nd, ?_⟩
  have nd : (subst B N).Nodup := by rw [← e.ks, rows_subst e.nodK, e.pm.nodup_iff]; exact e.nd
  have pm : (subst B N).Perm N := by
    have : subst B N = rows B := by rw [← e.ks, rows_subst e.nodK]
    rw [this]; exact e.pm
  have := subst_step (B := B) (c := c) (by rw [e.ks]; exact h1) (by rw [e.ks]; exact h2) N nd (pm.mem_iff.mpr h2) hn
  rw [← rows_subst (by rw [ks]; exact e.nd), ks, this]
  exact (mvd_perm (pm.mem_iff.mpr h1)).trans pm
theorem filter_one {x : Int} {p : Int → Bool} : ∀ {l : List Int}, l.Nodup → x ∈ l → (∀ y ∈ l, p y = true ↔ y = x) → l.filter p = [x]
  | a :: l, nd, hx, h => by
    rw [List.nodup_cons] at nd
    rcases List.mem_cons.mp hx with rfl | hx
    · rw [List.filter_cons, if_pos ((h x (by simp)).mpr rfl)]
      congr 1
      refine List.filter_eq_nil_iff.mpr fun y hy q => ?_
      have := (h y (by simp [hy])).mp q
      exact nd.1 (this ▸ hy)
    · have : ¬ p a = true := fun q => nd.1 ((h a (by simp)).mp q ▸ hx)
      rw [List.filter_cons, if_neg this]
      exact filter_one nd.2 hx fun y hy => h y (by simp [hy])
abbrev Pl := List (Int × PySem.Addr)
def kvR (R : Pl) : List (L2.Key × D) := R.map fun q => (Sum.inl q.1, D.ref q.2)
theorem kvR_keyD (l : Pl) : ((kvR l).map (·.1)).map keyD = (l.map (·.1)).map D.int := by unfold kvR; rw [List.map_map, List.map_map, List.map_map]; rfl
theorem kvR_len (l : Pl) : (kvR l).length = l.length := List.length_map _
theorem kvR_put {l : Pl} {j : Int} {p : PySem.Addr} (h : j ∉ l.map (·.1)) : setK (kvR l) (.inl j) (.ref p) = kvR (l ++ [(j, p)]) := by
  rw [setK_new (by unfold kvR; rw [List.map_map]; intro z; obtain ⟨y, hy, e⟩ := List.mem_map.mp z; exact h (List.mem_map.mpr ⟨y, hy, Sum.inl.inj e⟩))]
  simp [kvR]
theorem kvR_look (l : Pl) (j : Int) : lookK (kvR l) (.inl j) = (l.lookup j).map D.ref := by
  induction l with
  | nil => rfl
  | cons p l ih =>
    obtain ⟨a, b⟩ := p
    show lookK ((Sum.inl a, D.ref b) :: kvR l) _ = _
    rw [lookK_cons, ih, List.lookup_cons]
    by_cases h : a = j
    · subst h; simp
    · have : (j == a) = false := by simp; exact fun e => h e.symm
      rw [this, if_neg (fun z => h (Sum.inl.inj z))]
theorem inj_map {α β : Type} (f : α → β) : ∀ {l : List α}, (l.map f).Nodup → ∀ {x y}, x ∈ l → y ∈ l → f x = f y → x = y
  | a :: l, nd, x, y, hx, hy, q => by
    rw [List.map_cons, List.nodup_cons] at nd
    rcases List.mem_cons.mp hx with ex | hx
    · rcases List.mem_cons.mp hy with ey | hy
      · rw [ex, ey]
      · exact absurd (List.mem_map.mpr ⟨y, hy, by rw [← q, ex]⟩) nd.1
    · rcases List.mem_cons.mp hy with ey | hy
      · exact absurd (List.mem_map.mpr ⟨x, hx, by rw [q, ey]⟩) nd.1
      · exact inj_map f nd.2 hx hy q
/-- the rows at their places -/
structure AtR (N : List Int) (A A' : AH) (R : Pl) (b : Bl) : Prop where
  ks : R.map (·.1) = N
  nd : (R.map (·.2)).Nodup
  fr : ∀ q ∈ R, A q.2 = none
  at_ : ∀ q ∈ R, A' q.2 = some (.lst ((getB b q.1).map .int))
  sb : Py.Sub A A'
theorem AtR.find {N : List Int} {A A' : AH} {R : Pl} {b : Bl} (a : AtR N A A' R b) (nd : N.Nodup) {i : Int} (h : i ∈ N) : ∃ p, lookK (kvR R) (.inl i) = some (.ref p) ∧ (i, p) ∈ R ∧ A' p = some (.lst ((getB b i).map .int)) := by
  rw [← a.ks] at h nd
  obtain ⟨⟨j, p⟩, hq, rfl⟩ := List.mem_map.mp h
  exact ⟨p, by rw [kvR_look, lookup_nd nd hq]; rfl, hq, a.at_ _ hq⟩
theorem AtR.set {N : List Int} {A A' : AH} {R : Pl} {b b' : Bl} (a : AtR N A A' R b) (nN : N.Nodup) {i : Int} {p : PySem.Addr} (h : (i, p) ∈ R) (h1 : ∀ k ∈ N, k ≠ i → getB b' k = getB b k) : AtR N A (put A' p (.lst ((getB b' i).map .int))) R b' := by
  refine ⟨a.ks, a.nd, a.fr, fun q hq => ?_, fun x o hx => ?_⟩
  · by_cases e : q.2 = p
    · have : q = (i, p) := inj_map _ a.nd hq h e
      rw [this, put_same]
    · rw [put_ne e, a.at_ q hq]
      have kN : q.1 ∈ N := by rw [← a.ks]; exact List.mem_map.mpr ⟨q, hq, rfl⟩
      have e2 : q.1 ≠ i := fun e2 => e (by rw [inj_map (·.1) (by rw [a.ks]; exact nN) hq h e2])
      rw [h1 _ kN e2]
  · have : x ≠ p := fun e => by
      have := a.fr _ h
      rw [← e, hx] at this
      cases this
    rw [put_ne this]
    exact a.sb x o hx
theorem get_take {b : Bl} {i x : Int} (h : x ∈ keys b) : getB (takeB i b) x = if i ∈ getB b x then (getB b x).erase i else getB b x := by
  obtain ⟨r, e, _⟩ := lookup_some h
  unfold getB takeB
  rw [lookup_map (f := fun r => if i ∈ r then r.erase i else r), e]
  rfl
theorem get_step {b : Bl} {w : Bool} {i o x : Int} (h : x ∈ keys b) : getB (stepB b (w, i, o)) x = if o ∈ getB (takeB i b) x then put1 w i o (getB (takeB i b) x) else getB (takeB i b) x := by
  have h' : x ∈ keys (takeB i b) := by
    have : keys (takeB i b) = keys b := keys_map (f := fun r => if i ∈ r then r.erase i else r) (B := b)
    rw [this]; exact h
  obtain ⟨r, e, _⟩ := lookup_some h'
  unfold stepB giveB
  show getB ((takeB i b).map fun p => (p.1, if o ∈ p.2 then put1 w i o p.2 else p.2)) x = _
  unfold getB
  rw [lookup_map (f := fun r => if o ∈ r then put1 w i o r else r), e]
  rfl
theorem pairsD_map {g : Int → D} : ∀ {l : List Int}, pairsD (l.map fun x => D.tup [.int x, g x]) = some (l.map fun x => ((Sum.inl x : L2.Key), g x))
  | [] => rfl
  | x :: l => by
    rw [List.map_cons]
    simp only [pairsD]
    rw [pairsD_map]
    rfl
theorem sp_split {cs : List Cmd} (v : VScr cs) (h : Q (blkD (blocks cs)) A) : cal t (k + 2) "_law_split" [scrD cs] A X Q := by
  have nN : (named cs).Nodup := named_nd
  have lN : (named cs).length ≤ 60 := items_len named_nd (named_it v.it)
  refine calN_eq t__law_split rfl ?_
  walk_at "run"
  refine .new fun pf hpf => ?_
  walk_at "run"
  refine sp_named v ?_
  walk_at "run"
  refine for_st (β := List Int) (b := []) (e := D.int) (fun d r σ A' => ∃ R : Pl, A' pf = some (.dct (kvR R)) ∧ R.map (·.1) = d ∧ (R.map (·.2)).Nodup ∧ (∀ q ∈ R, q.2 ≠ pf ∧ A q.2 = none ∧ A' q.2 = some (.lst [.int q.1])) ∧ Py.Sub A A' ∧ σ = [some (scrD cs), some (.ref pf), none, none, none, none, none, none, none] ∧ d ++ r = named cs) (fun d i => d ++ [i]) (named cs) ⟨[], put_same, rfl, List.nodup_nil, (fun _ h => nomatch h), Sub.fresh hpf, rfl, rfl⟩ (fun _ _ _ _ _ => holds_nil) ?_ ?_
  · rintro d i r σ A' nx hi ⟨R, hA, hR1, hR2, hR3, hS, rfl, hdr⟩ hk
    walk_at "run"
    refine .new fun p hp => ?_
    have hA2 : put A' p (.lst [.int i]) pf = some (.dct (kvR R)) := put_old hp hA
    walk_at "run"
    have hlen : R.length < 60 := by
      have h1 : (R.map (·.1)).length + 1 ≤ (named cs).length := by rw [hR1, ← hdr]; simp
      rw [List.length_map] at h1
      omega
    have hn : i ∉ R.map (·.1) := fun z => by
      rw [hR1] at z
      rw [← hdr, List.nodup_append] at nN
      exact nN.2.2 i z i (by simp) rfl
    refine ⟨by rw [kvR_len, PySem.sizeLine_eq]; omega, ?_⟩
    rw [kvR_put hn]
    have pp : p ≠ pf := fun e => by rw [e, hA] at hp; cases hp
    have hAp : A p = none := by
      cases e : A p with
      | none => rfl
      | some o => rw [hS p o e] at hp; cases hp
    refine hk _ _ ⟨R ++ [(i, p)], put_same, by rw [List.map_append, hR1]; rfl, ?_, ?_, ?_, rfl, by simpa using hdr⟩
    · rw [List.map_append, List.nodup_append]
      refine ⟨hR2, by simp, fun x hx y hy e => ?_⟩
      have : y = p := by simpa using hy
      obtain ⟨q, hq, rfl⟩ := List.mem_map.mp hx
      have h3 := (hR3 q hq).2.2
      rw [e, this, hp] at h3
      cases h3
    · intro q hq
      rcases List.mem_append.mp hq with hq | hq
      · obtain ⟨h1, h2, h3⟩ := hR3 q hq
        exact ⟨h1, h2, by rw [put_ne h1]; exact put_old hp h3⟩
      · cases List.mem_singleton.mp hq
        exact ⟨pp, hAp, by rw [put_ne pp, put_same]⟩
    · intro x o hx
      have : x ≠ pf := fun e => by rw [e, hpf] at hx; cases hx
      rw [put_ne this]
      exact put_old hp (hS x o hx)
  · rintro σ A' ⟨R, hA, hR1, hR2, hR3, hS, rfl, hdr⟩
    rw [List.append_nil] at hdr
    rw [hdr] at hR1
    clear hdr
    walk_at "run"
    have hat : AtR (named cs) A (Py.rem A' pf) R (startB (named cs)) := by
      refine ⟨hR1, hR2, fun q hq => (hR3 q hq).2.1, fun q hq => ?_, fun x o hx => ?_⟩
      · have e : getB (startB (named cs)) q.1 = [q.1] := by
          have := subst_start (ns := named cs) (l := [q.1]); unfold subst at this; rw [List.map_cons, List.map_nil, List.flatten_cons, List.flatten_nil, List.append_nil] at this; exact this
        rw [e]
        unfold Py.rem
        rw [if_neg (hR3 q hq).1]
        exact (hR3 q hq).2.2
      · have : x ≠ pf := fun e => by rw [e, hpf] at hx; cases hx
        unfold Py.rem
        rw [if_neg this]
        exact hS x o hx
    have nv : ∀ c ∈ cs, c.2.1 ∈ named cs ∧ c.2.2 ∈ named cs ∧ c.2.1 ≠ c.2.2 := fun c hc => ⟨mem_named.mpr (List.mem_flatten.mpr ⟨_, List.mem_map.mpr ⟨c, hc, rfl⟩, by simp⟩), mem_named.mpr (List.mem_flatten.mpr ⟨_, List.mem_map.mpr ⟨c, hc, rfl⟩, by simp⟩), (v.it c hc).2.2⟩
    generalize Py.rem A' pf = A1 at hat
    refine for_st (β := Bl) (b := startB (named cs)) (e := cmdD) (fun b r σ A' => AtR (named cs) A A' R b ∧ Eff (named cs) b ∧ σ = [none, some (fdD (kvR R)), none, none, none, none, none, none, none]) stepB cs ⟨hat, eff_start nN, rfl⟩ (fun _ _ _ _ _ => holds_nil) ?_ ?_
    · rintro b ⟨w, i, o⟩ r σ A' nx hc ⟨ha, ef, rfl⟩ hk
      obtain ⟨v1, v2, v3⟩ := nv _ hc
      show bindT _ (.tup [.str (wd w), .int i, .int o]) _ _
      replace v1 : i ∈ named cs := v1
      replace v2 : o ∈ named cs := v2
      replace v3 : i ≠ o := v3
      walk_at "run"
      intro L hL
      rw [kvR_keyD, ha.ks]
      refine lc_map (e := D.int) (p := fun k => decide (i ∈ getB b k)) (g := D.int) hL (named cs) (by rw [PySem.sizeLine_eq]; omega) (fun _ => holds_nil) ?_ ?_
      · intro x hx
        obtain ⟨q, q1, q2, q3⟩ := ha.find nN hx
        refine ⟨[none, some (fdD (kvR R)), some (.int i), some (.str (wd w)), some (.int o), none, some (.int x), none, none], fun k hk => hk, ?_, ?_⟩
        · intro A2 P hP hs
          have q4 := hs _ _ q3
          walk_at "run"
          rw [q1]
          walk_at "run"
          refine ⟨flat_ints, ?_⟩
          rw [inF_int]
          exact hP
        · intro _ A2 P hP hs
          walk_at "run"
          exact hP
      obtain ⟨s1, s2⟩ := ef.src_in v1
      rw [filter_one nN s1 fun y hy => by rw [decide_eq_true_iff, ef.mem_get v1 hy]; exact eq_comm]
      obtain ⟨p1, p2, p3, p4⟩ := ha.find nN s1
      walk_at "run"
      rw [p2]
      walk_at "run"
      have e1 : (List.map D.int (getB b (src b i))).eraseIdx (List.idxOf i (getB b (src b i))) = (getB (takeB i b) (src b i)).map D.int := by
        rw [List.eraseIdx_eq_take_drop_succ, erase_cut s2, get_take (by rw [ef.ks]; exact s1), if_pos s2]
      rw [e1]
      have ha2 : AtR (named cs) A (put A' p1 (.lst ((getB (takeB i b) (src b i)).map .int))) R (takeB i b) := ha.set nN p3 fun x hx hn => by
        rw [get_take (by rw [ef.ks]; exact hx), if_neg fun z => hn ((ef.mem_get v1 hx).mp z).symm]
      generalize put A' p1 (.lst ((getB (takeB i b) (src b i)).map .int)) = A2 at ha2 ⊢
      have mt : ∀ x ∈ named cs, (o ∈ getB (takeB i b) x ↔ o ∈ getB b x) := fun x hx => by
        rw [get_take (by rw [ef.ks]; exact hx)]
        split
        · exact List.mem_erase_of_ne (fun e => v3 e.symm)
        · rfl
      intro L2 hL2
      rw [kvR_keyD, ha.ks]
      refine lc_map (e := D.int) (p := fun k => decide (o ∈ getB (takeB i b) k)) (g := D.int) hL2 (named cs) (by rw [PySem.sizeLine_eq]; omega) (fun _ => holds_nil) ?_ ?_
      · intro x hx
        obtain ⟨q, q1, q2, q3⟩ := ha2.find nN hx
        refine ⟨[none, some (fdD (kvR R)), some (.int i), some (.str (wd w)), some (.int o), some (.int (src b i)), some (.int x), some (.ref p1), none], fun k hk => hk, ?_, ?_⟩
        · intro A3 P hP hs
          have q4 := hs _ _ q3
          walk_at "run"
          rw [q1]
          walk_at "run"
          refine ⟨flat_ints, ?_⟩
          rw [inF_int]
          exact hP
        · intro _ A3 P hP hs
          walk_at "run"
          exact hP
      obtain ⟨u1, u2⟩ := ef.src_in v2
      rw [filter_one nN u1 fun y hy => by rw [decide_eq_true_iff, mt y hy, ef.mem_get v2 hy]; exact eq_comm]
      obtain ⟨p5, p6, p7, p8⟩ := ha2.find nN u1
      have u3 := (mt _ u1).mpr u2
      have glen : (getB (takeB i b) (src b o)).length ≤ 60 := by
        have h1 := Eff.get_len ef lN (src b o)
        rw [get_take (by rw [ef.ks]; exact u1)]
        split
        · have := List.length_erase_le (a := i) (l := getB b (src b o)); omega
        · exact h1
      walk_at "run"
      rw [p6]
      walk_at "run"
      rw [int_beh]
      have hlt := List.idxOf_lt_length_of_mem u3
      refine ⟨by rw [List.length_map, PySem.sizeLine_eq]; omega, by omega, by split <;> omega, ?_⟩
      walk_at "run"
      have ha3 : AtR (named cs) A (put A2 p5 (.lst ((getB (stepB b (w, i, o)) (src b o)).map .int))) R (stepB b (w, i, o)) := ha2.set nN p7 fun x hx hn => by
        rw [get_step (by rw [ef.ks]; exact hx), if_neg fun z => hn ((ef.mem_get v2 hx).mp ((mt x hx).mp z)).symm]
      refine hk _ _ ⟨?_, eff_step ef v1 v2 v3, rfl⟩
      rw [get_step (by rw [ef.ks]; exact u1), if_pos u3] at ha3
      have en : ∀ z : Nat, ((z : Int)).toNat = z := Int.toNat_natCast
      unfold put1 at ha3
      rw [List.map_append, List.map_append, List.map_take, List.map_drop] at ha3
      rw [en]
      exact ha3
    · rintro σ A' ⟨ha, ef, rfl⟩
      walk_at "run"
      intro L hL
      rw [kvR_keyD, ha.ks]
      refine lc_map (e := D.int) (p := fun _ => true) (g := fun x => D.tup [.int x, linD (getB (blocks cs) x)]) hL (named cs) (by rw [PySem.sizeLine_eq]; omega) (fun _ => holds_nil) ?_ ?_
      · intro x hx
        obtain ⟨q, q1, q2, q3⟩ := ha.find nN hx
        refine ⟨[none, some (fdD (kvR R)), none, none, none, none, some (.int x), none, none], fun k hk => hk, fun A2 P hP hs => hP, ?_⟩
        intro _ A2 P hP hs
        have q4 := hs _ _ q3
        walk_at "run"
        rw [q1]
        walk_at "run"
        exact hP
      rw [filter_yes]
      walk_at "run"
      rw [pairsD_map]
      refine ⟨by rw [List.length_map]; omega, .fz ?_⟩
      have e2 : mergK [] ((named cs).map fun x => ((Sum.inl x : L2.Key), linD (getB (blocks cs) x))) = kvB (blocks cs) := by
        have ef' : Eff (named cs) (blocks cs) := ef
        rw [mergK_new _ _ (by
          rw [List.map_nil, List.nil_append, List.map_map]
          rw [List.nodup_iff_pairwise_ne, List.pairwise_map]
          exact (List.nodup_iff_pairwise_ne.mp nN).imp fun hn e => hn (Sum.inl.inj e)), List.nil_append, kvB_tab ef']
      rw [e2]
      walk_at "run"
      exact .of ha.sb h
end FB

namespace FB
open PySem Py Mv Pr
variable {t : Tb} [Has t] {k : Nat} {A : AH} {X : Dx} {Q : Dk}
/-- T is how long it takes until all sources are on rings -/
def Lng (N : List Int) (B : Bl) (T : Nat) : Prop := Onr N B T ∧ T ≤ N.length ∧ ∀ T', Onr N B T' → T ≤ T'
theorem look_goes {N : List Int} {B : Bl} (b : Eff N B) {i : Int} (h : i ∈ N) : lookK (kvI (goL B)) (.inl i) = some (.int (src B i)) := by rw [kvI_look, b.look_src h]; rfl
theorem sp_steps {N : List Int} {B : Bl} (b : Eff N B) (hN : N.length ≤ 60) (h : ∀ T, Lng N B T → Q (.fl [.int (T : Nat), fdD (mkK (ringI N B))]) A) : cal t (k + 2) "_law_steps" [blkD B] A X Q := by
  have gl : (kvI (goL B)).length = N.length := by
    rw [kvI_len, ← List.length_map (f := (·.1)) (as := goL B), goL_keys, b.pm.length_eq]
  have rl : (rows B).length = N.length := b.pm.length_eq
  have rN : ∀ i ∈ rows B, i ∈ N := fun i hi => b.pm.mem_iff.mp hi
  refine calN_eq t__law_steps rfl ?_
  walk_at "run"
  refine sp_goes b hN ?_
  walk_at "run"
  refine .new fun p hp => ?_
  walk_at "run"
  rw [kvI_keyD, goL_keys]
  refine for_st (β := List Int) (b := []) (e := D.int) (fun l r σ A' => A' = put A p (.dct (mkK l)) ∧ σ = [none, some (fdD (kvI (goL B))), some (.ref p), some (.int 0), none, none, none, none] ∧ l.length + r.length ≤ N.length) (fun l i => PyProof.Rows.step_dedup l (itB B N.length i)) (rows B) ⟨rfl, rfl, by simp [rl]⟩ (fun _ _ _ _ _ => holds_nil) ?_ ?_
  · rintro l i r σ A' nx hi ⟨rfl, rfl, hz⟩ hk
    have iN := rN _ hi
    rw [List.length_cons] at hz
    walk_at "run"
    have gl2 : ((kvI (goL B)).map fun x => x.1).length = N.length := by rw [List.length_map, gl]
    rw [gl2]
    refine ⟨by omega, ?_⟩
    walk_at "run"
    rw [show (Int.toNat ((N.length : Nat) : Int)) = N.length from Int.toNat_natCast _]
    refine for_rng (fun j σ A' => A' = put A p (.dct (mkK l)) ∧ σ = [none, some (fdD (kvI (goL B))), some (.ref p), some (.int 0), none, some (.int (itB B j i)), none, none]) ⟨rfl, rfl⟩ ?_ ?_
    · rintro j σ A' nx hj ⟨rfl, rfl⟩ hk
      walk_at "run"
      rw [show lookK (kvI (goL B)) (.inl (itB B j i)) = _ from look_goes b (b.it_in j iN)]
      walk_at "run"
      refine hk _ _ ⟨rfl, ?_⟩
      rw [it_src]
      rfl
    · rintro σ A' ⟨rfl, rfl⟩
      walk_at "run"
      refine ⟨by rw [mk_len, PySem.sizeLine_eq]; omega, ?_⟩
      rw [mk_step]
      refine hk _ _ ⟨by rw [put_put], rfl, ?_⟩
      have st : (PyProof.Rows.step_dedup l (itB B N.length i)).length ≤ l.length + 1 := by unfold PyProof.Rows.step_dedup; split <;> simp
      omega
  · rintro σ A' ⟨rfl, rfl, _⟩
    have e : (rows B).foldl (fun l i => PyProof.Rows.step_dedup l (itB B N.length i)) [] = ringI N B := by
      unfold ringI
      show _ = ((rows B).map (itB B N.length)).foldl PyProof.Rows.step_dedup []
      rw [List.foldl_map]
    rw [e]
    walk_at "run"
    rw [kvI_keyD, goL_keys]
    refine for_st (β := List Int) (b := []) (e := D.int) (fun d r σ A' => A' = put A p (.dct (mkK (ringI N B))) ∧ (∃ T : Nat, σ = [none, some (fdD (kvI (goL B))), some (.ref p), some (.int T), none, none, none, none] ∧ T ≤ N.length ∧ (∀ i ∈ d, itB B T i ∈ ringI N B) ∧ (∀ T', Onr N B T' → T ≤ T')) ∧ d ++ r = rows B) (fun d i => d ++ [i]) (rows B) ⟨rfl, ⟨0, rfl, by omega, by simp, fun _ _ => by omega⟩, rfl⟩ (fun _ _ _ _ _ => holds_nil) ?_ ?_
    · rintro d i r σ A' nx hi ⟨rfl, ⟨T, rfl, hT1, hT2, hT3⟩, hd⟩ hk
      have iN := rN _ hi
      walk_at "run"
      refine whl_by (fun m σ A' => A' = put A p (.dct (mkK (ringI N B))) ∧ ∃ c : Nat, c + m = N.length ∧ σ = [none, some (fdD (kvI (goL B))), some (.ref p), some (.int T), none, some (.int (itB B c i)), none, some (.int c)] ∧ ∀ c' < c, itB B c' i ∉ ringI N B) ?_ N.length ?_
      · rintro m σ A' nx ⟨rfl, c, hc, rfl, hcn⟩ hk2
        walk_at "run"
        rw [mk_look]
        by_cases hr : itB B c i ∈ ringI N B
        · rw [decide_eq_true hr]
          walk_at "run"
          have cmin : ∀ T', Onr N B T' → c ≤ T' := fun T' h' => by
            apply Classical.byContradiction
            intro hlt
            exact hcn T' (by omega) (h' i iN)
          have up : ∀ {a b2 : Nat} {x : Int}, a ≤ b2 → itB B a x ∈ ringI N B → itB B b2 x ∈ ringI N B := fun {a b2 x} hab hx => by
            have : b2 = (b2 - a) + a := by omega
            rw [this, it_add]
            exact b.ring_it _ hx
          refine hk _ _ ⟨rfl, ?_, by simpa using hd⟩
          by_cases hl : (c : Int) > (T : Int)
          · refine ⟨c, ?_, by omega, fun x hx => ?_, cmin⟩
            · rw [if_pos hl]; rfl
            · rcases List.mem_append.mp hx with hx | hx
              · exact up (by omega) (hT2 x hx)
              · cases List.mem_singleton.mp hx; exact hr
          · refine ⟨T, ?_, hT1, fun x hx => ?_, hT3⟩
            · rw [if_neg hl]; rfl
            · rcases List.mem_append.mp hx with hx | hx
              · exact hT2 x hx
              · cases List.mem_singleton.mp hx; exact up (by omega) hr
        · rw [decide_eq_false hr]
          have hlt : c < N.length := by
            apply Classical.byContradiction
            intro hge
            have : c = N.length := by omega
            rw [this] at hr
            exact hr (b.onr_len i iN)
          walk_at "run"
          rw [show lookK (kvI (goL B)) (.inl (itB B c i)) = _ from look_goes b (b.it_in c iN)]
          walk_at "run"
          refine hk2 (m - 1) _ _ (by omega) ⟨rfl, c + 1, by omega, ?_, fun c' h' => ?_⟩
          · rw [it_src]; rfl
          · by_cases e9 : c' = c
            · rw [e9]; exact hr
            · exact hcn c' (by omega)
      · exact ⟨rfl, 0, by omega, rfl, fun _ h => by omega⟩
    · rintro σ A' ⟨rfl, ⟨T, rfl, hT1, hT2, hT3⟩, hd⟩
      walk_at "run"
      refine .new fun p2 hp2 => ?_
      walk_at "run"
      rw [List.append_nil] at hd
      rw [hd] at hT2
      have pp : p2 ≠ p := fun e => by rw [e, put_same] at hp2; cases hp2
      have hp3 : A p2 = none := by rwa [put_ne pp] at hp2
      rw [EndOk_eq]
      refine ⟨A, _, [p2, p], .lst put_same (.cons (.same _) (.cons (.dct (by rw [put_ne (Ne.symm pp), put_same]) (.same _)) (.same []))), fun x o hx => put_old hp2 (put_old hp hx), fun q hq => ?_, h T ⟨fun i hi => hT2 i (b.pm.mem_iff.mpr hi), hT1, hT3⟩⟩
      rcases List.mem_cons.mp hq with rfl | hq
      · exact hp3
      · cases List.mem_singleton.mp hq; exact hp
end FB

namespace FB
open PySem Py Mv Pr
variable {t : Tb} [Has t] {k : Nat} {A : AH} {X : Dx} {Q : Dk}
theorem again_pow {N : List Int} {B : Bl} (b : Eff N B) (j : Nat) : joinB B (powB N B j) = powB N B (j + 1) := by rw [Nat.add_comm, ← pow_add b 1 j, pow_one b]
theorem lookup_no {β : Type} {i : Int} : ∀ {l : List (Int × β)}, i ∉ l.map (·.1) → l.lookup i = none
  | [], _ => rfl
  | p :: l, h => by
    obtain ⟨a, b⟩ := p
    rw [List.lookup_cons]
    have : i ≠ a := fun e => h (by simp [e])
    rw [beq_eq_false_iff_ne.mpr this]
    exact lookup_no fun z => h (by rw [List.map_cons]; exact List.mem_cons_of_mem _ z)
theorem mk_keyD (l : List Int) : ((mkK l).map (·.1)).map keyD = l.map D.int := by unfold mkK; rw [List.map_map, List.map_map]; rfl
def lat (P : Bl) (d : List Int) : List (L2.Key × D) := d.map fun k => (Sum.inl k, linD (getB P k))
theorem lat_keys (P : Bl) (d : List Int) : (lat P d).map (·.1) = d.map Sum.inl := by unfold lat; rw [List.map_map]; rfl
theorem look_row {N : List Int} {P : Bl} (e : Eff N P) {i : Int} (h : i ∈ N) : lookK (kvB P) (.inl i) = some (linD (getB P i)) := by
  rw [lookK_kvB]
  obtain ⟨r, e1, _⟩ := lookup_some (B := P) (i := i) (by rw [e.ks]; exact h)
  unfold getB
  rw [e1]
  rfl
set_option maxHeartbeats 2000000 in
theorem sp_far {N : List Int} {B : Bl} {m : Nat} (b : Eff N B) (hN : N.length ≤ 60) (hm : m < 2 ^ 200) (h : Q (blkD (powB N B m)) A) : cal t (k + 3) "_law_far" [blkD B, .int m] A X Q := by
  refine calN_eq t__law_far rfl ?_
  walk_at "run"
  refine sp_goes b hN ?_
  walk_at "run"
  refine sp_steps b hN ?_
  intro T hT
  obtain ⟨hT1, hT2, hT3⟩ := hT
  walk_at "run"
  intro L hL
  have kN : ((kvB B).map (·.1)).map keyD = N.map D.int := by
    rw [keys_kv, ← b.ks]
    unfold keys
    rw [List.map_map]
    rfl
  rw [kN]
  refine lc_map (e := D.int) (p := fun _ => true) (g := fun x => D.tup [.int x, .tup [.int x]]) hL N (by rw [PySem.sizeLine_eq]; omega) (fun _ => holds_nil) ?_ ?_
  · intro x hx
    refine ⟨_, fun k hk => hk, fun A2 P hP hs => hP, ?_⟩
    intro _ A2 P hP hs
    walk_at "run"
    exact hP
  rw [filter_yes]
  walk_at "run"
  rw [pairsD_map]
  refine ⟨by rw [List.length_map]; omega, .fz ?_⟩
  have e2 : mergK [] (N.map fun x => ((Sum.inl x : L2.Key), D.tup [.int x])) = kvB (powB N B 0) := by
    rw [mergK_new _ _ (by
      rw [List.map_nil, List.nil_append, List.map_map]
      rw [List.nodup_iff_pairwise_ne, List.pairwise_map]
      exact (List.nodup_iff_pairwise_ne.mp b.nd).imp fun hn e => hn (Sum.inl.inj e)), List.nil_append]
    show _ = kvB (startB N)
    unfold startB
    show _ = List.map _ (List.map _ _)
    rw [List.map_map]
    rfl
  rw [e2]
  walk_at "run"
  obtain ⟨w, hw, hw2⟩ : ∃ w : Nat, (if (T : Int) < (m : Int) then (T : Int) else (m : Int)) = (w : Int) ∧ w = (if T < m then T else m) := by
    refine ⟨_, ?_, rfl⟩
    by_cases c : T < m
    · rw [if_pos c, if_pos (by omega)]
    · rw [if_neg c, if_neg (by omega)]
  rw [hw, show (Int.toNat (w : Int)) = w from Int.toNat_natCast _]
  refine for_rng (fun j σ A' => A' = A ∧ σ = [some (blkD B), some (.int m), some (fdD (kvI (goL B))), some (.fl [.int (T : Nat), fdD (mkK (ringI N B))]), some (blkD (powB N B j)), none, none, none, none, none, none]) ⟨rfl, rfl⟩ ?_ ?_
  · rintro j σ A' nx hj ⟨rfl, rfl⟩ hk
    walk_at "run"
    refine sp_again b (eff_pow b j) hN ?_
    rw [again_pow b]
    walk_at "run"
    exact hk _ _ ⟨rfl, rfl⟩
  · rintro σ A' ⟨e0, rfl⟩
    rw [e0]
    clear e0 A'
    walk_at "run"
    by_cases hc : (m : Int) ≤ (T : Int)
    · walk_at "run"
      have : w = m := by rw [hw2]; split <;> omega
      rw [this]
      exact .id h
    walk_at "run"
    have hwT : w = T := by rw [hw2, if_pos (by omega)]
    subst hwT
    clear hw hw2
    refine .new fun pb hpb => ?_
    walk_at "run"
    refine .new fun pl hpl => ?_
    walk_at "run"
    rw [mk_keyD]
    have pbl : pb ≠ pl := fun e => by rw [← e, put_same] at hpl; cases hpl
    have hpl2 : A pl = none := by rwa [put_ne (Ne.symm pbl)] at hpl
    refine for_st (β := List Int) (b := []) (e := D.int) (fun d r σ A' => A' pb = some (.dct (kvI (d.map fun j => (src B j, j)))) ∧ A' pl = some (.dct []) ∧ Py.Sub A A' ∧ σ = [some (blkD B), some (.int m), some (fdD (kvI (goL B))), some (.fl [.int (w : Nat), fdD (mkK (ringI N B))]), some (blkD (powB N B w)), none, none, some (.ref pb), some (.ref pl), none, none] ∧ d ++ r = ringI N B) (fun d i => d ++ [i]) (ringI N B) ⟨put_old hpl put_same, put_same, fun x o hx => put_old hpl (put_old hpb hx), rfl, rfl⟩ (fun _ _ _ _ _ => holds_nil) ?_ ?_
    · rintro d i r σ A' nx hi ⟨h1, h2, h3, rfl, hd⟩ hk
      have iN := b.ring_sub hi
      walk_at "run"
      rw [show lookK (kvI (goL B)) (.inl i) = _ from look_goes b iN]
      walk_at "run"
      have hn : src B i ∉ (d.map fun j => (src B j, j)).map (·.1) := fun z => by
        have nd := b.bak_nd
        unfold bakL at nd
        rw [← hd, List.map_append, List.map_append, List.nodup_append] at nd
        exact nd.2.2 _ z _ (by simp) rfl
      have hlen : d.length ≤ 60 := by
        have h5 := b.ring_len
        rw [← hd, List.length_append] at h5
        omega
      refine ⟨by rw [kvI_len, List.length_map, PySem.sizeLine_eq]; omega, ?_⟩
      rw [kvI_put hn]
      refine hk _ _ ⟨?_, ?_, ?_, rfl, by simpa using hd⟩
      · rw [put_same]; simp
      · rw [put_ne (Ne.symm pbl)]; exact h2
      · intro x o hx
        have : x ≠ pb := fun e => by rw [e, hpb] at hx; cases hx
        rw [put_ne this]
        exact h3 x o hx
    · rintro σ A' ⟨h1, h2, h3, rfl, hd⟩
      rw [List.append_nil] at hd
      rw [hd] at h1
      have h1 : A' pb = some (.dct (kvI (bakL N B))) := h1
      clear hd
      walk_at "run"
      rw [kN]
      refine for_st (β := List Int) (b := []) (e := D.int) (fun d r σ A' => A' pb = some (.dct (kvI (bakL N B))) ∧ A' pl = some (.dct (lat (powB N B m) d)) ∧ Py.Sub A A' ∧ σ = [none, some (.int m), none, some (.fl [.int (w : Nat), fdD (mkK (ringI N B))]), some (blkD (powB N B w)), none, none, some (.ref pb), some (.ref pl), none, none] ∧ d ++ r = N) (fun d i => d ++ [i]) N ⟨h1, h2, h3, rfl, rfl⟩ (fun _ _ _ _ _ => holds_nil) ?_ ?_
      · rintro d i r σ A1 nx hi ⟨h1, h2, h3, rfl, hd⟩ hk
        walk_at "run"
        have hlen : d.length < 60 := by
          have : (d ++ i :: r).length ≤ 60 := by rw [hd]; exact hN
          rw [List.length_append, List.length_cons] at this
          omega
        have hid : i ∉ d := fun z => by
          have nd := b.nd
          rw [← hd, List.nodup_append] at nd
          exact nd.2.2 i z i (by simp) rfl
        have hik : (Sum.inl i : L2.Key) ∉ (lat (powB N B m) d).map (·.1) := fun z => by
          rw [lat_keys] at z
          obtain ⟨y, hy, e⟩ := List.mem_map.mp z
          exact hid (Sum.inl.inj e ▸ hy)
        refine ⟨by unfold lat; rw [List.length_map, PySem.sizeLine_eq]; omega, ?_⟩
        rw [setK_new hik]
        have g1 : put A1 pl (.dct (lat (powB N B m) d ++ [(.inl i, .tup [])])) pb = some (.dct (kvI (bakL N B))) := by rw [put_ne pbl]; exact h1
        have g2 : put A1 pl (.dct (lat (powB N B m) d ++ [(.inl i, .tup [])])) pl = some (.dct (lat (powB N B m) d ++ [(.inl i, .tup [])])) := put_same
        have g3 : Py.Sub A (put A1 pl (.dct (lat (powB N B m) d ++ [(.inl i, .tup [])]))) := fun x o hx => by
          have : x ≠ pl := fun e => by rw [e, hpl2] at hx; cases hx
          rw [put_ne this]
          exact h3 x o hx
        generalize put A1 pl (.dct (lat (powB N B m) d ++ [(.inl i, .tup [])])) = A2 at g1 g2 g3 ⊢
        clear h1 h2 h3
        have fin : ∀ (A3 : AH) (row : List Int), A3 pb = some (.dct (kvI (bakL N B))) → A3 pl = some (.dct (lat (powB N B m) d ++ [(.inl i, linD row)])) → Py.Sub A A3 → row = getB (powB N B m) i → A3 pb = some (.dct (kvI (bakL N B))) ∧ A3 pl = some (.dct (lat (powB N B m) (d ++ [i]))) ∧ Py.Sub A A3 := fun A3 row q1 q2 q3 q4 => ⟨q1, by rw [q2, q4]; simp [lat], q3⟩
        walk_at "run"
        rw [kvI_look]
        by_cases hr : i ∈ ringI N B
        · obtain ⟨b1, b2, b3⟩ := b.bak_in hr
          rw [b3]
          walk_at "run"
          refine .new fun pr hpr => ?_
          have prb : pb ≠ pr := fun e => by rw [e, hpr] at g1; cases g1
          have prl : pl ≠ pr := fun e => by rw [e, hpr] at g2; cases g2
          have f1 : ∀ o, put A2 pr o pb = some (.dct (kvI (bakL N B))) := fun o => by rw [put_ne prb]; exact g1
          have f2 : ∀ o, put A2 pr o pl = some (.dct (lat (powB N B m) d ++ [(.inl i, .tup [])])) := fun o => by rw [put_ne prl]; exact g2
          have f3 : ∀ o, Py.Sub A (put A2 pr o) := fun o x u hx => put_old hpr (g3 x u hx)
          have f1a := f1 (.lst [.int i])
          walk_at "run"
          rw [kvI_look, b3]
          walk_at "run"
          obtain ⟨p, p1, p2, p3⟩ := b.bit_back hr
          refine whl_by (fun mm σ A' => ∃ c : Nat, 1 ≤ c ∧ c + mm = p ∧ A' = put A2 pr (.lst ((List.range c).map fun j => D.int (bit N B j i))) ∧ σ = [none, some (.int m), none, some (.fl [.int (w : Nat), fdD (mkK (ringI N B))]), some (blkD (powB N B w)), some (.int i), none, some (.ref pb), some (.ref pl), some (.ref pr), some (.int (bit N B c i))]) ?_ (p - 1) ?_
          · rintro mm σ A' nx ⟨c, c1, c2, rfl, rfl⟩ hk2
            have f1b := f1 (.lst ((List.range c).map fun j => D.int (bit N B j i)))
            have f2b := f2 (.lst ((List.range c).map fun j => D.int (bit N B j i)))
            have f3b : put A2 pr (.lst ((List.range c).map fun j => D.int (bit N B j i))) pr = some (.lst ((List.range c).map fun j => D.int (bit N B j i))) := put_same
            walk_at "run"
            by_cases he : bit N B c i = i
            · rw [decide_eq_true he]
              walk_at "run"
              have hlc : ((List.range c).map fun j => D.int (bit N B j i)).length = c := by simp
              rw [hlc]
              refine ⟨by omega, ?_⟩
              have hj : (m - w) % c < c := Nat.mod_lt _ (by omega)
              have hat : L2.atI ((List.range c).map fun j => D.int (bit N B j i)) (((m : Int) - (w : Int)) % ((c : Nat) : Int)) = some (.int (bit N B ((m - w) % c) i)) := by
                have e1 : ((m : Int) - (w : Int)) % ((c : Nat) : Int) = (((m - w) % c : Nat) : Int) := by
                  rw [show (m : Int) - (w : Int) = ((m - w : Nat) : Int) by omega]
                  exact (Int.natCast_emod _ _).symm
                rw [e1]
                exact L2.atI_nat (by simp [hj])
              walk_at "run"
              have bN : bit N B ((m - w) % c) i ∈ N := b.ring_sub (b.bit_in _ hr)
              rw [show lookK (List.map (fun p => ((Sum.inl p.1 : L2.Key), linD p.2)) (powB N B w)) (Sum.inl (bit N B ((m - w) % c) i)) = _ from look_row (eff_pow b w) bN]
              walk_at "run"
              refine ⟨by unfold lat; rw [List.length_append, List.length_map, PySem.sizeLine_eq]; simp; omega, ?_⟩
              rw [setK_at hik (by simp)]
              obtain ⟨q1, q2, q3⟩ := fin (put (put A2 pr (.lst ((List.range c).map fun j => D.int (bit N B j i)))) pl (.dct (lat (powB N B m) d ++ [(.inl i, linD (getB (powB N B w) (bit N B ((m - w) % c) i)))]))) _ (by rw [put_ne pbl]; exact f1b) put_same (fun x o hx => by
                have : x ≠ pl := fun e => by rw [e, hpl2] at hx; cases hx
                rw [put_ne this]
                exact f3 _ x o hx) (by
                have hmw : m = w + (m - w) := by omega
                conv => rhs; rw [hmw]
                rw [b.turns hT1 (m - w) hr, ← bit_mod he])
              exact hk _ _ ⟨q1, q2, q3, rfl, by simpa using hd⟩
            · rw [decide_eq_false he]
              have hcp : c ≠ p := fun e => he (by rw [e]; exact p3)
              walk_at "run"
              have hlc : ((List.range c).map fun j => D.int (bit N B j i)).length = c := by simp
              refine ⟨by rw [hlc, PySem.sizeLine_eq]; omega, ?_⟩
              rw [put_put]
              have f1c := f1 (.lst ((List.range c).map (fun j => D.int (bit N B j i)) ++ [.int (bit N B c i)]))
              walk_at "run"
              rw [kvI_look, (b.bak_in (b.bit_in c hr)).2.2]
              walk_at "run"
              refine hk2 (mm - 1) _ _ (by omega) ⟨c + 1, by omega, by omega, ?_, ?_⟩
              · rw [List.range_succ, List.map_append]; rfl
              · rw [bit_bak]; rfl
          · exact ⟨1, by omega, by omega, rfl, rfl⟩
        · rw [lookup_no (fun z => hr (b.bak_keys.mp z))]
          walk_at "run"
          obtain ⟨q1, q2, q3⟩ := fin A2 [] g1 g2 g3 (by rw [b.off_ring (b.onr_more hT1 (by omega)) hi hr])
          exact hk _ _ ⟨q1, q2, q3, rfl, by simpa using hd⟩
      · rintro σ A1 ⟨h1, h2, h3, rfl, hd⟩
        rw [List.append_nil] at hd
        rw [hd] at h2
        walk_at "run"
        have e3 : lat (powB N B m) N = kvB (powB N B m) := (kvB_tab (eff_pow b m)).symm
        rw [e3] at h2
        exact .dct h2 h3 hpl2 h
end FB

namespace Mv
open PySem Py Pr
theorem line_perm {N l : List Int} {P : Bl} (e : Eff N P) (nd : l.Nodup) (hl : ∀ i ∈ N, i ∈ l) : (subst P l).Perm l := by
  have h1 : (N ++ l.filter fun i => decide (i ∉ N)).Nodup := by
    rw [List.nodup_append]
    exact ⟨e.nd, nd.sublist List.filter_sublist, fun x hx y hy q => by
      have := (List.mem_filter.mp hy).2
      simp at this
      exact this (q ▸ hx)⟩
  have h2 : (N ++ l.filter fun i => decide (i ∉ N)).Perm l := perm_of_sub h1 (fun x hx => by
    rcases List.mem_append.mp hx with hx | hx
    · exact hl x hx
    · exact (List.mem_filter.mp hx).1) (len_of_sub nd fun x hx => by
      by_cases h : x ∈ N
      · exact List.mem_append_left _ h
      · exact List.mem_append_right _ (List.mem_filter.mpr ⟨hx, by simpa using h⟩))
  refine (subst_perm h2.symm).trans (.trans ?_ h2)
  rw [subst_app]
  refine .append ?_ ?_
  · rw [← e.ks, rows_subst e.nodK, e.ks]
    exact e.pm
  · have go : ∀ m : List Int, (∀ i ∈ m, i ∉ N) → subst P m = m := fun m => by
      induction m with
      | nil => intro _; rfl
      | cons x m ih =>
        intro h
        have := ih fun i hi => h i (List.mem_cons_of_mem _ hi)
        unfold subst at *
        rw [List.map_cons, List.flatten_cons, this, getB_not (by rw [e.ks]; exact h x List.mem_cons_self)]
        rfl
    rw [go _ fun i hi => by simpa using (List.mem_filter.mp hi).2]
/-- so many repetitions of the script on the line -/
def rep (cs : List Cmd) (n : Nat) (l : List Int) : List Int := subst (powB (named cs) (blocks cs) n) l
theorem VScr.ne {cs : List Cmd} (v : VScr cs) : ∀ c ∈ cs, c.2.1 ≠ c.2.2 := fun c hc => (v.it c hc).2.2
theorem VScr.eff {cs : List Cmd} (v : VScr cs) : Eff (named cs) (blocks cs) := eff_blocks v.ne
theorem VScr.len60 {cs : List Cmd} (v : VScr cs) : (named cs).length ≤ 60 := items_len named_nd (named_it v.it)
theorem VScr.in_named {cs : List Cmd} {c : Cmd} (hc : c ∈ cs) : c.2.1 ∈ named cs ∧ c.2.2 ∈ named cs := ⟨mem_named.mpr (List.mem_flatten.mpr ⟨_, List.mem_map.mpr ⟨c, hc, rfl⟩, by simp⟩), mem_named.mpr (List.mem_flatten.mpr ⟨_, List.mem_map.mpr ⟨c, hc, rfl⟩, by simp⟩)⟩
theorem rep_zero {cs : List Cmd} {l : List Int} : rep cs 0 l = l := subst_start
theorem rep_perm {cs : List Cmd} {l : List Int} (v : VScr cs) (nd : l.Nodup) (hl : ∀ i ∈ named cs, i ∈ l) (n : Nat) : (rep cs n l).Perm l := line_perm (eff_pow v.eff n) nd hl
theorem rep_succ {cs : List Cmd} {l : List Int} (v : VScr cs) (nd : l.Nodup) (hl : ∀ i ∈ named cs, i ∈ l) (n : Nat) : rep cs (n + 1) l = mvs (rep cs n l) cs := by
  have p := rep_perm v nd hl n
  rw [← subst_blocks v.ne (p.nodup_iff.mpr nd) fun i hi => p.mem_iff.mpr (hl i hi)]
  exact subst_join ((eff_pow v.eff n).ks.trans v.eff.ks.symm) l
theorem rep_line {cs : List Cmd} {l : List Int} (v : VScr cs) (vl : VLine l) (hl : ∀ i ∈ named cs, i ∈ l) (n : Nat) : VLine (rep cs n l) := by
  have p := rep_perm v vl.nd hl n
  exact ⟨fun e => vl.ne (by rw [e] at p; exact p.nil_eq.symm), p.nodup_iff.mpr vl.nd, fun i hi => vl.it i (p.mem_iff.mp hi)⟩
/-! ### what repr asks -/
/-- repr of it, wherever it stands -/
structure Rep (d : D) : Prop where
  at_ : ∀ A, snap A 60 d = some (toP d)
  ok : (toP d).showable = true ∧ (toP d).hasDict = false ∧ (toP d).depth ≤ 64 ∧ (toP d).shown.length ≤ PySem.sizeLine
theorem rep_of {n b : Nat} {d : D} (h : Good n b d) (hn : n ≤ 60) (hb : b ≤ 40000) : Rep d := by
  obtain ⟨h1, h2, h3, h4, h5⟩ := h.show
  have hs := PyData.shown_le_bulk 402 (by decide) (toP d) h4
  have : (402 + 2) * (toP d).bulk ≤ (402 + 2) * 40000 := Nat.mul_le_mul_left _ (by omega)
  exact ⟨fun A => h.snap A 60 hn, h1, h2, by omega, by rw [PySem.sizeLine_eq]; omega⟩
theorem good_lin {l : List Int} (v : ∀ i ∈ l, VItem i) (hl : l.length ≤ 60) : Good 1 60 (linD l) := by
  refine .tup (Goods.mono (Goods.map (n := 0) (b := 0) (f := D.int) fun i hi => .int ?_) (Nat.le_refl _) (by omega))
  have := v i hi
  unfold VItem at this
  have h9 : (60 : Nat) < 10 ^ 400 := by decide +kernel
  omega
theorem good_scr {cs : List Cmd} (v : VScr cs) : Good 2 4000 (scrD cs) := by
  refine .tup (Goods.mono (Goods.map (n := 1) (b := 19) (f := cmdD) fun c hc => ?_) (Nat.le_refl _) (by have := v.len; omega))
  obtain ⟨w, i, o⟩ := c
  obtain ⟨⟨a1, a2⟩, ⟨b1, b2⟩, _⟩ := v.it _ hc
  have h9 : (60 : Nat) < 10 ^ 400 := by decide +kernel
  replace a1 : 0 ≤ i := a1
  replace a2 : i < 60 := a2
  replace b1 : 0 ≤ o := b1
  replace b2 : o < 60 := b2
  show Good 1 19 (.tup [.str (wd w), .int i, .int o])
  refine .tup (.cons (c := 6) (e := 2) (.str ?_ ?_) (.cons (c := 0) (e := 1) (.int (by omega)) (.cons (c := 0) (e := 0) (.int (by omega)) .nil (by omega)) (by omega)) (by omega))
  · cases w <;> decide +kernel
  · cases w <;> decide +kernel
end Mv

namespace K15
open PySem PySem.Spec PyProof.Rows L2 Py
def top (i : Nat) : Stmt := PySem.Challenge.pw_moveafter_k15_repeated_on_lines.main.body.getD i (.Pass ⟨0, 0, 0, 0⟩)
def nm : Names := ⟨["is_int", "in_range", "is_item", "is_line", "is_command", "is_script", "require_line", "require_script", "require_times", "require_there", "named_in", "moved_in_block", "blocks_in", "block_in", "joined_in", "line_by", "powers", "_law_well", "_law_pail", "_law_mixed", "_law_commands", "_law_named", "_law_line", "_law_shifted", "_law_split", "_law_goes", "_law_again", "_law_steps", "_law_far", "_law_laid", "_law_right", "law"], ["ITEMS", "MOST_COMMANDS", "WORDS", "MOST_TIMES"], ["NoLine", "NoScript", "NoTimes", "Missing"], [("after_times", 2, "times")], [("after_times", 2, 1)]⟩
def b__law_laid : Ss := (.cons (.asg 2 "found" (.tup .nil)) (.cons (.for_ (.name 3 "item") (.seq (.var 0 "line_here")) (.cons (.asg 2 "found" (.bin .add (.var 2 "found") (.mth .get (.var 1 "split_here") (.cons (.var 3 "item") (.cons (.tup (.cons (.var 3 "item") .nil)) .nil))))) .nil) [0, 3]) (.cons (.ret (.var 2 "found")) .nil)))
def d__law_laid : Fd := ⟨2, 4, b__law_laid⟩
def b__law_right : Ss := (.cons (.par [(2, "line_here"), (3, "split_here")] (.cons (.call "_law_line" (.cons (.var 0 "well") (.cons (.call "_law_named" (.cons (.var 1 "commands") .nil)) .nil))) (.cons (.call "_law_split" (.cons (.var 1 "commands") .nil)) .nil))) (.cons (.par [(4, "kept"), (5, "due")] (.cons (.bif .repr (.cons (.lst (.cons (.var 2 "line_here") (.cons (.var 1 "commands") .nil))) .nil)) (.cons (.lst (.cons (.var 2 "line_here") .nil)) .nil))) (.cons (.for_ (.name 6 "turn") (.rng1 (.cst (.int 7))) (.cons (.exp (.mth .append (.var 5 "due") (.cons (.call "_law_shifted" (.cons (.idx (.var 5 "due") (.neg (.cst (.int 1)))) (.cons (.var 1 "commands") .nil))) .nil))) .nil) [6, 7, 8, 9, 10]) (.cons (.if_ (.cmp .ne (.bif .repr (.cons (.callk "after_times" (.cons (.var 2 "line_here") (.cons (.var 1 "commands") .nil)) [] .nil [.int 1]) .nil)) (.bif .repr (.cons (.idx (.var 5 "due") (.cst (.int 1))) .nil))) (.cons (.ret (.cst (.bl false))) .nil) .nil) (.cons (.for_ (.name 6 "turn") (.seq (.lst (.cons (.cst (.int 0)) (.cons (.cst (.int 1)) (.cons (.cst (.int 2)) (.cons (.cst (.int 3)) (.cons (.bin .add (.cst (.int 3)) (.call "_law_pail" (.cons (.var 0 "well") (.cons (.cst (.int 5)) .nil)))) .nil))))))) (.cons (.if_ (.cmp .ne (.bif .repr (.cons (.callk "after_times" (.cons (.var 2 "line_here") (.cons (.var 1 "commands") .nil)) ["times"] (.cons (.var 6 "turn") .nil) []) .nil)) (.bif .repr (.cons (.idx (.var 5 "due") (.var 6 "turn")) .nil))) (.cons (.ret (.cst (.bl false))) .nil) .nil) .nil) [6, 7, 8, 9, 10]) (.cons (.asg 7 "far" (.lst (.cons (.bin .sub (.bin .pow (.cst (.int 10)) (.cst (.int 30))) (.call "_law_pail" (.cons (.var 0 "well") (.cons (.cst (.int 2)) .nil)))) (.cons (.call "_law_pail" (.cons (.var 0 "well") (.cons (.bin .pow (.cst (.int 10)) (.cst (.int 30))) .nil))) (.cons (.call "_law_pail" (.cons (.var 0 "well") (.cons (.bin .pow (.cst (.int 10)) (.cst (.int 6))) .nil))) (.cons (.call "_law_pail" (.cons (.var 0 "well") (.cons (.cst (.int 70)) .nil))) .nil)))))) (.cons (.for_ (.name 8 "many") (.seq (.var 7 "far")) (.cons (.asg 9 "right" (.call "_law_laid" (.cons (.var 2 "line_here") (.cons (.call "_law_far" (.cons (.var 3 "split_here") (.cons (.var 8 "many") .nil))) .nil)))) (.cons (.for_ (.name 10 "again") (.rng1 (.bin .add (.cst (.int 1)) (.bif .int (.cons (.cmp .lt (.bif .len (.cons (.var 1 "commands") .nil)) (.cst (.int 10))) .nil)))) (.cons (.if_ (.cmp .ne (.bif .repr (.cons (.callk "after_times" (.cons (.var 2 "line_here") (.cons (.var 1 "commands") .nil)) ["times"] (.cons (.var 8 "many") .nil) []) .nil)) (.bif .repr (.cons (.var 9 "right") .nil))) (.cons (.ret (.cst (.bl false))) .nil) .nil) .nil) [0, 5, 6, 7, 10]) .nil)) [0, 5, 6, 7, 8, 9, 10]) (.cons (.ret (.cmp .eq (.bif .repr (.cons (.lst (.cons (.var 2 "line_here") (.cons (.var 1 "commands") .nil))) .nil)) (.var 4 "kept"))) .nil))))))))
def d__law_right : Fd := ⟨2, 11, b__law_right⟩
def b_law : Ss := (.cons (.for_ (.name 1 "k") (.rng1 (.bif .max (.cons (.cst (.int 1)) (.cons (.bif .min (.cons (.cst (.int 4)) (.cons (.bif .len (.cons (.var 0 "script") .nil)) .nil))) .nil)))) (.cons (.asg 2 "well" (.call "_law_well" (.cons (.var 0 "script") (.cons (.var 1 "k") .nil)))) (.cons (.for_ (.tup [(3, "many"), (4, "most")]) (.seq (.ite (.cmp .eq (.var 1 "k") (.cst (.int 0))) (.lst (.cons (.tup (.cons (.cst (.int 200)) (.cons (.cst (.int 60)) .nil))) (.cons (.tup (.cons (.cst (.int 60)) (.cons (.cst (.int 60)) .nil))) (.cons (.tup (.cons (.cst (.int 9)) (.cons (.cst (.int 5)) .nil))) .nil)))) (.lst (.cons (.tup (.cons (.cst (.int 60)) (.cons (.cst (.int 25)) .nil))) (.cons (.tup (.cons (.cst (.int 9)) (.cons (.cst (.int 5)) .nil))) .nil))))) (.cons (.if_ (.not (.call "_law_right" (.cons (.var 2 "well") (.cons (.call "_law_commands" (.cons (.var 2 "well") (.cons (.var 3 "many") (.cons (.var 4 "most") .nil)))) .nil)))) (.cons (.ret (.cst (.bl false))) .nil) .nil) .nil) [1, 3, 4, 5]) .nil)) [1, 2, 3, 4, 5]) (.cons (.asg 5 "commands" (.tup (.cons (.tup (.cons (.cst (.str "behind")) (.cons (.cst (.int 0)) (.cons (.cst (.int 1)) .nil)))) (.cons (.tup (.cons (.cst (.str "behind")) (.cons (.cst (.int 1)) (.cons (.cst (.int 2)) .nil)))) (.cons (.tup (.cons (.cst (.str "behind")) (.cons (.cst (.int 2)) (.cons (.cst (.int 0)) .nil)))) .nil))))) (.cons (.ret (.cmp .eq (.callk "after_times" (.cons (.tup (.cons (.cst (.int 0)) (.cons (.cst (.int 1)) (.cons (.cst (.int 2)) .nil)))) (.cons (.var 5 "commands") .nil)) ["times"] (.cons (.bin .pow (.cst (.int 10)) (.cst (.int 30))) .nil) []) (.tup (.cons (.cst (.int 1)) (.cons (.cst (.int 0)) (.cons (.cst (.int 2)) .nil)))))) .nil)))
def d_law : Fd := ⟨1, 6, b_law⟩
def own : List (Str × Fd) := [tp "_law_laid" d__law_laid, tp "_law_right" d__law_right, tp "law" d_law]
def tb : Tb := ⟨fun x => (match Pr.table.lookup x with | some d => some d | none => (match FB.table.lookup x with | some d => some d | none => own.lookup x)), fun x => Pr.cons.lookup x⟩
instance : Pr.Has tb := by
  refine ⟨fun x d e => ?_, fun x d e => e⟩
  · show (match Pr.table.lookup x with | some d => some d | none => (match FB.table.lookup x with | some d => some d | none => own.lookup x)) = some d
    rw [e]
theorem dj_Pr_FB : FB.table.all (fun p => (Pr.table.lookup p.1).isNone) = true := by decide +kernel
instance : FB.Has tb := by
  refine ⟨fun x d e => ?_⟩
  · show (match Pr.table.lookup x with | some d => some d | none => (match FB.table.lookup x with | some d => some d | none => own.lookup x)) = some d
    have h0 := Py.lookup_apart dj_Pr_FB e
    rw [h0]
    dsimp only
    rw [e]
theorem sc_is_int : FnScope ["value"] ["value"] (defScope (top 10)) := ⟨rfl, rfl, rfl, by decide +kernel, rfl, by decide +kernel, by decide +kernel⟩
theorem ch_is_int : chSs nm ["value"] (defScope (top 10)) Pr.b_is_int (defBody (top 10)) = true := by decide +kernel
theorem t_is_int : tb.T "is_int" = some Pr.d_is_int := Pr.t_is_int
theorem sc_in_range : FnScope ["value", "low", "high"] ["value", "low", "high"] (defScope (top 11)) := ⟨rfl, rfl, rfl, by decide +kernel, rfl, by decide +kernel, by decide +kernel⟩
theorem ch_in_range : chSs nm ["value", "low", "high"] (defScope (top 11)) Pr.b_in_range (defBody (top 11)) = true := by decide +kernel
theorem t_in_range : tb.T "in_range" = some Pr.d_in_range := Pr.t_in_range
theorem sc_is_item : FnScope ["value"] ["value"] (defScope (top 12)) := ⟨rfl, rfl, rfl, by decide +kernel, rfl, by decide +kernel, by decide +kernel⟩
theorem ch_is_item : chSs nm ["value"] (defScope (top 12)) Pr.b_is_item (defBody (top 12)) = true := by decide +kernel
theorem t_is_item : tb.T "is_item" = some Pr.d_is_item := Pr.t_is_item
theorem sc_is_line : FnScope ["value", "item"] ["value"] (defScope (top 13)) := ⟨rfl, rfl, rfl, by decide +kernel, rfl, by decide +kernel, by decide +kernel⟩
theorem ch_is_line : chSs nm ["value", "item"] (defScope (top 13)) Pr.b_is_line (defBody (top 13)) = true := by decide +kernel
theorem t_is_line : tb.T "is_line" = some Pr.d_is_line := Pr.t_is_line
theorem sc_is_command : FnScope ["value", "word", "item", "other"] ["value"] (defScope (top 14)) := ⟨rfl, rfl, rfl, by decide +kernel, rfl, by decide +kernel, by decide +kernel⟩
theorem ch_is_command : chSs nm ["value", "word", "item", "other"] (defScope (top 14)) Pr.b_is_command (defBody (top 14)) = true := by decide +kernel
theorem t_is_command : tb.T "is_command" = some Pr.d_is_command := Pr.t_is_command
theorem sc_is_script : FnScope ["value", "command"] ["value"] (defScope (top 15)) := ⟨rfl, rfl, rfl, by decide +kernel, rfl, by decide +kernel, by decide +kernel⟩
theorem ch_is_script : chSs nm ["value", "command"] (defScope (top 15)) Pr.b_is_script (defBody (top 15)) = true := by decide +kernel
theorem t_is_script : tb.T "is_script" = some Pr.d_is_script := Pr.t_is_script
theorem sc_require_line : FnScope ["value"] ["value"] (defScope (top 16)) := ⟨rfl, rfl, rfl, by decide +kernel, rfl, by decide +kernel, by decide +kernel⟩
theorem ch_require_line : chSs nm ["value"] (defScope (top 16)) Pr.b_require_line (defBody (top 16)) = true := by decide +kernel
theorem t_require_line : tb.T "require_line" = some Pr.d_require_line := Pr.t_require_line
theorem sc_require_script : FnScope ["value"] ["value"] (defScope (top 17)) := ⟨rfl, rfl, rfl, by decide +kernel, rfl, by decide +kernel, by decide +kernel⟩
theorem ch_require_script : chSs nm ["value"] (defScope (top 17)) Pr.b_require_script (defBody (top 17)) = true := by decide +kernel
theorem t_require_script : tb.T "require_script" = some Pr.d_require_script := Pr.t_require_script
theorem sc_require_times : FnScope ["value", "low", "high"] ["value", "low", "high"] (defScope (top 18)) := ⟨rfl, rfl, rfl, by decide +kernel, rfl, by decide +kernel, by decide +kernel⟩
theorem ch_require_times : chSs nm ["value", "low", "high"] (defScope (top 18)) Pr.b_require_times (defBody (top 18)) = true := by decide +kernel
theorem t_require_times : tb.T "require_times" = some Pr.d_require_times := Pr.t_require_times
theorem sc_require_there : FnScope ["line", "items", "item"] ["line", "items"] (defScope (top 19)) := ⟨rfl, rfl, rfl, by decide +kernel, rfl, by decide +kernel, by decide +kernel⟩
theorem ch_require_there : chSs nm ["line", "items", "item"] (defScope (top 19)) Pr.b_require_there (defBody (top 19)) = true := by decide +kernel
theorem t_require_there : tb.T "require_there" = some Pr.d_require_there := Pr.t_require_there
theorem sc_named_in : FnScope ["script", "found", "word", "item", "other"] ["script"] (defScope (top 20)) := ⟨rfl, rfl, rfl, by decide +kernel, rfl, by decide +kernel, by decide +kernel⟩
theorem ch_named_in : chSs nm ["script", "found", "word", "item", "other"] (defScope (top 20)) Pr.b_named_in (defBody (top 20)) = true := by decide +kernel
theorem t_named_in : tb.T "named_in" = some Pr.d_named_in := Pr.t_named_in
theorem sc_moved_in_block : FnScope ["block", "word", "item", "other", "place"] ["block", "word", "item", "other"] (defScope (top 22)) := ⟨rfl, rfl, rfl, by decide +kernel, rfl, by decide +kernel, by decide +kernel⟩
theorem ch_moved_in_block : chSs nm ["block", "word", "item", "other", "place"] (defScope (top 22)) Pr.b_moved_in_block (defBody (top 22)) = true := by decide +kernel
theorem t_moved_in_block : tb.T "moved_in_block" = some Pr.d_moved_in_block := Pr.t_moved_in_block
theorem sc_blocks_in : FnScope ["script", "found", "item", "word", "other", "key", "block", "place"] ["script"] (defScope (top 23)) := ⟨rfl, rfl, rfl, by decide +kernel, rfl, by decide +kernel, by decide +kernel⟩
theorem ch_blocks_in : chSs nm ["script", "found", "item", "word", "other", "key", "block", "place"] (defScope (top 23)) Pr.b_blocks_in (defBody (top 23)) = true := by decide +kernel
theorem t_blocks_in : tb.T "blocks_in" = some Pr.d_blocks_in := Pr.t_blocks_in
theorem sc_block_in : FnScope ["blocks", "item"] ["blocks", "item"] (defScope (top 24)) := ⟨rfl, rfl, rfl, by decide +kernel, rfl, by decide +kernel, by decide +kernel⟩
theorem ch_block_in : chSs nm ["blocks", "item"] (defScope (top 24)) Pr.b_block_in (defBody (top 24)) = true := by decide +kernel
theorem t_block_in : tb.T "block_in" = some Pr.d_block_in := Pr.t_block_in
theorem sc_joined_in : FnScope ["blocks", "other", "found", "key", "row", "item"] ["blocks", "other"] (defScope (top 25)) := ⟨rfl, rfl, rfl, by decide +kernel, rfl, by decide +kernel, by decide +kernel⟩
theorem ch_joined_in : chSs nm ["blocks", "other", "found", "key", "row", "item"] (defScope (top 25)) Pr.b_joined_in (defBody (top 25)) = true := by decide +kernel
theorem t_joined_in : tb.T "joined_in" = some Pr.d_joined_in := Pr.t_joined_in
theorem sc_line_by : FnScope ["line", "blocks", "found", "item"] ["line", "blocks"] (defScope (top 26)) := ⟨rfl, rfl, rfl, by decide +kernel, rfl, by decide +kernel, by decide +kernel⟩
theorem ch_line_by : chSs nm ["line", "blocks", "found", "item"] (defScope (top 26)) Pr.b_line_by (defBody (top 26)) = true := by decide +kernel
theorem t_line_by : tb.T "line_by" = some Pr.d_line_by := Pr.t_line_by
theorem sc_powers : FnScope ["blocks", "times", "found", "item"] ["blocks", "times"] (defScope (top 29)) := ⟨rfl, rfl, rfl, by decide +kernel, rfl, by decide +kernel, by decide +kernel⟩
theorem ch_powers : chSs nm ["blocks", "times", "found", "item"] (defScope (top 29)) Pr.b_powers (defBody (top 29)) = true := by decide +kernel
theorem t_powers : tb.T "powers" = some Pr.d_powers := Pr.t_powers
theorem sc_after_times : FnScope ["line", "script", "times"] ["line", "script", "times"] (defScope (top 30)) := ⟨rfl, rfl, rfl, by decide +kernel, rfl, by decide +kernel, by decide +kernel⟩
theorem ch_after_times : chSs nm ["line", "script", "times"] (defScope (top 30)) Pr.b_after_times (defBody (top 30)) = true := by decide +kernel
theorem t_after_times : tb.T "after_times" = some Pr.d_after_times := Pr.t_after_times
theorem sc__law_well : FnScope ["script", "k", "cell"] ["script", "k"] (defScope (top 32)) := ⟨rfl, rfl, rfl, by decide +kernel, rfl, by decide +kernel, by decide +kernel⟩
theorem ch__law_well : chSs nm ["script", "k", "cell"] (defScope (top 32)) FB.b__law_well (defBody (top 32)) = true := by decide +kernel
theorem t__law_well : tb.T "_law_well" = some FB.d__law_well := FB.t__law_well
theorem sc__law_pail : FnScope ["well", "bound", "found", "mixed"] ["well", "bound"] (defScope (top 33)) := ⟨rfl, rfl, rfl, by decide +kernel, rfl, by decide +kernel, by decide +kernel⟩
theorem ch__law_pail : chSs nm ["well", "bound", "found", "mixed"] (defScope (top 33)) FB.b__law_pail (defBody (top 33)) = true := by decide +kernel
theorem t__law_pail : tb.T "_law_pail" = some FB.d__law_pail := FB.t__law_pail
theorem sc__law_mixed : FnScope ["well", "things", "left", "k"] ["well", "things"] (defScope (top 34)) := ⟨rfl, rfl, rfl, by decide +kernel, rfl, by decide +kernel, by decide +kernel⟩
theorem ch__law_mixed : chSs nm ["well", "things", "left", "k"] (defScope (top 34)) FB.b__law_mixed (defBody (top 34)) = true := by decide +kernel
theorem t__law_mixed : tb.T "_law_mixed" = some FB.d__law_mixed := FB.t__law_mixed
theorem sc__law_commands : FnScope ["well", "many", "most", "items", "count", "way", "found", "turn", "at", "step", "to", "word"] ["well", "many", "most"] (defScope (top 35)) := ⟨rfl, rfl, rfl, by decide +kernel, rfl, by decide +kernel, by decide +kernel⟩
theorem ch__law_commands : chSs nm ["well", "many", "most", "items", "count", "way", "found", "turn", "at", "step", "to", "word"] (defScope (top 35)) FB.b__law_commands (defBody (top 35)) = true := by decide +kernel
theorem t__law_commands : tb.T "_law_commands" = some FB.d__law_commands := FB.t__law_commands
theorem sc__law_named : FnScope ["commands", "found", "word", "item", "other"] ["commands"] (defScope (top 36)) := ⟨rfl, rfl, rfl, by decide +kernel, rfl, by decide +kernel, by decide +kernel⟩
theorem ch__law_named : chSs nm ["commands", "found", "word", "item", "other"] (defScope (top 36)) FB.b__law_named (defBody (top 36)) = true := by decide +kernel
theorem t__law_named : tb.T "_law_named" = some FB.d__law_named := FB.t__law_named
theorem sc__law_line : FnScope ["well", "own", "others", "item", "few"] ["well", "own"] (defScope (top 37)) := ⟨rfl, rfl, rfl, by decide +kernel, rfl, by decide +kernel, by decide +kernel⟩
theorem ch__law_line : chSs nm ["well", "own", "others", "item", "few"] (defScope (top 37)) FB.b__law_line (defBody (top 37)) = true := by decide +kernel
theorem t__law_line : tb.T "_law_line" = some FB.d__law_line := FB.t__law_line
theorem sc__law_shifted : FnScope ["line_here", "commands", "found", "word", "item", "other"] ["line_here", "commands"] (defScope (top 38)) := ⟨rfl, rfl, rfl, by decide +kernel, rfl, by decide +kernel, by decide +kernel⟩
theorem ch__law_shifted : chSs nm ["line_here", "commands", "found", "word", "item", "other"] (defScope (top 38)) FB.b__law_shifted (defBody (top 38)) = true := by decide +kernel
theorem t__law_shifted : tb.T "_law_shifted" = some FB.d__law_shifted := FB.t__law_shifted
theorem sc__law_split : FnScope ["commands", "found", "item", "word", "other", "home", "start", "row", "goal"] ["commands"] (defScope (top 39)) := ⟨rfl, rfl, rfl, by decide +kernel, rfl, by decide +kernel, by decide +kernel⟩
theorem ch__law_split : chSs nm ["commands", "found", "item", "word", "other", "home", "start", "row", "goal"] (defScope (top 39)) FB.b__law_split (defBody (top 39)) = true := by decide +kernel
theorem t__law_split : tb.T "_law_split" = some FB.d__law_split := FB.t__law_split
theorem sc__law_goes : FnScope ["split_here", "found", "start", "item"] ["split_here"] (defScope (top 40)) := ⟨rfl, rfl, rfl, by decide +kernel, rfl, by decide +kernel, by decide +kernel⟩
theorem ch__law_goes : chSs nm ["split_here", "found", "start", "item"] (defScope (top 40)) FB.b__law_goes (defBody (top 40)) = true := by decide +kernel
theorem t__law_goes : tb.T "_law_goes" = some FB.d__law_goes := FB.t__law_goes
theorem sc__law_again : FnScope ["one", "two", "found", "start", "row", "item"] ["one", "two"] (defScope (top 41)) := ⟨rfl, rfl, rfl, by decide +kernel, rfl, by decide +kernel, by decide +kernel⟩
theorem ch__law_again : chSs nm ["one", "two", "found", "start", "row", "item"] (defScope (top 41)) FB.b__law_again (defBody (top 41)) = true := by decide +kernel
theorem t__law_again : tb.T "_law_again" = some FB.d__law_again := FB.t__law_again
theorem sc__law_steps : FnScope ["split_here", "goes", "ringed", "longest", "item", "here", "turn", "many"] ["split_here"] (defScope (top 42)) := ⟨rfl, rfl, rfl, by decide +kernel, rfl, by decide +kernel, by decide +kernel⟩
theorem ch__law_steps : chSs nm ["split_here", "goes", "ringed", "longest", "item", "here", "turn", "many"] (defScope (top 42)) FB.b__law_steps (defBody (top 42)) = true := by decide +kernel
theorem t__law_steps : tb.T "_law_steps" = some FB.d__law_steps := FB.t__law_steps
theorem sc__law_far : FnScope ["split_here", "many", "goes", "longest", "found", "item", "turn", "back", "later", "ring", "here"] ["split_here", "many"] (defScope (top 43)) := ⟨rfl, rfl, rfl, by decide +kernel, rfl, by decide +kernel, by decide +kernel⟩
theorem ch__law_far : chSs nm ["split_here", "many", "goes", "longest", "found", "item", "turn", "back", "later", "ring", "here"] (defScope (top 43)) FB.b__law_far (defBody (top 43)) = true := by decide +kernel
theorem t__law_far : tb.T "_law_far" = some FB.d__law_far := FB.t__law_far
theorem sc__law_laid : FnScope ["line_here", "split_here", "found", "item"] ["line_here", "split_here"] (defScope (top 44)) := ⟨rfl, rfl, rfl, by decide +kernel, rfl, by decide +kernel, by decide +kernel⟩
theorem ch__law_laid : chSs nm ["line_here", "split_here", "found", "item"] (defScope (top 44)) b__law_laid (defBody (top 44)) = true := by decide +kernel
theorem t__law_laid : tb.T "_law_laid" = some d__law_laid := by rfl
theorem sc__law_right : FnScope ["well", "commands", "line_here", "split_here", "kept", "due", "turn", "far", "many", "right", "again"] ["well", "commands"] (defScope (top 45)) := ⟨rfl, rfl, rfl, by decide +kernel, rfl, by decide +kernel, by decide +kernel⟩
theorem ch__law_right : chSs nm ["well", "commands", "line_here", "split_here", "kept", "due", "turn", "far", "many", "right", "again"] (defScope (top 45)) b__law_right (defBody (top 45)) = true := by decide +kernel
theorem t__law_right : tb.T "_law_right" = some d__law_right := by rfl
theorem sc_law : FnScope ["script", "k", "well", "many", "most", "commands"] ["script"] (defScope (top 46)) := ⟨rfl, rfl, rfl, by decide +kernel, rfl, by decide +kernel, by decide +kernel⟩
theorem ch_law : chSs nm ["script", "k", "well", "many", "most", "commands"] (defScope (top 46)) b_law (defBody (top 46)) = true := by decide +kernel
theorem t_law : tb.T "law" = some d_law := by rfl
end K15

namespace K15
open PySem Py Mv Pr FB
variable {k : Nat} {A B : AH} {X : Dx} {Q : Dk}
theorem sp_laid {B : Bl} {l : List Int} (hl : l.length ≤ 1000) (hB : ∀ i, (getB B i).length ≤ 1000) (h : Q (linD (subst B l)) A) : cal tb (k + 1) "_law_laid" [linD l, blkD B] A X Q := by
  refine calN_eq t__law_laid rfl ?_
  walk_at "run"
  refine for_st (β := List Int) (b := []) (e := D.int) (fun acc r σ A' => A' = A ∧ σ = [none, some (blkD B), some (linD acc), none] ∧ acc.length + 1000 * r.length ≤ 1000000) (fun acc j => acc ++ getB B j) l ⟨rfl, rfl, by rw [List.length_nil]; omega⟩ (fun _ _ _ _ _ => holds_nil) ?_ ?_
  · rintro acc j r σ A' nx hj ⟨rfl, rfl, hz⟩ hk
    have h1 := hB j
    have h2 : acc.length + 1000 * (r.length + 1) ≤ 1000000 := by simpa using hz
    walk_at "run"
    rw [show (lookK (kvB B) (.inl j)).getD (.tup [.int j]) = linD (getB B j) from getD_kvB B j]
    walk_at "run"
    refine ⟨by simp; rw [PySem.sizeLine_eq]; omega, ?_⟩
    have e2 : acc.map D.int ++ (getB B j).map D.int = (acc ++ getB B j).map D.int := by simp
    rw [e2]
    exact hk _ _ ⟨rfl, rfl, by simp; omega⟩
  · rintro σ A' ⟨rfl, rfl, _⟩
    rw [foldl_app, List.nil_append]
    walk_at "run"
    exact .id h
theorem atI_last {xs : List D} {x : D} : L2.atI (xs ++ [x]) (-1) = some x := by
  unfold L2.atI L2.ixN
  rw [if_neg (by decide)]
  have e1 : (1 : Int) ≤ (xs.length : Int) + 1 := by omega
  have e2 : (-1 + ((xs.length : Int) + 1)).toNat = xs.length := by omega
  simp [e1, e2]
theorem sp_right {a : PySem.Addr} {m : Nat} {cs : List Cmd} (w : Wel B a A m) (hm : m < 2 ^ 57) (v : VScr cs) (h : ∀ A', Wel B a A' (m + 10000) → Q (.bl true) A') : cal tb (k + 8) "_law_right" [.ref a, scrD cs] A X Q := by
  have lN := v.len60
  have ef := v.eff
  refine calN_eq t__law_right rfl ?_
  walk_at "run"
  refine FB.sp_named v ?_
  walk_at "run"
  refine FB.sp_line w (by omega) named_nd (named_it v.it) (fun e => ?_) ?_
  · have h1 := v.pos
    cases cs with
    | nil => simp at h1
    | cons c cs => exact absurd (VScr.in_named (cs := c :: cs) List.mem_cons_self).1 (by rw [e]; simp)
  intro l A1 vl hl w1
  walk_at "run"
  refine FB.sp_split v ?_
  walk_at "run"
  have gd : Good 3 4200 (.fl [linD l, scrD cs]) := .fl (.cons (c := 60) (e := 4001) (good_lin vl.it vl.len |>.mono (by omega) (Nat.le_refl _)) (.cons (c := 4000) (e := 0) (good_scr v) .nil (by omega)) (by omega))
  refine .fz ?_
  walk_at "run"
  have gr := rep_of gd (by omega) (by omega)
  rw [gr.at_]
  refine ⟨gr.ok.1, gr.ok.2.1, gr.ok.2.2.1, gr.ok.2.2.2, ?_⟩
  walk_at "run"
  refine .new fun p hp => ?_
  have pa := w1.ne hp
  have hBp := w1.nil hp
  have w2 := w1.put (o := .lst [linD l]) pa
  walk_at "run"
  refine for_rng (fun j σ A' => A' = put A1 p (.lst ((List.range (j + 1)).map fun i => linD (rep cs i l))) ∧ σ = [some (.ref a), some (scrD cs), some (linD l), some (blkD (blocks cs)), some (.str (toP (.fl [linD l, scrD cs])).shown), some (.ref p), none, none, none, none, none]) ⟨by show _ = put A1 p (.lst [linD (rep cs 0 l)]); rw [rep_zero], rfl⟩ ?_ ?_
  · rintro j σ A' nx hj ⟨rfl, rfl⟩ hk
    have hj7 : j < 7 := hj
    have hlast : L2.atI ((List.range (j + 1)).map fun i => linD (rep cs i l)) (-1) = some (linD (rep cs j l)) := by
      rw [List.range_succ, List.map_append]
      exact atI_last
    walk_at "run"
    have pj := rep_perm v vl.nd hl j
    refine FB.sp_shifted (by rw [pj.length_eq]; have := vl.len; omega) (fun c hc => ⟨pj.mem_iff.mpr (hl _ (VScr.in_named hc).1), pj.mem_iff.mpr (hl _ (VScr.in_named hc).2), v.ne c hc⟩) ?_
    rw [← rep_succ v vl.nd hl j]
    walk_at "run"
    refine ⟨by simp; rw [PySem.sizeLine_eq]; omega, ?_⟩
    refine hk _ _ ⟨?_, rfl⟩
    rw [put_put, List.range_succ (n := j + 1), List.map_append]
    rfl
  · rintro σ A' ⟨rfl, rfl⟩
    generalize hdu : (List.range (Int.toNat 7 + 1)).map (fun i => linD (rep cs i l)) = due
    have due_at : ∀ j : Nat, j < 8 → L2.atI due (j : Int) = some (linD (rep cs j l)) := fun j hj => by
      rw [← hdu]
      exact L2.atI_nat (by rw [List.getElem?_map, List.getElem?_range (by exact hj)]; rfl)
    have rrep : ∀ j, Rep (linD (rep cs j l)) := fun j => rep_of (good_lin (rep_line v vl hl j).it (rep_line v vl hl j).len) (by omega) (by omega)
    have w3 := w1.put (o := .lst due) pa
    have due1 := due_at 1 (by omega)
    have due1 : L2.atI due 1 = some (linD (rep cs 1 l)) := due1
    walk_at "run"
    refine sp_after_times (n := 1) vl v hl (by decide) ?_
    rw [show subst (powB (named cs) (blocks cs) 1) l = rep cs 1 l from rfl]
    walk_at "run"
    rw [(rrep 1).at_]
    refine ⟨(rrep 1).ok.1, (rrep 1).ok.2.1, (rrep 1).ok.2.2.1, (rrep 1).ok.2.2.2, ?_⟩
    walk_at "run"
    rw [(rrep 1).at_]
    refine ⟨(rrep 1).ok.1, (rrep 1).ok.2.1, (rrep 1).ok.2.2.1, (rrep 1).ok.2.2.2, ?_⟩
    walk_at "run"
    refine FB.sp_pail w3 (by omega) (by omega) (by omega) ?_
    intro r0 A2 r0a r0b w4
    have hdue : A2 p = some (.lst due) := by rw [w4.at pa, put_same]
    walk_at "runz"
    refine for_st (β := Unit) (b := ()) (e := D.int) (fun _ r σ A' => A' = A2 ∧ σ = [some (.ref a), some (scrD cs), some (linD l), some (blkD (blocks cs)), some (.str (toP (.fl [linD l, scrD cs])).shown), some (.ref p), none, none, none, none, none]) (fun _ _ => ()) [0, 1, 2, 3, 3 + r0] ⟨rfl, rfl⟩ (fun _ _ _ _ _ => holds_nil) ?_ ?_
    · rintro _ i r σ A' nx hi ⟨rfl, rfl⟩ hk
      obtain ⟨n, rfl, hn⟩ : ∃ n : Nat, i = n ∧ n < 8 := by
        simp only [List.mem_cons, List.not_mem_nil, or_false] at hi
        exact ⟨i.toNat, by omega, by omega⟩
      have dn := due_at n hn
      walk_at "run"
      refine sp_after_times (n := n) vl v hl (Nat.le_trans (Nat.le_of_lt hn) (by decide)) ?_
      rw [show subst (powB (named cs) (blocks cs) n) l = rep cs n l from rfl]
      walk_at "run"
      rw [(rrep n).at_]
      refine ⟨(rrep n).ok.1, (rrep n).ok.2.1, (rrep n).ok.2.2.1, (rrep n).ok.2.2.2, ?_⟩
      walk_at "run"
      rw [(rrep n).at_]
      refine ⟨(rrep n).ok.1, (rrep n).ok.2.1, (rrep n).ok.2.2.1, (rrep n).ok.2.2.2, ?_⟩
      walk_at "run"
      exact hk _ _ ⟨rfl, rfl⟩
    · rintro σ A' ⟨rfl, rfl⟩
      walk_at "runz"
      refine FB.sp_pail w4 (by omega) (by omega) (by omega) ?_
      intro r1 A3 r1a r1b w5
      walk_at "runz"
      refine FB.sp_pail w5 (by omega) (by decide +kernel) (by decide +kernel) ?_
      intro r2 A4 r2a r2b w6
      walk_at "runz"
      refine FB.sp_pail w6 (by omega) (by decide +kernel) (by decide +kernel) ?_
      intro r3 A5 r3a r3b w7
      walk_at "runz"
      refine FB.sp_pail w7 (by omega) (by omega) (by omega) ?_
      intro r4 A6 r4a r4b w8
      walk_at "runz"
      refine for_st (β := Unit) (b := ()) (e := D.int) (fun _ r σ A' => A' = A6 ∧ σ = [none, some (scrD cs), some (linD l), some (blkD (blocks cs)), some (.str (toP (.fl [linD l, scrD cs])).shown), none, none, none, none, none, none]) (fun _ _ => ()) [10 ^ Int.toNat 30 - r1, r2, r3, r4] ⟨rfl, rfl⟩ (fun _ _ _ _ _ => holds_nil) ?_ ?_
      · rintro _ i r σ A' nx hi ⟨rfl, rfl⟩ hk
        obtain ⟨n, rfl, hn⟩ : ∃ n : Nat, i = n ∧ n ≤ 10 ^ 30 := by
          have h30 : (10 : Int) ^ Int.toNat 30 = 1000000000000000000000000000000 := by decide +kernel
          have h06 : (10 : Int) ^ Int.toNat 6 = 1000000 := by decide +kernel
          rw [h30] at hi r2b
          rw [h06] at r3b
          simp only [List.mem_cons, List.not_mem_nil, or_false] at hi
          exact ⟨i.toNat, by omega, by omega⟩
        have en := eff_pow ef n
        walk_at "run"
        refine FB.sp_far ef lN (Nat.lt_of_le_of_lt hn (by decide)) ?_
        walk_at "run"
        refine sp_laid (by have := vl.len; omega) (fun i => by have := Eff.get_len en lN i; omega) ?_
        rw [show subst (powB (named cs) (blocks cs) n) l = rep cs n l from rfl]
        walk_at "run"
        refine for_rng (fun j σ A2 => A2 = A' ∧ σ = [none, some (scrD cs), some (linD l), some (blkD (blocks cs)), some (.str (toP (.fl [linD l, scrD cs])).shown), none, none, none, some (.int n), some (linD (rep cs n l)), none]) ⟨rfl, rfl⟩ ?_ ?_
        · rintro j σ A2 nx hj ⟨rfl, rfl⟩ hk
          walk_at "run"
          refine sp_after_times (n := n) vl v hl hn ?_
          rw [show subst (powB (named cs) (blocks cs) n) l = rep cs n l from rfl]
          walk_at "run"
          rw [(rrep n).at_]
          refine ⟨(rrep n).ok.1, (rrep n).ok.2.1, (rrep n).ok.2.2.1, (rrep n).ok.2.2.2, ?_⟩
          walk_at "run"
          rw [(rrep n).at_]
          refine ⟨(rrep n).ok.1, (rrep n).ok.2.1, (rrep n).ok.2.2.1, (rrep n).ok.2.2.2, ?_⟩
          walk_at "run"
          exact hk _ _ ⟨rfl, rfl⟩
        · rintro σ A2 ⟨rfl, rfl⟩
          walk_at "run"
          exact hk _ _ ⟨rfl, rfl⟩
      · rintro σ A' ⟨rfl, rfl⟩
        walk_at "runz"
        rw [gr.at_]
        refine ⟨gr.ok.1, gr.ok.2.1, gr.ok.2.2.1, gr.ok.2.2.2, ?_⟩
        walk_at "run"
        obtain ⟨A9, w9, s9, _⟩ := w8.sub pa hBp
        exact .of s9 (h A9 (w9.more (by omega)))
def cs0 : List Cmd := [(true, 0, 1), (true, 1, 2), (true, 2, 0)]
def B0 : Bl := [(0, []), (1, [0, 2]), (2, [1])]
theorem cs0_ok : VScr cs0 := ⟨by decide, by decide, fun c hc => by
  simp only [cs0, List.mem_cons, List.not_mem_nil, or_false] at hc
  rcases hc with rfl | rfl | rfl <;> exact ⟨⟨by decide, by decide⟩, ⟨by decide, by decide⟩, by decide⟩⟩
theorem named0 : named cs0 = [0, 1, 2] := by
  unfold named sortI
  rw [show ddI (allN cs0) = [0, 1, 2] by decide +kernel]
  exact List.mergeSort_of_pairwise (by decide)
theorem blocks0 : blocks cs0 = B0 := by
  unfold blocks
  rw [named0]
  decide +kernel
theorem pow0 : ∀ q, powB [0, 1, 2] B0 (2 * q + 2) = powB [0, 1, 2] B0 2
  | 0 => rfl
  | q + 1 => by
    show joinB (joinB (powB [0, 1, 2] B0 (2 * q + 2)) B0) B0 = _
    rw [pow0 q]
    decide +kernel
theorem rep0 : rep cs0 (10 ^ 30) [0, 1, 2] = [1, 0, 2] := by
  unfold rep
  rw [named0, blocks0, show (10 ^ 30 : Nat) = 2 * (5 * 10 ^ 29 - 1) + 2 by decide +kernel, pow0]
  decide +kernel
def lev : Nat := 12
theorem spec : LawIs (cal tb lev) "law" := by
  intro ns hs
  have hlen := hs.1
  refine calN_eq t_law rfl ?_
  walk_at "run"
  refine for_rng (fun j σ A' => σ = [some (.fl (ns.map .int)), none, none, none, none, none]) rfl ?_ ?_
  · rintro j σ A1 nx hj rfl hk
    have hl2 : (ns.map D.int).length = ns.length := List.length_map _
    have hj2 : j < 2 ^ 60 := by
      rw [hl2] at hj
      revert hj
      (repeat' split) <;> omega
    walk_at "run"
    rw [Int.zero_add]
    refine FB.sp_well hj2 ?_
    intro p A2 hp w
    walk_at "run"
    by_cases h0 : (j : Int) = 0
    · walk_at "runz"
      refine for_st (β := Unit) (b := ()) (e := fun q : Int × Int => D.tup [.int q.1, .int q.2]) (fun _ r σ A' => (∃ m, m + 20000 * r.length ≤ 100000 ∧ Wel A1 p A' m) ∧ σ = [some (.fl (ns.map .int)), none, some (.ref p), none, none, none]) (fun _ _ => ()) [(200, 60), (60, 60), (9, 5)] ⟨⟨0, by simp, w⟩, rfl⟩ (fun _ _ _ _ _ => holds_nil) ?_ ?_
      · rintro _ ⟨many, most⟩ r σ A' nx2 hq ⟨⟨m, hm, w⟩, rfl⟩ hk2
        rw [List.length_cons] at hm
        have hq2 : (1 ≤ many ∧ many ≤ 200) ∧ 2 ≤ most ∧ most ≤ 60 := by
          simp only [List.mem_cons, List.not_mem_nil, or_false, Prod.mk.injEq] at hq
          omega
        walk_at "run"
        refine FB.sp_commands w (by omega) hq2.1.1 hq2.1.2 hq2.2.1 hq2.2.2 ?_
        intro cs A3 v w3
        walk_at "run"
        refine sp_right w3 (by omega) v ?_
        intro A4 w4
        walk_at "run"
        exact hk2 _ _ ⟨⟨_, by omega, w4⟩, rfl⟩
      · rintro σ A' ⟨_, rfl⟩
        walk_at "run"
        exact hk _ _ rfl
    · walk_at "runz"
      refine for_st (β := Unit) (b := ()) (e := fun q : Int × Int => D.tup [.int q.1, .int q.2]) (fun _ r σ A' => (∃ m, m + 20000 * r.length ≤ 100000 ∧ Wel A1 p A' m) ∧ σ = [some (.fl (ns.map .int)), none, some (.ref p), none, none, none]) (fun _ _ => ()) [(60, 25), (9, 5)] ⟨⟨0, by simp, w⟩, rfl⟩ (fun _ _ _ _ _ => holds_nil) ?_ ?_
      · rintro _ ⟨many, most⟩ r σ A' nx2 hq ⟨⟨m, hm, w⟩, rfl⟩ hk2
        rw [List.length_cons] at hm
        have hq2 : (1 ≤ many ∧ many ≤ 200) ∧ 2 ≤ most ∧ most ≤ 60 := by
          simp only [List.mem_cons, List.not_mem_nil, or_false, Prod.mk.injEq] at hq
          omega
        walk_at "run"
        refine FB.sp_commands w (by omega) hq2.1.1 hq2.1.2 hq2.2.1 hq2.2.2 ?_
        intro cs A3 v w3
        walk_at "run"
        refine sp_right w3 (by omega) v ?_
        intro A4 w4
        walk_at "run"
        exact hk2 _ _ ⟨⟨_, by omega, w4⟩, rfl⟩
      · rintro σ A' ⟨_, rfl⟩
        walk_at "run"
        exact hk _ _ rfl
  · rintro σ A' rfl
    walk_at "run"
    rw [show (10 : Int) ^ Int.toNat 30 = ((10 ^ 30 : Nat) : Int) from by decide +kernel]
    refine sp_after_times (l := [0, 1, 2]) (cs := cs0) (n := 10 ^ 30) ⟨by decide, by decide, fun i hi => ?_⟩ cs0_ok (by rw [named0]; exact fun i h => h) (Nat.le_refl _) ?_
    · simp only [List.mem_cons, List.not_mem_nil, or_false] at hi
      rcases hi with rfl | rfl | rfl <;> exact ⟨by decide, by decide⟩
    rw [show subst (powB (named cs0) (blocks cs0) (10 ^ 30)) [0, 1, 2] = [1, 0, 2] from rep0]
    walk_at "run"
    exact .id (congrArg D.bl (by decide +kernel))
end K15

open PySem PySem.W PyProof.Rows in
set_option maxRecDepth 100000 in
set_option maxHeartbeats 0 in
theorem PySem.Challenge.cw_moveafter_k15_repeated_on_lines_holds : PySem.Challenge.rw_moveafter_k15_repeated_on_lines.Holds := by
  w_on; o_law; k_head; (case hw => w_witness2)
  k_fill
  refine Py.walk_py (l := PySem.Challenge.rw_moveafter_k15_repeated_on_lines) (n := K15.nm) (con := K15.tb.C) (sub := Py.noSub) (T := K15.tb.T) (law := "law") K15.lev (by decide) rfl rfl (fun w h Y => PySem.W.kIn_of Y) ?F K15.spec
  case F =>
    intro w mg fa h KX G hmg
    have s_is_int := @Py.stands_mk _ h mg K15.nm Pr.d_is_int "is_int" _ (K15.top 10) ["value"] ["value"] _ _ _ _ _ _ _ _ _ KX G K15.sc_is_int (fun _ _ _ _ _ _ us hl => match us, hl with | [_], _ => rfl) rfl rfl K15.ch_is_int (by k_is) (by k_is) (by k_is) (by k_is)
    have s_in_range := @Py.stands_mk _ h mg K15.nm Pr.d_in_range "in_range" _ (K15.top 11) ["value", "low", "high"] ["value", "low", "high"] _ _ _ _ _ _ _ _ _ KX G K15.sc_in_range (fun _ _ _ _ _ _ us hl => match us, hl with | [_, _, _], _ => rfl) rfl rfl K15.ch_in_range (by k_is) (by k_is) (by k_is) (by k_is)
    have s_is_item := @Py.stands_mk _ h mg K15.nm Pr.d_is_item "is_item" _ (K15.top 12) ["value"] ["value"] _ _ _ _ _ _ _ _ _ KX G K15.sc_is_item (fun _ _ _ _ _ _ us hl => match us, hl with | [_], _ => rfl) rfl rfl K15.ch_is_item (by k_is) (by k_is) (by k_is) (by k_is)
    have s_is_line := @Py.stands_mk _ h mg K15.nm Pr.d_is_line "is_line" _ (K15.top 13) ["value", "item"] ["value"] _ _ _ _ _ _ _ _ _ KX G K15.sc_is_line (fun _ _ _ _ _ _ us hl => match us, hl with | [_], _ => rfl) rfl rfl K15.ch_is_line (by k_is) (by k_is) (by k_is) (by k_is)
    have s_is_command := @Py.stands_mk _ h mg K15.nm Pr.d_is_command "is_command" _ (K15.top 14) ["value", "word", "item", "other"] ["value"] _ _ _ _ _ _ _ _ _ KX G K15.sc_is_command (fun _ _ _ _ _ _ us hl => match us, hl with | [_], _ => rfl) rfl rfl K15.ch_is_command (by k_is) (by k_is) (by k_is) (by k_is)
    have s_is_script := @Py.stands_mk _ h mg K15.nm Pr.d_is_script "is_script" _ (K15.top 15) ["value", "command"] ["value"] _ _ _ _ _ _ _ _ _ KX G K15.sc_is_script (fun _ _ _ _ _ _ us hl => match us, hl with | [_], _ => rfl) rfl rfl K15.ch_is_script (by k_is) (by k_is) (by k_is) (by k_is)
    have s_require_line := @Py.stands_mk _ h mg K15.nm Pr.d_require_line "require_line" _ (K15.top 16) ["value"] ["value"] _ _ _ _ _ _ _ _ _ KX G K15.sc_require_line (fun _ _ _ _ _ _ us hl => match us, hl with | [_], _ => rfl) rfl rfl K15.ch_require_line (by k_is) (by k_is) (by k_is) (by k_is)
    have s_require_script := @Py.stands_mk _ h mg K15.nm Pr.d_require_script "require_script" _ (K15.top 17) ["value"] ["value"] _ _ _ _ _ _ _ _ _ KX G K15.sc_require_script (fun _ _ _ _ _ _ us hl => match us, hl with | [_], _ => rfl) rfl rfl K15.ch_require_script (by k_is) (by k_is) (by k_is) (by k_is)
    have s_require_times := @Py.stands_mk _ h mg K15.nm Pr.d_require_times "require_times" _ (K15.top 18) ["value", "low", "high"] ["value", "low", "high"] _ _ _ _ _ _ _ _ _ KX G K15.sc_require_times (fun _ _ _ _ _ _ us hl => match us, hl with | [_, _, _], _ => rfl) rfl rfl K15.ch_require_times (by k_is) (by k_is) (by k_is) (by k_is)
    have s_require_there := @Py.stands_mk _ h mg K15.nm Pr.d_require_there "require_there" _ (K15.top 19) ["line", "items", "item"] ["line", "items"] _ _ _ _ _ _ _ _ _ KX G K15.sc_require_there (fun _ _ _ _ _ _ us hl => match us, hl with | [_, _], _ => rfl) rfl rfl K15.ch_require_there (by k_is) (by k_is) (by k_is) (by k_is)
    have s_named_in := @Py.stands_mk _ h mg K15.nm Pr.d_named_in "named_in" _ (K15.top 20) ["script", "found", "word", "item", "other"] ["script"] _ _ _ _ _ _ _ _ _ KX G K15.sc_named_in (fun _ _ _ _ _ _ us hl => match us, hl with | [_], _ => rfl) rfl rfl K15.ch_named_in (by k_is) (by k_is) (by k_is) (by k_is)
    have s_moved_in_block := @Py.stands_mk _ h mg K15.nm Pr.d_moved_in_block "moved_in_block" _ (K15.top 22) ["block", "word", "item", "other", "place"] ["block", "word", "item", "other"] _ _ _ _ _ _ _ _ _ KX G K15.sc_moved_in_block (fun _ _ _ _ _ _ us hl => match us, hl with | [_, _, _, _], _ => rfl) rfl rfl K15.ch_moved_in_block (by k_is) (by k_is) (by k_is) (by k_is)
    have s_blocks_in := @Py.stands_mk _ h mg K15.nm Pr.d_blocks_in "blocks_in" _ (K15.top 23) ["script", "found", "item", "word", "other", "key", "block", "place"] ["script"] _ _ _ _ _ _ _ _ _ KX G K15.sc_blocks_in (fun _ _ _ _ _ _ us hl => match us, hl with | [_], _ => rfl) rfl rfl K15.ch_blocks_in (by k_is) (by k_is) (by k_is) (by k_is)
    have s_block_in := @Py.stands_mk _ h mg K15.nm Pr.d_block_in "block_in" _ (K15.top 24) ["blocks", "item"] ["blocks", "item"] _ _ _ _ _ _ _ _ _ KX G K15.sc_block_in (fun _ _ _ _ _ _ us hl => match us, hl with | [_, _], _ => rfl) rfl rfl K15.ch_block_in (by k_is) (by k_is) (by k_is) (by k_is)
    have s_joined_in := @Py.stands_mk _ h mg K15.nm Pr.d_joined_in "joined_in" _ (K15.top 25) ["blocks", "other", "found", "key", "row", "item"] ["blocks", "other"] _ _ _ _ _ _ _ _ _ KX G K15.sc_joined_in (fun _ _ _ _ _ _ us hl => match us, hl with | [_, _], _ => rfl) rfl rfl K15.ch_joined_in (by k_is) (by k_is) (by k_is) (by k_is)
    have s_line_by := @Py.stands_mk _ h mg K15.nm Pr.d_line_by "line_by" _ (K15.top 26) ["line", "blocks", "found", "item"] ["line", "blocks"] _ _ _ _ _ _ _ _ _ KX G K15.sc_line_by (fun _ _ _ _ _ _ us hl => match us, hl with | [_, _], _ => rfl) rfl rfl K15.ch_line_by (by k_is) (by k_is) (by k_is) (by k_is)
    have s_powers := @Py.stands_mk _ h mg K15.nm Pr.d_powers "powers" _ (K15.top 29) ["blocks", "times", "found", "item"] ["blocks", "times"] _ _ _ _ _ _ _ _ _ KX G K15.sc_powers (fun _ _ _ _ _ _ us hl => match us, hl with | [_, _], _ => rfl) rfl rfl K15.ch_powers (by k_is) (by k_is) (by k_is) (by k_is)
    have s__law_well := @Py.stands_mk _ h mg K15.nm FB.d__law_well "_law_well" _ (K15.top 32) ["script", "k", "cell"] ["script", "k"] _ _ _ _ _ _ _ _ _ KX G K15.sc__law_well (fun _ _ _ _ _ _ us hl => match us, hl with | [_, _], _ => rfl) rfl rfl K15.ch__law_well (by k_is) (by k_is) (by k_is) (by k_is)
    have s__law_pail := @Py.stands_mk _ h mg K15.nm FB.d__law_pail "_law_pail" _ (K15.top 33) ["well", "bound", "found", "mixed"] ["well", "bound"] _ _ _ _ _ _ _ _ _ KX G K15.sc__law_pail (fun _ _ _ _ _ _ us hl => match us, hl with | [_, _], _ => rfl) rfl rfl K15.ch__law_pail (by k_is) (by k_is) (by k_is) (by k_is)
    have s__law_mixed := @Py.stands_mk _ h mg K15.nm FB.d__law_mixed "_law_mixed" _ (K15.top 34) ["well", "things", "left", "k"] ["well", "things"] _ _ _ _ _ _ _ _ _ KX G K15.sc__law_mixed (fun _ _ _ _ _ _ us hl => match us, hl with | [_, _], _ => rfl) rfl rfl K15.ch__law_mixed (by k_is) (by k_is) (by k_is) (by k_is)
    have s__law_commands := @Py.stands_mk _ h mg K15.nm FB.d__law_commands "_law_commands" _ (K15.top 35) ["well", "many", "most", "items", "count", "way", "found", "turn", "at", "step", "to", "word"] ["well", "many", "most"] _ _ _ _ _ _ _ _ _ KX G K15.sc__law_commands (fun _ _ _ _ _ _ us hl => match us, hl with | [_, _, _], _ => rfl) rfl rfl K15.ch__law_commands (by k_is) (by k_is) (by k_is) (by k_is)
    have s__law_named := @Py.stands_mk _ h mg K15.nm FB.d__law_named "_law_named" _ (K15.top 36) ["commands", "found", "word", "item", "other"] ["commands"] _ _ _ _ _ _ _ _ _ KX G K15.sc__law_named (fun _ _ _ _ _ _ us hl => match us, hl with | [_], _ => rfl) rfl rfl K15.ch__law_named (by k_is) (by k_is) (by k_is) (by k_is)
    have s__law_line := @Py.stands_mk _ h mg K15.nm FB.d__law_line "_law_line" _ (K15.top 37) ["well", "own", "others", "item", "few"] ["well", "own"] _ _ _ _ _ _ _ _ _ KX G K15.sc__law_line (fun _ _ _ _ _ _ us hl => match us, hl with | [_, _], _ => rfl) rfl rfl K15.ch__law_line (by k_is) (by k_is) (by k_is) (by k_is)
    have s__law_shifted := @Py.stands_mk _ h mg K15.nm FB.d__law_shifted "_law_shifted" _ (K15.top 38) ["line_here", "commands", "found", "word", "item", "other"] ["line_here", "commands"] _ _ _ _ _ _ _ _ _ KX G K15.sc__law_shifted (fun _ _ _ _ _ _ us hl => match us, hl with | [_, _], _ => rfl) rfl rfl K15.ch__law_shifted (by k_is) (by k_is) (by k_is) (by k_is)
    have s__law_split := @Py.stands_mk _ h mg K15.nm FB.d__law_split "_law_split" _ (K15.top 39) ["commands", "found", "item", "word", "other", "home", "start", "row", "goal"] ["commands"] _ _ _ _ _ _ _ _ _ KX G K15.sc__law_split (fun _ _ _ _ _ _ us hl => match us, hl with | [_], _ => rfl) rfl rfl K15.ch__law_split (by k_is) (by k_is) (by k_is) (by k_is)
    have s__law_goes := @Py.stands_mk _ h mg K15.nm FB.d__law_goes "_law_goes" _ (K15.top 40) ["split_here", "found", "start", "item"] ["split_here"] _ _ _ _ _ _ _ _ _ KX G K15.sc__law_goes (fun _ _ _ _ _ _ us hl => match us, hl with | [_], _ => rfl) rfl rfl K15.ch__law_goes (by k_is) (by k_is) (by k_is) (by k_is)
    have s__law_again := @Py.stands_mk _ h mg K15.nm FB.d__law_again "_law_again" _ (K15.top 41) ["one", "two", "found", "start", "row", "item"] ["one", "two"] _ _ _ _ _ _ _ _ _ KX G K15.sc__law_again (fun _ _ _ _ _ _ us hl => match us, hl with | [_, _], _ => rfl) rfl rfl K15.ch__law_again (by k_is) (by k_is) (by k_is) (by k_is)
    have s__law_steps := @Py.stands_mk _ h mg K15.nm FB.d__law_steps "_law_steps" _ (K15.top 42) ["split_here", "goes", "ringed", "longest", "item", "here", "turn", "many"] ["split_here"] _ _ _ _ _ _ _ _ _ KX G K15.sc__law_steps (fun _ _ _ _ _ _ us hl => match us, hl with | [_], _ => rfl) rfl rfl K15.ch__law_steps (by k_is) (by k_is) (by k_is) (by k_is)
    have s__law_far := @Py.stands_mk _ h mg K15.nm FB.d__law_far "_law_far" _ (K15.top 43) ["split_here", "many", "goes", "longest", "found", "item", "turn", "back", "later", "ring", "here"] ["split_here", "many"] _ _ _ _ _ _ _ _ _ KX G K15.sc__law_far (fun _ _ _ _ _ _ us hl => match us, hl with | [_, _], _ => rfl) rfl rfl K15.ch__law_far (by k_is) (by k_is) (by k_is) (by k_is)
    have s__law_laid := @Py.stands_mk _ h mg K15.nm K15.d__law_laid "_law_laid" _ (K15.top 44) ["line_here", "split_here", "found", "item"] ["line_here", "split_here"] _ _ _ _ _ _ _ _ _ KX G K15.sc__law_laid (fun _ _ _ _ _ _ us hl => match us, hl with | [_, _], _ => rfl) rfl rfl K15.ch__law_laid (by k_is) (by k_is) (by k_is) (by k_is)
    have s__law_right := @Py.stands_mk _ h mg K15.nm K15.d__law_right "_law_right" _ (K15.top 45) ["well", "commands", "line_here", "split_here", "kept", "due", "turn", "far", "many", "right", "again"] ["well", "commands"] _ _ _ _ _ _ _ _ _ KX G K15.sc__law_right (fun _ _ _ _ _ _ us hl => match us, hl with | [_, _], _ => rfl) rfl rfl K15.ch__law_right (by k_is) (by k_is) (by k_is) (by k_is)
    have s_law := @Py.stands_mk _ h mg K15.nm K15.d_law "law" _ (K15.top 46) ["script", "k", "well", "many", "most", "commands"] ["script"] _ _ _ _ _ _ _ _ _ KX G K15.sc_law (fun _ _ _ _ _ _ us hl => match us, hl with | [_], _ => rfl) rfl rfl K15.ch_law (by k_is) (by k_is) (by k_is) (by k_is)
    have s_after_times := Py.stands_kw (n := K15.nm) (d := Pr.d_after_times) (x := "after_times") (q := "times") (st := K15.top 30) (N := ["line", "script", "times"]) (ps := ["line", "script", "times"]) (m := 2) (i := 1) KX G K15.sc_after_times (fun _ _ _ _ _ us w hl => match us, hl with | [_, _], _ => rfl) (fun _ _ _ _ _ us w hl => match us, hl with | [_, _], _ => ⟨_, _, _, _, _, _, rfl, rfl, rfl⟩) rfl rfl rfl K15.ch_after_times (by k_is) (by k_is) (by k_is) (by k_is) (by k_is)
    have x_NoLine := @Py.exc_mk _ h mg "NoLine" _ KX G (by k_is) (by k_exc) (by k_is) (by k_is) (by k_is)
    have x_NoScript := @Py.exc_mk _ h mg "NoScript" _ KX G (by k_is) (by k_exc) (by k_is) (by k_is) (by k_is)
    have x_NoTimes := @Py.exc_mk _ h mg "NoTimes" _ KX G (by k_is) (by k_exc) (by k_is) (by k_is) (by k_is)
    have x_Missing := @Py.exc_mk _ h mg "Missing" _ KX G (by k_is) (by k_exc) (by k_is) (by k_is) (by k_is)
    have c_ITEMS := @Py.con_int _ h mg "ITEMS" (60) _ K15.tb.C KX G (by rfl) (by k_is)
    have c_MOST_COMMANDS := @Py.con_int _ h mg "MOST_COMMANDS" (200) _ K15.tb.C KX G (by rfl) (by k_is)
    have c_WORDS := Py.con_strs (x := "WORDS") (l := ["behind", "before"]) (con := K15.tb.C) KX G (by rfl) (by k_is) (by k_is) (by decide) (.cons ⟨_, rfl⟩ (.cons ⟨_, rfl⟩ (.nil)))
    have c_MOST_TIMES := @Py.con_int _ h mg "MOST_TIMES" (1000000000000000000000000000000) _ K15.tb.C KX G (by rfl) (by k_is)
    have bl : ∀ x ∈ Py.bltAll, mg x = none := Py.al_cons (PySem.W.mg_none_of KX G (by k_is)) (Py.al_cons (PySem.W.mg_none_of KX G (by k_is)) (Py.al_cons (PySem.W.mg_none_of KX G (by k_is)) (Py.al_cons (PySem.W.mg_none_of KX G (by k_is)) (Py.al_cons (PySem.W.mg_none_of KX G (by k_is)) (Py.al_cons (PySem.W.mg_none_of KX G (by k_is)) (Py.al_cons (PySem.W.mg_none_of KX G (by k_is)) (Py.al_cons (PySem.W.mg_none_of KX G (by k_is)) (Py.al_cons (PySem.W.mg_none_of KX G (by k_is)) (Py.al_cons (PySem.W.mg_none_of KX G (by k_is)) (Py.al_cons (PySem.W.mg_none_of KX G (by k_is)) (Py.al_cons (PySem.W.mg_none_of KX G (by k_is)) (Py.al_cons (PySem.W.mg_none_of KX G (by k_is)) (Py.al_cons (PySem.W.mg_none_of KX G (by k_is)) (Py.al_cons (PySem.W.mg_none_of KX G (by k_is)) (Py.al_cons (PySem.W.mg_none_of KX G (by k_is)) (Py.al_cons (PySem.W.mg_none_of KX G (by k_is)) (Py.al_cons (PySem.W.mg_none_of KX G (by k_is)) (Py.al_cons (PySem.W.mg_none_of KX G (by k_is)) Py.al_nil))))))))))))))))))
    have hx : ∀ x ∈ K15.nm.excs, Py.ExcOk _ _ mg x := Py.al_cons x_NoLine (Py.al_cons x_NoScript (Py.al_cons x_NoTimes (Py.al_cons x_Missing Py.al_nil)))
    have hc : ∀ x ∈ K15.nm.cons, ∃ d u v, K15.tb.C x = some d ∧ mg x = some u ∧ L2.RelV v u ∧ ∀ H, Py.RelD _ H d v := Py.al_cons c_ITEMS (Py.al_cons c_MOST_COMMANDS (Py.al_cons c_WORDS (Py.al_cons c_MOST_TIMES Py.al_nil)))
    have hd : ∀ x ∈ K15.nm.defs, ∃ d, K15.tb.T x = some d ∧ Py.Stands K15.nm d _ mg x := Py.al_cons ⟨_, K15.t_is_int, _, _, _, s_is_int.choose_spec.1, s_is_int.choose_spec.2.1⟩ (Py.al_cons ⟨_, K15.t_in_range, _, _, _, s_in_range.choose_spec.1, s_in_range.choose_spec.2.1⟩ (Py.al_cons ⟨_, K15.t_is_item, _, _, _, s_is_item.choose_spec.1, s_is_item.choose_spec.2.1⟩ (Py.al_cons ⟨_, K15.t_is_line, _, _, _, s_is_line.choose_spec.1, s_is_line.choose_spec.2.1⟩ (Py.al_cons ⟨_, K15.t_is_command, _, _, _, s_is_command.choose_spec.1, s_is_command.choose_spec.2.1⟩ (Py.al_cons ⟨_, K15.t_is_script, _, _, _, s_is_script.choose_spec.1, s_is_script.choose_spec.2.1⟩ (Py.al_cons ⟨_, K15.t_require_line, _, _, _, s_require_line.choose_spec.1, s_require_line.choose_spec.2.1⟩ (Py.al_cons ⟨_, K15.t_require_script, _, _, _, s_require_script.choose_spec.1, s_require_script.choose_spec.2.1⟩ (Py.al_cons ⟨_, K15.t_require_times, _, _, _, s_require_times.choose_spec.1, s_require_times.choose_spec.2.1⟩ (Py.al_cons ⟨_, K15.t_require_there, _, _, _, s_require_there.choose_spec.1, s_require_there.choose_spec.2.1⟩ (Py.al_cons ⟨_, K15.t_named_in, _, _, _, s_named_in.choose_spec.1, s_named_in.choose_spec.2.1⟩ (Py.al_cons ⟨_, K15.t_moved_in_block, _, _, _, s_moved_in_block.choose_spec.1, s_moved_in_block.choose_spec.2.1⟩ (Py.al_cons ⟨_, K15.t_blocks_in, _, _, _, s_blocks_in.choose_spec.1, s_blocks_in.choose_spec.2.1⟩ (Py.al_cons ⟨_, K15.t_block_in, _, _, _, s_block_in.choose_spec.1, s_block_in.choose_spec.2.1⟩ (Py.al_cons ⟨_, K15.t_joined_in, _, _, _, s_joined_in.choose_spec.1, s_joined_in.choose_spec.2.1⟩ (Py.al_cons ⟨_, K15.t_line_by, _, _, _, s_line_by.choose_spec.1, s_line_by.choose_spec.2.1⟩ (Py.al_cons ⟨_, K15.t_powers, _, _, _, s_powers.choose_spec.1, s_powers.choose_spec.2.1⟩ (Py.al_cons ⟨_, K15.t__law_well, _, _, _, s__law_well.choose_spec.1, s__law_well.choose_spec.2.1⟩ (Py.al_cons ⟨_, K15.t__law_pail, _, _, _, s__law_pail.choose_spec.1, s__law_pail.choose_spec.2.1⟩ (Py.al_cons ⟨_, K15.t__law_mixed, _, _, _, s__law_mixed.choose_spec.1, s__law_mixed.choose_spec.2.1⟩ (Py.al_cons ⟨_, K15.t__law_commands, _, _, _, s__law_commands.choose_spec.1, s__law_commands.choose_spec.2.1⟩ (Py.al_cons ⟨_, K15.t__law_named, _, _, _, s__law_named.choose_spec.1, s__law_named.choose_spec.2.1⟩ (Py.al_cons ⟨_, K15.t__law_line, _, _, _, s__law_line.choose_spec.1, s__law_line.choose_spec.2.1⟩ (Py.al_cons ⟨_, K15.t__law_shifted, _, _, _, s__law_shifted.choose_spec.1, s__law_shifted.choose_spec.2.1⟩ (Py.al_cons ⟨_, K15.t__law_split, _, _, _, s__law_split.choose_spec.1, s__law_split.choose_spec.2.1⟩ (Py.al_cons ⟨_, K15.t__law_goes, _, _, _, s__law_goes.choose_spec.1, s__law_goes.choose_spec.2.1⟩ (Py.al_cons ⟨_, K15.t__law_again, _, _, _, s__law_again.choose_spec.1, s__law_again.choose_spec.2.1⟩ (Py.al_cons ⟨_, K15.t__law_steps, _, _, _, s__law_steps.choose_spec.1, s__law_steps.choose_spec.2.1⟩ (Py.al_cons ⟨_, K15.t__law_far, _, _, _, s__law_far.choose_spec.1, s__law_far.choose_spec.2.1⟩ (Py.al_cons ⟨_, K15.t__law_laid, _, _, _, s__law_laid.choose_spec.1, s__law_laid.choose_spec.2.1⟩ (Py.al_cons ⟨_, K15.t__law_right, _, _, _, s__law_right.choose_spec.1, s__law_right.choose_spec.2.1⟩ (Py.al_cons ⟨_, K15.t_law, _, _, _, s_law.choose_spec.1, s_law.choose_spec.2.1⟩ Py.al_nil)))))))))))))))))))))))))))))))
    have hk : ∀ q ∈ K15.nm.kws, ∃ d, K15.tb.T q.1 = some d ∧ Py.StandsF K15.nm d _ mg q.1 q.2.1 [q.2.2] [] := Py.al_cons ⟨_, K15.t_after_times, s_after_times.1⟩ Py.al_nil
    have hf : ∀ q ∈ K15.nm.dfl, ∃ d, K15.tb.T q.1 = some d ∧ Py.StandsF K15.nm d _ mg q.1 q.2.1 [] [q.2.2] := Py.al_cons ⟨_, K15.t_after_times, s_after_times.2⟩ Py.al_nil
    obtain ⟨fd, S, _, hb⟩ := s_law
    have ef := hmg.symm.trans S.hm
    cases ef
    exact ⟨Py.clOf mg, ⟨rfl, bl, hc, hx⟩, ⟨hd, hk, hf⟩, _, fd, K15.t_law, S, fun s u => hb s [u] rfl⟩
#print axioms PySem.Challenge.cw_moveafter_k15_repeated_on_lines_holds
